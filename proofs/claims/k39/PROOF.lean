import PyProof.Rows.All
import Wide.All
import OpenK.AllK
import Wide.FinOn
import HandS.ForMost
import HandS.Exc
import HandS.WordsExc
import HandS.Defaults
import HandS.ExcInit
import HandS.ExcField
import HandS.ExcIs
import HandS.HeadEnd
import HandS.HeadHook1
import HandS.HeadHook2
import HandS.HeadHook3
import HandS.HeadHook4
import HandS.EndTab
import HandS.HeadWalk
import PySem.Challenge.RW_unwindrows_k39_whole_wrong_texts_of_tabl
import HandS.ExcCtx
import HandS.IsInst
import HandS.ExcInitHot
import KE.KExcIs
import KE.GoesEnum
import KE.KDictZip
import HandS.Text
import KE.IntTextLaws
import KE.KUnpackStar
import PyProof.StrOps2
import HandS.CallLocal
import HandS.RaiseMore
import HandS.Lambda
import Lean
import HandS.Head0
import HandS.Head1
import HandS.Head2
import KE.KStateDown
set_option Elab.async false
set_option linter.all false
set_option maxRecDepth 100000
set_option maxHeartbeats 0
namespace K39
open PySem PySem.Spec PyProof.Rows L2
/-! ### the text by places -/
def topS (i : Nat) : Stmt := PySem.Challenge.pw_unwindrows_k39_whole_wrong_texts_of_tabl.main.body.getD i (.Pass ⟨0, 0, 0, 0⟩)

abbrev sIsInteger : Stmt := topS 20
abbrev sIsRegister : Stmt := topS 21
abbrev sIsBasis : Stmt := topS 22
abbrev sIsName : Stmt := topS 23
abbrev sIsFinding : Stmt := topS 29
abbrev sIsWhere : Stmt := topS 30
abbrev sIsRule : Stmt := topS 31
abbrev sNeedRows : Stmt := topS 33
abbrev sNeedTable : Stmt := topS 34
abbrev sNumberTold : Stmt := topS 42
abbrev sPartTold : Stmt := topS 43
abbrev sWhereTold : Stmt := topS 44
abbrev sLinesOf : Stmt := topS 45
abbrev sToldAll : Stmt := topS 46
abbrev sRowTold : Stmt := topS 47
abbrev sAllTold : Stmt := topS 48
abbrev sReadTable : Stmt := topS 49
abbrev sLawMixed : Stmt := topS 51
abbrev sLawBegin : Stmt := topS 52
abbrev sLawDraw : Stmt := topS 53
abbrev sLawOf : Stmt := topS 54
abbrev sLawRaised : Stmt := topS 55
abbrev sLawWhere : Stmt := topS 56
abbrev sLawDrawnRule : Stmt := topS 57
abbrev sLawDrawnTable : Stmt := topS 58
abbrev sLawIsNumber : Stmt := topS 59
abbrev sLawFits : Stmt := topS 60
abbrev sLawSorts : Stmt := topS 61
abbrev sLawLineFault : Stmt := topS 62
abbrev sLawWhereRight : Stmt := topS 63
abbrev sLawDue : Stmt := topS 64
abbrev sLawWords : Stmt := topS 65
abbrev sLawSpoilt : Stmt := topS 66
abbrev sLaw : Stmt := topS 67
abbrev sIBadTable : Stmt := inClass (topS 6) 0
abbrev sIBadText : Stmt := inClass (topS 10) 0
def dIsInteger : He.DefD := ⟨("is_integer", none), "is_integer", "is_integer", defArgs sIsInteger, defBody sIsInteger, defScope sIsInteger, [], []⟩
def dIsRegister : He.DefD := ⟨("is_register", none), "is_register", "is_register", defArgs sIsRegister, defBody sIsRegister, defScope sIsRegister, [], []⟩
def dIsBasis : He.DefD := ⟨("is_basis", none), "is_basis", "is_basis", defArgs sIsBasis, defBody sIsBasis, defScope sIsBasis, [], []⟩
def dIsName : He.DefD := ⟨("is_name", none), "is_name", "is_name", defArgs sIsName, defBody sIsName, defScope sIsName, [], []⟩
def dIsFinding : He.DefD := ⟨("is_finding", none), "is_finding", "is_finding", defArgs sIsFinding, defBody sIsFinding, defScope sIsFinding, [], []⟩
def dIsWhere : He.DefD := ⟨("is_where", none), "is_where", "is_where", defArgs sIsWhere, defBody sIsWhere, defScope sIsWhere, [], []⟩
def dIsRule : He.DefD := ⟨("is_rule", none), "is_rule", "is_rule", defArgs sIsRule, defBody sIsRule, defScope sIsRule, [], []⟩
def dNeedRows : He.DefD := ⟨("need_rows", none), "need_rows", "need_rows", defArgs sNeedRows, defBody sNeedRows, defScope sNeedRows, [], []⟩
def dNeedTable : He.DefD := ⟨("need_table", none), "need_table", "need_table", defArgs sNeedTable, defBody sNeedTable, defScope sNeedTable, [], []⟩
def dNumberTold : He.DefD := ⟨("number_told", none), "number_told", "number_told", defArgs sNumberTold, defBody sNumberTold, defScope sNumberTold, [], []⟩
def dPartTold : He.DefD := ⟨("part_told", none), "part_told", "part_told", defArgs sPartTold, defBody sPartTold, defScope sPartTold, [], []⟩
def dWhereTold : He.DefD := ⟨("where_told", none), "where_told", "where_told", defArgs sWhereTold, defBody sWhereTold, defScope sWhereTold, [], []⟩
def dLinesOf : He.DefD := ⟨("lines_of", none), "lines_of", "lines_of", defArgs sLinesOf, defBody sLinesOf, defScope sLinesOf, [], []⟩
def dToldAll : He.DefD := ⟨("told_all", none), "told_all", "told_all", defArgs sToldAll, defBody sToldAll, defScope sToldAll, [], []⟩
def dRowTold : He.DefD := ⟨("row_told", none), "row_told", "row_told", defArgs sRowTold, defBody sRowTold, defScope sRowTold, [], []⟩
def dAllTold : He.DefD := ⟨("all_told", none), "all_told", "all_told", defArgs sAllTold, defBody sAllTold, defScope sAllTold, [], []⟩
def dReadTable : He.DefD := ⟨("read_table", none), "read_table", "read_table", defArgs sReadTable, defBody sReadTable, defScope sReadTable, [], []⟩
def dLawMixed : He.DefD := ⟨("_law_mixed", none), "_law_mixed", "_law_mixed", defArgs sLawMixed, defBody sLawMixed, defScope sLawMixed, [], []⟩
def dLawBegin : He.DefD := ⟨("_law_begin", none), "_law_begin", "_law_begin", defArgs sLawBegin, defBody sLawBegin, defScope sLawBegin, [], []⟩
def dLawDraw : He.DefD := ⟨("_law_draw", none), "_law_draw", "_law_draw", defArgs sLawDraw, defBody sLawDraw, defScope sLawDraw, [], []⟩
def dLawOf : He.DefD := ⟨("_law_of", none), "_law_of", "_law_of", defArgs sLawOf, defBody sLawOf, defScope sLawOf, [], []⟩
def dLawRaised : He.DefD := ⟨("_law_raised", none), "_law_raised", "_law_raised", defArgs sLawRaised, defBody sLawRaised, defScope sLawRaised, [], []⟩
def dLawWhere : He.DefD := ⟨("_law_where", none), "_law_where", "_law_where", defArgs sLawWhere, defBody sLawWhere, defScope sLawWhere, [], []⟩
def dLawDrawnRule : He.DefD := ⟨("_law_drawn_rule", none), "_law_drawn_rule", "_law_drawn_rule", defArgs sLawDrawnRule, defBody sLawDrawnRule, defScope sLawDrawnRule, [], []⟩
def dLawDrawnTable : He.DefD := ⟨("_law_drawn_table", none), "_law_drawn_table", "_law_drawn_table", defArgs sLawDrawnTable, defBody sLawDrawnTable, defScope sLawDrawnTable, [], []⟩
def dLawIsNumber : He.DefD := ⟨("_law_is_number", none), "_law_is_number", "_law_is_number", defArgs sLawIsNumber, defBody sLawIsNumber, defScope sLawIsNumber, [], []⟩
def dLawFits : He.DefD := ⟨("_law_fits", none), "_law_fits", "_law_fits", defArgs sLawFits, defBody sLawFits, defScope sLawFits, [], []⟩
def dLawSorts : He.DefD := ⟨("_law_sorts", none), "_law_sorts", "_law_sorts", defArgs sLawSorts, defBody sLawSorts, defScope sLawSorts, [], []⟩
def dLawLineFault : He.DefD := ⟨("_law_line_fault", none), "_law_line_fault", "_law_line_fault", defArgs sLawLineFault, defBody sLawLineFault, defScope sLawLineFault, [], []⟩
def dLawWhereRight : He.DefD := ⟨("_law_where_right", none), "_law_where_right", "_law_where_right", defArgs sLawWhereRight, defBody sLawWhereRight, defScope sLawWhereRight, [], []⟩
def dLawDue : He.DefD := ⟨("_law_due", none), "_law_due", "_law_due", defArgs sLawDue, defBody sLawDue, defScope sLawDue, [], []⟩
def dLawWords : He.DefD := ⟨("_law_words", none), "_law_words", "_law_words", defArgs sLawWords, defBody sLawWords, defScope sLawWords, [], []⟩
def dLawSpoilt : He.DefD := ⟨("_law_spoilt", none), "_law_spoilt", "_law_spoilt", defArgs sLawSpoilt, defBody sLawSpoilt, defScope sLawSpoilt, [], []⟩
def dLaw : He.DefD := ⟨("law", none), "law", "law", defArgs sLaw, defBody sLaw, defScope sLaw, [], []⟩
def dIBadTable : He.DefD := ⟨("BadTable", some "__init__"), "__init__", "BadTable.__init__", defArgs sIBadTable, defBody sIBadTable, defScope sIBadTable, [], []⟩
def dIBadText : He.DefD := ⟨("BadText", some "__init__"), "__init__", "BadText.__init__", defArgs sIBadText, defBody sIBadText, defScope sIBadText, [], []⟩
def fn : List He.DefD := [dIsInteger, dIsRegister, dIsBasis, dIsName, dIsFinding, dIsWhere, dIsRule, dNeedRows, dNeedTable, dNumberTold, dPartTold, dWhereTold, dLinesOf, dToldAll, dRowTold, dAllTold, dReadTable, dLawMixed, dLawBegin, dLawDraw, dLawOf, dLawRaised, dLawWhere, dLawDrawnRule, dLawDrawnTable, dLawIsNumber, dLawFits, dLawSorts, dLawLineFault, dLawWhereRight, dLawDue, dLawWords, dLawSpoilt, dLaw, dIBadTable, dIBadText]
def fa : List He.Fa := [.glo "is_integer", .glo "is_register", .glo "is_basis", .glo "is_name", .glo "is_finding", .glo "is_where", .glo "is_rule", .glo "need_rows", .glo "need_table", .glo "number_told", .glo "part_told", .glo "where_told", .glo "lines_of", .glo "told_all", .glo "row_told", .glo "all_told", .glo "read_table", .glo "_law_mixed", .glo "_law_begin", .glo "_law_draw", .glo "_law_of", .glo "_law_raised", .glo "_law_where", .glo "_law_drawn_rule", .glo "_law_drawn_table", .glo "_law_is_number", .glo "_law_fits", .glo "_law_sorts", .glo "_law_line_fault", .glo "_law_where_right", .glo "_law_due", .glo "_law_words", .glo "_law_spoilt", .glo "law", .glo "UnwindError", .glo "BadCode", .glo "BadPath", .glo "BadPlace", .glo "BadItem", .glo "BadTable", .glo "BadPaper", .glo "BadScript", .glo "BadHouse", .glo "BadText", .glo "TooMany", .glo "NeverThere", .glo "REGISTERS", .str "STACK" "sp", .int "MOST_CODE" 60, .int "MOST_WORDS" 64, .int "MOST_LETTERS" 8, .str "LETTERS" "abcdefghijklmnopqrstuvwxyz", .str "WORD" "word", .str "IN" "in", .glo "ITEMS", .glo "LOST", .str "BLANK" " ", .str "LINE" "\n", .str "MINUS" "-", .str "NONE" "none", .str "DIGITS" "0123456789", .int "MOST_DIGITS" 4, .free "isinstance", .free "int", .free "bool", .free "str", .free "tuple", .free "len", .free "all", .free "any", .free "enumerate", .free "zip", .free "range", .free "list", .free "min"]
def oexB (K : PySem.W.Frag) (C : Addr) : Bool := match K.lookup C with
  | some ⟨.type "type", _, .cls cd, sl⟩ => (match cd.mro, sl.toList with
    | .ref C' :: bm, [_, _, _, _, some (.builtin n), _] => C' == C && n == "ValueError.__new__" && !cd.hasDel && cd.hasDict && PySem.HandSPX.refsVE bm
    | _, _ => false)
  | _ => false
def isVal (r : Option PySem.W.CFound) (id : String) : Bool := match r with
  | some (.val (.builtin n)) => n == id
  | _ => false
def tyC (K : PySem.W.Frag) (x : Str) : Addr := He.ga K x
def exCls (K : PySem.W.Frag) (x : Str) : List Bool := [
  oexB K (He.ga K x),
  He.eqO (PySem.W.findIn K (.ref (He.ga K x)) "__setattr__") (some (some (.builtin "object.__setattr__"))),
  decide (PySem.W.typeIn K (.ref (He.ga K x)) = some (.type "type")),
  PySem.W.keepIn K (.ref (He.ga K x)),
  He.eqO (PySem.W.findIn K (.ref (He.ga K x)) "__init__") (some (some (.ref (He.ma K (He.ga K x) "__init__")))),
  decide (PySem.W.typeIn K (.ref (He.ma K (He.ga K x) "__init__")) = some (.type "function")),
  xfB K (He.ga K x),
  He.eqO (PySem.W.findIn K (.ref (He.ga K x)) "__class__") (some (some (.builtin "object.__class__"))),
  decide (PySem.W.mroIn K (He.ga K x) (.type "object") = some true),
  decide (PySem.W.exmOne K (.ref (He.ga K x)) (.ref (He.ga K "UnwindError")) = some true)]
def kit (K : PySem.W.Frag) (x y : Str) (b : Bool) : Bool := decide (PySem.W.kitOne K (.ref (He.ga K x)) (.ref (He.ga K y)) = some b)
def noat (K : PySem.W.Frag) (x f : Str) : Bool := He.eqO (PySem.W.findIn K (.ref (He.ga K x)) f) (some none)
def exl (K : PySem.W.Frag) : List (List Bool) := [
  [He.tupB K "REGISTERS" [.str "p", .str "q", .str "r", .str "s", .str "x", .str "y"], He.tupB K "ITEMS" [.str "back", .str "p", .str "q", .str "r", .str "s"], He.tupB K "LOST" [.str "lost"]],
  exCls K "BadText",
  exCls K "BadTable",
  [noat K "BadText" "line", noat K "BadText" "word", noat K "BadTable" "row", decide (PySem.W.exmOne K (.ref (He.ga K "BadText")) (.ref (He.ga K "BadText")) = some true)],
  [kit K "BadText" "BadCode" false, kit K "BadText" "BadPath" false, kit K "BadText" "BadPlace" false, kit K "BadText" "BadItem" false, kit K "BadText" "BadTable" false, kit K "BadText" "BadPaper" false, kit K "BadText" "BadScript" false,
   kit K "BadText" "BadHouse" false, kit K "BadText" "BadText" true],
  [kit K "BadTable" "BadCode" false, kit K "BadTable" "BadPath" false, kit K "BadTable" "BadPlace" false, kit K "BadTable" "BadItem" false, kit K "BadTable" "BadTable" true],
  [PySem.W.readsIn K (He.ga K "UnwindError") (.type "type"), He.eqO (PySem.W.specialIn K (.ref (He.ga K "UnwindError")) "__getattribute__") (some (some (.builtin "type.__getattribute__"))),
   isVal (PySem.W.findCls K (.ref (He.ga K "UnwindError")) (.type "type") "__init__") "ValueError.__init__", PySem.W.keepIn K (.ref (He.ga K "UnwindError"))],
  [He.eqO (PySem.W.specialIn K (.builtin "object.__class__") "__get__") (some (some (.builtin "getset_descriptor.__get__"))), decide (PySem.W.takesIn K (.builtin "object.__class__") = some true)]]
def ex (K : PySem.W.Frag) : Bool := (exl K).all fun l => l.all id
def tf : List He.Defn := [("law", none)]
end K39
set_option Elab.async false
set_option linter.all false
set_option maxRecDepth 100000
set_option maxHeartbeats 4000000
namespace K39
open PySem PySem.Spec PyProof.Rows L2
/-- what the top has left -/
structure Tx (K : PySem.W.Frag) (mg : Str → Option Value) : Prop where
  sd : He.SaysD fa fn K
  more : ex K = true
  glo : ∀ x : Str, (He.Fa.glo x).ok K = true → mg x = some (.ref (He.ga K x))
  free : ∀ x : Str, (He.Fa.free x).ok K = true → mg x = none
  int : ∀ (x : Str) (i : Int), (He.Fa.int x i).ok K = true → ∃ t, mg x = some (.int i t)
  str : ∀ x z : Str, (He.Fa.str x z).ok K = true → ∃ t, mg x = some (.str z t)
theorem tx_of {K : PySem.W.Frag} {mg : Str → Option Value} {h : Heap} {w : World} (KI : K.In h) (G : h.Ns mainGlobals mg) (c : He.SaysX fa fn [] tf ex w h K) : Tx K mg :=
  ⟨c.t.d, c.more, fun x q => He.glo_ok KI G q, fun x q => He.free_ok KI G q, fun x i q => He.int_ok KI G q, fun x z q => He.str_ok KI G q⟩
section
variable {K : PySem.W.Frag} {mg : Str → Option Value}
theorem Tx.gl (T : Tx K mg) (i : Nat) {x : Str} (h : fa[i]? = some (.glo x)) : mg x = some (.ref (He.ga K x)) := T.glo x (T.sd.fact i h)
theorem Tx.fr (T : Tx K mg) (i : Nat) {x : Str} (h : fa[i]? = some (.free x)) : mg x = none := T.free x (T.sd.fact i h)
theorem Tx.nt (T : Tx K mg) (i : Nat) {x : Str} {n : Int} (h : fa[i]? = some (.int x n)) : ∃ u, mg x = some u ∧ RelV (.int n) u := by
  obtain ⟨t, e⟩ := T.int x n (T.sd.fact i h)
  exact ⟨_, e, t, rfl⟩
theorem Tx.st (T : Tx K mg) (i : Nat) {x z : Str} (h : fa[i]? = some (.str x z)) : ∃ u, mg x = some u ∧ RelV (.str z) u := by
  obtain ⟨t, e⟩ := T.str x z (T.sd.fact i h)
  exact ⟨_, e, t, rfl⟩
theorem Tx.e (T : Tx K mg) (i j : Nat) {l : List Bool} {b : Bool} (h1 : (exl K)[i]? = some l := by rfl) (h2 : l[j]? = some b := by rfl) : b = true := by
  have z : (exl K).all (fun l => l.all id) = true := T.more
  have z1 := List.all_eq_true.mp z l (List.mem_of_getElem? h1)
  exact List.all_eq_true.mp z1 b (List.mem_of_getElem? h2)
theorem Tx.g_is_integer (T : Tx K mg) : mg "is_integer" = some (.ref (He.ga K "is_integer")) := T.gl 0 rfl
theorem Tx.g_is_register (T : Tx K mg) : mg "is_register" = some (.ref (He.ga K "is_register")) := T.gl 1 rfl
theorem Tx.g_is_basis (T : Tx K mg) : mg "is_basis" = some (.ref (He.ga K "is_basis")) := T.gl 2 rfl
theorem Tx.g_is_name (T : Tx K mg) : mg "is_name" = some (.ref (He.ga K "is_name")) := T.gl 3 rfl
theorem Tx.g_is_finding (T : Tx K mg) : mg "is_finding" = some (.ref (He.ga K "is_finding")) := T.gl 4 rfl
theorem Tx.g_is_where (T : Tx K mg) : mg "is_where" = some (.ref (He.ga K "is_where")) := T.gl 5 rfl
theorem Tx.g_is_rule (T : Tx K mg) : mg "is_rule" = some (.ref (He.ga K "is_rule")) := T.gl 6 rfl
theorem Tx.g_need_rows (T : Tx K mg) : mg "need_rows" = some (.ref (He.ga K "need_rows")) := T.gl 7 rfl
theorem Tx.g_need_table (T : Tx K mg) : mg "need_table" = some (.ref (He.ga K "need_table")) := T.gl 8 rfl
theorem Tx.g_number_told (T : Tx K mg) : mg "number_told" = some (.ref (He.ga K "number_told")) := T.gl 9 rfl
theorem Tx.g_part_told (T : Tx K mg) : mg "part_told" = some (.ref (He.ga K "part_told")) := T.gl 10 rfl
theorem Tx.g_where_told (T : Tx K mg) : mg "where_told" = some (.ref (He.ga K "where_told")) := T.gl 11 rfl
theorem Tx.g_lines_of (T : Tx K mg) : mg "lines_of" = some (.ref (He.ga K "lines_of")) := T.gl 12 rfl
theorem Tx.g_told_all (T : Tx K mg) : mg "told_all" = some (.ref (He.ga K "told_all")) := T.gl 13 rfl
theorem Tx.g_row_told (T : Tx K mg) : mg "row_told" = some (.ref (He.ga K "row_told")) := T.gl 14 rfl
theorem Tx.g_all_told (T : Tx K mg) : mg "all_told" = some (.ref (He.ga K "all_told")) := T.gl 15 rfl
theorem Tx.g_read_table (T : Tx K mg) : mg "read_table" = some (.ref (He.ga K "read_table")) := T.gl 16 rfl
theorem Tx.g__law_mixed (T : Tx K mg) : mg "_law_mixed" = some (.ref (He.ga K "_law_mixed")) := T.gl 17 rfl
theorem Tx.g__law_begin (T : Tx K mg) : mg "_law_begin" = some (.ref (He.ga K "_law_begin")) := T.gl 18 rfl
theorem Tx.g__law_draw (T : Tx K mg) : mg "_law_draw" = some (.ref (He.ga K "_law_draw")) := T.gl 19 rfl
theorem Tx.g__law_of (T : Tx K mg) : mg "_law_of" = some (.ref (He.ga K "_law_of")) := T.gl 20 rfl
theorem Tx.g__law_raised (T : Tx K mg) : mg "_law_raised" = some (.ref (He.ga K "_law_raised")) := T.gl 21 rfl
theorem Tx.g__law_where (T : Tx K mg) : mg "_law_where" = some (.ref (He.ga K "_law_where")) := T.gl 22 rfl
theorem Tx.g__law_drawn_rule (T : Tx K mg) : mg "_law_drawn_rule" = some (.ref (He.ga K "_law_drawn_rule")) := T.gl 23 rfl
theorem Tx.g__law_drawn_table (T : Tx K mg) : mg "_law_drawn_table" = some (.ref (He.ga K "_law_drawn_table")) := T.gl 24 rfl
theorem Tx.g__law_is_number (T : Tx K mg) : mg "_law_is_number" = some (.ref (He.ga K "_law_is_number")) := T.gl 25 rfl
theorem Tx.g__law_fits (T : Tx K mg) : mg "_law_fits" = some (.ref (He.ga K "_law_fits")) := T.gl 26 rfl
theorem Tx.g__law_sorts (T : Tx K mg) : mg "_law_sorts" = some (.ref (He.ga K "_law_sorts")) := T.gl 27 rfl
theorem Tx.g__law_line_fault (T : Tx K mg) : mg "_law_line_fault" = some (.ref (He.ga K "_law_line_fault")) := T.gl 28 rfl
theorem Tx.g__law_where_right (T : Tx K mg) : mg "_law_where_right" = some (.ref (He.ga K "_law_where_right")) := T.gl 29 rfl
theorem Tx.g__law_due (T : Tx K mg) : mg "_law_due" = some (.ref (He.ga K "_law_due")) := T.gl 30 rfl
theorem Tx.g__law_words (T : Tx K mg) : mg "_law_words" = some (.ref (He.ga K "_law_words")) := T.gl 31 rfl
theorem Tx.g__law_spoilt (T : Tx K mg) : mg "_law_spoilt" = some (.ref (He.ga K "_law_spoilt")) := T.gl 32 rfl
theorem Tx.g_law (T : Tx K mg) : mg "law" = some (.ref (He.ga K "law")) := T.gl 33 rfl
theorem Tx.g_UnwindError (T : Tx K mg) : mg "UnwindError" = some (.ref (He.ga K "UnwindError")) := T.gl 34 rfl
theorem Tx.g_BadCode (T : Tx K mg) : mg "BadCode" = some (.ref (He.ga K "BadCode")) := T.gl 35 rfl
theorem Tx.g_BadPath (T : Tx K mg) : mg "BadPath" = some (.ref (He.ga K "BadPath")) := T.gl 36 rfl
theorem Tx.g_BadPlace (T : Tx K mg) : mg "BadPlace" = some (.ref (He.ga K "BadPlace")) := T.gl 37 rfl
theorem Tx.g_BadItem (T : Tx K mg) : mg "BadItem" = some (.ref (He.ga K "BadItem")) := T.gl 38 rfl
theorem Tx.g_BadTable (T : Tx K mg) : mg "BadTable" = some (.ref (He.ga K "BadTable")) := T.gl 39 rfl
theorem Tx.g_BadPaper (T : Tx K mg) : mg "BadPaper" = some (.ref (He.ga K "BadPaper")) := T.gl 40 rfl
theorem Tx.g_BadScript (T : Tx K mg) : mg "BadScript" = some (.ref (He.ga K "BadScript")) := T.gl 41 rfl
theorem Tx.g_BadHouse (T : Tx K mg) : mg "BadHouse" = some (.ref (He.ga K "BadHouse")) := T.gl 42 rfl
theorem Tx.g_BadText (T : Tx K mg) : mg "BadText" = some (.ref (He.ga K "BadText")) := T.gl 43 rfl
theorem Tx.g_TooMany (T : Tx K mg) : mg "TooMany" = some (.ref (He.ga K "TooMany")) := T.gl 44 rfl
theorem Tx.g_NeverThere (T : Tx K mg) : mg "NeverThere" = some (.ref (He.ga K "NeverThere")) := T.gl 45 rfl
theorem Tx.g_REGISTERS (T : Tx K mg) : mg "REGISTERS" = some (.ref (He.ga K "REGISTERS")) := T.gl 46 rfl
theorem Tx.g_STACK (T : Tx K mg) : ∃ u, mg "STACK" = some u ∧ RelV (.str "sp") u := T.st 47 rfl
theorem Tx.g_MOST_CODE (T : Tx K mg) : ∃ u, mg "MOST_CODE" = some u ∧ RelV (.int 60) u := T.nt 48 rfl
theorem Tx.g_MOST_WORDS (T : Tx K mg) : ∃ u, mg "MOST_WORDS" = some u ∧ RelV (.int 64) u := T.nt 49 rfl
theorem Tx.g_MOST_LETTERS (T : Tx K mg) : ∃ u, mg "MOST_LETTERS" = some u ∧ RelV (.int 8) u := T.nt 50 rfl
theorem Tx.g_LETTERS (T : Tx K mg) : ∃ u, mg "LETTERS" = some u ∧ RelV (.str "abcdefghijklmnopqrstuvwxyz") u := T.st 51 rfl
theorem Tx.g_WORD (T : Tx K mg) : ∃ u, mg "WORD" = some u ∧ RelV (.str "word") u := T.st 52 rfl
theorem Tx.g_IN (T : Tx K mg) : ∃ u, mg "IN" = some u ∧ RelV (.str "in") u := T.st 53 rfl
theorem Tx.g_ITEMS (T : Tx K mg) : mg "ITEMS" = some (.ref (He.ga K "ITEMS")) := T.gl 54 rfl
theorem Tx.g_LOST (T : Tx K mg) : mg "LOST" = some (.ref (He.ga K "LOST")) := T.gl 55 rfl
theorem Tx.g_BLANK (T : Tx K mg) : ∃ u, mg "BLANK" = some u ∧ RelV (.str " ") u := T.st 56 rfl
theorem Tx.g_LINE (T : Tx K mg) : ∃ u, mg "LINE" = some u ∧ RelV (.str "\n") u := T.st 57 rfl
theorem Tx.g_MINUS (T : Tx K mg) : ∃ u, mg "MINUS" = some u ∧ RelV (.str "-") u := T.st 58 rfl
theorem Tx.g_NONE (T : Tx K mg) : ∃ u, mg "NONE" = some u ∧ RelV (.str "none") u := T.st 59 rfl
theorem Tx.g_DIGITS (T : Tx K mg) : ∃ u, mg "DIGITS" = some u ∧ RelV (.str "0123456789") u := T.st 60 rfl
theorem Tx.g_MOST_DIGITS (T : Tx K mg) : ∃ u, mg "MOST_DIGITS" = some u ∧ RelV (.int 4) u := T.nt 61 rfl
theorem Tx.n_isinstance (T : Tx K mg) : mg "isinstance" = none := T.fr 62 rfl
theorem Tx.n_int (T : Tx K mg) : mg "int" = none := T.fr 63 rfl
theorem Tx.n_bool (T : Tx K mg) : mg "bool" = none := T.fr 64 rfl
theorem Tx.n_str (T : Tx K mg) : mg "str" = none := T.fr 65 rfl
theorem Tx.n_tuple (T : Tx K mg) : mg "tuple" = none := T.fr 66 rfl
theorem Tx.n_len (T : Tx K mg) : mg "len" = none := T.fr 67 rfl
theorem Tx.n_all (T : Tx K mg) : mg "all" = none := T.fr 68 rfl
theorem Tx.n_any (T : Tx K mg) : mg "any" = none := T.fr 69 rfl
theorem Tx.n_enumerate (T : Tx K mg) : mg "enumerate" = none := T.fr 70 rfl
theorem Tx.n_zip (T : Tx K mg) : mg "zip" = none := T.fr 71 rfl
theorem Tx.n_range (T : Tx K mg) : mg "range" = none := T.fr 72 rfl
theorem Tx.n_list (T : Tx K mg) : mg "list" = none := T.fr 73 rfl
theorem Tx.n_min (T : Tx K mg) : mg "min" = none := T.fr 74 rfl
end
/-! ### a def, and how it is called -/
/-- the def x keeps the promise sp -/
structure Ok (P : Program) (w : World) (K : PySem.W.Frag) (mg : Str → Option Value) (base : Heap) (CX : CXT) (k : Nat) (x : Str) (ps : List Str) (sp : Sp) : Prop where
  ex : ∃ fd, FnOk P w K mg base CX k (He.ga K x) fd ps sp ∧ Binds K fd ps []
  kp : PySem.W.keepIn K (.ref (He.ga K x)) = true
  g : mg x = some (.ref (He.ga K x))
section
variable {P : Program} {w : World} {K : PySem.W.Frag} {mg : Str → Option Value} {base : Heap}
theorem Tx.ok (T : Tx K mg) {CX : CXT} (i : Nat) {x : Str} {st : Stmt} {N ps : List Str} {k : Nat} {sp : Sp} (hi : fn[i]? = some ⟨(x, none), x, x, defArgs st, defBody st, defScope st, [], []⟩) (hg : mg x = some (.ref (He.ga K x)))
    (S : FnScope N ps (defScope st)) (len : ∀ vs H Q E, sp vs H Q E → vs.length = ps.length)
    (hb : ∀ (kV doc pm : Value) (an : Option Addr) (cdv ct : Value) (us : List Value), us.length = ps.length → bindArgs (PySem.W.fnOf x x (defArgs st) (defBody st) (defScope st) .none kV doc pm an cdv ct) ⟨us, []⟩ = pure (ps.zip us))
    (hbody : ∀ (cdv : Value) (A : Around) (outer : List Env) (s : Shared) (H : Hp) (vs : List V) (Q : VK) (E : XK), Room k (A.deeper (envOfC x (defScope st) s.heap.objs.size (He.ga K x) cdv)) → sp vs H Q E →
      ∃ t, PSs (cxOf CX P w K mg base N x (defScope st) (He.ga K x) cdv A outer s H E) (defBody st) t ∧ t { nx := fun _ H' => Q .non H', rt := Q } (start N vs) H) :
    Ok P w K mg base CX (k + 1) x ps sp := by
  obtain ⟨fd, F⟩ := T.sd.def_ i hi
  exact ⟨⟨fd, F.ok S len hbody, F.bindsN hb⟩, F.kp, hg⟩
/-- .. of which no exception leaves -/
theorem Tx.ok0 (T : Tx K mg) (i : Nat) {x : Str} {st : Stmt} {N ps : List Str} {k : Nat} {sp : Sp} (hi : fn[i]? = some ⟨(x, none), x, x, defArgs st, defBody st, defScope st, [], []⟩) (hg : mg x = some (.ref (He.ga K x)))
    (S : FnScope N ps (defScope st)) (len : ∀ vs H Q E, sp vs H Q E → vs.length = ps.length)
    (hb : ∀ (kV doc pm : Value) (an : Option Addr) (cdv ct : Value) (us : List Value), us.length = ps.length → bindArgs (PySem.W.fnOf x x (defArgs st) (defBody st) (defScope st) .none kV doc pm an cdv ct) ⟨us, []⟩ = pure (ps.zip us))
    (hbody : ∀ (cdv : Value) (A : Around) (outer : List Env) (s : Shared) (H : Hp) (vs : List V) (Q : VK) (E : XK), Room k (A.deeper (envOfC x (defScope st) s.heap.objs.size (He.ga K x) cdv)) → sp vs H Q E →
      ∃ t, PSs (cxOf CX0 P w K mg base N x (defScope st) (He.ga K x) cdv A outer s H E).nox (defBody st) t ∧ t { nx := fun _ H' => Q .non H', rt := Q } (start N vs) H) :
    Ok P w K mg base CX0 (k + 1) x ps sp :=
  T.ok i hi hg S len hb fun cdv A outer s H vs Q E hr h => by
    obtain ⟨t, h1, h2⟩ := hbody cdv A outer s H vs Q E hr h
    exact ⟨t, h1.nox, h2⟩
end
section
variable {X : Cx} {CX : CXT} {k j : Nat} {x : Str} {ps : List Str} {sp : Sp} {E : XK} {p pos : Pos} {e : Expr} {es : List Expr} {t : TA}
theorem pe_k (O : Ok X.prog X.w X.K X.mg X.base CX k x ps sp) (hr : Room j X.A) (hk : k ≤ j) (hx : Passes CX X E) (ha : PA X (e :: es) t) (hg : Gl X x := by rfl) (hdb : (x == ("__debug__" : Str)) = false := by decide)
    (he : starEach (e :: es) X.env = (false, eval e X.env) :: starEach es X.env := by rfl) (hpl : (backTo pos (starEach es X.env)).any (·.1) = false := by rfl) :
    PE X (.Call (.Name x p) (e :: es) [] pos) (tCall sp [] E t) := by
  obtain ⟨fd, F, b⟩ := O.ex
  exact pe_call F (hr.mono hk) hg O.g O.kp b .nil hx ha hdb he hpl
/-- a constant of the module -/
theorem pe_gl {v : V} (h : ∃ u, X.mg x = some u ∧ RelV v u) (hg : Gl X x := by rfl) (hd : (x == ("__debug__" : Str)) = false := by decide) : PE X (.Name x pos) (tC v) := by
  obtain ⟨u, e, r⟩ := h
  exact pe_glob hg e r hd
/-- an object of the module -/
theorem pe_glR {a : Addr} (h : X.mg x = some (.ref a)) (hg : Gl X x := by rfl) (hd : (x == ("__debug__" : Str)) = false := by decide) : PE X (.Name x pos) (tC (.ref a)) := pe_glob hg h rfl hd
end
end K39
set_option Elab.async false
set_option linter.all false
set_option maxRecDepth 100000
set_option maxHeartbeats 4000000
namespace K39
open PySem PySem.Spec PyProof.Rows L2
theorem iteTest {c : Bool} {A B : Prop} (h1 : c = true → A) (h2 : c = false → B) : if c = true then A else B := by
  cases c with
  | true => exact iteT (h1 rfl)
  | false => exact iteF (h2 rfl)
section
variable {P : Program} {w : World} {K : PySem.W.Frag} {mg : Str → Option Value} {base : Heap}
section
variable {X : Cx} {e : Expr} {te : TE} {p pos p2 : Pos}
/-- isinstance(e, T), T a built-in class -/
theorem pe_isi {T : String} {x : Str} (hi : X.mg "isinstance" = none) (hT : X.mg x = none) (he : PE X e te) (hb : bootBuiltins x = some (.type T)) (hg : Gl X "isinstance" := by rfl) (hgT : Gl X x := by rfl) (hn : x ≠ "__name__" := by decide) (hd : (x == ("__debug__" : Str)) = false := by decide)
    (h1 : starEach (e :: [.Name x p2]) X.env = (false, eval e X.env) :: starEach [.Name x p2] X.env := by rfl) (h2 : (backTo pos (starEach [.Name x p2] X.env)).any (·.1) = false := by rfl) :
    PE X (.Call (.Name "isinstance" p) [e, .Name x p2] [] pos) (tCB (rIsi X.K) (tCons te (tCons (tC (.ty T)) tNil))) :=
  pe_callB call_isi hg hi (by decide +kernel) (pa_cons he (pa_cons (pe_bltn hgT hT hb rfl hn hd) pa_nil) h1) (by decide) (by decide) h1 h2
end
/-! ### is_integer -/
theorem scIsInteger : FnScope ["thing", "least", "most"] ["thing", "least", "most"] (defScope sIsInteger) := ⟨rfl, rfl, rfl, by decide +kernel, rfl, by decide +kernel, by decide +kernel⟩
def spIsInteger : Sp := fun vs H Q _ => ∃ i lo hi : Int, vs = [.int i, .int lo, .int hi] ∧ Q (.bl (decide (lo ≤ i) && decide (i ≤ hi))) H
theorem ok_is_integer (T : Tx K mg) : Ok P w K mg base CX0 1 "is_integer" ["thing", "least", "most"] spIsInteger := by
  refine T.ok0 0 rfl T.g_is_integer scIsInteger (fun vs H Q E h => ?_) (fun _ _ _ _ _ _ us hl => match us, hl with | [_, _, _], _ => rfl) fun cdv A outer s H vs Q E hr h => ?_
  · obtain ⟨i, lo, hi, rfl, _⟩ := h
    rfl
  · obtain ⟨i, lo, hi, rfl, hq⟩ := h
    refine ⟨_, pss_one (ps_ret (pe_and (pe_isi T.n_isinstance T.n_int (pv 0) PyProof.Rows.boot_int) (pe_and (pe_not (pe_isi T.n_isinstance T.n_bool (pv 0) PyProof.Rows.boot_bool))
      (pe_one (pe_chain op_le op_le (pv 1) (pv 0) (pv 2)))))), ?_⟩
    refine ⟨_, rfl, _, _, _, _, true, rfl, .ty _, .base (.int _), kit_ty (by decide +kernel), true, rfl, iteT ?_⟩
    refine ⟨_, rfl, _, _, _, _, false, rfl, .ty _, .base (.int _), kit_ty (by decide +kernel), false, rfl, true, rfl, iteT ?_⟩
    refine ⟨_, rfl, _, rfl, _, _, rfl, rfl, _, rfl, iteTest (fun z => ?_) fun z => ?_⟩
    · refine ⟨_, rfl, _, _, rfl, rfl, ?_⟩
      rw [z] at hq
      exact hq
    · rw [z] at hq
      exact hq
end
end K39
set_option Elab.async false
set_option linter.all false
set_option maxRecDepth 100000
set_option maxHeartbeats 4000000
namespace K39
open PySem PySem.Spec PyProof.Rows L2
/-! ### data of the program -/
/-- a where as the program holds it -/
inductive Wh where
  | lost | inn (z : Str) | wrd (n : Int)
def whV : Wh → List V
  | .lost => [.str "lost"]
  | .inn z => [.str "in", .str z]
  | .wrd n => [.str "word", .int n]
def isWrd : Wh → Bool
  | .wrd _ => true
  | _ => false
def regV : List V := [.str "p", .str "q", .str "r", .str "s", .str "x", .str "y"]
def isReg (z : Str) : Bool := inV (.str z) regV
def isBas (z : Str) : Bool := decide (z = "sp") || isReg z
def inB (i lo hi : Int) : Bool := decide (lo ≤ i) && decide (i ≤ hi)
def whOk : Wh → Bool
  | .lost => true
  | .inn z => isReg z
  | .wrd n => inB n (-64) 0
/-- a finding: a basis and a number -/
abbrev Fnd := Option (Str × Int)
def fndOk : Fnd → Bool
  | none => true
  | some (b, n) => isBas b && inB n (-64) 128
def rulOk (f : Fnd) (ws : List Wh) : Bool := fndOk f && (ws.all whOk && (f.isSome || !ws.any isWrd))
/-! ### reading tuples -/
theorem tyT {K : PySem.W.Frag} {H : Hp} {a : Addr} {xs : List V} (h : SqT K H a xs) : TyX K H (.ref a) (.type "tuple") := by
  rcases h with (h | ⟨o, h⟩) | ⟨o, its, n, h, c, _⟩
  · exact .base (.tup h)
  · exact .fTuple h
  · exact .kTuple h c
theorem tyL {K : PySem.W.Frag} {H : Hp} {a : Addr} {xs : List V} (h : SqL K H a xs) : TyX K H (.ref a) (.type "list") := by
  rcases h with (h | ⟨o, h⟩) | ⟨o, its, n, h, c, _⟩
  · exact .base (.lst h)
  · exact .base (.frz h)
  · exact .kList h c
theorem Same.tup {K : PySem.W.Frag} {H H' : Hp} {a : Addr} {xs : List V} (e : Same H H') (h : SqT K H a xs) : SqT K H' a xs := by
  rcases h with (h | ⟨o, h⟩) | h
  · exact .inl (.inl (e _ _ h))
  · exact .inl (.inr ⟨o, e _ _ h⟩)
  · exact .inr h
theorem Same.upd {H H' : Hp} {p : Addr} {o : HO} (e : Same H H') (n : H' p = none) : Same H (upd H' p o) := fun b u q => by
  rw [upd_ne (ne_of_none (e b u q) n)]
  exact e b u q
/-- behind the first isinstance of a tuple and its length -/
theorem SqT.updL {K : PySem.W.Frag} {H : Hp} {a D : Addr} {xs l zs : List V} (hD : H D = some (.lst l)) (h : SqT K H a xs) : SqT K (upd H D (.lst zs)) a xs := by
  rcases h with (h | ⟨o, h⟩) | h
  · exact .inl (.inl (by rw [upd_ne (ne_of h hD (by intro z; cases z))]; exact h))
  · exact .inl (.inr ⟨o, by rw [upd_ne (ne_of h hD (by intro z; cases z))]; exact h⟩)
  · exact .inr h
section
variable {P : Program} {w : World} {K : PySem.W.Frag} {mg : Str → Option Value} {base : Heap}
theorem Tx.regs (T : Tx K mg) (H : Hp) : SqT K H (He.ga K "REGISTERS") regV := He.tupB_ok (T.e 0 0) H
theorem Tx.items (T : Tx K mg) (H : Hp) : SqT K H (He.ga K "ITEMS") [.str "back", .str "p", .str "q", .str "r", .str "s"] := He.tupB_ok (T.e 0 1) H
theorem Tx.lost (T : Tx K mg) (H : Hp) : SqT K H (He.ga K "LOST") [.str "lost"] := He.tupB_ok (T.e 0 2) H
/-! ### is_register, is_basis -/
theorem scIsRegister : FnScope ["thing"] ["thing"] (defScope sIsRegister) := ⟨rfl, rfl, rfl, by decide +kernel, rfl, by decide +kernel, by decide +kernel⟩
def spIsRegister : Sp := fun vs H Q _ => ∃ z : Str, vs = [.str z] ∧ Q (.bl (isReg z)) H
theorem ok_is_register (T : Tx K mg) : Ok P w K mg base CX0 1 "is_register" ["thing"] spIsRegister := by
  refine T.ok0 1 rfl T.g_is_register scIsRegister (fun vs H Q E h => ?_) (fun _ _ _ _ _ _ us hl => match us, hl with | [_], _ => rfl) fun cdv A outer s H vs Q E hr h => ?_
  · obtain ⟨z, rfl, _⟩ := h
    rfl
  · obtain ⟨z, rfl, hq⟩ := h
    refine ⟨_, pss_one (ps_ret (pe_and (pe_isi T.n_isinstance T.n_str (pv 0) PyProof.Rows.boot_str) (pe_one (pe_cmpR op_in_seq (pv 0) (pe_glR T.g_REGISTERS) (by rfl))))), ?_⟩
    exact ⟨_, rfl, _, _, _, _, true, rfl, .ty _, .base (.str _), kit_ty (by decide +kernel), true, rfl, iteT ⟨_, rfl, _, _, rfl, .inr (T.regs H), rfl, rfl, hq⟩⟩
theorem scIsBasis : FnScope ["thing"] ["thing"] (defScope sIsBasis) := ⟨rfl, rfl, rfl, by decide +kernel, rfl, by decide +kernel, by decide +kernel⟩
def spIsBasis : Sp := fun vs H Q _ => ∃ z : Str, vs = [.str z] ∧ Q (.bl (isBas z)) H
theorem decS {a b : Str} : decide (V.str a = V.str b) = decide (a = b) := by
  by_cases h : a = b
  · subst h
    rw [decide_eq_true rfl, decide_eq_true rfl]
  · rw [decide_eq_false h, decide_eq_false fun z => h (V.str.inj z)]
theorem ok_is_basis (T : Tx K mg) : Ok P w K mg base CX0 1 "is_basis" ["thing"] spIsBasis := by
  refine T.ok0 2 rfl T.g_is_basis scIsBasis (fun vs H Q E h => ?_) (fun _ _ _ _ _ _ us hl => match us, hl with | [_], _ => rfl) fun cdv A outer s H vs Q E hr h => ?_
  · obtain ⟨z, rfl, _⟩ := h
    rfl
  · obtain ⟨z, rfl, hq⟩ := h
    refine ⟨_, pss_one (ps_ret (pe_and (pe_isi T.n_isinstance T.n_str (pv 0) PyProof.Rows.boot_str) (pe_one (pe_or (pe_cmpR op_eq (pv 0) (pe_gl T.g_STACK) (nomark _))
      (pe_one (pe_cmpR op_in_seq (pv 0) (pe_glR T.g_REGISTERS) (by rfl))))))), ?_⟩
    refine ⟨_, rfl, _, _, _, _, true, rfl, .ty _, .base (.str _), kit_ty (by decide +kernel), true, rfl, iteT ⟨_, rfl, rfl, _, rfl, iteTest (fun c => ?_) fun c => ?_⟩⟩
    · rw [decS] at c
      unfold isBas at hq
      rw [c] at hq
      exact hq
    · rw [decS] at c
      unfold isBas at hq
      rw [c] at hq
      exact ⟨_, rfl, _, _, rfl, .inr (T.regs H), rfl, rfl, hq⟩
/-! ### is_finding -/
theorem scIsFinding : FnScope ["thing"] ["thing"] (defScope sIsFinding) := ⟨rfl, rfl, rfl, by decide +kernel, rfl, by decide +kernel, by decide +kernel⟩
def spIsFinding (K : PySem.W.Frag) : Sp := fun vs H Q _ => ∃ (a : Addr) (b : Str) (n : Int), vs = [.ref a] ∧ SqT K H a [.str b, .int n] ∧ Q (.bl (isBas b && inB n (-64) 128)) H
theorem ok_is_finding (T : Tx K mg) : Ok P w K mg base CX0 2 "is_finding" ["thing"] (spIsFinding K) := by
  have o1 := ok_is_basis (P := P) (w := w) (base := base) T
  have o2 := ok_is_integer (P := P) (w := w) (base := base) T
  refine T.ok0 4 rfl T.g_is_finding scIsFinding (fun vs H Q E h => ?_) (fun _ _ _ _ _ _ us hl => match us, hl with | [_], _ => rfl) fun cdv A outer s H vs Q E hr h => ?_
  · obtain ⟨a, b, n, rfl, _⟩ := h
    rfl
  · obtain ⟨a, b, n, rfl, hs, hq⟩ := h
    refine ⟨_, pss_cons (ps_if (PW.pt (pw_or (pt_not (pt_val (pe_isi T.n_isinstance T.n_tuple (pv 0) PyProof.Rows.boot_tuple))) (pw_or1 (pt_cmpR op_ne (pe_callB call_len_seq (by rfl) T.n_len PySem.boot_len (pa_cons (pv 0) pa_nil)) pe_int (nomark _)))))
        (pss_one (ps_ret pe_bl)) pss_nil)
      (pss_one (ps_ret (pe_and (pe_k o1 hr (by decide) pass0 (pa_cons (pe_ix ix_tup (pv 0) pe_int (fun _ _ => rfl)) pa_nil)) (pe_one (pe_k o2 hr (by decide) pass0
        (pa_cons (pe_ix ix_tup (pv 0) pe_int (fun _ _ => rfl)) (pa_cons (pe_un un_neg (pe_gl T.g_MOST_WORDS)) (pa_cons (pe_op op_mul pe_int (pe_gl T.g_MOST_WORDS)) pa_nil)))))))), ?_⟩
    refine ⟨_, rfl, _, _, _, _, true, rfl, .ty _, tyT hs, kit_ty (by decide +kernel), true, rfl, iteF ?_⟩
    refine ⟨_, rfl, _, _, rfl, .inr hs, rfl, _, rfl, iteF ?_⟩
    refine ⟨_, rfl, _, _, _, _, rfl, rfl, hs, rfl, _, rfl, _, rfl, iteTest (fun c => ?_) fun c => ?_⟩
    · rw [c] at hq
      exact ⟨_, rfl, _, _, _, _, rfl, rfl, hs, rfl, _, rfl, _, _, rfl, rfl, .inl ⟨by decide, by decide⟩, _, _, _, rfl, hq⟩
    · rw [c] at hq
      exact hq
end
end K39
set_option Elab.async false
set_option linter.all false
set_option maxRecDepth 100000
set_option maxHeartbeats 4000000
namespace K39
open PySem PySem.Spec PyProof.Rows L2
/-! ### tests whose answer is known -/
theorem if_of {c : TT} {t u : TS} {D : Ends} {σ : L2.St} {H : Hp} (b : Bool) (hc : ∀ Q : Bool → Hp → Prop, Q b H → c σ H Q) (h : if b = true then t D σ H else u D σ H) : tIfS c t u D σ H := hc _ h
theorem if_ff {c : TT} {t u : TS} {D : Ends} {σ : L2.St} {H : Hp} (hc : ∀ Q : Bool → Hp → Prop, Q false H → c σ H Q) (h : u D σ H) : tIfS c t u D σ H := hc _ (iteF h)
theorem if_tt {c : TT} {t u : TS} {D : Ends} {σ : L2.St} {H : Hp} (hc : ∀ Q : Bool → Hp → Prop, Q true H → c σ H Q) (h : t D σ H) : tIfS c t u D σ H := hc _ (iteT h)
theorem sq_ff {c : TT} {t u r : TS} {D : Ends} {σ : L2.St} {H : Hp} (hc : ∀ Q : Bool → Hp → Prop, Q false H → c σ H Q) (h : u { D with nx := r D } σ H) : tSeq (tIfS c t u) r D σ H := hc _ (iteF h)
theorem sq_tt {c : TT} {t u r : TS} {D : Ends} {σ : L2.St} {H : Hp} (hc : ∀ Q : Bool → Hp → Prop, Q true H → c σ H Q) (h : t { D with nx := r D } σ H) : tSeq (tIfS c t u) r D σ H := hc _ (iteT h)
/-! ### rules told of K, for a comprehension's block -/
section
variable {X : Cx} {K : PySem.W.Frag}
theorem ixT (h : X.K = K := by rfl) : IxR X (rIxT K) := by
  subst h
  exact ix_tup
theorem ixL (h : X.K = K := by rfl) : IxR X (rIxL K) := by
  subst h
  exact ix_list
theorem inQ (h : X.K = K := by rfl) : OpR X (compareOp .In) (rIn K false) := by
  subst h
  exact op_in_seq
theorem ninQ (h : X.K = K := by rfl) : OpR X (compareOp .NotIn) (rIn K true) := by
  subst h
  exact op_notIn_seq
end
/-! ### what stays: all that is tracked but the objects of S -/
def Kp (S : List Addr) (H H' : Hp) : Prop := ∀ b o, b ∉ S → H b = some o → H' b = some o
theorem Kp.refl (S : List Addr) (H : Hp) : Kp S H H := fun _ _ _ h => h
theorem Kp.trans {S : List Addr} {H H1 H2 : Hp} (a : Kp S H H1) (b : Kp S H1 H2) : Kp S H H2 := fun c o n h => b c o n (a c o n h)
theorem Kp.same {H H' : Hp} (a : Kp [] H H') : Same H H' := fun b o h => a b o (by simp) h
theorem _root_.L2.Same.kp {S : List Addr} {H H' : Hp} (a : Same H H') : Kp S H H' := fun b o _ h => a b o h
theorem Kp.upd {S : List Addr} {H H' : Hp} {p : Addr} {o : HO} (e : Kp S H H') (n : H' p = none) : Kp S H (upd H' p o) := fun b u m q => by
  rw [upd_ne (ne_of_none (e b u m q) n)]
  exact e b u m q
theorem Kp.put {S : List Addr} {H H' : Hp} {p : Addr} {o : HO} (e : Kp S H H') (hp : p ∈ S) : Kp S H (L2.upd H' p o) := fun b u m q => by
  have ne : b ≠ p := fun z => m (by rw [z]; exact hp)
  rw [upd_ne ne]
  exact e b u m q
theorem Kp.none {S : List Addr} {H H' : Hp} {p : Addr} (e : Kp S H H') (n : H' p = none) (m : p ∉ S) : H p = none := by
  cases q : H p with
  | none => rfl
  | some o =>
    rw [e p o m q] at n
    cases n
theorem Kp.mono {S S' : List Addr} {H H' : Hp} (e : Kp S H H') (h : ∀ b ∈ S, b ∈ S') : Kp S' H H' := fun b o m q => e b o (fun z => m (h b z)) q
/-- the new list at D has been written; all else is as it was -/
theorem kp_D {S : List Addr} {H1 H : Hp} {D : Addr} {o : HO} (e : Kp S H1 H) (nD : H1 D = none) : Kp S H1 (upd H D o) := fun b u m q => by
  rw [upd_ne (ne_of_none q nD)]
  exact e b u m q
section
variable {K : PySem.W.Frag} {a D : Addr} {xs : List V} {g : TG} {tt : TT} {te : TE} {vs : List Nat} {σ : L2.St} {H1 : Hp} {Qd : Hp → Prop} {S : List Addr}
/-- what a comprehension's reading asks of its loop -/
def LcGoal (J : It) (g : TG) (tt : TT) (te : TE) (vs : List Nat) (σ : L2.St) (H1 : Hp) (D : Addr) (Qd : Hp → Prop) : Prop :=
  ∃ W : Nat → Nat → Hp → Prop, (∃ m, W 0 m (upd H1 D (.lst []))) ∧ ∀ i m H, W i m H → (J.stop i H ∧ Qd H) ∨
    (J.go i H ∧ ∃ N : Hp → Prop, (∀ H', N H' → ∃ m', m' < m ∧ W (i + 1) m' H') ∧
      ∀ x H', J.yld i H x H' → g x (wipe σ vs) H' fun σ2 H2 => wipe σ2 vs = wipe σ vs ∧
        tt σ2 H2 fun b H3 => if b = true then te σ2 H3 fun y H4 => ∃ acc, H4 D = some (.lst acc) ∧ acc.length < sizeLine ∧ N (upd H4 D (.lst (acc ++ [y]))) else N H3)
/-- one turn of a comprehension, whatever it walks -/
def LcTurn (J : Nat → List V → Hp → Prop) (S : List Addr) (H1 : Hp) (D : Addr) (g : TG) (tt : TT) (te : TE) (vs : List Nat) (σ : L2.St) (i : Nat) (x : V) : Prop :=
  ∀ (acc : List V) (H : Hp) (Q : VK) (N : Hp → Prop), Kp S H1 H → H D = some (.lst acc) → J i acc H → (∀ y H4, Kp S H H4 → J (i + 1) (acc ++ [y]) H4 → Q y H4) → (∀ H4, Kp S H H4 → J (i + 1) acc H4 → N H4) →
    g x (wipe σ vs) H fun σ2 H2 => wipe σ2 vs = wipe σ vs ∧ tt σ2 H2 fun b H3 => if b = true then te σ2 H3 Q else N H3
theorem lc_yes {σ2 : L2.St} {H : Hp} {Q : VK} {N : Hp → Prop} (e : wipe σ2 vs = wipe σ vs) (h : te σ2 H Q) : wipe σ2 vs = wipe σ vs ∧ tYes σ2 H fun b H3 => if b = true then te σ2 H3 Q else N H3 := ⟨e, iteT (A := te σ2 H Q) (B := N H) h⟩
theorem lc_turn {J : Nat → List V → Hp → Prop} {i : Nat} {x : V} (nD : H1 D = none) (mD : D ∉ S) (hi : i < sizeLine) (up : ∀ i acc H l zs, H D = some (.lst l) → J i acc H → J i acc (upd H D (.lst zs)))
    (ht : LcTurn J S H1 D g tt te vs σ i x) {H : Hp} (hp : Kp S H1 H ∧ ∃ acc, H D = some (.lst acc) ∧ acc.length ≤ i ∧ J i acc H) :
    g x (wipe σ vs) H fun σ2 H2 => wipe σ2 vs = wipe σ vs ∧ tt σ2 H2 fun b H3 => if b = true then te σ2 H3 fun y H4 => ∃ acc, H4 D = some (.lst acc) ∧ acc.length < sizeLine ∧
      (fun (j : Nat) (H : Hp) => Kp S H1 H ∧ ∃ acc, H D = some (.lst acc) ∧ acc.length ≤ j ∧ J j acc H) (i + 1) (upd H4 D (.lst (acc ++ [y]))) else
      (fun (j : Nat) (H : Hp) => Kp S H1 H ∧ ∃ acc, H D = some (.lst acc) ∧ acc.length ≤ j ∧ J j acc H) (i + 1) H3 := by
  obtain ⟨k, acc, hD, hl, j⟩ := hp
  refine ht acc H _ _ k hD j (fun y H4 k4 j4 => ?_) fun H4 k4 j4 => ?_
  · have hD4 := k4 D _ mD hD
    refine ⟨acc, hD4, by omega, kp_D (k.trans k4) nD, acc ++ [y], upd_same, by rw [List.length_append, List.length_singleton]; omega, up _ _ _ _ _ hD4 j4⟩
  · exact ⟨k.trans k4, acc, k4 D _ mD hD, by omega, j4⟩
theorem lc_tupJ (J : Nat → List V → Hp → Prop) (hx : SqT K H1 a xs) (hS : ∀ H, Kp S H1 H → SqT K H a xs) (hz : xs.length ≤ sizeLine) (nD : H1 D = none) (mD : D ∉ S) (up : ∀ i acc H l zs, H D = some (.lst l) → J i acc H → J i acc (upd H D (.lst zs)))
    (j0 : J 0 [] (upd H1 D (.lst []))) (hs : ∀ i x, xs[i]? = some x → LcTurn J S H1 D g tt te vs σ i x) (hd : ∀ ys H, Kp S H1 H → H D = some (.lst ys) → J xs.length ys H → Qd H) :
    LcGoal (Itt K a) g tt te vs σ H1 D Qd := by
  refine lc_tup (K := K) (a := a) (xs := xs) (fun j H => Kp S H1 H ∧ ∃ acc, H D = some (.lst acc) ∧ acc.length ≤ j ∧ J j acc H) ⟨kp_D (Kp.refl _ _) nD, [], upd_same, Nat.le_refl _, j0⟩ (fun i H _ p => hS H p.1) (fun i x H e p => ?_) fun H p => ?_
  · have hi : i < xs.length := (List.getElem?_eq_some_iff.mp e).1
    exact lc_turn nD mD (by omega) up (hs i x e) p
  · obtain ⟨k, acc, hD, _, j⟩ := p
    exact hd acc H k hD j
theorem lc_listJ (J : Nat → List V → Hp → Prop) (hS : ∀ H, Kp S H1 H → SqL K H a xs) (hz : xs.length ≤ sizeLine) (nD : H1 D = none) (mD : D ∉ S) (up : ∀ i acc H l zs, H D = some (.lst l) → J i acc H → J i acc (upd H D (.lst zs)))
    (j0 : J 0 [] (upd H1 D (.lst []))) (hs : ∀ i x, xs[i]? = some x → LcTurn J S H1 D g tt te vs σ i x) (hd : ∀ ys H, Kp S H1 H → H D = some (.lst ys) → J xs.length ys H → Qd H) :
    LcGoal (Itl K a) g tt te vs σ H1 D Qd := by
  refine lc_list (K := K) (a := a) (xs := xs) (fun j H => Kp S H1 H ∧ ∃ acc, H D = some (.lst acc) ∧ acc.length ≤ j ∧ J j acc H) ⟨kp_D (Kp.refl _ _) nD, [], upd_same, Nat.le_refl _, j0⟩ (fun i H _ p => hS H p.1) (fun i x H e p => ?_) fun H p => ?_
  · have hi : i < xs.length := (List.getElem?_eq_some_iff.mp e).1
    exact lc_turn nD mD (by omega) up (hs i x e) p
  · obtain ⟨k, acc, hD, _, j⟩ := p
    exact hd acc H k hD j
theorem lc_rangeJ {lo : Int} {n : Nat} (J : Nat → List V → Hp → Prop) (hz : n ≤ sizeLine) (nD : H1 D = none) (mD : D ∉ S) (up : ∀ i acc H l zs, H D = some (.lst l) → J i acc H → J i acc (upd H D (.lst zs)))
    (j0 : J 0 [] (upd H1 D (.lst []))) (hs : ∀ i, i < n → LcTurn J S H1 D g tt te vs σ i (.int (lo + i))) (hd : ∀ ys H, Kp S H1 H → H D = some (.lst ys) → J n ys H → Qd H) :
    LcGoal (Itr lo n) g tt te vs σ H1 D Qd := by
  refine lc_range (lo := lo) (n := n) (fun j H => Kp S H1 H ∧ ∃ acc, H D = some (.lst acc) ∧ acc.length ≤ j ∧ J j acc H) ⟨kp_D (Kp.refl _ _) nD, [], upd_same, Nat.le_refl _, j0⟩ (fun i H e p => ?_) fun H p => ?_
  · exact lc_turn nD mD (by omega) up (hs i e) p
  · obtain ⟨k, acc, hD, _, j⟩ := p
    exact hd acc H k hD j
end
end K39
set_option Elab.async false
set_option linter.all false
set_option maxRecDepth 100000
set_option maxHeartbeats 4000000
namespace K39
open PySem PySem.Spec PyProof.Rows L2
section
variable {P : Program} {w : World} {K : PySem.W.Frag} {mg : Str → Option Value} {base : Heap}
/-! ### is_where -/
theorem scIsWhere : FnScope ["thing"] ["thing"] (defScope sIsWhere) := ⟨rfl, rfl, rfl, by decide +kernel, rfl, by decide +kernel, by decide +kernel⟩
def spIsWhere (K : PySem.W.Frag) : Sp := fun vs H Q _ => ∃ (a : Addr) (x : Wh), vs = [.ref a] ∧ SqT K H a (whV x) ∧ Q (.bl (whOk x)) H
theorem ok_is_where (T : Tx K mg) : Ok P w K mg base CX0 2 "is_where" ["thing"] (spIsWhere K) := by
  have ois_register := ok_is_register (P := P) (w := w) (base := base) T
  have ois_integer := ok_is_integer (P := P) (w := w) (base := base) T
  refine T.ok0 5 rfl T.g_is_where scIsWhere (fun vs H Q E h => ?_) (fun _ _ _ _ _ _ us hl => match us, hl with | [_], _ => rfl) fun cdv A outer s H vs Q E hr h => ?_
  · obtain ⟨a, x, rfl, _⟩ := h
    rfl
  · obtain ⟨a, x, rfl, hs, hq⟩ := h
    refine ⟨_, (pss_cons (ps_if (PW.pt (pw_or (pt_not (pt_val (pe_isi T.n_isinstance T.n_tuple (pv 0) PyProof.Rows.boot_tuple))) (pw_or (pt_cmpR op_eq (pe_callB call_len_seq (by rfl) T.n_len PySem.boot_len (pa_cons (pv 0) pa_nil)) pe_int (nomark _)) (pw_or1 (pt_not (pt_val (pe_isi T.n_isinstance T.n_str (pe_ix (ixT (K := K)) (pv 0) pe_int (fun _ _ => rfl)) PyProof.Rows.boot_str))))))) (pss_one (ps_ret pe_bl)) pss_nil)
      (pss_cons (ps_if (pt_cmpR op_eq (pe_ix (ixT (K := K)) (pv 0) pe_int (fun _ _ => rfl)) pe_str (nomark _)) (pss_one (ps_ret (pe_cmpR op_eq (pe_callB call_len_seq (by rfl) T.n_len PySem.boot_len (pa_cons (pv 0) pa_nil)) pe_int (nomark _)))) pss_nil)
      (pss_cons (ps_if (pt_cmpR op_ne (pe_callB call_len_seq (by rfl) T.n_len PySem.boot_len (pa_cons (pv 0) pa_nil)) pe_int (nomark _)) (pss_one (ps_ret pe_bl)) pss_nil)
      (pss_cons (ps_if (pt_cmpR op_eq (pe_ix (ixT (K := K)) (pv 0) pe_int (fun _ _ => rfl)) (pe_gl T.g_WORD) (nomark _)) (pss_one (ps_ret (pe_k ois_integer hr (by decide) pass0 (pa_cons (pe_ix (ixT (K := K)) (pv 0) pe_int (fun _ _ => rfl)) (pa_cons (pe_un un_neg (pe_gl T.g_MOST_WORDS)) (pa_cons pe_int pa_nil)))))) pss_nil)
      (pss_one (ps_ret (pe_and (pe_cmpR op_eq (pe_ix (ixT (K := K)) (pv 0) pe_int (fun _ _ => rfl)) (pe_gl T.g_IN) (nomark _)) (pe_one (pe_k ois_register hr (by decide) pass0 (pa_cons (pe_ix (ixT (K := K)) (pv 0) pe_int (fun _ _ => rfl)) pa_nil)))))))))), ?_⟩
    refine ⟨_, rfl, _, _, _, _, true, rfl, .ty _, tyT hs, kit_ty (by decide +kernel), true, rfl, iteF ?_⟩
    cases x with
    | lost =>
      refine ⟨_, rfl, _, _, rfl, .inr hs, rfl, _, rfl, iteF ?_⟩
      refine ⟨_, rfl, _, _, _, _, rfl, rfl, hs, rfl, _, _, _, _, true, rfl, .ty _, .base (.str _), kit_ty (by decide +kernel), true, rfl, iteF ?_⟩
      refine ⟨_, rfl, _, _, _, _, rfl, rfl, hs, rfl, rfl, _, rfl, iteT ?_⟩
      exact ⟨_, rfl, _, _, rfl, .inr hs, rfl, hq⟩
    | inn z =>
      refine ⟨_, rfl, _, _, rfl, .inr hs, rfl, _, rfl, iteF ?_⟩
      refine ⟨_, rfl, _, _, _, _, rfl, rfl, hs, rfl, _, _, _, _, true, rfl, .ty _, .base (.str _), kit_ty (by decide +kernel), true, rfl, iteF ?_⟩
      refine ⟨_, rfl, _, _, _, _, rfl, rfl, hs, rfl, rfl, _, rfl, iteF ?_⟩
      refine ⟨_, rfl, _, _, rfl, .inr hs, rfl, _, rfl, iteF ?_⟩
      refine ⟨_, rfl, _, _, _, _, rfl, rfl, hs, rfl, rfl, _, rfl, iteF ?_⟩
      refine ⟨_, rfl, _, _, _, _, rfl, rfl, hs, rfl, rfl, _, rfl, iteT ?_⟩
      exact ⟨_, rfl, _, _, _, _, rfl, rfl, hs, rfl, _, rfl, hq⟩
    | wrd n =>
      refine ⟨_, rfl, _, _, rfl, .inr hs, rfl, _, rfl, iteF ?_⟩
      refine ⟨_, rfl, _, _, _, _, rfl, rfl, hs, rfl, _, _, _, _, true, rfl, .ty _, .base (.str _), kit_ty (by decide +kernel), true, rfl, iteF ?_⟩
      refine ⟨_, rfl, _, _, _, _, rfl, rfl, hs, rfl, rfl, _, rfl, iteF ?_⟩
      refine ⟨_, rfl, _, _, rfl, .inr hs, rfl, _, rfl, iteF ?_⟩
      refine ⟨_, rfl, _, _, _, _, rfl, rfl, hs, rfl, rfl, _, rfl, iteT ?_⟩
      exact ⟨_, rfl, _, _, _, _, rfl, rfl, hs, rfl, _, rfl, _, _, _, rfl, hq⟩
end
end K39
set_option Elab.async false
set_option linter.all false
set_option maxRecDepth 100000
set_option maxHeartbeats 4000000
namespace K39
open PySem PySem.Spec PyProof.Rows L2
/-! ### rows and their parts in the heap -/
def FndAt (K : PySem.W.Frag) (H : Hp) (v : V) : Fnd → Prop
  | none => v = .non
  | some (b, n) => ∃ a, v = .ref a ∧ SqT K H a [.str b, .int n]
def WsAt (K : PySem.W.Frag) (H : Hp) (ps : List Addr) (ws : List Wh) : Prop := ps.length = ws.length ∧ ∀ (i : Nat) (p : Addr) (x : Wh), ps[i]? = some p → ws[i]? = some x → SqT K H p (whV x)
theorem FndAt.same {K : PySem.W.Frag} {H H' : Hp} {v : V} {f : Fnd} (e : Same H H') (h : FndAt K H v f) : FndAt K H' v f := by
  cases f with
  | none => exact h
  | some q =>
    obtain ⟨a, h1, h2⟩ := h
    exact ⟨a, h1, Same.tup e h2⟩
theorem WsAt.same {K : PySem.W.Frag} {H H' : Hp} {ps : List Addr} {ws : List Wh} (e : Same H H') (h : WsAt K H ps ws) : WsAt K H' ps ws := ⟨h.1, fun i p x h1 h2 => Same.tup e (h.2 i p x h1 h2)⟩
theorem map_get {α β : Type} {f : α → β} {l : List α} {i : Nat} {y : β} (h : (l.map f)[i]? = some y) : ∃ x, l[i]? = some x ∧ y = f x := by
  rw [List.getElem?_map] at h
  cases e : l[i]? with
  | none =>
    rw [e] at h
    cases h
  | some x =>
    rw [e] at h
    exact ⟨x, rfl, (Option.some.inj h).symm⟩
theorem take_snoc {α : Type} {l : List α} {i : Nat} {x : α} (h : l[i]? = some x) : l.take (i + 1) = l.take i ++ [x] := by
  obtain ⟨h1, rfl⟩ := List.getElem?_eq_some_iff.mp h
  exact List.take_succ_eq_append_getElem h1
theorem snoc_map {α β : Type} {l : List α} {f : α → β} {i : Nat} {x : α} {acc : List β} (j : acc = (l.take i).map f) (h : l[i]? = some x) : acc ++ [f x] = (l.take (i + 1)).map f := by
  rw [j, take_snoc h, List.map_append]
  rfl
theorem get_len {α β : Type} {l : List α} {m : List β} {i : Nat} {x : α} (e : l.length = m.length) (h : l[i]? = some x) : ∃ y, m[i]? = some y := by
  have h1 := (List.getElem?_eq_some_iff.mp h).1
  exact ⟨m[i]'(by omega), List.getElem?_eq_getElem (by omega)⟩
section
variable {P : Program} {w : World} {K : PySem.W.Frag} {mg : Str → Option Value} {base : Heap}
/-! ### is_rule -/
theorem scIsRule : FnScope ["thing", "finding", "places", "where"] ["thing"] (defScope sIsRule) := ⟨rfl, rfl, rfl, by decide +kernel, rfl, by decide +kernel, by decide +kernel⟩
def spIsRule (K : PySem.W.Frag) : Sp := fun vs H Q _ => ∃ (a : Addr) (fv : V) (tw : Addr) (ps : List Addr) (f : Fnd) (ws : List Wh), vs = [.ref a] ∧ SqT K H a [fv, .ref tw] ∧ FndAt K H fv f ∧ SqT K H tw (ps.map V.ref) ∧ WsAt K H ps ws ∧ ws.length = 5 ∧
  ∀ H', Same H H' → Q (.bl (rulOk f ws)) H'
theorem ok_is_rule (T : Tx K mg) : Ok P w K mg base CX0 3 "is_rule" ["thing"] (spIsRule K) := by
  have ois_finding := ok_is_finding (P := P) (w := w) (base := base) T
  have ois_where := ok_is_where (P := P) (w := w) (base := base) T
  refine T.ok0 6 rfl T.g_is_rule scIsRule (fun vs H Q E h => ?_) (fun _ _ _ _ _ _ us hl => match us, hl with | [_], _ => rfl) fun cdv A outer s H vs Q E hr h => ?_
  · obtain ⟨a, fv, tw, ps, f, ws, rfl, _⟩ := h
    rfl
  · obtain ⟨a, fv, tw, ps, f, ws, rfl, hs, hf, ht, hw, h5, hq⟩ := h
    have p5 : (ps.map V.ref).length = 5 := by rw [List.length_map, hw.1, h5]
    refine ⟨_, (pss_cons (ps_if (PW.pt (pw_or (pt_not (pt_val (pe_isi T.n_isinstance T.n_tuple (pv 0) PyProof.Rows.boot_tuple))) (pw_or1 (pt_cmpR op_ne (pe_callB call_len_seq (by rfl) T.n_len PySem.boot_len (pa_cons (pv 0) pa_nil)) pe_int (nomark _))))) (pss_one (ps_ret pe_bl)) pss_nil)
      (pss_cons (ps_asg (pv 0) (pg_tup rfl (pgs_cons (pg_name (i := 1) scIsRule.nd rfl (Or.inl rfl)) (pgs_cons (pg_name (i := 2) scIsRule.nd rfl (Or.inl rfl)) pgs_nil))))
      (pss_cons (ps_if (PW.pt (pw_and (pt_cmpR op_notN (pv 1) pe_non (nomark _)) (pw_and1 (pt_not (pt_val (pe_k ois_finding hr (by decide) pass0 (pa_cons (pv 1) pa_nil))))))) (pss_one (ps_ret pe_bl)) pss_nil)
      (pss_cons (ps_if (PW.pt (pw_or (pt_not (pt_val (pe_isi T.n_isinstance T.n_tuple (pv 2) PyProof.Rows.boot_tuple))) (pw_or (pt_cmpR op_ne (pe_callB call_len_seq (by rfl) T.n_len PySem.boot_len (pa_cons (pv 2) pa_nil)) (pe_callB call_len_seq (by rfl) T.n_len PySem.boot_len (pa_cons (pe_glR T.g_ITEMS) pa_nil)) (nomark _)) (pw_or1 (pt_not (pt_val (pe_callB (cr_all rfl) (by rfl) T.n_all PyProof.Rows.boot_all (pa_cons (pe_lc (own := [("where", 3)]) rfl scIsRule.nd (pi_tup (pv 2)) (blkOk_by (N := ["thing", "finding", "places", "where"]) (sc := defScope sIsRule) (by decide +kernel)) (fun _ _ _ _ _ => (pg_name (i := 3) scIsRule.nd rfl (Or.inl rfl))) (fun _ _ _ _ _ => pts_nil) (fun _ _ _ _ _ => (pe_k ois_where hr (by decide) pass0 (pa_cons (pv 3) pa_nil)))) pa_nil)))))))) (pss_one (ps_ret pe_bl)) pss_nil)
      (pss_one (ps_ret (pe_or (pe_cmpR op_notN (pv 1) pe_non (nomark _)) (pe_one (pe_not (pe_callB (cr_any rfl) (by rfl) T.n_any PyProof.Rows.boot_any (pa_cons (pe_lc (own := [("where", 3)]) rfl scIsRule.nd (pi_tup (pv 2)) (blkOk_by (N := ["thing", "finding", "places", "where"]) (sc := defScope sIsRule) (by decide +kernel)) (fun _ _ _ _ _ => (pg_name (i := 3) scIsRule.nd rfl (Or.inl rfl))) (fun _ _ _ _ _ => pts_nil) (fun _ _ _ _ _ => (pe_cmpR op_eq (pe_ix (ixT (K := K)) (pv 3) pe_int (fun _ _ => rfl)) (pe_gl T.g_WORD) (nomark _)))) pa_nil))))))))))), ?_⟩
    refine sq_ff (fun Q' hQ => ⟨_, rfl, _, _, _, _, true, rfl, .ty _, tyT hs, kit_ty (by decide +kernel), true, rfl, iteF ⟨_, rfl, _, _, rfl, .inr hs, rfl, _, rfl, hQ⟩⟩) ?_
    refine ⟨_, rfl, _, _, rfl, hs, rfl, _, _, rfl, _, _, rfl, rfl, ?_⟩
    have e0 : (!decide (V.int ((ps.map V.ref).length : Nat) = V.int 5)) = false := by
      rw [p5]
      rfl
    by_cases hfo : fndOk f = true
    · dsimp only
      refine sq_ff (fun Q' hQ => ?_) ?_
      · cases f with
        | none =>
          cases (show fv = .non from hf)
          exact ⟨_, rfl, rfl, _, rfl, iteF hQ⟩
        | some q =>
          obtain ⟨b, n⟩ := q
          obtain ⟨af, rfl, h2⟩ := hf
          refine ⟨_, rfl, rfl, _, rfl, iteT ⟨_, rfl, _, _, _, rfl, h2, _, rfl, ?_⟩⟩
          rw [show (isBas b && inB n (-64) 128) = true from hfo]
          exact hQ
      · dsimp only
        have ef : rulOk f ws = (ws.all whOk && (f.isSome || !ws.any isWrd)) := by
          unfold rulOk
          rw [hfo]
          rfl
        rw [ef] at hq
        -- the lists that the two comprehensions make
        have all : ∀ (H1 : Hp) (Q' : VK), Same H H1 → (∀ H2, Same H1 H2 → Q' (.bl (ws.all whOk)) H2) → tCB (rAll K) (tCons (tLc (iTup K (tVar 2)) (gName 3) tYes (tCall (spIsWhere K) [] E0 (tCons (tVar 3) tNil)) [3]) tNil)
            [some (.ref a), some fv, some (.ref tw), none] H1 Q' := by
          intro H1 Q' e1 hQ
          refine ⟨_, rfl, _, rfl, ⟨_, Same.tup e1 ht⟩, fun D nD => ?_⟩
          refine lc_tupJ (S := []) (fun i acc _ => acc = (ws.take i).map fun x => V.bl (whOk x)) (Same.tup e1 ht) (fun H2 k => Same.tup k.same (Same.tup e1 ht)) (by rw [p5]; decide) nD (by simp) (fun _ _ _ _ _ _ j => j) rfl (fun i x hx acc H2 Q2 N k hD j hy hn => ?_)
            fun ys H2 k hD j => ?_
          · obtain ⟨p, hp, rfl⟩ := map_get hx
            obtain ⟨y, hy2⟩ := get_len hw.1 hp
            refine lc_yes rfl ⟨_, rfl, _, _, rfl, Same.tup k.same (Same.tup e1 (hw.2 i p y hp hy2)), hy _ _ (Kp.refl _ _) ?_⟩
            exact snoc_map j hy2
          · refine ⟨_, ws.map whOk, rfl, .of ?_, ?_⟩
            · rw [hD, j, List.length_map, hw.1, List.take_length, List.map_map]
              rfl
            · have e3 : (ws.map whOk).all id = ws.all whOk := by rw [List.all_map] <;> rfl
              rw [e3]
              exact hQ H2 k.same
        have any : ∀ (H1 : Hp) (Q' : VK), Same H H1 → (∀ H2, Same H1 H2 → Q' (.bl (ws.any isWrd)) H2) → tCB (rAny K) (tCons (tLc (iTup K (tVar 2)) (gName 3) tYes (tOp rEq (tOp (rIxT K) (tVar 3) (tC (.int 0))) (tC (.str "word"))) [3]) tNil)
            [some (.ref a), some fv, some (.ref tw), none] H1 Q' := by
          intro H1 Q' e1 hQ
          refine ⟨_, rfl, _, rfl, ⟨_, Same.tup e1 ht⟩, fun D nD => ?_⟩
          refine lc_tupJ (S := []) (fun i acc _ => acc = (ws.take i).map fun x => V.bl (isWrd x)) (Same.tup e1 ht) (fun H2 k => Same.tup k.same (Same.tup e1 ht)) (by rw [p5]; decide) nD (by simp) (fun _ _ _ _ _ _ j => j) rfl (fun i x hx acc H2 Q2 N k hD j hy hn => ?_)
            fun ys H2 k hD j => ?_
          · obtain ⟨p, hp, rfl⟩ := map_get hx
            obtain ⟨y, hy2⟩ := get_len hw.1 hp
            have sp := Same.tup k.same (Same.tup e1 (hw.2 i p y hp hy2))
            have go : ∀ z : Str, (∃ l, whV y = .str z :: l) → decide (V.str z = V.str "word") = isWrd y → tOp rEq (tOp (rIxT K) (tVar 3) (tC (.int 0))) (tC (.str "word")) [some (.ref a), some fv, some (.ref tw), some (.ref p)] H2 Q2 := by
              rintro z ⟨l, el⟩ ez
              rw [el] at sp
              refine ⟨_, rfl, _, _, _, _, rfl, rfl, sp, atI_nat (j := 0) rfl, rfl, ?_⟩
              rw [ez]
              refine hy _ _ (Kp.refl _ _) ?_
              exact snoc_map j hy2
            cases y with
            | lost => exact lc_yes rfl (go "lost" ⟨_, rfl⟩ rfl)
            | inn z => exact lc_yes rfl (go "in" ⟨_, rfl⟩ rfl)
            | wrd n => exact lc_yes rfl (go "word" ⟨_, rfl⟩ rfl)
          · refine ⟨_, ws.map isWrd, rfl, .of ?_, ?_⟩
            · rw [hD, j, List.length_map, hw.1, List.take_length, List.map_map]
              rfl
            · have e3 : (ws.map isWrd).any id = ws.any isWrd := by rw [List.any_map] <;> rfl
              rw [e3]
              exact hQ H2 k.same
        have fin : ∀ H1, Same H H1 → ws.all whOk = true → tRet (tOrV (tOp (fun x y H Q => y = V.non ∧ Q (V.bl !decide (x = V.non)) H) (tVar 1) (tC V.non)) (tNotV (tCB (rAny K)
            (tCons (tLc (iTup K (tVar 2)) (gName 3) tYes (tOp rEq (tOp (rIxT K) (tVar 3) (tC (.int 0))) (tC (.str "word"))) [3]) tNil)))) { nx := fun _ H' => Q .non H', rt := Q } [some (.ref a), some fv, some (.ref tw), none] H1 := by
          intro H1 e1 ea
          rw [ea] at hq
          cases f with
          | none =>
            cases (show fv = .non from hf)
            exact ⟨_, rfl, rfl, _, rfl, iteF (any H1 _ e1 fun H2 e2 => ⟨_, rfl, hq H2 (e1.trans e2)⟩)⟩
          | some q =>
            obtain ⟨b, n⟩ := q
            obtain ⟨af, rfl, h2⟩ := hf
            exact ⟨_, rfl, rfl, _, rfl, iteT (hq H1 e1)⟩
        refine ⟨_, rfl, _, _, _, _, true, rfl, .ty _, tyT ht, kit_ty (by decide +kernel), true, rfl, iteF ?_⟩
        refine ⟨_, rfl, _, _, rfl, .inr ht, _, _, rfl, .inr (T.items H), rfl, _, rfl, ?_⟩
        refine Eq.mpr (congrArg (fun b : Bool => if b = true then _ else _) e0) (iteF ?_)
        refine all H _ (Same.refl H) fun H2 e2 => ⟨_, rfl, ?_⟩
        cases ea : ws.all whOk with
        | true => exact iteF (fin H2 e2 ea)
        | false =>
          rw [ea] at hq
          exact iteT (hq H2 e2)
    · dsimp only
      refine sq_tt (fun Q' hQ => ?_) ?_
      · cases f with
        | none => exact absurd rfl hfo
        | some q =>
          obtain ⟨b, n⟩ := q
          obtain ⟨af, rfl, h2⟩ := hf
          refine ⟨_, rfl, rfl, _, rfl, iteT ⟨_, rfl, _, _, _, rfl, h2, _, rfl, ?_⟩⟩
          rw [show (isBas b && inB n (-64) 128) = false from eq_false_of_ne_true hfo]
          exact hQ
      · have e : rulOk f ws = false := by
          unfold rulOk
          rw [eq_false_of_ne_true hfo]
          rfl
        rw [e] at hq
        exact hq H (Same.refl H)
end
end K39
set_option Elab.async false
set_option linter.all false
set_option maxRecDepth 100000
set_option maxHeartbeats 4000000
namespace K39
open PySem PySem.Spec PyProof.Rows L2
/-! ### Base.__init__(self, ..), Base an own class over ValueError that has none of its own -/
section
variable {X : Cx} {e : Expr} {es : List Expr} {ta : TA} {p1 p2 pos : Pos} {x : Str} {U : Addr}
theorem pe_ueinit {pl : Sem Bool} (hm : X.mg x = some (.ref U)) (rd : PySem.W.readsIn X.K U (.type "type") = true) (ga : PySem.W.specialIn X.K (.ref U) "__getattribute__" = some (some (.builtin "type.__getattribute__")))
    (vV : PySem.W.findCls X.K (.ref U) (.type "type") "__init__" = some (.val (.builtin "ValueError.__init__"))) (ha : PA X (e :: es) ta) (hg : Gl X x := by rfl) (hd : (x == ("__debug__" : Str)) = false := by decide)
    (hc : eval (.Call (.Attribute (.Name x p1) "__init__" p2) (e :: es) [] pos) X.env = (do
      let ov ← eval (.Name x p1) X.env
      standAt p2.atName
      let (f, first) ← holding [ov] (getMethod ov "__init__" pl)
      callWith pos f first (backTo pos (starEach (e :: es) X.env)) (backToKw pos (keywordEach [] X.env))) := by rfl)
    (he : starEach (e :: es) X.env = (false, eval e X.env) :: starEach es X.env := by rfl) (hpl : (backTo pos (starEach es X.env)).any (·.1) = false := by rfl) :
    PE X (.Call (.Attribute (.Name x p1) "__init__" p2) (e :: es) [] pos) (tVeI X.K ta) := by
  refine ⟨fun pins s σ H Q I h => PySem.W.methodCall_KW (ld_glob I hg hm ?_ hd) hc⟩
  refine PySem.W.method_cls I.kIn ga (PySem.W.cls_value I.kIn rd vV rfl ?_)
  show wpAny _ _ (callWith pos (Value.builtin "ValueError.__init__") [] (backTo pos (starEach (e :: es) X.env)) []) _ _ _
  refine PyProof.Rows.callWith_method1 (thn (ha.run pos pins _ σ H _ (I.tok _) h) fun us s1 hh => ?_) he hpl
  obtain ⟨vs, H1, I1, r1, a, C, ws, rfl, hl, T, ea, q⟩ := hh
  cases r1 with
  | @cons _ u _ ur ra rr =>
    cases (show u = Value.ref a from ra)
    exact oinit_ok T I1 ea (by rw [← Paired.length rr, sizeLine_eq]; omega) fun s' J => ⟨.non, H1, J, rfl, q⟩
end
/-! ### a new exception of a class with an __init__ of its own; its context is None -/
theorem pmkN {X : Cx} {CX : CXT} {x : Str} {C fI : Addr} {k : Nat} {fd : FuncData} {ps : List Str} {sp : Sp} {e : Expr} {es : List Expr} {ta : TA} {p pos : Pos} (T : OexC X.K C)
    (iC : PySem.W.findIn X.K (.ref C) "__init__" = some (some (.ref fI))) (tI : PySem.W.typeIn X.K (.ref fI) = some (.type "function")) (FI : FnOk X.prog X.w X.K X.mg X.base CX k fI fd ps sp) (hr : Room (k + 1) X.A) (hb : Binds X.K fd ps [])
    (hx : Passes CX X (fun _ _ _ => False)) (hm : X.mg x = some (.ref C)) (ha : PA X (e :: es) ta) (hg : Gl X x := by rfl) (hd : (x == ("__debug__" : Str)) = false := by decide)
    (he : starEach (e :: es) X.env = (false, eval e X.env) :: starEach es X.env := by rfl) (hpl : (backTo pos (starEach es X.env)).any (·.1) = false := by rfl) :
    L2N.PMk X (.Call (.Name x p) (e :: es) [] pos) (tMkO C sp [] ta) := by
  intro pins s σ H Q I h
  have hcl := T.cls
  obtain ⟨nm, qn, N, bs, bm, sn, sub, ab, col, dd, k0, k1, k2, k3, k5, hC, hbm⟩ := hcl
  refine wpAny_Call_Name_kw (ld_glob I hg hm (PySem.W.callWith_K (h₀ := X.base) I.ok.mod.kin T.kC (thn (ha.run pos pins s σ H _ I h) fun us s1 hh => ?_) he hpl) hd)
  obtain ⟨vs, H1, I1, r1, hz, q1⟩ := hh
  refine ⟨I1.kIn, ?_⟩
  show wpAny _ _ (call (.ref C) us) _ _ _
  obtain ⟨hp, g, dr, tk, os⟩ := s1
  -- the arguments' tuple lies at the heap's end, the exception behind it
  have hge : hp.objs.size ≤ hp.objs.size + 1 := Nat.le_succ _
  have hq := q1 _ (I1.hok.fresh hge)
  have kk : ∀ b o, hp.get? b = some o → ((hp.push (PySem.W.kdv_tup us)).push (PySem.HandSPX.excO C hp.objs.size)).get? b = some o := fun b o q => Heap.get?_push_of_some _ (Heap.get?_push_of_some _ q)
  have new : ((hp.push (PySem.W.kdv_tup us)).push (PySem.HandSPX.excO C hp.objs.size)).get? (hp.objs.size + 1) = some (PySem.HandSPX.excO C hp.objs.size) := by heap_get
  have I2 : Inv X pins σ (upd H1 (hp.objs.size + 1) (exo (hp.objs.size + 1) C none)) ⟨(hp.push (PySem.W.kdv_tup us)).push (PySem.HandSPX.excO C hp.objs.size), g, dr, tk, os⟩ := I1.laid (t' := tk) (a := hp.objs.size + 1) (o := exo (hp.objs.size + 1) C none) kk hge (exo_ok new)
  have r2 : Vals (V.ref (hp.objs.size + 1) :: (vs ++ [])) (Value.ref (hp.objs.size + 1) :: (us ++ [])) := .cons rfl (r1.append .nil)
  have hl : (Value.ref (hp.objs.size + 1) :: us ++ []).length = ps.length := by
    have z := r2.length
    rw [FI.len _ _ _ _ hq] at z
    exact z.symm
  have hus : us.length ≤ sizeLine := by
    rw [← Paired.length r1, sizeLine_eq]
    omega
  refine wpAny_call (PySem.HandSPX.call_own PySem.F.excBase_ValueError (fun Y => PySem.HandSPX.refsVE_contains Y bm hbm) (I1.kIn _ _ hC) (PySem.W.looks_findIn I1.kIn iC) (fun self => PySem.W.bind_fn I1.kIn self tI) hus (codeAny_mono (FI.run _ X.stack _ _
    ⟨Value.ref (hp.objs.size + 1) :: us, []⟩ (Value.ref (hp.objs.size + 1) :: us ++ []) _ _ (fun _ _ _ => False) (hr.make C us []) (I2.env0.make C us []) (hb _ (Value.ref (hp.objs.size + 1) :: us) I2.kIn hl) r2 hq) fun r s' hq' => ?_))
  match r, hq' with
  | .error er, hq' => exact hx pins σ _ _ er s' I2 hq'
  | .ok (.ret u), hq' =>
    obtain ⟨v, H2, os2, bare2, un2, hok2, rv, ev, d, fs, ea, ed, hd1, q2⟩ := hq'
    subst ev
    obtain ⟨h2, g2, d2, t2, os'⟩ := s'
    obtain ⟨t0, G, J, kG, ge, hoe, na⟩ := mk_end0 (d2 := d2) (t2 := t2) I1 hge kk un2 hok2 os2 bare2 ea ed hd1
    exact ⟨rv, hp.objs.size + 1, _, _, ⟨G, g2, d2, t2, os'⟩, _, .ref C, some d, rfl, J, kG, ge, hoe, ⟨rfl, rfl, fun vs hv => by cases hv; rfl⟩, rfl, rfl, na, rfl, bare2, raises_own T.exC T.tyC, q2⟩

/-! ### the own exception classes -/
structure EX (K : PySem.W.Frag) (x : Str) : Prop where
  oex : OexC K (He.ga K x)
  ini : PySem.W.findIn K (.ref (He.ga K x)) "__init__" = some (some (.ref (He.ma K (He.ga K x) "__init__")))
  tIn : PySem.W.typeIn K (.ref (He.ma K (He.ga K x) "__init__")) = some (.type "function")
  xf : XfC K (He.ga K x)
  hc : PySem.W.findIn K (.ref (He.ga K x)) "__class__" = some (some (.builtin "object.__class__"))
  mO : PySem.W.mroIn K (He.ga K x) (.type "object") = some true
  exm : PySem.W.exmOne K (.ref (He.ga K x)) (.ref (He.ga K "UnwindError")) = some true
theorem oexB_ok {K : PySem.W.Frag} {C : Addr} (h : oexB K C = true) : ∃ nm q N bs bm sn sub ab col dd k0 k1 k2 k3 k5, K.lookup C = some (excClassObj nm q C N bs bm true sn sub ab col dd k0 k1 k2 k3 k5 "ValueError.__new__") ∧ PySem.HandSPX.refsVE bm = true := by
  unfold oexB at h
  split at h
  · rename_i dd cd sl e
    split at h
    · rename_i C' bm k0 k1 k2 k3 n k5 em es
      simp only [Bool.and_eq_true, Bool.not_eq_true', beq_iff_eq] at h
      obtain ⟨⟨⟨⟨h1, h2⟩, h3⟩, h4⟩, h5⟩ := h
      obtain ⟨nm, bs, mro, ns, qn, hd, sn, sub, ab, col, hdel⟩ := cd
      dsimp only at em h3 h4
      subst h1 h2 h3 h4 em
      obtain ⟨slv⟩ := sl
      dsimp only at es
      subst es
      exact ⟨nm, qn, ns, bs, bm, sn, sub, ab, col, dd, k0, k1, k2, k3, k5, e, h5⟩
    · cases h
  · cases h
theorem ex_of {K : PySem.W.Frag} {x : Str} (h : ∀ (j : Nat) (b : Bool), (exCls K x)[j]? = some b → b = true) : EX K x := by
  have xf := xfB_ok (h 6 _ rfl)
  exact ⟨⟨oexB_ok (h 0 _ rfl), He.eqO_ok (h 1 _ rfl), xf.exC, of_decide_eq_true (h 2 _ rfl), h 3 _ rfl⟩, He.eqO_ok (h 4 _ rfl), of_decide_eq_true (h 5 _ rfl), xf, He.eqO_ok (h 7 _ rfl), of_decide_eq_true (h 8 _ rfl), of_decide_eq_true (h 9 _ rfl)⟩
section
variable {K : PySem.W.Frag} {mg : Str → Option Value}
theorem Tx.xText (T : Tx K mg) : EX K "BadText" := ex_of fun j _ q => T.e 1 j rfl q
theorem Tx.xTable (T : Tx K mg) : EX K "BadTable" := ex_of fun j _ q => T.e 2 j rfl q
theorem Tx.noLine (T : Tx K mg) : PySem.W.findIn K (.ref (He.ga K "BadText")) "line" = some none := He.eqO_ok (T.e 3 0)
theorem Tx.noWord (T : Tx K mg) : PySem.W.findIn K (.ref (He.ga K "BadText")) "word" = some none := He.eqO_ok (T.e 3 1)
theorem Tx.noRow (T : Tx K mg) : PySem.W.findIn K (.ref (He.ga K "BadTable")) "row" = some none := He.eqO_ok (T.e 3 2)
theorem Tx.exmText (T : Tx K mg) : PySem.W.exmOne K (.ref (He.ga K "BadText")) (.ref (He.ga K "BadText")) = some true := of_decide_eq_true (T.e 3 3)
theorem Tx.ueR (T : Tx K mg) : PySem.W.readsIn K (He.ga K "UnwindError") (.type "type") = true := T.e 6 0
theorem Tx.ueG (T : Tx K mg) : PySem.W.specialIn K (.ref (He.ga K "UnwindError")) "__getattribute__" = some (some (.builtin "type.__getattribute__")) := He.eqO_ok (T.e 6 1)
theorem isVal_ok {r : Option PySem.W.CFound} {id : String} (h : isVal r id = true) : r = some (.val (.builtin id)) := by
  unfold isVal at h
  split at h
  · rw [eq_of_beq h]
  · cases h
theorem Tx.ueI (T : Tx K mg) : PySem.W.findCls K (.ref (He.ga K "UnwindError")) (.type "type") "__init__" = some (.val (.builtin "ValueError.__init__")) := isVal_ok (T.e 6 2)
end
/-! ### BadTable.__init__, BadText.__init__ -/
def spIni1 (C : Addr) (f : Str) : Sp := fun vs H Q _ => ∃ (a : Addr) (y : V), vs = [.ref a, y] ∧ H a = some (exo a C none) ∧
  ∀ d, H d = none → d ≠ a → Q .non (upd (upd H d (exd d [(f, y)])) a (exo a C (some d)))
def spIni2 (C : Addr) (f g : Str) : Sp := fun vs H Q _ => ∃ (a : Addr) (y z : V), vs = [.ref a, y, z] ∧ H a = some (exo a C none) ∧
  ∀ d, H d = none → d ≠ a → Q .non (upd (upd (upd H d (exd d [(f, y)])) a (exo a C (some d))) d (exd d [(g, z), (f, y)]))
theorem scIBadTable : FnScope ["self", "row"] ["self", "row"] (defScope sIBadTable) := ⟨rfl, rfl, rfl, by decide +kernel, rfl, by decide +kernel, by decide +kernel⟩
theorem scIBadText : FnScope ["self", "line", "word"] ["self", "line", "word"] (defScope sIBadText) := ⟨rfl, rfl, rfl, by decide +kernel, rfl, by decide +kernel, by decide +kernel⟩
section
variable {P : Program} {w : World} {K : PySem.W.Frag} {mg : Str → Option Value} {base : Heap}
theorem ini1_law {C : Addr} {f : Str} {vs : List V} {H : Hp} {Q : VK} {E : XK} (TC : OexC K C) (no : PySem.W.findIn K (.ref C) f = some none) (h : spIni1 C f vs H Q E) :
    (tSeq (tDrop (tVeI K (tCons (tVar 0) (tCons (tC (.str "not a table")) tNil)))) (tOst K f (tVar 0) (tVar 1))) { nx := fun _ H' => Q .non H', rt := Q } (start ["self", "row"] vs) H := by
  obtain ⟨a, y, rfl, ha, hq⟩ := h
  refine ⟨_, rfl, _, _, _, rfl, by decide, TC, ha, ?_⟩
  exact ⟨_, rfl, _, rfl, _, _, rfl, TC, no, .inl ⟨ha, fun d n ne => hq d n ne⟩⟩
theorem ini2_law {C : Addr} {f g : Str} {vs : List V} {H : Hp} {Q : VK} {E : XK} (TC : OexC K C) (no : PySem.W.findIn K (.ref C) f = some none) (no2 : PySem.W.findIn K (.ref C) g = some none) (h : spIni2 C f g vs H Q E) :
    (tSeq (tDrop (tVeI K (tCons (tVar 0) (tCons (tC (.str "not a text")) tNil)))) (tSeq (tOst K f (tVar 0) (tVar 1)) (tOst K g (tVar 0) (tVar 2)))) { nx := fun _ H' => Q .non H', rt := Q } (start ["self", "line", "word"] vs) H := by
  obtain ⟨a, y, z, rfl, ha, hq⟩ := h
  refine ⟨_, rfl, _, _, _, rfl, by decide, TC, ha, ?_⟩
  refine ⟨_, rfl, _, rfl, _, _, rfl, TC, no, .inl ⟨ha, fun d n ne => ?_⟩⟩
  refine ⟨_, rfl, _, rfl, _, _, rfl, TC, no2, .inr ⟨d, _, upd_same, ?_, ?_, hq d n ne⟩⟩
  · rw [upd_ne ne, upd_same]
  · exact (by decide : (1 : Nat) ≤ 900)
theorem ini_table (T : Tx K mg) : ∃ fd, FnOk P w K mg base CX0 1 (He.ma K (He.ga K "BadTable") "__init__") fd ["self", "row"] (spIni1 (He.ga K "BadTable") "row") ∧ L2H.FnH P w K mg base CX0 1 (He.ma K (He.ga K "BadTable") "__init__") fd ["self", "row"] (spIni1 (He.ga K "BadTable") "row") ∧ Binds K fd ["self", "row"] [] := by
  obtain ⟨fd, F⟩ := T.sd.def_ 34 (d := dIBadTable) rfl
  refine ⟨fd, F.ok scIBadTable (fun vs H Q E h => ?_) (fun cdv A outer s H vs Q E hr h => ?_), ?_, F.bindsN (fun _ _ _ _ _ _ us hl => match us, hl with | [_, _], _ => rfl)⟩
  · obtain ⟨a, y, rfl, _⟩ := h
    rfl
  · refine ⟨_, pss_cons (ps_expr (pe_ueinit T.g_UnwindError T.ueR T.ueG T.ueI (pa_cons (pv 0) (pa_cons pe_str pa_nil)))) (pss_one (ps_ost (pv 0) (pv 1))), ini1_law T.xTable.oex T.noRow h⟩
  · obtain ⟨oc, od, dV, kV, doc, pm, an, cdv, ct, osl, rfl, lk, hcd, _, _⟩ := F.ex
    refine L2H.fn_ofH lk hcd scIBadTable (fun vs H Q E h => ?_) (fun A outer s H vs Q E p hot hr h => ?_)
    · obtain ⟨a, y, rfl, _⟩ := h
      rfl
    · refine ⟨_, pss_cons (ps_expr (pe_ueinit T.g_UnwindError T.ueR T.ueG T.ueI (pa_cons (pv 0) (pa_cons pe_str pa_nil)))) (pss_one (ps_ost (pv 0) (pv 1))), ini1_law T.xTable.oex T.noRow h⟩
theorem ini_text (T : Tx K mg) : ∃ fd, FnOk P w K mg base CX0 1 (He.ma K (He.ga K "BadText") "__init__") fd ["self", "line", "word"] (spIni2 (He.ga K "BadText") "line" "word") ∧ L2H.FnH P w K mg base CX0 1 (He.ma K (He.ga K "BadText") "__init__") fd ["self", "line", "word"] (spIni2 (He.ga K "BadText") "line" "word") ∧ Binds K fd ["self", "line", "word"] [] := by
  obtain ⟨fd, F⟩ := T.sd.def_ 35 (d := dIBadText) rfl
  refine ⟨fd, F.ok scIBadText (fun vs H Q E h => ?_) (fun cdv A outer s H vs Q E hr h => ?_), ?_, F.bindsN (fun _ _ _ _ _ _ us hl => match us, hl with | [_, _, _], _ => rfl)⟩
  · obtain ⟨a, y, z, rfl, _⟩ := h
    rfl
  · refine ⟨_, pss_cons (ps_expr (pe_ueinit T.g_UnwindError T.ueR T.ueG T.ueI (pa_cons (pv 0) (pa_cons pe_str pa_nil)))) (pss_cons (ps_ost (pv 0) (pv 1)) (pss_one (ps_ost (pv 0) (pv 2)))), ini2_law T.xText.oex T.noLine T.noWord h⟩
  · obtain ⟨oc, od, dV, kV, doc, pm, an, cdv, ct, osl, rfl, lk, hcd, _, _⟩ := F.ex
    refine L2H.fn_ofH lk hcd scIBadText (fun vs H Q E h => ?_) (fun A outer s H vs Q E p hot hr h => ?_)
    · obtain ⟨a, y, z, rfl, _⟩ := h
      rfl
    · refine ⟨_, pss_cons (ps_expr (pe_ueinit T.g_UnwindError T.ueR T.ueG T.ueI (pa_cons (pv 0) (pa_cons pe_str pa_nil)))) (pss_cons (ps_ost (pv 0) (pv 1)) (pss_one (ps_ost (pv 0) (pv 2)))), ini2_law T.xText.oex T.noLine T.noWord h⟩
/-! ### the two exceptions, made -/
/-- BadTable(e): the exception's dict holds row -/
def tMk1 (C : Addr) (f : Str) (ta : TA) : L2.St → Hp → XK → Prop := fun σ H Q => ta σ H fun vs H1 => ∃ y, vs = [y] ∧ ∀ d, H1 d = none → Q (.ref C) (some d) (upd H1 d (.xd [(f, y)]))
def tMk2 (C : Addr) (f g : Str) (ta : TA) : L2.St → Hp → XK → Prop := fun σ H Q => ta σ H fun vs H1 => ∃ y z, vs = [y, z] ∧ ∀ d, H1 d = none → Q (.ref C) (some d) (upd H1 d (.xd [(g, z), (f, y)]))
/-- a list of expressions whose wish may be weakened -/
def taW (ta : TA) : TA := fun σ H K => ∃ K' : List V → Hp → Prop, (∀ vs H', K' vs H' → K vs H') ∧ ta σ H K'
theorem mk1_of {C : Addr} {f : Str} {ta : TA} {σ : L2.St} {H : Hp} {Q : XK} (h : tMk1 C f ta σ H Q) : tMkO C (spIni1 C f) [] (taW ta) σ H Q := by
  refine ⟨_, fun vs H1 q => ?_, h⟩
  obtain ⟨y, rfl, q⟩ := q
  refine ⟨(by decide : (1 : Nat) ≤ 1000), fun a na => ⟨a, y, rfl, upd_same, fun d nd ne => ⟨rfl, d, [(f, y)], upd_same, ?_, ?_, ?_⟩⟩⟩
  · rw [upd_ne ne, upd_same]
  · rw [upd_ne ne] at nd
    exact nd
  · rw [upd_ne ne] at nd
    have e : upd (del (upd (upd (upd H1 a (exo a C none)) d (exd d [(f, y)])) a (exo a C (some d))) a) d (.xd [(f, y)]) = upd H1 d (.xd [(f, y)]) := by
      funext b
      by_cases hd : b = d
      · rw [hd, upd_same, upd_same]
      · rw [upd_ne hd, upd_ne hd]
        by_cases ha : b = a
        · rw [ha, del_same, na]
        · rw [del_ne ha, upd_ne ha, upd_ne hd, upd_ne ha]
    rw [e]
    exact q d nd
theorem mk2_of {C : Addr} {f g : Str} {ta : TA} {σ : L2.St} {H : Hp} {Q : XK} (h : tMk2 C f g ta σ H Q) : tMkO C (spIni2 C f g) [] (taW ta) σ H Q := by
  refine ⟨_, fun vs H1 q => ?_, h⟩
  obtain ⟨y, z, rfl, q⟩ := q
  refine ⟨(by decide : (2 : Nat) ≤ 1000), fun a na => ⟨a, y, z, rfl, upd_same, fun d nd ne => ⟨rfl, d, [(g, z), (f, y)], ?_, upd_same, ?_, ?_⟩⟩⟩
  · rw [upd_ne (Ne.symm ne), upd_same]
  · rw [upd_ne ne] at nd
    exact nd
  · rw [upd_ne ne] at nd
    have e : upd (del (upd (upd (upd (upd H1 a (exo a C none)) d (exd d [(f, y)])) a (exo a C (some d))) d (exd d [(g, z), (f, y)])) a) d (.xd [(g, z), (f, y)]) = upd H1 d (.xd [(g, z), (f, y)]) := by
      funext b
      by_cases hd : b = d
      · rw [hd, upd_same, upd_same]
      · rw [upd_ne hd, upd_ne hd]
        by_cases ha : b = a
        · rw [ha, del_same, na]
        · rw [del_ne ha, upd_ne hd, upd_ne ha, upd_ne hd, upd_ne ha]
    rw [e]
    exact q d nd
end
theorem pa_w {X : Cx} {es : List Expr} {ta : TA} (ha : PA X es ta) : PA X es (taW ta) := by
  refine ⟨fun pos pins s σ H K I h => ?_⟩
  obtain ⟨K', hk, h⟩ := h
  exact thn (ha.run pos pins s σ H K' I h) fun us s1 ⟨vs, H1, I1, r, q⟩ => ⟨vs, H1, I1, r, hk vs H1 q⟩
section
variable {X : Cx} {mg : Str → Option Value} {K : PySem.W.Frag} {P : Program} {w : World} {base : Heap} {e e2 : Expr} {ta : TA} {p pos pos' : Pos} {W : WX}
/-- raise BadTable(e) where nothing is handled -/
theorem ps_raise1 (T : Tx X.K X.mg) (hr : Room 2 X.A) (hc : X.calm = true) (tk : L2.Takes X W) (ha : PA X [e] ta) (hg : Gl X "BadTable" := by rfl)
    (he : starEach [e] X.env = (false, eval e X.env) :: starEach [] X.env := by rfl) (hpl : (backTo pos (starEach [] X.env)).any (·.1) = false := by rfl) :
    PS X (.Raise (some (.Call (.Name "BadTable" p) [e] [] pos)) none pos') (fun _ σ H => tMk1 (He.ga X.K "BadTable") "row" ta σ H fun cls d H' => W cls d σ H') := by
  obtain ⟨fd, F, _, hb⟩ := ini_table (P := X.prog) (w := X.w) (base := X.base) T
  have m := pmk_oex (p := p) T.xTable.oex T.xTable.ini T.xTable.tIn F hr hb .nil pass0 hg T.g_BadTable (pa_w ha) (by decide) he hpl
  exact L2.ps_raise hc tk fun pins s σ H Q I h => m pins s σ H Q I (mk1_of h)
/-- raise BadText(e, e2) where nothing is handled -/
theorem ps_raise2 (T : Tx X.K X.mg) (hr : Room 2 X.A) (hc : X.calm = true) (tk : L2.Takes X W) (ha : PA X [e, e2] ta) (hg : Gl X "BadText" := by rfl)
    (he : starEach [e, e2] X.env = (false, eval e X.env) :: starEach [e2] X.env := by rfl) (hpl : (backTo pos (starEach [e2] X.env)).any (·.1) = false := by rfl) :
    PS X (.Raise (some (.Call (.Name "BadText" p) [e, e2] [] pos)) none pos') (fun _ σ H => tMk2 (He.ga X.K "BadText") "line" "word" ta σ H fun cls d H' => W cls d σ H') := by
  obtain ⟨fd, F, _, hb⟩ := ini_text (P := X.prog) (w := X.w) (base := X.base) T
  have m := pmk_oex (p := p) T.xText.oex T.xText.ini T.xText.tIn F hr hb .nil pass0 hg T.g_BadText (pa_w ha) (by decide) he hpl
  exact L2.ps_raise hc tk fun pins s σ H Q I h => m pins s σ H Q I (mk2_of h)
/-- .. told that its context is None -/
theorem ps_raise2N (T : Tx X.K X.mg) (hr : Room 2 X.A) (hc : X.calm = true) (tk : L2N.Takes X W) (ha : PA X [e, e2] ta) (hg : Gl X "BadText" := by rfl)
    (he : starEach [e, e2] X.env = (false, eval e X.env) :: starEach [e2] X.env := by rfl) (hpl : (backTo pos (starEach [e2] X.env)).any (·.1) = false := by rfl) :
    PS X (.Raise (some (.Call (.Name "BadText" p) [e, e2] [] pos)) none pos') (fun _ σ H => tMk2 (He.ga X.K "BadText") "line" "word" ta σ H fun cls d H' => W cls d σ H') := by
  obtain ⟨fd, F, _, hb⟩ := ini_text (P := X.prog) (w := X.w) (base := X.base) T
  have m := pmkN (p := p) T.xText.oex T.xText.ini T.xText.tIn F hr hb pass0 T.g_BadText (pa_w ha) hg (by decide) he hpl
  exact L2N.ps_raise hc tk fun pins s σ H Q I h => m pins s σ H Q I (mk2_of h)
/-- raise BadText(e, e2) in an except suite -/
theorem ps_raise2H (T : Tx X.K X.mg) (hr : L2H.RoomH 2 X.A) (hc : L2H.HotC X) (tk : L2.Takes X W) (ha : PA X [e, e2] ta) (hg : Gl X "BadText" := by rfl)
    (he : starEach [e, e2] X.env = (false, eval e X.env) :: starEach [e2] X.env := by rfl) (hpl : (backTo pos (starEach [e2] X.env)).any (·.1) = false := by rfl) :
    PS X (.Raise (some (.Call (.Name "BadText" p) [e, e2] [] pos)) none pos') (fun _ σ H => tMk2 (He.ga X.K "BadText") "line" "word" ta σ H fun cls d H' => W cls d σ H') := by
  obtain ⟨fd, _, F, hb⟩ := ini_text (P := X.prog) (w := X.w) (base := X.base) T
  have m := (L2H.pmk5_oexH (p := p) T.xText.oex T.xText.ini T.xText.tIn F hr hc hb pass0 hg T.g_BadText (pa_w ha) (by decide) he hpl).pmk
  exact L2H.ps_raiseH hc tk fun pins s σ H Q I h => m pins s σ H Q I (mk2_of h)
end
end K39
set_option Elab.async false
set_option linter.all false
set_option maxRecDepth 100000
set_option maxHeartbeats 4000000
namespace K39
open PySem PySem.Spec PyProof.Rows L2
/-! ### try: .. except X as n: a suite that raises -/
theorem ns_dict {h : Heap} {a : Addr} {m : Str → Option Value} (hn : h.Ns a m) : ∃ o es ep, h.get? a = some o ∧ o.data = .dict es ep := by
  obtain ⟨o, es, ep, ho, hd, _⟩ := hn
  exact ⟨o, es, ep, ho, hd⟩
theorem funFrames_but {h h' B : Heap} {L : Addr} (hs : Heap.SameBut L h h') (hL : ∃ o, h'.get? L = some o ∧ ∀ vs, o.data ≠ .fields vs) : ∀ {l : List Env}, h.FunFrames B l → h'.FunFrames B l
  | [], _ => trivial
  | env :: l, ⟨k, ⟨M, o, hf, hn, ho, hd⟩, hr⟩ => by
    refine ⟨k, ?_, funFrames_but hs hL hr⟩
    by_cases e : M = L
    · obtain ⟨o', h1, h2⟩ := hL
      exact ⟨M, o', hf, hn, by rw [e]; exact h1, h2⟩
    · exact ⟨M, o, hf, hn, (hs.2 M e).trans ho, hd⟩
section
variable {X : Cx} {pins : List (Addr × Obj)} {σ : L2.St} {H : Hp} {s : Shared}
theorem gone_inv {i : Nat} {n : Str} {h' : Heap} {t' : Nat} {m m' : Str → Option Value} (I : Inv X pins σ H s) (hN : X.N.Nodup) (hi : X.N[i]? = some n) (hm : s.heap.Ns X.env.locals m) (hn' : h'.Ns X.env.locals m') (he : ∀ y, y ≠ n → m' y = m y) (hs : Heap.SameBut X.env.locals s.heap h') :
    Inv X pins (σ.set i none) H { s with heap := h', toks := t' } := by
  obtain ⟨m0, hn, hlk⟩ := id I.loc
  have neL : ∀ b o, X.s_0.heap.get? b = some o → b ≠ X.env.locals := fun b o e => Nat.ne_of_lt (Nat.lt_of_lt_of_le (Heap.lt_size e) I.ok.above)
  refine ⟨I.ok, I.os, I.bare, ⟨fun b o e n hb hx => (hs.2 b (neL b o e)).trans (I.base.keep b o e n hb hx), fun b o e n hb hx => ?_, I.base.free, fun b o e hx => ?_, I.base.tups, I.base.frzs, I.base.tbls⟩, ⟨_, hn', fun j y v' e1 e2 e3 => ?_⟩, fun y c e => ?_, I.free, I.freeC, fun p hp => ?_,
    fun b ob e => ?_, by simpa using I.len⟩
  · obtain ⟨sl, e1⟩ := I.base.slot b o e n hb hx
    exact ⟨sl, (hs.2 b (neL b o e)).trans e1⟩
  · obtain ⟨o', e1⟩ := I.base.there b o e hx
    exact ⟨o', (hs.2 b (neL b o e)).trans e1⟩
  · by_cases hj : j = i
    · subst hj
      by_cases hlt : j < σ.length
      · rw [List.getElem?_set_self hlt] at e2
        cases e2
      · rw [List.getElem?_eq_none (by simpa using hlt)] at e2
        cases e2
    · rw [List.getElem?_set_ne (Ne.symm hj)] at e2
      obtain ⟨u', r', q⟩ := hlk j y v' e1 e2 e3
      refine ⟨u', r', ?_⟩
      rcases q with ⟨k, e⟩ | ⟨k, c, e, z⟩
      · have ny : y ≠ n := fun e => hj (nodup_ix hN e1 (e ▸ hi))
        exact .inl ⟨k, by rw [he y ny, hm.agree hn y]; exact e⟩
      · exact .inr ⟨k, c, e, z.sameBut hs (I.cne y c e)⟩
  · obtain ⟨w', z⟩ := I.cell y c e
    exact ⟨w', z.sameBut hs (I.cne y c e)⟩
  · obtain ⟨e, n, ne, nf, d⟩ := I.pin p hp
    exact ⟨(hs.2 p.1 ne).trans e, n, ne, nf, d⟩
  · refine (I.hok b ob e).stay (fun c w' hc q => (hs.2 c ?_).trans q) (fun _ q => q) fun _ _ q => q
    intro z
    subst z
    rcases hc with hc | hc
    · rw [← hc, I.free] at e
      cases e
    · rw [I.free] at hc
      cases hc
/-- the name goes while an exception is noted at this frame -/
theorem air_gone {M : Model} {A : Around} {E : Value → Shared → Prop} {i : Nat} {n : Str} {pos : Pos} {a : Addr} {B : Heap} {Z : Obj → Prop} {s' : Shared} {l : List Env} (I : Inv X pins σ H s) (hN : X.N.Nodup) (hi : X.N[i]? = some n) (hl : X.env.kindOf n = some .local)
    (nb : ∀ b o, s.heap.get? b = some o → b ∉ frs X.stack → B.get? b = some o) (up : s.heap.UpToSlots s'.heap) (hd : HandSPX.HeldZ B l a Z X.env.locals s'.heap) (hB : B.get? X.env.locals = none) (hst : X.env.locals ∈ frs X.stack) (os : s'.os = s.os) (ag : AllBare s'.gens) :
    wpAny M A (do bindName X.env n .none; unbindBehindTheSuite X.env n pos) (fun _ s4 => ∃ sI, Inv X pins (σ.set i none) H sI ∧ (∀ b o, sI.heap.get? b = some o → b ∉ frs X.stack → B.get? b = some o) ∧ sI.heap.UpToSlots s4.heap ∧
      HandSPX.HeldZ B l a Z X.env.locals s4.heap ∧ s4.os = sI.os ∧ AllBare s4.gens) E s' := by
  obtain ⟨m, hn, _⟩ := id I.loc
  have hn2 := up.ns hn
  have hcls : (X.env.scope.kind == .class || (X.env.scope.kind == .module && X.env.locals != X.env.globals)) = false := by rw [I.ok.kind]; rfl
  refine wpAny_nameGoes_keeps hl hn2 hcls fun h' v hn' hs => ?_
  obtain ⟨oL, es, ep, hoL, hdL⟩ := ns_dict hn
  obtain ⟨oL', es', ep', hoL', hdL'⟩ := ns_dict hn'
  have nfL : ∀ vs, oL'.data ≠ .fields vs := fun vs z => by rw [hdL'] at z; cases z
  -- the state without the exception, the name gone there too
  have gL : (s.heap.update X.env.locals fun _ => oL').get? X.env.locals = some oL' := Heap.get?_update_self _ hoL (by
    obtain ⟨c0, d0, dt0, sl0⟩ := oL'
    have z : dt0 = .dict es' ep' := hdL'
    subst z
    rfl)
  have hsI : Heap.SameBut X.env.locals s.heap (s.heap.update X.env.locals fun _ => oL') := Heap.SameBut.update _ _ _
  have hnI : (s.heap.update X.env.locals fun _ => oL').Ns X.env.locals (fun x => if x = n then v else m x) := hn'.at fun o q => by
    rw [hoL'] at q
    cases q
    exact gL
  have J : Inv X pins (σ.set i none) H { s with heap := s.heap.update X.env.locals fun _ => oL', toks := s.toks } := gone_inv I hN hi hn hnI (fun y hy => if_neg hy) hsI
  refine ⟨_, J, fun b o q hb => ?_, fun b o q nf => ?_, ?_, os, ag⟩
  · by_cases e : b = X.env.locals
    · exact absurd (by rw [e]; exact hst) hb
    · exact nb b o ((hsI.2 b e).symm.trans q) hb
  · by_cases e : b = X.env.locals
    · subst e
      rw [show (s.heap.update X.env.locals fun _ => oL').get? X.env.locals = some o from q] at gL
      cases gL
      exact ⟨_, hoL'⟩
    · obtain ⟨sl, z⟩ := up b o ((hsI.2 b e).symm.trans q) nf
      exact ⟨sl, (hs.2 b e).trans z⟩
  · obtain ⟨k1, k2, k3, oe, vs, T, oT, ts, he, hz, hd, h1, hnT, hTe, hT, hdT, h3⟩ := hd
    have notL : ∀ {b : Addr} {o : Obj} {vs : Array Value}, s'.heap.get? b = some o → o.data = .fields vs → b ≠ X.env.locals := fun {b o vs} q d z => by
      obtain ⟨o3, e3, p3, q3, d3⟩ := ns_dict hn2
      rw [z, q3] at q
      cases q
      rw [d3] at d
      cases d
    refine ⟨fun b o q => ?_, k2, funFrames_but hs ⟨oL', hoL', nfL⟩ k3, oe, vs, T, oT, ts, (hs.2 a (notL he hd)).trans he, hz, hd, h1, hnT, hTe, (hs.2 T (notL hT hdT)).trans hT, hdT, h3⟩
    have ne : b ≠ X.env.locals := fun z => by
      rw [z, hB] at q
      cases q
    exact (hs.2 b ne).trans (k1 b o q)
end
/-- the context of a suite whose exceptions are told by xe -/
abbrev suiteE (X : Cx) (a : Addr) (pn : List (Addr × Obj)) (xe : Value → Shared → Prop) : Cx := { L2H.suiteX X a pn with xe := xe }
/-- the wish of a clause that takes all that the body raises -/
def wAsX (K : PySem.W.Frag) (c : Value) (i : Nat) (ts : Addr → Value → Option Addr → TS) (D : Ends) : WX := fun cls d σ H => PySem.W.exmOne K cls c = some true ∧
  ∀ a, H a = none → ts a cls d { nx := fun σ' H' => D.nx (σ'.set i none) H', rt := D.rt, bk := fun σ' H' => D.bk (σ'.set i none) H', ct := fun σ' H' => D.ct (σ'.set i none) H' } (σ.set i (some (.ref a))) H
section
variable {X : Cx} {x n : Str} {c : Value} {i : Nat} {body suite : List Stmt} {b₀ : Stmt} {np pos pos' : Pos} {tb : WX → TS} {ts : Addr → Value → Option Addr → TS} {Wout : WX}
theorem suite_leave {a : Addr} {oe : Obj} {pins : List (Addr × Obj)} {xe EE : Value → Shared → Prop} {u2 : Value} {s2 : Shared} (hs : X.stack = X.env :: X.outer) (hf : X.env.frame = some X.env.locals) (hN : X.N.Nodup) (hi : X.N[i]? = some n) (hln : X.env.kindOf n = some .local) (ok : X.Ok) (tk : L2.Takes X Wout)
    (hE : ∀ e s, X.xe e s → EE e s) (x2 : L2.XE (suiteE X a ((a, oe) :: (X.pn ++ pins)) xe) (fun cls d σ H => Wout cls d (σ.set i none) H) u2 s2) :
    wpAny (model X.prog X.w) (X.A.mark (some (.ref a))) (noteFrame u2 X.env) (fun _ s3 => wpAny (model X.prog X.w) (X.A.mark (some (.ref a))) (do bindName X.env n .none; unbindBehindTheSuite X.env n pos')
      (fun _ s4 => wpAny (model X.prog X.w) (X.A.mark (some (.ref a))) (passOn "try.except-as" u2 X.env : Sem Flow) (fun _ _ => False) EE s4)
      (fun y s4 => wpAny (model X.prog X.w) (X.A.mark (some (.ref a))) (setFlight u2 none) (fun _ s5 => EE y s5) EE s4) s3) EE s2 := by
  have hfr : X.A.frames = some (X.env :: X.outer) := by rw [ok.frames, hs]
  have hst : X.env.locals ∈ frs X.stack := by
    rw [hs]
    exact List.mem_filterMap.mpr ⟨X.env, List.mem_cons_self, hf⟩
  obtain ⟨a2, B2, sI2, pn2, σ2, H2, cls2, d2, rfl, I2, nb2, up2, sky2, na2, os2, ag2, w2⟩ := x2
  have I2' : Inv X pins σ2 H2 sI2 := L2H.unsuiteX (X := X) (q := (a, oe)) (pins := pins) (Inv.unwish (X := L2H.suiteX X a ((a, oe) :: (X.pn ++ pins))) (E := xe) I2) ok
  have sky2' : Sky B2 (X.env :: X.outer) a2 (Zc cls2 d2) X.env.locals s2.heap := by rw [← hs]; exact sky2
  have hfrA : (X.A.mark (some (.ref a))).frames = some (X.env :: X.outer) := hfr
  have fin : ∀ h5, HandSPX.HeldZ B2 (X.env :: X.outer) a2 (Zc cls2 d2) X.env.locals h5 → s2.heap.UpToSlots h5 → wpAny (model X.prog X.w) (X.A.mark (some (.ref a))) (do bindName X.env n .none; unbindBehindTheSuite X.env n pos')
      (fun _ s4 => wpAny (model X.prog X.w) (X.A.mark (some (.ref a))) (passOn "try.except-as" (.ref a2) X.env : Sem Flow) (fun _ _ => False) EE s4)
      (fun y s4 => wpAny (model X.prog X.w) (X.A.mark (some (.ref a))) (setFlight (.ref a2) none) (fun _ s5 => EE y s5) EE s4) { s2 with heap := h5 } := fun h5 hh5 up5 => by
    have hB : B2.get? X.env.locals = none := by
      obtain ⟨hB, _⟩ := hh5.2.2.1.mem (List.mem_filterMap.mpr ⟨X.env, List.mem_cons_self, hf⟩)
      exact hB
    refine wpAny_mono (air_gone (s' := { s2 with heap := h5 }) I2' hN hi hln nb2 (up2.trans up5) hh5 hB hst os2 ag2) (fun _ s8 q8 => ?_) fun _ _ z => z
    obtain ⟨sI8, I8, nb8, up8, hh8, os8, ag8⟩ := q8
    obtain ⟨k1, k2, k3, tr⟩ := hh8
    obtain ⟨oe, vs, T, oT, ts', he, hz, hd, h1, hr⟩ := id tr
    unfold PySem.passOn
    refine wpAny_bind (wpAny_field he hd h1 ?_)
    rw [if_neg (show ¬ ((Value.ref T == Value.none) = true) from by simp)]
    have done : wpAny (model X.prog X.w) (X.A.mark (some (.ref a))) (setFlight (.ref a2) X.env.frame) (fun _ s9 => wpAny (model X.prog X.w) (X.A.mark (some (.ref a))) (throw (.ref a2) : Sem Flow) (fun _ _ => False) EE s9) EE s8 := by
      rw [hf]
      refine HandSPX.setFlight_anyZ k1 k3 tr fun h9 q1 q3 q4 up9 => wpAny_throw (hE _ _ (tk _ _ ?_))
      exact ⟨a2, B2, sI8, pins, _, H2, cls2, d2, rfl, I8, nb8, up8.trans up9, .inr (.inr (by rw [hs]; exact ⟨q1, k2, q3, q4⟩)), na2, os8, ag8, w2⟩
    first
      | exact wpAny_bind (wpAny_pure (wpAny_bind done))
      | exact wpAny_bind done
  rcases sky2' with ⟨hB, hn, hl, oe, vs, he, hz, hd, h1⟩ | fl | hh
  · exact HandSPX.look_newZ Zc.steady hfrA hl hf he hB hn hd h1 hz fin
  · exact HandSPX.looks_onZ Zc.steady hfrA hf fl fin
  · exact HandSPX.againZ hf hh.2.2.2 (fin s2.heap hh (Heap.UpToSlots.refl _))
theorem ps_try_asX (hs : X.stack = X.env :: X.outer) (hf : X.env.frame = some X.env.locals) (hN : X.N.Nodup) (hi : X.N[i]? = some n) (hln : X.env.kindOf n = some .local) (hc : Names X x c)
    (hpa : ∀ hd : Option Value, PassesOwnAt (model X.prog X.w) (X.A.mark hd) X.A X.env X.xe) (tk : L2.Takes X Wout)
    (hb : ∀ (W : WX) (pn : List (Addr × Obj)) (xe : Value → Shared → Prop), L2N.Takes (X.tr pn xe) W → PassesOwn (model X.prog X.w) X.A X.env xe → PSs (X.tr pn xe) body (tb W))
    (hsu : ∀ (a : Addr) (oe : Obj) (cls : Value) (d : Option Addr) (pn : List (Addr × Obj)) (xe : Value → Shared → Prop), L2N.Zn cls d oe → (∃ vs, oe.data = .fields vs) → L2.Takes (suiteE X a ((a, oe) :: pn) xe) (fun cls d σ H => Wout cls d (σ.set i none) H) →
      L2H.HotC (suiteE X a ((a, oe) :: pn) xe) → PSs (suiteE X a ((a, oe) :: pn) xe) (b₀ :: suite) (ts a cls d)) :
    PS X (.Try body [.ExceptHandler (some (.Name x np)) (some n) (b₀ :: suite) pos'] [] [] pos) (fun D σ H => tb (wAsX X.K c i ts D) D σ H) := by
  refine ⟨fun pins s σ H D I h => ?_⟩
  have ok := I.ok
  have hfr : X.A.frames = some (X.env :: X.outer) := by rw [ok.frames, hs]
  have hst : X.env.locals ∈ frs X.stack := by
    rw [hs]
    exact List.mem_filterMap.mpr ⟨X.env, List.mem_cons_self, hf⟩
  have hloc : Loc X.env.scope n := .inl hln
  have notFr : ∀ {B h : Heap} {a : Addr} {o : Obj} {vs : Array Value}, h.FunFrames B (X.env :: X.outer) → h.get? a = some o → o.data = .fields vs → a ∉ frs (X.env :: X.outer) := fun {B h a o vs} ff e dd hm => by
    obtain ⟨_, o', e', hnf⟩ := ff.mem hm
    rw [e] at e'
    cases e'
    exact hnf _ dd
  refine wpAny_Try_except ?_
  refine wpAny_mono ((hb (wAsX X.K c i ts D) (X.pn ++ pins) (fun e s₁ => wpAny (model X.prog X.w) X.A (noteFrame e X.env) (fun _ s₂ => wpAny (model X.prog X.w) X.A (setFlight e none) (fun _ s₃ =>
    wpAny (model X.prog X.w) X.A (handleBy e X.env [.ExceptHandler (some (.Name x np)) (some n) (b₀ :: suite) pos']) (SP X pins D) X.xe s₃) X.xe s₂) X.xe s₁) (fun u s' xx => ?_) PassesOwn.looking).run [] s σ H D (I.toTry _) h) (fun f s1 hsp => ?_) (fun e s1 he => he)
  · obtain ⟨a, B, sI, pins', σ', H', cls, d, rfl, J', nb, up, sky, na, os, ag, hb1, hyes⟩ := xx
    have J : Inv X pins σ' H' sI := J'.ofTry ok
    have sky' : Sky B (X.env :: X.outer) a (L2N.Zn cls d) X.env.locals s'.heap := by rw [← hs]; exact sky
    show wpAny (model X.prog X.w) X.A (noteFrame (.ref a) X.env) _ _ _
    refine L2N.Sky.land L2N.Zn.steady hfr hf sky' fun h3 fl3 up3 => ?_
    have J3 : Inv X pins σ' H' { s' with heap := h3 } := J.landed nb fl3.1 (up.trans up3) os ag
    obtain ⟨oe3, vs3, he3, hz3, hd3⟩ := fl3.there
    have nfr : a ∉ frs (X.env :: X.outer) := notFr fl3.2.2.1 he3 hd3
    have nL : a ≠ X.env.locals := fun z => nfr (List.mem_filterMap.mpr ⟨X.env, List.mem_cons_self, by rw [hf, z]⟩)
    have nF : a ∉ X.fs := fun hm => by
      obtain ⟨e, he, q⟩ := List.mem_filterMap.mp hm
      exact nfr (List.mem_filterMap.mpr ⟨e, List.mem_cons_of_mem _ he, q⟩)
    have S3 := J3.suite he3 hd3 na nL nF
    refine wpAny_handleBy_cons (codeAny_handlers_test ?_) (by intro q; cases q)
    have LT : PySem.W.Looks (model X.prog X.w) h3 (typeOf (.ref a)) cls := fun A Q E s k q => wpAny_typeOf_ref (k _ _ he3) (by rw [hz3.1]; exact q)
    have LM := PySem.W.exm_one (M := model X.prog X.w) (J3.kIn) LT hb1
    have test : ∀ {Q : Value → Shared → Prop} {E : Value → Shared → Prop}, Q c { s' with heap := h3 } → wpAny (model X.prog X.w) (X.A.mark (some (.ref a))) (eval (.Name x np) X.env) Q E { s' with heap := h3 } := fun {Q E} q => by
      obtain ⟨hg, hdbg, hm | ⟨hm, hv, hnn⟩⟩ := hc
      · exact ld_glob (X := X.suite a ((a, oe3) :: (X.pn ++ pins))) S3 hg hm q hdbg
      · exact ld_blt (X := X.suite a ((a, oe3) :: (X.pn ++ pins))) S3 hg hm hv q hnn hdbg
    refine test (LM.here ?_)
    refine codeAny_handlers_suite_as ?_
    refine HandSPX.lands_againZ fl3 fun h4 fl4 up4 => ?_
    have J4 : Inv X pins σ' H' { s' with heap := h4 } := J.landed nb fl4.1 ((up.trans up3).trans up4) os ag
    obtain ⟨oe4, vs4, he4, hz4, hd4⟩ := fl4.there
    have S4 := J4.suite he4 hd4 na nL nF
    refine store_ok (X := X.suite a ((a, oe4) :: (X.pn ++ pins))) (v := .ref a) S4 hN hi hloc rfl (fun s5 S5 => ?_) (.inr hln)
    have hot : ∀ xe, L2H.HotC (suiteE X a ((a, oe4) :: (X.pn ++ pins)) xe) := fun xe => ⟨(a, oe4), ⟨rfl, vs4, hd4, hz4.2.2 vs4 hd4⟩, List.mem_cons_self⟩
    -- what of the suite's exceptions is wished
    refine wpAny_mono ((hsu a oe4 cls d (X.pn ++ pins) _ hz4 ⟨_, hd4⟩ (fun u2 s2 x2 => ?_) (hot _)).run [] s5 _ H' _ (Inv.unwish (X := suiteE X a ((a, oe4) :: (X.pn ++ pins)) _) (E := fun _ _ => False) S5) (hyes a na)) (fun f s6 hsp => ?_) (fun e6 s6 z => z)
    · exact suite_leave hs hf hN hi hln ok tk (fun e s z => hpa (some (.ref a)) e s z) x2
    · have hsp' : SP (X.suite a ((a, oe4) :: (X.pn ++ pins))) [] { nx := fun σ' H' => D.nx (σ'.set i none) H', rt := D.rt, bk := fun σ' H' => D.bk (σ'.set i none) H', ct := fun σ' H' => D.ct (σ'.set i none) H' } f s6 := by
        cases f with
        | next =>
          obtain ⟨σ6, H6, S6, q6⟩ := hsp
          exact ⟨σ6, H6, S6.wish _, q6⟩
        | brk =>
          obtain ⟨σ6, H6, S6, q6⟩ := hsp
          exact ⟨σ6, H6, S6.wish _, q6⟩
        | cont =>
          obtain ⟨σ6, H6, S6, q6⟩ := hsp
          exact ⟨σ6, H6, S6.wish _, q6⟩
        | ret u =>
          obtain ⟨v6, σ6, H6, S6, r6, q6⟩ := hsp
          exact ⟨v6, σ6, H6, S6.wish _, r6, q6⟩
      have end_ : ∀ {σ6 : L2.St} {H6 : Hp} {Q : Shared → Prop} {E : Value → Shared → Prop}, Inv (X.suite a ((a, oe4) :: (X.pn ++ pins))) [] σ6 H6 s6 → (∀ s7, Inv X pins (σ6.set i none) H6 s7 → Q s7) →
          wpAny (model X.prog X.w) X.A (do bindName X.env n .none; unbindBehindTheSuite X.env n pos') (fun _ s7 => Q s7) E s6 := fun {σ6 H6 Q E} S6 hq => gone_ok (S6.unsuite ok) hN hi hln hq
      cases f with
      | next =>
        obtain ⟨σ6, H6, S6, q6⟩ := hsp'
        exact end_ S6 fun s7 J7 => ⟨_, _, J7, q6⟩
      | brk =>
        obtain ⟨σ6, H6, S6, q6⟩ := hsp'
        exact end_ S6 fun s7 J7 => ⟨_, _, J7, q6⟩
      | cont =>
        obtain ⟨σ6, H6, S6, q6⟩ := hsp'
        exact end_ S6 fun s7 J7 => ⟨_, _, J7, q6⟩
      | ret u =>
        obtain ⟨v6, σ6, H6, S6, r6, q6⟩ := hsp'
        exact end_ S6 fun s7 J7 => ⟨_, _, _, J7, r6, q6⟩
  · cases f with
    | next =>
      obtain ⟨σ', H', J', q⟩ := hsp
      exact wpAny_execs_nil ⟨σ', H', J'.ofTry ok, q⟩
    | brk =>
      obtain ⟨σ', H', J', q⟩ := hsp
      exact ⟨σ', H', J'.ofTry ok, q⟩
    | cont =>
      obtain ⟨σ', H', J', q⟩ := hsp
      exact ⟨σ', H', J'.ofTry ok, q⟩
    | ret u =>
      obtain ⟨v, σ', H', J', r, q⟩ := hsp
      exact ⟨v, σ', H', J'.ofTry ok, r, q⟩
end
end K39
set_option Elab.async false
set_option linter.all false
set_option maxRecDepth 100000
set_option maxHeartbeats 4000000
namespace K39
open PySem PySem.Spec PyProof.Rows L2
/-! ### a caught error's field, in a suite that raises -/
section
variable {X : Cx} {pins : List (Addr × Obj)} {σ : L2.St} {H : Hp} {s : Shared}
theorem pe_xfE {a C : Addr} {oe : Obj} {cls : Value} {d : Option Addr} {pn : List (Addr × Obj)} {xe : Value → Shared → Prop} {e : Expr} {te : TE} {pos : Pos} {n : Str} (T : XfC X.K C) (hno : PySem.W.findIn X.K (.ref C) n = some none)
    (hz : Zc cls d oe) (hf : ∃ vs, oe.data = .fields vs) (he : PE (suiteE X a ((a, oe) :: pn) xe) e te) (hb : attributeBase e n X.env (eval e X.env) = eval e X.env := by rfl) :
    PE (suiteE X a ((a, oe) :: pn) xe) (.Attribute e n pos) (tXf a cls d C n te) := by
  refine ⟨fun pins s σ H Q I h => attr_of hb (thn (he.run pins s σ H _ I h) fun u s1 hh => ?_)⟩
  obtain ⟨x, H1, I1, rx, ex, ec, dd, fs, v, ed, ea, l, q⟩ := hh
  subst ex ec ed
  obtain rfl : u = Value.ref a := rx
  obtain ⟨ha, _⟩ := I1.pin (a, oe) (List.mem_append_left _ List.mem_cons_self)
  obtain ⟨vs, hd⟩ := hf
  have hx : ObjOk X.prog X.w H1 s1.heap dd (.xd fs) := I1.hok dd _ ea
  obtain ⟨mA, hns, hr⟩ := hx
  obtain ⟨od, ho, hl⟩ := lookIn_ns hns
  obtain ⟨u, hu, ru⟩ := RelO.some_of (v := v) (o := mA n) (by rw [← l]; exact hr n)
  have J : PySem.W.InstAt s1.heap a oe C (some od) := ⟨ha, hz.1, by unfold PySem.W.notCls; rw [hd] <;> rfl, by rw [hz.2]; exact ho⟩
  exact HandSPX.exc_get I1.kIn J T.ga T.gg T.exC (PySem.W.findObj_own T.hdC hno rfl (by rw [hl, hu])) (handed_of ru) ⟨v, H1, I1.tok _, ru, q⟩
/-! ### an exception that is kept behind its clause -/
/-- at a: a caught exception -/
def exq (a : Addr) (cls : Value) (d : Option Addr) : HO := .ext fun h => ∃ (oe : Obj) (vs : Array Value), h.get? a = some oe ∧ oe.cls = cls ∧ oe.dict = d ∧ oe.data = .fields vs
theorem exq_ok {P : Program} {w : World} {H : Hp} {h : Heap} {a : Addr} {cls : Value} {d : Option Addr} {oe : Obj} {vs : Array Value} (he : h.get? a = some oe) (hz : Zc cls d oe) (hd : oe.data = .fields vs) : ObjOk P w H h a (exq a cls d) :=
  ⟨⟨oe, vs, he, hz.1, hz.2, hd⟩, ⟨_, he⟩, fun h1 h2 z k => by
    obtain ⟨o, v, q, r⟩ := z
    exact ⟨o, v, k _ q, r⟩⟩
theorem exq_at {P : Program} {w : World} {H : Hp} {h : Heap} {a : Addr} {cls : Value} {d : Option Addr} (hok : HOk P w H h) (he : H a = some (exq a cls d)) : ∃ (oe : Obj) (vs : Array Value), h.get? a = some oe ∧ oe.cls = cls ∧ oe.dict = d ∧ oe.data = .fields vs := by
  have x : ObjOk P w H h a (.ext fun h => ∃ (oe : Obj) (vs : Array Value), h.get? a = some oe ∧ oe.cls = cls ∧ oe.dict = d ∧ oe.data = .fields vs) := hok a _ he
  exact x.1
/-- an object that no one told of is tracked from now on -/
theorem track {a : Addr} {oe : Obj} {vs : Array Value} {o : HO} (I : Inv X pins σ H s) (he : s.heap.get? a = some oe) (hd : oe.data = .fields vs) (na : H a = none) (n0 : X.s_0.heap.get? a = none) (nL : a ≠ X.env.locals) (np : ∀ p ∈ X.pn ++ pins, p.1 ≠ a)
    (ok : ObjOk X.prog X.w (upd H a o) s.heap a o) : Inv X pins σ (upd H a o) s := by
  have nt : ∀ {b : Addr} {u : HO}, H b = some u → b ≠ a := fun {b u} q z => by
    rw [z, na] at q
    cases q
  refine ⟨I.ok, I.os, I.bare, ⟨I.base.keep, I.base.slot, fun b u q n hx => ?_, I.base.there, fun b xs q => ?_, fun b u v q => ?_, fun b ps q => ?_⟩, I.loc, I.cell, ?_, fun x c q => ?_, fun p hp => ?_, fun b u q => ?_, I.len⟩
  · rw [upd_ne fun z => by rw [z, n0] at q; cases q]
    exact I.base.free b u q n hx
  · have z := I.base.tups b xs q
    rw [upd_ne (nt z)]
    exact z
  · have z := I.base.frzs b u v q
    rw [upd_ne (nt z)]
    exact z
  · obtain ⟨more, z⟩ := I.base.tbls b ps q
    exact ⟨more, by rw [upd_ne (nt z)]; exact z⟩
  · rw [upd_ne (Ne.symm nL)]
    exact I.free
  · obtain ⟨v, hc⟩ := I.cell x c q
    have ne : c ≠ a := fun z => by
      rw [z] at hc
      obtain ⟨ob, h1, h2⟩ := (show ∃ ob, s.heap.get? a = some ob ∧ ob.data = .cell v from by first | exact hc | exact ⟨_, hc, rfl⟩)
      rw [he] at h1
      cases h1
      rw [hd] at h2
      cases h2
    rw [upd_ne ne]
    exact I.freeC x c q
  · obtain ⟨p1, p2, p3⟩ := I.pin p hp
    exact ⟨p1, by rw [upd_ne (np p hp)]; exact p2, p3⟩
  · by_cases hb : b = a
    · subst hb
      rw [upd_same] at q
      cases q
      exact ok
    · rw [upd_ne hb] at q
      exact (I.hok b u q).stay (fun _ _ _ z => z) (fun c z => by rw [upd_ne (nt z)]; exact z) fun c xs z => by rw [upd_ne (nt z)]; exact z
end
/-- what a clause that keeps its exception wishes of the body's -/
def wKp (K : PySem.W.Frag) (c : Value) (i : Nat) (ts : TS) (D : Ends) : WX := fun cls d σ H => PySem.W.exmOne K cls c = some true ∧
  ∀ a, H a = none → ts { nx := fun σ' H' => D.nx (σ'.set i none) H', rt := D.rt, bk := fun σ' H' => D.bk (σ'.set i none) H', ct := fun σ' H' => D.ct (σ'.set i none) H' } (σ.set i (some (.ref a))) (upd H a (exq a cls d))
section
variable {X : Cx} {x n : Str} {c : Value} {i : Nat} {body suite : List Stmt} {b₀ : Stmt} {np pos pos' : Pos} {tb : WX → TS} {ts : TS}
theorem ps_try_keep (hs : X.stack = X.env :: X.outer) (hf : X.env.frame = some X.env.locals) (hex : X.ex = []) (hN : X.N.Nodup) (hi : X.N[i]? = some n) (hln : X.env.kindOf n = some .local) (hc : Names X x c)
    (hb : ∀ (W : WX) (pn : List (Addr × Obj)) (xe : Value → Shared → Prop), L2.Takes (X.tr pn xe) W → PassesOwn (model X.prog X.w) X.A X.env xe → PSs (X.tr pn xe) body (tb W))
    (hsu : ∀ (a : Addr) (pn : List (Addr × Obj)), PSs (X.suite a pn) (b₀ :: suite) ts) :
    PS X (.Try body [.ExceptHandler (some (.Name x np)) (some n) (b₀ :: suite) pos'] [] [] pos) (fun D σ H => tb (wKp X.K c i ts D) D σ H) := by
  refine ⟨fun pins s σ H D I h => ?_⟩
  have ok := I.ok
  have hfr : X.A.frames = some (X.env :: X.outer) := by rw [ok.frames, hs]
  have hloc : Loc X.env.scope n := .inl hln
  refine wpAny_Try_except ?_
  refine wpAny_mono ((hb (wKp X.K c i ts D) (X.pn ++ pins) (fun e s₁ => wpAny (model X.prog X.w) X.A (noteFrame e X.env) (fun _ s₂ => wpAny (model X.prog X.w) X.A (setFlight e none) (fun _ s₃ =>
    wpAny (model X.prog X.w) X.A (handleBy e X.env [.ExceptHandler (some (.Name x np)) (some n) (b₀ :: suite) pos']) (SP X pins D) X.xe s₃) X.xe s₂) X.xe s₁) (fun u s' xx => ?_) PassesOwn.looking).run [] s σ H D (I.toTry _) h) (fun f s1 hsp => ?_) (fun e s1 he => he)
  · obtain ⟨a, B, sI, pins', σ', H', cls, d, rfl, J', nb, up, sky, na, os, ag, hb1, hyes⟩ := xx
    have J : Inv X pins σ' H' sI := J'.ofTry ok
    have sky' : Sky B (X.env :: X.outer) a (Zc cls d) X.env.locals s'.heap := by rw [← hs]; exact sky
    show wpAny (model X.prog X.w) X.A (noteFrame (.ref a) X.env) _ _ _
    refine Sky.land Zc.steady hfr hf sky' fun h3 fl3 up3 => ?_
    have J3 : Inv X pins σ' H' { s' with heap := h3 } := J.landed nb fl3.1 (up.trans up3) os ag
    obtain ⟨oe3, vs3, he3, hz3, hd3⟩ := fl3.there
    have notFr : ∀ {h : Heap} {o : Obj} {vs : Array Value}, h.FunFrames B (X.env :: X.outer) → h.get? a = some o → o.data = .fields vs → a ∉ frs (X.env :: X.outer) := fun {h o vs} ff e dd hm => by
      obtain ⟨_, o', e', hnf⟩ := ff.mem hm
      rw [e] at e'
      cases e'
      exact hnf _ dd
    have nfr := notFr fl3.2.2.1 he3 hd3
    have nL : a ≠ X.env.locals := fun z => nfr (List.mem_filterMap.mpr ⟨X.env, List.mem_cons_self, by rw [hf, z]⟩)
    have nF : a ∉ X.fs := fun hm => by
      obtain ⟨e, he, q⟩ := List.mem_filterMap.mp hm
      exact nfr (List.mem_filterMap.mpr ⟨e, List.mem_cons_of_mem _ he, q⟩)
    have S3 := J3.suite he3 hd3 na nL nF
    refine wpAny_handleBy_cons (codeAny_handlers_test ?_) (by intro q; cases q)
    have LT : PySem.W.Looks (model X.prog X.w) h3 (typeOf (.ref a)) cls := fun A Q E s k q => wpAny_typeOf_ref (k _ _ he3) (by rw [hz3.1]; exact q)
    have LM := PySem.W.exm_one (M := model X.prog X.w) (J3.kIn) LT hb1
    have test : ∀ {Q : Value → Shared → Prop} {E : Value → Shared → Prop}, Q c { s' with heap := h3 } → wpAny (model X.prog X.w) (X.A.mark (some (.ref a))) (eval (.Name x np) X.env) Q E { s' with heap := h3 } := fun {Q E} q => by
      obtain ⟨hg, hdbg, hm | ⟨hm, hv, hnn⟩⟩ := hc
      · exact ld_glob (X := X.suite a ((a, oe3) :: (X.pn ++ pins))) S3 hg hm q hdbg
      · exact ld_blt (X := X.suite a ((a, oe3) :: (X.pn ++ pins))) S3 hg hm hv q hnn hdbg
    refine test (LM.here ?_)
    refine codeAny_handlers_suite_as ?_
    refine HandSPX.lands_againZ fl3 fun h4 fl4 up4 => ?_
    have J4 : Inv X pins σ' H' { s' with heap := h4 } := J.landed nb fl4.1 ((up.trans up3).trans up4) os ag
    obtain ⟨oe4, vs4, he4, hz4, hd4⟩ := fl4.there
    -- the exception is an object of ours from now on
    have nfrX : a ∉ frs X.stack := by
      rw [hs]
      exact nfr
    have hBa : B.get? a = none := fl4.2.1
    have n0 : X.s_0.heap.get? a = none := by
      cases q : X.s_0.heap.get? a with
      | none => rfl
      | some o0 =>
        obtain ⟨o1, q1⟩ := J.base.there a o0 q (by rw [hex]; simp)
        have z := nb a o1 q1 nfrX
        rw [hBa] at z
        cases z
    have np : ∀ p ∈ X.pn ++ pins, p.1 ≠ a := fun p hp z => by
      obtain ⟨p1, p2, p3, p4, p5⟩ := J.pin p hp
      have q := nb p.1 p.2 p1 (by rw [z]; exact nfrX)
      rw [z, hBa] at q
      cases q
    have T4 : Inv X pins σ' (upd H' a (exq a cls d)) { s' with heap := h4 } := track J4 he4 hd4 na n0 nL np (exq_ok he4 hz4 hd4)
    have S4 : Inv (X.suite a (X.pn ++ pins)) [] σ' (upd H' a (exq a cls d)) { s' with heap := h4 } :=
      ⟨T4.ok.suite _ _, T4.os, T4.bare, T4.base, T4.loc, T4.cell, T4.free, T4.freeC, fun p hp => T4.pin p (by rw [List.append_nil] at hp; exact hp), T4.hok, T4.len⟩
    refine store_ok (X := X.suite a (X.pn ++ pins)) (v := .ref a) S4 hN hi hloc rfl (fun s5 S5 => ?_) (.inr hln)
    refine wpAny_mono ((hsu a (X.pn ++ pins)).run [] s5 _ _ _ S5 (hyes a na)) (fun f s6 hsp => ?_) (fun _ _ z => False.elim z)
    have end_ : ∀ {σ6 : L2.St} {H6 : Hp} {Q : Shared → Prop}, Inv (X.suite a (X.pn ++ pins)) [] σ6 H6 s6 → (∀ s7, Inv X pins (σ6.set i none) H6 s7 → Q s7) →
        wpAny (model X.prog X.w) X.A (do bindName X.env n .none; unbindBehindTheSuite X.env n pos') (fun _ s7 => Q s7) X.xe s6 := fun {σ6 H6 Q} S6 hq =>
      gone_ok (⟨ok, S6.os, S6.bare, S6.base, S6.loc, S6.cell, S6.free, S6.freeC, fun p hp => S6.pin p (by rw [List.append_nil]; exact hp), S6.hok, S6.len⟩ : Inv X pins σ6 H6 s6) hN hi hln hq
    cases f with
    | next =>
      obtain ⟨σ6, H6, S6, q6⟩ := hsp
      exact end_ S6 fun s7 J7 => ⟨_, _, J7, q6⟩
    | brk =>
      obtain ⟨σ6, H6, S6, q6⟩ := hsp
      exact end_ S6 fun s7 J7 => ⟨_, _, J7, q6⟩
    | cont =>
      obtain ⟨σ6, H6, S6, q6⟩ := hsp
      exact end_ S6 fun s7 J7 => ⟨_, _, J7, q6⟩
    | ret u =>
      obtain ⟨v6, σ6, H6, S6, r6, q6⟩ := hsp
      exact end_ S6 fun s7 J7 => ⟨_, _, _, J7, r6, q6⟩
  · cases f with
    | next =>
      obtain ⟨σ', H', J', q⟩ := hsp
      exact wpAny_execs_nil ⟨σ', H', J'.ofTry ok, q⟩
    | brk =>
      obtain ⟨σ', H', J', q⟩ := hsp
      exact ⟨σ', H', J'.ofTry ok, q⟩
    | cont =>
      obtain ⟨σ', H', J', q⟩ := hsp
      exact ⟨σ', H', J'.ofTry ok, q⟩
    | ret u =>
      obtain ⟨v, σ', H', J', r, q⟩ := hsp
      exact ⟨v, σ', H', J'.ofTry ok, r, q⟩
end
/-! ### isinstance and a field of a kept exception -/
structure KeptC (K : PySem.W.Frag) (D : Addr) : Prop where
  xf : XfC K D
  ha : PySem.W.findIn K (.ref D) "__class__" = some (some (.builtin "object.__class__"))
  hn : PySem.W.specialIn K (.builtin "object.__class__") "__get__" = some (some (.builtin "getset_descriptor.__get__"))
  ht : PySem.W.takesIn K (.builtin "object.__class__") = some true
  hm : PySem.W.mroIn K D (.type "object") = some true
def rIsq (K : PySem.W.Frag) : List V → Hp → VK → Prop := fun xs H Q => ∃ (a D C dd : Addr) (fs : List (Str × V)) (b : Bool), xs = [.ref a, .ref C] ∧ H a = some (exq a (.ref D) (some dd)) ∧ H dd = some (.xd fs) ∧ KeptC K D ∧ PySem.W.kitOne K (.ref D) (.ref C) = some b ∧ Q (.bl b) H
theorem call_isq {X : Cx} : CallR X (.builtin "isinstance") (rIsq X.K) := by
  intro pins s σ H xs us Q I r h
  obtain ⟨a, D, C, dd, fs, b, rfl, ha, hd, T, e, q⟩ := h
  obtain ⟨u1, u2, rfl, r1, r2⟩ := vals2 r
  obtain rfl : u1 = Value.ref a := r1
  obtain rfl : u2 = Value.ref C := r2
  obtain ⟨oe, vs, he, hc, hdi, hv⟩ := exq_at I.hok ha
  have hx : ObjOk X.prog X.w H s.heap dd (.xd fs) := I.hok dd _ hd
  obtain ⟨mA, hns, hr⟩ := hx
  obtain ⟨od, ho, hl⟩ := lookIn_ns hns
  have J : PySem.W.InstAt s.heap a oe D (some od) := ⟨he, hc, by unfold PySem.W.notCls; rw [hv] <;> rfl, by rw [hdi]; exact ho⟩
  have hcl : (PySem.W.clsIn X.K D).isSome = true := by
    obtain ⟨cd, hcd, _⟩ := PySem.W.any_some T.xf.hdC
    rw [hcd]
    rfl
  exact PySem.W.kia_one (PySem.W.kitx_exc hcl T.xf.ga T.xf.gg T.xf.exC T.ha T.hn T.ht T.hm) I.kIn J e (fun z => nomatch z) fun tk => ⟨.bl b, H, I.tok tk, rfl, q⟩
def tXq (K : PySem.W.Frag) (f : Str) (te : TE) : TE := fun σ H Q => te σ H fun x H1 => ∃ (a D dd : Addr) (fs : List (Str × V)) (v : V), x = .ref a ∧ H1 a = some (exq a (.ref D) (some dd)) ∧ H1 dd = some (.xd fs) ∧ XfC K D ∧ PySem.W.findIn K (.ref D) f = some none ∧ fs.lookup f = some v ∧ Q v H1
theorem pe_xq {X : Cx} {e : Expr} {te : TE} {pos : Pos} {f : Str} (he : PE X e te) (hb : attributeBase e f X.env (eval e X.env) = eval e X.env := by rfl) : PE X (.Attribute e f pos) (tXq X.K f te) := by
  refine ⟨fun pins s σ H Q I h => attr_of hb (thn (he.run pins s σ H _ I h) fun u s1 hh => ?_)⟩
  obtain ⟨x, H1, I1, rx, a, D, dd, fs, v, ex, ha, hd, T, hno, l, q⟩ := hh
  subst ex
  obtain rfl : u = Value.ref a := rx
  obtain ⟨oe, vs, he, hc, hdi, hv⟩ := exq_at I1.hok ha
  have hx : ObjOk X.prog X.w H1 s1.heap dd (.xd fs) := I1.hok dd _ hd
  obtain ⟨mA, hns, hr⟩ := hx
  obtain ⟨od, ho, hl⟩ := lookIn_ns hns
  obtain ⟨u, hu, ru⟩ := RelO.some_of (v := v) (o := mA f) (by rw [← l]; exact hr f)
  have J : PySem.W.InstAt s1.heap a oe D (some od) := ⟨he, hc, by unfold PySem.W.notCls; rw [hv] <;> rfl, by rw [hdi]; exact ho⟩
  exact HandSPX.exc_get I1.kIn J T.ga T.gg T.exC (PySem.W.findObj_own T.hdC hno rfl (by rw [hl, hu])) (handed_of ru) ⟨v, H1, I1.tok _, ru, q⟩
end K39
set_option Elab.async false
set_option linter.all false
set_option maxRecDepth 100000
set_option maxHeartbeats 4000000
namespace PySem
open Sem (wp)
/-! ### enumerate(v), v begun by a new iterator, or an iterator itself -/
theorem k39_enum_newB {v : Value} {o : Obj} {H : Heap → Prop} (B : Begins v o H) :
    Meets (Builtin.«enumerate.__new__» ⟨[.type "enumerate", v], []⟩) (fun _ R s => H s.heap ∧
      R (.ok (.ret (.ref (s.heap.push o).objs.size))) { s with heap := (s.heap.push o).push { cls := .type "enumerate", data := .fields #[.none, .bool false, .ref s.heap.objs.size, rawInt 0, .none, .none] } }) :=
  .of_wp fun prog w A R s h => by
    obtain ⟨hp, g, d, tk, os⟩ := s; obtain ⟨h1, h⟩ := h
    have hsub := sub_enumerate
    have q1 : ∀ {A' : Around} {E : Value → Shared → Prop} {Q : Value → Shared → Prop}, Q (.ref hp.objs.size) ⟨hp.push o, g, d, tk, os⟩ → wpAny (model prog w) A' (pyIter v) Q E ⟨hp, g, d, tk, os⟩ :=
      fun q => B.iter prog w _ _ ⟨hp, g, d, tk, os⟩ _ h1 q
    wp_walk using q1
    refine wpAny_stack_any fun st => wpAny_pure ?_
    split
    · rename_i c _ _ _ _ _
      cases (c == Value.type "enumerate")
      · wp_walk using q1
        exact ⟨_, rfl, h⟩
      · wp_walk using q1
        exact ⟨_, rfl, h⟩
    · wp_walk using q1
      exact ⟨_, rfl, h⟩
theorem k39_enum_newS {v : Value} {z : Addr} {H : Heap → Prop} (B : ∀ (prog : Program) (w : World) (A : Around) (E : Value → Shared → Prop) (s : Shared) (Q : Value → Shared → Prop), H s.heap → Q (.ref z) s → wpAny (model prog w) A (pyIter v) Q E s) :
    Meets (Builtin.«enumerate.__new__» ⟨[.type "enumerate", v], []⟩) (fun _ R s => H s.heap ∧
      R (.ok (.ret (.ref s.heap.objs.size))) { s with heap := s.heap.push { cls := .type "enumerate", data := .fields #[.none, .bool false, .ref z, rawInt 0, .none, .none] } }) :=
  .of_wp fun prog w A R s h => by
    obtain ⟨hp, g, d, tk, os⟩ := s; obtain ⟨h1, h⟩ := h
    have hsub := sub_enumerate
    have q1 : ∀ {A' : Around} {E : Value → Shared → Prop} {Q : Value → Shared → Prop}, Q (.ref z) ⟨hp, g, d, tk, os⟩ → wpAny (model prog w) A' (pyIter v) Q E ⟨hp, g, d, tk, os⟩ :=
      fun q => B prog w _ _ ⟨hp, g, d, tk, os⟩ _ h1 q
    wp_walk using q1
    refine wpAny_stack_any fun st => wpAny_pure ?_
    split
    · rename_i c _ _ _ _ _
      cases (c == Value.type "enumerate")
      · wp_walk using q1
        exact ⟨_, rfl, h⟩
      · wp_walk using q1
        exact ⟨_, rfl, h⟩
    · wp_walk using q1
      exact ⟨_, rfl, h⟩
section
variable {prog : Program} {w : World} {A : Around} {E : Value → Shared → Prop} {s : Shared}
theorem k39_enum_begins {v : Value} {o : Obj} {H : Heap → Prop} {Q : Value → Shared → Prop} (B : Begins v o H) (h1 : H s.heap)
    (h : ∀ h', IsEnum h' (s.heap.objs.size + 1) s.heap.objs.size 0 .none → h'.get? s.heap.objs.size = some o → h'.objs.size = s.heap.objs.size + 2 →
      (∀ b o, s.heap.get? b = some o → h'.get? b = some o) → Q (.ref (s.heap.objs.size + 1)) { s with heap := h' }) :
    wpAny (model prog w) A (call (.type "enumerate") [v]) Q E s := by
  refine callType_new F.called_enumerate (by decide) (F.typeCall_enumerate_1 _) (F.newCall_enumerate_1 _) (fun obj => F.args_object_init_2 obj _) F.entry_enumerate_new (k39_enum_newB B) ⟨h1, ?_⟩
  have hz : (s.heap.push o).objs.size = s.heap.objs.size + 1 := Heap.size_push ..
  show _ ∧ _
  rw [hz]
  have he : IsEnum ((s.heap.push o).push { cls := .type "enumerate", data := .fields #[.none, .bool false, .ref s.heap.objs.size, rawInt 0, .none, .none] }) (s.heap.objs.size + 1) s.heap.objs.size 0 .none := by
    have := Heap.get?_push_size (s.heap.push o) (o := { cls := .type "enumerate", data := .fields #[.none, .bool false, .ref s.heap.objs.size, rawInt 0, .none, .none] }) rfl
    rw [hz] at this; exact this
  refine ⟨⟨_, he, rfl⟩, h _ he (Heap.get?_push_of_some _ (Heap.get?_push_size _ B.free)) (by rw [Heap.size_push, hz]) fun b o x => Heap.get?_push_of_some _ (Heap.get?_push_of_some _ x)⟩
theorem k39_enum_self {v : Value} {z : Addr} {H : Heap → Prop} {Q : Value → Shared → Prop} (B : ∀ (prog : Program) (w : World) (A : Around) (E : Value → Shared → Prop) (s : Shared) (Q : Value → Shared → Prop), H s.heap → Q (.ref z) s → wpAny (model prog w) A (pyIter v) Q E s) (h1 : H s.heap)
    (h : ∀ h', IsEnum h' s.heap.objs.size z 0 .none → h'.objs.size = s.heap.objs.size + 1 → (∀ b o, s.heap.get? b = some o → h'.get? b = some o) → Q (.ref s.heap.objs.size) { s with heap := h' }) :
    wpAny (model prog w) A (call (.type "enumerate") [v]) Q E s := by
  refine callType_new F.called_enumerate (by decide) (F.typeCall_enumerate_1 _) (F.newCall_enumerate_1 _) (fun obj => F.args_object_init_2 obj _) F.entry_enumerate_new (k39_enum_newS B) ⟨h1, ?_⟩
  have he : IsEnum (s.heap.push { cls := .type "enumerate", data := .fields #[.none, .bool false, .ref z, rawInt 0, .none, .none] }) s.heap.objs.size z 0 .none := Heap.get?_push_size _ rfl
  exact ⟨⟨_, he, rfl⟩, h _ he (by rw [Heap.size_push]) fun b o x => Heap.get?_push_of_some _ x⟩
end
end PySem
namespace K39
open PySem PySem.Spec PyProof.Rows L2
/-! ### for i, x in enumerate(tuple) -/
def IteT (K : PySem.W.Frag) (a : Addr) : It :=
  ⟨fun i H => ∃ (xs : List V) (x : V), SqT K H a xs ∧ xs[i]? = some x, fun i H v H' => ∃ T x, v = .ref T ∧ H T = none ∧ H' = upd H T (.tup [.int (i : Nat), x]) ∧ ∀ xs, SqT K H a xs → xs[i]? = some x, fun i H => ∃ xs : List V, SqT K H a xs ∧ xs.length ≤ i⟩
theorem turn_enumT {P : Program} {w : World} {K : PySem.W.Frag} {elts : List Expr} {kk : Nat} {tpos : Pos} (a e it : Addr) (items : Array Value) (hai : a ≠ it) (hae : a ≠ e) (hne : e ≠ it) :
    Turn P w K (.Tuple elts kk tpos) (IteT K a) [e, it] e (fun i h => (∃ old, IsEnum h e it ((i : Nat) : Int) old) ∧ h.IsTupleIter it a i) where
  mem := by simp
  obj := fun i h st b hb => by
    obtain ⟨⟨old, he⟩, ⟨o, ho, hc, hd⟩⟩ := st
    have e' : b = e ∨ b = it := by simpa using hb
    rcases e' with z | z
    · rw [z]; exact ⟨_, he, fun v q => nomatch q⟩
    · rw [z]; exact ⟨o, ho, fun v q => by rw [hd] at q; cases q⟩
  keep := fun i h h' st k => let ⟨⟨old, he⟩, hi⟩ := st; ⟨⟨old, k e (by simp) _ he⟩, hi.at fun o q => k it (by simp) o q⟩
  item := by
    intro X hP hw hK hc i pins s σ H E I hf st hg
    subst hP hw hK
    obtain ⟨⟨old, he⟩, hit⟩ := st
    obtain ⟨xs, x, hq, hx⟩ := hg
    obtain ⟨its, rv, p, hz⟩ := I.tuple hq
    obtain ⟨u, hu, ru⟩ := rv.get hx
    have hel : e < s.heap.objs.size := Heap.lt_size he
    have hil : it < s.heap.objs.size := by obtain ⟨_, q, _⟩ := hit; exact Heap.lt_size q
    have hlt : i < its.toArray.size := by
      obtain ⟨z, _⟩ := List.getElem?_eq_some_iff.mp hu
      simpa using z
    refine wpAny_pyNext_enum_itemD (Draws.tuple (prog := X.prog) (w := X.w) (A := X.A.in1) (I.ok.hd hc) it a hai its.toArray) he ⟨hit, p⟩ hlt hne (by simp [hne, Ne.symm hae]) fun y h' tk hy ho st' hT hsz hk => ?_
    have ey : y = u := by
      have q : its.toArray[i]? = some y := hy
      rw [List.getElem?_toArray, hu] at q
      exact (Option.some.inj q).symm
    subst ey
    refine ⟨_, rfl, wpAny_letOwnedTupleGo_enum (s := { s with heap := h', toks := tk + 1 }) ho fun h'' he' sb => ?_⟩
    have hT2 : h''.get? s.heap.objs.size = some { cls := .type "tuple", data := .seq #[.int i tk, y] } := (sb.2 _ (Nat.ne_of_gt hel)).trans hT
    have new : ObjOk X.prog X.w (upd H s.heap.objs.size (.tup [.int (i : Nat), x])) h'' s.heap.objs.size (.tup [.int (i : Nat), x]) :=
      ⟨by show 2 ≤ sizeLine; decide, [.int i tk, y], .cons ⟨_, rfl⟩ (.cons ru .nil), ⟨_, hT2, rfl, _, rfl⟩⟩
    have I1 : Inv X pins σ (upd H s.heap.objs.size (.tup [.int (i : Nat), x])) { s with heap := h'', toks := tk + 1 } :=
      I.turnedNew (ch := [e, it]) (fun b ob hb q => (sb.2 b (fun z => hb (by simp [z]))).trans (hk b ob (fun z => hb (by simp [z])) (fun z => hb (by simp [z])) q)) hf (Nat.le_refl _) new
    refine ⟨.ref s.heap.objs.size, _, I1, rfl, ⟨_, x, rfl, I.hok.fresh (Nat.le_refl _), rfl, fun ys hy => by rw [I.tuple_inj hy hq]; exact hx⟩, ⟨⟨y, ?_⟩, st'.1.at fun o q => (sb.2 it (Ne.symm hne)).trans q⟩, fun b hb => ?_⟩
    · have e1 : ((i + 1 : Nat) : Int) = (i : Int) + 1 := by omega
      rw [e1]; exact he'
    · have hb' : b < s.heap.objs.size := by
        have e' : b = e ∨ b = it := by simpa using hb
        rcases e' with z | z
        · rw [z]; exact hel
        · rw [z]; exact hil
      rw [upd_ne (Nat.ne_of_lt hb')]
      exact (hf b hb).1
  done := by
    intro X hP hw hK hc i pins s σ H E I hf st hg
    subst hP hw hK
    obtain ⟨⟨old, he⟩, hit⟩ := st
    obtain ⟨xs, hq, hx⟩ := hg
    obtain ⟨its, rv, p, hz⟩ := I.tuple hq
    obtain ⟨f0, f1, f2, f3, f4, f5⟩ := hf it (by simp)
    have hl := rv.length
    have hT : s.TypeIs (.ref e) "enumerate" := ⟨_, he, rfl⟩
    unfold pyNext
    refine wpAny_bind (wpAny_attempt (wpAny_callSpecial?_slot (name := Str.ofString "__next__") hT F.slot_enumerate_next
      (wpAny_call_entry F.slot_enumerate_next hT F.entry_enumerate_next ?_ (F.args_enumerate_next_1 _))))
    show wpAny _ _ (field (.ref e) 2 >>= _) _ _ _
    refine wpAny_bind (wpAny_field he rfl (x := .ref it) rfl ?_)
    refine wpAny_bind (wpAny_nextOf_tuple_end (A := X.A.in1) (I.ok.hd hc) hit p (by rw [List.getElem?_toArray]; exact List.getElem?_eq_none (by omega)) fun h' x eb hx' => ?_)
    obtain ⟨o, ho, hc⟩ := hx'
    refine wpAny_bind (wpAny_isInstance (T := "StopIteration") (b := true) ⟨o, ho, hc⟩ isSubtype_stop ?_)
    exact wpAny_pure ⟨rfl, I.turned (t' := s.toks) (fun b o hb q => eb b o hb q) f0 f1 f3 f4 f5⟩
  self := fun A i s Q E st h => let ⟨⟨_, he⟩, _⟩ := st; wpAny_pyIter_enum he h
def iEnumT (K : PySem.W.Frag) (ta : TA) : TI := fun σ H R => ta σ H fun vs H1 => ∃ a xs, vs = [.ref a] ∧ SqT K H1 a xs ∧ R (IteT K a) H1
theorem pi_enumT {X : Cx} {e : Expr} {ta : TA} {p pos tpos : Pos} {elts : List Expr} {kk : Nat} (hm : X.mg "enumerate" = none) (ha : PA X [e] ta) (hg : Gl X "enumerate" := by rfl) (hs : starEach [e] X.env = [(false, eval e X.env)] := by rfl) :
    PI X (.Tuple elts kk tpos) (.Call (.Name "enumerate" p) [e] [] pos) (iEnumT X.K ta) := by
  refine ⟨fun pins s σ H R I h => ?_⟩
  refine Call_ (ld_blt I hg hm boot_enumerate (PyProof.Rows.callWith_type1 (thn (ha.run pos pins s σ H _ I h) fun us s1 ⟨vs, H1, I1, r1, q1⟩ => ?_) hs rfl))
  obtain ⟨a, xs, ex, hq, q⟩ := q1
  subst ex
  cases r1 with
  | cons r rr =>
    cases rr
    cases r
    obtain ⟨its, rv, p', hz⟩ := I1.tuple hq
    have hal : a < s1.heap.objs.size := by obtain ⟨_, q, _⟩ := p'; exact Heap.lt_size q
    refine k39_enum_begins (begins_tuple a its.toArray) p' fun h' he hit hsz hk => wpAny_pyIter_enum he ?_
    have I2 : Inv X pins σ H1 { s1 with heap := h' } := I1.kept (t' := s1.toks) hk
    refine ⟨s1.heap.objs.size + 1, [s1.heap.objs.size + 1, s1.heap.objs.size], _, _, H1, rfl, I2, turn_enumT a (s1.heap.objs.size + 1) s1.heap.objs.size its.toArray (Nat.ne_of_lt hal) (Nat.ne_of_lt (Nat.lt_succ_of_lt hal)) (Nat.succ_ne_self _),
      ⟨⟨.none, he⟩, ⟨_, hit, rfl, rfl⟩⟩, fun b hb => ?_, q⟩
    have e' : b = s1.heap.objs.size + 1 ∨ b = s1.heap.objs.size := by simpa using hb
    have hle : s1.heap.objs.size ≤ b := by
      rcases e' with z | z
      · rw [z]; exact Nat.le_add_right _ _
      · rw [z]; exact Nat.le_refl _
    exact I1.fpOk hle (I1.hok.fresh hle)
end K39
set_option Elab.async false
set_option linter.all false
set_option maxRecDepth 100000
set_option maxHeartbeats 4000000
namespace PySem
open Sem (wp)
/-- a zip as it may stand between two turns: its first two fields are any -/
abbrev K39Zip (h : Heap) (z TI TO : Addr) (f0 f1 : Value) : Prop :=
  h.get? z = some { cls := .type "zip", dict := none, data := .fields #[f0, f1, .bool false, .ref TI, .ref TO], slots := #[] }
/-- its tuple is out, or not -/
def K39Owned (f0 : Value) : Prop := f0 = .none ∨ ∃ T : Addr, f0 = rawInt T
section
variable {prog : Program} {w : World} {A : Around} {E : Value → Shared → Prop} {s : Shared} {z TI TO i1 i2 : Addr} {fp1 fp2 : List Addr} {n1 n2 i : Nat} {P1 P2 : Nat → Value → Prop} {St1 St2 : Nat → Heap → Prop} {a1 a2 f0 f1 : Value}
theorem k39_alive {a : Addr} {Q : Option Obj → Shared → Prop} (h : Q (s.heap.get? a) s) : wpAny (model prog w) A (loadIfAlive a) Q E s := fun _ _ _ => h
theorem k39_free {Q : Bool → Shared → Prop} (hz : K39Zip s.heap z TI TO f0 f1) (ho : K39Owned f0) (h : ∀ b h' g1, K39Zip h' z TI TO f0 g1 → Heap.SameBut z s.heap h' → Q b { s with heap := h' }) :
    wpAny (model prog w) A (Builtin.SmallTypes.ownedTupleIsFree (.ref z)) Q E s := by
  unfold Builtin.SmallTypes.ownedTupleIsFree
  refine wpAny_bind (wpAny_field hz rfl (x := f0) rfl ?_)
  rcases ho with e | ⟨T, e⟩
  · subst e
    exact wpAny_pure (h true s.heap f1 hz (Heap.SameBut.refl _ _))
  · subst e
    show wpAny _ _ (loadIfAlive ((T : Int).toNat) >>= _) _ _ _
    rw [Int.toNat_natCast]
    refine wpAny_bind (k39_alive ?_)
    cases hT : s.heap.get? T with
    | none => exact wpAny_pure (h true s.heap f1 hz (Heap.SameBut.refl _ _))
    | some oT =>
      simp only [Option.isNone_some, Bool.false_eq_true, if_false]
      refine wpAny_bind (wpAny_field hz rfl (x := f1) rfl ?_)
      by_cases hf : (f1 != Value.bool true) = true
      · rw [if_pos hf]
        exact wpAny_bind (wpAny_setField_rec hz (by simp) fun h₁ hz₁ hs₁ => wpAny_pure (h false h₁ _ hz₁ hs₁))
      · rw [if_neg hf]
        exact wpAny_pure (h false s.heap f1 hz (Heap.SameBut.refl _ _))
theorem k39_zip_item {Q : Value → Shared → Prop} (S : ZipSep2 z TI TO i1 i2 fp1 fp2) (D1 : Draws prog w A i1 fp1 n1 P1 St1) (D2 : Draws prog w A i2 fp2 n2 P2 St2)
    (hz : K39Zip s.heap z TI TO f0 f1) (ho : K39Owned f0) (hTI : IsTupOf2 s.heap TI (.ref i1) (.ref i2)) (hTO : IsTupOf2 s.heap TO a1 a2) (st1 : St1 i s.heap) (st2 : St2 i s.heap) (hlt1 : i < n1) (hlt2 : i < n2)
    (hQ : ∀ x1 x2 h' tk g0 g1 b1 b2, P1 i x1 → P2 i x2 → K39Owned g0 → K39Zip h' z TI TO g0 g1 → IsTupOf2 h' TO b1 b2 → St1 (i + 1) h' → St2 (i + 1) h' → IsTupOf2 h' s.heap.objs.size x1 x2 → h'.objs.size = s.heap.objs.size + 1 →
      (∀ c o, c ≠ z → c ≠ TO → c ≠ i1 → c ≠ i2 → s.heap.get? c = some o → h'.get? c = some o) → Q (.ref s.heap.objs.size) { s with heap := h', toks := tk }) :
    wpAny (model prog w) A (Builtin.«zip.__next__» ⟨[.ref z], []⟩) (fun fin s' => ∃ v, fin = .done (.ret v) ∧ Q v s') E s := by
  obtain ⟨hp, g, d, tk0, os⟩ := s
  show wpAny _ _ (field (.ref z) 2 >>= _) _ _ _
  refine wpAny_bind (wpAny_field hz rfl (x := .bool false) rfl ?_)
  show wpAny _ _ (field (.ref z) 3 >>= _) _ _ _
  refine wpAny_bind (wpAny_field hz rfl (x := .ref TI) rfl ?_)
  refine wpAny_bind (wpAny_seqItems hTI rfl ?_)
  show wpAny _ _ (Builtin.SmallTypes.ownedTupleIsFree (.ref z) >>= _) _ _ _
  refine wpAny_bind (k39_free hz ho fun b gf f2 hzf hsf => ?_)
  replace hsf : Heap.SameBut z hp gf := hsf
  replace hzf : K39Zip gf z TI TO f0 f2 := hzf
  have hTOf : IsTupOf2 gf TO a1 a2 := hsf.extBut _ _ S.TOz hTO
  have st1f : St1 i gf := D1.over st1 hsf S.zf1
  have st2f : St2 i gf := D2.over st2 hsf S.zf2
  cases b with
  | true =>
    simp only [if_true]
    refine wpAny_bind (wpAny_rule ?_)
    refine wpAny_bind (wpAny_field hzf rfl (x := .ref TO) rfl ?_)
    refine wpAny_bind (wpAny_setField_rec hzf (by simp) fun g0 hz0 hs0 => ?_)
    replace hz0 : K39Zip g0 z TI TO .ellipsis f2 := hz0
    replace hs0 : Heap.SameBut z gf g0 := hs0
    refine wpAny_bind ?_
    simp only [List.zipIdx_cons, List.zipIdx_nil, List.forIn_cons, List.forIn_nil]
    refine wpAny_bind (wpAny_bind (wpAny_onRaise ?_))
    show wpAny _ _ (Builtin.SmallTypes.nextOf (.ref i1) >>= _) _ _ ⟨g0, g, d, tk0, os⟩
    refine wpAny_bind (D1.item i _ _ _ hlt1 (D1.over st1f hs0 S.zf1) fun x1 p1 tk1 hx1 sn1 hp1 => wpAny_pure ?_)
    replace hp1 : Heap.SameBut i1 g0 p1 := hp1
    have hU1 : IsTupOf2 p1 TO a1 a2 := hp1.extBut _ _ S.Ti1 (hs0.extBut _ _ S.TOz hTOf)
    refine wpAny_bind (wpAny_seqItems (s := ⟨p1, g, d, tk1, os⟩) hU1 rfl ?_)
    refine wpAny_bind (updateSeq_IsTupOf2 (s := ⟨p1, g, d, tk1, os⟩) hU1 fun g1 hT1 hs1 => ?_)
    replace hT1 : IsTupOf2 g1 TO x1 a2 := hT1
    replace hs1 : Heap.SameBut TO p1 g1 := hs1
    refine wpAny_bind (wpAny_letGo (wpAny_pure ?_))
    refine wpAny_bind (wpAny_bind (wpAny_onRaise ?_))
    show wpAny _ _ (Builtin.SmallTypes.nextOf (.ref i2) >>= _) _ _ ⟨g1, g, d, tk1, os⟩
    refine wpAny_bind (D2.item i _ _ _ hlt2 (D2.over (D2.over (D2.over st2f hs0 S.zf2) hp1 S.sep1_2) hs1 S.Tf2) fun x2 p2 tk2 hx2 sn2 hp2 => wpAny_pure ?_)
    replace hp2 : Heap.SameBut i2 g1 p2 := hp2
    have hU2 : IsTupOf2 p2 TO x1 a2 := hp2.extBut _ _ S.Ti2 hT1
    refine wpAny_bind (wpAny_seqItems (s := ⟨p2, g, d, tk2, os⟩) hU2 rfl ?_)
    refine wpAny_bind (updateSeq_IsTupOf2 (s := ⟨p2, g, d, tk2, os⟩) hU2 fun g2 hT2 hs2 => ?_)
    replace hT2 : IsTupOf2 g2 TO x1 x2 := hT2
    replace hs2 : Heap.SameBut TO p2 g2 := hs2
    refine wpAny_bind (wpAny_letGo (wpAny_pure (wpAny_pure ?_)))
    refine wpAny_bind (wpAny_seqItems (s := ⟨g2, g, d, tk2, os⟩) hT2 rfl ?_)
    refine wpAny_bind (wpAny_newTuple ?_)
    have hsz : g2.objs.size = hp.objs.size := by rw [hs2.1, hp2.1, hs1.1, hp1.1, hs0.1, hsf.1]
    have hzz : K39Zip g2 z TI TO .ellipsis f2 := (hs2.extBut _ _ S.TOz.symm (hp2.extBut _ _ S.zi2 (hs1.extBut _ _ S.TOz.symm (hp1.extBut _ _ S.zi1 hz0))))
    have hkk : ∀ c o, c ≠ z → c ≠ TO → c ≠ i1 → c ≠ i2 → hp.get? c = some o → g2.get? c = some o := fun c o cz cT c1 c2 e =>
      (hs2.extBut _ _ cT (hp2.extBut _ _ c2 (hs1.extBut _ _ cT (hp1.extBut _ _ c1 (hs0.extBut _ _ cz (hsf.extBut _ _ cz e))))))
    have hj1 : St1 (i + 1) g2 := (D1.over (D1.over (D1.over sn1 hs1 S.Tf1) hp2 S.sep2_1) hs2 S.Tf1)
    have hj2 : St2 (i + 1) g2 := (D2.over sn2 hs2 S.Tf2)
    have hzlt : z < g2.objs.size := Heap.lt_size hzz
    show wpAny _ _ (Builtin.SmallTypes.ownedTupleHandOut (.ref z) (.ref g2.objs.size) >>= _) _ _ ⟨g2.push { cls := .type "tuple", data := .seq #[x1, x2] }, g, d, tk2, os⟩
    refine wpAny_bind ?_
    unfold Builtin.SmallTypes.ownedTupleHandOut
    have hz₆ : K39Zip (g2.push { cls := .type "tuple", data := .seq #[x1, x2] }) z TI TO .ellipsis f2 := Heap.get?_push_of_some _ hzz
    refine wpAny_bind (wpAny_setField_rec hz₆ (by simp) fun h₇ hz₇ hs₇ => ?_)
    replace hz₇ : K39Zip h₇ z TI TO (rawInt g2.objs.size) f2 := hz₇
    refine wpAny_setField_rec hz₇ (by simp) fun h₈ hz₈ hs₈ => ?_
    replace hz₈ : K39Zip h₈ z TI TO (rawInt g2.objs.size) (.bool false) := hz₈
    replace hs₇ : Heap.SameBut z (g2.push { cls := .type "tuple", data := .seq #[x1, x2] }) h₇ := hs₇
    replace hs₈ : Heap.SameBut z h₇ h₈ := hs₈
    have up : ∀ c o, c ≠ z → g2.get? c = some o → h₈.get? c = some o := fun c o c1 e => hs₈.extBut _ _ c1 (hs₇.extBut _ _ c1 (Heap.get?_push_of_some _ e))
    have hT₈ : IsTupOf2 h₈ g2.objs.size x1 x2 := hs₈.extBut _ _ (Nat.ne_of_gt hzlt) (hs₇.extBut _ _ (Nat.ne_of_gt hzlt) (Heap.get?_push_size _ rfl))
    have hz8 : h₈.objs.size = g2.objs.size + 1 := by rw [hs₈.1, hs₇.1, Heap.size_push]
    rw [hsz] at hz₈ hT₈ hz8
    refine wpAny_pure ⟨_, rfl, ?_⟩
    show Q (.ref g2.objs.size) ⟨h₈, g, d, tk2, os⟩
    rw [hsz]
    exact hQ x1 x2 h₈ tk2 _ _ _ _ hx1 hx2 (.inr ⟨_, rfl⟩) hz₈ (up _ _ S.TOz hT2) (D1.frame _ _ _ hj1 fun b hb o e => up b o (fun q => S.zf1 (q ▸ hb)) e) (D2.frame _ _ _ hj2 fun b hb o e => up b o (fun q => S.zf2 (q ▸ hb)) e) hT₈ hz8 fun c o cz cT c1 c2 e => up c o cz (hkk c o cz cT c1 c2 e)
  | false =>
    simp only [Bool.false_eq_true, if_false]
    refine wpAny_bind ?_
    rw [← Array.forIn_toList]
    simp only [List.forIn_cons, List.forIn_nil]
    refine wpAny_bind (wpAny_bind (wpAny_holding ?_))
    show wpAny _ _ (Builtin.SmallTypes.nextOf (.ref i1) >>= _) _ _ ⟨gf, g, d, tk0, os⟩
    refine wpAny_bind (D1.item i _ _ _ hlt1 st1f fun x1 p1 tk1 hx1 sn1 hp1 => wpAny_pure ?_)
    replace hp1 : Heap.SameBut i1 gf p1 := hp1
    refine wpAny_pure ?_
    refine wpAny_bind (wpAny_bind (wpAny_holding ?_))
    show wpAny _ _ (Builtin.SmallTypes.nextOf (.ref i2) >>= _) _ _ ⟨p1, g, d, tk1, os⟩
    refine wpAny_bind (D2.item i _ _ _ hlt2 (D2.over st2f hp1 S.sep1_2) fun x2 p2 tk2 hx2 sn2 hp2 => wpAny_pure ?_)
    replace hp2 : Heap.SameBut i2 p1 p2 := hp2
    refine wpAny_pure (wpAny_pure ?_)
    show wpAny _ _ (newTuple [x1, x2] >>= _) _ _ _
    refine wpAny_bind (wpAny_newTuple ?_)
    have hsz : p2.objs.size = hp.objs.size := by rw [hp2.1, hp1.1, hsf.1]
    have hz3 : K39Zip p2 z TI TO f0 f2 := hp2.extBut _ _ S.zi2 (hp1.extBut _ _ S.zi1 hzf)
    have hT3 : IsTupOf2 p2 TO a1 a2 := hp2.extBut _ _ S.Ti2 (hp1.extBut _ _ S.Ti1 hTOf)
    have hk : ∀ c o, c ≠ z → c ≠ TO → c ≠ i1 → c ≠ i2 → hp.get? c = some o → p2.get? c = some o := fun c o c1 _ c2 c3 e => hp2.extBut _ _ c3 (hp1.extBut _ _ c2 (hsf.extBut _ _ c1 e))
    have hj1 : St1 (i + 1) p2 := D1.over sn1 hp2 S.sep2_1
    refine wpAny_pure ⟨_, rfl, ?_⟩
    show Q (.ref p2.objs.size) _
    have hpp : IsTupOf2 (p2.push { cls := .type "tuple", data := .seq #[x1, x2] }) p2.objs.size x1 x2 := Heap.get?_push_size _ rfl
    have hz4 : (p2.push { cls := .type "tuple", data := .seq #[x1, x2] }).objs.size = p2.objs.size + 1 := Heap.size_push ..
    rw [hsz] at hpp hz4 ⊢
    exact hQ x1 x2 _ tk2 f0 f2 a1 a2 hx1 hx2 ho (Heap.get?_push_of_some _ hz3) (Heap.get?_push_of_some _ hT3) (D1.frame _ _ _ hj1 fun b hb o e => Heap.get?_push_of_some _ e) (D2.frame _ _ _ sn2 fun b hb o e => Heap.get?_push_of_some _ e) hpp hz4 fun c o c1 c2 c3 c4 e => Heap.get?_push_of_some _ (hk c o c1 c2 c3 c4 e)
theorem k39_zip_end {Q : Fin → Shared → Prop} (S : ZipSep2 z TI TO i1 i2 fp1 fp2) (D1 : Draws prog w A i1 fp1 n1 P1 St1) (D2 : Draws prog w A i2 fp2 n2 P2 St2)
    (hz : K39Zip s.heap z TI TO f0 f1) (ho : K39Owned f0) (hTI : IsTupOf2 s.heap TI (.ref i1) (.ref i2)) (hTO : IsTupOf2 s.heap TO a1 a2) (st1 : St1 i s.heap) (st2 : St2 i s.heap) (hle1 : i ≤ n1) (hle2 : i ≤ n2) (hend : i = n1 ∨ i = n2)
    (hE : ∀ h' tk e, (∀ c o, c ≠ z → c ≠ TO → c ≠ i1 → c ≠ i2 → s.heap.get? c = some o → h'.get? c = some o) → (∃ o, h'.get? e = some o ∧ o.cls = .type "StopIteration") → E (.ref e) { s with heap := h', toks := tk }) :
    wpAny (model prog w) A (Builtin.«zip.__next__» ⟨[.ref z], []⟩) Q E s := by
  obtain ⟨hp, g, d, tk0, os⟩ := s
  show wpAny _ _ (field (.ref z) 2 >>= _) _ _ _
  refine wpAny_bind (wpAny_field hz rfl (x := .bool false) rfl ?_)
  show wpAny _ _ (field (.ref z) 3 >>= _) _ _ _
  refine wpAny_bind (wpAny_field hz rfl (x := .ref TI) rfl ?_)
  refine wpAny_bind (wpAny_seqItems hTI rfl ?_)
  show wpAny _ _ (Builtin.SmallTypes.ownedTupleIsFree (.ref z) >>= _) _ _ _
  refine wpAny_bind (k39_free hz ho fun b gf f2 hzf hsf => ?_)
  replace hsf : Heap.SameBut z hp gf := hsf
  replace hzf : K39Zip gf z TI TO f0 f2 := hzf
  have hTOf : IsTupOf2 gf TO a1 a2 := hsf.extBut _ _ S.TOz hTO
  have st1f : St1 i gf := D1.over st1 hsf S.zf1
  have st2f : St2 i gf := D2.over st2 hsf S.zf2
  cases b with
  | true =>
    simp only [if_true]
    refine wpAny_bind (wpAny_rule ?_)
    refine wpAny_bind (wpAny_field hzf rfl (x := .ref TO) rfl ?_)
    refine wpAny_bind (wpAny_setField_rec hzf (by simp) fun g0 hz0 hs0 => ?_)
    replace hz0 : K39Zip g0 z TI TO .ellipsis f2 := hz0
    replace hs0 : Heap.SameBut z gf g0 := hs0
    refine wpAny_bind ?_
    simp only [List.zipIdx_cons, List.zipIdx_nil, List.forIn_cons, List.forIn_nil]
    refine wpAny_bind (wpAny_bind (wpAny_onRaise ?_))
    show wpAny _ _ (Builtin.SmallTypes.nextOf (.ref i1) >>= _) _ _ ⟨g0, g, d, tk0, os⟩
    by_cases hlt1 : i < n1
    · refine wpAny_bind (D1.item i _ _ _ hlt1 (D1.over st1f hs0 S.zf1) fun x1 p1 tk1 hx1 sn1 hp1 => wpAny_pure ?_)
      replace hp1 : Heap.SameBut i1 g0 p1 := hp1
      have hU1 : IsTupOf2 p1 TO a1 a2 := hp1.extBut _ _ S.Ti1 (hs0.extBut _ _ S.TOz hTOf)
      refine wpAny_bind (wpAny_seqItems (s := ⟨p1, g, d, tk1, os⟩) hU1 rfl ?_)
      refine wpAny_bind (updateSeq_IsTupOf2 (s := ⟨p1, g, d, tk1, os⟩) hU1 fun g1 hT1 hs1 => ?_)
      replace hT1 : IsTupOf2 g1 TO x1 a2 := hT1
      replace hs1 : Heap.SameBut TO p1 g1 := hs1
      refine wpAny_bind (wpAny_letGo (wpAny_pure ?_))
      have hi2 : i = n2 := by omega
      refine wpAny_bind (wpAny_bind (wpAny_onRaise ?_))
      show wpAny _ _ (Builtin.SmallTypes.nextOf (.ref i2) >>= _) _ _ ⟨g1, g, d, tk1, os⟩
      refine wpAny_bind (D2.done ⟨g1, g, d, tk1, os⟩ _ _ (by rw [← hi2]; exact (D2.over (D2.over (D2.over st2f hs0 S.zf2) hp1 S.sep1_2) hs1 S.Tf2)) fun q e hq he => ?_)
      replace hq : Heap.ExtBut i2 g1 q := hq
      obtain ⟨oe, hoe, hce⟩ := he
      replace hoe : q.get? e = some oe := hoe
      have hzq : K39Zip q z TI TO .ellipsis f2 := hq _ _ S.zi2 (hs1.extBut _ _ S.TOz.symm (hp1.extBut _ _ S.zi1 hz0))
      have hez : e ≠ z := fun x => by subst x; rw [hzq] at hoe; cases hoe; simp at hce
      refine wpAny_setField_rec (s := ⟨q, g, d, tk1, os⟩) hzq (by simp) fun q' _ hq' => ?_
      replace hq' : Heap.SameBut z q q' := hq'
      exact hE q' tk1 e (fun c o cz cT c1 c2 x => hq'.extBut _ _ cz (hq _ _ c2 (hs1.extBut _ _ cT (hp1.extBut _ _ c1 (hs0.extBut _ _ cz (hsf.extBut _ _ cz x)))))) ⟨oe, hq'.extBut _ _ hez hoe, hce⟩
    · have hi1 : i = n1 := by omega
      refine wpAny_bind (D1.done ⟨g0, g, d, tk0, os⟩ _ _ (by rw [← hi1]; exact (D1.over st1f hs0 S.zf1)) fun q e hq he => ?_)
      replace hq : Heap.ExtBut i1 g0 q := hq
      obtain ⟨oe, hoe, hce⟩ := he
      replace hoe : q.get? e = some oe := hoe
      have hzq : K39Zip q z TI TO .ellipsis f2 := hq _ _ S.zi1 hz0
      have hez : e ≠ z := fun x => by subst x; rw [hzq] at hoe; cases hoe; simp at hce
      refine wpAny_setField_rec (s := ⟨q, g, d, tk0, os⟩) hzq (by simp) fun q' _ hq' => ?_
      replace hq' : Heap.SameBut z q q' := hq'
      exact hE q' tk0 e (fun c o cz cT c1 c2 x => hq'.extBut _ _ cz (hq _ _ c1 (hs0.extBut _ _ cz (hsf.extBut _ _ cz x)))) ⟨oe, hq'.extBut _ _ hez hoe, hce⟩
  | false =>
    simp only [Bool.false_eq_true, if_false]
    refine wpAny_bind ?_
    rw [← Array.forIn_toList]
    simp only [List.forIn_cons, List.forIn_nil]
    refine wpAny_bind (wpAny_bind (wpAny_holding ?_))
    show wpAny _ _ (Builtin.SmallTypes.nextOf (.ref i1) >>= _) _ _ ⟨gf, g, d, tk0, os⟩
    by_cases hlt1 : i < n1
    · refine wpAny_bind (D1.item i _ _ _ hlt1 st1f fun x1 p1 tk1 hx1 sn1 hp1 => wpAny_pure ?_)
      replace hp1 : Heap.SameBut i1 gf p1 := hp1
      have hi2 : i = n2 := by omega
      refine wpAny_pure ?_
      refine wpAny_bind (wpAny_bind (wpAny_holding ?_))
      show wpAny _ _ (Builtin.SmallTypes.nextOf (.ref i2) >>= _) _ _ ⟨p1, g, d, tk1, os⟩
      refine wpAny_bind (D2.done ⟨p1, g, d, tk1, os⟩ _ _ (by rw [← hi2]; exact D2.over st2f hp1 S.sep1_2) fun q e hq he => ?_)
      replace hq : Heap.ExtBut i2 p1 q := hq
      exact hE q tk1 e (fun c o cz cT c1 c2 x => hq _ _ c2 (hp1.extBut _ _ c1 (hsf.extBut _ _ cz x))) he
    · have hi1 : i = n1 := by omega
      refine wpAny_bind (D1.done ⟨gf, g, d, tk0, os⟩ _ _ (by rw [← hi1]; exact st1f) fun q e hq he => ?_)
      replace hq : Heap.ExtBut i1 gf q := hq
      exact hE q tk0 e (fun c o cz cT c1 c2 x => hq _ _ c1 (hsf.extBut _ _ cz x)) he
end
end PySem
set_option Elab.async false
set_option linter.all false
set_option maxRecDepth 100000
set_option maxHeartbeats 4000000
namespace PySem
open Sem (wp)
section
variable {prog : Program} {w : World} {A : Around} {E : Value → Shared → Prop} {s : Shared}
/-- enumerate over an iterator of which R is told -/
theorem k39_enum_item {e z : Addr} {c : Int} {R : Value → Heap → Prop} {old : Value} {Q : Value → Shared → Prop} (he : IsEnum s.heap e z c old)
    (D : ∀ (E : Value → Shared → Prop) (Q : Value → Shared → Prop), (∀ x h1 tk, R x h1 → h1.get? e = s.heap.get? e → Q x { s with heap := h1, toks := tk }) → wpAny (model prog w) A (Builtin.SmallTypes.nextOf (.ref z)) Q E s)
    (hQ : ∀ x h1 h' tk, R x h1 → IsEnumOut h' e z (c + 1) x h1.objs.size → h'.get? h1.objs.size = some { cls := .type "tuple", data := .seq #[.int c tk, x] } → e ≠ h1.objs.size → (∀ b o, b ≠ e → h1.get? b = some o → h'.get? b = some o) →
      Q (.ref h1.objs.size) { s with heap := h', toks := tk + 1 }) :
    wpAny (model prog w) A (Builtin.«enumerate.__next__» ⟨[.ref e], []⟩) (fun fin s' => ∃ v, fin = .done (.ret v) ∧ Q v s') E s := by
  obtain ⟨hp, g, d, tk₀, os⟩ := s
  show wpAny _ _ (field (.ref e) 2 >>= _) _ _ _
  refine wpAny_bind (wpAny_field he rfl (x := .ref z) rfl ?_)
  refine wpAny_bind (D _ _ fun x h₁ tk hR hk₁ => ?_)
  have he₁ : IsEnum h₁ e z c old := hk₁.trans he
  show wpAny _ _ (field (.ref e) 3 >>= _) _ _ ⟨h₁, g, d, tk, os⟩
  refine wpAny_bind (wpAny_field he₁ rfl (x := rawInt c) rfl ?_)
  show wpAny _ _ (field (.ref e) 4 >>= _) _ _ ⟨h₁, g, d, tk, os⟩
  refine wpAny_bind (wpAny_field he₁ rfl (x := .none) rfl ?_)
  show wpAny _ _ (mkInt c >>= _) _ _ ⟨h₁, g, d, tk, os⟩
  refine wpAny_bind (wpAny_mkInt ?_)
  show wpAny _ _ (setField (.ref e) 3 (rawInt (c + 1)) >>= _) _ _ ⟨h₁, g, d, tk + 1, os⟩
  refine wpAny_bind (wpAny_setField_rec he₁ (by simp) fun h₂ he₂ hs₂ => ?_)
  replace hs₂ : Heap.SameBut e h₁ h₂ := hs₂
  replace he₂ : IsEnum h₂ e z (c + 1) old := he₂
  show wpAny _ _ (setField (.ref e) 4 .none >>= _) _ _ ⟨h₂, g, d, tk + 1, os⟩
  refine wpAny_bind (wpAny_setField_rec he₂ (by simp) fun h₃ he₃ hs₃ => ?_)
  replace hs₃ : Heap.SameBut e h₂ h₃ := hs₃
  replace he₃ : IsEnum h₃ e z (c + 1) old := he₃
  show wpAny _ _ (newTuple [.int c tk, x] >>= _) _ _ ⟨h₃, g, d, tk + 1, os⟩
  refine wpAny_bind (wpAny_newTuple ?_)
  have he₄ : IsEnum (h₃.push { cls := .type "tuple", data := .seq #[.int c tk, x] }) e z (c + 1) old := Heap.get?_push_of_some _ he₃
  generalize hh₄ : h₃.push { cls := .type "tuple", data := .seq #[.int c tk, x] } = h₄ at he₄
  have hsz : h₃.objs.size = h₁.objs.size := by rw [hs₃.1, hs₂.1]
  have hel : e < h₁.objs.size := Heap.lt_size he₁
  have ht₄ : h₄.get? h₁.objs.size = some { cls := .type "tuple", data := .seq #[.int c tk, x] } := by rw [← hh₄, ← hsz]; exact Heap.get?_push_size _ rfl
  have hk₄ : ∀ b o, b ≠ e → h₁.get? b = some o → h₄.get? b = some o := fun b o hbe hb => by
    rw [← hh₄]; exact Heap.get?_push_of_some _ (hs₃.extBut b o hbe (hs₂.extBut b o hbe hb))
  show wpAny _ _ (Builtin.SmallTypes.ownedTupleIsFree (.ref e) >>= _) _ _ ⟨h₄, g, d, tk + 1, os⟩
  rw [hsz]
  clear hh₄ he₃ hs₃ he₂ hs₂ he₁ hsz h₃ h₂
  refine wpAny_bind ?_
  · unfold Builtin.SmallTypes.ownedTupleIsFree
    refine wpAny_bind (wpAny_field he₄ rfl (x := .none) rfl (wpAny_pure ?_))
    simp only [if_true]
    refine wpAny_bind (wpAny_rule ?_)
    refine wpAny_bind (wpAny_field he₄ rfl (x := old) rfl ?_)
    refine wpAny_bind (wpAny_setField_rec he₄ (by simp) fun h₅ he₅ hs₅ => ?_)
    replace hs₅ : Heap.SameBut e h₄ h₅ := hs₅
    replace he₅ : IsEnum h₅ e z (c + 1) x := he₅
    show wpAny _ _ (Builtin.SmallTypes.ownedTupleHandOut (.ref e) (.ref h₁.objs.size) >>= _) _ _ ⟨h₅, g, d, tk + 1, os⟩
    refine wpAny_bind ?_
    · unfold Builtin.SmallTypes.ownedTupleHandOut
      refine wpAny_bind (wpAny_setField_rec he₅ (by simp) fun h₆ he₆ hs₆ => ?_)
      replace hs₆ : Heap.SameBut e h₅ h₆ := hs₆
      replace he₆ : IsEnumOut h₆ e z (c + 1) x h₁.objs.size := he₆
      refine wpAny_setField_rec he₆ (by simp) fun h₇ he₇ hs₇ => ?_
      replace hs₇ : Heap.SameBut e h₆ h₇ := hs₇
      replace he₇ : IsEnumOut h₇ e z (c + 1) x h₁.objs.size := he₇
      refine wpAny_bind (wpAny_letGo (wpAny_pure ⟨_, rfl, hQ x h₁ h₇ tk hR he₇ ?_ (Nat.ne_of_lt hel) ?_⟩))
      · exact hs₇.extBut _ _ (Nat.ne_of_gt hel) (hs₆.extBut _ _ (Nat.ne_of_gt hel) (hs₅.extBut _ _ (Nat.ne_of_gt hel) ht₄))
      · exact fun b o hbe hb => hs₇.extBut b o hbe (hs₆.extBut b o hbe (hs₅.extBut b o hbe (hk₄ b o hbe hb)))
theorem k39_pyNext_enum {e z : Addr} {c : Int} {R : Value → Heap → Prop} {old : Value} {Q : Option Value → Shared → Prop} (he : IsEnum s.heap e z c old)
    (D : ∀ (E : Value → Shared → Prop) (Q : Value → Shared → Prop), (∀ x h1 tk, R x h1 → h1.get? e = s.heap.get? e → Q x { s with heap := h1, toks := tk }) → wpAny (model prog w) A.in1 (Builtin.SmallTypes.nextOf (.ref z)) Q E s)
    (hQ : ∀ x h1 h' tk, R x h1 → IsEnumOut h' e z (c + 1) x h1.objs.size → h'.get? h1.objs.size = some { cls := .type "tuple", data := .seq #[.int c tk, x] } → e ≠ h1.objs.size → (∀ b o, b ≠ e → h1.get? b = some o → h'.get? b = some o) →
      Q (some (.ref h1.objs.size)) { s with heap := h', toks := tk + 1 }) : wpAny (model prog w) A (pyNext (.ref e)) Q E s := by
  have hT : s.TypeIs (.ref e) "enumerate" := ⟨_, he, rfl⟩
  unfold pyNext
  exact wpAny_bind (wpAny_attempt (wpAny_callSpecial?_slot (name := Str.ofString "__next__") hT F.slot_enumerate_next
    (wpAny_call_entry F.slot_enumerate_next hT F.entry_enumerate_next
      (k39_enum_item he D fun x h1 h' tk a b c d k => wpAny_pure (hQ x h1 h' tk a b c d k)) (F.args_enumerate_next_1 _))))
theorem k39_pyNext_enum_end {e z : Addr} {c : Int} {old : Value} {P : Shared → Prop} {Q : Option Value → Shared → Prop} (he : IsEnum s.heap e z c old)
    (D : ∀ (E : Value → Shared → Prop) (Q : Value → Shared → Prop), (∀ s' x, P s' → (∃ o, s'.heap.get? x = some o ∧ o.cls = .type "StopIteration") → E (.ref x) s') → wpAny (model prog w) A.in1 (Builtin.SmallTypes.nextOf (.ref z)) Q E s)
    (hQ : ∀ s', P s' → Q none s') : wpAny (model prog w) A (pyNext (.ref e)) Q E s := by
  have hT : s.TypeIs (.ref e) "enumerate" := ⟨_, he, rfl⟩
  unfold pyNext
  refine wpAny_bind (wpAny_attempt (wpAny_callSpecial?_slot (name := Str.ofString "__next__") hT F.slot_enumerate_next
    (wpAny_call_entry F.slot_enumerate_next hT F.entry_enumerate_next ?_ (F.args_enumerate_next_1 _))))
  show wpAny _ _ (field (.ref e) 2 >>= _) _ _ _
  refine wpAny_bind (wpAny_field he rfl (x := .ref z) rfl ?_)
  refine wpAny_bind (D _ _ fun s' x hp hx' => ?_)
  obtain ⟨o, ho, hc⟩ := hx'
  refine wpAny_bind (wpAny_isInstance (T := "StopIteration") (b := true) ⟨o, ho, hc⟩ isSubtype_stop ?_)
  exact wpAny_pure (hQ _ hp)
end
theorem k39_pyIter_zip {prog : Program} {w : World} {A : Around} {E : Value → Shared → Prop} {s : Shared} {z TI TO : Addr} {f0 f1 : Value} {Q : Value → Shared → Prop} (hz : K39Zip s.heap z TI TO f0 f1) (h : Q (.ref z) s) : wpAny (model prog w) A (pyIter (.ref z)) Q E s := by
  have hT : s.TypeIs (.ref z) "zip" := ⟨_, hz, rfl⟩
  refine wpAny_pyIter_slot hT F.slot_zip_iter (wpAny_call_entry F.slot_zip_iter hT F.entry_zip_iter ?_ (F.args_zip_iter_1 _))
  show wpAny _ _ (ret (.ref z)) _ _ s
  exact wpAny_pure ⟨_, rfl, "zip", _, hT, F.slot_zip_next.lookup, h⟩
end PySem
namespace K39
open PySem PySem.Spec PyProof.Rows L2
/-! ### for i, (x, c) in enumerate(zip(list, text)) -/
def Itez (K : PySem.W.Frag) (a : Addr) (y : Str) : It :=
  ⟨fun i H => ∃ (xs : List V) (x : V) (c : Nat), SqL K H a xs ∧ xs[i]? = some x ∧ y.cps[i]? = some c,
    fun i H v H' => ∃ (T2 T : Addr) (x : V) (c : Nat), v = .ref T ∧ H T2 = none ∧ H T = none ∧ T ≠ T2 ∧ H' = upd (upd H T2 (.tup [x, .str ⟨#[c]⟩])) T (.tup [.int (i : Nat), .ref T2]) ∧ y.cps[i]? = some c ∧ ∀ xs, SqL K H a xs → xs[i]? = some x,
    fun i H => ∃ xs : List V, SqL K H a xs ∧ i ≤ xs.length ∧ i ≤ y.cps.size ∧ (i = xs.length ∨ i = y.cps.size)⟩
theorem turn_ez {P : Program} {w : World} {K : PySem.W.Frag} {elts : List Expr} {kk : Nat} {tpos : Pos} {a e z TI TO i1 i2 : Addr} {y : Str} {t : Tok} (hS : ZipSep2 z TI TO i1 i2 [i1, a] [i2]) (ez : e ≠ z) (eI : e ≠ TI) (eO : e ≠ TO) (e1 : e ≠ i1) (e2 : e ≠ i2) (ea : e ≠ a) (a1 : a ≠ i1) (ai : a ≠ TI) (ao : a ≠ TO) (i12 : i1 ≠ i2) :
    Turn P w K (.Tuple elts kk tpos) (Itez K a y) [e, z, TI, TO, i1, i2] e (fun i h => (∃ old, IsEnum h e z ((i : Nat) : Int) old) ∧ (∃ f0 f1, K39Owned f0 ∧ K39Zip h z TI TO f0 f1) ∧ IsTupOf2 h TI (.ref i1) (.ref i2) ∧ (∃ b1 b2, IsTupOf2 h TO b1 b2) ∧
      h.IsListIter i1 a i ∧ h.IsStrIter i2 (strIterType y) y t i) where
  mem := by simp
  obj := fun i h st b hb => by
    obtain ⟨⟨old, he⟩, ⟨f0, f1, _, hz⟩, hTI, ⟨b1, b2, hTO⟩, ⟨o1, q1, _, d1⟩, ⟨o2, q2, _, d2⟩⟩ := st
    have hb' : b = e ∨ b = z ∨ b = TI ∨ b = TO ∨ b = i1 ∨ b = i2 := by simpa using hb
    rcases hb' with q | q | q | q | q | q
    · rw [q]; exact ⟨_, he, fun v q => nomatch q⟩
    · rw [q]; exact ⟨_, hz, fun v q => nomatch q⟩
    · rw [q]; exact ⟨_, hTI, fun v q => nomatch q⟩
    · rw [q]; exact ⟨_, hTO, fun v q => nomatch q⟩
    · rw [q]; exact ⟨o1, q1, fun v q => by rw [d1] at q; cases q⟩
    · rw [q]; exact ⟨o2, q2, fun v q => by rw [d2] at q; cases q⟩
  keep := fun i h h' st k => by
    obtain ⟨⟨old, he⟩, ⟨f0, f1, ho, hz⟩, hTI, ⟨b1, b2, hTO⟩, h1, ⟨o2, q2, r2⟩⟩ := st
    exact ⟨⟨old, k e (by simp) _ he⟩, ⟨f0, f1, ho, k z (by simp) _ hz⟩, k TI (by simp) _ hTI, ⟨b1, b2, k TO (by simp) _ hTO⟩, h1.at fun o q => k i1 (by simp) o q, ⟨o2, k i2 (by simp) _ q2, r2⟩⟩
  item := by
    intro X hP hw hK hc i pins s σ H E I hf st hg
    subst hP hw hK
    obtain ⟨⟨old, he⟩, ⟨f0, f1, ho, hz⟩, hTI, ⟨b1, b2, hTO⟩, h1, h2⟩ := st
    obtain ⟨xs, x, c, hq, hx, hcp⟩ := hg
    obtain ⟨its, rv, p, _⟩ := I.list hq
    obtain ⟨u, hu, ru⟩ := rv.get hx
    have lt1 : i < its.toArray.size := by
      obtain ⟨q, _⟩ := List.getElem?_eq_some_iff.mp hu
      simpa using q
    have lt2 : i < y.cps.size := (Array.getElem?_eq_some_iff.mp hcp).1
    have hel : e < s.heap.objs.size := Heap.lt_size he
    have below : ∀ b ∈ [e, z, TI, TO, i1, i2], b < s.heap.objs.size := fun b hb => by
      have hb' : b = e ∨ b = z ∨ b = TI ∨ b = TO ∨ b = i1 ∨ b = i2 := by simpa using hb
      obtain ⟨o1, q1, _⟩ := h1
      obtain ⟨o2, q2, _⟩ := h2
      rcases hb' with q | q | q | q | q | q
      · rw [q]; exact hel
      · rw [q]; exact Heap.lt_size hz
      · rw [q]; exact Heap.lt_size hTI
      · rw [q]; exact Heap.lt_size hTO
      · rw [q]; exact Heap.lt_size q1
      · rw [q]; exact Heap.lt_size q2
    have hT : s.TypeIs (.ref z) "zip" := ⟨_, hz, rfl⟩
    have D1 := Draws.list (prog := X.prog) (w := X.w) (A := X.A.in1.in1) (I.ok.hd hc) i1 a a1 its.toArray
    have D2 := Draws.text (prog := X.prog) (w := X.w) (A := X.A.in1.in1) (I.ok.hd hc) i2 y t
    refine k39_pyNext_enum (R := fun v h1 => ∃ x1 x2 g0 g1 c1 c2, v = Value.ref s.heap.objs.size ∧ its.toArray[i]? = some x1 ∧ (∃ c u, y.cps[i]? = some c ∧ x2 = .str ⟨#[c]⟩ u) ∧ K39Owned g0 ∧ K39Zip h1 z TI TO g0 g1 ∧ IsTupOf2 h1 TO c1 c2 ∧
      h1.IsListIter i1 a (i + 1) ∧ h1.IsStrIter i2 (strIterType y) y t (i + 1) ∧ IsTupOf2 h1 s.heap.objs.size x1 x2 ∧ h1.objs.size = s.heap.objs.size + 1 ∧ (∀ c o, c ≠ z → c ≠ TO → c ≠ i1 → c ≠ i2 → s.heap.get? c = some o → h1.get? c = some o)) he (fun E' Q' hQ' => ?_) fun v h1' h' tk hR hout hT1 ne hk => ?_
    · unfold Builtin.SmallTypes.nextOf
      refine wpAny_bind (wpAny_callSpecial?_slot (name := Str.ofString "__next__") hT F.slot_zip_next
        (wpAny_call_entry F.slot_zip_next hT F.entry_zip_next (k39_zip_item hS D1 D2 hz ho hTI hTO ⟨h1, p.isList⟩ h2 lt1 lt2 fun x1 x2 h1' tk g0 g1 c1 c2 p1 p2 q0 q1 q2 q3 q4 q5 q6 q7 => wpAny_pure (hQ' _ _ _ ?_ ?_)) (F.args_zip_next_1 _)))
      · exact ⟨x1, x2, g0, g1, c1, c2, rfl, p1, p2, q0, q1, q2, q3.1, q4, q5, q6, q7⟩
      · exact (q7 e _ ez eO e1 e2 he).trans he.symm
    · obtain ⟨x1, x2, g0, g1, c1, c2, rfl, p1, ⟨c', u2, p2, ex2⟩, q0, q1, q2, q3, q4, q5, q6, q7⟩ := hR
      subst ex2
      have ex1 : x1 = u := by
        rw [List.getElem?_toArray, hu] at p1
        exact (Option.some.inj p1).symm
      subst ex1
      have ec : c' = c := by
        rw [hcp] at p2
        exact (Option.some.inj p2).symm
      subst ec
      have hT2 : h1'.get? s.heap.objs.size = some { cls := .type "tuple", data := .seq #[x1, .str ⟨#[c']⟩ u2] } := q5
      have nT2 : H s.heap.objs.size = none := I.hok.fresh (Nat.le_refl _)
      have nT : H h1'.objs.size = none := I.hok.fresh (by rw [q6]; exact Nat.le_succ _)
      have new2 : ObjOk X.prog X.w (upd H s.heap.objs.size (.tup [x, .str ⟨#[c']⟩])) h1' s.heap.objs.size (.tup [x, .str ⟨#[c']⟩]) :=
        ⟨by show 2 ≤ sizeLine; decide, [x1, .str ⟨#[c']⟩ u2], .cons ru (.cons ⟨_, rfl⟩ .nil), ⟨_, hT2, rfl, _, rfl⟩⟩
      have I1 : Inv X pins σ (upd H s.heap.objs.size (.tup [x, .str ⟨#[c']⟩])) { s with heap := h1', toks := tk } :=
        I.turnedNew (t' := tk) (ch := [e, z, TI, TO, i1, i2]) (fun b o hb q => q7 b o (fun z' => hb (by simp [z'])) (fun z' => hb (by simp [z'])) (fun z' => hb (by simp [z'])) (fun z' => hb (by simp [z'])) q) hf (Nat.le_refl _) new2
      refine ⟨_, rfl, wpAny_letOwnedTupleGo_enum (s := { s with heap := h', toks := tk + 1 }) hout fun h'' he' sb => ?_⟩
      have hT3 : h''.get? h1'.objs.size = some { cls := .type "tuple", data := .seq #[.int i tk, .ref s.heap.objs.size] } := (sb.2 _ (Ne.symm ne)).trans hT1
      have new : ObjOk X.prog X.w (upd (upd H s.heap.objs.size (.tup [x, .str ⟨#[c']⟩])) h1'.objs.size (.tup [.int (i : Nat), .ref s.heap.objs.size])) h'' h1'.objs.size (.tup [.int (i : Nat), .ref s.heap.objs.size]) :=
        ⟨by show 2 ≤ sizeLine; decide, [.int i tk, .ref s.heap.objs.size], .cons ⟨_, rfl⟩ (.cons rfl .nil), ⟨_, hT3, rfl, _, rfl⟩⟩
      have ltT : h1'.objs.size ≠ s.heap.objs.size := by
        rw [q6]
        exact Nat.succ_ne_self _
      have hfe : FpOk X pins (upd H s.heap.objs.size (.tup [x, .str ⟨#[c']⟩])) e := by
        obtain ⟨r1, r2⟩ := hf e (by simp)
        exact ⟨by rw [upd_ne (Nat.ne_of_lt hel)]; exact r1, r2⟩
      have I2 : Inv X pins σ (upd (upd H s.heap.objs.size (.tup [x, .str ⟨#[c']⟩])) h1'.objs.size (.tup [.int (i : Nat), .ref s.heap.objs.size])) { s with heap := h'', toks := tk + 1 } :=
        Inv.turnedNew (s := { s with heap := h1', toks := tk }) I1 (t' := tk + 1) (ch := [e]) (fun b o hb q => (sb.2 b (fun z' => hb (by simp [z']))).trans (hk b o (fun z' => hb (by simp [z'])) q)) (fun b hb => by
          have e' : b = e := by simpa using hb
          rw [e']
          exact hfe) (Nat.le_refl _) new
      have up : ∀ b o, b ≠ e → h1'.get? b = some o → h''.get? b = some o := fun b o hb q => (sb.2 b hb).trans (hk b o hb q)
      refine ⟨.ref h1'.objs.size, _, I2, rfl, ⟨s.heap.objs.size, h1'.objs.size, x, c', rfl, nT2, nT, ltT, rfl, hcp, fun ys hy => by rw [I.list_inj hy hq]; exact hx⟩,
        ⟨⟨.ref s.heap.objs.size, ?_⟩, ⟨g0, g1, q0, up z _ (Ne.symm ez) q1⟩, up TI _ (Ne.symm eI) (q7 TI _ hS.TIz hS.TITO hS.TIi1 hS.TIi2 hTI), ⟨c1, c2, up TO _ (Ne.symm eO) q2⟩, q3.at fun o q => up i1 o (Ne.symm e1) q, ?_⟩, fun b hb => ?_⟩
      · have e1 : ((i + 1 : Nat) : Int) = (i : Int) + 1 := by omega
        rw [e1]; exact he'
      · obtain ⟨o2, r1, r2⟩ := q4
        exact ⟨o2, up i2 _ (Ne.symm e2) r1, r2⟩
      · have hb' := below b hb
        have hb2 : b < h1'.objs.size := by
          rw [q6]
          exact Nat.lt_succ_of_lt hb'
        rw [upd_ne (Nat.ne_of_lt hb2), upd_ne (Nat.ne_of_lt hb')]
        exact (hf b hb).1
  done := by
    intro X hP hw hK hc i pins s σ H E I hf st hg
    subst hP hw hK
    obtain ⟨⟨old, he⟩, ⟨f0, f1, ho, hz⟩, hTI, ⟨b1, b2, hTO⟩, h1, h2⟩ := st
    obtain ⟨xs, hq, l1, l2, hend⟩ := hg
    obtain ⟨its, rv, p, _⟩ := I.list hq
    have hl : its.toArray.size = xs.length := by
      rw [List.size_toArray]
      exact rv.length.symm
    have hT : s.TypeIs (.ref z) "zip" := ⟨_, hz, rfl⟩
    have D1 := Draws.list (prog := X.prog) (w := X.w) (A := X.A.in1.in1) (I.ok.hd hc) i1 a a1 its.toArray
    have D2 := Draws.text (prog := X.prog) (w := X.w) (A := X.A.in1.in1) (I.ok.hd hc) i2 y t
    refine k39_pyNext_enum_end (P := fun s' => ∃ h' tk, s' = { s with heap := h', toks := tk } ∧ ∀ c o, c ≠ z → c ≠ TO → c ≠ i1 → c ≠ i2 → s.heap.get? c = some o → h'.get? c = some o) he (fun E' Q' hE' => ?_) fun s' hp => ?_
    · unfold Builtin.SmallTypes.nextOf
      refine wpAny_bind (wpAny_callSpecial?_slot (name := Str.ofString "__next__") hT F.slot_zip_next
        (wpAny_call_entry F.slot_zip_next hT F.entry_zip_next (k39_zip_end hS D1 D2 hz ho hTI hTO ⟨h1, p.isList⟩ h2 (by rw [hl]; exact l1) l2 (by rw [hl]; exact hend) fun h' tk x hk hx => hE' _ _ ⟨h', tk, rfl, hk⟩ hx) (F.args_zip_next_1 _)))
    · obtain ⟨h', tk, rfl, hk⟩ := hp
      exact ⟨rfl, I.turnedL (t' := tk) (ch := [e, z, TI, TO, i1, i2]) (fun c o hb q => hk c o (fun z' => hb (by simp [z'])) (fun z' => hb (by simp [z'])) (fun z' => hb (by simp [z'])) (fun z' => hb (by simp [z'])) q) hf⟩
  self := fun A i s Q E st h => let ⟨⟨_, he⟩, _⟩ := st; wpAny_pyIter_enum he h
def iEz (K : PySem.W.Frag) (ta : TA) : TI := fun σ H R => ta σ H fun vs H1 => ∃ a y xs, vs = [.ref a, .str y] ∧ SqL K H1 a xs ∧ R (Itez K a y) H1
theorem pi_ez {X : Cx} {e e2 : Expr} {ta : TA} {p pos p2 pos2 tpos : Pos} {elts : List Expr} {kk : Nat} (hm : X.mg "enumerate" = none) (hmz : X.mg "zip" = none) (ha : PA X [e, e2] ta) (hg : Gl X "enumerate" := by rfl) (hgz : Gl X "zip" := by rfl)
    (hs : starEach [.Call (.Name "zip" p2) [e, e2] [] pos2] X.env = [(false, eval (.Call (.Name "zip" p2) [e, e2] [] pos2) X.env)] := by rfl)
    (hsz : starEach [e, e2] X.env = (false, eval e X.env) :: starEach [e2] X.env := by rfl) (hpl : (backTo pos2 (starEach [e2] X.env)).any (·.1) = false := by rfl) :
    PI X (.Tuple elts kk tpos) (.Call (.Name "enumerate" p) [.Call (.Name "zip" p2) [e, e2] [] pos2] [] pos) (iEz X.K ta) := by
  refine ⟨fun pins s σ H R I h => ?_⟩
  refine Call_ (ld_blt I hg hm boot_enumerate (PyProof.Rows.callWith_type1 (rest := []) ?_ hs rfl))
  rw [hs]
  show wpAny _ _ (spliced ((false, eval (.Call (.Name "zip" p2) [e, e2] [] pos2) X.env) :: backTo pos [])) _ _ s
  refine Calls.spliced_cons ?_
  refine Call_ (ld_blt I hgz hmz PyProof.Rows.boot_zip (PyProof.Rows.callWith_type1 (thn (ha.run pos2 pins s σ H _ I h) fun us s1 ⟨vs, H1, I1, r1, q1⟩ => ?_) hsz hpl))
  obtain ⟨a, y, xs, ex, hq, q⟩ := q1
  subst ex
  obtain ⟨u1, u2, rfl, r1, r2⟩ := vals2 r1
  obtain rfl : u1 = Value.ref a := r1
  obtain ⟨t, rfl⟩ := (show ∃ t, u2 = Value.str y t from r2)
  obtain ⟨its, rv, p1, _⟩ := I1.list hq
  have la : a < s1.heap.objs.size := p1.lt
  refine zip_begins2 (begins_list a its.toArray) (begins_text y t) p1.isList True.intro fun h' hz hTI hTO h1 h2 hsz hk => ?_
  refine Calls.spliced_nil ?_
  have I2 : Inv X pins σ H1 { s1 with heap := h' } := I1.kept (t' := s1.toks) hk
  refine k39_enum_self (z := s1.heap.objs.size + 4) (H := fun h => K39Zip h (s1.heap.objs.size + 4) (s1.heap.objs.size + 2) (s1.heap.objs.size + 3) .none (.bool false)) (s := { s1 with heap := h' }) (fun prog w A E s Q hz q => k39_pyIter_zip hz q) hz fun h'' he hsz2 hk2 => wpAny_pyIter_enum he ?_
  have I3 : Inv X pins σ H1 { s1 with heap := h'' } := Inv.kept (s := { s1 with heap := h' }) I2 (t' := s1.toks) hk2
  have he' : IsEnum h'' (s1.heap.objs.size + 5) (s1.heap.objs.size + 4) 0 .none := by
    rw [← hsz]
    exact he
  have ee : ({ s1 with heap := h' } : Shared).heap.objs.size = s1.heap.objs.size + 5 := hsz
  refine ⟨s1.heap.objs.size + 5, [s1.heap.objs.size + 5, s1.heap.objs.size + 4, s1.heap.objs.size + 2, s1.heap.objs.size + 3, s1.heap.objs.size, s1.heap.objs.size + 1], _, _, H1, by rw [ee], I3,
    turn_ez (zip_sep2 (N := s1.heap.objs.size) (fp1 := [a]) (fp2 := []) (fun b hb => (List.mem_singleton.mp hb) ▸ la) (fun b hb => nomatch hb)) (t := t) ?_ ?_ ?_ ?_ ?_ ?_ ?_ ?_ ?_ ?_,
    ⟨⟨.none, he'⟩, ⟨_, _, .inl rfl, hk2 _ _ hz⟩, hk2 _ _ hTI, ⟨_, _, hk2 _ _ hTO⟩, ⟨_, hk2 _ _ h1, rfl, rfl⟩, ⟨_, hk2 _ _ h2, rfl, rfl⟩⟩, fun b hb => ?_, q⟩
  · exact Nat.succ_ne_self _
  · exact Nat.ne_of_gt (Nat.add_lt_add_left (by decide) _)
  · exact Nat.ne_of_gt (Nat.add_lt_add_left (by decide) _)
  · exact Nat.ne_of_gt (Nat.lt_add_of_pos_right (by decide))
  · exact Nat.ne_of_gt (Nat.add_lt_add_left (by decide) _)
  · exact Nat.ne_of_gt (Nat.lt_add_right _ la)
  · exact Nat.ne_of_lt la
  · exact Nat.ne_of_lt (Nat.lt_add_right _ la)
  · exact Nat.ne_of_lt (Nat.lt_add_right _ la)
  · exact Nat.ne_of_lt (Nat.lt_succ_self _)
  · have hle : s1.heap.objs.size ≤ b := by
      have hb' : b = s1.heap.objs.size + 5 ∨ b = s1.heap.objs.size + 4 ∨ b = s1.heap.objs.size + 2 ∨ b = s1.heap.objs.size + 3 ∨ b = s1.heap.objs.size ∨ b = s1.heap.objs.size + 1 := by simpa using hb
      rcases hb' with z | z | z | z | z | z <;> rw [z] <;> first | exact Nat.le_add_right _ _ | exact Nat.le_refl _
    exact I1.fpOk hle (I1.hok.fresh hle)
end K39
set_option Elab.async false
set_option linter.all false
set_option maxRecDepth 100000
set_option maxHeartbeats 4000000
namespace K39
open PySem PySem.Spec PyProof.Rows L2
/-! ### a loop of n turns -/
theorem loop_n {J : It} {g : TG} {tb : TS} {D : Ends} {σ0 : L2.St} {H0 : Hp} (n : Nat) (W : Nat → L2.St → Hp → Prop) (w0 : W 0 σ0 H0) (stop : ∀ σ H, W n σ H → J.stop n H ∧ D.nx σ H)
    (turn : ∀ i σ H, i < n → W i σ H → J.go i H ∧ ∀ x H', J.yld i H x H' → g x σ H' fun σ2 H2 => tb { D with nx := W (i + 1), ct := W (i + 1), bk := D.nx } σ2 H2) :
    ∃ W : Nat → Nat → L2.St → Hp → Prop, (∃ m, W 0 m σ0 H0) ∧ ∀ i m σ H, W i m σ H →
      (J.stop i H ∧ D.nx σ H) ∨ (J.go i H ∧ ∃ N : L2.St → Hp → Prop, (∀ σ' H', N σ' H' → ∃ m', m' < m ∧ W (i + 1) m' σ' H') ∧ ∀ x H', J.yld i H x H' → g x σ H' fun σ2 H2 => tb { D with nx := N, ct := N, bk := D.nx } σ2 H2) := by
  refine ⟨fun i m σ H => m + i = n ∧ W i σ H, ⟨n, by omega, w0⟩, fun i m σ H h => ?_⟩
  obtain ⟨e, h⟩ := h
  by_cases hi : i < n
  · obtain ⟨go, q⟩ := turn i σ H hi h
    exact .inr ⟨go, W (i + 1), fun σ' H' w => ⟨m - 1, by omega, by omega, w⟩, q⟩
  · have ei : i = n := by omega
    subst ei
    exact .inl (stop σ H h)
theorem iteNot {c : Bool} {A B : Prop} (h1 : c = true → B) (h2 : c = false → A) : if (!c) = true then A else B := by
  cases c with
  | true => exact iteF (h1 rfl)
  | false => exact iteT (h2 rfl)
/-! ### rows -/
structure Row where
  spot : Int
  fnd : Fnd
  ws : List Wh
def RowAt (K : PySem.W.Frag) (H : Hp) (a : Addr) (r : Row) : Prop := ∃ (fv : V) (tw : Addr) (ps : List Addr), SqT K H a [.int r.spot, fv, .ref tw] ∧ FndAt K H fv r.fnd ∧ SqT K H tw (ps.map V.ref) ∧ WsAt K H ps r.ws ∧ r.ws.length = 5
theorem RowAt.same {K : PySem.W.Frag} {H H' : Hp} {a : Addr} {r : Row} (e : Same H H') (h : RowAt K H a r) : RowAt K H' a r := by
  obtain ⟨fv, tw, ps, h1, h2, h3, h4, h5⟩ := h
  exact ⟨fv, tw, ps, Same.tup e h1, h2.same e, Same.tup e h3, h4.same e, h5⟩
def RowsAt (K : PySem.W.Frag) (H : Hp) (as : List Addr) (rs : List Row) : Prop := as.length = rs.length ∧ ∀ (i : Nat) (a : Addr) (r : Row), as[i]? = some a → rs[i]? = some r → RowAt K H a r
theorem RowsAt.same {K : PySem.W.Frag} {H H' : Hp} {as : List Addr} {rs : List Row} (e : Same H H') (h : RowsAt K H as rs) : RowsAt K H' as rs := ⟨h.1, fun i a r h1 h2 => (h.2 i a r h1 h2).same e⟩
def rowOk (hi least : Int) (r : Row) : Bool := rulOk r.fnd r.ws && inB r.spot least hi
/-- the first row that is not right -/
def needFrom : Nat → Int → List Row → Option Nat
  | _, _, [] => none
  | k, least, r :: rs => if rowOk (if k = 0 then 0 else 59) least r = true then needFrom (k + 1) (r.spot + 1) rs else some k
/-- what read_table's BadTable tells -/
def needRows (rs : List Row) : Option V := if 1 ≤ rs.length ∧ rs.length ≤ 60 then (needFrom 0 0 rs).map fun k => .int (k : Nat) else some .non
section
variable {P : Program} {w : World} {K : PySem.W.Frag} {mg : Str → Option Value} {base : Heap}
theorem scNeedRows : FnScope ["thing", "size", "least", "number", "row"] ["thing", "size"] (defScope sNeedRows) := ⟨rfl, rfl, rfl, by decide +kernel, rfl, by decide +kernel, by decide +kernel⟩
theorem scNeedTable : FnScope ["thing"] ["thing"] (defScope sNeedTable) := ⟨rfl, rfl, rfl, by decide +kernel, rfl, by decide +kernel, by decide +kernel⟩
def TabEnd (K : PySem.W.Frag) (a : Addr) (rs : List Row) (H : Hp) (Q : VK) (E : XK) : Prop :=
  (needRows rs = none → ∀ H', Same H H' → Q (.ref a) H') ∧ ∀ v, needRows rs = some v → ∀ H1 d, Same H H1 → H1 d = none → E (.ref (He.ga K "BadTable")) (some d) (upd H1 d (.xd [("row", v)]))
def spNeedRows (K : PySem.W.Frag) : Sp := fun vs H Q E => ∃ (a : Addr) (as : List Addr) (rs : List Row), vs = [.ref a, .int 60] ∧ SqT K H a (as.map V.ref) ∧ as.length ≤ sizeLine ∧ RowsAt K H as rs ∧ TabEnd K a rs H Q E
theorem ok_need_rows (T : Tx K mg) : Ok P w K mg base (L2.CX P w) 4 "need_rows" ["thing", "size"] (spNeedRows K) := by
  have ois_rule := ok_is_rule (P := P) (w := w) (base := base) T
  have ois_integer := ok_is_integer (P := P) (w := w) (base := base) T
  refine T.ok 7 rfl T.g_need_rows scNeedRows (fun vs H Q E h => ?_) (fun _ _ _ _ _ _ us hl => match us, hl with | [_, _], _ => rfl) fun cdv A outer s H vs Q E hr h => ?_
  · obtain ⟨a, as, rs, rfl, _⟩ := h
    rfl
  · obtain ⟨a, as, rs, rfl, hs, hz, hr1, hq, hx⟩ := h
    have hl : (as.map V.ref).length = rs.length := by rw [List.length_map, hr1.1]
    have none_end : ¬ (1 ≤ rs.length ∧ rs.length ≤ 60) → ∀ d, H d = none → E (.ref (He.ga K "BadTable")) (some d) (upd H d (.xd [("row", .non)])) := fun hn d nd => hx .non (by unfold needRows; rw [if_neg hn]) H d (Same.refl H) nd
    refine ⟨_, (pss_cons (ps_if (PW.pt (pw_or (pt_not (pt_val (pe_isi T.n_isinstance T.n_tuple (pv 0) PyProof.Rows.boot_tuple))) (pw_or1 (pt_not (pt_chain op_le op_le pe_int (pe_callB call_len_seq (by rfl) T.n_len PySem.boot_len (pa_cons (pv 0) pa_nil)) (pe_gl T.g_MOST_CODE)))))) (pss_one (ps_raise1 T (hr.mono (by decide)) rfl (L2.takes_of rfl rfl rfl rfl) (pa_cons pe_non pa_nil))) pss_nil)
      (pss_cons (ps_set (i := 2) scNeedRows.nd rfl (Or.inl rfl) pe_int)
      (pss_cons (ps_for (passes_of rfl) rfl (pi_enumT T.n_enumerate (pa_cons (pv 0) pa_nil)) (pg_tup rfl (pgs_cons (pg_name (i := 3) scNeedRows.nd rfl (Or.inl rfl)) (pgs_cons (pg_name (i := 4) scNeedRows.nd rfl (Or.inl rfl)) pgs_nil))) (pss_cons (ps_if (PW.pt (pw_or (pt_not (pt_val (pe_isi T.n_isinstance T.n_tuple (pv 4) PyProof.Rows.boot_tuple))) (pw_or (pt_cmpR op_ne (pe_callB call_len_seq (by rfl) T.n_len PySem.boot_len (pa_cons (pv 4) pa_nil)) pe_int (nomark _)) (pw_or1 (pt_not (pt_val (pe_k ois_rule hr (by decide) pass0 (pa_cons (pe_slice sl_tup (pv 4) (po_some pe_int) po_none) pa_nil)))))))) (pss_one (ps_raise1 T (hr.mono (by decide)) rfl (L2.takes_of rfl rfl rfl rfl) (pa_cons (pv 3) pa_nil))) pss_nil)
      (pss_cons (ps_if (pt_not (pt_val (pe_k ois_integer hr (by decide) pass0 (pa_cons (pe_ix (ixT (K := K)) (pv 4) pe_int (fun _ _ => rfl)) (pa_cons (pv 2) (pa_cons (pe_ifExp (pt_cmpR op_gt (pv 3) pe_int (nomark _)) (pe_op op_sub (pv 1) pe_int) pe_int) pa_nil)))))) (pss_one (ps_raise1 T (hr.mono (by decide)) rfl (L2.takes_of rfl rfl rfl rfl) (pa_cons (pv 3) pa_nil))) pss_nil)
      (pss_one (ps_set (i := 2) scNeedRows.nd rfl (Or.inl rfl) (pe_op op_add (pe_ix (ixT (K := K)) (pv 4) pe_int (fun _ _ => rfl)) pe_int))))))
      (pss_one (ps_ret (pv 0)))))), ?_⟩
    refine ⟨_, rfl, _, _, _, _, true, rfl, .ty _, tyT hs, kit_ty (by decide +kernel), true, rfl, iteF ?_⟩
    refine ⟨_, rfl, _, _, rfl, .inr hs, _, _, rfl, rfl, _, rfl, iteTest (fun c1 => ?_) fun c1 => ?_⟩
    · refine ⟨_, _, rfl, rfl, _, rfl, iteNot (fun c2 => ?_) fun c2 => ?_⟩
      · have d1 := of_decide_eq_true c1
        have d2 := of_decide_eq_true c2
        rw [hl] at d1 d2
        have fit : 1 ≤ rs.length ∧ rs.length ≤ 60 := by omega
        have need : ∀ o, needFrom 0 0 rs = o → needRows rs = o.map fun k => V.int (k : Nat) := fun o ho => by
          unfold needRows
          rw [if_pos fit, ho]
        refine ⟨_, rfl, _, _, rfl, hs, loop_n rs.length (fun i σ H1 => ∃ (least : Int) (u v : Option V), σ = [some (.ref a), some (.int 60), some (.int least), u, v] ∧ Same H H1 ∧ needFrom 0 0 rs = needFrom i least (rs.drop i)) ⟨0, none, none, rfl, Same.refl H, rfl⟩ (fun σ H1 hw => ?_) fun i σ H1 hi hw => ?_⟩
        · obtain ⟨least, u, v, rfl, e1, e2⟩ := hw
          refine ⟨⟨_, Same.tup e1 hs, by rw [hl]; exact Nat.le_refl _⟩, _, rfl, hq ?_ H1 e1⟩
          rw [List.drop_length] at e2
          exact need _ e2
        · obtain ⟨least, u, v, rfl, e1, e2⟩ := hw
          have hia : i < as.length := by rw [hr1.1]; exact hi
          have ga : as[i]? = some as[i] := List.getElem?_eq_getElem hia
          have gr : rs[i]? = some rs[i] := List.getElem?_eq_getElem hi
          have gx : (as.map V.ref)[i]? = some (.ref as[i]) := by rw [List.getElem?_map, ga]; rfl
          refine ⟨⟨_, _, Same.tup e1 hs, gx⟩, fun x H2 hy => ?_⟩
          obtain ⟨T2, x2, rfl, nT, rfl, hx2⟩ := hy
          have ex : x2 = .ref as[i] := by
            have z := hx2 _ (Same.tup e1 hs)
            rw [gx] at z
            exact (Option.some.inj z).symm
          subst ex
          have e3 : Same H (upd H1 T2 (.tup [.int (i : Nat), .ref as[i]])) := Same.upd e1 nT
          obtain ⟨fv, tw, ps, h1, h2, h3, h4, h5⟩ := (hr1.2 i _ _ ga gr).same e3
          have ed : rs.drop i = rs[i] :: rs.drop (i + 1) := List.drop_eq_getElem_cons hi
          have bad : rowOk (if i = 0 then 0 else 59) least rs[i] = false → ∀ H3, Same H H3 → ∀ d, H3 d = none → E (.ref (He.ga K "BadTable")) (some d) (upd H3 d (.xd [("row", .int (i : Nat))])) := fun hb H3 e4 d nd => by
            refine hx (.int (i : Nat)) (need (some i) ?_) H3 d e4 nd
            rw [e2, ed]
            show (if _ then _ else _) = _
            rw [if_neg (by rw [hb]; exact Bool.false_ne_true)]
          refine ⟨T2, _, rfl, .inl (.inl upd_same), rfl, _, _, rfl, _, _, rfl, rfl, ?_⟩
          refine ⟨_, rfl, _, _, _, _, true, rfl, .ty _, tyT h1, kit_ty (by decide +kernel), true, rfl, iteF ?_⟩
          refine ⟨_, rfl, _, _, rfl, .inr h1, rfl, _, rfl, iteF ?_⟩
          refine ⟨_, rfl, _, rfl, _, _, rfl, h1, (by intro z; exact absurd z.1 (by decide : ¬ HT.sIx 3 0 (some 1) = 0)), fun p np => ?_⟩
          have e4 := Same.upd (o := .tup [fv, .ref tw]) (Same.refl _) np
          refine ⟨p, fv, tw, ps, rs[i].fnd, rs[i].ws, rfl, .inl (.inl upd_same), h2.same e4, Same.tup e4 h3, h4.same e4, h5, fun H4 e5 => ⟨_, rfl, ?_⟩⟩
          have e6 : Same H H4 := (e3.trans e4).trans e5
          have hrow : SqT K H4 as[i] [.int rs[i].spot, fv, .ref tw] := Same.tup (e4.trans e5) h1
          cases hru : rulOk rs[i].fnd rs[i].ws with
          | false =>
            refine iteT ⟨_, rfl, _, rfl, fun d nd => bad ?_ H4 e6 d nd⟩
            unfold rowOk
            rw [hru]
            rfl
          | true =>
            refine iteF ?_
            have rok : ∀ hi : Int, (if i = 0 then (0 : Int) else 59) = hi → (decide (least ≤ rs[i].spot) && decide (rs[i].spot ≤ hi)) = true → rowOk (if i = 0 then 0 else 59) least rs[i] = true := fun hi eh hc => by
              unfold rowOk inB
              rw [hru, eh, hc]
              rfl
            have rno : ∀ hi : Int, (if i = 0 then (0 : Int) else 59) = hi → (decide (least ≤ rs[i].spot) && decide (rs[i].spot ≤ hi)) = false → rowOk (if i = 0 then 0 else 59) least rs[i] = false := fun hi eh hc => by
              unfold rowOk inB
              rw [hru, eh, hc]
              rfl
            refine ⟨_, rfl, _, _, _, _, rfl, rfl, hrow, rfl, _, rfl, _, rfl, _, _, rfl, rfl, _, rfl, iteTest (fun c3 => ?_) fun c3 => ?_⟩
            · have ei : (if i = 0 then (0 : Int) else 59) = 60 - 1 := by
                have z := of_decide_eq_true c3
                rw [if_neg (by omega)]
                rfl
              refine ⟨_, rfl, _, _, rfl, rfl, _, _, _, rfl, _, rfl, iteNot (fun c4 => ?_) fun c4 => ?_⟩
              · refine ⟨_, rfl, _, _, _, _, rfl, rfl, hrow, rfl, _, _, rfl, rfl, ?_⟩
                refine ⟨_, _, _, rfl, e6, ?_⟩
                rw [e2, ed]
                show (if _ then _ else _) = _
                rw [if_pos (rok _ ei c4)]
              · refine ⟨_, rfl, _, rfl, fun d nd => bad (rno _ ei c4) H4 e6 d nd⟩
            · have ei : (if i = 0 then (0 : Int) else 59) = 0 := by
                have z := of_decide_eq_false c3
                rw [if_pos (by omega)]
              refine ⟨_, _, _, rfl, _, rfl, iteNot (fun c4 => ?_) fun c4 => ?_⟩
              · refine ⟨_, rfl, _, _, _, _, rfl, rfl, hrow, rfl, _, _, rfl, rfl, ?_⟩
                refine ⟨_, _, _, rfl, e6, ?_⟩
                rw [e2, ed]
                show (if _ then _ else _) = _
                rw [if_pos (rok _ ei c4)]
              · refine ⟨_, rfl, _, rfl, fun d nd => bad (rno _ ei c4) H4 e6 d nd⟩
      · refine ⟨_, rfl, fun d nd => none_end ?_ d nd⟩
        have d2 := of_decide_eq_false c2
        rw [hl] at d2
        omega
    · refine ⟨_, rfl, iteT ⟨_, rfl, fun d nd => none_end ?_ d nd⟩⟩
      have d1 := of_decide_eq_false c1
      rw [hl] at d1
      omega
/-! ### need_table -/
def spNeedTable (K : PySem.W.Frag) : Sp := fun vs H Q E => ∃ (a : Addr) (as : List Addr) (rs : List Row), vs = [.ref a] ∧ SqT K H a (as.map V.ref) ∧ as.length ≤ sizeLine ∧ RowsAt K H as rs ∧ TabEnd K a rs H Q E
theorem ok_need_table (T : Tx K mg) : Ok P w K mg base (L2.CX P w) 5 "need_table" ["thing"] (spNeedTable K) := by
  have oneed_rows := ok_need_rows (P := P) (w := w) (base := base) T
  refine T.ok 8 rfl T.g_need_table scNeedTable (fun vs H Q E h => ?_) (fun _ _ _ _ _ _ us hl => match us, hl with | [_], _ => rfl) fun cdv A outer s H vs Q E hr h => ?_
  · obtain ⟨a, as, rs, rfl, _⟩ := h
    rfl
  · obtain ⟨a, as, rs, rfl, hs, hz, hr1, hq⟩ := h
    exact ⟨_, (pss_one (ps_ret (pe_k oneed_rows hr (by decide) (L2.passes_call (L2.takes_of rfl rfl rfl rfl) fun _ _ _ _ h => h) (pa_cons (pv 0) (pa_cons (pe_gl T.g_MOST_CODE) pa_nil))))), ⟨_, rfl, a, as, rs, rfl, hs, hz, hr1, hq⟩⟩
end
end K39
set_option Elab.async false
set_option linter.all false
set_option maxRecDepth 100000
set_option maxHeartbeats 4000000
namespace K39
open PySem PySem.Spec PyProof.Rows L2
/-! ### words as lists of signs -/
abbrev cpl (z : Str) : List Nat := z.cps.toList
theorem str_ext {a b : Str} (h : cpl a = cpl b) : a = b := by
  obtain ⟨⟨la⟩⟩ := a
  obtain ⟨⟨lb⟩⟩ := b
  have e : la = lb := h
  rw [e]
theorem str_eq_iff {a b : Str} : a = b ↔ cpl a = cpl b := ⟨fun h => by rw [h], str_ext⟩
theorem cpl_len (z : Str) : (cpl z).length = z.length := Array.length_toList
def isNegL : List Nat → Bool
  | 45 :: _ => true
  | _ => false
def digsL : List Nat → List Nat
  | 45 :: r => r
  | l => l
def isDig (c : Nat) : Bool := decide (c ∈ cpl "0123456789")
theorem isDig_iff {c : Nat} : isDig c = true ↔ 48 ≤ c ∧ c ≤ 57 := by
  have e : cpl "0123456789" = [48, 49, 50, 51, 52, 53, 54, 55, 56, 57] := by decide +kernel
  unfold isDig
  rw [e, decide_eq_true_iff]
  simp only [List.mem_cons, List.not_mem_nil, or_false]
  omega
def isNumL (l : List Nat) : Bool := decide (1 ≤ (digsL l).length) && decide ((digsL l).length ≤ 4) && (digsL l).all isDig && (!decide ((digsL l).head? = some 48) || decide (l = [48]))
def numValL (l : List Nat) : Int := if isNegL l = true then -((NumText.digitsVal (digsL l) : Nat) : Int) else ((NumText.digitsVal (digsL l) : Nat) : Int)
def isNum (z : Str) : Bool := isNumL (cpl z)
def numVal (z : Str) : Int := numValL (cpl z)
def numTold (z : Str) : Option Int := if isNum z = true then some (numVal z) else none
/-- its digits as a text -/
def digsT (z : Str) : Str := ⟨(digsL (cpl z)).toArray⟩
theorem cpl_digsT (z : Str) : cpl (digsT z) = digsL (cpl z) := rfl
theorem cut1 (z : Str) : cpl (cutS z none (some 1)) = (cpl z).take 1 := by
  show ((cpl z).drop 0).take (HT.sIx z.length z.length (some 1) - 0) = _
  rw [List.drop_zero, Nat.sub_zero]
  have e : HT.sIx z.length z.length (some 1) = min 1 z.length := HT.sIx_nat _ _ 1
  rw [e, ← cpl_len]
  cases cpl z with
  | nil => rfl
  | cons a l =>
    rw [show min 1 (a :: l).length = 1 from Nat.min_eq_left (by simp)]
theorem cutTail (z : Str) : cpl (cutS z (some 1) none) = (cpl z).drop 1 := by
  show ((cpl z).drop (HT.sIx z.length 0 (some 1))).take (z.length - HT.sIx z.length 0 (some 1)) = _
  have e : HT.sIx z.length 0 (some 1) = min 1 z.length := HT.sIx_nat _ _ 1
  rw [e, ← cpl_len]
  cases cpl z with
  | nil => rfl
  | cons a l =>
    rw [show min 1 (a :: l).length = 1 from Nat.min_eq_left (by simp)]
    exact List.take_of_length_le (by simp)
theorem minus_cpl : cpl "-" = [45] := by decide +kernel
theorem neg_dec (z : Str) : decide (V.str (cutS z none (some 1)) = V.str "-") = isNegL (cpl z) := by
  rw [decS]
  have e : (cutS z none (some 1) = "-") ↔ (cpl z).take 1 = [45] := by
    rw [str_eq_iff, cut1, minus_cpl]
  cases hl : cpl z with
  | nil =>
    refine (decide_eq_false fun q => ?_).trans rfl
    have := e.mp q
    rw [hl] at this
    cases this
  | cons a l =>
    by_cases ha : a = 45
    · subst ha
      exact decide_eq_true (e.mpr (by rw [hl]; rfl))
    · refine (decide_eq_false fun q => ?_).trans ?_
      · have := e.mp q
        rw [hl] at this
        exact ha (List.cons.inj this).1
      · unfold isNegL
        split
        · rename_i h
          exact absurd (List.cons.inj h).1 ha
        · rfl
theorem digs_neg {z : Str} (h : isNegL (cpl z) = true) : cutS z (some 1) none = digsT z ∧ cpl z = 45 :: digsL (cpl z) := by
  have k : ∃ r, cpl z = 45 :: r := by
    unfold isNegL at h
    split at h
    · exact ⟨_, by assumption⟩
    · cases h
  obtain ⟨r, e⟩ := k
  refine ⟨str_ext ?_, ?_⟩
  · rw [cutTail, cpl_digsT, e]
    rfl
  · rw [e]
    rfl
theorem digs_pos {z : Str} (h : isNegL (cpl z) = false) : z = digsT z := by
  refine str_ext ?_
  rw [cpl_digsT]
  unfold digsL
  split
  · rename_i r e
    rw [e] at h
    cases h
  · rfl
/-- int of a number's digits -/
theorem int_digs {z : Str} (h : isNumL (cpl z) = true) : intText? (digsT z) = some ((NumText.digitsVal (digsL (cpl z)) : Nat) : Int) ∧ (digsT z).length ≤ 640 := by
  unfold isNumL at h
  simp only [Bool.and_eq_true, decide_eq_true_eq] at h
  obtain ⟨⟨⟨h1, h2⟩, h3⟩, _⟩ := h
  have hl : (digsT z).length = (digsL (cpl z)).length := (cpl_len _).symm
  refine ⟨intText_digits (x := digsT z) (fun c hc => isDig_iff.mp (List.all_eq_true.mp h3 c hc)) (fun e => ?_) (by rw [hl]; omega), by rw [hl]; omega⟩
  have e' : digsL (cpl z) = [] := e
  rw [e'] at h1
  simp at h1
/-- int of the number itself -/
theorem int_num {z : Str} (h : isNumL (cpl z) = true) : intText? z = some (numVal z) ∧ z.length ≤ 640 := by
  have h0 := int_digs h
  unfold isNumL at h
  simp only [Bool.and_eq_true, decide_eq_true_eq] at h
  obtain ⟨⟨⟨h1, h2⟩, h3⟩, _⟩ := h
  cases hn : isNegL (cpl z) with
  | false =>
    have e := digs_pos hn
    rw [← e] at h0
    refine ⟨h0.1.trans ?_, h0.2⟩
    unfold numVal numValL
    rw [hn]
    rfl
  | true =>
    have e := (digs_neg hn).2
    have hz : z.length = (digsL (cpl z)).length + 1 := by
      rw [← cpl_len]
      exact congrArg List.length e
    refine ⟨?_, by omega⟩
    rw [intText_neg (x := z) e (fun c hc => isDig_iff.mp (List.all_eq_true.mp h3 c hc)) (fun q => by rw [q] at h1; simp at h1) (by omega)]
    unfold numVal numValL
    rw [hn]
    rfl
/-! ### a comprehension over a text -/
section
variable {K : PySem.W.Frag} {D : Addr} {g : TG} {tt : TT} {te : TE} {vs : List Nat} {σ : L2.St} {H1 : Hp} {Qd : Hp → Prop} {S : List Addr}
theorem lc_strJ {y : Str} (J : Nat → List V → Hp → Prop) (hz : y.length ≤ sizeLine) (nD : H1 D = none) (mD : D ∉ S) (up : ∀ i acc H l zs, H D = some (.lst l) → J i acc H → J i acc (upd H D (.lst zs)))
    (j0 : J 0 [] (upd H1 D (.lst []))) (hs : ∀ i c, (cpl y)[i]? = some c → LcTurn J S H1 D g tt te vs σ i (.str ⟨#[c]⟩)) (hd : ∀ ys H, Kp S H1 H → H D = some (.lst ys) → J y.length ys H → Qd H) :
    LcGoal (Its y) g tt te vs σ H1 D Qd := by
  refine ⟨fun i m H => m + i = y.length ∧ Kp S H1 H ∧ ∃ acc, H D = some (.lst acc) ∧ acc.length ≤ i ∧ J i acc H, ⟨y.length, by omega, kp_D (Kp.refl _ _) nD, [], upd_same, Nat.le_refl _, j0⟩, fun i m H h => ?_⟩
  obtain ⟨e, h⟩ := h
  have esz : y.cps.size = y.length := rfl
  by_cases hi : i < y.length
  · refine .inr ⟨hi, fun H => Kp S H1 H ∧ ∃ acc, H D = some (.lst acc) ∧ acc.length ≤ i + 1 ∧ J (i + 1) acc H, fun H' p' => ⟨m - 1, by omega, by omega, p'⟩, fun x H' hy => ?_⟩
    obtain ⟨rfl, c, hc, rfl⟩ := hy
    exact lc_turn nD mD (by omega) up (hs i c (by rw [← hc]; exact Array.getElem?_toList)) h
  · have ei : i = y.length := by omega
    subst ei
    obtain ⟨k, acc, hD, _, j⟩ := h
    exact .inl ⟨Nat.le_refl _, hd acc H k hD j⟩
end
end K39
set_option Elab.async false
set_option linter.all false
set_option maxRecDepth 100000
set_option maxHeartbeats 4000000
namespace K39
open PySem PySem.Spec PyProof.Rows L2
section
variable {P : Program} {w : World} {K : PySem.W.Frag} {mg : Str → Option Value} {base : Heap}
theorem un64 {k : Nat} {A : Around} (r : Room k A) : A.units + 64 < cLine := by
  have := r.un
  omega
/-- an assignment of which the value is known -/
theorem asg_to {te : TE} {i : Nat} {r : TS} {D : Ends} {σ : L2.St} {H : Hp} (v : V) (he : ∀ Q : VK, Q v H → te σ H Q) (h : r D (σ.set i (some v)) H) : tSeq (tAsg te (gName i)) r D σ H := he _ h
/-- a test that may lay new objects -/
theorem sq_fr {c : TT} {t u r : TS} {D : Ends} {σ : L2.St} {H : Hp} (b : Bool) (hc : ∀ Q : Bool → Hp → Prop, (∀ H', Same H H' → Q b H') → c σ H Q) (ht : b = true → ∀ H', Same H H' → t { D with nx := r D } σ H') (hf : b = false → ∀ H', Same H H' → u { D with nx := r D } σ H') : tSeq (tIfS c t u) r D σ H := hc _ fun H' e => iteTest (fun z => ht z H' e) fun z => hf z H' e
theorem sq_frN {c : TT} {t r : TS} {D : Ends} {σ : L2.St} {H : Hp} (b : Bool) (hc : ∀ Q : Bool → Hp → Prop, (∀ H', Same H H' → Q b H') → c σ H Q) (ht : b = true → ∀ H', Same H H' → t { D with nx := r D } σ H') (hf : b = false → ∀ H', Same H H' → r D σ H') : tSeq (tIfS c t tNext) r D σ H := sq_fr b hc ht hf
/-! ### number_told -/
theorem scNumberTold : FnScope ["word", "digits", "digit"] ["word"] (defScope sNumberTold) := ⟨rfl, rfl, rfl, by decide +kernel, rfl, by decide +kernel, by decide +kernel⟩
def optI : Option Int → V
  | some i => .int i
  | none => .non
def spNumberTold : Sp := fun vs H Q _ => ∃ z : Str, vs = [.str z] ∧ z.length ≤ 1000000 ∧ ∀ H', Same H H' → Q (optI (numTold z)) H'
theorem ok_number_told (T : Tx K mg) : Ok P w K mg base CX0 1 "number_told" ["word"] spNumberTold := by
  refine T.ok0 9 rfl T.g_number_told scNumberTold (fun vs H Q E h => ?_) (fun _ _ _ _ _ _ us hl => match us, hl with | [_], _ => rfl) fun cdv A outer s H vs Q E hr h => ?_
  · obtain ⟨z, rfl, _⟩ := h
    rfl
  · obtain ⟨z, rfl, hz, hq⟩ := h
    have hzs : z.length ≤ sizeLine := by rw [sizeLine_eq]; omega
    refine ⟨_, (pss_cons (ps_set (i := 1) scNumberTold.nd rfl (Or.inl rfl) (pe_ifExp (pt_cmpR op_eq (pe_slice sl_str (pv 0) po_none (po_some pe_int)) (pe_gl T.g_MINUS) (nomark _)) (pe_slice sl_str (pv 0) (po_some pe_int) po_none) (pv 0)))
      (pss_cons (ps_if (PW.pt (pw_or (pt_not (pt_chain op_le op_le pe_int (pe_callB call_len_str (by rfl) T.n_len PySem.boot_len (pa_cons (pv 1) pa_nil)) (pe_gl T.g_MOST_DIGITS))) (pw_or1 (pt_not (pt_val (pe_callB (cr_all rfl) (by rfl) T.n_all PyProof.Rows.boot_all (pa_cons (pe_lc (own := [("digit", 2)]) rfl scNumberTold.nd (pi_str (pv 1)) (blkOk_by (N := ["word", "digits", "digit"]) (sc := defScope sNumberTold) (by decide +kernel)) (fun _ _ _ _ _ => (pg_name (i := 2) scNumberTold.nd rfl (Or.inl rfl))) (fun _ _ _ _ _ => pts_nil) (fun _ _ _ _ _ => (pe_cmpR op_in_sign (pv 2) (pe_gl T.g_DIGITS) (by rfl)))) pa_nil))))))) (pss_one (ps_ret pe_non)) pss_nil)
      (pss_cons (ps_if (PW.pt (pw_and (pt_cmpR op_eq (pe_ix ix_str (pv 1) pe_int (fun _ _ => rfl)) pe_str (nomark _)) (pw_and1 (pt_cmpR op_ne (pv 0) pe_str (nomark _))))) (pss_one (ps_ret pe_non)) pss_nil)
      (pss_one (ps_ret (pe_ifExp (pt_cmpR op_eq (pe_slice sl_str (pv 0) po_none (po_some pe_int)) (pe_gl T.g_MINUS) (nomark _)) (pe_un un_neg (pe_callTy call_int_str (by rfl) T.n_int PyProof.Rows.boot_int (pa_cons (pv 1) pa_nil))) (pe_callTy call_int_str (by rfl) T.n_int PyProof.Rows.boot_int (pa_cons (pv 1) pa_nil)))))))), ?_⟩
    refine asg_to (.str (digsT z)) (fun Q' hQ => ?_) ?_
    · refine ⟨_, rfl, _, rfl, _, rfl, hzs, rfl, _, rfl, ?_⟩
      rw [neg_dec]
      cases hn : isNegL (cpl z) with
      | true =>
        refine iteT ⟨_, rfl, _, rfl, _, rfl, hzs, ?_⟩
        rw [(digs_neg hn).1]
        exact hQ
      | false =>
        refine iteF ⟨_, rfl, ?_⟩
        rw [← digs_pos hn] at hQ
        exact hQ
    have hl : (digsT z).length = (digsL (cpl z)).length := (cpl_len _).symm
    have hle : (digsL (cpl z)).length ≤ (cpl z).length := by
      unfold digsL
      split
      · rename_i r e
        rw [e]
        simp
      · exact Nat.le_refl _
    have hzd : (digsT z).length ≤ sizeLine := by
      rw [hl]
      rw [cpl_len] at hle
      omega
    refine sq_frN (!(decide (1 ≤ (digsL (cpl z)).length) && decide ((digsL (cpl z)).length ≤ 4) && (digsL (cpl z)).all isDig)) (fun Q' hQ => ?_) (fun hb H1 e1 => ?_) (fun hb H1 e1 => ?_)
    · refine ⟨_, rfl, _, rfl, hzd, _, _, rfl, rfl, _, rfl, iteTest (fun c1 => ?_) fun c1 => ?_⟩
      · have d1 : 1 ≤ (digsL (cpl z)).length := by
          have q := of_decide_eq_true c1
          rw [hl] at q
          omega
        refine ⟨_, _, rfl, rfl, _, rfl, iteNot (fun c2 => ?_) fun c2 => ?_⟩
        · have d2 : (digsL (cpl z)).length ≤ 4 := by
            have q := of_decide_eq_true c2
            rw [hl] at q
            omega
          rw [decide_eq_true d1, decide_eq_true d2] at hQ
          refine ⟨_, rfl, _, rfl, fun D nD => ?_⟩
          refine lc_strJ (S := []) (fun i acc _ => acc = ((digsL (cpl z)).take i).map fun c => V.bl (isDig c)) hzd nD (by simp) (fun _ _ _ _ _ _ j => j) rfl (fun i c hc acc H2 Q2 N k hD j hy hn => ?_) fun ys H2 k hD j => ?_
          · refine lc_yes rfl ⟨_, rfl, c, _, rfl, rfl, hy _ _ (Kp.refl _ _) ?_⟩
            exact snoc_map j hc
          · refine ⟨_, (digsL (cpl z)).map isDig, rfl, .of ?_, _, rfl, ?_⟩
            · rw [hD, j, hl, List.take_length, List.map_map]
              rfl
            · have e3 : ((digsL (cpl z)).map isDig).all id = (digsL (cpl z)).all isDig := by rw [List.all_map] <;> rfl
              rw [e3]
              exact hQ H2 k.same
        · have d2 : ¬ (digsL (cpl z)).length ≤ 4 := by
            have q := of_decide_eq_false c2
            rw [hl] at q
            omega
          rw [decide_eq_false d2, Bool.and_false] at hQ
          exact hQ H (Same.refl H)
      · have d1 : ¬ 1 ≤ (digsL (cpl z)).length := by
          have q := of_decide_eq_false c1
          rw [hl] at q
          omega
        rw [decide_eq_false d1] at hQ
        exact ⟨_, rfl, iteT (hQ H (Same.refl H))⟩
    · have e : numTold z = none := by
        unfold numTold isNum isNumL
        rw [Bool.not_eq_true'] at hb
        rw [hb]
        rfl
      rw [e] at hq
      exact hq H1 e1
    · have hb' := (Bool.not_eq_false' _).mp hb
      have hb2 := hb'
      simp only [Bool.and_eq_true, decide_eq_true_eq] at hb2
      obtain ⟨⟨d1, d2⟩, d3⟩ := hb2
      obtain ⟨c0, rest, ed⟩ : ∃ c0 rest, digsL (cpl z) = c0 :: rest := by
        cases q : digsL (cpl z) with
        | nil =>
          rw [q] at d1
          simp at d1
        | cons a l => exact ⟨a, l, rfl⟩
      have e0 : decide (V.str ⟨#[c0]⟩ = V.str "0") = decide ((digsL (cpl z)).head? = some 48) := by
        rw [decS, ed]
        have i : ((⟨#[c0]⟩ : Str) = "0") ↔ c0 = 48 := by
          rw [str_eq_iff]
          have z0 : cpl "0" = [48] := by decide +kernel
          rw [z0]
          show [c0] = [48] ↔ _
          simp
        by_cases h : c0 = 48
        · rw [decide_eq_true (i.mpr h), h]
          rfl
        · rw [decide_eq_false fun q => h (i.mp q)]
          exact (decide_eq_false fun q => h (Option.some.inj q)).symm
      have e1' : decide (V.str z = V.str "0") = decide (cpl z = [48]) := by
        rw [decS]
        have z0 : cpl "0" = [48] := by decide +kernel
        exact decide_eq_decide.mpr (by rw [str_eq_iff, z0])
      refine sq_frN (decide ((digsL (cpl z)).head? = some 48) && !decide (cpl z = [48])) (fun Q' hQ => ?_) (fun hc H2 e2 => ?_) (fun hc H2 e2 => ?_)
      · refine ⟨_, rfl, _, _, _, rfl, rfl, hzd, atI_nat (j := 0) (by show (digsL (cpl z))[0]? = some c0; rw [ed]; rfl), rfl, _, rfl, ?_⟩
        rw [e0]
        refine iteTest (fun q => ?_) fun q => ?_
        · rw [q] at hQ
          refine ⟨_, rfl, rfl, _, rfl, ?_⟩
          rw [e1']
          exact hQ H1 (Same.refl H1)
        · rw [q] at hQ
          exact hQ H1 (Same.refl H1)
      · have e : numTold z = none := by
          unfold numTold isNum isNumL
          rw [hb']
          obtain ⟨h1, h2⟩ := Bool.and_eq_true_iff.mp hc
          rw [h1, (Bool.not_eq_true' _).mp h2]
          rfl
        rw [e] at hq
        exact hq H2 (e1.trans e2)
      · have hnum : isNumL (cpl z) = true := by
          unfold isNumL
          rw [hb', Bool.true_and]
          rcases Bool.and_eq_false_iff.mp hc with q | q
          · rw [q]
            rfl
          · rw [(Bool.not_eq_false' _).mp q, Bool.or_true]
        have e : numTold z = some (numVal z) := by
          unfold numTold isNum
          rw [hnum]
          rfl
        rw [e] at hq
        have q := hq H2 (e1.trans e2)
        obtain ⟨i1, i2⟩ := int_digs hnum
        refine ⟨_, rfl, _, rfl, _, rfl, hzs, rfl, _, rfl, ?_⟩
        rw [neg_dec]
        cases hn : isNegL (cpl z) with
        | true =>
          refine iteT ⟨_, rfl, _, _, rfl, i1, i2, _, rfl, ?_⟩
          unfold optI numVal numValL at q
          rw [hn] at q
          exact q
        | false =>
          refine iteF ⟨_, rfl, _, _, rfl, i1, i2, ?_⟩
          unfold optI numVal numValL at q
          rw [hn] at q
          exact q
end
end K39
set_option Elab.async false
set_option linter.all false
set_option maxRecDepth 100000
set_option maxHeartbeats 4000000
namespace K39
open PySem PySem.Spec PyProof.Rows L2
/-! ### what a word tells -/
inductive Tk where
  | num (i : Int) | bas (z : Str) | whr (x : Wh)
def whTold (z : Str) : Option Wh := if z = "lost" then some .lost else if isReg z = true then some (.inn z) else (numTold z).map .wrd
def tkTold (c : Nat) (z : Str) : Option Tk := if c = 119 then (whTold z).map .whr else if c = 98 then (if isBas z = true then some (.bas z) else none) else (numTold z).map .num
def TkAt (K : PySem.W.Frag) (H : Hp) (v : V) : Tk → Prop
  | .num i => v = .int i
  | .bas z => v = .str z
  | .whr x => ∃ a, v = .ref a ∧ SqT K H a (whV x)
theorem TkAt.same {K : PySem.W.Frag} {H H' : Hp} {v : V} {k : Tk} (e : Same H H') (h : TkAt K H v k) : TkAt K H' v k := by
  cases k with
  | num i => exact h
  | bas z => exact h
  | whr x =>
    obtain ⟨a, h1, h2⟩ := h
    exact ⟨a, h1, Same.tup e h2⟩
/-- the value behind a word's reading -/
def TkEnd (K : PySem.W.Frag) (o : Option Tk) (H : Hp) (Q : VK) : Prop := (o = none → ∀ H', Same H H' → Q .non H') ∧ ∀ k, o = some k → ∀ v H', Same H H' → TkAt K H' v k → Q v H'
section
variable {P : Program} {w : World} {K : PySem.W.Frag} {mg : Str → Option Value} {base : Heap}
theorem scWhereTold : FnScope ["word", "number"] ["word"] (defScope sWhereTold) := ⟨rfl, rfl, rfl, by decide +kernel, rfl, by decide +kernel, by decide +kernel⟩
theorem scPartTold : FnScope ["word", "sort"] ["word", "sort"] (defScope sPartTold) := ⟨rfl, rfl, rfl, by decide +kernel, rfl, by decide +kernel, by decide +kernel⟩
theorem sq_t {c : TT} {t u r : TS} {D : Ends} {σ : L2.St} {H : Hp} (hc : ∀ Q : Bool → Hp → Prop, Q true H → c σ H Q) (h : t { D with nx := r D } σ H) : tSeq (tIfS c t u) r D σ H := hc _ (iteT h)
theorem sq_f {c : TT} {t r : TS} {D : Ends} {σ : L2.St} {H : Hp} (hc : ∀ Q : Bool → Hp → Prop, Q false H → c σ H Q) (h : r D σ H) : tSeq (tIfS c t tNext) r D σ H := hc _ (iteF h)
def spWhereTold (K : PySem.W.Frag) : Sp := fun vs H Q _ => ∃ z : Str, vs = [.str z] ∧ z.length ≤ 1000000 ∧ TkEnd K ((whTold z).map .whr) H Q
theorem ok_where_told (T : Tx K mg) : Ok P w K mg base CX0 2 "where_told" ["word"] (spWhereTold K) := by
  have ois_register := ok_is_register (P := P) (w := w) (base := base) T
  have onumber_told := ok_number_told (P := P) (w := w) (base := base) T
  refine T.ok0 11 rfl T.g_where_told scWhereTold (fun vs H Q E h => ?_) (fun _ _ _ _ _ _ us hl => match us, hl with | [_], _ => rfl) fun cdv A outer s H vs Q E hr h => ?_
  · obtain ⟨z, rfl, _⟩ := h
    rfl
  · obtain ⟨z, rfl, hz, hn, hs⟩ := h
    refine ⟨_, (pss_cons (ps_if (pt_cmpR op_eq (pv 0) (pe_ix (ixT (K := K)) (pe_glR T.g_LOST) pe_int (fun _ _ => rfl)) (nomark _)) (pss_one (ps_ret (pe_glR T.g_LOST))) pss_nil)
      (pss_cons (ps_if (pt_val (pe_k ois_register hr (by decide) pass0 (pa_cons (pv 0) pa_nil))) (pss_one (ps_ret (pe_tup (pa_cons (pe_gl T.g_IN) (pa_cons (pv 0) pa_nil))))) pss_nil)
      (pss_cons (ps_set (i := 1) scWhereTold.nd rfl (Or.inl rfl) (pe_k onumber_told hr (by decide) pass0 (pa_cons (pv 0) pa_nil)))
      (pss_one (ps_ret (pe_ifExp (pt_cmpR op_isN (pv 1) pe_non (nomark _)) pe_non (pe_tup (pa_cons (pe_gl T.g_WORD) (pa_cons (pv 1) pa_nil))))))))), ?_⟩
    by_cases h1 : z = "lost"
    · have e : whTold z = some .lost := if_pos h1
      rw [e] at hs
      refine sq_t (fun Q' hQ => ?_) (hs _ rfl _ H (Same.refl H) ⟨_, rfl, T.lost H⟩)
      refine ⟨_, rfl, _, _, _, _, rfl, rfl, T.lost H, atI_nat (j := 0) rfl, rfl, _, rfl, ?_⟩
      rw [decS, decide_eq_true h1]
      exact hQ
    · refine sq_f (fun Q' hQ => ?_) ?_
      · refine ⟨_, rfl, _, _, _, _, rfl, rfl, T.lost H, atI_nat (j := 0) rfl, rfl, _, rfl, ?_⟩
        rw [decS, decide_eq_false h1]
        exact hQ
      · cases h2 : isReg z with
        | true =>
          have e : whTold z = some (.inn z) := (if_neg h1).trans (if_pos h2)
          rw [e] at hs
          refine sq_t (fun Q' hQ => ⟨_, rfl, z, rfl, _, rfl, ?_⟩) ?_
          · rw [h2]
            exact hQ
          · refine ⟨_, rfl, (by decide : 2 ≤ sizeLine), fun p np => hs _ rfl _ _ (Same.upd (Same.refl H) np) ⟨p, rfl, .inl (.inl upd_same)⟩⟩
        | false =>
          have e : whTold z = (numTold z).map .wrd := (if_neg h1).trans (if_neg (by rw [h2]; exact Bool.false_ne_true))
          rw [e] at hn hs
          refine sq_f (fun Q' hQ => ⟨_, rfl, z, rfl, _, rfl, ?_⟩) ?_
          · rw [h2]
            exact hQ
          · refine ⟨_, rfl, z, rfl, hz, fun H1 e1 => ?_⟩
            cases hm : numTold z with
            | none =>
              rw [hm] at hn
              exact ⟨_, rfl, rfl, _, rfl, iteT (hn rfl H1 e1)⟩
            | some i =>
              rw [hm] at hs
              refine ⟨_, rfl, rfl, _, rfl, iteF ⟨_, rfl, (by decide : 2 ≤ sizeLine), fun p np => hs _ rfl _ _ (Same.upd e1 np) ⟨p, rfl, .inl (.inl upd_same)⟩⟩⟩
def spPartTold (K : PySem.W.Frag) : Sp := fun vs H Q _ => ∃ (z : Str) (c : Nat), vs = [.str z, .str ⟨#[c]⟩] ∧ (c = 110 ∨ c = 98) ∧ z.length ≤ 1000000 ∧ TkEnd K (tkTold c z) H Q
theorem sign_eq {c d : Nat} {t : Str} (ht : cpl t = [d]) : decide (V.str ⟨#[c]⟩ = V.str t) = decide (c = d) := by
  rw [decS]
  refine decide_eq_decide.mpr ?_
  rw [str_eq_iff, ht]
  show [c] = [d] ↔ _
  simp
theorem ok_part_told (T : Tx K mg) : Ok P w K mg base CX0 2 "part_told" ["word", "sort"] (spPartTold K) := by
  have ois_register := ok_is_register (P := P) (w := w) (base := base) T
  have ois_basis := ok_is_basis (P := P) (w := w) (base := base) T
  have onumber_told := ok_number_told (P := P) (w := w) (base := base) T
  refine T.ok0 10 rfl T.g_part_told scPartTold (fun vs H Q E h => ?_) (fun _ _ _ _ _ _ us hl => match us, hl with | [_, _], _ => rfl) fun cdv A outer s H vs Q E hr h => ?_
  · obtain ⟨z, c, rfl, _⟩ := h
    rfl
  · obtain ⟨z, c, rfl, hc, hz, hn, hs⟩ := h
    have kr : cpl "r" = [114] := by decide +kernel
    have kb : cpl "b" = [98] := by decide +kernel
    have kc : cpl "c" = [99] := by decide +kernel
    refine ⟨_, (pss_cons (ps_if (pt_cmpR op_eq (pv 1) pe_str (nomark _)) (pss_one (ps_ret (pe_ifExp (pt_val (pe_k ois_register hr (by decide) pass0 (pa_cons (pv 0) pa_nil))) (pv 0) pe_non))) pss_nil)
      (pss_cons (ps_if (pt_cmpR op_eq (pv 1) pe_str (nomark _)) (pss_one (ps_ret (pe_ifExp (pt_val (pe_k ois_basis hr (by decide) pass0 (pa_cons (pv 0) pa_nil))) (pv 0) pe_non))) pss_nil)
      (pss_cons (ps_if (pt_cmpR op_eq (pv 1) pe_str (nomark _)) (pss_one ps_never) pss_nil)
      (pss_one (ps_ret (pe_k onumber_told hr (by decide) pass0 (pa_cons (pv 0) pa_nil))))))), ?_⟩
    refine sq_f (fun Q' hQ => ?_) ?_
    · refine ⟨_, rfl, rfl, _, rfl, ?_⟩
      rw [sign_eq kr, decide_eq_false (by omega)]
      exact hQ
    · by_cases hb : c = 98
      · have e : tkTold c z = (if isBas z = true then some (.bas z) else none) := (if_neg (by omega)).trans (if_pos hb)
        rw [e] at hn hs
        refine sq_t (fun Q' hQ => ?_) ?_
        · refine ⟨_, rfl, rfl, _, rfl, ?_⟩
          rw [sign_eq kb, decide_eq_true hb]
          exact hQ
        · refine ⟨_, rfl, z, rfl, _, rfl, ?_⟩
          cases h2 : isBas z with
          | true =>
            rw [h2] at hs
            exact iteT ⟨_, rfl, hs _ rfl _ H (Same.refl H) rfl⟩
          | false =>
            rw [h2] at hn
            exact iteF (hn rfl H (Same.refl H))
      · have e : tkTold c z = (numTold z).map .num := (if_neg (by omega)).trans (if_neg hb)
        rw [e] at hn hs
        refine sq_f (fun Q' hQ => ?_) ?_
        · refine ⟨_, rfl, rfl, _, rfl, ?_⟩
          rw [sign_eq kb, decide_eq_false hb]
          exact hQ
        · refine sq_f (fun Q' hQ => ?_) ?_
          · refine ⟨_, rfl, rfl, _, rfl, ?_⟩
            rw [sign_eq kc, decide_eq_false (by omega)]
            exact hQ
          · refine ⟨_, rfl, z, rfl, hz, fun H1 e1 => ?_⟩
            cases hm : numTold z with
            | none =>
              rw [hm] at hn
              exact hn rfl H1 e1
            | some i =>
              rw [hm] at hs
              exact hs _ rfl _ H1 e1 rfl
end
end K39
set_option Elab.async false
set_option linter.all false
set_option maxRecDepth 100000
set_option maxHeartbeats 4000000
namespace K39
open PySem PySem.Spec PyProof.Rows L2
theorem Same.lst {K : PySem.W.Frag} {H H' : Hp} {a : Addr} {xs : List V} (e : Same H H') (h : SqL K H a xs) : SqL K H' a xs := by
  rcases h with (h | ⟨o, h⟩) | h
  · exact .inl (.inl (e _ _ h))
  · exact .inl (.inr ⟨o, e _ _ h⟩)
  · exact .inr h
/-! ### told_all -/
/-- the first word that tells nothing -/
def tkFault : Nat → List Str → List Nat → Option Nat
  | i, z :: zs, c :: cs => match tkTold c z with
    | none => some (i + 1)
    | some _ => tkFault (i + 1) zs cs
  | _, _, _ => none
def allFault (ws : List Str) (cs : List Nat) : Option Nat := match tkFault 0 ws cs with
  | some f => some f
  | none => if ws.length < cs.length then some (ws.length + 1) else if cs.length < ws.length then some (cs.length + 1) else none
def ToldAt (K : PySem.W.Frag) (H : Hp) (ws : List Str) (cs : List Nat) (vs : List V) : Prop := ∀ (j : Nat) (v : V) (z : Str) (c : Nat), vs[j]? = some v → ws[j]? = some z → cs[j]? = some c → ∃ k, tkTold c z = some k ∧ TkAt K H v k
theorem ToldAt.same {K : PySem.W.Frag} {H H' : Hp} {ws : List Str} {cs : List Nat} {vs : List V} (e : Same H H') (h : ToldAt K H ws cs vs) : ToldAt K H' ws cs vs := fun j v z c h1 h2 h3 => by
  obtain ⟨k, q1, q2⟩ := h j v z c h1 h2 h3
  exact ⟨k, q1, q2.same e⟩
def vstrs (ws : List Str) : List V := ws.map V.str
def TxtE (K : PySem.W.Frag) (line f : Int) (H : Hp) (E : XK) : Prop := ∀ H1 d, Same H H1 → H1 d = none → E (.ref (He.ga K "BadText")) (some d) (upd H1 d (.xd [("word", .int f), ("line", .int line)]))
def sortsOk (cs : List Nat) : Prop := ∀ c ∈ cs, c = 110 ∨ c = 98 ∨ c = 119
def wordsOk (ws : List Str) : Prop := ∀ z ∈ ws, z.length ≤ 1000000
def spToldAll (K : PySem.W.Frag) : Sp := fun vs H Q E => ∃ (a : Addr) (ws : List Str) (y : Str) (line : Int), vs = [.ref a, .str y, .int line] ∧ SqL K H a (vstrs ws) ∧ ws.length ≤ 1000000 ∧ wordsOk ws ∧ sortsOk (cpl y) ∧ y.length ≤ 1000 ∧
  (allFault ws (cpl y) = none → ∀ H' p us, Same H H' → H p = none → H' p = some (.lst us) → us.length = ws.length → ToldAt K H' ws (cpl y) us → Q (.ref p) H') ∧
  ∀ f : Nat, allFault ws (cpl y) = some f → TxtE K line (f : Nat) H E
theorem asg_tk {K : PySem.W.Frag} {o : Option Tk} {te : TE} {i : Nat} {r : TS} {D : Ends} {σ : L2.St} {H : Hp} (he : ∀ Q : VK, TkEnd K o H Q → te σ H Q) (hn : o = none → ∀ H', Same H H' → r D (σ.set i (some .non)) H')
    (hs : ∀ k, o = some k → ∀ v H', Same H H' → TkAt K H' v k → r D (σ.set i (some v)) H') : tSeq (tAsg te (gName i)) r D σ H := he _ ⟨hn, hs⟩
theorem TkAt.non {K : PySem.W.Frag} {H : Hp} {v : V} {k : Tk} (h : TkAt K H v k) : decide (v = .non) = false := by
  cases k with
  | num i =>
    cases (show v = .int i from h)
    rfl
  | bas z =>
    cases (show v = .str z from h)
    rfl
  | whr x =>
    obtain ⟨a, h1, _⟩ := h
    subst h1
    rfl
theorem TkAt.updL {K : PySem.W.Frag} {H : Hp} {v : V} {k : Tk} {D : Addr} {l zs : List V} (hD : H D = some (.lst l)) (h : TkAt K H v k) : TkAt K (upd H D (.lst zs)) v k := by
  cases k with
  | num i => exact h
  | bas z => exact h
  | whr x =>
    obtain ⟨a, h1, h2⟩ := h
    exact ⟨a, h1, SqT.updL hD h2⟩
theorem Same.own {H H' : Hp} {p : Addr} {o : HO} (e : Same H H') (n : H p = none) : Same H (L2.upd H' p o) := fun b u q => by
  rw [upd_ne (ne_of_none q n)]
  exact e b u q
theorem get_snoc {α : Type} {l : List α} {x y : α} {j : Nat} (h : (l ++ [x])[j]? = some y) : l[j]? = some y ∨ (j = l.length ∧ y = x) := by
  by_cases hj : j < l.length
  · rw [List.getElem?_append_left hj] at h
    exact .inl h
  · rw [List.getElem?_append_right (by omega)] at h
    have e : j - l.length = 0 := by
      cases q : j - l.length with
      | zero => rfl
      | succ m =>
        rw [q] at h
        simp at h
    rw [e] at h
    exact .inr ⟨by omega, (Option.some.inj h).symm⟩
theorem drop_get {α : Type} {l : List α} {i : Nat} {x : α} (h : l[i]? = some x) : l.drop i = x :: l.drop (i + 1) := by
  obtain ⟨h1, h2⟩ := List.getElem?_eq_some_iff.mp h
  rw [List.drop_eq_getElem_cons h1, h2]
section
variable {P : Program} {w : World} {K : PySem.W.Frag} {mg : Str → Option Value} {base : Heap}
theorem scToldAll : FnScope ["words", "sorts", "line", "found", "at", "word", "sort", "told"] ["words", "sorts", "line"] (defScope sToldAll) := ⟨rfl, rfl, rfl, by decide +kernel, rfl, by decide +kernel, by decide +kernel⟩
theorem ok_told_all (T : Tx K mg) : Ok P w K mg base (L2N.CX P w) 3 "told_all" ["words", "sorts", "line"] (spToldAll K) := by
  have owhere_told := ok_where_told (P := P) (w := w) (base := base) T
  have opart_told := ok_part_told (P := P) (w := w) (base := base) T
  refine T.ok 13 rfl T.g_told_all scToldAll (fun vs H Q E h => ?_) (fun _ _ _ _ _ _ us hl => match us, hl with | [_, _, _], _ => rfl) fun cdv A outer s H vs Q E hr h => ?_
  · obtain ⟨a, ws, y, line, rfl, _⟩ := h
    rfl
  · obtain ⟨a, ws, y, line, rfl, hs, hz, hw, hc, hy, hq, hx⟩ := h
    refine ⟨_, (pss_cons (ps_set (i := 3) scToldAll.nd rfl (Or.inl rfl) (pe_lst pa_nil))
      (pss_cons (ps_for (passes_of rfl) rfl (pi_ez T.n_enumerate T.n_zip (pa_cons (pv 0) (pa_cons (pv 1) pa_nil))) (pg_tup rfl (pgs_cons (pg_name (i := 4) scToldAll.nd rfl (Or.inl rfl)) (pgs_cons (pg_tup rfl (pgs_cons (pg_name (i := 5) scToldAll.nd rfl (Or.inl rfl)) (pgs_cons (pg_name (i := 6) scToldAll.nd rfl (Or.inl rfl)) pgs_nil))) pgs_nil))) (pss_cons (ps_set (i := 7) scToldAll.nd rfl (Or.inl rfl) (pe_ifExp (pt_cmpR op_eq (pv 6) pe_str (nomark _)) (pe_k owhere_told hr (by decide) pass0 (pa_cons (pv 5) pa_nil)) (pe_k opart_told hr (by decide) pass0 (pa_cons (pv 5) (pa_cons (pv 6) pa_nil)))))
      (pss_cons (ps_if (pt_cmpR op_isN (pv 7) pe_non (nomark _)) (pss_one (ps_raise2N T (hr.mono (by decide)) rfl (L2N.takes_of rfl rfl rfl rfl) (pa_cons (pv 2) (pa_cons (pe_op op_add (pv 4) pe_int) pa_nil)))) pss_nil)
      (pss_one (ps_expr (pe_bm PySem.F.plainAttrs_list PySem.F.slot_list_append PySem.F.type_list_append mt_append (pv 3) (pa_cons (pv 7) pa_nil)))))))
      (pss_cons (ps_if (pt_cmpR op_lt (pe_callB call_len_seq (by rfl) T.n_len PySem.boot_len (pa_cons (pv 0) pa_nil)) (pe_callB call_len_str (by rfl) T.n_len PySem.boot_len (pa_cons (pv 1) pa_nil)) (nomark _)) (pss_one (ps_raise2N T (hr.mono (by decide)) rfl (L2N.takes_of rfl rfl rfl rfl) (pa_cons (pv 2) (pa_cons (pe_op op_add (pe_callB call_len_seq (by rfl) T.n_len PySem.boot_len (pa_cons (pv 0) pa_nil)) pe_int) pa_nil)))) pss_nil)
      (pss_cons (ps_if (pt_cmpR op_gt (pe_callB call_len_seq (by rfl) T.n_len PySem.boot_len (pa_cons (pv 0) pa_nil)) (pe_callB call_len_str (by rfl) T.n_len PySem.boot_len (pa_cons (pv 1) pa_nil)) (nomark _)) (pss_one (ps_raise2N T (hr.mono (by decide)) rfl (L2N.takes_of rfl rfl rfl rfl) (pa_cons (pv 2) (pa_cons (pe_op op_add (pe_callB call_len_str (by rfl) T.n_len PySem.boot_len (pa_cons (pv 1) pa_nil)) pe_int) pa_nil)))) pss_nil)
      (pss_one (ps_ret (pv 3))))))), ?_⟩
    refine ⟨by decide, fun D nD => ?_⟩
    have e0 : Same H (upd H D (.lst [])) := Same.upd (Same.refl H) nD
    have hly : (cpl y).length = y.length := cpl_len y
    have lw : (vstrs ws).length = ws.length := by unfold vstrs; rw [List.length_map]
    refine ⟨_, rfl, _, rfl, _, _, _, rfl, Same.lst e0 hs, loop_n (min ws.length y.length) (fun i σ H1 => ∃ (u4 u5 u6 u7 : Option V) (us : List V), σ = [some (.ref a), some (.str y), some (.int line), some (.ref D), u4, u5, u6, u7] ∧ Same H H1 ∧ H1 D = some (.lst us) ∧ us.length = i ∧
      ToldAt K H1 ws (cpl y) us ∧ tkFault 0 ws (cpl y) = tkFault i (ws.drop i) ((cpl y).drop i)) ⟨none, none, none, none, [], rfl, e0, upd_same, rfl, (fun j v z c h => by simp at h), by simp⟩ (fun σ H1 hi => ?_) fun i σ H1 hi hv => ?_⟩
    · obtain ⟨u4, u5, u6, u7, us, rfl, e1, hD, hu, hT, ef⟩ := hi
      refine ⟨⟨_, Same.lst e1 hs, by rw [lw]; omega, by show min ws.length y.length ≤ y.length; omega, by show _ ∨ _ = y.length; rw [lw]; omega⟩, ?_⟩
      have ef2 : tkFault 0 ws (cpl y) = none := by
        rw [ef]
        by_cases hl : ws.length ≤ y.length
        · rw [Nat.min_eq_left hl, List.drop_length]
          rfl
        · rw [Nat.min_eq_right (by omega), ← hly, List.drop_length]
          cases ws.drop (cpl y).length <;> rfl
      have aF : allFault ws (cpl y) = if ws.length < (cpl y).length then some (ws.length + 1) else if (cpl y).length < ws.length then some ((cpl y).length + 1) else none := by
        unfold allFault
        rw [ef2]
      rw [hly] at aF
      have hys : y.length ≤ sizeLine := by rw [sizeLine_eq]; omega
      by_cases h1 : ws.length < y.length
      · rw [if_pos h1] at aF
        dsimp only
        refine sq_t (fun Q' hQ => by
          refine ⟨_, rfl, a, _, rfl, .inl (Same.lst e1 hs), _, rfl, y, rfl, hys, _, _, rfl, rfl, _, rfl, ?_⟩
          rw [lw]
          rw [decide_eq_true (by omega)]
          exact hQ) ?_
        · refine ⟨_, rfl, _, rfl, a, _, rfl, .inl (Same.lst e1 hs), _, _, rfl, rfl, _, _, rfl, fun d nd => ?_⟩
          rw [lw]
          exact hx _ aF H1 d e1 nd
      · rw [if_neg h1] at aF
        dsimp only
        refine sq_f (fun Q' hQ => by
          refine ⟨_, rfl, a, _, rfl, .inl (Same.lst e1 hs), _, rfl, y, rfl, hys, _, _, rfl, rfl, _, rfl, ?_⟩
          rw [lw]
          rw [decide_eq_false (by omega)]
          exact hQ) ?_
        · by_cases h2 : y.length < ws.length
          · rw [if_pos h2] at aF
            refine sq_t (fun Q' hQ => by
          refine ⟨_, rfl, a, _, rfl, .inl (Same.lst e1 hs), _, rfl, y, rfl, hys, _, _, rfl, rfl, _, rfl, ?_⟩
          rw [lw]
          rw [decide_eq_true (by omega)]
          exact hQ) ?_
            · exact ⟨_, rfl, _, rfl, y, rfl, hys, _, _, rfl, rfl, _, _, rfl, fun d nd => hx _ aF H1 d e1 nd⟩
          · rw [if_neg h2] at aF
            refine sq_f (fun Q' hQ => by
          refine ⟨_, rfl, a, _, rfl, .inl (Same.lst e1 hs), _, rfl, y, rfl, hys, _, _, rfl, rfl, _, rfl, ?_⟩
          rw [lw]
          rw [decide_eq_false (by omega)]
          exact hQ) ?_
            · exact ⟨_, rfl, hq aF H1 D us e1 nD hD (by rw [hu]; omega) hT⟩
    · obtain ⟨u4, u5, u6, u7, us, rfl, e1, hD, hu, hT, ef⟩ := hv
      have iw : i < ws.length := by omega
      have iy : i < (cpl y).length := by omega
      have gz : ws[i]? = some ws[i] := List.getElem?_eq_getElem iw
      have gc : (cpl y)[i]? = some (cpl y)[i] := List.getElem?_eq_getElem iy
      have gv : (vstrs ws)[i]? = some (.str ws[i]) := by unfold vstrs; rw [List.getElem?_map, gz]; rfl
      have gc' : y.cps[i]? = some (cpl y)[i] := by rw [← gc]; exact Array.getElem?_toList.symm
      refine ⟨⟨_, _, _, Same.lst e1 hs, gv, gc'⟩, fun x H2 hyl => ?_⟩
      obtain ⟨T2, T1, x1, c, rfl, nT2, nT1, ne, rfl, hc1, hx1⟩ := hyl
      have ex : x1 = .str ws[i] := by
        have z := hx1 _ (Same.lst e1 hs)
        rw [gv] at z
        exact (Option.some.inj z).symm
      subst ex
      have ec : c = (cpl y)[i] := by
        rw [gc'] at hc1
        exact (Option.some.inj hc1).symm
      generalize ez : ws[i] = z at *
      generalize (cpl y)[i] = c0 at *
      subst ec
      have e2 : Same H1 (upd (upd H1 T2 (.tup [.str z, .str ⟨#[c]⟩])) T1 (.tup [.int (i : Nat), .ref T2])) := Same.upd (Same.upd (Same.refl H1) nT2) (by rw [upd_ne ne]; exact nT1)
      have hzl : z.length ≤ 1000000 := hw z (List.mem_of_getElem? gz)
      have hcs : c = 110 ∨ c = 98 ∨ c = 119 := hc c (List.mem_of_getElem? gc)
      have ed : tkFault 0 ws (cpl y) = (match tkTold c z with | none => some (i + 1) | some _ => tkFault (i + 1) (ws.drop (i + 1)) ((cpl y).drop (i + 1))) := by
        rw [ef, drop_get gz, drop_get gc]
        rfl
      have hT2 : upd (upd H1 T2 (.tup [.str z, .str ⟨#[c]⟩])) T1 (.tup [.int (i : Nat), .ref T2]) T2 = some (.tup [.str z, .str ⟨#[c]⟩]) := by rw [upd_ne (Ne.symm ne), upd_same]
      refine ⟨T1, _, rfl, .inl (.inl upd_same), rfl, _, _, rfl, _, _, rfl, ⟨T2, _, rfl, .inl (.inl hT2), rfl, _, _, rfl, _, _, rfl, rfl, rfl, ?_⟩⟩
      · refine asg_tk (K := K) (o := tkTold c z) (fun Q' hQ => ?_) (fun hn H3 e3 => ?_) (fun k hk v H3 e3 hv => ?_)
        · have kw : cpl "w" = [119] := by decide +kernel
          refine ⟨_, rfl, rfl, _, rfl, ?_⟩
          rw [sign_eq kw]
          by_cases h9 : c = 119
          · rw [decide_eq_true h9]
            refine iteT ⟨_, rfl, z, rfl, hzl, ?_⟩
            have e : tkTold c z = (whTold z).map .whr := if_pos h9
            rw [e] at hQ
            exact hQ
          · rw [decide_eq_false h9]
            exact iteF ⟨_, rfl, _, rfl, z, c, rfl, by omega, hzl, hQ⟩
        · refine sq_t (fun Q' hQ => ⟨_, rfl, rfl, _, rfl, hQ⟩) ?_
          refine ⟨_, rfl, _, rfl, _, _, rfl, rfl, _, _, rfl, fun d nd => ?_⟩
          have q := hx (i + 1) (by unfold allFault; rw [ed, hn])
          exact q H3 d ((e1.trans e2).trans e3) nd
        · refine sq_f (fun Q' hQ => ⟨_, rfl, rfl, _, rfl, ?_⟩) ?_
          · show Q' (decide (v = .non)) H3
            rw [hv.non]
            exact hQ
          · have hD3 : H3 D = some (.lst us) := e3 _ _ (e2 _ _ hD)
            refine ⟨_, rfl, .inl ⟨rfl, _, .inl (.inl hD3)⟩, _, rfl, D, us, v, rfl, rfl, hD3, ?_, ?_⟩
            · rw [hu, sizeLine_eq]
              omega
            · refine ⟨_, _, _, _, us ++ [v], rfl, ?_, upd_same, by rw [List.length_append, hu]; rfl, ?_, ?_⟩
              · exact Same.own ((e1.trans e2).trans e3) nD
              · intro j v' z' c' h1 h2 h3
                rcases get_snoc h1 with h1 | ⟨ej, ev⟩
                · obtain ⟨k', q1, q2⟩ := hT j v' z' c' h1 h2 h3
                  exact ⟨k', q1, (q2.same (e2.trans e3)).updL hD3⟩
                · subst ev
                  rw [ej, hu] at h2 h3
                  rw [gz] at h2
                  rw [gc] at h3
                  cases h2
                  cases h3
                  exact ⟨k, hk, hv.updL hD3⟩
              · rw [ed, hk]
end
end K39
set_option Elab.async false
set_option linter.all false
set_option maxRecDepth 100000
set_option maxHeartbeats 4000000
namespace K39
open PySem PySem.Spec PyProof.Rows L2
/-! ### a, b, c, *d = list -/
def gStar3 (K : PySem.W.Frag) (t : TGs) : TG := fun v σ H Q => ∃ (a : Addr) (x1 x2 x3 : V) (xs : List V), v = .ref a ∧ SqL K H a (x1 :: x2 :: x3 :: xs) ∧ xs.length ≤ 16000 ∧ ∀ p, H p = none → t [x1, x2, x3, .ref p] σ (upd H p (.lst xs)) Q
theorem pg_star3 {X : Cx} {t1 t2 t3 t4 : Expr} {t : TGs} {k : Nat} {sp pos : Pos} (hc : X.calm = true) (h : PGs X [t1, t2, t3, t4] t)
    (he : assignEach [t1, t2, t3, .Starred t4 sp] X.env = [(false, assign t1 X.env), (false, assign t2 X.env), (false, assign t3 X.env), (true, assign t4 X.env)] := by rfl)
    (he' : (assignEach [t1, t2, t3, t4] X.env).map (·.2) = [assign t1 X.env, assign t2 X.env, assign t3 X.env, assign t4 X.env] := by rfl) :
    PG X (.Tuple [t1, t2, t3, .Starred t4 sp] k pos) (gStar3 X.K t) := by
  refine ⟨fun pins s σ H v u Q I r hw => ?_⟩
  obtain ⟨a, x1, x2, x3, xs, rfl, hq, hl, hw⟩ := hw
  obtain rfl : u = Value.ref a := r
  obtain ⟨its, rv, p, hz⟩ := I.list hq
  cases rv with
  | @cons _ u1 _ r1 q1 rv =>
  cases rv with
  | @cons _ u2 _ r2 q2 rv =>
  cases rv with
  | @cons _ u3 _ us q3 rv =>
  have hli := p.isList
  have hus : us.length = xs.length := rv.length.symm
  have hlt : a ≠ s.heap.objs.size := Nat.ne_of_lt p.lt
  have hsz : (u1 :: u2 :: u3 :: us).toArray.size = us.length + 3 := by simp
  rw [assign_Tuple]
  refine wpAny_bind (wpAny_standAt ?_)
  unfold unpack
  rw [he]
  refine wpAny_bind (wpAny_holding ?_)
  show wpAny _ _ (unpackItems (.ref a) 4 (some 3)) _ _ _
  unfold unpackItems
  refine wpAny_bind ?_
  unfold notIterableAtAll
  refine wpAny_bind (wpAny_specialOf hli.typeIs slot_list_iter.lookup ?_)
  refine wpAny_pure ?_
  simp only [Bool.false_eq_true, if_false]
  refine wpAny_bind (wpAny_holding (wpAny_pyIter_list hli ?_))
  refine wpAny_bind (wpAny_holding (PySem.W.kun_draw hlt 3 0 _ _ ⟨_, Heap.get?_push_size _ rfl, rfl, rfl⟩ (hli.push _) (by omega) fun h₁ hit₁ hs₁ => ?_))
  have hl₁ : h₁.IsList a (u1 :: u2 :: u3 :: us).toArray := (hli.push _).extBut hs₁.extBut hlt
  have hit₁' := hit₁
  obtain ⟨oi, hoi, _⟩ := hit₁'
  have hl₁' := hl₁
  obtain ⟨ol, hol, _⟩ := hl₁'
  show wpAny _ _ (if ([u1, u2, u3] : List Value).length < 3 then _ else _) _ _ _
  rw [if_neg (show ¬ ([u1, u2, u3] : List Value).length < 3 from (by decide : ¬ (3 : Nat) < 3))]
  refine wpAny_bind (wpAny_holding (PySem.W.kun_collect (s := { s with heap := h₁ }) (T := "list_iterator") (.inr (.inr (.inl rfl))) (Walks.list (A := X.A.in1) (I.ok.hd hc) s.heap.objs.size a hlt _) (fun j u st => st.1.typeIs) (k := 3) (by omega) ⟨hit₁, hl₁⟩ (Heap.lt_size hoi) (Heap.lt_size hol) (fun h₂ tk hk => ?_) (by rw [hsz, sizeLine_eq]; omega)))
  show wpAny _ _ (if us.length < 0 then _ else _) _ _ _
  rw [if_neg (by omega)]
  show wpAny _ _ (newList (us.take (us.length - 0)) >>= fun d => pure ([u1, u2, u3] ++ [d] ++ us.drop (us.length - 0))) _ _ _
  rw [Nat.sub_zero, List.take_length, List.drop_length]
  have keep : ∀ b o, s.heap.get? b = some o → h₂.get? b = some o := fun b o e => hk b o (Nat.ne_of_lt (Heap.lt_size e)) (hs₁.extBut b o (Nat.ne_of_lt (Heap.lt_size e)) (Heap.get?_push_of_some _ e))
  have I2 : Inv X pins σ H { s with heap := h₂, toks := tk } := I.kept keep
  refine wpAny_bind (wpAny_newList (wpAny_pure ?_) (by rw [sizeLine_eq]; omega))
  have nD : H h₂.objs.size = none := I2.hok.fresh (Nat.le_refl _)
  have new : ObjOk X.prog X.w (upd H h₂.objs.size (.lst xs)) (h₂.push { cls := .type "list", data := .seq us.toArray }) h₂.objs.size (.lst xs) :=
    ⟨by show xs.length ≤ sizeLine; rw [sizeLine_eq]; omega, us, 0, rv, Heap.get?_push_size _ rfl⟩
  have I3 : Inv X pins σ (upd H h₂.objs.size (.lst xs)) { s with heap := h₂.push { cls := .type "list", data := .seq us.toArray }, toks := tk } :=
    Inv.laid (s := { s with heap := h₂, toks := tk }) I2 (t' := tk) (fun b o e => Heap.get?_push_of_some _ e) (Nat.le_refl _) new
  have z := h.run pins _ σ _ [x1, x2, x3, .ref h₂.objs.size] [u1, u2, u3, .ref h₂.objs.size] Q I3 (.cons q1 (.cons q2 (.cons q3 (.cons rfl .nil)))) (hw _ nD)
  rw [he'] at z
  exact z
end K39
set_option Elab.async false
set_option linter.all false
set_option maxRecDepth 100000
set_option maxHeartbeats 4000000
namespace K39
open PySem PySem.Spec PyProof.Rows L2
/-- an exception whose context is None is an exception -/
theorem cx_of_cxN {P : Program} {w : World} {outer : List Env} {H : Hp} {s : Shared} {E : XK} {u : Value} {s' : Shared} (h : L2N.CX P w outer H s E u s') : L2.CX P w outer H s E u s' := by
  obtain ⟨a, B, H', cls, d, ea, fl, r⟩ := h
  exact ⟨a, B, H', cls, d, ea, L2H.flyingZ_imp (fun _ z => z.zc) fl, r⟩
theorem passN {X : Cx} {E : XK} {E₁ : Value → Shared → Prop} (hs : X.stack = X.env :: X.outer) (hf : X.env.frame = some X.env.locals) (hex : X.ex = [])
    (hx : X.xe = fun e s' => wpAny (model X.prog X.w) X.A (leaving X.env e) (fun _ s'' => L2.CX X.prog X.w X.outer X.H_0 X.s_0 E e s'') E₁ s') : Passes (L2N.CX X.prog X.w) X E :=
  fun pins σ H s e s' I c => L2.passes_call (W := fun cls d _ H => E cls d H) (L2.takes_of hs hf hex hx) (fun _ _ _ _ h => h) pins σ H s e s' I (cx_of_cxN c)
theorem ps_raise2Hk {X : Cx} {K : PySem.W.Frag} {mg : Str → Option Value} {e e2 : Expr} {ta : TA} {p pos pos' : Pos} {W : WX} (T : Tx K mg) (hr : L2H.RoomH 2 X.A) (hc : L2H.HotC X) (tk : L2.Takes X W) (ha : PA X [e, e2] ta) (hK : X.K = K := by rfl) (hm : X.mg = mg := by rfl) (hg : Gl X "BadText" := by rfl)
    (he : starEach [e, e2] X.env = (false, eval e X.env) :: starEach [e2] X.env := by rfl) (hpl : (backTo pos (starEach [e2] X.env)).any (·.1) = false := by rfl) :
    PS X (.Raise (some (.Call (.Name "BadText" p) [e, e2] [] pos)) none pos') (fun _ σ H => tMk2 (He.ga K "BadText") "line" "word" ta σ H fun cls d H' => W cls d σ H') := by
  subst hK hm
  exact ps_raise2H T hr hc tk ha hg he hpl
theorem lenQ {X : Cx} {K : PySem.W.Frag} (h : X.K = K := by rfl) : CallR X (.builtin "len") (fun xs H Q => ∃ p ys, xs = [.ref p] ∧ (SqL K H p ys ∨ SqT K H p ys) ∧ Q (.int ys.length) H) := by
  subst h
  exact call_len_seq
theorem slL {X : Cx} {K : PySem.W.Frag} (h : X.K = K := by rfl) : SlR X (rSlL K) := by
  subst h
  exact sl_list
theorem pe_kS {X : Cx} {CX : CXT} {k j : Nat} {x : Str} {ps : List Str} {sp : Sp} {E : L2.St → XK} {p pos : Pos} {e : Expr} {es : List Expr} {t : TA} (O : Ok X.prog X.w X.K X.mg X.base CX k x ps sp) (hr : Room j X.A) (hk : k ≤ j) (hx : ∀ σ, PassesAt CX X σ (E σ)) (ha : PA X (e :: es) t) (hg : Gl X x := by rfl) (hdb : (x == ("__debug__" : Str)) = false := by decide)
    (he : starEach (e :: es) X.env = (false, eval e X.env) :: starEach es X.env := by rfl) (hpl : (backTo pos (starEach es X.env)).any (·.1) = false := by rfl) :
    PE X (.Call (.Name x p) (e :: es) [] pos) (tCallS sp E t) := by
  obtain ⟨fd, F, b⟩ := O.ex
  exact pe_callS F (hr.mono hk) hg O.g O.kp b hx ha hdb he hpl
/-- 'w' * 5 -/
def rW5 : R2 := fun x y H Q => x = .str "w" ∧ y = .int 5 ∧ Q (.str "wwwww") H
theorem op_w5 {X : Cx} : OpR X (binaryOp .Mult) rW5 := by
  intro pins s σ H x y v u Q I rx ry h
  obtain ⟨rfl, rfl, q⟩ := h
  obtain ⟨t, rfl⟩ := rx
  obtain ⟨t', rfl⟩ := ry
  refine PySem.P.mul_str (by decide) (fun _ _ => by decide +kernel) (fun _ _ => by decide +kernel) ?_
  have e : (⟨(List.replicate (5 : Int).toNat (("w" : Str).cps)).foldl (· ++ ·) #[]⟩ : Str) = "wwwww" := by decide +kernel
  rw [if_neg (by decide), if_neg (by decide +kernel), e]
  exact ⟨by decide +kernel, ⟨.str "wwwww", H, I.tok _, ⟨_, rfl⟩, q⟩⟩
section
variable {P : Program} {w : World} {K : PySem.W.Frag} {mg : Str → Option Value} {base : Heap}
theorem scRowTold : FnScope ["words", "line", "place", "wheres", "error", "basis", "distance"] ["words", "line"] (defScope sRowTold) := ⟨rfl, rfl, rfl, by decide +kernel, rfl, by decide +kernel, by decide +kernel⟩
def w5 : List Nat := [119, 119, 119, 119, 119]
def n8 : List Nat := [110, 98, 110, 119, 119, 119, 119, 119]
def isNoneRow (ws : List Str) : Bool := decide (1 < ws.length) && decide (ws[1]? = some ("none" : Str))
def rowFault (ws : List Str) : Option Nat := if isNoneRow ws = true then (match allFault (ws.take 1) [110] with
    | some f => some f
    | none => (allFault (ws.drop 2) w5).map (· + 2)) else allFault ws n8
def numD (z : Str) : Int := (numTold z).getD 0
def whD (z : Str) : Wh := (whTold z).getD .lost
def rowOf (ws : List Str) : Row := if isNoneRow ws = true then ⟨numD (ws.getD 0 ""), none, (ws.drop 2).map whD⟩ else ⟨numD (ws.getD 0 ""), some (ws.getD 1 "", numD (ws.getD 2 "")), (ws.drop 3).map whD⟩
theorem cutV_take (ws : List Str) : cutV (vstrs ws) none (some 1) = vstrs (ws.take 1) := by
  have e : HT.sIx (vstrs ws).length (vstrs ws).length (some 1) = min 1 (vstrs ws).length := HT.sIx_nat _ _ 1
  unfold cutV
  rw [e]
  unfold vstrs
  cases ws with
  | nil => rfl
  | cons a l =>
    rw [show min 1 ((a :: l).map V.str).length = 1 from Nat.min_eq_left (by simp)]
    rfl
theorem cutV_drop (ws : List Str) : cutV (vstrs ws) (some 2) none = vstrs (ws.drop 2) := by
  have e : HT.sIx (vstrs ws).length 0 (some 2) = min 2 (vstrs ws).length := HT.sIx_nat _ _ 2
  unfold cutV
  rw [e]
  unfold vstrs
  match ws with
  | [] => rfl
  | [a] => rfl
  | a :: b :: l =>
    rw [show min 2 ((a :: b :: l).map V.str).length = 2 from Nat.min_eq_left (by simp)]
    show ((l.map V.str)).take _ = _
    exact List.take_of_length_le (by simp [HT.sIx])
def adr : V → Addr
  | .ref a => a
  | _ => 0
theorem whs_from {K : PySem.W.Frag} {H : Hp} {us : List V} {zs : List Str} (hl : us.length = zs.length) (h : ∀ (j : Nat) (v : V) (z : Str), us[j]? = some v → zs[j]? = some z → ∃ k, tkTold 119 z = some k ∧ TkAt K H v k) :
    ∃ ps : List Addr, us = ps.map V.ref ∧ WsAt K H ps (zs.map whD) := by
  have key : ∀ (j : Nat) (v : V) (z : Str), us[j]? = some v → zs[j]? = some z → v = .ref (adr v) ∧ SqT K H (adr v) (whV (whD z)) := fun j v z h1 h2 => by
    obtain ⟨k, q1, q2⟩ := h j v z h1 h2
    have q1' : (whTold z).map Tk.whr = some k := q1
    cases e : whTold z with
    | none =>
      rw [e] at q1'
      cases q1'
    | some x =>
      rw [e] at q1'
      cases q1'
      obtain ⟨a, rfl, q3⟩ := q2
      have ed : whD z = x := by
        unfold whD
        rw [e]
        rfl
      rw [ed]
      exact ⟨rfl, q3⟩
  refine ⟨us.map adr, ?_, by rw [List.length_map, List.length_map, hl], fun j p x h1 h2 => ?_⟩
  · rw [List.map_map]
    refine (List.map_id us).symm.trans (List.map_congr_left fun v hv => ?_)
    obtain ⟨j, hj⟩ := List.mem_iff_getElem?.mp hv
    obtain ⟨z, hz⟩ := get_len hl hj
    exact (key j v z hj hz).1
  · obtain ⟨v, hv, rfl⟩ := map_get h1
    obtain ⟨z, hz, rfl⟩ := map_get h2
    exact (key j v z hv hz).2
theorem num_from {K : PySem.W.Frag} {H : Hp} {v : V} {z : Str} {k : Tk} (h1 : tkTold 110 z = some k) (h2 : TkAt K H v k) : v = .int (numD z) := by
  have q : (numTold z).map Tk.num = some k := h1
  cases e : numTold z with
  | none =>
    rw [e] at q
    cases q
  | some i =>
    rw [e] at q
    cases q
    cases (show v = .int i from h2)
    unfold numD
    rw [e]
    rfl
theorem bas_from {K : PySem.W.Frag} {H : Hp} {v : V} {z : Str} {k : Tk} (h1 : tkTold 98 z = some k) (h2 : TkAt K H v k) : v = .str z := by
  have q : (if isBas z = true then some (Tk.bas z) else none) = some k := h1
  split at q
  · cases q
    exact h2
  · cases q
theorem allFault_len {ws : List Str} {cs : List Nat} (h : allFault ws cs = none) : ws.length = cs.length := by
  unfold allFault at h
  split at h
  · cases h
  · split at h
    · cases h
    · split at h
      · cases h
      · omega
def spRowTold (K : PySem.W.Frag) : Sp := fun vs H Q E => ∃ (a : Addr) (ws : List Str) (line : Int), vs = [.ref a, .int line] ∧ SqL K H a (vstrs ws) ∧ ws.length ≤ 1000000 ∧ wordsOk ws ∧
  (rowFault ws = none → ∀ H' p, Same H H' → RowAt K H' p (rowOf ws) → Q (.ref p) H') ∧ ∀ f : Nat, rowFault ws = some f → TxtE K line (f : Nat) H E
theorem ok_row_told (T : Tx K mg) : Ok P w K mg base (L2.CX P w) 4 "row_told" ["words", "line"] (spRowTold K) := by
  have otold_all := ok_told_all (P := P) (w := w) (base := base) T
  refine T.ok 14 rfl T.g_row_told scRowTold (fun vs H Q E h => ?_) (fun _ _ _ _ _ _ us hl => match us, hl with | [_, _], _ => rfl) fun cdv A outer s H vs Q E hr h => ?_
  · obtain ⟨a, ws, line, rfl, _⟩ := h
    rfl
  · obtain ⟨a, ws, line, rfl, hs, hz, hw, hq, hx⟩ := h
    refine ⟨_, (pss_cons (ps_if (PW.pt (pw_and (pt_cmpR op_gt (pe_callB call_len_seq (by rfl) T.n_len PySem.boot_len (pa_cons (pv 0) pa_nil)) pe_int (nomark _)) (pw_and1 (pt_cmpR op_eq (pe_ix (ixL (K := K)) (pv 0) pe_int (fun _ _ => rfl)) (pe_gl T.g_NONE) (nomark _))))) (pss_cons (ps_set (i := 2) scRowTold.nd rfl (Or.inl rfl) (pe_ix (ixL (K := K)) (pe_k otold_all hr (by decide) (passN rfl rfl rfl rfl) (pa_cons (pe_slice sl_list (pv 0) po_none (po_some pe_int)) (pa_cons pe_str (pa_cons (pv 1) pa_nil)))) pe_int (fun _ _ => rfl)))
      (pss_cons (ps_try_asX (i := 4) rfl rfl scRowTold.nd rfl rfl ⟨rfl, by decide, .inl T.g_BadText⟩ (fun hd => L2H.passesAt_of rfl hd) (L2.takes_of rfl rfl rfl rfl) (fun W pn xe tk pa => pss_one (ps_set (i := 3) scRowTold.nd rfl (Or.inl rfl) (pe_kS otold_all hr (by decide) (L2N.passAt tk) (pa_cons (pe_slice (slL (K := K)) (pv 0) (po_some pe_int) po_none) (pa_cons (pe_op op_w5 pe_str (pe_callB (lenQ (K := K)) (by rfl) T.n_len PySem.boot_len (pa_cons (pe_glR T.g_ITEMS) pa_nil))) (pa_cons (pv 1) pa_nil)))))) (fun a oe cls d pn xe hz hf tk hot => pss_one (ps_raise2Hk (K := K) T (L2H.roomH_mark (hr.mono (by decide : 2 ≤ 3)) _) hot tk (pa_cons (pv 1) (pa_cons (pe_op op_add (pe_xfE T.xText.xf T.noWord hz.zc hf (pv 4)) pe_int) pa_nil)))))
      (pss_one (ps_ret (pe_tup (pa_cons (pv 2) (pa_cons pe_non (pa_cons (pe_callTy call_tuple_of (by rfl) T.n_tuple PyProof.Rows.boot_tuple (pa_cons (pv 3) pa_nil)) pa_nil)))))))) pss_nil)
      (pss_cons (ps_asg (pe_k otold_all hr (by decide) (passN rfl rfl rfl rfl) (pa_cons (pv 0) (pa_cons (pe_op op_add_str pe_str (pe_op op_w5 pe_str (pe_callB (lenQ (K := K)) (by rfl) T.n_len PySem.boot_len (pa_cons (pe_glR T.g_ITEMS) pa_nil)))) (pa_cons (pv 1) pa_nil)))) (pg_star3 rfl (pgs_cons (pg_name (i := 2) scRowTold.nd rfl (Or.inl rfl)) (pgs_cons (pg_name (i := 5) scRowTold.nd rfl (Or.inl rfl)) (pgs_cons (pg_name (i := 6) scRowTold.nd rfl (Or.inl rfl)) (pgs_cons (pg_name (i := 3) scRowTold.nd rfl (Or.inl rfl)) pgs_nil))))))
      (pss_one (ps_ret (pe_tup (pa_cons (pv 2) (pa_cons (pe_tup (pa_cons (pv 5) (pa_cons (pv 6) pa_nil))) (pa_cons (pe_callTy call_tuple_of (by rfl) T.n_tuple PyProof.Rows.boot_tuple (pa_cons (pv 3) pa_nil)) pa_nil)))))))), ?_⟩
    have lw : (vstrs ws).length = ws.length := by unfold vstrs; rw [List.length_map]
    have kn : cpl "n" = [110] := by decide +kernel
    have k5 : cpl "wwwww" = w5 := by decide +kernel
    have k8 : cpl ("nbn" ++ "wwwww") = n8 := by decide +kernel
    have wt : ∀ n, wordsOk (ws.take n) := fun n z hz => hw z (List.mem_of_mem_take hz)
    have wd : ∀ n, wordsOk (ws.drop n) := fun n z hz => hw z (List.mem_of_mem_drop hz)
    cases hN : isNoneRow ws with
    | true =>
      have h2 := hN
      unfold isNoneRow at h2
      simp only [Bool.and_eq_true, decide_eq_true_eq] at h2
      obtain ⟨l1, g1⟩ := h2
      have gv : (vstrs ws)[1]? = some (.str "none") := by unfold vstrs; rw [List.getElem?_map, g1]; rfl
      have eF : rowFault ws = (match allFault (ws.take 1) [110] with | some f => some f | none => (allFault (ws.drop 2) w5).map (· + 2)) := if_pos hN
      refine sq_t (fun Q' hQ => ?_) ?_
      · refine ⟨_, rfl, a, _, rfl, .inl hs, _, _, rfl, rfl, _, rfl, ?_⟩
        rw [lw, decide_eq_true (by omega)]
        exact iteT ⟨_, rfl, a, _, _, _, rfl, rfl, hs, atI_nat (j := 1) gv, rfl, _, rfl, hQ⟩
      · refine ⟨_, rfl, _, rfl, a, _, rfl, hs, fun p np => ⟨_, rfl, ?_⟩⟩
        rw [cutV_take]
        have e1 : Same H (upd H p (.lst (vstrs (ws.take 1)))) := Same.upd (Same.refl H) np
        refine ⟨p, ws.take 1, "n", line, rfl, .inl (.inl upd_same), by rw [List.length_take]; omega, wt 1, by rw [kn]; intro c hc; simp at hc; omega, by decide +kernel, fun hnone H2 p2 us e2 n2 hp2 hus hT => ?_, fun f hf H2 d e2 nd => ?_⟩
        · rw [kn] at hnone hT
          rw [hnone] at eF
          have lt1 : (ws.take 1).length = 1 := by rw [List.length_take]; omega
          rw [lt1] at hus
          obtain ⟨v, rfl⟩ := List.length_eq_one_iff.mp hus
          have gz : ws[0]? = some (ws.getD 0 "") := by
            rw [List.getD_eq_getElem?_getD, List.getElem?_eq_getElem (by omega)]
            rfl
          obtain ⟨k, q1, q2⟩ := hT 0 v (ws.getD 0 "") 110 rfl (by rw [List.getElem?_take, if_pos (by decide)]; exact gz) rfl
          have ev := num_from q1 q2
          subst ev
          refine ⟨p2, _, _, _, rfl, rfl, .inl (.inl hp2), atI_nat (j := 0) rfl, ?_⟩
          have e12 := e1.trans e2
          refine ⟨_, rfl, _, rfl, a, _, rfl, Same.lst e12 hs, fun p3 np3 => ⟨_, _, rfl, .inr (T.items _), rfl, rfl, _, rfl, ?_⟩⟩
          rw [cutV_drop]
          have e3 : Same H (upd H2 p3 (.lst (vstrs (ws.drop 2)))) := Same.upd e12 np3
          refine ⟨p3, ws.drop 2, "wwwww", line, rfl, .inl (.inl upd_same), by rw [List.length_drop]; omega, wd 2, by rw [k5]; intro c hc; simp [w5] at hc; omega, by decide +kernel, fun hnone2 H4 p4 us4 e4 n4 hp4 hus4 hT4 => ?_, fun f hf H4 d e4 nd => ?_⟩
          · rw [k5] at hnone2 hT4
            rw [hnone2] at eF
            have l5 : (ws.drop 2).length = 5 := allFault_len hnone2
            obtain ⟨ps, rfl, hW⟩ := whs_from hus4 fun j v z h1 h2 => by
              have hj : j < 5 := by
                have := (List.getElem?_eq_some_iff.mp h2).1
                omega
              exact hT4 j v z 119 h1 h2 (by match j, hj with | 0, _ => rfl | 1, _ => rfl | 2, _ => rfl | 3, _ => rfl | 4, _ => rfl)
            have e34 := e3.trans e4
            refine ⟨_, rfl, _, rfl, p4, _, rfl, .inl ⟨.inl (.inl hp4), fun p5 n5 => ⟨(by decide : 3 ≤ sizeLine), fun p6 n6 => ?_⟩⟩⟩
            have e5 : Same H4 (upd H4 p5 (.tup (ps.map V.ref))) := Same.upd (Same.refl _) n5
            have e6 := Same.upd (o := .tup [.int (numD (ws.getD 0 "")), .non, .ref p5]) (Same.refl _) n6
            refine hq eF _ p6 ((e34.trans e5).trans e6) ?_
            have er : rowOf ws = ⟨numD (ws.getD 0 ""), none, (ws.drop 2).map whD⟩ := if_pos hN
            rw [er]
            exact ⟨.non, p5, ps, .inl (.inl upd_same), rfl, Same.tup e6 (.inl (.inl upd_same)), hW.same (e5.trans e6), by rw [List.length_map]; exact l5⟩
          · rw [k5] at hf
            rw [hf] at eF
            have ef : ((f : Nat) : Int) + 2 = ((f + 2 : Nat) : Int) := by omega
            refine ⟨T.exmText, fun a0 na => ⟨_, rfl, _, rfl, rfl, rfl, d, _, _, rfl, upd_same, rfl, _, _, rfl, rfl, _, _, rfl, fun d2 nd2 => ?_⟩⟩
            have z := hx (f + 2) eF _ d2 (Same.upd (e3.trans e4) nd) nd2
            rw [← ef] at z
            exact z
        · rw [kn] at hf
          rw [hf] at eF
          exact hx f eF H2 d (e1.trans e2) nd
    | false =>
      have eF : rowFault ws = allFault ws n8 := if_neg (by rw [hN]; exact Bool.false_ne_true)
      refine sq_f (fun Q' hQ => ?_) ?_
      · refine ⟨_, rfl, a, _, rfl, .inl hs, _, _, rfl, rfl, _, rfl, iteTest (fun c => ?_) fun c => hQ⟩
        have l1 : 1 < ws.length := by
          have q := of_decide_eq_true c
          rw [lw] at q
          omega
        have gz : ws[1]? = some ws[1] := List.getElem?_eq_getElem l1
        have gv : (vstrs ws)[1]? = some (.str ws[1]) := by unfold vstrs; rw [List.getElem?_map, gz]; rfl
        refine ⟨_, rfl, a, _, _, _, rfl, rfl, hs, atI_nat (j := 1) gv, rfl, _, rfl, ?_⟩
        have e : decide (V.str ws[1] = V.str "none") = false := by
          rw [decS]
          unfold isNoneRow at hN
          rw [decide_eq_true l1, Bool.true_and, gz] at hN
          exact decide_eq_false fun q => of_decide_eq_false hN (congrArg some q)
        rw [e]
        exact hQ
      · refine ⟨_, rfl, _, _, rfl, .inr (T.items _), rfl, rfl, _, _, rfl, rfl, by decide +kernel, _, rfl, ?_⟩
        refine ⟨a, ws, _, line, rfl, hs, hz, hw, by rw [k8]; intro c hc; simp [n8] at hc; omega, by decide +kernel, fun hnone H2 p2 us e2 n2 hp2 hus hT => ?_, fun f hf H2 d e2 nd => ?_⟩
        · rw [k8] at hnone hT
          rw [hnone] at eF
          have l8 : ws.length = 8 := allFault_len hnone
          rw [l8] at hus
          obtain ⟨z0, z1, z2, zs, rfl⟩ : ∃ z0 z1 z2 zs, ws = z0 :: z1 :: z2 :: zs := by
            match ws, l8 with
            | z0 :: z1 :: z2 :: zs, _ => exact ⟨z0, z1, z2, zs, rfl⟩
          obtain ⟨v0, v1, v2, vs, rfl⟩ : ∃ v0 v1 v2 vs, us = v0 :: v1 :: v2 :: vs := by
            match us, hus with
            | v0 :: v1 :: v2 :: vs, _ => exact ⟨v0, v1, v2, vs, rfl⟩
          obtain ⟨k0, q0, t0⟩ := hT 0 v0 z0 110 rfl rfl rfl
          obtain ⟨k1, q1, t1⟩ := hT 1 v1 z1 98 rfl rfl rfl
          obtain ⟨k2, q2, t2⟩ := hT 2 v2 z2 110 rfl rfl rfl
          have w0 := num_from q0 t0
          have w1 := bas_from q1 t1
          have w2 := num_from q2 t2
          subst w0 w1 w2
          have lz : zs.length = 5 := by simpa using l8
          have lv : vs.length = 5 := by simpa using hus
          obtain ⟨ps, rfl, hW⟩ := whs_from (us := vs) (zs := zs) (by omega) fun j v z h1 h2 => by
            have hj : j < 5 := by
              have := (List.getElem?_eq_some_iff.mp h2).1
              omega
            exact hT (j + 3) v z 119 h1 h2 (by match j, hj with | 0, _ => rfl | 1, _ => rfl | 2, _ => rfl | 3, _ => rfl | 4, _ => rfl)
          refine ⟨p2, _, _, _, _, rfl, .inl (.inl hp2), by rw [List.length_map] at lv ⊢; omega, fun p3 n3 => ⟨_, _, rfl, _, _, rfl, _, _, rfl, _, _, rfl, rfl, ?_⟩⟩
          have e3 : Same H2 (upd H2 p3 (.lst (ps.map V.ref))) := Same.upd (Same.refl _) n3
          refine ⟨_, rfl, _, rfl, _, rfl, (by decide : 2 ≤ sizeLine), fun p4 n4 => ?_⟩
          have e4 := Same.upd (o := .tup [.str z1, .int (numD z2)]) (Same.refl _) n4
          refine ⟨_, rfl, p3, _, rfl, .inl ⟨.inl (.inl (e4 _ _ upd_same)), fun p5 n5 => ⟨(by decide : 3 ≤ sizeLine), fun p6 n6 => ?_⟩⟩⟩
          have e5 := Same.upd (o := .tup (ps.map V.ref)) (Same.refl _) n5
          have e6 := Same.upd (o := .tup [.int (numD z0), .ref p4, .ref p5]) (Same.refl _) n6
          refine hq eF _ p6 ((((e2.trans e3).trans e4).trans e5).trans e6) ?_
          have er : rowOf (z0 :: z1 :: z2 :: zs) = ⟨numD z0, some (z1, numD z2), zs.map whD⟩ := if_neg (by rw [hN]; exact Bool.false_ne_true)
          rw [er]
          exact ⟨.ref p4, p5, ps, .inl (.inl upd_same), ⟨p4, rfl, Same.tup (e5.trans e6) (.inl (.inl upd_same))⟩, Same.tup e6 (.inl (.inl upd_same)), hW.same (((e3.trans e4).trans e5).trans e6), by rw [List.length_map]; exact lz⟩
        · rw [k8] at hf
          rw [hf] at eF
          exact hx f eF H2 d e2 nd
end
end K39
set_option Elab.async false
set_option linter.all false
set_option maxRecDepth 100000
set_option maxHeartbeats 4000000
namespace K39
open PySem PySem.Spec PyProof.Rows L2
theorem SqL.updL {K : PySem.W.Frag} {H : Hp} {a D : Addr} {xs : List V} {o : HO} (ne : a ≠ D) (h : SqL K H a xs) : SqL K (upd H D o) a xs := by
  rcases h with (h | ⟨o, h⟩) | h
  · exact .inl (.inl (by rw [upd_ne ne]; exact h))
  · exact .inl (.inr ⟨o, by rw [upd_ne ne]; exact h⟩)
  · exact .inr h
section
variable {P : Program} {w : World} {K : PySem.W.Frag} {mg : Str → Option Value} {base : Heap}
/-! ### lines_of -/
theorem scLinesOf : FnScope ["text", "line"] ["text"] (defScope sLinesOf) := ⟨rfl, rfl, rfl, by decide +kernel, rfl, by decide +kernel, by decide +kernel⟩
def LinesAt (K : PySem.W.Frag) (H : Hp) (ps : List Addr) (lns : List Str) : Prop := ps.length = lns.length ∧ ∀ (i : Nat) (p : Addr) (ln : Str), ps[i]? = some p → lns[i]? = some ln → SqL K H p (vstrs (Txt.split ln " "))
theorem LinesAt.same {K : PySem.W.Frag} {H H' : Hp} {ps : List Addr} {lns : List Str} (e : Same H H') (h : LinesAt K H ps lns) : LinesAt K H' ps lns := ⟨h.1, fun i p ln h1 h2 => Same.lst e (h.2 i p ln h1 h2)⟩
def NotStr (K : PySem.W.Frag) (H : Hp) (v : V) : Prop := ∃ t, TyX K H v t ∧ PySem.W.kitOne K t (.type "str") = some false
theorem TyX.same {K : PySem.W.Frag} {H H' : Hp} {v : V} {t : Value} (e : Same H H') (h : TyX K H v t) : TyX K H' v t := by
  cases h with
  | base b =>
    refine .base ?_
    cases b with
    | non => exact .non
    | bl x => exact .bl x
    | int i => exact .int i
    | str x => exact .str x
    | flt x => exact .flt x
    | lst q => exact .lst (e _ _ q)
    | frz q => exact .frz (e _ _ q)
    | tup q => exact .tup (e _ _ q)
    | dK q => exact .dK (e _ _ q)
    | dT q => exact .dT (e _ _ q)
    | ins q a b c d f => exact .ins (e _ _ q) a b c d f
  | byt b => exact .byt b
  | set q => exact .set (e _ _ q)
  | kList q c => exact .kList q c
  | kTuple q c => exact .kTuple q c
  | kDict q c => exact .kDict q c
  | fTuple q => exact .fTuple (e _ _ q)
  | fDict q => exact .fDict (e _ _ q)
theorem NotStr.same {K : PySem.W.Frag} {H H' : Hp} {v : V} (e : Same H H') (h : NotStr K H v) : NotStr K H' v := by
  obtain ⟨t, h1, h2⟩ := h
  exact ⟨t, TyX.same e h1, h2⟩
def lnsOk (z : Str) (lns : List Str) : Prop := Txt.split z "\n" = lns ∧ z.length ≤ 1000000 ∧ lns.length ≤ 1000000 ∧ ∀ ln ∈ lns, ln.length ≤ 1000000
def spLinesOf (K : PySem.W.Frag) : Sp := fun vs H Q E => (∃ (z : Str) (lns : List Str), vs = [.str z] ∧ lnsOk z lns ∧ ∀ H' D ps, Same H H' → H D = none → (∀ q ∈ ps, H q = none) → H' D = some (.lst (ps.map V.ref)) → LinesAt K H' ps lns → Q (.ref D) H') ∨ ∃ v, vs = [v] ∧ NotStr K H v ∧ TxtE K 0 0 H E
theorem ok_lines_of (T : Tx K mg) : Ok P w K mg base (L2.CX P w) 3 "lines_of" ["text"] (spLinesOf K) := by
  refine T.ok 12 rfl T.g_lines_of scLinesOf (fun vs H Q E h => ?_) (fun _ _ _ _ _ _ us hl => match us, hl with | [_], _ => rfl) fun cdv A outer s H vs Q E hr h => ?_
  · rcases h with ⟨z, lns, rfl, _⟩ | ⟨v, rfl, _⟩
    · rfl
    · rfl
  · refine ⟨_, (pss_cons (ps_if (pt_not (pt_val (pe_isi T.n_isinstance T.n_str (pv 0) PyProof.Rows.boot_str))) (pss_one (ps_raise2 T (hr.mono (by decide)) rfl (L2.takes_of rfl rfl rfl rfl) (pa_cons pe_int (pa_cons pe_int pa_nil)))) pss_nil)
      (pss_one (ps_ret (pe_lc (own := [("line", 1)]) rfl scLinesOf.nd (pi_list (pe_split (pv 0) (pe_gl T.g_LINE))) (blkOk_by (N := ["text", "line"]) (sc := defScope sLinesOf) (by decide +kernel)) (fun _ _ _ _ _ => (pg_name (i := 1) scLinesOf.nd rfl (Or.inl rfl))) (fun _ _ _ _ _ => pts_nil) (fun _ _ _ _ _ => (pe_split (pv 1) (pe_gl T.g_BLANK))))))), ?_⟩
    rcases h with ⟨z, lns, rfl, ⟨hs, hz, hln, hl⟩, hq⟩ | ⟨v, rfl, ⟨t, ht, hk⟩, hx⟩
    · refine sq_f (fun Q' hQ => ⟨_, rfl, _, _, _, _, true, rfl, .ty _, .base (.str _), kit_ty (by decide +kernel), _, rfl, hQ⟩) ?_
      have hl2 : Txt.split z "\n" = lns := hs
      refine ⟨_, rfl, ⟨z, rfl⟩, z, _, rfl, rfl, by decide +kernel, by rw [sizeLine_eq]; omega, fun p np => ⟨p, rfl, ⟨_, .inl (.inl upd_same)⟩, fun D nD => ?_⟩⟩
      rw [hl2] at nD ⊢
      have e0 : Same H (upd H p (.lst (vstrs lns))) := Same.upd (Same.refl H) np
      have nDH : H D = none := by
        by_cases q : D = p
        · rw [q]
          exact np
        · have z := nD
          rw [upd_ne q] at z
          exact z
      refine lc_listJ (S := []) (xs := vstrs lns) (fun i acc H2 => ∃ ps : List Addr, acc = ps.map V.ref ∧ ps.length = i ∧ (∀ q ∈ ps, q ≠ D ∧ H q = none) ∧ ∀ (j : Nat) (q : Addr) (ln : Str), ps[j]? = some q → lns[j]? = some ln → SqL K H2 q (vstrs (Txt.split ln " ")))
        (fun H2 k => Same.lst k.same (.inl (.inl upd_same))) (by unfold vstrs; rw [List.length_map, sizeLine_eq]; omega) nD (by simp) (fun i acc H2 l zs hD j => ?_) ⟨[], rfl, rfl, by simp, by simp⟩ (fun i x hx acc H2 Q2 N k hD j hy hn => ?_) fun ys H2 k hD j => ?_
      · obtain ⟨ps, h1, h2, h3, h4⟩ := j
        exact ⟨ps, h1, h2, h3, fun j q ln g1 g2 => SqL.updL (h3 q (List.mem_of_getElem? g1)).1 (h4 j q ln g1 g2)⟩
      · obtain ⟨ln, gl, rfl⟩ := map_get hx
        obtain ⟨ps, rfl, h2, h3, h4⟩ := j
        refine lc_yes rfl ⟨_, rfl, ⟨ln, rfl⟩, ln, _, rfl, rfl, by decide +kernel, ?_, fun q nq => hy _ _ (Kp.upd (Kp.refl _ _) nq) ⟨ps ++ [q], by rw [List.map_append]; rfl, by rw [List.length_append, h2]; rfl, ?_, ?_⟩⟩
        · have := hl ln (List.mem_of_getElem? gl)
          rw [sizeLine_eq]
          omega
        · intro q' hq'
          rcases List.mem_append.mp hq' with hq' | hq'
          · exact h3 q' hq'
          · rw [List.mem_singleton.mp hq']
            refine ⟨Ne.symm (ne_of_none hD nq), ?_⟩
            cases qh : H q with
            | none => rfl
            | some o =>
              have z := k.same _ _ (e0 _ _ qh)
              rw [nq] at z
              cases z
        · intro j' q' ln' g1 g2
          rcases get_snoc g1 with g1 | ⟨ej, eq⟩
          · exact Same.lst (Same.upd (Same.refl _) nq) (h4 j' q' ln' g1 g2)
          · subst eq
            rw [ej, h2, gl] at g2
            cases g2
            exact .inl (.inl upd_same)
      · obtain ⟨ps, rfl, h2, h3, h4⟩ := j
        exact hq H2 D ps (e0.trans k.same) nDH (fun q hq' => (h3 q hq').2) hD ⟨by rw [h2]; unfold vstrs; rw [List.length_map], h4⟩
    · refine sq_t (fun Q' hQ => ⟨_, rfl, _, _, _, _, false, rfl, .ty _, ht, hk, _, rfl, hQ⟩) ?_
      exact ⟨_, _, rfl, fun d nd => hx H d (Same.refl H) nd⟩
/-! ### all_told -/
theorem scAllTold : FnScope ["text", "one_told", "found", "at", "words"] ["text", "one_told"] (defScope sAllTold) := ⟨rfl, rfl, rfl, by decide +kernel, rfl, by decide +kernel, by decide +kernel⟩
theorem pe_callLO {X : Cx} {CX : CXT} {k j i : Nat} {x y : Str} {ps : List Str} {sp : Sp} {E : XK} {p pos : Pos} {e : Expr} {es : List Expr} {t : TA} (O : Ok X.prog X.w X.K X.mg X.base CX k y ps sp) (hr : Room j X.A) (hk : k ≤ j) (hN : X.N[i]? = some x) (hv : Vis X.env.scope x) (hx : Passes CX X E) (ha : PA X (e :: es) t)
    (hdb : (x == ("__debug__" : Str)) = false := by decide) (hcd : (x == ("__classdict__" : Str)) = false := by decide)
    (he : starEach (e :: es) X.env = (false, eval e X.env) :: starEach es X.env := by rfl) (hpl : (backTo pos (starEach es X.env)).any (·.1) = false := by rfl) :
    PE X (.Call (.Name x p) (e :: es) [] pos) (tCallL i (He.ga X.K y) sp [] E t) := by
  obtain ⟨fd, F, b⟩ := O.ex
  exact pe_callL F (hr.mono hk) hN hv O.kp b .nil hx ha hdb hcd he hpl
def hasNil (ws : List Str) : Bool := inV (.str "") (vstrs ws)
/-- the first line that is no row: its number, its word's -/
def textFault : Nat → List (List Str) → Option (Nat × Nat)
  | _, [] => none
  | i, ws :: r => if hasNil ws = true then some (i + 1, 0) else match rowFault ws with
    | some f => some (i + 1, f)
    | none => textFault (i + 1) r
def rowsOk (rws : List (List Str)) : Prop := ∀ ws ∈ rws, ws.length ≤ 1000000 ∧ wordsOk ws
theorem FndAt.updL {K : PySem.W.Frag} {H : Hp} {v : V} {f : Fnd} {D : Addr} {l zs : List V} (hD : H D = some (.lst l)) (h : FndAt K H v f) : FndAt K (upd H D (.lst zs)) v f := by
  cases f with
  | none => exact h
  | some q =>
    obtain ⟨a, h1, h2⟩ := h
    exact ⟨a, h1, SqT.updL hD h2⟩
theorem RowAt.updL {K : PySem.W.Frag} {H : Hp} {a : Addr} {r : Row} {D : Addr} {l zs : List V} (hD : H D = some (.lst l)) (h : RowAt K H a r) : RowAt K (upd H D (.lst zs)) a r := by
  obtain ⟨fv, tw, ps, h1, h2, h3, h4, h5⟩ := h
  exact ⟨fv, tw, ps, SqT.updL hD h1, h2.updL hD, SqT.updL hD h3, ⟨h4.1, fun i p x g1 g2 => SqT.updL hD (h4.2 i p x g1 g2)⟩, h5⟩
theorem vstrs_flat (ws : List Str) : (vstrs ws).all flatV = true := by
  rw [List.all_eq_true]
  intro x hx
  obtain ⟨z, _, rfl⟩ := List.mem_map.mp hx
  rfl
def spAllTold (K : PySem.W.Frag) : Sp := fun vs H Q E => (∃ (z : Str) (lns : List Str), vs = [.str z, .ref (He.ga K "row_told")] ∧ lnsOk z lns ∧ rowsOk (lns.map fun ln => Txt.split ln " ") ∧
    (textFault 0 (lns.map fun ln => Txt.split ln " ") = none → ∀ H' p as, Same H H' → SqT K H' p (as.map V.ref) → RowsAt K H' as ((lns.map fun ln => Txt.split ln " ").map rowOf) → Q (.ref p) H') ∧
    ∀ l f, textFault 0 (lns.map fun ln => Txt.split ln " ") = some (l, f) → TxtE K (l : Nat) (f : Nat) H E) ∨ ∃ v, vs = [v, .ref (He.ga K "row_told")] ∧ NotStr K H v ∧ TxtE K 0 0 H E
theorem ok_all_told (T : Tx K mg) : Ok P w K mg base (L2.CX P w) 5 "all_told" ["text", "one_told"] (spAllTold K) := by
  have olines_of := ok_lines_of (P := P) (w := w) (base := base) T
  have orow_told := ok_row_told (P := P) (w := w) (base := base) T
  refine T.ok 15 rfl T.g_all_told scAllTold (fun vs H Q E h => ?_) (fun _ _ _ _ _ _ us hl => match us, hl with | [_, _], _ => rfl) fun cdv A outer s H vs Q E hr h => ?_
  · rcases h with ⟨z, lns, rfl, _⟩ | ⟨v, rfl, _⟩
    · rfl
    · rfl
  · refine ⟨_, (pss_cons (ps_set (i := 2) scAllTold.nd rfl (Or.inl rfl) (pe_lst pa_nil))
      (pss_cons (ps_for (passes_of rfl) rfl (pi_enum (by rfl) T.n_enumerate (pa_cons (pe_k olines_of hr (by decide) (L2.passes_call (L2.takes_of rfl rfl rfl rfl) fun _ _ _ _ h => h) (pa_cons (pv 0) pa_nil)) pa_nil)) (pg_tup rfl (pgs_cons (pg_name (i := 3) scAllTold.nd rfl (Or.inl rfl)) (pgs_cons (pg_name (i := 4) scAllTold.nd rfl (Or.inl rfl)) pgs_nil))) (pss_cons (ps_if (pt_cmpR (inQ (K := K)) pe_str (pv 4) (by rfl)) (pss_one (ps_raise2 T (hr.mono (by decide)) rfl (L2.takes_of rfl rfl rfl rfl) (pa_cons (pe_op op_add (pv 3) pe_int) (pa_cons pe_int pa_nil)))) pss_nil)
      (pss_one (ps_expr (pe_bm PySem.F.plainAttrs_list PySem.F.slot_list_append PySem.F.type_list_append mt_append (pv 2) (pa_cons (pe_callLO orow_told hr (by decide) (i := 1) rfl (Or.inl rfl) (L2.passes_call (L2.takes_of rfl rfl rfl rfl) fun _ _ _ _ h => h) (pa_cons (pv 4) (pa_cons (pe_op op_add (pv 3) pe_int) pa_nil))) pa_nil))))))
      (pss_one (ps_ret (pe_callTy call_tuple_of (by rfl) T.n_tuple PyProof.Rows.boot_tuple (pa_cons (pv 2) pa_nil)))))), ?_⟩
    rcases h with ⟨z, lns, rfl, hln, hok, hq, hx⟩ | ⟨v, rfl, hns, hx⟩
    · refine ⟨by decide, fun D nD => ?_⟩
      have e0 : Same H (upd H D (.lst [])) := Same.upd (Same.refl H) nD
      generalize er : (lns.map fun ln => Txt.split ln " ") = rws at hok hq hx
      have hlen : rws.length = lns.length := by rw [← er, List.length_map]
      refine ⟨_, rfl, .inl ⟨z, lns, rfl, hln, fun H1 L ps e1 nL nP hL hP => ⟨L, _, rfl, .inl (.inl hL), loop_n rws.length (fun i σ H2 => ∃ (u3 u4 : Option V) (as : List Addr), σ = [some (.str z), some (.ref (He.ga K "row_told")), some (.ref D), u3, u4] ∧ Same H H2 ∧ H2 L = some (.lst (ps.map V.ref)) ∧ LinesAt K H2 ps lns ∧
        H2 D = some (.lst (as.map V.ref)) ∧ RowsAt K H2 as ((rws.take i).map rowOf) ∧ textFault 0 rws = textFault i (rws.drop i)) ⟨none, none, [], rfl, e0.trans e1, hL, hP, e1 _ _ upd_same, ⟨by simp, by simp⟩, rfl⟩ (fun σ H2 hw => ?_) fun i σ H2 hi hw => ?_⟩⟩⟩
      · obtain ⟨u3, u4, as, rfl, e2, hL2, hP2, hD2, hR2, hT2⟩ := hw
        refine ⟨⟨_, .inl (.inl hL2), by rw [List.length_map, hP.1, hlen]; exact Nat.le_refl _⟩, ?_⟩
        rw [List.drop_length] at hT2
        rw [List.take_length] at hR2
        refine ⟨_, rfl, D, _, rfl, .inl ⟨.inl (.inl hD2), fun l nl => ?_⟩⟩
        have e3 := Same.upd (o := .tup (as.map V.ref)) (Same.refl _) nl
        exact hq hT2 _ l as (e2.trans e3) (.inl (.inl upd_same)) (hR2.same e3)
      · obtain ⟨u3, u4, as, rfl, e2, hL2, hP2, hD2, hR2, hT2⟩ := hw
        have hil : i < lns.length := by omega
        have gl : lns[i]? = some lns[i] := List.getElem?_eq_getElem hil
        have gr : rws[i]? = some (Txt.split lns[i] " ") := by
          rw [← er, List.getElem?_map, gl]
          rfl
        obtain ⟨q, gq⟩ := get_len hP2.1.symm gl
        have gv : (ps.map V.ref)[i]? = some (.ref q) := by rw [List.getElem?_map, gq]; rfl
        have hWs := hP2.2 i q _ gq gl
        generalize Txt.split lns[i] " " = ws at gr hWs
        obtain ⟨hz1, hw1⟩ := hok ws (List.mem_of_getElem? gr)
        refine ⟨⟨_, _, .inl (.inl hL2), gv⟩, fun x H3 hy => ?_⟩
        obtain ⟨T1, x1, rfl, nT, rfl, hx1⟩ := hy
        have ex : x1 = .ref q := by
          have z := hx1 _ (.inl (.inl hL2))
          rw [gv] at z
          exact (Option.some.inj z).symm
        subst ex
        have e3 : Same H2 (upd H2 T1 (.tup [.int (i : Nat), .ref q])) := Same.upd (Same.refl _) nT
        have ed : textFault 0 rws = (if hasNil ws = true then some (i + 1, 0) else match rowFault ws with | some f => some (i + 1, f) | none => textFault (i + 1) (rws.drop (i + 1))) := by
          rw [hT2, drop_get gr]
          rfl
        refine ⟨T1, _, rfl, .inl (.inl upd_same), rfl, _, _, rfl, _, _, rfl, rfl, ?_⟩
        cases hn : hasNil ws with
        | true =>
          rw [if_pos hn] at ed
          refine sq_t (fun Q' hQ => ⟨_, rfl, q, _, rfl, .inl (Same.lst e3 hWs), rfl, vstrs_flat ws, _, rfl, ?_⟩) ?_
          · show Q' (inV (.str "") (vstrs ws)) _
            rw [show inV (.str "") (vstrs ws) = true from hn]
            exact hQ
          · exact ⟨_, rfl, _, _, rfl, rfl, _, _, rfl, fun d nd => hx _ _ ed _ d (e2.trans e3) nd⟩
        | false =>
          rw [if_neg (by rw [hn]; exact Bool.false_ne_true)] at ed
          refine sq_f (fun Q' hQ => ⟨_, rfl, q, _, rfl, .inl (Same.lst e3 hWs), rfl, vstrs_flat ws, _, rfl, ?_⟩) ?_
          · show Q' (inV (.str "") (vstrs ws)) _
            rw [show inV (.str "") (vstrs ws) = false from hn]
            exact hQ
          · refine ⟨_, rfl, .inl ⟨rfl, _, .inl (.inl (e3 _ _ hD2))⟩, rfl, _, rfl, _, rfl, _, _, rfl, rfl, q, ws, _, rfl, Same.lst e3 hWs, hz1, hw1, fun hnone H4 p e4 hrow => ?_, fun f hf H4 d e4 nd => ?_⟩
            · rw [hnone] at ed
              have hD4 := e4 _ _ (e3 _ _ hD2)
              have e34 := e3.trans e4
              refine ⟨D, _, .ref p, rfl, rfl, hD4, ?_, ?_⟩
              · have z := hR2.1
                rw [List.length_map, List.length_take] at z
                rw [List.length_map, sizeLine_eq, z]
                have := hln.2.2.1
                omega
              · have nLD : L ≠ D := fun z => by
                  rw [z, upd_same] at nL
                  cases nL
                refine ⟨_, _, as ++ [p], rfl, Same.own (e2.trans e34) nD, ?_, ⟨hP2.1, fun j q' ln' g1 g2 => ?_⟩, ?_, ?_, ?_⟩
                · rw [upd_ne nLD]
                  exact e34 _ _ hL2
                · refine SqL.updL (fun z => ?_) (Same.lst e34 (hP2.2 j q' ln' g1 g2))
                  have zz := nP q' (List.mem_of_getElem? g1)
                  rw [z, upd_same] at zz
                  cases zz
                · rw [upd_same, List.map_append]
                  rfl
                · refine ⟨?_, fun j a r g1 g2 => ?_⟩
                  · have z := hR2.1
                    rw [List.length_map, List.length_take] at z
                    rw [List.length_map, List.length_take, List.length_append, z, List.length_singleton]
                    omega
                  · rw [take_snoc gr, List.map_append] at g2
                    rcases get_snoc g1 with g1 | ⟨ej, ea⟩
                    · have lj : j < ((rws.take i).map rowOf).length := by
                        have := (List.getElem?_eq_some_iff.mp g1).1
                        rw [hR2.1] at this
                        exact this
                      rw [List.getElem?_append_left lj] at g2
                      exact ((hR2.2 j a r g1 g2).same e34).updL hD4
                    · subst ea
                      rw [ej, hR2.1, List.getElem?_append_right (Nat.le_refl _), Nat.sub_self] at g2
                      cases g2
                      exact hrow.updL hD4
                · rw [ed]
            · rw [hf] at ed
              exact hx _ _ ed H4 d ((e2.trans e3).trans e4) nd
    · refine ⟨by decide, fun D nD => ?_⟩
      have e0 : Same H (upd H D (.lst [])) := Same.upd (Same.refl H) nD
      exact ⟨_, rfl, .inr ⟨v, rfl, hns.same e0, fun H1 d e1 nd => hx H1 d (e0.trans e1) nd⟩⟩
/-! ### read_table -/
theorem scReadTable : FnScope ["text"] ["text"] (defScope sReadTable) := ⟨rfl, rfl, rfl, by decide +kernel, rfl, by decide +kernel, by decide +kernel⟩
inductive Out where
  | fine
  | text (l f : Nat)
  | tab (v : V)
def toldOf (rws : List (List Str)) : Out := match textFault 0 rws with
  | some p => .text p.1 p.2
  | none => match needRows (rws.map rowOf) with
    | none => .fine
    | some v => .tab v
def OutEnd (K : PySem.W.Frag) (o : Out) (H : Hp) (Q : VK) (E : XK) : Prop := match o with
  | .fine => ∀ H' p, Same H H' → Q (.ref p) H'
  | .text l f => TxtE K (l : Nat) (f : Nat) H E
  | .tab v => ∀ H1 d, Same H H1 → H1 d = none → E (.ref (He.ga K "BadTable")) (some d) (upd H1 d (.xd [("row", v)]))
def spReadTable (K : PySem.W.Frag) : Sp := fun vs H Q E => (∃ (z : Str) (lns : List Str), vs = [.str z] ∧ lnsOk z lns ∧ rowsOk (lns.map fun ln => Txt.split ln " ") ∧ OutEnd K (toldOf (lns.map fun ln => Txt.split ln " ")) H Q E) ∨ ∃ v, vs = [v] ∧ NotStr K H v ∧ TxtE K 0 0 H E
theorem ok_read_table (T : Tx K mg) : Ok P w K mg base (L2.CX P w) 6 "read_table" ["text"] (spReadTable K) := by
  have oall_told := ok_all_told (P := P) (w := w) (base := base) T
  have oneed_table := ok_need_table (P := P) (w := w) (base := base) T
  refine T.ok 16 rfl T.g_read_table scReadTable (fun vs H Q E h => ?_) (fun _ _ _ _ _ _ us hl => match us, hl with | [_], _ => rfl) fun cdv A outer s H vs Q E hr h => ?_
  · rcases h with ⟨z, lns, rfl, _⟩ | ⟨v, rfl, _⟩
    · rfl
    · rfl
  · refine ⟨_, (pss_one (ps_ret (pe_k oneed_table hr (by decide) (L2.passes_call (L2.takes_of rfl rfl rfl rfl) fun _ _ _ _ h => h) (pa_cons (pe_k oall_told hr (by decide) (L2.passes_call (L2.takes_of rfl rfl rfl rfl) fun _ _ _ _ h => h) (pa_cons (pv 0) (pa_cons (pe_glR T.g_row_told) pa_nil))) pa_nil)))), ?_⟩
    rcases h with ⟨z, lns, rfl, hln, hok, hq⟩ | ⟨v, rfl, hns, hx⟩
    · refine ⟨_, rfl, .inl ⟨z, lns, rfl, hln, hok, fun hn H1 p as e1 hs hR => ?_, fun l f hf => ?_⟩⟩
      · unfold toldOf at hq
        rw [hn] at hq
        refine ⟨p, as, _, rfl, hs, ?_, hR, fun hnone H2 e2 => ?_, fun v hv H2 d e2 nd => ?_⟩
        · have z := hR.1
          rw [List.length_map, List.length_map] at z
          rw [z, sizeLine_eq]
          have := hln.2.2.1
          omega
        · rw [hnone] at hq
          exact hq H2 p (e1.trans e2)
        · rw [hv] at hq
          exact hq H2 d (e1.trans e2) nd
      · unfold toldOf at hq
        rw [hf] at hq
        exact hq
    · exact ⟨_, rfl, .inr ⟨v, rfl, hns, hx⟩⟩
end
end K39
set_option Elab.async false
set_option linter.all false
set_option maxRecDepth 100000
set_option maxHeartbeats 4000000
namespace K39
open PySem PySem.Spec PyProof.Rows L2
theorem un1 {k : Nat} {A : Around} (r : Room k A) : A.units + 1 < cLine := by
  have := r.un
  omega
/-! ### the script's state -/
def vints (cs : List Int) : List V := cs.map V.int
/-- what the state's dict holds -/
def stD (cl lf : Addr) (a : Int) : List (Key × V) := [(.inr "cells", .ref cl), (.inr "lefts", .ref lf), (.inr "at", .int a)]
/-- the state at d: its lists at cl and lf, at draws done -/
structure StAt (H : Hp) (d cl lf : Addr) (n : Nat) (at_ : Nat) : Prop where
  dict : H d = some (.dK (stD cl lf (at_ : Nat)))
  cells : ∃ cs : List Int, H cl = some (.lst (vints cs)) ∧ cs.length = n
  lefts : ∃ ls : List Int, H lf = some (.lst (vints ls)) ∧ ls.length = n
  pos : 0 < n
  apart : cl ≠ lf
theorem StAt.kp {H H' : Hp} {d cl lf : Addr} {n a : Nat} {S : List Addr} (k : Kp S H H') (h1 : d ∉ S) (h2 : cl ∉ S) (h3 : lf ∉ S) (h : StAt H d cl lf n a) : StAt H' d cl lf n a := by
  obtain ⟨cs, c1, c2⟩ := h.cells
  obtain ⟨ls, l1, l2⟩ := h.lefts
  exact ⟨k _ _ h1 h.dict, ⟨cs, k _ _ h2 c1, c2⟩, ⟨ls, k _ _ h3 l1, l2⟩, h.pos, h.apart⟩
theorem StAt.same {H H' : Hp} {d cl lf : Addr} {n a : Nat} (e : Same H H') (h : StAt H d cl lf n a) : StAt H' d cl lf n a := h.kp (S := []) (Same.kp e) (by simp) (by simp) (by simp)
theorem nCL : ¬ ((Sum.inr "cells" : Key) = .inr "lefts") := by decide +kernel
theorem nCA : ¬ ((Sum.inr "cells" : Key) = .inr "at") := by decide +kernel
theorem nLA : ¬ ((Sum.inr "lefts" : Key) = .inr "at") := by decide +kernel
theorem vC {cl lf : Addr} {a : Int} : valV (stD cl lf a) (.inr "cells") = some (.ref cl) := valV_pos rfl
theorem vL {cl lf : Addr} {a : Int} : valV (stD cl lf a) (.inr "lefts") = some (.ref lf) := (valV_neg nCL).trans (valV_pos rfl)
theorem vA {cl lf : Addr} {a : Int} : valV (stD cl lf a) (.inr "at") = some (.int a) := (valV_neg nCA).trans ((valV_neg nLA).trans (valV_pos rfl))
theorem pA {cl lf : Addr} {a b : Int} : putK (stD cl lf a) (.inr "at") (.int b) = stD cl lf b := by
  unfold putK stD
  have h1 : ¬ ((Sum.inr "cells" : Key) = .inr "at") := by decide +kernel
  have h2 : ¬ ((Sum.inr "lefts" : Key) = .inr "at") := by decide +kernel
  simp [h1, h2]
section
variable {H : Hp} {d cl lf : Addr} {n a : Nat}
theorem StAt.gC (h : StAt H d cl lf n a) : DGet H d (.str "cells") (some (.ref cl)) := by
  have z := DGet.k (k := .inr "cells") h.dict
  rw [vC] at z
  exact z
theorem StAt.gL (h : StAt H d cl lf n a) : DGet H d (.str "lefts") (some (.ref lf)) := by
  have z := DGet.k (k := .inr "lefts") h.dict
  rw [vL] at z
  exact z
theorem StAt.gA (h : StAt H d cl lf n a) : DGet H d (.str "at") (some (.int (a : Nat))) := by
  have z := DGet.k (k := .inr "at") h.dict
  rw [vA] at z
  exact z
theorem StAt.put (h : StAt H d cl lf n a) : DPut H d (.str "at") (.int ((a : Nat) + 1)) (upd H d (.dK (stD cl lf (a + 1 : Nat)))) := by
  have z := DPut.k (k := .inr "at") (v := .int ((a : Nat) + 1)) h.dict (by decide : 3 < sizeLine)
  rw [pA] at z
  exact z
theorem StAt.dc (h : StAt H d cl lf n a) : cl ≠ d := by
  obtain ⟨cs, c1, _⟩ := h.cells
  exact ne_of c1 h.dict (by intro z; cases z)
theorem StAt.dl (h : StAt H d cl lf n a) : lf ≠ d := by
  obtain ⟨ls, l1, _⟩ := h.lefts
  exact ne_of l1 h.dict (by intro z; cases z)
theorem StAt.next (h : StAt H d cl lf n a) : StAt (upd H d (.dK (stD cl lf (a + 1 : Nat)))) d cl lf n (a + 1) := by
  obtain ⟨cs, c1, c2⟩ := h.cells
  obtain ⟨ls, l1, l2⟩ := h.lefts
  exact ⟨upd_same, ⟨cs, by rw [upd_ne h.dc]; exact c1, c2⟩, ⟨ls, by rw [upd_ne h.dl]; exact l1, l2⟩, h.pos, h.apart⟩
end
section
variable {P : Program} {w : World} {K : PySem.W.Frag} {mg : Str → Option Value} {base : Heap}
/-! ### _law_mixed -/
theorem scLawMixed : FnScope ["cell", "k"] ["cell", "k"] (defScope sLawMixed) := ⟨rfl, rfl, rfl, by decide +kernel, rfl, by decide +kernel, by decide +kernel⟩
def spMixed : Sp := fun vs H Q _ => ∃ c k : Int, vs = [.int c, .int k] ∧ 0 ≤ k ∧ k ≤ 2000000 ∧ ∀ r : Int, 0 ≤ r → r < 2147483629 → Q (.int r) H
theorem ok_mixed (T : Tx K mg) : Ok P w K mg base CX0 1 "_law_mixed" ["cell", "k"] spMixed := by
  refine T.ok0 17 rfl T.g__law_mixed scLawMixed (fun vs H Q E h => ?_) (fun _ _ _ _ _ _ us hl => match us, hl with | [_, _], _ => rfl) fun cdv A outer s H vs Q E hr h => ?_
  · obtain ⟨c, k, rfl, _⟩ := h
    rfl
  · obtain ⟨c, k, rfl, k0, k1, hq⟩ := h
    refine ⟨_, (pss_cons (ps_set (i := 0) scLawMixed.nd rfl (Or.inl rfl) (pe_op op_mod (pe_callTy call_int1 (by rfl) T.n_int PyProof.Rows.boot_int (pa_cons (pv 0) pa_nil)) pe_int))
      (pss_one (ps_ret (pe_op op_mod (pe_op op_mul (pe_op op_mod (pe_op op_add (pe_op op_add (pe_op op_mul (pv 0) (pe_op op_add pe_int (pe_op op_mul (pe_op op_mul pe_int (pv 1)) (pv 1)))) (pe_op op_mul pe_int (pv 1))) pe_int) pe_int) pe_int) pe_int)))), ?_⟩
    refine ⟨_, rfl, .inl ⟨_, rfl, _, _, rfl, rfl, (by decide : (0 : Int) < 2147483647), ?_⟩⟩
    have m0 := Int.emod_nonneg c (b := 2147483647) (by decide)
    have m1 := Int.emod_lt_of_pos c (b := 2147483647) (by decide)
    refine ⟨_, rfl, _, rfl, _, _, rfl, rfl, .inl ⟨by decide, by decide⟩, _, rfl, _, _, rfl, rfl, .inl ⟨by omega, by omega⟩, _, _, rfl, rfl, _, _, rfl, rfl, .inl ⟨by omega, by omega⟩, ?_⟩
    refine ⟨_, rfl, _, _, rfl, rfl, .inl ⟨by decide, by decide⟩, _, _, rfl, rfl, _, _, rfl, rfl, _, _, rfl, rfl, (by decide : (0 : Int) < 2147483647), _, _, rfl, rfl, .inr ⟨by decide, by decide⟩, _, _, rfl, rfl, (by decide : (0 : Int) < 2147483629), ?_⟩
    exact hq _ (Int.emod_nonneg _ (by decide)) (Int.emod_lt_of_pos _ (by decide))
theorem ixN_nat {n j : Nat} (h : j < n) : ixN n ((j : Nat) : Int) = some j := by
  unfold ixN
  simp
  omega
/-! ### _law_draw -/
theorem scLawDraw : FnScope ["state", "many", "at", "place", "left", "number"] ["state", "many"] (defScope sLawDraw) := ⟨rfl, rfl, rfl, by decide +kernel, rfl, by decide +kernel, by decide +kernel⟩
def spDraw : Sp := fun vs H Q _ => ∃ (d cl lf : Addr) (n a : Nat) (many : Int), vs = [.ref d, .int many] ∧ 1 ≤ many ∧ many ≤ 1000000 ∧ StAt H d cl lf n a ∧ a ≤ 1000000 ∧
  ∀ (k : Int) H', 0 ≤ k → k < many → Kp [d, lf] H H' → StAt H' d cl lf n (a + 1) → Q (.int k) H'
theorem ok_draw (T : Tx K mg) : Ok P w K mg base CX0 2 "_law_draw" ["state", "many"] spDraw := by
  have o_law_mixed := ok_mixed (P := P) (w := w) (base := base) T
  refine T.ok0 19 rfl T.g__law_draw scLawDraw (fun vs H Q E h => ?_) (fun _ _ _ _ _ _ us hl => match us, hl with | [_, _], _ => rfl) fun cdv A outer s H vs Q E hr h => ?_
  · obtain ⟨d, cl, lf, n, a, many, rfl, _⟩ := h
    rfl
  · obtain ⟨d, cl, lf, n, a, many, rfl, m1, m2, hst, ha, hq⟩ := h
    refine ⟨_, (pss_cons (ps_set (i := 2) scLawDraw.nd rfl (Or.inl rfl) (pe_dget (un1 hr) (pv 0) pe_str (fun _ _ => rfl)))
      (pss_cons (ps_dput (un1 hr) (pv 0) pe_str (pe_op op_add (pv 2) pe_int) rfl)
      (pss_cons (ps_set (i := 3) scLawDraw.nd rfl (Or.inl rfl) (pe_op op_mod (pe_callTy call_int1 (by rfl) T.n_int PyProof.Rows.boot_int (pa_cons (pv 2) pa_nil)) (pe_callB call_len_seq (by rfl) T.n_len PySem.boot_len (pa_cons (pe_dget (un1 hr) (pv 0) pe_str (fun _ _ => rfl)) pa_nil))))
      (pss_cons (ps_set (i := 4) scLawDraw.nd rfl (Or.inl rfl) (pe_ix ix_list (pe_dget (un1 hr) (pv 0) pe_str (fun _ _ => rfl)) (pv 3) (fun _ _ => rfl)))
      (pss_cons (ps_if (pt_cmpR op_gt (pv 4) pe_int (nomark _)) (pss_cons (ps_asg (pe_op op_fdiv (pv 4) (pv 1)) (pg_sub (pe_dget (un1 hr) (pv 0) pe_str (fun _ _ => rfl)) (pv 3) set_list))
      (pss_one (ps_ret (pe_op op_mod (pe_callTy call_int1 (by rfl) T.n_int PyProof.Rows.boot_int (pa_cons (pv 4) pa_nil)) (pv 1))))) pss_nil)
      (pss_cons (ps_set (i := 5) scLawDraw.nd rfl (Or.inl rfl) (pe_k o_law_mixed hr (by decide) pass0 (pa_cons (pe_k o_law_mixed hr (by decide) pass0 (pa_cons (pe_ix ix_list (pe_dget (un1 hr) (pv 0) pe_str (fun _ _ => rfl)) (pv 3) (fun _ _ => rfl)) (pa_cons (pv 2) pa_nil))) (pa_cons (pe_op op_add pe_int (pv 2)) pa_nil))))
      (pss_one (ps_ret (pe_op op_mod (pe_op op_fdiv (pe_callTy call_int1 (by rfl) T.n_int PyProof.Rows.boot_int (pa_cons (pe_op op_add (pe_op op_mul (pv 5) pe_int) (pe_k o_law_mixed hr (by decide) pass0 (pa_cons (pv 5) (pa_cons (pe_op op_add pe_int (pv 2)) pa_nil)))) pa_nil)) pe_int) (pv 1)))))))))), ?_⟩
    refine ⟨_, rfl, d, _, rfl, hst.gA, ?_⟩
    refine ⟨_, rfl, _, _, rfl, rfl, _, rfl, d, _, rfl, hst.put, ?_⟩
    have h1 := hst.next
    have k1 : Kp [d, lf] H (upd H d (.dK (stD cl lf (a + 1 : Nat)))) := (Kp.refl _ _).put (by simp)
    generalize upd H d (.dK (stD cl lf (a + 1 : Nat))) = H1 at h1 k1
    obtain ⟨cs, c1, c2⟩ := h1.cells
    obtain ⟨ls, l1, l2⟩ := h1.lefts
    have lc : (vints cs).length = n := by unfold vints; rw [List.length_map, c2]
    have ll : (vints ls).length = n := by unfold vints; rw [List.length_map, l2]
    have hj : a % n < n := Nat.mod_lt _ h1.pos
    refine ⟨_, rfl, .inl ⟨_, rfl, _, rfl, d, _, rfl, h1.gC, _, _, rfl, .inl (.inl (.inl c1)), _, _, rfl, rfl, ?_, ?_⟩⟩
    · rw [lc]
      have := h1.pos
      show (0 : Int) < (n : Nat)
      omega
    · rw [lc]
      have gc : (vints cs)[a % n]? = some (.int (cs[a % n]'(by omega))) := by unfold vints; rw [List.getElem?_map, List.getElem?_eq_getElem (by omega)]; rfl
      have gl : (vints ls)[a % n]? = some (.int (ls[a % n]'(by omega))) := by unfold vints; rw [List.getElem?_map, List.getElem?_eq_getElem (by omega)]; rfl
      generalize cs[a % n]'(by omega) = c0 at gc
      generalize ls[a % n]'(by omega) = l0 at gl
      have ej : ((a : Nat) : Int) % ((n : Nat) : Int) = ((a % n : Nat) : Int) := rfl
      refine ⟨_, rfl, d, _, rfl, h1.gL, _, rfl, lf, _, _, _, rfl, rfl, .inl (.inl l1), (by rw [ej]; exact atI_nat gl), ?_⟩
      have hd0 : (0 : Int) < many := by omega
      dsimp only [gName]
      by_cases hpos : 0 < l0
      · refine sq_t (fun Q' hQ => ⟨_, rfl, _, _, rfl, rfl, _, rfl, ?_⟩) ?_
        · rw [decide_eq_true hpos]
          exact hQ
        · refine ⟨_, rfl, _, rfl, _, _, rfl, rfl, ⟨hd0, by omega⟩, _, rfl, d, _, rfl, h1.gL, _, rfl, lf, _, _, a % n, rfl, rfl, l1, ?_, ?_⟩
          · rw [ll, ej]
            exact ixN_nat hj
          · have h2 : StAt (upd H1 lf (.lst ((vints ls).set (a % n) (.int (l0 / many))))) d cl lf n (a + 1) := by
              refine ⟨?_, ⟨cs, ?_, c2⟩, ⟨ls.set (a % n) (l0 / many), ?_, by rw [List.length_set]; exact l2⟩, h1.pos, h1.apart⟩
              · rw [upd_ne (Ne.symm h1.dl)]
                exact h1.dict
              · rw [upd_ne h1.apart]
                exact c1
              · rw [upd_same]
                unfold vints
                rw [List.map_set]
            exact ⟨_, rfl, .inl ⟨_, rfl, _, rfl, _, _, rfl, rfl, hd0, hq _ _ (Int.emod_nonneg _ (by omega)) (Int.emod_lt_of_pos _ hd0) (k1.put (by simp)) h2⟩⟩
      · refine sq_f (fun Q' hQ => ⟨_, rfl, _, _, rfl, rfl, _, rfl, ?_⟩) ?_
        · rw [decide_eq_false hpos]
          exact hQ
        · refine ⟨_, rfl, d, _, rfl, h1.gC, _, rfl, cl, _, _, _, rfl, rfl, .inl (.inl c1), (by rw [ej]; exact atI_nat gc), _, rfl, ?_⟩
          refine ⟨_, _, rfl, by omega, by omega, fun r r0 r1 => ⟨_, rfl, _, _, rfl, rfl, _, _, rfl, by omega, by omega, fun r2 r3 r4 => ?_⟩⟩
          refine ⟨_, rfl, _, _, rfl, rfl, .inr ⟨by decide, by decide⟩, _, rfl, _, rfl, _, _, rfl, rfl, _, _, rfl, by omega, by omega, fun r5 r6 r7 => ?_⟩
          refine ⟨_, _, rfl, rfl, .inl ⟨_, rfl, _, _, rfl, rfl, ⟨by decide, by decide⟩, _, rfl, _, _, rfl, rfl, hd0, ?_⟩⟩
          exact hq _ _ (Int.emod_nonneg _ (by omega)) (Int.emod_lt_of_pos _ hd0) k1 h1
end
end K39
set_option Elab.async false
set_option linter.all false
set_option maxRecDepth 100000
set_option maxHeartbeats 4000000
namespace K39
open PySem PySem.Spec PyProof.Rows L2
theorem callOr {X : Cx} {f : Value} {r1 r2 : List V → Hp → VK → Prop} (h1 : CallR X f r1) (h2 : CallR X f r2) : CallR X f (fun xs H Q => r1 xs H Q ∨ r2 xs H Q) := by
  intro pins s σ H xs us Q I r h
  rcases h with h | h
  · exact h1 pins s σ H xs us Q I r h
  · exact h2 pins s σ H xs us Q I r h
theorem ixOr {X : Cx} {r1 r2 : R2} (h1 : IxR X r1) (h2 : IxR X r2) : IxR X (fun x y H Q => r1 x y H Q ∨ r2 x y H Q) := by
  intro a b pins s σ H x y v u Q I rx ry h hs
  rcases h with h | h
  · exact h1 a b pins s σ H x y v u Q I rx ry h hs
  · exact h2 a b pins s σ H x y v u Q I rx ry h hs
theorem dp_ints {K : PySem.W.Frag} {H : Hp} : ∀ (cs : List Int), DpAll K H (vints cs) (cs.map PyData.int)
  | [] => .nil
  | c :: cs => .cons (.int c) (dp_ints cs)
theorem dp_strs {K : PySem.W.Frag} {H : Hp} : ∀ (cs : List Str), DpAll K H (vstrs cs) (cs.map PyData.str)
  | [] => .nil
  | c :: cs => .cons (.str c) (dp_strs cs)
theorem lay_strs : ∀ (cs : List Str), (∀ c ∈ cs, PyData.strOk c = true) → PyData.canLayAll0 (cs.map PyData.str) = true
  | [], _ => rfl
  | c :: cs, h => by simp [PyData.canLayAll0, PyData.canLay0, h c (List.mem_cons_self ..), lay_strs cs fun z hz => h z (List.mem_cons_of_mem _ hz)]
theorem dep_strs : ∀ (cs : List Str), PyData.depthAll (cs.map PyData.str) = 0
  | [] => rfl
  | c :: cs => by simp [PyData.depthAll, PyData.depth, dep_strs cs]
theorem shaped_strs {cs : List Str} (h : ∀ c ∈ cs, PyData.strOk c = true) : SeqAt.shaped (.list (cs.map PyData.str)) = true := by
  simp [SeqAt.shaped, PyData.canLay0, PyData.depth, lay_strs cs h, dep_strs]
theorem eqv_nil (ds : List PyData) : PyData.eqv (.list ds) (.list []) = ds.isEmpty := by
  cases ds with
  | nil => simp [PyData.eqv, PyData.eqvAll]
  | cons d ds => simp [PyData.eqv, PyData.eqvAll]
section
variable {P : Program} {w : World} {K : PySem.W.Frag} {mg : Str → Option Value} {base : Heap}
/-! ### _law_begin -/
theorem scLawBegin : FnScope ["script", "cells", "cell"] ["script"] (defScope sLawBegin) := ⟨rfl, rfl, rfl, by decide +kernel, rfl, by decide +kernel, by decide +kernel⟩
def spBegin (K : PySem.W.Frag) : Sp := fun vs H Q _ => ∃ (a : Addr) (cs : List Int), vs = [.ref a] ∧ SqL K H a (vints cs) ∧ cs.length ≤ 1000 ∧ ∀ (H' : Hp) (d cl lf : Addr) (n : Nat), Same H H' → StAt H' d cl lf n 0 → H d = none → H cl = none → H lf = none → Q (.ref d) H'
theorem ok_begin (T : Tx K mg) : Ok P w K mg base CX0 1 "_law_begin" ["script"] (spBegin K) := by
  refine T.ok0 18 rfl T.g__law_begin scLawBegin (fun vs H Q E h => ?_) (fun _ _ _ _ _ _ us hl => match us, hl with | [_], _ => rfl) fun cdv A outer s H vs Q E hr h => ?_
  · obtain ⟨a, cs, rfl, _⟩ := h
    rfl
  · obtain ⟨a, cs, rfl, hs, hz, hq⟩ := h
    refine ⟨_, (pss_cons (ps_set (i := 1) scLawBegin.nd rfl (Or.inl rfl) (pe_ifExp (pt_cmpR (op_neD (un64 hr)) (pv 0) (pe_lst pa_nil) (nomark _)) (pe_callTy call_list_of (by rfl) T.n_list PyProof.Rows.boot_list (pa_cons (pv 0) pa_nil)) (pe_lst (pa_cons pe_int pa_nil))))
      (pss_one (ps_ret (pe_disp (pps_cons pe_str (pv 1) (pps_cons pe_str (pe_lc (own := [("cell", 2)]) rfl scLawBegin.nd (pi_list (pv 1)) (blkOk_by (N := ["script", "cells", "cell"]) (sc := defScope sLawBegin) (by decide +kernel)) (fun _ _ _ _ _ => (pg_name (i := 2) scLawBegin.nd rfl (Or.inl rfl))) (fun _ _ _ _ _ => pts_nil) (fun _ _ _ _ _ => (pe_ifExp (pt_cmpR op_ge (pv 2) (pe_op op_pow pe_int pe_int) (nomark _)) (pv 2) pe_int))) (pps_cons pe_str pe_int pps_nil))) rfl rfl (by simp) (by decide))))), ?_⟩
    refine ⟨_, rfl, by decide, fun p np => ?_⟩
    have e0 : Same H (upd H p (.lst [])) := Same.upd (Same.refl _) np
    refine ⟨_, _, .lst (Same.lst e0 hs) (dp_ints cs), .lst (.inl (.inl upd_same)) .nil, PySem.W.ke_shaped_ints cs, PySem.W.ke_shaped_ints [], _, rfl, ?_⟩
    rw [eqv_nil]
    have fin : ∀ (H1 : Hp) (c : Addr) (zs : List Int), Same H H1 → H c = none → H1 c = some (.lst (vints zs)) → zs.length ≤ 1000 → 0 < zs.length → (tRet (tDisp [(tC (.str "cells"), tVar 1), (tC (.str "lefts"), tLc (iList K (tVar 1)) (gName 2) tYes (tIf (tTest (tOp (rI0 fun i j => V.bl (decide (j ≤ i))) (tVar 2) (tOp (rI CPow fun i j => V.int (i ^ j.toNat)) (tC (.int 10)) (tC (.int 18))))) (tVar 2) (tC (.int 0))) [2]), (tC (.str "at"), tC (.int 0))]))
        { nx := fun _ H' => Q .non H', rt := Q } [some (.ref a), some (.ref c), none] H1 := by
      intro H1 c zs e1 nc hc lz pz
      refine fun d nd => ⟨_, rfl, _, rfl, c, rfl, ⟨_, .inl (.inl (by rw [upd_ne (ne_of_none hc nd)]; exact hc))⟩, fun D nD => ?_⟩
      have e2 : Same H1 (upd H1 d (.dK [])) := Same.upd (Same.refl _) nd
      refine lc_listJ (S := []) (xs := vints zs) (fun i acc _ => ∃ ls : List Int, acc = vints ls ∧ ls.length = i) (fun H2 k => .inl (.inl (k.same _ _ (e2 _ _ hc)))) (by unfold vints; rw [List.length_map, sizeLine_eq]; omega) nD (by simp) (fun _ _ _ _ _ _ j => j) ⟨[], rfl, rfl⟩
        (fun i x hx acc H2 Q2 N k hD j hy hn => ?_) fun ys H2 k hD j => ?_
      · obtain ⟨z, gz, rfl⟩ := map_get hx
        obtain ⟨ls, rfl, hl⟩ := j
        refine lc_yes rfl ⟨_, rfl, _, _, rfl, rfl, ⟨by decide, by decide, by decide⟩, _, _, rfl, rfl, _, rfl, iteTest (fun c => ?_) fun c => ?_⟩
        · exact ⟨_, rfl, hy _ _ (Kp.refl _ _) ⟨ls ++ [z], by unfold vints; rw [List.map_append]; rfl, by rw [List.length_append, hl]; rfl⟩⟩
        · exact hy _ _ (Kp.refl _ _) ⟨ls ++ [0], by unfold vints; rw [List.map_append]; rfl, by rw [List.length_append, hl]; rfl⟩
      · obtain ⟨ls, rfl, hl⟩ := j
        have hd2 := k.same _ _ (show upd H1 d (.dK []) d = some (.dK []) from upd_same)
        have hc2 := k.same _ _ (e2 _ _ hc)
        refine ⟨hd2, [(.inr "cells", .ref c), (.inr "lefts", .ref D), (.inr "at", .int 0)], rfl, (by decide : 3 ≤ 15), ?_⟩
        have em : mergeK [] [((Sum.inr "cells" : Key), V.ref c), (.inr "lefts", .ref D), (.inr "at", .int 0)] = stD c D 0 := by
          unfold mergeK putK stD
          have h1 := nCL
          have h2 := nCA
          have h3 := nLA
          simp [h1, h2, h3]
        rw [em]
        have nn : ∀ {b : Addr}, H1 b = none → H b = none := fun {b} q => Kp.none (S := []) (Same.kp e1) q (by simp)
        have eH2 : Same H H2 := e1.trans (e2.trans k.same)
        have nDH1 : H1 D = none := Kp.none (S := []) (Same.kp e2) nD (by simp)
        have ncd : c ≠ d := ne_of_none hc nd
        have nDd : D ≠ d := fun z => by
          rw [z, upd_same] at nD
          cases nD
        have ncD : c ≠ D := ne_of_none (e2 _ _ hc) nD
        refine hq _ d c D zs.length (Same.own eH2 (nn nd)) ⟨upd_same, ⟨zs, by rw [upd_ne ncd]; exact hc2, rfl⟩, ⟨ls, by rw [upd_ne nDd]; exact hD, ?_⟩, pz, ncD⟩ (nn nd) nc (nn nDH1)
        rw [hl]
        unfold vints
        rw [List.length_map]
    cases cs with
    | nil =>
      refine iteF ⟨by decide, fun c nc => ?_⟩
      exact fin _ c [0] ((Same.upd e0 nc)) (Kp.none (S := []) (Same.kp e0) nc (by simp)) upd_same (by decide) (by decide)
    | cons c0 cs =>
      refine iteT ⟨_, rfl, a, _, rfl, .inl (Same.lst e0 hs), fun c nc => ?_⟩
      exact fin _ c (c0 :: cs) ((Same.upd e0 nc)) (Kp.none (S := []) (Same.kp e0) nc (by simp)) upd_same hz (by simp)
/-! ### _law_of -/
theorem scLawOf : FnScope ["state", "some"] ["state", "some"] (defScope sLawOf) := ⟨rfl, rfl, rfl, by decide +kernel, rfl, by decide +kernel, by decide +kernel⟩
/-- behind a draw or several: more draws are done, all but the state is as it was -/
def DrEnd (d cl lf : Addr) (n a c : Nat) (H H' : Hp) : Prop := Kp [d, lf] H H' ∧ ∃ a', a' ≤ a + c ∧ StAt H' d cl lf n a'
theorem DrEnd.trans {d cl lf : Addr} {n a a1 c1 c2 : Nat} {H H1 H2 : Hp} (k : Kp [d, lf] H H1) (h : a1 ≤ a + c1) (e : DrEnd d cl lf n a1 c2 H1 H2) : DrEnd d cl lf n a (c1 + c2) H H2 := by
  obtain ⟨k2, a2, h2, s2⟩ := e
  exact ⟨k.trans k2, a2, by omega, s2⟩
def spOf : Sp := fun vs H Q _ => ∃ (d cl lf : Addr) (n a : Nat) (v : V), vs = [.ref d, v] ∧ StAt H d cl lf n a ∧ a ≤ 1000000 ∧
  ((∃ (p : Addr) (zs : List Str), v = .ref p ∧ H p = some (.lst (vstrs zs)) ∧ p ≠ lf ∧ 1 ≤ zs.length ∧ zs.length ≤ 1000 ∧ ∀ z ∈ zs, ∀ H', DrEnd d cl lf n a 1 H H' → Q (.str z) H') ∨
    ∃ y : Str, v = .str y ∧ 1 ≤ y.length ∧ y.length ≤ 1000 ∧ ∀ c ∈ cpl y, ∀ H', DrEnd d cl lf n a 1 H H' → Q (.str ⟨#[c]⟩) H')
theorem ok_of (T : Tx K mg) : Ok P w K mg base CX0 3 "_law_of" ["state", "some"] spOf := by
  have o_law_draw := ok_draw (P := P) (w := w) (base := base) T
  refine T.ok0 20 rfl T.g__law_of scLawOf (fun vs H Q E h => ?_) (fun _ _ _ _ _ _ us hl => match us, hl with | [_, _], _ => rfl) fun cdv A outer s H vs Q E hr h => ?_
  · obtain ⟨d, cl, lf, n, a, v, rfl, _⟩ := h
    rfl
  · obtain ⟨d, cl, lf, n, a, v, rfl, hst, ha, hv⟩ := h
    refine ⟨_, (pss_one (ps_ret (pe_ix (ixOr ix_list ix_str) (pv 1) (pe_k o_law_draw hr (by decide) pass0 (pa_cons (pv 0) (pa_cons (pe_callB (callOr call_len_seq call_len_str) (by rfl) T.n_len PySem.boot_len (pa_cons (pv 1) pa_nil)) pa_nil))) (fun _ _ => rfl)))), ?_⟩
    rcases hv with ⟨p, zs, rfl, hp, npl, z1, z2, hq⟩ | ⟨y, rfl, y1, y2, hq⟩
    · have lz : (vstrs zs).length = zs.length := by unfold vstrs; rw [List.length_map]
      have npd : p ≠ d := ne_of hp hst.dict (by intro z; cases z)
      refine ⟨_, rfl, _, rfl, _, rfl, .inl ⟨p, _, rfl, .inl (.inl (.inl hp)), d, cl, lf, n, a, _, rfl, by rw [lz]; omega, by rw [lz]; omega, hst, ha, fun k H1 k0 k1 kp st => ?_⟩⟩
      rw [lz] at k1
      obtain ⟨j, rfl⟩ := Int.eq_ofNat_of_zero_le k0
      have hj : j < zs.length := by omega
      have gz : zs[j]? = some zs[j] := List.getElem?_eq_getElem hj
      have gv : (vstrs zs)[j]? = some (.str zs[j]) := by unfold vstrs; rw [List.getElem?_map, gz]; rfl
      exact .inl ⟨p, _, _, _, rfl, rfl, .inl (.inl (kp _ _ (by simp [npd, npl]) hp)), atI_nat gv, hq _ (List.getElem_mem hj) H1 ⟨kp, _, Nat.le_refl _, st⟩⟩
    · refine ⟨_, rfl, _, rfl, _, rfl, .inr ⟨y, rfl, by rw [sizeLine_eq]; omega, d, cl, lf, n, a, _, rfl, by omega, by omega, hst, ha, fun k H1 k0 k1 kp st => ?_⟩⟩
      obtain ⟨j, rfl⟩ := Int.eq_ofNat_of_zero_le k0
      have hj : j < (cpl y).length := by rw [cpl_len]; omega
      have gz : (cpl y)[j]? = some (cpl y)[j] := List.getElem?_eq_getElem hj
      exact .inr ⟨y, _, _, rfl, rfl, by rw [sizeLine_eq]; omega, atI_nat gz, hq _ (List.getElem_mem hj) H1 ⟨kp, _, Nat.le_refl _, st⟩⟩
/-! ### _law_where -/
theorem scLawWhere : FnScope ["state", "way"] ["state"] (defScope sLawWhere) := ⟨rfl, rfl, rfl, by decide +kernel, rfl, by decide +kernel, by decide +kernel⟩
/-- a where that the law draws -/
def whFine : Wh → Prop
  | .lost => True
  | .inn z => ∃ c ∈ cpl "pqrsxy", z = ⟨#[c]⟩
  | .wrd n => -64 ≤ n ∧ n ≤ 0
def spLWhere (K : PySem.W.Frag) : Sp := fun vs H Q _ => ∃ (d cl lf : Addr) (n a : Nat), vs = [.ref d] ∧ StAt H d cl lf n a ∧ a ≤ 900000 ∧ ∀ (x : Wh) (p : Addr) H', whFine x → SqT K H' p (whV x) → DrEnd d cl lf n a 3 H H' → Q (.ref p) H'
theorem ok_lwhere (T : Tx K mg) : Ok P w K mg base CX0 4 "_law_where" ["state"] (spLWhere K) := by
  have o_law_draw := ok_draw (P := P) (w := w) (base := base) T
  have o_law_of := ok_of (P := P) (w := w) (base := base) T
  refine T.ok0 22 rfl T.g__law_where scLawWhere (fun vs H Q E h => ?_) (fun _ _ _ _ _ _ us hl => match us, hl with | [_], _ => rfl) fun cdv A outer s H vs Q E hr h => ?_
  · obtain ⟨d, cl, lf, n, a, rfl, _⟩ := h
    rfl
  · obtain ⟨d, cl, lf, n, a, rfl, hst, ha, hq⟩ := h
    refine ⟨_, (pss_cons (ps_set (i := 1) scLawWhere.nd rfl (Or.inl rfl) (pe_k o_law_draw hr (by decide) pass0 (pa_cons (pv 0) (pa_cons pe_int pa_nil))))
      (pss_cons (ps_if (pt_cmpR op_lt (pv 1) pe_int (nomark _)) (pss_one (ps_ret (pe_tup (pa_cons pe_str (pa_cons (pe_ix ix_list (pe_lst (pa_cons (pe_op op_sub pe_int (pe_k o_law_draw hr (by decide) pass0 (pa_cons (pv 0) (pa_cons pe_int pa_nil)))) (pa_cons (pe_op op_sub pe_int (pe_k o_law_draw hr (by decide) pass0 (pa_cons (pv 0) (pa_cons pe_int pa_nil)))) pa_nil))) (pv 1) (fun _ _ => rfl)) pa_nil))))) pss_nil)
      (pss_one (ps_ret (pe_ifExp (pt_cmpR op_eq (pv 1) pe_int (nomark _)) (pe_tup (pa_cons pe_str pa_nil)) (pe_tup (pa_cons pe_str (pa_cons (pe_k o_law_of hr (by decide) pass0 (pa_cons (pv 0) (pa_cons pe_str pa_nil))) pa_nil)))))))), ?_⟩
    refine ⟨_, rfl, d, cl, lf, n, a, _, rfl, by omega, by omega, hst, by omega, fun k H1 k0 k1 kp st => ?_⟩
    dsimp only [gName]
    by_cases h2 : k < 2
    · refine sq_t (fun Q' hQ => ⟨_, rfl, _, _, rfl, rfl, _, rfl, ?_⟩) ?_
      · rw [decide_eq_true h2]
        exact hQ
      · refine ⟨_, rfl, d, cl, lf, n, a + 1, _, rfl, by omega, by omega, st, by omega, fun r1 H2 r0 r2 kp2 st2 => ⟨_, _, rfl, rfl, ?_⟩⟩
        refine ⟨_, rfl, d, cl, lf, n, a + 2, _, rfl, by omega, by omega, st2, by omega, fun r3 H3 r4 r5 kp3 st3 => ⟨_, _, rfl, rfl, ?_⟩⟩
        have fin : ∀ (v : Int) (p q : Addr) (H4 : Hp), H3 p = none → H4 = upd H3 p (.lst [.int (0 - r1), .int (0 - r3)]) → H4 q = none → -64 ≤ v → v ≤ 0 → Q (.ref q) (upd H4 q (.tup [.str "word", .int v])) := fun v p q H4 np e4 nq v0 v1 => by
          have kq : Kp [d, lf] H (upd H4 q (.tup [.str "word", .int v])) := by
            rw [e4] at nq ⊢
            exact ((kp.trans kp2).trans kp3).trans (Same.kp (Same.upd (Same.upd (Same.refl _) np) nq))
          have eq : Same H3 (upd H4 q (.tup [.str "word", .int v])) := by
            rw [e4] at nq ⊢
            exact Same.upd (Same.upd (Same.refl _) np) nq
          exact hq (.wrd v) q _ ⟨v0, v1⟩ (.inl (.inl upd_same)) ⟨kq, a + 3, Nat.le_refl _, st3.same eq⟩
        refine ⟨(by decide : 2 ≤ sizeLine), fun p np => ⟨_, rfl, p, _, k, .int (if k = 0 then 0 - r1 else 0 - r3), rfl, rfl, .inl (.inl upd_same), ?_, (by decide : 2 ≤ sizeLine), fun q nq => ?_⟩⟩
        · obtain rfl | rfl : k = 0 ∨ k = 1 := by omega
          · exact atI_nat (j := 0) rfl
          · exact atI_nat (j := 1) rfl
        · exact fin _ p q _ np rfl nq (by split <;> omega) (by split <;> omega)
    · refine sq_f (fun Q' hQ => ⟨_, rfl, _, _, rfl, rfl, _, rfl, ?_⟩) ?_
      · rw [decide_eq_false h2]
        exact hQ
      · refine ⟨_, rfl, rfl, _, rfl, iteTest (fun c => ?_) fun c => ?_⟩
        · refine ⟨(by decide : 1 ≤ sizeLine), fun q nq => ?_⟩
          have e := Same.upd (o := .tup [.str "lost"]) (Same.refl H1) nq
          exact hq .lost q _ True.intro (.inl (.inl upd_same)) ⟨kp.trans (Same.kp e), a + 1, by omega, st.same e⟩
        · refine ⟨_, rfl, d, cl, lf, n, a + 1, _, rfl, st, by omega, .inr ⟨"pqrsxy", rfl, by decide +kernel, by decide +kernel, fun c hc H2 hE => ⟨(by decide : 2 ≤ sizeLine), fun q nq => ?_⟩⟩⟩
          obtain ⟨k2, a', h', st'⟩ := hE
          have e := Same.upd (o := .tup [.str "in", .str ⟨#[c]⟩]) (Same.refl H2) nq
          exact hq (.inn ⟨#[c]⟩) q _ ⟨c, hc, rfl⟩ (.inl (.inl upd_same)) ⟨(kp.trans k2).trans (Same.kp e), a', by omega, st'.same e⟩
end
end K39
set_option Elab.async false
set_option linter.all false
set_option maxRecDepth 100000
set_option maxHeartbeats 4000000
namespace K39
open PySem PySem.Spec PyProof.Rows L2
def fndFine : Fnd → Prop
  | none => True
  | some (b, n) => b ∈ (["sp", "sp", "p", "q", "y"] : List Str) ∧ -64 ≤ n ∧ n ≤ 192
/-- a tuple is none of the state's objects -/
theorem SqT.kpS {K : PySem.W.Frag} {H H' : Hp} {d cl lf : Addr} {n a : Nat} {p : Addr} {xs : List V} (k : Kp [d, lf] H H') (st : StAt H d cl lf n a) (h : SqT K H p xs) : SqT K H' p xs := by
  obtain ⟨ls, l1, _⟩ := st.lefts
  rcases h with (h | ⟨o, h⟩) | h
  · have n1 : p ≠ d := ne_of h st.dict (by intro z; cases z)
    have n2 : p ≠ lf := ne_of h l1 (by intro z; cases z)
    exact .inl (.inl (k _ _ (by simp [n1, n2]) h))
  · have n1 : p ≠ d := ne_of h st.dict (by intro z; cases z)
    have n2 : p ≠ lf := ne_of h l1 (by intro z; cases z)
    exact .inl (.inr ⟨o, k _ _ (by simp [n1, n2]) h⟩)
  · exact .inr h
/-- a statement, and what stands behind it -/
theorem seqJ {t r : TS} {D : Ends} {σ : L2.St} {H : Hp} (R : L2.St → Hp → Prop) (h : ∀ K' : L2.St → Hp → Prop, (∀ σ' H', R σ' H' → K' σ' H') → t { D with nx := K' } σ H) (hr : ∀ σ' H', R σ' H' → r D σ' H') : tSeq t r D σ H := h (r D) hr
section
variable {P : Program} {w : World} {K : PySem.W.Frag} {mg : Str → Option Value} {base : Heap}
theorem scLawDrawnRule : FnScope ["state", "finding", "places", "k", "one"] ["state"] (defScope sLawDrawnRule) := ⟨rfl, rfl, rfl, by decide +kernel, rfl, by decide +kernel, by decide +kernel⟩
def spLRule (K : PySem.W.Frag) : Sp := fun vs H Q _ => ∃ (d cl lf : Addr) (n a : Nat), vs = [.ref d] ∧ StAt H d cl lf n a ∧ a ≤ 800000 ∧ ∀ (fv : V) (fd : Fnd) (tw : Addr) (ps : List Addr) (ws : List Wh) (p : Addr) H', SqT K H' p [fv, .ref tw] → FndAt K H' fv fd → fndFine fd →
  SqT K H' tw (ps.map V.ref) → WsAt K H' ps ws → ws.length = 5 → (∀ x ∈ ws, whFine x) → DrEnd d cl lf n a 20 H H' → Q (.ref p) H'
theorem ok_lrule (T : Tx K mg) : Ok P w K mg base CX0 5 "_law_drawn_rule" ["state"] (spLRule K) := by
  have o_law_draw := ok_draw (P := P) (w := w) (base := base) T
  have o_law_of := ok_of (P := P) (w := w) (base := base) T
  have o_law_where := ok_lwhere (P := P) (w := w) (base := base) T
  refine T.ok0 23 rfl T.g__law_drawn_rule scLawDrawnRule (fun vs H Q E h => ?_) (fun _ _ _ _ _ _ us hl => match us, hl with | [_], _ => rfl) fun cdv A outer s H vs Q E hr h => ?_
  · obtain ⟨d, cl, lf, n, a, rfl, _⟩ := h
    rfl
  · obtain ⟨d, cl, lf, n, a, rfl, hst, ha, hq⟩ := h
    refine ⟨_, (pss_cons (ps_set (i := 1) scLawDrawnRule.nd rfl (Or.inl rfl) (pe_tup (pa_cons (pe_k o_law_of hr (by decide) pass0 (pa_cons (pv 0) (pa_cons (pe_lst (pa_cons pe_str (pa_cons pe_str (pa_cons pe_str (pa_cons pe_str (pa_cons pe_str pa_nil)))))) pa_nil))) (pa_cons (pe_op op_sub (pe_k o_law_draw hr (by decide) pass0 (pa_cons (pv 0) (pa_cons pe_int pa_nil))) pe_int) pa_nil))))
      (pss_cons (ps_if (pt_cmpR op_gt (pe_k o_law_draw hr (by decide) pass0 (pa_cons (pv 0) (pa_cons pe_int pa_nil))) pe_int (nomark _)) (pss_one (ps_set (i := 1) scLawDrawnRule.nd rfl (Or.inl rfl) (pe_tup (pa_cons (pe_ix (ixT (K := K)) (pv 1) pe_int (fun _ _ => rfl)) (pa_cons (pe_k o_law_draw hr (by decide) pass0 (pa_cons (pv 0) (pa_cons pe_int pa_nil))) pa_nil))))) pss_nil)
      (pss_cons (ps_set (i := 2) scLawDrawnRule.nd rfl (Or.inl rfl) (pe_callTy call_tuple_of (by rfl) T.n_tuple PyProof.Rows.boot_tuple (pa_cons (pe_lc (own := [("k", 3)]) rfl scLawDrawnRule.nd (pi_range1 rfl T.n_range (pa_cons pe_int pa_nil)) (blkOk_by (N := ["state", "finding", "places", "k", "one"]) (sc := defScope sLawDrawnRule) (by decide +kernel)) (fun _ _ _ _ _ => (pg_name (i := 3) scLawDrawnRule.nd rfl (Or.inl rfl))) (fun _ _ _ _ _ => pts_nil) (fun _ _ _ _ _ => (pe_k o_law_where hr (by decide) pass0 (pa_cons (pv 0) pa_nil)))) pa_nil)))
      (pss_cons (ps_if (pt_cmpR op_gt (pe_k o_law_draw hr (by decide) pass0 (pa_cons (pv 0) (pa_cons pe_int pa_nil))) pe_int (nomark _)) (pss_one (ps_ret (pe_tup (pa_cons (pv 1) (pa_cons (pv 2) pa_nil))))) pss_nil)
      (pss_one (ps_ret (pe_tup (pa_cons pe_non (pa_cons (pe_callTy call_tuple_of (by rfl) T.n_tuple PyProof.Rows.boot_tuple (pa_cons (pe_lc (own := [("one", 4)]) rfl scLawDrawnRule.nd (pi_tup (pv 2)) (blkOk_by (N := ["state", "finding", "places", "k", "one"]) (sc := defScope sLawDrawnRule) (by decide +kernel)) (fun _ _ _ _ _ => (pg_name (i := 4) scLawDrawnRule.nd rfl (Or.inl rfl))) (fun _ _ _ _ _ => pts_nil) (fun _ _ _ _ _ => (pe_ifExp (pt_cmpR op_ne (pe_ix (ixT (K := K)) (pv 4) pe_int (fun _ _ => rfl)) pe_str (nomark _)) (pv 4) (pe_tup (pa_cons pe_str pa_nil))))) pa_nil)) pa_nil))))))))), ?_⟩
    refine ⟨_, rfl, (by decide : 5 ≤ sizeLine), fun p np => ?_⟩
    have e0 := Same.upd (o := .lst (vstrs ["sp", "sp", "p", "q", "y"])) (Same.refl H) np
    have npl : p ≠ lf := by
      obtain ⟨ls, l1, _⟩ := hst.lefts
      exact Ne.symm (ne_of_none l1 np)
    refine ⟨d, cl, lf, n, a, _, rfl, hst.same e0, by omega, .inl ⟨p, ["sp", "sp", "p", "q", "y"], rfl, upd_same, npl, by decide, by decide, fun z hz H1 hE => ?_⟩⟩
    obtain ⟨k1, a1, h1, st1⟩ := hE
    refine ⟨_, rfl, d, cl, lf, n, a1, _, rfl, by omega, by omega, st1, by omega, fun r2 H2 r20 r21 k2 st2 => ⟨_, _, rfl, rfl, (by decide : 2 ≤ sizeLine), fun q nq => ?_⟩⟩
    have eq := Same.upd (o := .tup [.str z, .int (r2 - 64)]) (Same.refl H2) nq
    have k02 : Kp [d, lf] H H2 := ((Same.kp e0).trans k1).trans k2
    dsimp only [gName]
    refine seqJ (fun σ' H' => ∃ (q : Addr) (v : Int) (a' : Nat), σ' = [some (.ref d), some (.ref q), none, none, none] ∧ Kp [d, lf] H H' ∧ StAt H' d cl lf n a' ∧ a' ≤ a + 4 ∧ SqT K H' q [.str z, .int v] ∧ -64 ≤ v ∧ v ≤ 192) (fun K' hK => ?_) (fun σ' H' hR => ?_)
    · refine ⟨_, rfl, d, cl, lf, n, a1 + 1, _, rfl, by omega, by omega, st2.same eq, by omega, fun r3 H3 r30 r31 k3 st3 => ⟨_, _, rfl, rfl, _, rfl, iteTest (fun c => ?_) fun c => ?_⟩⟩
      · have sq : SqT K H3 q [.str z, .int (r2 - 64)] := by
          have nqd : q ≠ d := Ne.symm (ne_of_none st2.dict nq)
          have nql : q ≠ lf := by
            obtain ⟨ls, l1, _⟩ := st2.lefts
            exact Ne.symm (ne_of_none l1 nq)
          exact .inl (.inl (k3 _ _ (by simp [nqd, nql]) upd_same))
        refine ⟨_, rfl, q, _, _, _, rfl, rfl, sq, atI_nat (j := 0) rfl, _, rfl, d, cl, lf, n, a1 + 2, _, rfl, by omega, by omega, st3, by omega, fun r4 H4 r40 r41 k4 st4 => ⟨(by decide : 2 ≤ sizeLine), fun q2 nq2 => ?_⟩⟩
        have e5 := Same.upd (o := .tup [.str z, .int r4]) (Same.refl H4) nq2
        exact hK _ _ ⟨q2, r4, a1 + 3, rfl, (((k02.trans (Same.kp eq)).trans k3).trans k4).trans (Same.kp e5), st4.same e5, by omega, .inl (.inl upd_same), by omega, by omega⟩
      · have sq : SqT K H3 q [.str z, .int (r2 - 64)] := by
          have nqd : q ≠ d := Ne.symm (ne_of_none st2.dict nq)
          have nql : q ≠ lf := by
            obtain ⟨ls, l1, _⟩ := st2.lefts
            exact Ne.symm (ne_of_none l1 nq)
          exact .inl (.inl (k3 _ _ (by simp [nqd, nql]) upd_same))
        exact hK _ _ ⟨q, r2 - 64, a1 + 2, rfl, (k02.trans (Same.kp eq)).trans k3, st3, by omega, sq, by omega, by omega⟩
    · obtain ⟨q, v, a3, rfl, k3, st3, ha3, hsq, v0, v1⟩ := hR
      refine ⟨_, rfl, by decide, by decide, fun D nD => ?_⟩
      have nDd : D ≠ d := Ne.symm (ne_of_none st3.dict nD)
      have nDc : D ≠ cl := by
        obtain ⟨cs, c1, _⟩ := st3.cells
        exact Ne.symm (ne_of_none c1 nD)
      have nDl : D ≠ lf := by
        obtain ⟨ls, l1, _⟩ := st3.lefts
        exact Ne.symm (ne_of_none l1 nD)
      have stU : ∀ {H4 : Hp} {a' : Nat} {o : HO}, StAt H4 d cl lf n a' → StAt (upd H4 D o) d cl lf n a' := fun {H4 a' o} h => by
        obtain ⟨cs, c1, c2⟩ := h.cells
        obtain ⟨ls, l1, l2⟩ := h.lefts
        exact ⟨by rw [upd_ne (Ne.symm nDd)]; exact h.dict, ⟨cs, by rw [upd_ne (Ne.symm nDc)]; exact c1, c2⟩, ⟨ls, by rw [upd_ne (Ne.symm nDl)]; exact l1, l2⟩, h.pos, h.apart⟩
      refine lc_rangeJ (S := [d, lf]) (fun i acc H4 => ∃ (ps : List Addr) (ws : List Wh) (a' : Nat), acc = ps.map V.ref ∧ WsAt K H4 ps ws ∧ ws.length = i ∧ (∀ x ∈ ws, whFine x) ∧ StAt H4 d cl lf n a' ∧ a' ≤ a + 4 + 3 * i) (by decide) nD (by simp [nDd, nDl])
        (fun i acc H4 l zs hD j => ?_) ⟨[], [], a3, rfl, ⟨rfl, fun i p x h1 => by simp at h1⟩, rfl, by simp, stU st3, by omega⟩ (fun i hi acc H4 Q4 N kk hD j hy hn => ?_) fun ys H4 kk hD j => ?_
      · obtain ⟨ps, ws, a', h1, h2, h3, h4, h5, h6⟩ := j
        exact ⟨ps, ws, a', h1, ⟨h2.1, fun i p x g1 g2 => SqT.updL hD (h2.2 i p x g1 g2)⟩, h3, h4, stU h5, h6⟩
      · obtain ⟨ps, ws, a', rfl, h2, h3, h4, h5, h6⟩ := j
        refine lc_yes rfl ⟨_, rfl, d, cl, lf, n, a', rfl, h5, by have : i < 5 := hi; omega, fun x p H5 hx hp hE => ?_⟩
        obtain ⟨k5, a5, h7, st5⟩ := hE
        refine hy _ _ k5 ⟨ps ++ [p], ws ++ [x], a5, by rw [List.map_append]; rfl, ?_, by rw [List.length_append, h3]; rfl, ?_, st5, by omega⟩
        · refine ⟨by rw [List.length_append, List.length_append, h2.1]; rfl, fun j p' x' g1 g2 => ?_⟩
          rcases get_snoc g1 with g1 | ⟨ej, ep⟩
          · have lj : j < ws.length := by
              rw [← h2.1]
              exact (List.getElem?_eq_some_iff.mp g1).1
            rw [List.getElem?_append_left lj] at g2
            exact SqT.kpS k5 h5 (h2.2 j p' x' g1 g2)
          · subst ep
            rw [ej, h2.1, List.getElem?_append_right (Nat.le_refl _), Nat.sub_self] at g2
            cases g2
            exact hp
        · intro x' hx'
          rcases List.mem_append.mp hx' with h | h
          · exact h4 x' h
          · rw [List.mem_singleton.mp h]
            exact hx
      · obtain ⟨ps, ws, a4, rfl, hW, h5, hF, st4, ha4⟩ := j
        have hW : WsAt K H4 ps ws := hW
        have h5 : ws.length = 5 := h5
        have ha4 : a4 ≤ a + 19 := by omega
        have k4 : Kp [d, lf] H H4 := k3.trans kk
        have sq4 : SqT K H4 q [.str z, .int v] := SqT.kpS kk st3 hsq
        refine ⟨D, _, rfl, .inl ⟨.inl (.inl hD), fun l nl => ?_⟩⟩
        have el := Same.upd (o := .tup (ps.map V.ref)) (Same.refl H4) nl
        have sl : SqT K (upd H4 l (.tup (ps.map V.ref))) l (ps.map V.ref) := .inl (.inl upd_same)
        refine ⟨_, rfl, d, cl, lf, n, a4, _, rfl, by omega, by omega, st4.same el, by omega, fun r5 H5 r50 r51 k5 st5 => ⟨_, _, rfl, rfl, _, rfl, iteTest (fun c => ?_) fun c => ?_⟩⟩
        · -- (finding, places)
          have kp2 : ∀ {p : Addr} {xs : List V}, SqT K H4 p xs → SqT K H5 p xs := fun h => SqT.kpS k5 (st4.same el) (Same.tup el h)
          refine ⟨_, rfl, _, rfl, (by decide : 2 ≤ sizeLine), fun r nr => ?_⟩
          have er := Same.upd (o := .tup [.ref q, .ref l]) (Same.refl H5) nr
          refine hq (.ref q) (some (z, v)) l ps ws r _ (.inl (.inl upd_same)) ⟨q, rfl, Same.tup er (kp2 sq4)⟩ ⟨hz, v0, v1⟩ (Same.tup er (SqT.kpS k5 (st4.same el) sl)) ⟨hW.1, fun i p x g1 g2 => Same.tup er (kp2 (hW.2 i p x g1 g2))⟩ h5 hF ⟨((k4.trans (Same.kp el)).trans k5).trans (Same.kp er), a4 + 1, by omega, st5.same er⟩
        · -- (None, ..)
          have kp2 : ∀ {p : Addr} {xs : List V}, SqT K H4 p xs → SqT K H5 p xs := fun h => SqT.kpS k5 (st4.same el) (Same.tup el h)
          have sl5 := SqT.kpS k5 (st4.same el) sl
          refine ⟨_, rfl, _, rfl, ⟨_, sl5⟩, fun D2 nD2 => ?_⟩
          have p5 : (ps.map V.ref).length = 5 := by rw [List.length_map, hW.1, h5]
          refine lc_tupJ (S := []) (fun i acc H6 => ∃ (ps2 : List Addr) (ws2 : List Wh), acc = ps2.map V.ref ∧ WsAt K H6 ps2 ws2 ∧ ws2.length = i ∧ ∀ x ∈ ws2, whFine x) sl5 (fun H6 k => Same.tup k.same sl5) (by rw [p5]; decide) nD2 (by simp) (fun i acc H6 l2 zs2 hD2 j => ?_) ⟨[], [], rfl, ⟨rfl, fun i p x h1 => by simp at h1⟩, rfl, by simp⟩
            (fun i x hx acc H6 Q6 N k6 hD6 j hy hn => ?_) fun ys H6 k6 hD6 j => ?_
          · obtain ⟨ps2, ws2, g1, g2, g3, g4⟩ := j
            exact ⟨ps2, ws2, g1, ⟨g2.1, fun i p x q1 q2 => SqT.updL hD2 (g2.2 i p x q1 q2)⟩, g3, g4⟩
          · obtain ⟨p, hp, rfl⟩ := map_get hx
            obtain ⟨x, hx2⟩ := get_len hW.1 hp
            obtain ⟨ps2, ws2, rfl, g2, g3, g4⟩ := j
            have sp := Same.tup k6.same (kp2 (hW.2 i p x hp hx2))
            have grow : ∀ (p' : Addr) (x' : Wh) (H7 : Hp), Same H6 H7 → SqT K H7 p' (whV x') → whFine x' → ∃ (ps3 : List Addr) (ws3 : List Wh), ps2.map V.ref ++ [.ref p'] = ps3.map V.ref ∧ WsAt K H7 ps3 ws3 ∧ ws3.length = i + 1 ∧ ∀ y ∈ ws3, whFine y := fun p' x' H7 e7 hp' hf' => by
              refine ⟨ps2 ++ [p'], ws2 ++ [x'], by rw [List.map_append]; rfl, ⟨by rw [List.length_append, List.length_append, g2.1]; rfl, fun j p3 x3 q1 q2 => ?_⟩, by rw [List.length_append, g3]; rfl, fun y hy' => ?_⟩
              · rcases get_snoc q1 with q1 | ⟨ej, ep⟩
                · have lj : j < ws2.length := by
                    rw [← g2.1]
                    exact (List.getElem?_eq_some_iff.mp q1).1
                  rw [List.getElem?_append_left lj] at q2
                  exact Same.tup e7 (g2.2 j p3 x3 q1 q2)
                · subst ep
                  rw [ej, g2.1, List.getElem?_append_right (Nat.le_refl _), Nat.sub_self] at q2
                  cases q2
                  exact hp'
              · rcases List.mem_append.mp hy' with h | h
                · exact g4 y h
                · rw [List.mem_singleton.mp h]
                  exact hf'
            have hfx : whFine x := hF x (List.mem_of_getElem? hx2)
            have go : ∀ s0 : Str, (∃ l, whV x = .str s0 :: l) → (!decide (V.str s0 = V.str "word")) = !isWrd x → tIf (tTest (tOp rNe (tOp (rIxT K) (tVar 4) (tC (.int 0))) (tC (.str "word")))) (tVar 4) (tTup (tCons (tC (.str "lost")) tNil)) [some (.ref d), some (.ref q), some (.ref l), none, some (.ref p)] H6 Q6 := by
              rintro s0 ⟨l0, el0⟩ ez
              have sp2 := sp
              rw [el0] at sp2
              refine ⟨_, rfl, p, _, _, _, rfl, rfl, sp2, atI_nat (j := 0) rfl, rfl, _, rfl, ?_⟩
              rw [ez]
              refine iteTest (fun c => ?_) fun c => ?_
              · exact ⟨_, rfl, hy _ _ (Kp.refl _ _) (grow p x H6 (Same.refl _) sp hfx)⟩
              · refine ⟨(by decide : 1 ≤ sizeLine), fun p7 n7 => ?_⟩
                have e7 := Same.upd (o := .tup [.str "lost"]) (Same.refl H6) n7
                exact hy _ _ (Same.kp e7) (grow p7 .lost _ e7 (.inl (.inl upd_same)) True.intro)
            cases x with
            | lost => exact lc_yes rfl (go "lost" ⟨_, rfl⟩ rfl)
            | inn z => exact lc_yes rfl (go "in" ⟨_, rfl⟩ rfl)
            | wrd n => exact lc_yes rfl (go "word" ⟨_, rfl⟩ rfl)
          · obtain ⟨ps2, ws2, rfl, g2, g3, g4⟩ := j
            refine ⟨D2, _, rfl, .inl ⟨.inl (.inl hD6), fun l2 nl2 => ⟨(by decide : 2 ≤ sizeLine), fun r nr => ?_⟩⟩⟩
            have e7 := Same.upd (o := .tup (ps2.map V.ref)) (Same.refl H6) nl2
            have e8 := Same.upd (o := .tup [.non, .ref l2]) (Same.refl _) nr
            refine hq .non none l2 ps2 ws2 r _ (.inl (.inl upd_same)) rfl True.intro (Same.tup e8 (.inl (.inl upd_same))) (g2.same (e7.trans e8)) (by rw [g3, p5]) g4
              ⟨(((k4.trans (Same.kp el)).trans k5).trans (Kp.mono k6 (by simp))).trans (Same.kp (e7.trans e8)), a4 + 1, by omega, st5.same ((k6.same).trans (e7.trans e8))⟩
end
end K39
set_option Elab.async false
set_option linter.all false
set_option maxRecDepth 100000
set_option maxHeartbeats 4000000
namespace K39
open PySem PySem.Spec PyProof.Rows L2
theorem catT {X : Cx} {K : PySem.W.Frag} (h : X.K = K := by rfl) : OpR X (binaryOp .Add) (rCatT K) := by
  subst h
  exact op_catT
theorem RowAt.kpS {K : PySem.W.Frag} {H H' : Hp} {d cl lf : Addr} {n a : Nat} {p : Addr} {r : Row} (k : Kp [d, lf] H H') (st : StAt H d cl lf n a) (h : RowAt K H p r) : RowAt K H' p r := by
  obtain ⟨fv, tw, ps, h1, h2, h3, h4, h5⟩ := h
  refine ⟨fv, tw, ps, SqT.kpS k st h1, ?_, SqT.kpS k st h3, ⟨h4.1, fun i p x g1 g2 => SqT.kpS k st (h4.2 i p x g1 g2)⟩, h5⟩
  cases hf : r.fnd with
  | none =>
    rw [hf] at h2
    exact h2
  | some q =>
    rw [hf] at h2
    obtain ⟨b, q1, q2⟩ := h2
    exact ⟨b, q1, SqT.kpS k st q2⟩
def rowFine (r : Row) : Prop := 0 ≤ r.spot ∧ r.spot ≤ 1000 ∧ fndFine r.fnd ∧ ∀ x ∈ r.ws, whFine x
theorem atI_last {α : Type} {xs : List α} {x : α} (h : xs[xs.length - 1]? = some x) : atI xs (-1) = some x := by
  have hl : 0 < xs.length := by
    have := (List.getElem?_eq_some_iff.mp h).1
    omega
  unfold atI ixN
  rw [if_neg (by decide), if_pos (by omega)]
  show xs[((-1 : Int) + xs.length).toNat]? = some x
  rw [show ((-1 : Int) + xs.length).toNat = xs.length - 1 by omega]
  exact h
section
variable {P : Program} {w : World} {K : PySem.W.Frag} {mg : Str → Option Value} {base : Heap}
theorem scLawDrawnTable : FnScope ["state", "size", "most", "spots", "k", "spot"] ["state", "size", "most"] (defScope sLawDrawnTable) := ⟨rfl, rfl, rfl, by decide +kernel, rfl, by decide +kernel, by decide +kernel⟩
def spLTable (K : PySem.W.Frag) : Sp := fun vs H Q _ => ∃ (d cl lf : Addr) (n a : Nat) (most : Int), vs = [.ref d, .int 60, .int most] ∧ 1 ≤ most ∧ most ≤ 60 ∧ StAt H d cl lf n a ∧ a ≤ 700000 ∧
  ∀ (p : Addr) (as : List Addr) (rs : List Row) H', SqT K H' p (as.map V.ref) → RowsAt K H' as rs → rs ≠ [] → rs.length ≤ 60 → (∀ r ∈ rs, rowFine r) → DrEnd d cl lf n a 1300 H H' → Q (.ref p) H'
theorem ok_ltable (T : Tx K mg) : Ok P w K mg base CX0 6 "_law_drawn_table" ["state", "size", "most"] (spLTable K) := by
  have o_law_draw := ok_draw (P := P) (w := w) (base := base) T
  have o_law_drawn_rule := ok_lrule (P := P) (w := w) (base := base) T
  refine T.ok0 24 rfl T.g__law_drawn_table scLawDrawnTable (fun vs H Q E h => ?_) (fun _ _ _ _ _ _ us hl => match us, hl with | [_, _, _], _ => rfl) fun cdv A outer s H vs Q E hr h => ?_
  · obtain ⟨d, cl, lf, n, a, most, rfl, _⟩ := h
    rfl
  · obtain ⟨d, cl, lf, n, a, most, rfl, m1, m2, hst, ha, hq⟩ := h
    refine ⟨_, (pss_cons (ps_set (i := 3) scLawDrawnTable.nd rfl (Or.inl rfl) (pe_lst (pa_cons pe_int pa_nil)))
      (pss_cons (ps_for PassesOwn.never rfl (pi_range1 rfl T.n_range (pa_cons (pe_k o_law_draw hr (by decide) pass0 (pa_cons (pv 0) (pa_cons (pv 2) pa_nil))) pa_nil)) (pg_name (i := 4) scLawDrawnTable.nd rfl (Or.inl rfl)) (pss_one (ps_expr (pe_bm PySem.F.plainAttrs_list PySem.F.slot_list_append PySem.F.type_list_append mt_append (pv 3) (pa_cons (pe_op op_add (pe_op op_add (pe_ix ix_list (pv 3) (pe_un un_neg pe_int) (fun _ _ => rfl)) pe_int) (pe_k o_law_draw hr (by decide) pass0 (pa_cons (pv 0) (pa_cons pe_int pa_nil)))) pa_nil)))))
      (pss_one (ps_ret (pe_callTy call_tuple_of (by rfl) T.n_tuple PyProof.Rows.boot_tuple (pa_cons (pe_lc (own := [("spot", 5)]) rfl scLawDrawnTable.nd (pi_list (pv 3)) (blkOk_by (N := ["state", "size", "most", "spots", "k", "spot"]) (sc := defScope sLawDrawnTable) (by decide +kernel)) (fun _ _ _ _ _ => (pg_name (i := 5) scLawDrawnTable.nd rfl (Or.inl rfl))) (fun _ _ _ _ _ => (pts_one (pt_cmpR op_lt (pv 5) (pv 1) (nomark _)))) (fun _ _ _ _ _ => (pe_op (catT (K := K)) (pe_tup (pa_cons (pv 5) pa_nil)) (pe_k o_law_drawn_rule hr (by decide) pass0 (pa_cons (pv 0) pa_nil))))) pa_nil)))))), ?_⟩
    refine ⟨(by decide : 1 ≤ sizeLine), fun D nD => ?_⟩
    have e0 := Same.upd (o := .lst [.int 0]) (Same.refl H) nD
    have st0 := hst.same e0
    refine ⟨_, rfl, _, rfl, d, cl, lf, n, a, most, rfl, by omega, by omega, st0, by omega, fun k H1 k0 k1 kp1 st1 => ⟨k, rfl, by omega, by omega, ?_⟩⟩
    obtain ⟨m, rfl⟩ := Int.eq_ofNat_of_zero_le k0
    have nDd : D ≠ d := Ne.symm (ne_of_none hst.dict nD)
    have nDc : D ≠ cl := by
      obtain ⟨cs, c1, _⟩ := hst.cells
      exact Ne.symm (ne_of_none c1 nD)
    have nDl : D ≠ lf := by
      obtain ⟨ls, l1, _⟩ := hst.lefts
      exact Ne.symm (ne_of_none l1 nD)
    have stU : ∀ {D H4 : _} {a' : Nat} {o : HO}, D ≠ d → D ≠ cl → D ≠ lf → StAt H4 d cl lf n a' → StAt (upd H4 D o) d cl lf n a' := fun {D H4 a' o} nDd nDc nDl h => by
      obtain ⟨cs, c1, c2⟩ := h.cells
      obtain ⟨ls, l1, l2⟩ := h.lefts
      exact ⟨by rw [upd_ne (Ne.symm nDd)]; exact h.dict, ⟨cs, by rw [upd_ne (Ne.symm nDc)]; exact c1, c2⟩, ⟨ls, by rw [upd_ne (Ne.symm nDl)]; exact l1, l2⟩, h.pos, h.apart⟩
    refine loop_n m (fun i σ H2 => ∃ (u : Option V) (cs : List Int) (a' : Nat), σ = [some (.ref d), some (.int 60), some (.int most), some (.ref D), u, none] ∧ Kp [d, lf, D] H H2 ∧ H2 D = some (.lst (vints cs)) ∧ cs.length = i + 1 ∧ cs[0]? = some 0 ∧ (∀ c ∈ cs, 0 ≤ c ∧ c ≤ 3 * (i : Int)) ∧ StAt H2 d cl lf n a' ∧ a' ≤ a + 1 + i)
      ⟨none, [0], a + 1, rfl, ?_, ?_, rfl, rfl, by simp, st1, by omega⟩ (fun σ H2 hw => ?_) fun i σ H2 hi hw => ?_
    · exact (Same.kp e0).trans (kp1.mono (by simp))
    · exact kp1 _ _ (by simp [nDd, nDl]) upd_same
    · obtain ⟨u, cs, a', rfl, k2, hD, lcs, g0, hb, st2, ha2⟩ := hw
      refine ⟨by show (m : Int).toNat ≤ m; omega, ?_⟩
      have hlv : (vints cs).length = m + 1 := by unfold vints; rw [List.length_map, lcs]
      refine ⟨_, rfl, D, rfl, ⟨_, .inl (.inl hD)⟩, fun D2 nD2 => ?_⟩
      have nd2 : D2 ≠ d := Ne.symm (ne_of_none st2.dict nD2)
      have nc2 : D2 ≠ cl := by
        obtain ⟨cs, c1, _⟩ := st2.cells
        exact Ne.symm (ne_of_none c1 nD2)
      have nl2 : D2 ≠ lf := by
        obtain ⟨ls, l1, _⟩ := st2.lefts
        exact Ne.symm (ne_of_none l1 nD2)
      refine lc_listJ (S := [d, lf]) (xs := vints cs) (fun i acc H4 => ∃ (as : List Addr) (rs : List Row) (a5 : Nat), acc = as.map V.ref ∧ RowsAt K H4 as rs ∧ rs.length ≤ i ∧ (0 < i → rs ≠ []) ∧ (∀ r ∈ rs, rowFine r) ∧ StAt H4 d cl lf n a5 ∧ a5 ≤ a + 61 + 20 * i)
        (fun H4 k4 => .inl (.inl (k4 _ _ (by simp [nDd, nDl]) hD))) (by rw [hlv, sizeLine_eq]; omega) nD2 (by simp [nd2, nl2]) (fun i acc H4 l zs hD4 j => ?_) ⟨[], [], a', rfl, ⟨rfl, fun i a r h1 => by simp at h1⟩, Nat.le_refl _, fun z => absurd z (by decide), by simp, stU nd2 nc2 nl2 st2, by omega⟩
        (fun i x hx acc H4 Q4 N k4 hD4 j hy hn => ?_) fun ys H4 k4 hD4 j => ?_
      · obtain ⟨as, rs, a5, h1, h2, h3, h4, h5, h6, h7⟩ := j
        exact ⟨as, rs, a5, h1, ⟨h2.1, fun i b r g1 g2 => (h2.2 i b r g1 g2).updL hD4⟩, h3, h4, h5, stU nd2 nc2 nl2 h6, h7⟩
      · obtain ⟨c, gc, rfl⟩ := map_get hx
        obtain ⟨as, rs, a5, rfl, h2, h3, h4, h5, h6, h7⟩ := j
        have hi : i < cs.length := (List.getElem?_eq_some_iff.mp gc).1
        obtain ⟨b0, b1⟩ := hb c (List.mem_of_getElem? gc)
        refine ⟨rfl, _, rfl, _, rfl, _, _, rfl, rfl, _, rfl, iteTest (fun hc => ?_) fun hc => ?_⟩
        · refine ⟨_, rfl, (by decide : 1 ≤ sizeLine), fun p np => ?_⟩
          have e4 := Same.upd (o := .tup [.int c]) (Same.refl H4) np
          refine ⟨_, rfl, d, cl, lf, n, a5, rfl, h6.same e4, by omega, fun fv fd tw ps ws q H5 hq5 hf5 hff ht5 hw5 hl5 hx5 hE => ?_⟩
          obtain ⟨k5, a6, h8, st6⟩ := hE
          have sp : SqT K H5 p [.int c] := SqT.kpS k5 (h6.same e4) (.inl (.inl upd_same))
          refine ⟨p, q, _, _, rfl, rfl, sp, hq5, by simp, (by decide : 1 + 2 ≤ sizeLine), fun z => by simp at z, fun _ p2 np2 => ?_⟩
          have e6 := Same.upd (o := .tup ([.int c] ++ [fv, .ref tw])) (Same.refl H5) np2
          have kAll : Kp [d, lf] H4 (upd H5 p2 (.tup ([.int c] ++ [fv, .ref tw]))) := ((Same.kp e4).trans k5).trans (Same.kp e6)
          refine hy _ _ kAll ⟨as ++ [p2], rs ++ [⟨c, fd, ws⟩], a6, by rw [List.map_append]; rfl, ⟨by rw [List.length_append, List.length_append, h2.1]; rfl, fun j b r g1 g2 => ?_⟩, by rw [List.length_append, List.length_singleton]; omega, fun _ => by simp, fun r hr' => ?_, st6.same e6, by omega⟩
          · rcases get_snoc g1 with g1 | ⟨ej, ep⟩
            · have lj : j < rs.length := by
                rw [← h2.1]
                exact (List.getElem?_eq_some_iff.mp g1).1
              rw [List.getElem?_append_left lj] at g2
              exact (RowAt.kpS k5 (h6.same e4) ((h2.2 j b r g1 g2).same e4)).same e6
            · subst ep
              rw [ej, h2.1, List.getElem?_append_right (Nat.le_refl _), Nat.sub_self] at g2
              cases g2
              exact ⟨fv, tw, ps, .inl (.inl upd_same), hf5.same e6, Same.tup e6 ht5, hw5.same e6, hl5⟩
          · rcases List.mem_append.mp hr' with h | h
            · exact h5 r h
            · rw [List.mem_singleton.mp h]
              exact ⟨b0, by show c ≤ 1000; omega, hff, hx5⟩
        · refine hn _ (Kp.refl _ _) ⟨as, rs, a5, rfl, h2, by omega, fun _ => ?_, h5, h6, by omega⟩
          by_cases h0 : i = 0
          · subst h0
            rw [g0] at gc
            cases gc
            exact absurd (of_decide_eq_false hc) (by decide)
          · exact h4 (by omega)
      · obtain ⟨as, rs, a5, rfl, h2, h3, h4, h5, h6, h7⟩ := j
        have h3 : rs.length ≤ (vints cs).length := h3
        have h4 : 0 < (vints cs).length → rs ≠ [] := h4
        have h7 : a5 ≤ a + 61 + 20 * (vints cs).length := h7
        rw [hlv] at h3 h4 h7
        refine ⟨D2, _, rfl, .inl ⟨.inl (.inl hD4), fun l nl => ?_⟩⟩
        have el := Same.upd (o := .tup (as.map V.ref)) (Same.refl H4) nl
        refine hq l as rs _ (.inl (.inl upd_same)) (h2.same el) (h4 (by omega)) (by omega) h5 ⟨?_, a5, by omega, h6.same el⟩
        have kk : Kp [d, lf] H H2 := fun b o hb hbo => k2 b o (by
          intro z
          rcases List.mem_cons.mp z with z | z
          · exact hb (by simp [z])
          · rcases List.mem_cons.mp z with z | z
            · exact hb (by simp [z])
            · rw [List.mem_singleton.mp z, nD] at hbo
              cases hbo) hbo
        exact (kk.trans k4).trans (Same.kp el)
    · obtain ⟨u, cs, a', rfl, k2, hD, lcs, g0, hb, st2, ha2⟩ := hw
      refine ⟨by show i < (m : Int).toNat; omega, fun x H3 hy => ?_⟩
      obtain ⟨rfl, rfl⟩ := hy
      have hlv : (vints cs).length = i + 1 := by unfold vints; rw [List.length_map, lcs]
      have gl : cs[i]? = some (cs[i]'(by omega)) := List.getElem?_eq_getElem (by omega)
      have gv : (vints cs)[(vints cs).length - 1]? = some (.int (cs[i]'(by omega))) := by
        rw [hlv]
        unfold vints
        rw [List.getElem?_map]
        show (cs[i]?).map V.int = _
        rw [gl]
        rfl
      have hci := hb _ (List.mem_of_getElem? gl)
      generalize cs[i]'(by omega) = c0 at gv hci
      refine ⟨_, rfl, .inl ⟨rfl, _, .inl (.inl hD)⟩, _, rfl, _, rfl, D, _, _, _, rfl, rfl, .inl (.inl hD), atI_last gv, _, _, rfl, rfl, _, rfl, d, cl, lf, n, a', _, rfl, by omega, by omega, st2, by omega, fun r H4 r0 r1 k4 st4 => ⟨_, _, rfl, rfl, ?_⟩⟩
      have hD4 := k4 _ _ (by simp [nDd, nDl]) hD
      refine ⟨D, _, _, rfl, rfl, hD4, by rw [hlv, sizeLine_eq]; omega, ?_⟩
      refine ⟨_, cs ++ [c0 + 1 + r], a' + 1, rfl, (k2.trans (k4.mono (by simp))).put (by simp), ?_, by rw [List.length_append, lcs]; rfl, by rw [List.getElem?_append_left (by omega)]; exact g0, fun c hc => ?_, stU nDd nDc nDl st4, by omega⟩
      · rw [upd_same]
        unfold vints
        rw [List.map_append]
        rfl
      · rcases List.mem_append.mp hc with h | h
        · have := hb c h
          omega
        · rw [List.mem_singleton.mp h]
          omega
end
end K39
set_option Elab.async false
set_option linter.all false
set_option maxRecDepth 100000
set_option maxHeartbeats 4000000
namespace K39
open PySem PySem.Spec PyProof.Rows L2
/-! ### x, y = e, f -/
def tSwap2 (ta : TA) (i j : Nat) : TS := fun D σ H => ta σ H fun vs H1 => ∃ a b, vs = [a, b] ∧ ∀ p, H1 p = none → D.nx ((σ.set j (some b)).set i (some a)) (upd H1 p (.tup [a, b]))
theorem ps_swap2 {X : Cx} {x y : Str} {i j k k2 : Nat} {e1 e2 : Expr} {ta : TA} {p1 p2 tpos vpos pos : Pos} (hc : X.calm = true) (hN : X.N.Nodup) (hi : X.N[i]? = some x) (hj : X.N[j]? = some y) (hx : Loc X.env.scope x) (hy : Loc X.env.scope y) (ha : PA X [e1, e2] ta)
    (hs : swapsWithSole [.Tuple [.Name x p1, .Name y p2] k tpos] (.Tuple [e1, e2] k2 vpos) pos.line X.env = pure false := by rfl) (hw : swappedStores [.Tuple [.Name x p1, .Name y p2] k tpos] (.Tuple [e1, e2] k2 vpos) X.env = pure (some [x, y]) := by rfl)
    (hfx : X.fn x = true ∨ X.env.scope.names.lookup x = some .local := by first | exact .inl rfl | exact .inr rfl | assumption) (hfy : X.fn y = true ∨ X.env.scope.names.lookup y = some .local := by first | exact .inl rfl | exact .inr rfl | assumption) :
    PS X (.Assign [.Tuple [.Name x p1, .Name y p2] k tpos] (.Tuple [e1, e2] k2 vpos) pos) (tSwap2 ta i j) := by
  refine ⟨fun pins s σ H D I h => ?_⟩
  refine Assign_Tuple_swapped (names := [x, y]) (thn ((pe_tup (pos := vpos) (x1 := k2) (pa_w ha)).run pins s σ H (fun v H2 => ∃ p a b H1, v = .ref p ∧ H1 p = none ∧ H2 = upd H1 p (.tup [a, b]) ∧ ∀ p, H1 p = none → D.nx ((σ.set j (some b)).set i (some a)) (upd H1 p (.tup [a, b]))) I ⟨_, fun vs H1 hv => ?_, h⟩) fun v s1 hh => ?_) hs hw
  · obtain ⟨a, b, rfl, q⟩ := hv
    exact ⟨(by decide : 2 ≤ sizeLine), fun p np => ⟨p, a, b, H1, rfl, np, rfl, q⟩⟩
  · obtain ⟨z, H2, I2, r2, p, a, b, H1, rfl, np, rfl, q⟩ := hh
    obtain rfl : v = Value.ref p := r2
    obtain ⟨its, rv, pl, hz⟩ := I2.tuple (show SqT X.K (upd H1 p (.tup [a, b])) p [a, b] from .inl (.inl upd_same))
    cases rv with
    | @cons _ u1 _ r1 q1 rv =>
    cases rv with
    | @cons _ u2 _ r2 q2 rv =>
    cases rv
    refine PyProof.Rows.unpackItems_tuple (items := #[u1, u2]) (I2.ok.hd hc) pl fun h' he => ?_
    have I3 : Inv X pins σ (upd H1 p (.tup [a, b])) { s1 with heap := h' } := I2.kept (t' := s1.toks) fun b o e => he b o (Nat.ne_of_lt (Heap.lt_size e)) e
    show wpAny _ _ (assignInOrder [bindName X.env y, bindName X.env x] [u2, u1]) _ _ _
    refine PyProof.Rows.assignInOrder_cons (wpAny_bindName (store_ok I3 hN hj hy q2 (fun s4 I4 => ?_) hfy))
    refine PyProof.Rows.assignInOrder_cons (wpAny_bindName (store_ok I4 hN hi hx q1 (fun s5 I5 => ?_) hfx))
    exact PyProof.Rows.assignInOrder_nil ⟨_, _, I5, q p np⟩
section
variable {P : Program} {w : World} {K : PySem.W.Frag} {mg : Str → Option Value} {base : Heap}
/-! ### _law_is_number -/
theorem scLawIsNumber : FnScope ["word", "digits", "is_digits", "sign"] ["word"] (defScope sLawIsNumber) := ⟨rfl, rfl, rfl, by decide +kernel, rfl, by decide +kernel, by decide +kernel⟩
/-- a word that the law may hold -/
def okW (z : Str) : Prop := z.length ≤ 1000 ∧ ∀ c ∈ cpl z, c < 1114112
theorem digsL_mem {l : List Nat} {c : Nat} (h : c ∈ digsL l) : c ∈ l := by
  unfold digsL at h
  split at h
  · exact List.mem_cons_of_mem _ h
  · exact h
theorem strOk_sign {c : Nat} (h : c < 1114112) : PyData.strOk ⟨#[c]⟩ = true := by
  simp [PyData.strOk, h]
theorem filter_nil {l : List Nat} {p : Nat → Bool} : (l.filter fun c => !p c).isEmpty = l.all p := by
  induction l with
  | nil => rfl
  | cons a l ih =>
    cases h : p a with
    | true => simp [h, ih]
    | false => simp [h]
def spLIsNum : Sp := fun vs H Q _ => ∃ z : Str, vs = [.str z] ∧ okW z ∧ ∀ H', Same H H' → Q (.bl (isNum z)) H'
theorem ok_lisnum (T : Tx K mg) : Ok P w K mg base CX0 1 "_law_is_number" ["word"] spLIsNum := by
  refine T.ok0 25 rfl T.g__law_is_number scLawIsNumber (fun vs H Q E h => ?_) (fun _ _ _ _ _ _ us hl => match us, hl with | [_], _ => rfl) fun cdv A outer s H vs Q E hr h => ?_
  · obtain ⟨z, rfl, _⟩ := h
    rfl
  · obtain ⟨z, rfl, ⟨hz, hc⟩, hq⟩ := h
    have hzs : z.length ≤ sizeLine := by rw [sizeLine_eq]; omega
    refine ⟨_, (pss_cons (ps_set (i := 1) scLawIsNumber.nd rfl (Or.inl rfl) (pe_ifExp (pt_cmpR op_eq (pe_slice sl_str (pv 0) po_none (po_some pe_int)) pe_str (nomark _)) (pe_slice sl_str (pv 0) (po_some pe_int) po_none) (pv 0)))
      (pss_cons (ps_set (i := 2) scLawIsNumber.nd rfl (Or.inl rfl) (pe_and (pe_chain op_le op_le pe_int (pe_callB call_len_str (by rfl) T.n_len PySem.boot_len (pa_cons (pv 1) pa_nil)) pe_int) (pe_one (pe_cmpR (op_eqD (un64 hr)) (pe_lc (own := [("sign", 3)]) rfl scLawIsNumber.nd (pi_str (pv 1)) (blkOk_by (N := ["word", "digits", "is_digits", "sign"]) (sc := defScope sLawIsNumber) (by decide +kernel)) (fun _ _ _ _ _ => (pg_name (i := 3) scLawIsNumber.nd rfl (Or.inl rfl))) (fun _ _ _ _ _ => (pts_one (pt_cmpR op_notIn_sign (pv 3) pe_str (by rfl)))) (fun _ _ _ _ _ => (pv 3))) (pe_lst pa_nil) (nomark _)))))
      (pss_one (ps_ret (pe_and (pv 2) (pe_one (pe_or (pe_cmpR op_ne (pe_ix ix_str (pv 1) pe_int (fun _ _ => rfl)) pe_str (nomark _)) (pe_one (pe_cmpR op_eq (pv 0) pe_str (nomark _)))))))))), ?_⟩
    refine asg_to (.str (digsT z)) (fun Q' hQ => ?_) ?_
    · refine ⟨_, rfl, _, rfl, _, rfl, hzs, rfl, _, rfl, ?_⟩
      rw [neg_dec]
      cases hn : isNegL (cpl z) with
      | true =>
        refine iteT ⟨_, rfl, _, rfl, _, rfl, hzs, ?_⟩
        rw [(digs_neg hn).1]
        exact hQ
      | false =>
        refine iteF ⟨_, rfl, ?_⟩
        rw [← digs_pos hn] at hQ
        exact hQ
    have hl : (digsT z).length = (digsL (cpl z)).length := (cpl_len _).symm
    have hle : (digsL (cpl z)).length ≤ (cpl z).length := by
      unfold digsL
      split
      · rename_i r e
        rw [e]
        simp
      · exact Nat.le_refl _
    rw [cpl_len] at hle
    have hzd : (digsT z).length ≤ sizeLine := by
      rw [hl]
      omega
    refine seqJ (fun σ' H' => σ' = [some (.str z), some (.str (digsT z)), some (.bl (decide (1 ≤ (digsL (cpl z)).length) && decide ((digsL (cpl z)).length ≤ 4) && (digsL (cpl z)).all isDig)), none] ∧ Same H H') (fun K' hK => ?_) (fun σ' H' hR => ?_)
    · refine ⟨_, rfl, _, rfl, hzd, _, _, rfl, rfl, _, rfl, iteTest (fun c1 => ?_) fun c1 => ?_⟩
      · have d1 : 1 ≤ (digsL (cpl z)).length := by
          have q := of_decide_eq_true c1
          rw [hl] at q
          omega
        refine ⟨_, _, rfl, rfl, _, rfl, iteTest (fun c2 => ?_) fun c2 => ?_⟩
        · have d2 : (digsL (cpl z)).length ≤ 4 := by
            have q := of_decide_eq_true c2
            rw [hl] at q
            omega
          refine ⟨_, rfl, _, rfl, fun D nD => ?_⟩
          refine lc_strJ (S := []) (fun i acc _ => acc = vstrs ((((digsL (cpl z)).take i).filter fun c => !isDig c).map fun c => (⟨#[c]⟩ : Str))) hzd nD (by simp) (fun _ _ _ _ _ _ j => j) rfl (fun i c hci acc H2 Q2 N k hD j hy hn => ?_) fun ys H2 k hD j => ?_
          · refine ⟨rfl, _, rfl, c, _, rfl, rfl, _, rfl, ?_⟩
            have et : (digsL (cpl z)).take (i + 1) = (digsL (cpl z)).take i ++ [c] := take_snoc hci
            cases hd : isDig c with
            | true =>
              have hd' : decide (c ∈ ("0123456789" : Str).cps.toList) = true := hd
              rw [hd']
              refine iteF (hn _ (Kp.refl _ _) ?_)
              dsimp only
              rw [et, List.filter_append, j]
              simp [hd]
            | false =>
              have hd' : decide (c ∈ ("0123456789" : Str).cps.toList) = false := hd
              rw [hd']
              refine iteT ⟨_, rfl, hy _ _ (Kp.refl _ _) ?_⟩
              dsimp only
              rw [et, List.filter_append, j]
              simp [hd, vstrs]
          · refine ⟨(by decide : 0 ≤ sizeLine), fun p np => ?_⟩
            have ep := Same.upd (o := .lst []) (Same.refl H2) np
            rw [hl, List.take_length] at j
            refine ⟨_, _, .lst (.inl (.inl (ep _ _ hD))) (by rw [j]; exact dp_strs _), .lst (.inl (.inl upd_same)) .nil, shaped_strs fun s hs => ?_, shaped_strs (cs := []) (by simp), ?_⟩
            · obtain ⟨c, hcm, rfl⟩ := List.mem_map.mp hs
              exact strOk_sign (hc c (digsL_mem (List.mem_filter.mp hcm).1))
            · show K' _ _
              refine hK _ _ ⟨?_, k.same.trans ep⟩
              rw [eqv_nil, List.isEmpty_map, List.isEmpty_map, filter_nil, decide_eq_true d1, decide_eq_true d2]
              rfl
        · have d2 : ¬ (digsL (cpl z)).length ≤ 4 := by
            have q := of_decide_eq_false c2
            rw [hl] at q
            omega
          refine hK _ _ ⟨?_, Same.refl H⟩
          rw [decide_eq_false d2, Bool.and_false, Bool.false_and]
          rfl
      · have d1 : ¬ 1 ≤ (digsL (cpl z)).length := by
          have q := of_decide_eq_false c1
          rw [hl] at q
          omega
        refine ⟨_, rfl, iteF (hK _ _ ⟨?_, Same.refl H⟩)⟩
        rw [decide_eq_false d1]
        rfl
    · obtain ⟨rfl, e1⟩ := hR
      have hqe : isNum z = ((decide (1 ≤ (digsL (cpl z)).length) && decide ((digsL (cpl z)).length ≤ 4) && (digsL (cpl z)).all isDig) && (!decide ((digsL (cpl z)).head? = some 48) || decide (cpl z = [48]))) := rfl
      rw [hqe] at hq
      cases hb : (decide (1 ≤ (digsL (cpl z)).length) && decide ((digsL (cpl z)).length ≤ 4) && (digsL (cpl z)).all isDig) with
      | false =>
        rw [hb] at hq
        exact ⟨_, rfl, _, rfl, iteF (hq _ e1)⟩
      | true =>
        have hb2 := hb
        simp only [Bool.and_eq_true, decide_eq_true_eq] at hb2
        obtain ⟨⟨d1, d2⟩, d3⟩ := hb2
        obtain ⟨c0, rest, ed⟩ : ∃ c0 rest, digsL (cpl z) = c0 :: rest := by
          cases q : digsL (cpl z) with
          | nil =>
            rw [q] at d1
            simp at d1
          | cons a l => exact ⟨a, l, rfl⟩
        have k0 : cpl "0" = [48] := by decide +kernel
        have e0 : decide (V.str ⟨#[c0]⟩ = V.str "0") = decide ((digsL (cpl z)).head? = some 48) := by
          rw [sign_eq k0, ed]
          exact decide_eq_decide.mpr ⟨fun h => by rw [h]; rfl, fun h => Option.some.inj h⟩
        have e1' : decide (V.str z = V.str "0") = decide (cpl z = [48]) := by
          rw [decS]
          exact decide_eq_decide.mpr (by rw [str_eq_iff, k0])
        rw [hb] at hq
        refine ⟨_, rfl, _, rfl, iteT ⟨_, rfl, _, _, _, rfl, rfl, hzd, atI_nat (j := 0) (by show (digsL (cpl z))[0]? = some c0; rw [ed]; rfl), rfl, _, rfl, ?_⟩⟩
        rw [e0]
        refine iteTest (fun q => ?_) fun q => ?_
        · rw [q] at hq
          exact hq _ e1
        · have q' := (Bool.not_eq_false' _).mp q
          rw [q'] at hq
          refine ⟨_, rfl, rfl, ?_⟩
          rw [e1']
          exact hq _ e1
end
end K39
set_option Elab.async false
set_option linter.all false
set_option maxRecDepth 100000
set_option maxHeartbeats 4000000
namespace K39
open PySem PySem.Spec PyProof.Rows L2
section
variable {P : Program} {w : World} {K : PySem.W.Frag} {mg : Str → Option Value} {base : Heap}
/-! ### _law_fits -/
theorem scLawFits : FnScope ["word", "sort", "regs"] ["word", "sort"] (defScope sLawFits) := ⟨rfl, rfl, rfl, by decide +kernel, rfl, by decide +kernel, by decide +kernel⟩
def fits (c : Nat) (z : Str) : Bool := if c = 98 then isReg z || decide (z = "sp") else isNum z || (decide (c = 119) && (isReg z || decide (z = "lost")))
def spLFits : Sp := fun vs H Q _ => ∃ (z : Str) (c : Nat), vs = [.str z, .str ⟨#[c]⟩] ∧ okW z ∧ ∀ H', Same H H' → Q (.bl (fits c z)) H'
theorem ok_lfits (T : Tx K mg) : Ok P w K mg base CX0 2 "_law_fits" ["word", "sort"] spLFits := by
  have o_law_is_number := ok_lisnum (P := P) (w := w) (base := base) T
  refine T.ok0 26 rfl T.g__law_fits scLawFits (fun vs H Q E h => ?_) (fun _ _ _ _ _ _ us hl => match us, hl with | [_, _], _ => rfl) fun cdv A outer s H vs Q E hr h => ?_
  · obtain ⟨z, c, rfl, _⟩ := h
    rfl
  · obtain ⟨z, c, rfl, hz, hq⟩ := h
    have kb : cpl "b" = [98] := by decide +kernel
    have kw : cpl "w" = [119] := by decide +kernel
    refine ⟨_, (pss_cons (ps_set (i := 2) scLawFits.nd rfl (Or.inl rfl) (pe_lst (pa_cons pe_str (pa_cons pe_str (pa_cons pe_str (pa_cons pe_str (pa_cons pe_str (pa_cons pe_str pa_nil))))))))
      (pss_cons (ps_if (pt_cmpR op_eq (pv 1) pe_str (nomark _)) (pss_one (ps_ret (pe_or (pe_cmpR (inQ (K := K)) (pv 0) (pv 2) (by rfl)) (pe_one (pe_cmpR op_eq (pv 0) pe_str (nomark _)))))) pss_nil)
      (pss_one (ps_ret (pe_or (pe_k o_law_is_number hr (by decide) pass0 (pa_cons (pv 0) pa_nil)) (pe_one (pe_and (pe_cmpR op_eq (pv 1) pe_str (nomark _)) (pe_one (pe_or (pe_cmpR (inQ (K := K)) (pv 0) (pv 2) (by rfl)) (pe_one (pe_cmpR op_eq (pv 0) pe_str (nomark _)))))))))))), ?_⟩
    refine ⟨(by decide : 6 ≤ sizeLine), fun p np => ?_⟩
    have e0 := Same.upd (o := .lst regV) (Same.refl H) np
    dsimp only [gName]
    by_cases hb : c = 98
    · have ef : fits c z = (isReg z || decide (z = "sp")) := if_pos hb
      rw [ef] at hq
      refine sq_t (fun Q' hQ => ⟨_, rfl, rfl, _, rfl, ?_⟩) ?_
      · rw [sign_eq kb, decide_eq_true hb]
        exact hQ
      · refine ⟨_, rfl, _, rfl, p, regV, rfl, .inl (.inl (.inl upd_same)), rfl, rfl, _, rfl, ?_⟩
        show if isReg z = true then _ else _
        cases hr : isReg z with
        | true =>
          rw [hr] at hq
          exact iteT (hq _ e0)
        | false =>
          rw [hr] at hq
          refine iteF ⟨_, rfl, rfl, ?_⟩
          rw [decS]
          exact hq _ e0
    · have ef : fits c z = (isNum z || (decide (c = 119) && (isReg z || decide (z = "lost")))) := if_neg hb
      rw [ef] at hq
      refine sq_f (fun Q' hQ => ⟨_, rfl, rfl, _, rfl, ?_⟩) ?_
      · rw [sign_eq kb, decide_eq_false hb]
        exact hQ
      · refine ⟨_, rfl, z, rfl, hz, fun H1 e1 => ⟨_, rfl, ?_⟩⟩
        have ee := e0.trans e1
        cases hn : isNum z with
        | true =>
          rw [hn] at hq
          exact iteT (hq _ ee)
        | false =>
          rw [hn] at hq
          refine iteF ⟨_, rfl, rfl, _, rfl, ?_⟩
          rw [sign_eq kw]
          cases hw : decide (c = 119) with
          | false =>
            rw [hw] at hq
            exact iteF (hq _ ee)
          | true =>
            rw [hw] at hq
            refine iteT ⟨_, rfl, _, rfl, p, regV, rfl, .inl (.inl (.inl (e1 _ _ upd_same))), rfl, rfl, _, rfl, ?_⟩
            show if isReg z = true then _ else _
            cases hr : isReg z with
            | true =>
              rw [hr] at hq
              exact iteT (hq _ ee)
            | false =>
              rw [hr] at hq
              refine iteF ⟨_, rfl, rfl, ?_⟩
              rw [decS]
              exact hq _ ee
/-! ### _law_sorts -/
theorem scLawSorts : FnScope ["words"] ["words"] (defScope sLawSorts) := ⟨rfl, rfl, rfl, by decide +kernel, rfl, by decide +kernel, by decide +kernel⟩
def sortsT (ws : List Str) : Str := if isNoneRow ws = true then "n-wwwww" else "nbnwwwww"
def spLSorts (K : PySem.W.Frag) : Sp := fun vs H Q _ => ∃ (a : Addr) (ws : List Str), vs = [.ref a] ∧ SqL K H a (vstrs ws) ∧ Q (.str (sortsT ws)) H
theorem ok_lsorts (T : Tx K mg) : Ok P w K mg base CX0 1 "_law_sorts" ["words"] (spLSorts K) := by
  refine T.ok0 27 rfl T.g__law_sorts scLawSorts (fun vs H Q E h => ?_) (fun _ _ _ _ _ _ us hl => match us, hl with | [_], _ => rfl) fun cdv A outer s H vs Q E hr h => ?_
  · obtain ⟨a, ws, rfl, _⟩ := h
    rfl
  · obtain ⟨a, ws, rfl, hs, hq⟩ := h
    have lw : (vstrs ws).length = ws.length := by unfold vstrs; rw [List.length_map]
    refine ⟨_, (pss_one (ps_ret (pe_ifExp (PW.pt (pw_and (pt_cmpR op_gt (pe_callB call_len_seq (by rfl) T.n_len PySem.boot_len (pa_cons (pv 0) pa_nil)) pe_int (nomark _)) (pw_and1 (pt_cmpR op_eq (pe_ix ix_list (pv 0) pe_int (fun _ _ => rfl)) pe_str (nomark _))))) pe_str pe_str))), ?_⟩
    refine ⟨_, rfl, a, _, rfl, .inl hs, _, _, rfl, rfl, _, rfl, iteTest (fun c => ?_) fun c => ?_⟩
    · have l1 : 1 < ws.length := by
        have q := of_decide_eq_true c
        rw [lw] at q
        omega
      have gz : ws[1]? = some ws[1] := List.getElem?_eq_getElem l1
      have gv : (vstrs ws)[1]? = some (.str ws[1]) := by unfold vstrs; rw [List.getElem?_map, gz]; rfl
      refine ⟨_, rfl, a, _, _, _, rfl, rfl, hs, atI_nat (j := 1) gv, rfl, _, rfl, ?_⟩
      have e : decide (V.str ws[1] = V.str "none") = isNoneRow ws := by
        unfold isNoneRow
        rw [decS, decide_eq_true l1, Bool.true_and, gz]
        exact decide_eq_decide.mpr ⟨fun h => congrArg some h, fun h => Option.some.inj h⟩
      rw [e]
      unfold sortsT at hq
      exact iteTest (fun q => by rw [if_pos q] at hq; exact hq) fun q => by rw [if_neg (by rw [q]; exact Bool.false_ne_true)] at hq; exact hq
    · have e : isNoneRow ws = false := by
        have q := of_decide_eq_false c
        rw [lw] at q
        unfold isNoneRow
        rw [decide_eq_false (by omega)]
        rfl
      unfold sortsT at hq
      rw [if_neg (by rw [e]; exact Bool.false_ne_true)] at hq
      exact iteF hq
/-! ### _law_where_right -/
theorem scLawWhereRight : FnScope ["word", "is_found"] ["word", "is_found"] (defScope sLawWhereRight) := ⟨rfl, rfl, rfl, by decide +kernel, rfl, by decide +kernel, by decide +kernel⟩
def whereRight (z : Str) (f : Bool) : Bool := !isNum z || (f && inB (numVal z) (-64) 0)
def spLRight : Sp := fun vs H Q _ => ∃ (z : Str) (f : Bool), vs = [.str z, .bl f] ∧ okW z ∧ ∀ H', Same H H' → Q (.bl (whereRight z f)) H'
theorem ok_lright (T : Tx K mg) : Ok P w K mg base CX0 2 "_law_where_right" ["word", "is_found"] spLRight := by
  have o_law_is_number := ok_lisnum (P := P) (w := w) (base := base) T
  refine T.ok0 29 rfl T.g__law_where_right scLawWhereRight (fun vs H Q E h => ?_) (fun _ _ _ _ _ _ us hl => match us, hl with | [_, _], _ => rfl) fun cdv A outer s H vs Q E hr h => ?_
  · obtain ⟨z, f, rfl, _⟩ := h
    rfl
  · obtain ⟨z, f, rfl, hz, hq⟩ := h
    refine ⟨_, (pss_cons (ps_if (pt_not (pt_val (pe_k o_law_is_number hr (by decide) pass0 (pa_cons (pv 0) pa_nil)))) (pss_one (ps_ret pe_bl)) pss_nil)
      (pss_one (ps_ret (pe_and (pv 1) (pe_one (pe_chain op_le op_le (pe_un un_neg pe_int) (pe_callTy call_int_str (by rfl) T.n_int PyProof.Rows.boot_int (pa_cons (pv 0) pa_nil)) pe_int)))))), ?_⟩
    unfold whereRight at hq
    refine sq_frN (!isNum z) (fun Q' hQ => ⟨_, rfl, z, rfl, hz, fun H1 e1 => ⟨_, rfl, hQ H1 e1⟩⟩) (fun hb H1 e1 => ?_) (fun hb H1 e1 => ?_)
    · rw [hb] at hq
      exact hq H1 e1
    · have hn := (Bool.not_eq_false' _).mp hb
      rw [hb] at hq
      obtain ⟨i1, i2⟩ := int_num hn
      refine ⟨_, rfl, _, rfl, ?_⟩
      cases f with
      | false => exact iteF (hq H1 e1)
      | true =>
        refine iteT ⟨_, rfl, _, rfl, _, _, rfl, i1, i2, _, _, rfl, rfl, _, rfl, iteTest (fun c => ?_) fun c => ?_⟩
        · refine ⟨_, _, rfl, rfl, ?_⟩
          have z := hq H1 e1
          unfold inB at z
          rw [c] at z
          exact z
        · have z := hq H1 e1
          unfold inB at z
          rw [c] at z
          exact z
end
end K39
set_option Elab.async false
set_option linter.all false
set_option maxRecDepth 100000
set_option maxHeartbeats 4000000
namespace K39
open PySem PySem.Spec PyProof.Rows L2
theorem if_frN {c : TT} {t : TS} {D : Ends} {σ : L2.St} {H : Hp} (b : Bool) (hc : ∀ Q : Bool → Hp → Prop, (∀ H', Same H H' → Q b H') → c σ H Q) (ht : b = true → ∀ H', Same H H' → t D σ H') (hf : b = false → ∀ H', Same H H' → D.nx σ H') : tIfS c t tNext D σ H := hc _ fun H' e => iteTest (fun z => ht z H' e) fun z => hf z H' e
def lfFrom : Nat → List Str → List Nat → Option Nat
  | k, [], _ :: _ => some (k + 1)
  | k, z :: zs, c :: cs => if (!decide (c = 45) && !fits c z) = true then some (k + 1) else lfFrom (k + 1) zs cs
  | _, [], [] => none
  | k, _ :: _, [] => some (k + 1)
def lineFault (ws : List Str) : Option Nat := if hasNil ws = true then some 0 else lfFrom 0 ws (cpl (sortsT ws))
def optN : Option Nat → V
  | some n => .int (n : Nat)
  | none => .non
def okWs (ws : List Str) : Prop := ws.length ≤ 1000 ∧ ∀ z ∈ ws, okW z
section
variable {P : Program} {w : World} {K : PySem.W.Frag} {mg : Str → Option Value} {base : Heap}
theorem scLawLineFault : FnScope ["words", "sorts", "k"] ["words"] (defScope sLawLineFault) := ⟨rfl, rfl, rfl, by decide +kernel, rfl, by decide +kernel, by decide +kernel⟩
def spLFault (K : PySem.W.Frag) : Sp := fun vs H Q _ => ∃ (a : Addr) (ws : List Str), vs = [.ref a] ∧ SqL K H a (vstrs ws) ∧ okWs ws ∧ ∀ H', Same H H' → Q (optN (lineFault ws)) H'
theorem ok_lfault (T : Tx K mg) : Ok P w K mg base CX0 3 "_law_line_fault" ["words"] (spLFault K) := by
  have o_law_sorts := ok_lsorts (P := P) (w := w) (base := base) T
  have o_law_fits := ok_lfits (P := P) (w := w) (base := base) T
  refine T.ok0 28 rfl T.g__law_line_fault scLawLineFault (fun vs H Q E h => ?_) (fun _ _ _ _ _ _ us hl => match us, hl with | [_], _ => rfl) fun cdv A outer s H vs Q E hr h => ?_
  · obtain ⟨a, ws, rfl, _⟩ := h
    rfl
  · obtain ⟨a, ws, rfl, hs, ⟨hl, hw⟩, hq⟩ := h
    have lw : (vstrs ws).length = ws.length := by unfold vstrs; rw [List.length_map]
    refine ⟨_, (pss_cons (ps_if (pt_cmpR (inQ (K := K)) pe_str (pv 0) (by rfl)) (pss_one (ps_ret pe_int)) pss_nil)
      (pss_cons (ps_set (i := 1) scLawLineFault.nd rfl (Or.inl rfl) (pe_k o_law_sorts hr (by decide) pass0 (pa_cons (pv 0) pa_nil)))
      (pss_cons (ps_for PassesOwn.never rfl (pi_range1 rfl T.n_range (pa_cons (pe_callB call_len_str (by rfl) T.n_len PySem.boot_len (pa_cons (pv 1) pa_nil)) pa_nil)) (pg_name (i := 2) scLawLineFault.nd rfl (Or.inl rfl)) (pss_cons (ps_if (pt_cmpR op_ge (pv 2) (pe_callB call_len_seq (by rfl) T.n_len PySem.boot_len (pa_cons (pv 0) pa_nil)) (nomark _)) (pss_one (ps_ret (pe_op op_add (pe_callB call_len_seq (by rfl) T.n_len PySem.boot_len (pa_cons (pv 0) pa_nil)) pe_int))) pss_nil)
      (pss_one (ps_if (PW.pt (pw_and (pt_cmpR op_ne (pe_ix ix_str (pv 1) (pv 2) (fun _ _ => rfl)) pe_str (nomark _)) (pw_and1 (pt_not (pt_val (pe_k o_law_fits hr (by decide) pass0 (pa_cons (pe_ix ix_list (pv 0) (pv 2) (fun _ _ => rfl)) (pa_cons (pe_ix ix_str (pv 1) (pv 2) (fun _ _ => rfl)) pa_nil)))))))) (pss_one (ps_ret (pe_op op_add (pv 2) pe_int))) pss_nil))))
      (pss_one (ps_ret (pe_ifExp (pt_cmpR op_eq (pe_callB call_len_seq (by rfl) T.n_len PySem.boot_len (pa_cons (pv 0) pa_nil)) (pe_callB call_len_str (by rfl) T.n_len PySem.boot_len (pa_cons (pv 1) pa_nil)) (nomark _)) pe_non (pe_op op_add (pe_callB call_len_str (by rfl) T.n_len PySem.boot_len (pa_cons (pv 1) pa_nil)) pe_int))))))), ?_⟩
    cases hn : hasNil ws with
    | true =>
      have e : lineFault ws = some 0 := if_pos hn
      rw [e] at hq
      refine sq_t (fun Q' hQ => ⟨_, rfl, a, _, rfl, .inl hs, rfl, vstrs_flat ws, _, rfl, ?_⟩) (hq H (Same.refl H))
      show Q' (inV (.str "") (vstrs ws)) H
      rw [show inV (.str "") (vstrs ws) = true from hn]
      exact hQ
    | false =>
      have e : lineFault ws = lfFrom 0 ws (cpl (sortsT ws)) := if_neg (by rw [hn]; exact Bool.false_ne_true)
      rw [e] at hq
      refine sq_f (fun Q' hQ => ⟨_, rfl, a, _, rfl, .inl hs, rfl, vstrs_flat ws, _, rfl, ?_⟩) ?_
      · show Q' (inV (.str "") (vstrs ws)) H
        rw [show inV (.str "") (vstrs ws) = false from hn]
        exact hQ
      have hsl : (sortsT ws).length ≤ 8 := by
        unfold sortsT
        split <;> decide +kernel
      generalize hso : sortsT ws = so at hq hsl
      have hcl : (cpl so).length = so.length := cpl_len so
      have hzs : so.length ≤ sizeLine := by rw [sizeLine_eq]; omega
      refine ⟨_, rfl, a, ws, rfl, hs, ?_⟩
      rw [hso]
      refine ⟨_, rfl, so, rfl, hzs, so.length, rfl, by omega, by omega, loop_n so.length (fun i σ H1 => ∃ u : Option V, σ = [some (.ref a), some (.str so), u] ∧ Same H H1 ∧ i ≤ ws.length ∧ lfFrom 0 ws (cpl so) = lfFrom i (ws.drop i) ((cpl so).drop i)) ⟨none, rfl, Same.refl H, Nat.zero_le _, rfl⟩ (fun σ H1 hv => ?_) fun i σ H1 hi hv => ?_⟩
      · obtain ⟨u, rfl, e1, li, ef⟩ := hv
        refine ⟨by show (so.length : Int).toNat ≤ so.length; omega, ?_⟩
        rw [← hcl, List.drop_length, hcl] at ef
        refine ⟨_, rfl, a, _, rfl, .inl (Same.lst e1 hs), _, rfl, so, rfl, hzs, rfl, _, rfl, iteTest (fun c => ?_) fun c => ?_⟩
        · have q := of_decide_eq_true c
          have q2 : ws.length = so.length := by
            have z := V.int.inj q
            rw [lw] at z
            omega
          rw [← q2, List.drop_length] at ef
          rw [ef] at hq
          exact hq H1 e1
        · have q := of_decide_eq_false c
          have q2 : so.length < ws.length := by
            by_cases z : ws.length = so.length
            · exact absurd (by rw [lw, z]) q
            · omega
          rw [drop_get (List.getElem?_eq_getElem q2)] at ef
          rw [show lfFrom so.length (ws[so.length] :: ws.drop (so.length + 1)) [] = some (so.length + 1) from rfl] at ef
          rw [ef] at hq
          exact ⟨_, rfl, so, rfl, hzs, _, _, rfl, rfl, hq H1 e1⟩
      · obtain ⟨u, rfl, e1, li, ef⟩ := hv
        refine ⟨by show i < (so.length : Int).toNat; omega, fun x H2 hy => ?_⟩
        obtain ⟨rfl, rfl⟩ := hy
        have iy : i < (cpl so).length := by omega
        have gc : (cpl so)[i]? = some (cpl so)[i] := List.getElem?_eq_getElem iy
        have ei : (0 : Int) + ((i : Nat) : Int) = ((i : Nat) : Int) := by omega
        by_cases hil : i < ws.length
        · have gz : ws[i]? = some ws[i] := List.getElem?_eq_getElem hil
          have gv : (vstrs ws)[i]? = some (.str ws[i]) := by unfold vstrs; rw [List.getElem?_map, gz]; rfl
          rw [drop_get gz, drop_get gc] at ef
          have hzw := hw _ (List.getElem_mem hil)
          generalize ws[i] = z at gz gv ef hzw
          generalize (cpl so)[i] = c at gc ef
          have ef' : lfFrom 0 ws (cpl so) = if (!decide (c = 45) && !fits c z) = true then some (i + 1) else lfFrom (i + 1) (ws.drop (i + 1)) ((cpl so).drop (i + 1)) := ef
          have km : cpl "-" = [45] := by decide +kernel
          refine sq_f (fun Q' hQ => ⟨_, rfl, _, rfl, a, _, rfl, .inl (Same.lst e1 hs), _, _, rfl, rfl, _, rfl, ?_⟩) ?_
          · rw [decide_eq_false (by rw [lw]; omega)]
            exact hQ
          refine if_frN (!decide (c = 45) && !fits c z) (fun Q' hQ => ?_) (fun hb H3 e3 => ?_) (fun hb H3 e3 => ?_)
          · refine ⟨_, rfl, _, rfl, so, _, c, rfl, rfl, hzs, (by rw [ei]; exact atI_nat gc), rfl, _, rfl, ?_⟩
            rw [sign_eq km]
            cases hd : decide (c = 45) with
            | true =>
              rw [hd] at hQ
              exact iteF (hQ _ (Same.refl _))
            | false =>
              rw [hd] at hQ
              refine iteT ⟨_, rfl, _, rfl, a, _, _, _, rfl, rfl, Same.lst e1 hs, (by rw [ei]; exact atI_nat gv), _, rfl, _, rfl, so, _, c, rfl, rfl, hzs, (by rw [ei]; exact atI_nat gc), z, c, rfl, hzw, fun H3 e3 => ⟨_, rfl, ?_⟩⟩
              exact hQ H3 e3
          · rw [if_pos hb] at ef'
            rw [ef'] at hq
            have q := hq H3 (e1.trans e3)
            refine ⟨_, rfl, _, _, rfl, rfl, ?_⟩
            rw [ei]
            exact q
          · rw [if_neg (by rw [hb]; exact Bool.false_ne_true)] at ef'
            exact ⟨_, rfl, e1.trans e3, hil, ef'⟩
        · have ein : i = ws.length := by omega
          refine sq_t (fun Q' hQ => ⟨_, rfl, _, rfl, a, _, rfl, .inl (Same.lst e1 hs), _, _, rfl, rfl, _, rfl, ?_⟩) ?_
          · rw [decide_eq_true (by rw [lw]; omega)]
            exact hQ
          · rw [ein, List.drop_length, drop_get (by rw [← ein]; exact gc)] at ef
            have ef' : lfFrom 0 ws (cpl so) = some (ws.length + 1) := ef
            rw [ef'] at hq
            refine ⟨_, rfl, a, _, rfl, .inl (Same.lst e1 hs), _, _, rfl, rfl, ?_⟩
            rw [lw]
            exact hq _ e1
end
end K39
set_option Elab.async false
set_option linter.all false
set_option maxRecDepth 100000
set_option maxHeartbeats 4000000
namespace K39
open PySem PySem.Spec PyProof.Rows L2
def faultFrom : Nat → List (List Str) → Option (Nat × Nat)
  | _, [] => none
  | k, ws :: r => match lineFault ws with
    | some f => some (k + 1, f)
    | none => faultFrom (k + 1) r
def isFound (ws : List Str) : Bool := !decide (ws.getD 1 "" = "none")
def goodRow (k : Nat) (least : Int) (ws : List Str) : Bool :=
  ((inB (numVal (ws.getD 0 "")) least 59 && (decide (0 < k) || decide (numVal (ws.getD 0 "") = 0))) && (!isFound ws || inB (numVal (ws.getD 2 "")) (-64) 128)) && (ws.drop (ws.length - 5)).all fun z => whereRight z (isFound ws)
def dueFrom : Nat → Int → List (List Str) → Option Nat
  | _, _, [] => none
  | k, least, ws :: r => if goodRow k least ws = true then dueFrom (k + 1) (numVal (ws.getD 0 "") + 1) r else some k
def dueOf (rws : List (List Str)) : Out := match faultFrom 0 rws with
  | some p => .text p.1 p.2
  | none => if 60 < rws.length then .tab .non else match dueFrom 0 0 rws with
    | some k => .tab (.int (k : Nat))
    | none => .fine
def outV : Out → List V
  | .fine => []
  | .text l f => [.str "text", .int (l : Nat), .int (f : Nat)]
  | .tab v => [.str "table", v]
/-- the rows' words -/
def RwsAt (K : PySem.W.Frag) (H : Hp) (a : Addr) (rws : List (List Str)) : Prop := ∃ ps : List Addr, SqL K H a (ps.map V.ref) ∧ ps.length = rws.length ∧ ∀ (i : Nat) (p : Addr) (ws : List Str), ps[i]? = some p → rws[i]? = some ws → SqL K H p (vstrs ws)
theorem RwsAt.same {K : PySem.W.Frag} {H H' : Hp} {a : Addr} {rws : List (List Str)} (e : Same H H') (h : RwsAt K H a rws) : RwsAt K H' a rws := by
  obtain ⟨ps, h1, h2, h3⟩ := h
  exact ⟨ps, Same.lst e h1, h2, fun i p ws g1 g2 => Same.lst e (h3 i p ws g1 g2)⟩
def okRws (rws : List (List Str)) : Prop := rws.length ≤ 1000 ∧ ∀ ws ∈ rws, okWs ws
theorem lf_none : ∀ {k : Nat} {ws : List Str} {cs : List Nat}, lfFrom k ws cs = none → ws.length = cs.length ∧ ∀ (j : Nat) (z : Str) (c : Nat), ws[j]? = some z → cs[j]? = some c → c = 45 ∨ fits c z = true
  | _, [], [], _ => ⟨rfl, fun j z c h => by simp at h⟩
  | _, [], _ :: _, h => by cases h
  | _, _ :: _, [], h => by cases h
  | k, z0 :: zs, c0 :: cs, h => by
    have h' : (if (!decide (c0 = 45) && !fits c0 z0) = true then some (k + 1) else lfFrom (k + 1) zs cs) = none := h
    by_cases hb : (!decide (c0 = 45) && !fits c0 z0) = true
    · rw [if_pos hb] at h'
      cases h'
    · rw [if_neg hb] at h'
      obtain ⟨h1, h2⟩ := lf_none h'
      refine ⟨by simp [h1], fun j z c g1 g2 => ?_⟩
      cases j with
      | zero =>
        cases g1
        cases g2
        by_cases hc : c0 = 45
        · exact .inl hc
        · refine .inr ?_
          cases hf : fits c0 z0 with
          | true => rfl
          | false =>
            rw [hf, decide_eq_false hc] at hb
            exact absurd rfl hb
      | succ j => exact h2 j z c g1 g2
theorem fits_n {z : Str} : fits 110 z = isNum z := by
  unfold fits
  rw [if_neg (by decide)]
  cases isNum z <;> rfl
/-- what a row that is one is made of -/
theorem line_ok {ws : List Str} (h : lineFault ws = none) : hasNil ws = false ∧ ws.length = (sortsT ws).length ∧ 7 ≤ ws.length ∧ isNum (ws.getD 0 "") = true ∧ isFound ws = !isNoneRow ws ∧ (isFound ws = true → ws.length = 8 ∧ isNum (ws.getD 2 "") = true) ∧
    ∀ (j : Nat) (z : Str) (c : Nat), ws[j]? = some z → (cpl (sortsT ws))[j]? = some c → c = 45 ∨ fits c z = true := by
  unfold lineFault at h
  cases hn : hasNil ws with
  | true =>
    rw [hn] at h
    cases h
  | false =>
    rw [if_neg (by rw [hn]; exact Bool.false_ne_true)] at h
    obtain ⟨h1, h2⟩ := lf_none h
    have kA : cpl "n-wwwww" = [110, 45, 119, 119, 119, 119, 119] := by decide +kernel
    have kB : cpl "nbnwwwww" = [110, 98, 110, 119, 119, 119, 119, 119] := by decide +kernel
    have g0 : 7 ≤ ws.length ∧ (cpl (sortsT ws))[0]? = some 110 ∧ (isNoneRow ws = false → ws.length = 8 ∧ (cpl (sortsT ws))[2]? = some 110) := by
      rw [h1]
      unfold sortsT
      by_cases hN : isNoneRow ws = true
      · rw [if_pos hN, kA]
        exact ⟨by decide, rfl, fun z => by rw [hN] at z; cases z⟩
      · rw [if_neg hN, kB]
        exact ⟨by decide, rfl, fun _ => ⟨rfl, rfl⟩⟩
    obtain ⟨g1, g2, g3⟩ := g0
    have get : ∀ j, j < ws.length → ws[j]? = some (ws.getD j "") := fun j hj => by
      rw [List.getD_eq_getElem?_getD, List.getElem?_eq_getElem hj]
      rfl
    have eF : isFound ws = !isNoneRow ws := by
      unfold isFound isNoneRow
      rw [decide_eq_true (show 1 < ws.length by omega), Bool.true_and, get 1 (by omega)]
      congr 1
      exact decide_eq_decide.mpr ⟨fun h => congrArg some h, fun h => Option.some.inj h⟩
    have nm : ∀ j, j < ws.length → (cpl (sortsT ws))[j]? = some 110 → isNum (ws.getD j "") = true := fun j hj hc => by
      rcases h2 j _ 110 (get j hj) hc with z | z
      · exact absurd z (by decide)
      · rw [fits_n] at z
        exact z
    refine ⟨rfl, by rw [h1, cpl_len], g1, nm 0 (by omega) g2, eF, fun hf => ?_, h2⟩
    rw [eF] at hf
    have hN := (Bool.not_eq_true' _).mp hf
    obtain ⟨q1, q2⟩ := g3 hN
    exact ⟨q1, nm 2 (by omega) q2⟩
theorem fault_none : ∀ {k : Nat} {rws : List (List Str)}, faultFrom k rws = none → ∀ ws ∈ rws, lineFault ws = none
  | _, [], _, _, h => by cases h
  | k, ws0 :: r, h, ws, hm => by
    have h' : (match lineFault ws0 with | some f => some (k + 1, f) | none => faultFrom (k + 1) r) = none := h
    cases e : lineFault ws0 with
    | some f =>
      rw [e] at h'
      cases h'
    | none =>
      rw [e] at h'
      rcases List.mem_cons.mp hm with z | z
      · rw [z]
        exact e
      · exact fault_none h' ws z
theorem cutV_last (ws : List Str) (h : 5 ≤ ws.length) : cutV (vstrs ws) (some (-5)) none = vstrs (ws.drop (ws.length - 5)) := by
  have lw : (vstrs ws).length = ws.length := by unfold vstrs; rw [List.length_map]
  have e : HT.sIx (vstrs ws).length 0 (some (-5)) = ws.length - 5 := by
    show (if (-5 : Int) < 0 then ((-5 : Int) + ((vstrs ws).length : Nat)).toNat else min (-5 : Int).toNat (vstrs ws).length) = _
    rw [if_pos (by decide), lw]
    omega
  unfold cutV
  rw [e, HT.sIx_none, lw]
  unfold vstrs
  rw [List.map_drop]
  exact List.take_of_length_le (by rw [List.length_drop, List.length_map]; exact Nat.le_refl _)
theorem filter_nilA {α : Type} {p : α → Bool} : ∀ {l : List α}, (l.filter fun c => !p c).isEmpty = l.all p
  | [] => rfl
  | a :: l => by
    cases h : p a with
    | true => simp only [List.filter_cons, h, Bool.not_true, List.all_cons, Bool.true_and]; exact filter_nilA
    | false => simp [List.filter_cons, h]
theorem okW_strOk {z : Str} (h : okW z) : PyData.strOk z = true := by
  unfold PyData.strOk
  rw [← Array.all_toList, List.all_eq_true]
  exact fun c hc => decide_eq_true (h.2 c hc)
section
variable {P : Program} {w : World} {K : PySem.W.Frag} {mg : Str → Option Value} {base : Heap}
theorem scLawDue : FnScope ["rows", "k", "words", "fault", "least", "at", "is_found", "is_good", "wrong", "word"] ["rows"] (defScope sLawDue) := ⟨rfl, rfl, rfl, by decide +kernel, rfl, by decide +kernel, by decide +kernel⟩
def spLDue (K : PySem.W.Frag) : Sp := fun vs H Q _ => ∃ (a : Addr) (rws : List (List Str)), vs = [.ref a] ∧ RwsAt K H a rws ∧ okRws rws ∧ ∀ p H', Same H H' → SqT K H' p (outV (dueOf rws)) → Q (.ref p) H'
theorem ok_ldue (T : Tx K mg) : Ok P w K mg base CX0 4 "_law_due" ["rows"] (spLDue K) := by
  have o_law_line_fault := ok_lfault (P := P) (w := w) (base := base) T
  have o_law_where_right := ok_lright (P := P) (w := w) (base := base) T
  refine T.ok0 30 rfl T.g__law_due scLawDue (fun vs H Q E h => ?_) (fun _ _ _ _ _ _ us hl => match us, hl with | [_], _ => rfl) fun cdv A outer s H vs Q E hr h => ?_
  · obtain ⟨a, rws, rfl, _⟩ := h
    rfl
  · obtain ⟨a, rws, rfl, ⟨ps, hs, hl, hp⟩, ⟨hz, hw⟩, hq⟩ := h
    refine ⟨_, (pss_cons (ps_for PassesOwn.never rfl (pi_enum (by rfl) T.n_enumerate (pa_cons (pv 0) pa_nil)) (pg_tup rfl (pgs_cons (pg_name (i := 1) scLawDue.nd rfl (Or.inl rfl)) (pgs_cons (pg_name (i := 2) scLawDue.nd rfl (Or.inl rfl)) pgs_nil))) (pss_cons (ps_set (i := 3) scLawDue.nd rfl (Or.inl rfl) (pe_k o_law_line_fault hr (by decide) pass0 (pa_cons (pv 2) pa_nil)))
      (pss_one (ps_if (pt_cmpR op_notN (pv 3) pe_non (nomark _)) (pss_one (ps_ret (pe_tup (pa_cons pe_str (pa_cons (pe_op op_add (pv 1) pe_int) (pa_cons (pv 3) pa_nil)))))) pss_nil))))
      (pss_cons (ps_if (pt_cmpR op_gt (pe_callB call_len_seq (by rfl) T.n_len PySem.boot_len (pa_cons (pv 0) pa_nil)) pe_int (nomark _)) (pss_one (ps_ret (pe_tup (pa_cons pe_str (pa_cons pe_non pa_nil))))) pss_nil)
      (pss_cons (ps_set (i := 4) scLawDue.nd rfl (Or.inl rfl) pe_int)
      (pss_cons (ps_for PassesOwn.never rfl (pi_enum (by rfl) T.n_enumerate (pa_cons (pv 0) pa_nil)) (pg_tup rfl (pgs_cons (pg_name (i := 1) scLawDue.nd rfl (Or.inl rfl)) (pgs_cons (pg_name (i := 2) scLawDue.nd rfl (Or.inl rfl)) pgs_nil))) (pss_cons (ps_asg (pe_tup (pa_cons (pe_callTy call_int_str (by rfl) T.n_int PyProof.Rows.boot_int (pa_cons (pe_ix ix_list (pv 2) pe_int (fun _ _ => rfl)) pa_nil)) (pa_cons (pe_cmpR op_ne (pe_ix ix_list (pv 2) pe_int (fun _ _ => rfl)) pe_str (nomark _)) pa_nil))) (pg_tup rfl (pgs_cons (pg_name (i := 5) scLawDue.nd rfl (Or.inl rfl)) (pgs_cons (pg_name (i := 6) scLawDue.nd rfl (Or.inr rfl)) pgs_nil))))
      (pss_cons (ps_set (i := 7) scLawDue.nd rfl (Or.inl rfl) (pe_and (pe_chain op_le op_le (pv 4) (pv 5) pe_int) (pe_one (pe_or (pe_cmpR op_gt (pv 1) pe_int (nomark _)) (pe_one (pe_cmpR op_eq (pv 5) pe_int (nomark _)))))))
      (pss_cons (ps_set (i := 7) scLawDue.nd rfl (Or.inl rfl) (pe_and (pv 7) (pe_one (pe_or (pe_not (pv 6)) (pe_one (pe_chain op_le op_le (pe_un un_neg pe_int) (pe_callTy call_int_str (by rfl) T.n_int PyProof.Rows.boot_int (pa_cons (pe_ix ix_list (pv 2) pe_int (fun _ _ => rfl)) pa_nil)) pe_int))))))
      (pss_cons (ps_setLc (i := 8) (own := [("word", 9)]) rfl scLawDue.nd rfl rfl (sw_true rfl rfl rfl (by decide +kernel)) (pi_list (pe_slice sl_list (pv 2) (po_some (pe_un un_neg pe_int)) po_none)) (blkOk_by (N := ["rows", "k", "words", "fault", "least", "at", "is_found", "is_good", "wrong", "word"]) (sc := defScope sLawDue) (by decide +kernel)) (fun _ _ _ _ _ => (pg_name (i := 9) scLawDue.nd rfl (Or.inl rfl))) (fun _ _ _ _ _ => (pts_one (pt_not (pt_val (pe_k o_law_where_right hr (by decide) pass0 (pa_cons (pv 9) (pa_cons (pv 6) pa_nil))))))) (fun _ _ _ _ _ => (pv 9)))
      (pss_cons (ps_if (PW.pt (pw_or (pt_not (pt_val (pv 7))) (pw_or1 (pt_cmpR (op_neD (un64 hr)) (pv 8) (pe_lst pa_nil) (nomark _))))) (pss_one (ps_ret (pe_tup (pa_cons pe_str (pa_cons (pv 1) pa_nil))))) pss_nil)
      (pss_one (ps_set (i := 4) scLawDue.nd rfl (Or.inl rfl) (pe_op op_add (pv 5) pe_int)))))))))
      (pss_one (ps_ret (pe_tup pa_nil))))))), ?_⟩
    have lp : (ps.map V.ref).length = rws.length := by rw [List.length_map, hl]
    refine ⟨_, rfl, a, _, rfl, hs, loop_n rws.length (fun i σ H1 => ∃ u1 u2 u3 : Option V, σ = [some (.ref a), u1, u2, u3, none, none, none, none, none, none] ∧ Same H H1 ∧ faultFrom 0 rws = faultFrom i (rws.drop i)) ⟨none, none, none, rfl, Same.refl H, rfl⟩ (fun σ H1 hv => ?_) fun i σ H1 hi hv => ?_⟩
    · -- no line is at fault
      obtain ⟨u1, u2, u3, rfl, e1, ef⟩ := hv
      refine ⟨⟨_, Same.lst e1 hs, by rw [lp]; exact Nat.le_refl _⟩, ?_⟩
      rw [List.drop_length] at ef
      have ef : faultFrom 0 rws = none := ef
      have hline := fault_none ef
      have eD : dueOf rws = if 60 < rws.length then .tab .non else match dueFrom 0 0 rws with | some k => .tab (.int (k : Nat)) | none => .fine := by
        unfold dueOf
        rw [ef]
      dsimp only
      by_cases h60 : 60 < rws.length
      · rw [if_pos h60] at eD
        rw [eD] at hq
        refine sq_t (fun Q' hQ => ⟨_, rfl, a, _, rfl, .inl (Same.lst e1 hs), _, _, rfl, rfl, _, rfl, ?_⟩) ?_
        · rw [decide_eq_true (by rw [lp]; omega)]
          exact hQ
        · refine ⟨(by decide : 2 ≤ sizeLine), fun p np => hq p _ (Same.upd e1 np) (.inl (.inl upd_same))⟩
      · rw [if_neg h60] at eD
        refine sq_f (fun Q' hQ => ⟨_, rfl, a, _, rfl, .inl (Same.lst e1 hs), _, _, rfl, rfl, _, rfl, ?_⟩) ?_
        · rw [decide_eq_false (by rw [lp]; omega)]
          exact hQ
        refine ⟨_, rfl, a, _, rfl, Same.lst e1 hs, loop_n rws.length (fun i σ H2 => ∃ (v1 v2 v3 : Option V) (least : Int) (v5 v6 v7 v8 : Option V), σ = [some (.ref a), v1, v2, v3, some (.int least), v5, v6, v7, v8, none] ∧ Same H H2 ∧ dueFrom 0 0 rws = dueFrom i least (rws.drop i)) ⟨_, _, _, 0, _, _, _, _, rfl, e1, rfl⟩ (fun σ H2 hv => ?_) fun i σ H2 hi hv => ?_⟩
        · obtain ⟨v1, v2, v3, least, v5, v6, v7, v8, rfl, e2, eu⟩ := hv
          refine ⟨⟨_, Same.lst e2 hs, by rw [lp]; exact Nat.le_refl _⟩, ?_⟩
          rw [List.drop_length] at eu
          have eu : dueFrom 0 0 rws = none := eu
          rw [eu] at eD
          rw [eD] at hq
          exact ⟨(by decide : 0 ≤ sizeLine), fun p np => hq p _ (Same.upd e2 np) (.inl (.inl upd_same))⟩
        · obtain ⟨v1, v2, v3, least, v5, v6, v7, v8, rfl, e2, eu⟩ := hv
          have gr : rws[i]? = some rws[i] := List.getElem?_eq_getElem hi
          obtain ⟨q, gq⟩ := get_len hl.symm gr
          have gv : (ps.map V.ref)[i]? = some (.ref q) := by rw [List.getElem?_map, gq]; rfl
          have hWs := hp i q _ gq gr
          have hwo := hw _ (List.getElem_mem hi)
          have hlo := hline _ (List.getElem_mem hi)
          rw [drop_get gr] at eu
          generalize rws[i] = ws at gr hWs hwo hlo eu
          obtain ⟨_, _, l7, hn0, hF, hF2, _⟩ := line_ok hlo
          refine ⟨⟨_, _, Same.lst e2 hs, gv⟩, fun x H3 hy => ?_⟩
          obtain ⟨T1, x1, rfl, nT, rfl, hx1⟩ := hy
          have ex : x1 = .ref q := by
            have z := hx1 _ (Same.lst e2 hs)
            rw [gv] at z
            exact (Option.some.inj z).symm
          subst ex
          have e3 : Same H (upd H2 T1 (.tup [.int (i : Nat), .ref q])) := Same.upd e2 nT
          have get : ∀ j, j < ws.length → (vstrs ws)[j]? = some (.str (ws.getD j "")) := fun j hj => by
            unfold vstrs
            rw [List.getElem?_map, List.getD_eq_getElem?_getD, List.getElem?_eq_getElem hj]
            rfl
          have hq3 := Same.lst e3 hWs
          obtain ⟨i1, i2⟩ := int_num hn0
          refine ⟨T1, _, rfl, .inl (.inl upd_same), rfl, _, _, rfl, _, _, rfl, rfl, ?_⟩
          refine ⟨_, rfl, q, _, _, _, rfl, rfl, hq3, atI_nat (j := 0) (get 0 (by omega)), _, _, rfl, i1, i2, _, rfl, q, _, _, _, rfl, rfl, hq3, atI_nat (j := 1) (get 1 (by omega)), rfl, (by decide : 2 ≤ sizeLine), fun p4 n4 => ?_⟩
          have e4 := Same.upd (o := .tup [.int (numVal (ws.getD 0 "")), .bl (!decide (V.str (ws.getD 1 "") = V.str "none"))]) e3 n4
          have efd : (!decide (V.str (ws.getD 1 "") = V.str "none")) = isFound ws := by
            unfold isFound
            rw [decS]
          rw [efd] at e4 ⊢
          generalize hfd : isFound ws = fd at *
          refine ⟨p4, _, rfl, .inl (.inl upd_same), rfl, _, _, rfl, _, _, rfl, rfl, ?_⟩
          dsimp only
          refine asg_to (.bl (inB (numVal (ws.getD 0 "")) least 59 && (decide (0 < i) || decide (numVal (ws.getD 0 "") = 0)))) (fun Q' hQ => ?_) ?_
          · unfold inB at hQ
            refine ⟨_, rfl, _, rfl, _, _, rfl, rfl, _, rfl, iteTest (fun c => ?_) fun c => ?_⟩
            · rw [c] at hQ
              refine ⟨_, _, rfl, rfl, _, rfl, iteTest (fun c2 => ?_) fun c2 => ?_⟩
              · rw [c2] at hQ
                refine ⟨_, rfl, _, _, rfl, rfl, _, rfl, iteTest (fun c3 => ?_) fun c3 => ?_⟩
                · have c3' : decide (0 < i) = true := decide_eq_true (by have q := of_decide_eq_true c3; omega)
                  rw [c3'] at hQ
                  exact hQ
                · have c3' : decide (0 < i) = false := decide_eq_false (by have q := of_decide_eq_false c3; omega)
                  rw [c3'] at hQ
                  refine ⟨_, rfl, rfl, ?_⟩
                  have z : decide (V.int (numVal (ws.getD 0 "")) = V.int 0) = decide (numVal (ws.getD 0 "") = 0) := decide_eq_decide.mpr ⟨fun h => V.int.inj h, fun h => congrArg V.int h⟩
                  rw [z]
                  exact hQ
              · rw [c2] at hQ
                exact hQ
            · rw [c] at hQ
              refine ⟨_, rfl, ?_⟩
              rw [if_neg Bool.false_ne_true]
              exact hQ
          generalize hg1 : (inB (numVal (ws.getD 0 "")) least 59 && (decide (0 < i) || decide (numVal (ws.getD 0 "") = 0))) = g1
          refine asg_to (.bl (g1 && (!fd || inB (numVal (ws.getD 2 "")) (-64) 128))) (fun Q' hQ => ?_) ?_
          · refine ⟨_, rfl, _, rfl, ?_⟩
            cases g1 with
            | false => exact iteF hQ
            | true =>
              refine iteT ⟨_, rfl, _, rfl, ?_⟩
              cases fd with
              | false =>
                exact ⟨_, rfl, iteT hQ⟩
              | true =>
                obtain ⟨l8, hn2⟩ := hF2 rfl
                obtain ⟨j1, j2⟩ := int_num hn2
                unfold inB at hQ
                refine ⟨_, rfl, iteF ⟨_, rfl, _, rfl, q, _, _, _, rfl, rfl, Same.lst e4 hWs, atI_nat (j := 2) (get 2 (by omega)), _, _, rfl, j1, j2, _, _, rfl, rfl, _, rfl, iteTest (fun c => ?_) fun c => ?_⟩⟩
                · rw [c] at hQ
                  exact ⟨_, _, rfl, rfl, hQ⟩
                · rw [c] at hQ
                  exact hQ
          generalize hg2 : (g1 && (!fd || inB (numVal (ws.getD 2 "")) (-64) 128)) = g2
          have hgr : goodRow i least ws = (g2 && (ws.drop (ws.length - 5)).all fun z => whereRight z fd) := by
            unfold goodRow
            rw [hfd, hg1, hg2]
          have lt : (ws.drop (ws.length - 5)).length = 5 := by rw [List.length_drop]; omega
          refine ⟨_, rfl, _, rfl, _, rfl, q, _, rfl, Same.lst e4 hWs, fun L nL => ⟨_, rfl, ⟨_, .inl (.inl upd_same)⟩, ?_⟩⟩
          rw [cutV_last ws (by omega)]
          have e5 : Same H (upd (upd (upd H2 T1 (.tup [.int (i : Nat), .ref q])) p4 (.tup [.int (numVal (ws.getD 0 "")), .bl fd])) L (.lst (vstrs (ws.drop (ws.length - 5))))) := Same.upd e4 nL
          refine fun D nD => ?_
          refine lc_listJ (S := []) (xs := vstrs (ws.drop (ws.length - 5))) (fun j acc _ => acc = vstrs (((ws.drop (ws.length - 5)).take j).filter fun z => !whereRight z fd)) (fun H5 k => Same.lst k.same (.inl (.inl upd_same))) (by unfold vstrs; rw [List.length_map, lt]; decide) nD (by simp) (fun _ _ _ _ _ _ j => j) rfl (fun j x hx acc H5 Q2 N k hD jj hy hn => ?_) fun ys H5 k hD jj => ?_
          · obtain ⟨z, gz, rfl⟩ := map_get hx
            have hzm : okW z := hwo.2 z (List.mem_of_mem_drop (List.mem_of_getElem? gz))
            have et : (ws.drop (ws.length - 5)).take (j + 1) = (ws.drop (ws.length - 5)).take j ++ [z] := take_snoc gz
            refine ⟨rfl, _, rfl, _, rfl, z, fd, rfl, hzm, fun H6 e6 => ⟨_, rfl, ?_⟩⟩
            have k6 : Kp [] H5 H6 := fun b o _ h => e6 b o h
            cases hr2 : whereRight z fd with
            | true =>
              refine iteF (hn _ k6 ?_)
              dsimp only
              rw [et, List.filter_append, jj]
              simp [hr2]
            | false =>
              refine iteT ⟨_, rfl, hy _ _ k6 ?_⟩
              dsimp only
              rw [et, List.filter_append, jj]
              simp [hr2, vstrs]
          · have e6 : Same H H5 := e5.trans k.same
            rw [show (vstrs (ws.drop (ws.length - 5))).length = (ws.drop (ws.length - 5)).length by unfold vstrs; rw [List.length_map], List.take_length] at jj
            dsimp only [gName]
            generalize hW : (ws.drop (ws.length - 5)).filter (fun z => !whereRight z fd) = W at *
            have hWe : W.isEmpty = (ws.drop (ws.length - 5)).all fun z => whereRight z fd := by
              rw [← hW]
              exact filter_nilA
            have hWo : ∀ s ∈ W, PyData.strOk s = true := fun s hs => by
              rw [← hW] at hs
              exact okW_strOk (hwo.2 s (List.mem_of_mem_drop (List.mem_filter.mp hs).1))
            refine sq_frN (!goodRow i least ws) (fun Q' hQ => ⟨_, rfl, _, rfl, ?_⟩) (fun hb H6 e7 => ?_) fun hb H6 e7 => ?_
            · rw [hgr] at hQ
              cases g2 with
              | false => exact iteT (hQ _ (Same.refl _))
              | true =>
                refine iteF ⟨_, rfl, (by decide : 0 ≤ sizeLine), fun p np => ?_⟩
                have ep := Same.upd (o := .lst []) (Same.refl H5) np
                refine ⟨_, _, .lst (.inl (.inl (ep _ _ hD))) (by rw [jj]; exact dp_strs _), .lst (.inl (.inl upd_same)) .nil, shaped_strs hWo, shaped_strs (cs := []) (by simp), _, rfl, ?_⟩
                rw [eqv_nil, List.isEmpty_map, hWe]
                have z := hQ _ ep
                rw [Bool.true_and] at z
                exact z
            · have hG := (Bool.not_eq_true' _).mp hb
              have eu : dueFrom 0 0 rws = some i := by
                rw [eu]
                show (if goodRow i least ws = true then _ else some i) = some i
                rw [hG]
                rfl
              rw [eu] at eD
              rw [eD] at hq
              refine ⟨_, rfl, (by decide : 2 ≤ sizeLine), fun p np => hq p _ (Same.upd (e6.trans e7) np) (.inl (.inl upd_same))⟩
            · have hG := (Bool.not_eq_false' _).mp hb
              have eu : dueFrom 0 0 rws = dueFrom (i + 1) (numVal (ws.getD 0 "") + 1) (rws.drop (i + 1)) := by
                rw [eu]
                show (if goodRow i least ws = true then dueFrom (i + 1) (numVal (ws.getD 0 "") + 1) (rws.drop (i + 1)) else some i) = _
                rw [hG]
                rfl
              exact ⟨_, rfl, _, _, rfl, rfl, _, _, _, _, _, _, _, _, rfl, e6.trans e7, eu⟩
    · obtain ⟨u1, u2, u3, rfl, e1, ef⟩ := hv
      have gr : rws[i]? = some rws[i] := List.getElem?_eq_getElem hi
      obtain ⟨q, gq⟩ := get_len hl.symm gr
      have gv : (ps.map V.ref)[i]? = some (.ref q) := by rw [List.getElem?_map, gq]; rfl
      have hWs := hp i q _ gq gr
      have hwo := hw _ (List.getElem_mem hi)
      rw [drop_get gr] at ef
      generalize rws[i] = ws at gr hWs hwo ef
      have ef : faultFrom 0 rws = (match lineFault ws with | some f => some (i + 1, f) | none => faultFrom (i + 1) (rws.drop (i + 1))) := ef
      refine ⟨⟨_, _, Same.lst e1 hs, gv⟩, fun x H2 hy => ?_⟩
      obtain ⟨T1, x1, rfl, nT, rfl, hx1⟩ := hy
      have ex : x1 = .ref q := by
        have z := hx1 _ (Same.lst e1 hs)
        rw [gv] at z
        exact (Option.some.inj z).symm
      subst ex
      have e2 : Same H (upd H1 T1 (.tup [.int (i : Nat), .ref q])) := Same.upd e1 nT
      refine ⟨T1, _, rfl, .inl (.inl upd_same), rfl, _, _, rfl, _, _, rfl, rfl, ?_⟩
      refine ⟨_, rfl, q, ws, rfl, Same.lst e2 hWs, hwo, fun H3 e3 => ?_⟩
      dsimp only [gName]
      cases hf : lineFault ws with
      | none =>
        rw [hf] at ef
        exact ⟨_, rfl, rfl, _, rfl, iteF ⟨_, _, _, rfl, e2.trans e3, ef⟩⟩
      | some f =>
        rw [hf] at ef
        refine ⟨_, rfl, rfl, _, rfl, iteT ⟨_, rfl, _, _, rfl, rfl, _, rfl, (by decide : 3 ≤ sizeLine), fun p np => ?_⟩⟩
        have eD : dueOf rws = .text (i + 1) f := by
          unfold dueOf
          rw [ef]
        rw [eD] at hq
        exact hq p _ (Same.upd (e2.trans e3) np) (.inl (.inl upd_same))
end
end K39
set_option Elab.async false
set_option linter.all false
set_option maxRecDepth 100000
set_option maxHeartbeats 4000000
namespace K39
open PySem PySem.Spec PyProof.Rows L2
/-- a clean word -/
def okV (z : Str) : Prop := z.length ≤ 20 ∧ ∀ c ∈ cpl z, c < 128 ∧ c ≠ 32 ∧ c ≠ 10
def okVb (z : Str) : Bool := decide (z.length ≤ 20) && (cpl z).all fun c => decide (c < 128) && (!decide (c = 32) && !decide (c = 10))
theorem okV_of {z : Str} (h : okVb z = true) : okV z := by
  unfold okVb at h
  simp only [Bool.and_eq_true, decide_eq_true_eq, List.all_eq_true, Bool.not_eq_true', decide_eq_false_iff_not] at h
  exact ⟨h.1, fun c hc => h.2 c hc⟩
theorem okV_int {i : Int} (h1 : -64 ≤ i) (h2 : i ≤ 1000) : okV (toString i : Str) := by
  have all : ∀ k : Fin 1065, okVb (toString ((k.val : Int) - 64) : Str) = true := by decide +kernel
  have z := all ⟨(i + 64).toNat, by omega⟩
  have e : (((⟨(i + 64).toNat, by omega⟩ : Fin 1065).val : Nat) : Int) - 64 = i := by
    show (((i + 64).toNat : Nat) : Int) - 64 = i
    omega
  rw [e] at z
  exact okV_of z
theorem okV_chr {c : Nat} (h : c ∈ cpl "pqrsxy") : okV (⟨#[c]⟩ : Str) := by
  have all : ∀ c ∈ cpl "pqrsxy", okVb (⟨#[c]⟩ : Str) = true := by decide +kernel
  exact okV_of (all c h)
def wsFine (ws : List Str) : Prop := 7 ≤ ws.length ∧ ws.length ≤ 8 ∧ ∀ z ∈ ws, okV z
section
variable {P : Program} {w : World} {K : PySem.W.Frag} {mg : Str → Option Value} {base : Heap}
/-- str of a number -/
theorem call_str_intZ {X : Cx} : CallR X (.type "str") (fun xs H Q => ∃ i : Int, xs = [.int i] ∧ -64 ≤ i ∧ i ≤ 1000 ∧ Q (.str (toString i)) H) := by
  intro pins s σ H xs us Q I r h
  obtain ⟨i, rfl, h1, h2, q⟩ := h
  refine call_str_int pins s σ H _ us Q I r ⟨i, rfl, ?_, q⟩
  have : i.natAbs.log2 ≤ 1000 := by
    by_cases z : i.natAbs = 0
    · rw [z]; decide
    · have := Nat.log2_self_le z
      have h3 : i.natAbs.log2 < 2 ^ i.natAbs.log2 := Nat.lt_two_pow_self
      omega
  omega
theorem eqQ {X : Cx} {K : PySem.W.Frag} (hu : X.A.units + 64 < cLine) (h : X.K = K := by rfl) : OpR X (compareOp .Eq) (rEqD K) := by
  subst h
  exact op_eqD hu
theorem scLawWords : FnScope ["table", "rows", "at", "finding", "places", "words", "where"] ["table"] (defScope sLawWords) := ⟨rfl, rfl, rfl, by decide +kernel, rfl, by decide +kernel, by decide +kernel⟩
def spLWords (K : PySem.W.Frag) : Sp := fun vs H Q _ => ∃ (a : Addr) (as : List Addr) (rs : List Row), vs = [.ref a] ∧ SqT K H a (as.map V.ref) ∧ RowsAt K H as rs ∧ rs.length ≤ 60 ∧ (∀ r ∈ rs, rowFine r) ∧ ∀ (p : Addr) (rws : List (List Str)) H', Same H H' → RwsAt K H' p rws → rws.length = rs.length → (∀ ws ∈ rws, wsFine ws) → Q (.ref p) H'
theorem ok_lwords (T : Tx K mg) : Ok P w K mg base CX0 2 "_law_words" ["table"] (spLWords K) := by
  refine T.ok0 31 rfl T.g__law_words scLawWords (fun vs H Q E h => ?_) (fun _ _ _ _ _ _ us hl => match us, hl with | [_], _ => rfl) fun cdv A outer s H vs Q E hr h => ?_
  · obtain ⟨a, as, rs, rfl, _⟩ := h
    rfl
  · obtain ⟨a, as, rs, rfl, hs, hR, hz, hf, hq⟩ := h
    refine ⟨_, (pss_cons (ps_set (i := 1) scLawWords.nd rfl (Or.inl rfl) (pe_lst pa_nil))
      (pss_cons (ps_for PassesOwn.never rfl (pi_tup (pv 0)) (pg_tup rfl (pgs_cons (pg_name (i := 2) scLawWords.nd rfl (Or.inl rfl)) (pgs_cons (pg_name (i := 3) scLawWords.nd rfl (Or.inl rfl)) (pgs_cons (pg_name (i := 4) scLawWords.nd rfl (Or.inl rfl)) pgs_nil)))) (pss_cons (ps_set (i := 5) scLawWords.nd rfl (Or.inl rfl) (pe_op op_cat (pe_lst (pa_cons (pe_callTy call_str_intZ (by rfl) T.n_str PyProof.Rows.boot_str (pa_cons (pv 2) pa_nil)) pa_nil)) (pe_ifExp (pt_cmpR op_isN (pv 3) pe_non (nomark _)) (pe_lst (pa_cons pe_str pa_nil)) (pe_lst (pa_cons (pe_ix ix_tup (pv 3) pe_int (fun _ _ => rfl)) (pa_cons (pe_callTy call_str_intZ (by rfl) T.n_str PyProof.Rows.boot_str (pa_cons (pe_ix ix_tup (pv 3) pe_int (fun _ _ => rfl)) pa_nil)) pa_nil))))))
      (pss_one (ps_expr (pe_bm PySem.F.plainAttrs_list PySem.F.slot_list_append PySem.F.type_list_append mt_append (pv 1) (pa_cons (pe_op op_cat (pv 5) (pe_lc (own := [("where", 6)]) rfl scLawWords.nd (pi_tup (pv 4)) (blkOk_by (N := ["table", "rows", "at", "finding", "places", "words", "where"]) (sc := defScope sLawWords) (by decide +kernel)) (fun _ _ _ _ _ => (pg_name (i := 6) scLawWords.nd rfl (Or.inl rfl))) (fun _ _ _ _ _ => pts_nil) (fun _ _ _ _ _ => (pe_ifExp (pt_cmpR (eqQ (un64 hr)) (pv 6) (pe_tup (pa_cons pe_str pa_nil)) (nomark _)) pe_str (pe_callTy (callOr call_str_intZ SkE.call_str_str) (by rfl) T.n_str PyProof.Rows.boot_str (pa_cons (pe_ix (ixT (K := K)) (pv 6) pe_int (fun _ _ => rfl)) pa_nil)))))) pa_nil))))))
      (pss_one (ps_ret (pv 1))))), ?_⟩
    refine ⟨by decide, fun D nD => ?_⟩
    have e0 : Same H (upd H D (.lst [])) := Same.upd (Same.refl H) nD
    refine ⟨_, rfl, a, rfl, ⟨_, Same.tup e0 hs⟩, loop_n rs.length (fun i σ H1 => ∃ (u2 u3 u4 u5 : Option V) (ps : List Addr) (rws : List (List Str)), σ = [some (.ref a), some (.ref D), u2, u3, u4, u5, none] ∧ Same H H1 ∧ H1 D = some (.lst (ps.map V.ref)) ∧ (∀ q ∈ ps, q ≠ D) ∧ ps.length = i ∧ rws.length = i ∧ (∀ (j : Nat) (q : Addr) (ws : List Str), ps[j]? = some q → rws[j]? = some ws → SqL K H1 q (vstrs ws)) ∧ ∀ ws ∈ rws, wsFine ws) ⟨none, none, none, none, [], [], rfl, e0, upd_same, by simp, rfl, rfl, by simp, by simp⟩ (fun σ H1 hv => ?_) fun i σ H1 hi hv => ?_⟩
    · obtain ⟨u2, u3, u4, u5, ps, rws, rfl, e1, hD, hnD, hl1, hl2, hA, hF⟩ := hv
      refine ⟨⟨_, Same.tup e1 hs, by rw [List.length_map, hR.1]; exact Nat.le_refl _⟩, ?_⟩
      exact ⟨_, rfl, hq D rws H1 e1 ⟨ps, .inl (.inl hD), by rw [hl1, hl2], hA⟩ hl2 hF⟩
    · obtain ⟨u2, u3, u4, u5, ps, rws, rfl, e1, hD, hnD, hl1, hl2, hA, hF⟩ := hv
      obtain ⟨r, gr⟩ : ∃ r, rs[i]? = some r := ⟨rs[i], List.getElem?_eq_getElem hi⟩
      obtain ⟨q, gq⟩ := get_len hR.1.symm gr
      have gv : (as.map V.ref)[i]? = some (.ref q) := by rw [List.getElem?_map, gq]; rfl
      obtain ⟨fv, tw, qs, r1, r2, r3, r4, r5⟩ := hR.2 i q r gq gr
      obtain ⟨f1, f2, f3, f4⟩ := hf r (List.mem_of_getElem? gr)
      refine ⟨⟨_, _, Same.tup e1 hs, gv⟩, fun x H3 hy => ?_⟩
      obtain ⟨rfl, hx⟩ := hy
      have ex := hx _ (Same.tup e1 hs)
      rw [gv] at ex
      obtain rfl := (Option.some.inj ex).symm
      refine ⟨q, _, rfl, Same.tup e1 r1, rfl, _, _, rfl, _, _, rfl, _, _, rfl, rfl, ?_⟩
      have hsp := okV_int (i := r.spot) (by omega) f2
      dsimp only
      refine seqJ (fun σ' H' => ∃ (W : Addr) (vs : List Str), σ' = [some (.ref a), some (.ref D), some (.int r.spot), some fv, some (.ref tw), some (.ref W), none] ∧ Same H3 H' ∧ H3 W = none ∧ H' W = some (.lst (vstrs vs)) ∧ 2 ≤ vs.length ∧ vs.length ≤ 3 ∧ ∀ z ∈ vs, okV z) (fun K' hK => ?_) (fun σ' H' hR => ?_)
      · refine ⟨_, rfl, _, rfl, by omega, f2, (by decide : 1 ≤ sizeLine), fun L1 n1 => ?_⟩
        have a2 : Same H3 (upd H3 L1 (.lst (vstrs [toString r.spot]))) := Same.upd (Same.refl _) n1
        cases hfd : r.fnd with
        | none =>
          rw [hfd] at r2
          obtain rfl : fv = .non := r2
          refine ⟨_, rfl, rfl, _, rfl, iteT ⟨(by decide : 1 ≤ sizeLine), fun L2 n2 => ?_⟩⟩
          have a3 := Same.upd (o := .lst (vstrs ["none"])) a2 n2
          refine ⟨_, _, _, _, rfl, rfl, (Same.upd (Same.refl _) n2) _ _ upd_same, upd_same, (by decide : 1 + 1 ≤ sizeLine), fun p np => hK _ _ ⟨p, [toString r.spot, "none"], rfl, Same.upd a3 np, Same.free a3 np, upd_same, (by decide : 2 ≤ 2), (by decide : 2 ≤ 3), ?_⟩⟩
          intro z hz
          simp only [List.mem_cons, List.not_mem_nil, or_false] at hz
          rcases hz with rfl | rfl
          · exact hsp
          · exact okV_of (by decide +kernel)
        | some q0 =>
          obtain ⟨bs, n⟩ := q0
          rw [hfd] at r2 f3
          obtain ⟨fa, rfl, r2⟩ := r2
          obtain ⟨g1, g2, g3⟩ := f3
          have a2' := e1.trans a2
          refine ⟨_, rfl, rfl, _, rfl, iteF ⟨_, rfl, fa, _, _, _, rfl, rfl, Same.tup a2' r2, atI_nat (j := 0) rfl, _, rfl, fa, _, _, _, rfl, rfl, Same.tup a2' r2, atI_nat (j := 1) rfl, _, rfl, g2, by omega, (by decide : 2 ≤ sizeLine), fun L2 n2 => ?_⟩⟩
          have a3 := Same.upd (o := .lst (vstrs [bs, toString n])) a2 n2
          refine ⟨_, _, _, _, rfl, rfl, (Same.upd (Same.refl _) n2) _ _ upd_same, upd_same, (by decide : 1 + 2 ≤ sizeLine), fun p np => hK _ _ ⟨p, [toString r.spot, bs, toString n], rfl, Same.upd a3 np, Same.free a3 np, upd_same, (by decide : 2 ≤ 3), (by decide : 3 ≤ 3), ?_⟩⟩
          intro z hz
          simp only [List.mem_cons, List.not_mem_nil, or_false] at hz
          rcases hz with rfl | rfl | rfl
          · exact hsp
          · have all : ∀ b ∈ (["sp", "sp", "p", "q", "y"] : List Str), okVb b = true := by decide +kernel
            exact okV_of (all _ g1)
          · exact okV_int g2 (by omega)
      · obtain ⟨W, vs, rfl, e3, nW, hW, v1, v2, v3⟩ := hR
        have hD3 := e3 _ _ hD
        have e13 := e1.trans e3
        have l5 : (qs.map V.ref).length = 5 := by rw [List.length_map, r4.1, r5]
        refine ⟨_, rfl, .inl ⟨rfl, _, .inl (.inl hD3)⟩, ?_⟩
        refine ⟨_, rfl, _, rfl, tw, rfl, ⟨_, Same.tup e13 r3⟩, fun D2 nD2 => ?_⟩
        refine lc_tupJ (S := []) (fun j acc _ => ∃ ys : List Str, acc = vstrs ys ∧ ys.length = j ∧ ∀ z ∈ ys, okV z) (Same.tup e13 r3) (fun H6 k => Same.tup k.same (Same.tup e13 r3)) (by rw [l5]; decide) nD2 (by simp) (fun _ _ _ _ _ _ j => j) ⟨[], rfl, rfl, by simp⟩ (fun j x hx acc H6 Q2 N k hD6 jj hy hn => ?_) fun ys H6 k hD6 jj => ?_
        · obtain ⟨ys, rfl, hyl, hyv⟩ := jj
          obtain ⟨p1, gp1, rfl⟩ := map_get hx
          obtain ⟨wh, gwh⟩ := get_len r4.1 gp1
          have hwh := Same.tup (e13.trans k.same) (r4.2 j p1 wh gp1 gwh)
          have fwh := f4 wh (List.mem_of_getElem? gwh)
          have snoc : ∀ (z : Str), okV z → ∃ ys' : List Str, vstrs ys ++ [V.str z] = vstrs ys' ∧ ys'.length = j + 1 ∧ ∀ z' ∈ ys', okV z' := fun z hz => ⟨ys ++ [z], by unfold vstrs; rw [List.map_append]; rfl, by rw [List.length_append, hyl]; rfl, fun z' hz' => by
            rcases List.mem_append.mp hz' with h | h
            · exact hyv z' h
            · rw [List.mem_singleton.mp h]; exact hz⟩
          refine lc_yes rfl ⟨_, rfl, (by decide : 1 ≤ sizeLine), fun T2 nT2 => ?_⟩
          have k7 : Kp [] H6 (upd H6 T2 (.tup [.str "lost"])) := Kp.upd (Kp.refl _ _) nT2
          have hwh7 := Same.tup k7.same hwh
          have hlo : Dp K (upd H6 T2 (.tup [.str "lost"])) (.ref T2) (.tuple [.str "lost"]) := .tup (.inl (.inl upd_same)) (.cons (.str _) .nil)
          cases wh with
          | lost =>
            refine ⟨_, _, .tup hwh7 (.cons (.str _) .nil), hlo, by decide +kernel, by decide +kernel, _, rfl, ?_⟩
            rw [show PyData.eqv (.tuple [.str "lost"]) (.tuple [.str "lost"]) = true by decide +kernel]
            exact iteT (hy _ _ k7 (snoc "lost" (okV_of (by decide +kernel))))
          | inn z =>
            obtain ⟨c, hc, rfl⟩ := fwh
            have hok := okV_chr hc
            have sh : SeqAt.shaped (.tuple [.str "in", .str ⟨#[c]⟩]) = true := by
              have all : ∀ c ∈ cpl "pqrsxy", SeqAt.shaped (.tuple [.str "in", .str ⟨#[c]⟩]) = true := by decide +kernel
              exact all c hc
            refine ⟨_, _, .tup hwh7 (.cons (.str _) (.cons (.str _) .nil)), hlo, sh, by decide +kernel, _, rfl, ?_⟩
            rw [show PyData.eqv (.tuple [.str "in", .str ⟨#[c]⟩]) (.tuple [.str "lost"]) = false by simp [PyData.eqv, PyData.eqvAll]]
            exact iteF ⟨_, rfl, p1, _, _, _, rfl, rfl, hwh7, atI_nat (j := 1) rfl, .inr ⟨_, rfl, hy _ _ k7 (snoc _ hok)⟩⟩
          | wrd n =>
            obtain ⟨g1, g2⟩ := fwh
            refine ⟨_, _, .tup hwh7 (.cons (.str _) (.cons (.int _) .nil)), hlo, by simp [SeqAt.shaped, PyData.canLay0, PyData.canLayAll0, PyData.depth, PyData.depthAll]; decide +kernel, by decide +kernel, _, rfl, ?_⟩
            rw [show PyData.eqv (.tuple [.str "word", .int n]) (.tuple [.str "lost"]) = false by simp [PyData.eqv, PyData.eqvAll]]
            exact iteF ⟨_, rfl, p1, _, _, _, rfl, rfl, hwh7, atI_nat (j := 1) rfl, .inl ⟨_, rfl, g1, by omega, hy _ _ k7 (snoc _ (okV_int g1 (by omega)))⟩⟩
        · obtain ⟨ys, rfl, hyl, hyv⟩ := jj
          rw [l5] at hyl
          have lv : (vstrs vs).length = vs.length := by unfold vstrs; rw [List.length_map]
          have ly : (vstrs ys).length = ys.length := by unfold vstrs; rw [List.length_map]
          refine ⟨W, D2, _, _, rfl, rfl, k.same _ _ hW, hD6, by rw [lv, ly, hyl, sizeLine_eq]; omega, fun p np => ?_⟩
          have hD6' := k.same _ _ hD3
          have npD : p ≠ D := fun z => by rw [z, hD6'] at np; cases np
          have e7 := Same.upd (o := .lst (vstrs vs ++ vstrs ys)) (e13.trans k.same) np
          have e7' := Same.upd (o := .lst (vstrs vs ++ vstrs ys)) (e3.trans k.same) np
          have hD7 := e7' _ _ hD
          refine ⟨D, _, _, rfl, rfl, hD7, ?_, ?_⟩
          · rw [List.length_map, hl1, sizeLine_eq]
            omega
          refine ⟨_, _, _, _, ps ++ [p], rws ++ [vs ++ ys], rfl, Same.own e7 nD, ?_, ?_, by rw [List.length_append, hl1]; rfl, by rw [List.length_append, hl2]; rfl, ?_, ?_⟩
          · rw [upd_same, List.map_append]
            rfl
          · intro q' hq'
            rcases List.mem_append.mp hq' with h | h
            · exact hnD q' h
            · rw [List.mem_singleton.mp h]; exact npD
          · intro j q' ws' h1 h2
            rcases get_snoc h1 with h1 | ⟨ej, ea⟩
            · have lj : j < rws.length := by
                have := (List.getElem?_eq_some_iff.mp h1).1
                omega
              rw [List.getElem?_append_left lj] at h2
              exact SqL.updL (hnD q' (List.mem_of_getElem? h1)) (Same.lst e7' (hA j q' ws' h1 h2))
            · subst ea
              rw [ej, hl1, ← hl2, List.getElem?_append_right (Nat.le_refl _), Nat.sub_self] at h2
              cases h2
              refine SqL.updL npD ?_
              have z : vstrs (vs ++ ys) = vstrs vs ++ vstrs ys := by unfold vstrs; rw [List.map_append]
              rw [z]
              exact .inl (.inl upd_same)
          · intro ws' h
            rcases List.mem_append.mp h with h | h
            · exact hF ws' h
            · rw [List.mem_singleton.mp h]
              refine ⟨by rw [List.length_append]; omega, by rw [List.length_append]; omega, fun z hz => ?_⟩
              rcases List.mem_append.mp hz with h | h
              · exact v3 z h
              · exact hyv z h
end
end K39
set_option Elab.async false
set_option linter.all false
set_option maxRecDepth 100000
set_option maxHeartbeats 4000000
namespace K39
open PySem PySem.Spec PyProof.Rows L2
theorem listQ {X : Cx} {K : PySem.W.Frag} (h : X.K = K := by rfl) : CallR X (.type "list") (fun xs H Q => ∃ p ys, xs = [.ref p] ∧ (SqL K H p ys ∨ SqT K H p ys) ∧ ∀ l, H l = none → Q (.ref l) (upd H l (.lst ys))) := by
  subst h
  exact call_list_of
theorem fresh_dl {H : Hp} {d cl lf : Addr} {n a : Nat} {q : Addr} (st : StAt H d cl lf n a) (hq : H q = none) : q ∉ [d, lf] := by
  obtain ⟨ls, l1, _⟩ := st.lefts
  intro h
  simp only [List.mem_cons, List.not_mem_nil, or_false] at h
  rcases h with rfl | rfl
  · rw [st.dict] at hq; cases hq
  · rw [l1] at hq; cases hq
theorem StAt.updF {H H0 : Hp} {d cl lf : Addr} {n a a' : Nat} {q : Addr} {o : HO} (st0 : StAt H0 d cl lf n a) (hq : H0 q = none) (st : StAt H d cl lf n a') : StAt (upd H q o) d cl lf n a' := by
  obtain ⟨cs0, c1, _⟩ := st0.cells
  obtain ⟨ls0, l1, _⟩ := st0.lefts
  have n1 : d ≠ q := fun z => by rw [← z, st0.dict] at hq; cases hq
  have n2 : cl ≠ q := fun z => by rw [← z, c1] at hq; cases hq
  have n3 : lf ≠ q := fun z => by rw [← z, l1] at hq; cases hq
  obtain ⟨cs, c1, c2⟩ := st.cells
  obtain ⟨ls, l1, l2⟩ := st.lefts
  exact ⟨by rw [upd_ne n1]; exact st.dict, ⟨cs, by rw [upd_ne n2]; exact c1, c2⟩, ⟨ls, by rw [upd_ne n3]; exact l1, l2⟩, st.pos, st.apart⟩
theorem vstrs_set (ws : List Str) (c : Nat) (z : Str) : (vstrs ws).set c (.str z) = vstrs (ws.set c z) := by unfold vstrs; rw [List.map_set]
theorem vstrs_erase (ws : List Str) (c : Nat) : (vstrs ws).eraseIdx c = vstrs (ws.eraseIdx c) := by
  unfold vstrs
  induction ws generalizing c with
  | nil => rfl
  | cons a l ih =>
    cases c with
    | zero => rfl
    | succ c => simp [List.eraseIdx_cons_succ, ih]
theorem vstrs_ins (ws : List Str) (c : Nat) (z : Str) : (vstrs ws).take c ++ [.str z] ++ (vstrs ws).drop c = vstrs (ws.take c ++ [z] ++ ws.drop c) := by
  unfold vstrs
  rw [List.map_append, List.map_append, List.map_take, List.map_drop]
  rfl
theorem kp_own {S : List Addr} {H H1 : Hp} {q : Addr} {o : HO} (k : Kp S H H1) (hq : H q = Option.none) : Kp S H (upd H1 q o) := fun b o' hb h => by
  have : b ≠ q := fun z => by rw [z, hq] at h; cases h
  rw [upd_ne this]
  exact k b o' hb h
section
variable {P : Program} {w : World} {K : PySem.W.Frag} {mg : Str → Option Value} {base : Heap}
theorem scLawSpoilt : FnScope ["state", "rows", "found", "at", "words", "way", "odd", "k"] ["state", "rows"] (defScope sLawSpoilt) := ⟨rfl, rfl, rfl, by decide +kernel, rfl, by decide +kernel, by decide +kernel⟩
/-- a spoilt row -/
def wsSpoilt (ws : List Str) : Prop := 6 ≤ ws.length ∧ ws.length ≤ 9 ∧ ∀ z ∈ ws, okV z
def spLSpoilt (K : PySem.W.Frag) : Sp := fun vs H Q _ => ∃ (d cl lf : Addr) (n a : Nat) (p : Addr) (rws : List (List Str)), vs = [.ref d, .ref p] ∧ StAt H d cl lf n a ∧ a ≤ 900000 ∧ RwsAt K H p rws ∧ 1 ≤ rws.length ∧ rws.length ≤ 60 ∧ (∀ ws ∈ rws, wsFine ws) ∧
  ∀ (p : Addr) (rws' : List (List Str)) H', DrEnd d cl lf n a 4 H H' → RwsAt K H' p rws' → rws'.length = rws.length → (∀ ws ∈ rws', wsSpoilt ws) → Q (.ref p) H'
theorem ok_lspoilt (T : Tx K mg) : Ok P w K mg base CX0 4 "_law_spoilt" ["state", "rows"] (spLSpoilt K) := by
  have o_law_draw := ok_draw (P := P) (w := w) (base := base) T
  have o_law_of := ok_of (P := P) (w := w) (base := base) T
  refine T.ok0 32 rfl T.g__law_spoilt scLawSpoilt (fun vs H Q E h => ?_) (fun _ _ _ _ _ _ us hl => match us, hl with | [_, _], _ => rfl) fun cdv A outer s H vs Q E hr h => ?_
  · obtain ⟨d, cl, lf, n, a, p, rws, rfl, _⟩ := h
    rfl
  · obtain ⟨d, cl, lf, n, a, p, rws, rfl, hst, ha, ⟨ps, hs, hl, hA⟩, l1, l60, hF, hq⟩ := h
    refine ⟨_, (pss_cons (ps_setLc (i := 2) (own := [("words", 4)]) rfl scLawSpoilt.nd rfl rfl (sw_true rfl rfl rfl (by decide +kernel)) (pi_list (pv 1)) (blkOk_by (N := ["state", "rows", "found", "at", "words", "way", "odd", "k"]) (sc := defScope sLawSpoilt) (by decide +kernel)) (fun _ _ _ _ _ => (pg_name (i := 4) scLawSpoilt.nd rfl (Or.inl rfl))) (fun _ _ _ _ _ => pts_nil) (fun _ _ _ _ _ => (pe_callTy (listQ (K := K)) (by rfl) T.n_list PyProof.Rows.boot_list (pa_cons (pv 4) pa_nil))))
      (pss_cons (ps_set (i := 3) scLawSpoilt.nd rfl (Or.inl rfl) (pe_k o_law_draw hr (by decide) pass0 (pa_cons (pv 0) (pa_cons (pe_callB call_len_seq (by rfl) T.n_len PySem.boot_len (pa_cons (pv 2) pa_nil)) pa_nil))))
      (pss_cons (ps_swap2 (by rfl) scLawSpoilt.nd (i := 4) (j := 5) rfl rfl (Or.inl rfl) (Or.inl rfl) (pa_cons (pe_ix ix_list (pv 2) (pv 3) (fun _ _ => rfl)) (pa_cons (pe_k o_law_draw hr (by decide) pass0 (pa_cons (pv 0) (pa_cons pe_int pa_nil))) pa_nil)))
      (pss_cons (ps_set (i := 6) scLawSpoilt.nd rfl (Or.inl rfl) (pe_lst (pa_cons pe_str (pa_cons pe_str (pa_cons pe_str (pa_cons pe_str (pa_cons pe_str (pa_cons pe_str (pa_cons pe_str (pa_cons pe_str (pa_cons pe_str (pa_cons pe_str (pa_cons pe_str (pa_cons pe_str (pa_cons pe_str (pa_cons pe_str (pa_cons pe_str (pa_cons pe_str (pa_cons pe_str pa_nil)))))))))))))))))))
      (pss_cons (ps_set (i := 7) scLawSpoilt.nd rfl (Or.inl rfl) (pe_k o_law_draw hr (by decide) pass0 (pa_cons (pv 0) (pa_cons (pe_callB call_len_seq (by rfl) T.n_len PySem.boot_len (pa_cons (pv 4) pa_nil)) pa_nil))))
      (pss_cons (ps_if (pt_cmpR op_lt (pv 5) pe_int (nomark _)) (pss_one (ps_asg (pe_k o_law_of hr (by decide) pass0 (pa_cons (pv 0) (pa_cons (pv 6) pa_nil))) (pg_sub (pv 4) (pv 7) set_list))) (pss_one (ps_if (pt_cmpR op_eq (pv 5) pe_int (nomark _)) (pss_one (ps_expr (pe_bm PySem.F.plainAttrs_list PySem.F.slot_list_pop PySem.F.type_list_pop mt_popAt (pv 4) (pa_cons (pv 7) pa_nil)))) (pss_one (ps_expr (pe_bm PySem.F.plainAttrs_list PySem.F.slot_list_insert PySem.F.type_list_insert mt_insert (pv 4) (pa_cons (pv 7) (pa_cons (pe_k o_law_of hr (by decide) pass0 (pa_cons (pv 0) (pa_cons (pv 6) pa_nil))) pa_nil))))))))
      (pss_one (ps_ret (pv 2))))))))), ?_⟩
    have lp : (ps.map V.ref).length = rws.length := by rw [List.length_map, hl]
    refine ⟨_, rfl, p, rfl, ⟨_, hs⟩, fun D nD => ?_⟩
    refine lc_listJ (S := []) (xs := ps.map V.ref) (fun i acc H2 => ∃ qs : List Addr, acc = qs.map V.ref ∧ qs.length = i ∧ qs.Nodup ∧ (∀ q ∈ qs, q ≠ D ∧ H q = none ∧ ∃ o, H2 q = some o) ∧ ∀ (j : Nat) (q : Addr) (ws : List Str), qs[j]? = some q → rws[j]? = some ws → H2 q = some (.lst (vstrs ws)))
      (fun H2 k => Same.lst k.same hs) (by rw [lp, sizeLine_eq]; omega) nD (by simp) (fun i acc H2 l zs hD j => ?_) ⟨[], rfl, rfl, by simp, by simp, by simp⟩ (fun i x hx acc H2 Q2 N k hD j hy hn => ?_) fun ys H2 k hD j => ?_
    · obtain ⟨qs, h1, h2, h3, h4, h5⟩ := j
      refine ⟨qs, h1, h2, h3, fun q hq => ?_, fun j q ws g1 g2 => ?_⟩
      · obtain ⟨m1, m2, m3⟩ := h4 q hq
        exact ⟨m1, m2, by rw [upd_ne m1]; exact m3⟩
      · rw [upd_ne (h4 q (List.mem_of_getElem? g1)).1]
        exact h5 j q ws g1 g2
    · obtain ⟨p1, gp1, rfl⟩ := map_get hx
      obtain ⟨ws, gws⟩ := get_len hl gp1
      obtain ⟨qs, rfl, h2, h3, h4, h5⟩ := j
      have h1 := Same.lst k.same (hA i p1 ws gp1 gws)
      refine lc_yes rfl ⟨_, rfl, p1, _, rfl, .inl h1, fun q nq => hy _ _ (Kp.upd (Kp.refl _ _) nq) ⟨qs ++ [q], by rw [List.map_append]; rfl, by rw [List.length_append, h2]; rfl, ?_, ?_, ?_⟩⟩
      · refine List.nodup_append.mpr ⟨h3, by simp, fun x hx y hy => ?_⟩
        rw [List.mem_singleton.mp hy]
        intro z
        obtain ⟨_, _, o, ho⟩ := h4 x hx
        rw [z, nq] at ho
        cases ho
      · intro q' hq'
        rcases List.mem_append.mp hq' with h | h
        · obtain ⟨m1, m2, o, m3⟩ := h4 q' h
          exact ⟨m1, m2, o, Same.upd (Same.refl _) nq _ _ m3⟩
        · rw [List.mem_singleton.mp h]
          refine ⟨Ne.symm (ne_of_none hD nq), ?_, _, upd_same⟩
          cases qh : H q with
          | none => rfl
          | some o =>
            have z := k.same _ _ qh
            rw [nq] at z
            cases z
      · intro j q' ws' g1 g2
        rcases get_snoc g1 with g1 | ⟨ej, ea⟩
        · exact Same.upd (Same.refl _) nq _ _ (h5 j q' ws' g1 g2)
        · subst ea
          rw [ej, h2, gws] at g2
          cases g2
          exact upd_same
    · obtain ⟨qs, rfl, h2, h3, h4, h5⟩ := j
      rw [lp] at h2
      have st2 := hst.same k.same
      have nDm := fresh_dl hst nD
      have nqm : ∀ q ∈ qs, q ∉ [d, lf] := fun q hq => fresh_dl hst (h4 q hq).2.1
      have lq : (qs.map V.ref).length = rws.length := by rw [List.length_map, h2]
      refine ⟨_, rfl, _, rfl, D, _, rfl, .inl (.inl (.inl hD)), d, cl, lf, n, a, _, rfl, by rw [lq]; omega, by rw [lq]; omega, st2, by omega, fun at_ H3 at0 at1 k3 st3 => ?_⟩
      rw [lq] at at1
      have hD3 := k3 _ _ nDm hD
      obtain ⟨m, rfl⟩ : ∃ m : Nat, at_ = (m : Int) := ⟨at_.toNat, by omega⟩
      have hm : m < rws.length := by omega
      obtain ⟨ws, gws⟩ : ∃ ws, rws[m]? = some ws := ⟨rws[m], List.getElem?_eq_getElem hm⟩
      obtain ⟨q0, gq⟩ := get_len h2.symm gws
      have gv : (qs.map V.ref)[m]? = some (.ref q0) := by rw [List.getElem?_map, gq]; rfl
      have hqm := List.mem_of_getElem? gq
      obtain ⟨w1, w2, w3⟩ := hF ws (List.mem_of_getElem? gws)
      have lw : (vstrs ws).length = ws.length := by unfold vstrs; rw [List.length_map]
      refine ⟨_, rfl, _, rfl, D, _, _, _, rfl, rfl, .inl (.inl hD3), atI_nat (j := m) gv, _, rfl, d, cl, lf, n, a + 1, _, rfl, by omega, by omega, st3, by omega, fun way H4 wy0 wy1 k4 st4 => ⟨_, _, rfl, fun T1 nT1 => ?_⟩⟩
      have e5 := Same.upd (o := .tup [.ref q0, .int way]) (Same.refl H4) nT1
      refine ⟨(by decide : 17 ≤ sizeLine), fun O nO => ?_⟩
      have e6 := Same.upd (o := .lst ([V.str "", V.str "P", V.str "sp", V.str "65", V.str "-65", V.str "129", V.str "007", V.str "-0", V.str "12345", V.str "p", V.str "z", V.str "none", V.str "lost", V.str "0", V.str "60", V.str "-64", V.str "128"])) e5 nO
      have nOm := fresh_dl (st4.same e5) nO
      have k26 := (k3.trans k4).trans (Same.kp e6)
      have k06 : Kp [d, lf] H _ := ((Same.kp k.same).trans k26)
      have st6 := st4.same e6
      have hR6 : ∀ (j : Nat) (q : Addr) (ws : List Str), qs[j]? = some q → rws[j]? = some ws → upd (upd H4 T1 (.tup [.ref q0, .int way])) O (.lst ([V.str "", V.str "P", V.str "sp", V.str "65", V.str "-65", V.str "129", V.str "007", V.str "-0", V.str "12345", V.str "p", V.str "z", V.str "none", V.str "lost", V.str "0", V.str "60", V.str "-64", V.str "128"])) q = some (.lst (vstrs ws)) := fun j q ws g1 g2 => k26 _ _ (nqm q (List.mem_of_getElem? g1)) (h5 j q ws g1 g2)
      have hD6 := k26 _ _ nDm hD
      have hOV : ∀ z ∈ (["", "P", "sp", "65", "-65", "129", "007", "-0", "12345", "p", "z", "none", "lost", "0", "60", "-64", "128"] : List Str), okV z := by
        have all : ∀ z ∈ (["", "P", "sp", "65", "-65", "129", "007", "-0", "12345", "p", "z", "none", "lost", "0", "60", "-64", "128"] : List Str), okVb z = true := by decide +kernel
        exact fun z hz => okV_of (all z hz)
      have hO6 : upd (upd H4 T1 (.tup [.ref q0, .int way])) O (.lst ([V.str "", V.str "P", V.str "sp", V.str "65", V.str "-65", V.str "129", V.str "007", V.str "-0", V.str "12345", V.str "p", V.str "z", V.str "none", V.str "lost", V.str "0", V.str "60", V.str "-64", V.str "128"])) O = some (.lst ([V.str "", V.str "P", V.str "sp", V.str "65", V.str "-65", V.str "129", V.str "007", V.str "-0", V.str "12345", V.str "p", V.str "z", V.str "none", V.str "lost", V.str "0", V.str "60", V.str "-64", V.str "128"])) := upd_same
      have qO : q0 ≠ O := fun z => by
        have := hR6 m q0 ws gq gws
        rw [z, upd_same] at this
        have h9 : [V.str "", V.str "P", V.str "sp", V.str "65", V.str "-65", V.str "129", V.str "007", V.str "-0", V.str "12345", V.str "p", V.str "z", V.str "none", V.str "lost", V.str "0", V.str "60", V.str "-64", V.str "128"] = vstrs ws := by injection this with this; injection this
        have h10 := congrArg List.length h9
        rw [lw] at h10
        have : ([V.str "", V.str "P", V.str "sp", V.str "65", V.str "-65", V.str "129", V.str "007", V.str "-0", V.str "12345", V.str "p", V.str "z", V.str "none", V.str "lost", V.str "0", V.str "60", V.str "-64", V.str "128"]).length = 17 := rfl
        omega
      generalize upd (upd H4 T1 (.tup [.ref q0, .int way])) O (.lst ([V.str "", V.str "P", V.str "sp", V.str "65", V.str "-65", V.str "129", V.str "007", V.str "-0", V.str "12345", V.str "p", V.str "z", V.str "none", V.str "lost", V.str "0", V.str "60", V.str "-64", V.str "128"])) = H6 at *
      have hq6 := hR6 m q0 ws gq gws
      dsimp only [gName]
      refine ⟨_, rfl, _, rfl, q0, _, rfl, .inl (.inl (.inl hq6)), d, cl, lf, n, a + 1 + 1, _, rfl, by rw [lw]; omega, by rw [lw]; omega, st6, by omega, fun kk H7 kk0 kk1 k7 st7 => ?_⟩
      rw [lw] at kk1
      obtain ⟨c, rfl⟩ : ∃ c : Nat, kk = (c : Int) := ⟨kk.toNat, by omega⟩
      have hc : c < ws.length := by omega
      have nq0 := nqm q0 hqm
      have hq7 := k7 _ _ nq0 hq6
      -- the end
      have fin : ∀ (H8 : Hp) (a' : Nat) (zs : List Str), Kp [d, lf] H7 H8 → StAt H8 d cl lf n a' → a' ≤ a + 4 → wsSpoilt zs → Q (.ref D) (upd H8 q0 (.lst (vstrs zs))) := fun H8 a' zs k8 st8 ha8 hzs => by
        have k28 := (k26.trans k7).trans k8
        have hqH := (h4 q0 hqm).2.1
        refine hq D (rws.set m zs) _ ⟨kp_own ((k06.trans k7).trans k8) hqH, a', ha8, StAt.updF hst hqH st8⟩ ⟨qs, ?_, by rw [List.length_set, h2], fun j q' ws' g1 g2 => ?_⟩ (List.length_set ..) fun ws' hws' => ?_
        · have nD0 : D ≠ q0 := Ne.symm (h4 q0 hqm).1
          exact .inl (.inl (by rw [upd_ne nD0]; exact k28 _ _ nDm hD))
        · by_cases hj : j = m
          · subst hj
            rw [gq] at g1
            cases g1
            rw [List.getElem?_set_self hm] at g2
            cases g2
            exact .inl (.inl upd_same)
          · rw [List.getElem?_set_ne (Ne.symm hj)] at g2
            have nq' : q' ≠ q0 := fun z => by
              subst z
              obtain ⟨a1, a2⟩ := List.getElem?_eq_some_iff.mp g1
              obtain ⟨b1, b2⟩ := List.getElem?_eq_some_iff.mp gq
              exact hj ((List.getElem_inj h3).mp (a2.trans b2.symm))
            refine .inl (.inl ?_)
            rw [upd_ne nq']
            exact k28 _ _ (nqm q' (List.mem_of_getElem? g1)) (h5 j q' ws' g1 g2)
        · rcases List.mem_or_eq_of_mem_set hws' with h | h
          · obtain ⟨x1, x2, x3⟩ := hF ws' h
            exact ⟨by omega, by omega, x3⟩
          · rw [h]
            exact hzs
      dsimp only [gName]
      refine sq_fr (decide (way < 4)) (fun Q' hQ => ⟨_, rfl, _, _, rfl, rfl, _, rfl, hQ _ (Same.refl _)⟩) (fun hb H8 e8 => ?_) fun hb H8 e8 => ?_
      · have k78 := k7.trans (Same.kp e8)
        have hO8 := k78 _ _ nOm hO6
        refine ⟨_, rfl, _, rfl, d, cl, lf, n, a + 1 + 1 + 1, _, rfl, st7.same e8, by omega, .inl ⟨O, ["", "P", "sp", "65", "-65", "129", "007", "-0", "12345", "p", "z", "none", "lost", "0", "60", "-64", "128"], rfl, hO8, fun z => nOm (by rw [z]; simp), by decide, by decide, fun z hz H9 hE => ?_⟩⟩
        obtain ⟨k9, a9, ha9, st9⟩ := hE
        have hq9 := k9 _ _ nq0 (e8 _ _ hq7)
        refine ⟨_, rfl, _, rfl, q0, _, _, c, rfl, rfl, hq9, ixN_nat (by rw [lw]; exact hc), ?_⟩
        rw [vstrs_set]
        refine ⟨_, rfl, fin H9 a9 _ ((Same.kp e8).trans k9) st9 (by omega) ⟨by rw [List.length_set]; omega, by rw [List.length_set]; omega, fun y hy => ?_⟩⟩
        rcases List.mem_or_eq_of_mem_set hy with h | h
        · exact w3 y h
        · rw [h]
          exact hOV z hz
      · refine ⟨_, rfl, rfl, _, rfl, iteTest (fun hb2 => ?_) fun hb2 => ?_⟩
        · have gy : (vstrs ws)[c]? = some (.str (ws.getD c "")) := by
            unfold vstrs
            rw [List.getElem?_map, List.getD_eq_getElem?_getD, List.getElem?_eq_getElem hc]
            rfl
          refine ⟨_, rfl, .inl ⟨rfl, _, .inl (.inl (e8 _ _ hq7))⟩, _, rfl, q0, _, _, c, _, rfl, rfl, e8 _ _ hq7, by omega, by omega, ?_, gy, ?_⟩
          · rw [PySem.seqIndex_of (by omega) (by rw [lw]; omega)]
            rfl
          · rw [vstrs_erase]
            refine ⟨_, rfl, fin H8 (a + 1 + 1 + 1) _ (Same.kp e8) (st7.same e8) (by omega) ⟨by rw [List.length_eraseIdx_of_lt hc]; omega, by rw [List.length_eraseIdx_of_lt hc]; omega, fun y hy => w3 y (List.mem_of_mem_eraseIdx hy)⟩⟩
        · have k78 := k7.trans (Same.kp e8)
          have hO8 := k78 _ _ nOm hO6
          refine ⟨_, rfl, .inl ⟨rfl, _, .inl (.inl (e8 _ _ hq7))⟩, _, rfl, _, rfl, _, rfl, d, cl, lf, n, a + 1 + 1 + 1, _, rfl, st7.same e8, by omega, .inl ⟨O, ["", "P", "sp", "65", "-65", "129", "007", "-0", "12345", "p", "z", "none", "lost", "0", "60", "-64", "128"], rfl, hO8, fun z => nOm (by rw [z]; simp), by decide, by decide, fun z hz H9 hE => ?_⟩⟩
          obtain ⟨k9, a9, ha9, st9⟩ := hE
          have hq9 := k9 _ _ nq0 (e8 _ _ hq7)
          refine ⟨q0, _, _, _, rfl, rfl, hq9, by rw [lw, sizeLine_eq]; omega, by omega, by omega, ?_⟩
          rw [vstrs_ins]
          refine ⟨_, rfl, fin H9 a9 _ ((Same.kp e8).trans k9) st9 (by omega) ⟨?_, ?_, fun y hy => ?_⟩⟩
          · simp only [List.length_append, List.length_take, List.length_drop, List.length_singleton]
            omega
          · simp only [List.length_append, List.length_take, List.length_drop, List.length_singleton]
            omega
          · rcases List.mem_append.mp hy with h | h
            · rcases List.mem_append.mp h with h | h
              · exact w3 y (List.mem_of_mem_take h)
              · rw [List.mem_singleton.mp h]
                exact hOV z hz
            · exact w3 y (List.mem_of_mem_drop h)
end
end K39
set_option Elab.async false
set_option linter.all false
set_option maxRecDepth 100000
set_option maxHeartbeats 4000000
/-! lambdas with or without a default, called in a def's try body -/
namespace K39
open PySem PySem.Spec PyProof.Rows L2 LamX
/-- the lambda's names: none is a cell; its own ones are none of the maker's slots -/
structure LamN (N : List Str) (sc scope : Scope) : Prop where
  kind : scope.kind = .function
  co : scope.isCoroutine = false
  gen : scope.isGenerator = false
  cel : ∀ y ∈ scope.names, y.2 ≠ .cell
  own : ∀ y ∈ scope.names, y.2 = .local → y.1 ∉ N
  free : ∀ y ∈ scope.names, y.2 = .free → sc.names.lookup y.1 = some .cell ∨ sc.names.lookup y.1 = some .free
def lamNB (N : List Str) (sc scope : Scope) : Bool :=
  decide (scope.kind = .function) && !scope.isCoroutine && !scope.isGenerator && scope.names.all fun y => !decide (y.2 = .cell) && (!decide (y.2 = .local) || !decide (y.1 ∈ N)) && (!decide (y.2 = .free) || decide (sc.names.lookup y.1 = some .cell) || decide (sc.names.lookup y.1 = some .free))
theorem lamN_by {N : List Str} {sc scope : Scope} (h : lamNB N sc scope = true) : LamN N sc scope := by
  unfold lamNB at h
  simp only [Bool.and_eq_true, Bool.or_eq_true, Bool.not_eq_true', decide_eq_true_eq, decide_eq_false_iff_not, List.all_eq_true] at h
  obtain ⟨⟨⟨h1, h2⟩, h3⟩, h4⟩ := h
  refine ⟨h1, h2, h3, fun y hy => (h4 y hy).1.1, fun y hy e => ?_, fun y hy e => ?_⟩
  · rcases (h4 y hy).1.2 with z | z
    · exact absurd e z
    · exact z
  · rcases (h4 y hy).2 with (z | z) | z
    · exact absurd e z
    · exact .inl z
    · exact .inr z
theorem LamN.has {X : Cx} {scope : Scope} (L : LamN X.N X.env.scope scope) (ok : X.Ok) : ∀ y ∈ scope.names, y.2 = .free → ∃ c, X.env.cells.lookup y.1 = some c := fun y hy e => by
  rcases L.free y hy e with k | k
  · exact ok.has _ (.inl k)
  · exact ok.has _ (.inr k)
abbrev lamFn (X : Cx) (params : Arguments) (body : Expr) (scope : Scope) (dV doc pm ctv : Value) (c' : Addr) : FuncData :=
  PySem.W.kdv_fn "<lambda>" (X.env.qual ++ "<lambda>") params (.expr body) scope (cloFrom X.env.cells scope.names []) dV doc pm (.ref c') ctv
abbrev lamOb (X : Cx) (params : Arguments) (body : Expr) (scope : Scope) (dV doc pm ctv : Value) (c' : Addr) : Obj := { cls := .type "function", data := .func (lamFn X params body scope dV doc pm ctv c') }
/-- what stays from s on: what is not tracked and is no frame -/
def Stays (X : Cx) (H : Hp) (s s1 : Shared) : Prop := ∀ b o, s.heap.get? b = some o → H b = Option.none → b ∉ frs X.stack → s1.heap.get? b = some o
section
variable {X : Cx} {pins : List (Addr × Obj)} {σ : L2.St} {H HZ : Hp} {s s1 : Shared}
/-- a lambda with one default is made -/
theorem lam_makeD {T : List (Addr × Str)} {c P : Addr} {params : Arguments} {body : Expr} {scope : Scope} {pos : Pos} {E : Value → Shared → Prop} {Q : Value → Shared → Prop} {e0 : Expr} {n : Int} (I : Inv X pins σ H s) (TB : TabB X.base X.mg c P) (hcode : X.env.code = .ref c)
    (hm : (P, X.env.qual ++ "<lambda>") ∈ T) (hu : ∀ p ∈ T, p.1 = P → p.2 = X.env.qual ++ "<lambda>") (hT : Tabs T H) (hdf : params.defaults = [e0]) (hkw : params.kw_defaults = []) (he0 : PE X e0 (tC (.int n))) (hE : E = X.xe) (hfree : ∀ y ∈ scope.names, y.2 = .free → ∃ c, X.env.cells.lookup y.1 = some c)
    (h : ∀ (f c' t : Addr) (v pm ctv doc : Value) (H1 : Hp) (s' : Shared), Inv X pins σ H1 s' → ExtN H H1 → Tabs T H1 → s'.heap.get? f = some (lamOb X params body scope (.ref t) doc pm ctv c') → H1 f = none → f ∉ frs X.stack → H1 c' = some (CodeO c' (X.env.qual ++ "<lambda>")) →
      s'.heap.get? t = some (PySem.W.kdv_tup [v]) → H1 t = none → t ∉ frs X.stack → Q (.ref f) s') :
    wpAny (model X.prog X.w) X.A (eval (.Lambda params body scope pos) X.env) Q E s := by
  subst hE
  refine PySem.W.kdv_lam (by rw [hdf]; rfl) hkw ?_
  rw [hdf]
  refine PySem.W.kdv_all1 (thn (he0.run pins s σ H (fun v H1 => H1 = H) I rfl) fun v s0 ⟨x, H0, I0, r0, q0⟩ => PySem.W.kdv_all0 ?_)
  subst q0
  obtain ⟨ps, hP, ht, ha⟩ := hT _ hm
  rw [makeFunction_eq]
  simp only [List.zip_nil_right, List.filterMap_nil, List.isEmpty_nil, List.isEmpty_cons, if_true, pure_bind, Bool.false_eq_true, if_false]
  refine wpAny_bind (wpAny_newTextTuple ?_)
  have Ip : Inv X pins σ H0 { s0 with heap := s0.heap.push (PySem.W.kdv_tup [v]) } := I0.kept (t' := s0.toks) fun b o e => Heap.get?_push_of_some _ e
  have ht0 : (s0.heap.push (PySem.W.kdv_tup [v])).get? s0.heap.objs.size = some (PySem.W.kdv_tup [v]) := Heap.get?_push_size _ rfl
  have hn0 : H0 s0.heap.objs.size = none := I0.hok.fresh (Nat.le_refl _)
  have hfr0 : s0.heap.objs.size ∉ frs X.stack := fun z => by
    rcases List.mem_cons.mp (I0.stkSub _ z) with e | e
    · have h1 := I0.lt
      rw [← e] at h1
      exact Nat.lt_irrefl _ h1
    · exact I0.nofs (Nat.le_refl _) e
  generalize s0.heap.objs.size = t at ht0 hn0 hfr0
  generalize hs' : ({ s0 with heap := s0.heap.push (PySem.W.kdv_tup [v]) } : Shared) = s' at Ip
  have ht0 : s'.heap.get? t = some (PySem.W.kdv_tup [v]) := by rw [← hs']; exact ht0
  clear hs' I0
  have bP : s'.heap.BuiltinsAt X.mg P := TB.bm.keeps Ip.bk
  have hP' : s'.heap.get? P = some { cls := .none, data := .fields ps } := Ip.hok P _ hP
  have nofr : ∀ f, s'.heap.objs.size ≤ f → f ∉ frs X.stack := fun f hf z => by
    rcases List.mem_cons.mp (Ip.stkSub _ z) with e | e
    · have h1 := Ip.lt
      rw [← e] at h1
      exact Nat.lt_irrefl _ (Nat.lt_of_lt_of_le h1 hf)
    · exact Ip.nofs hf e
  have tlt : t < s'.heap.objs.size := Heap.lt_size ht0
  cases hc : codeAmong pos ps.toList with
  | none =>
    refine PySem.W.kdv_makeTail (mg := X.mg) (c := c) (P := P) (ps := ps) (closure_ok hfree) Ip.ok.glob (Ip.mod.glob.keeps Ip.bk) hcode (TB.code.keeps Ip.bk) hP' ht hc TB.gP bP fun c' ctv doc h' tk hx hge hlt hrec htb => ?_
    obtain ⟨c2, oc, vs, tt, e2, hoc, hd, hv⟩ := hrec
    cases e2
    have hsz : s'.heap.objs.size ≤ h'.objs.size := Nat.le_trans hge (Nat.le_of_lt hlt)
    have nC : H0 c' = none := Ip.hok.fresh hge
    have I1 := inv_table (t' := tk) (more := #[rawInt pos.line, rawInt pos.col, .ref c']) (h' := h'.push (lamOb X params body scope (.ref t) doc ((X.mg "__name__").getD .none) ctv c')) Ip hP
      (fun b o hb e => Heap.get?_push_of_some _ (hx b o hb e)) (Heap.get?_push_of_some _ htb) hge ⟨oc, vs, tt, Heap.get?_push_of_some _ hoc, hd, hv⟩
    have hE : ExtN H0 (upd (upd H0 P (.tbl (ps ++ #[rawInt pos.line, rawInt pos.col, .ref c']))) c' (CodeO c' (X.env.qual ++ "<lambda>"))) := fun b o e n => by
      rw [upd_ne (ne_of_none e nC), upd_ne (fun z => n ps (Option.some.inj (e.symm.trans (by rw [z]; exact hP))))]
      exact e
    have eL : (ps ++ #[rawInt pos.line, rawInt pos.col, .ref c']).toList = ps.toList ++ [rawInt pos.line, rawInt pos.col, .ref c'] := by simp
    have nt1 : t ≠ c' := Nat.ne_of_lt (Nat.lt_of_lt_of_le tlt hge)
    have nt2 : t ≠ P := fun z => by rw [z, hP] at hn0; cases hn0
    refine h h'.objs.size c' t v ((X.mg "__name__").getD .none) ctv doc _ _ I1 hE (fun p hp => ?_) (Heap.get?_push_size _ rfl) ?_ (nofr _ hsz) upd_same (Heap.get?_push_of_some _ (hx t _ nt2 ht0)) (by rw [upd_ne nt1, upd_ne nt2]; exact hn0) hfr0
    · by_cases hb : p.1 = P
      · rw [hu p hp hb, hb]
        refine ⟨_, by rw [upd_ne (ne_of_none hP nC), upd_same], by rw [eL]; exact PySem.TriplesOk_snoc _ _ _ _ ht, fun p' cv hcv => ?_⟩
        rw [eL] at hcv
        rcases among_app _ ht hcv with z | z
        · obtain ⟨c0, e1, e2⟩ := ha p' cv z
          exact ⟨c0, e1, hE _ _ e2 codeO_ne⟩
        · exact ⟨c', z, upd_same⟩
      · obtain ⟨ps', a1, a2, a3⟩ := hT p hp
        refine ⟨ps', by rw [upd_ne (ne_of_none a1 nC), upd_ne hb]; exact a1, a2, fun p' cv hcv => ?_⟩
        obtain ⟨c0, e1, e2⟩ := a3 p' cv hcv
        exact ⟨c0, e1, hE _ _ e2 codeO_ne⟩
    · have n1 : h'.objs.size ≠ c' := Nat.ne_of_gt hlt
      have n2 : h'.objs.size ≠ P := Nat.ne_of_gt (Nat.lt_of_lt_of_le (Heap.lt_size hP') hsz)
      rw [upd_ne n1, upd_ne n2]
      exact Ip.hok.fresh hsz
  | some cv =>
    obtain ⟨c', e, hco⟩ := ha pos cv hc
    subst e
    refine PySem.W.kdv_makeTailHit (mg := X.mg) (c := c) (P := P) (ps := ps) (closure_ok hfree) Ip.ok.glob (Ip.mod.glob.keeps Ip.bk) hcode (TB.code.keeps Ip.bk) hP' ht hc bP fun ctv doc h' tk hx hsz => ?_
    have I1 : Inv X pins σ H0 { s' with heap := h'.push (lamOb X params body scope (.ref t) doc ((X.mg "__name__").getD .none) ctv c'), toks := tk } := Ip.kept fun b o e => Heap.get?_push_of_some _ (hx b o e)
    exact h h'.objs.size c' t v ((X.mg "__name__").getD .none) ctv doc H0 _ I1 (ExtN.refl H0) hT (Heap.get?_push_size _ rfl) (Ip.hok.fresh hsz) (nofr _ hsz) hco (Heap.get?_push_of_some _ (hx t _ ht0)) hn0 hfr0
theorem lam_startN {A : Around} {outer : List Env} {E : XK} {scope : Scope} {f c' : Addr} {h₁ : Heap} {tk : Nat} {m : Str → Option Value} (I : Inv X pins σ H s) (L : LamN X.N X.env.scope scope) (e0 : Env0 X.prog X.w X.K X.mg X.base A outer s1 HZ) (hd : A.handled = none)
    (un : Un (frs X.stack) [] H HZ s.heap s1.heap) (hns : h₁.Ns s1.heap.objs.size m) (kp : ∀ b o, s1.heap.get? b = some o → h₁.get? b = some o) :
    Inv (lamCx X A outer s1 HZ E scope f c') [] σ HZ { s1 with heap := h₁, toks := tk } := by
  have hfree := L.has I.ok
  have cm : ∀ {y c}, (cloFrom X.env.cells scope.names []).lookup y = some c → X.env.cells.lookup y = some c := fun {y c} e => by
    rcases cloFrom_mem (PySem.mem_of_lookup e) with hm | ⟨h1, h2⟩
    · cases hm
    · obtain ⟨c1, hc⟩ := hfree _ h1 rfl
      have hc : X.env.cells.lookup y = some c1 := hc
      have e2 : c = c1 := by
        rw [h2, hc] <;> rfl
      rw [e2]
      exact hc
  have look : ∀ {y}, scope.names.lookup y = some .free → ∃ c, (cloFrom X.env.cells scope.names []).lookup y = some c := fun {y} hl => by
    have hy : (y, NameKind.free) ∈ scope.names := PySem.mem_of_lookup hl
    exact mem_lookup (cloFrom_has (cells := X.env.cells) (acc := []) hy)
  have cellK : ∀ {c : Addr} {v : Option Value}, H c = none → s.heap.IsCell c v → h₁.IsCell c v := fun {c v} n ⟨o, ho, hd⟩ => by
    obtain ⟨sl, q⟩ := un.any ho n (by simp)
    exact ⟨_, kp _ _ q, hd⟩
  have noA : ∀ b : Addr, b ∉ (lamCx X A outer s1 HZ E scope f c').ex := fun b z => absurd (show b ∈ ([] : List Addr) from z) (by simp)
  refine ⟨⟨e0.mod, L.kind, rfl, rfl, Nat.le_refl _, fun y z c e1 e2 => I.ok.inj y z c (cm e1) (cm e2), fun y hy => ?_, fun y c z _ => ?_, fun _ => hd, Around.frames_deeper e0.frames, .inr ⟨rfl, rfl⟩, fun b z => absurd z (noA b), e0.bs, e0.bsz, fun b _ _ => noA b,
      fun b z => absurd z (noA b), e0.funs, e0.frf⟩,
    rfl, e0.bare, Un.kept kp, ⟨_, hns, fun i y v e1 e2 e3 => ?_⟩, fun y c e => ?_, e0.hok.fresh (Nat.le_refl _), fun y c e => ?_, fun q hq => absurd (show q ∈ ([] : List (Addr × Obj)) ++ [] from hq) (by simp), e0.hok.kept kp, I.len⟩
  · have hy : scope.names.lookup y = some .cell ∨ scope.names.lookup y = some .free := hy
    rcases hy with hy | hy
    · exact absurd rfl (L.cel _ (PySem.mem_of_lookup hy))
    · exact look hy
  · have z : false = true := z
    cases z
  · have e3 : Vis scope y := e3
    rcases e3 with k | k | k
    · exact absurd (List.mem_of_getElem? (show X.N[i]? = some y from e1)) (L.own _ (PySem.mem_of_lookup k) rfl)
    · exact absurd rfl (L.cel _ (PySem.mem_of_lookup k))
    · obtain ⟨m, hn, hl⟩ := I.loc
      have hvis : Vis X.env.scope y := (L.free _ (PySem.mem_of_lookup k) rfl).elim (fun k => .inr (.inl k)) (fun k => .inr (.inr k))
      obtain ⟨w', r, q⟩ := hl i y v e1 e2 hvis
      obtain ⟨c2, h2⟩ := look k
      refine ⟨w', r, .inr ⟨.inr k, c2, h2, ?_⟩⟩
      have c1 := cm h2
      rcases q with ⟨k', _⟩ | ⟨_, c3, e', z⟩
      · have k' : X.env.scope.names.lookup y = some .local := k'
        rcases L.free _ (PySem.mem_of_lookup k) rfl with k2 | k2 <;> rw [show X.env.scope.names.lookup y = _ from k2] at k' <;> cases k'
      · rw [c1] at e'
        cases e'
        exact cellK (I.freeC y _ c1) z
  · obtain ⟨w', z⟩ := I.cell y c (cm e)
    exact ⟨w', cellK (I.freeC y c (cm e)) z⟩
  · obtain ⟨v, o, ho, hd⟩ := I.cell y c (cm e)
    exact un.free c o ho (I.freeC y c (cm e)) (by simp)
/-- x(), in the def that got the lambda -/
theorem pe_actN {CXg : CXT} {Eg : XK} {Ng : List Str} {qg : Str} {sg : Scope} {g f c' : Addr} {cdg dV doc pm ctv : Value} {params : Arguments} {body : Expr} {scope : Scope} {k i : Nat} {a : Str} {pn : List (Addr × Obj)} {xe : Value → Shared → Prop} {W : WX} {tb : XK → TE} {p1 p2 : Pos} {binds : List (Str × Value)}
    (I : Inv X pins σ H s) (L : LamN X.N X.env.scope scope) (hf : s.heap.get? f = some (lamOb X params body scope dV doc pm ctv c')) (hfn : H f = none) (hfr : f ∉ frs X.stack)
    (hbind : ∀ s1, Stays X H s s1 → BindsTo s1 (lamFn X params body scope dV doc pm ctv c') ⟨[], []⟩ binds) (hloc : ∀ y ∈ binds, scope.names.lookup y.1 = some .local)
    (tk : Takes ((cxOf CXg X.prog X.w X.K X.mg X.base Ng qg sg g cdg X.A X.stack s H Eg).tr pn xe) W) (hr : Room (k + 1) (X.A.deeper (envOfC qg sg s.heap.objs.size g cdg)))
    (hbody : ∀ (A : Around) (outer : List Env) (s : Shared) (H : Hp) (E : XK), Room k (A.deeper (lamEnv X scope s.heap.objs.size f c')) → PE (lamCx X A outer s H E scope f c') body (tb E))
    (hN : Ng[i]? = some a) (hv : Vis sg a) (hd : (a == ("__debug__" : Str)) = false := by decide) (hcd : (a == ("__classdict__" : Str)) = false := by decide) :
    PE ((cxOf CXg X.prog X.w X.K X.mg X.base Ng qg sg g cdg X.A X.stack s H Eg).tr pn xe) (.Call (.Name a p1) [] [] p2)
      (fun σZ HZ Q => σZ[i]? = some (some (.ref f)) ∧ HZ c' = some (CodeO c' (X.env.qual ++ "<lambda>")) ∧ tb (WE W σZ) σ HZ Q) := by
  refine ⟨fun pinsZ sZ σZ HZ Q IZ h => ?_⟩
  obtain ⟨hs, hc, ht⟩ := h
  refine wpAny_Call_Name_kw (thn ((pe_var (pos := p1) (i := i) hN hv hd hcd).run pinsZ sZ σZ HZ (fun v H1 => v = .ref f ∧ H1 = HZ) IZ ⟨.ref f, hs, rfl, rfl⟩) fun u s1 ⟨v, H1, I1, r1, q1⟩ => ?_)
  obtain ⟨ev, eH⟩ := q1
  subst ev
  rw [eH] at I1
  obtain rfl : u = Value.ref f := r1
  have st : Stays X H s s1 := fun b o h1 h2 h3 => I1.base.keep b o h1 h2 h3 (fun z => nomatch (show b ∈ ([] : List Addr) from z))
  have of1 : s1.heap.get? f = some (lamOb X params body scope dV doc pm ctv c') := st f _ hf hfn hfr
  refine PySem.W.callWith_F0 ⟨_, _, _, _, of1⟩ ?_
  have un : Un (frs X.stack) [] H HZ s.heap s1.heap := I1.base
  obtain ⟨⟨oc, vs, t, hoc, hdc, hvc⟩, _, _⟩ := I1.hok c' _ hc
  have rc : codeAny (model X.prog X.w) (X.A.deeper (envOfC qg sg s.heap.objs.size g cdg)) (.call (.ref f) ⟨[], []⟩) (CR (L2.CX X.prog X.w) (envOfC qg sg s.heap.objs.size g cdg :: X.stack) X.prog X.w HZ s1 Q (WE W σZ)) s1 := by
    refine PySem.W.kla_callFunE hr.depth of1 rfl L.co L.gen rfl ⟨c', oc, vs, t, rfl, hoc, hdc, hvc⟩ ?_
    refine hbind s1 st _ _ _ _ ?_
    refine wpAny_newFunctionEnv (fun y hy => L.cel y hy) hloc (fun h₁ hns hsb => ⟨I1.nolimit.fresh _ hsb, ?_⟩) L.kind
    show codeAny _ _ (.expr body (lamEnv X scope s1.heap.objs.size f c')) _ _
    have kp : ∀ b o, s1.heap.get? b = some o → h₁.get? b = some o := fun b o e => hsb.extBut b o (Nat.ne_of_lt (Heap.lt_size e)) (Heap.get?_push_of_some _ e)
    have J : Inv (lamCx X (X.A.deeper (envOfC qg sg s.heap.objs.size g cdg)) (envOfC qg sg s.heap.objs.size g cdg :: X.stack) s1 HZ (WE W σZ) scope f c') [] σ HZ { s1 with heap := h₁, toks := s1.toks + binds.length } :=
      lam_startN I L I1.env0 hr.hd un hns kp
    refine PySem.W.kla_codeExpr (wpAny_mono ((hbody _ _ s1 HZ (WE W σZ) (hr.deeper _)).run [] _ _ HZ Q J ht) (fun v s' hq => ?_) fun e s' hq => hq)
    obtain ⟨w', H', J', rv, q⟩ := hq
    exact ⟨w', H', J'.os, J'.bare, J'.base, J'.hok, rv, q⟩
  have hx := L2.passAt tk σZ
  refine wpAny_call (codeAny_mono rc fun r s' hq => ?_)
  cases r with
  | error e => exact hx pinsZ HZ s1 e s' I1 hq
  | ok fl =>
    cases fl with
    | ret u => exact I1.after hq
    | next => exact False.elim hq
    | brk => exact False.elim hq
    | cont => exact False.elim hq
end
/-- the def that calls what it got in a try body -/
def Gives (X : Cx) (Ng : List Str) (x : Str) (sg : Scope) (g : Addr) (cdg : Value) (bg : List Stmt) (a : Str) (q : Str) (TT : (XK → Hp → VK → Prop) → Hp → VK → Prop) : Prop :=
  ∀ (f c' : Addr) (s : Shared) (H : Hp) (Q : VK) (tl : XK → Hp → VK → Prop),
    (∀ (W : WX) (pn : List (Addr × Obj)) (xe : Value → Shared → Prop) (p1 p2 : Pos), Takes ((cxOf C8.CX0 X.prog X.w X.K X.mg X.base Ng x sg g cdg X.A X.stack s H C8.E0).tr pn xe) W →
      PE ((cxOf C8.CX0 X.prog X.w X.K X.mg X.base Ng x sg g cdg X.A X.stack s H C8.E0).tr pn xe) (.Call (.Name a p1) [] [] p2) (fun σZ HZ Q => σZ[0]? = some (some (.ref f)) ∧ HZ c' = some (CodeO c' q) ∧ tl (WE W σZ) HZ Q)) →
    H c' = some (CodeO c' q) → TT tl H Q →
    ∃ t, PSs (cxOf C8.CX0 X.prog X.w X.K X.mg X.base Ng x sg g cdg X.A X.stack s H C8.E0).nox bg t ∧ t { nx := fun _ H' => Q .non H', rt := Q } (L2.start Ng [.ref f]) H
section
variable {X : Cx}
/-- x(lambda: body) -/
theorem pe_lamN {T : List (Addr × Str)} {TT : (XK → Hp → VK → Prop) → Hp → VK → Prop} {x a : Str} {g c P : Addr} {k : Nat} {pg : Arguments} {bg : List Stmt} {sg : Scope} {dV kV doc pm cdv ct oc : Value} {an od : Option Addr} {osl : Array (Option Value)} {Ng : List Str}
    {params : Arguments} {body : Expr} {scope : Scope} {t : XK → TE} {p lpos pos : Pos} (hg : Gl X x) (hm : X.mg x = some (.ref g)) (hk : PySem.W.keepIn X.K (.ref g) = true)
    (lk : X.K.lookup g = some ⟨oc, od, .func (PySem.W.fnOf x x pg bg sg dV kV doc pm an cdv ct), osl⟩) (hcg : PySem.W.codeIn X.K cdv x = true) (hb : L2.Binds X.K (PySem.W.fnOf x x pg bg sg dV kV doc pm an cdv ct) [a] []) (Sg : FnScope Ng [a] sg) (hNg : Ng[0]? = some a) (hva : Vis sg a)
    (hG : Gives X Ng x sg g cdv bg a (X.env.qual ++ "<lambda>") TT)
    (TB : TabB X.base X.mg c P) (hcode : X.env.code = .ref c) (hmT : (P, X.env.qual ++ "<lambda>") ∈ T) (hu : ∀ p ∈ T, p.1 = P → p.2 = X.env.qual ++ "<lambda>") (hr : Room (k + 2) X.A) (L : LamN X.N X.env.scope scope)
    (hdef : (defaultsOf params X.env = ([], []) ∧ ∀ (q : Str) (cl : List (Str × Addr)) (pm cv ctv : Value), bindArgs (PySem.W.kla_fn "<lambda>" q params body scope cl pm cv ctv) ⟨[], []⟩ = pure []) ∨
      (∃ (e0 : Expr) (n : Int) (y : Str), params.defaults = [e0] ∧ params.kw_defaults = [] ∧ PE X e0 (tC (.int n)) ∧ scope.names.lookup y = some .local ∧
        ∀ (t : Addr) (v doc pm ctv : Value) (c' : Addr), ∃ k : Option (Array Value) → Sem (List (Str × Value)), bindArgs (lamFn X params body scope (.ref t) doc pm ctv c') ⟨[], []⟩ = seqItems? (.ref t) >>= k ∧ k (some #[v]) = pure [(y, v)]))
    (hbody : ∀ (A : Around) (outer : List Env) (s : Shared) (H : Hp) (E : XK) (f c' : Addr), Room k (A.deeper (lamEnv X scope s.heap.objs.size f c')) → PE (lamCx X A outer s H E scope f c') body (t E))
    (hdb : (x == ("__debug__" : Str)) = false := by decide) (hd : (a == ("__debug__" : Str)) = false := by decide) (hcd : (a == ("__classdict__" : Str)) = false := by decide) :
    PE X (.Call (.Name x p) [.Lambda params body scope lpos] [] pos) (tLam T TT t) := by
  refine ⟨fun pins s σ H Q I h => ?_⟩
  obtain ⟨hT, h⟩ := h
  refine wpAny_Call_Name_kw (ld_glob I hg hm ?_ hdb)
  refine PySem.W.callWith_K (h₀ := X.base) I.ok.mod.kin hk ?_ (by rfl) (by rfl)
  show wpAny _ _ (spliced ((false, eval (.Lambda params body scope lpos) X.env) :: backTo pos (starEach [] X.env))) _ _ s
  have go : ∀ (f c' : Addr) (dV' doc' pm' ctv' : Value) (binds : List (Str × Value)) (H1 : Hp) (s' : Shared), Inv X pins σ H1 s' → ExtN H H1 → Tabs T H1 → s'.heap.get? f = some (lamOb X params body scope dV' doc' pm' ctv' c') → H1 f = none → f ∉ frs X.stack →
      H1 c' = some (CodeO c' (X.env.qual ++ "<lambda>")) → (∀ s1, Stays X H1 s' s1 → BindsTo s1 (lamFn X params body scope dV' doc' pm' ctv' c') ⟨[], []⟩ binds) → (∀ y ∈ binds, scope.names.lookup y.1 = some .local) →
      wpAny (model X.prog X.w) X.A (call (.ref g) [.ref f]) (EP X pins σ Q) X.xe s' := fun f c' dV' doc' pm' ctv' binds H1 s' I1 eN T1 hf hfn hfr hco hbi hlo => by
    have rc : codeAny (model X.prog X.w) X.A (.call (.ref g) ⟨[.ref f], []⟩) (CR C8.CX0 X.stack X.prog X.w H1 s' Q C8.E0) s' := by
      refine run_ofS (N := Ng) (ps := [a]) (us := [.ref f]) (vs := [.ref f]) lk hcg Sg hr I1.env0 (hb s' [.ref f] I1.kIn rfl) (.cons rfl .nil) rfl fun hr' => ?_
      obtain ⟨t', ht', hq'⟩ := hG f c' s' H1 Q (fun E H' Q' => t E σ H' Q') (fun W pn xe p1 p2 tk => pe_actN (i := 0) I1 L hf hfn hfr hbi hlo tk hr' (fun A outer s H E hr2 => hbody A outer s H E f c' hr2) hNg hva hd hcd) hco (h H1 eN T1)
      exact ⟨t', ht'.nox, hq'⟩
    refine wpAny_call (codeAny_mono rc fun r s2 hq => ?_)
    cases r with
    | error e => exact (show False from hq).elim
    | ok fl =>
      cases fl with
      | ret u => exact I1.after hq
      | next => exact False.elim hq
      | brk => exact False.elim hq
      | cont => exact False.elim hq
  rcases hdef with ⟨hdef, hbind⟩ | ⟨e0, n, y, hd1, hd2, he0, hy, hbk⟩
  · refine Calls.spliced_cons (lam_make2 I TB hcode hmT hu hT hdef (L.has I.ok) fun f c' pm' ctv H1 s' I1 eN T1 hf hfn hfr hco => ?_)
    refine Calls.spliced_nil ⟨I1.kIn, ?_⟩
    exact go f c' .none .none pm' ctv [] H1 s' I1 eN T1 hf hfn hfr hco (fun s1 _ => BindsTo.of_eq (hbind _ _ _ _ _)) (by simp)
  · refine Calls.spliced_cons (lam_makeD I TB hcode hmT hu hT hd1 hd2 he0 rfl (L.has I.ok) fun f c' t v pm' ctv doc H1 s' I1 eN T1 hf hfn hfr hco ht hnt hft => ?_)
    refine Calls.spliced_nil ⟨I1.kIn, ?_⟩
    refine go f c' (.ref t) doc pm' ctv [(y, v)] H1 s' I1 eN T1 hf hfn hfr hco (fun s1 st => ?_) (fun z hz => by rw [List.mem_singleton.mp hz]; exact hy)
    obtain ⟨k1, b1, b2⟩ := hbk t v doc pm' ctv c'
    exact BindsTo.of_defaults rfl (st t _ ht hnt hft) rfl b1 b2
end
end K39
set_option Elab.async false
set_option linter.all false
set_option maxRecDepth 100000
set_option maxHeartbeats 4000000
namespace K39
open PySem PySem.Spec PyProof.Rows L2
theorem scLawRaised : FnScope ["asked", "caught", "e"] ["asked"] (defScope sLawRaised) := ⟨rfl, rfl, rfl, by decide +kernel, rfl, by decide +kernel, by decide +kernel⟩
/-- what _law_raised makes of what it calls -/
def erR (K : PySem.W.Frag) (Q : VK) : XK := fun cls d H' =>
  (∃ (dd : Addr) (l f : Int), cls = .ref (He.ga K "BadText") ∧ d = some dd ∧ H' dd = some (.xd [("word", .int f), ("line", .int l)]) ∧ ∀ p H'', Same H' H'' → SqT K H'' p [.str "text", .int l, .int f] → Q (.ref p) H'') ∨
  ∃ (dd : Addr) (v : V), cls = .ref (He.ga K "BadTable") ∧ d = some dd ∧ H' dd = some (.xd [("row", v)]) ∧ ∀ p H'', Same H' H'' → SqT K H'' p [.str "table", v] → Q (.ref p) H''
def ttR (K : PySem.W.Frag) : (XK → Hp → VK → Prop) → Hp → VK → Prop := fun tl H Q => ∀ (E0 : XK) (Q0 : VK), (∀ cls d H', erR K Q cls d H' → E0 cls d H') → (∀ v H', (∀ p H'', Same H' H'' → SqT K H'' p [] → Q (.ref p) H'') → Q0 v H') → tl E0 H Q0
section
variable {X : Cx}
theorem ask {Ng : List Str} {sg : Scope} {g : Addr} {cdg : Value} {s : Shared} {H : Hp} {x a : Str} {p1 p2 p3 : Pos} {tl : XK → Hp → VK → Prop} (f c' : Addr) (q : Str)
    (act : ∀ (W : WX) (pn : List (Addr × Obj)) (xe : Value → Shared → Prop) (p1 p2 : Pos), Takes ((cxOf C8.CX0 X.prog X.w X.K X.mg X.base Ng x sg g cdg X.A X.stack s H C8.E0).tr pn xe) W →
      PE ((cxOf C8.CX0 X.prog X.w X.K X.mg X.base Ng x sg g cdg X.A X.stack s H C8.E0).tr pn xe) (.Call (.Name a p1) [] [] p2) (fun σZ HZ Q => σZ[0]? = some (some (.ref f)) ∧ HZ c' = some (LamX.CodeO c' q) ∧ tl (WE W σZ) HZ Q))
    (W : WX) (pn : List (Addr × Obj)) (xe : Value → Shared → Prop) (tk : Takes ((cxOf C8.CX0 X.prog X.w X.K X.mg X.base Ng x sg g cdg X.A X.stack s H C8.E0).nox.tr pn xe) W) :
    PSs ((cxOf C8.CX0 X.prog X.w X.K X.mg X.base Ng x sg g cdg X.A X.stack s H C8.E0).nox.tr pn xe) [.Expr (.Call (.Name a p1) [] [] p2) p3] (fun D σ H => σ[0]? = some (some (V.ref f)) ∧ H c' = some (LamX.CodeO c' q) ∧ tl (WE W σ) H fun _ H' => D.nx σ H') :=
  pss_one (ps_expr (act W pn xe p1 p2 tk))
theorem keptC {K : PySem.W.Frag} {mg : Str → Option Value} (T : Tx K mg) {x : Str} (h : EX K x) : KeptC K (He.ga K x) := ⟨h.xf, h.hc, He.eqO_ok (T.e 7 0), of_decide_eq_true (T.e 7 1), h.mO⟩
theorem raised_gives (T : Tx X.K X.mg) {g : Addr} {cdg : Value} {q : Str} : Gives X ["asked", "caught", "e"] "_law_raised" (defScope sLawRaised) g cdg (defBody sLawRaised) "asked" q (ttR X.K) := by
  intro f c' s H Q tl act hc h
  refine ⟨_, (pss_cons (ps_set (i := 1) scLawRaised.nd rfl (Or.inl rfl) pe_non)
      (pss_cons (ps_try_keep (i := 2) rfl rfl rfl scLawRaised.nd rfl rfl ⟨rfl, by decide, .inl T.g_UnwindError⟩ (tb := fun W D σ H => σ[0]? = some (some (V.ref f)) ∧ H c' = some (LamX.CodeO c' q) ∧ tl (WE W σ) H fun _ H' => D.nx σ H') (fun W pn xe tk _ => ask f c' q act W pn xe tk) (fun a pn => pss_one (ps_set (i := 1) scLawRaised.nd rfl (Or.inl rfl) (pv 2))))
      (pss_cons (ps_if (pt_cmpR op_isN (pv 1) pe_non (nomark _)) (pss_one (ps_ret (pe_tup pa_nil))) pss_nil)
      (pss_cons (ps_if (pt_val (pe_callB call_isq (by rfl) T.n_isinstance PyProof.Rows.boot_isinstance (pa_cons (pv 1) (pa_cons (pe_glR T.g_BadCode) pa_nil)))) (pss_one (ps_ret (pe_tup (pa_cons pe_str (pa_cons (pe_xq (pv 1)) pa_nil))))) pss_nil)
      (pss_cons (ps_if (pt_val (pe_callB call_isq (by rfl) T.n_isinstance PyProof.Rows.boot_isinstance (pa_cons (pv 1) (pa_cons (pe_glR T.g_BadPath) pa_nil)))) (pss_one (ps_ret (pe_tup (pa_cons pe_str (pa_cons (pe_xq (pv 1)) pa_nil))))) pss_nil)
      (pss_cons (ps_if (pt_val (pe_callB call_isq (by rfl) T.n_isinstance PyProof.Rows.boot_isinstance (pa_cons (pv 1) (pa_cons (pe_glR T.g_BadPlace) pa_nil)))) (pss_one (ps_ret (pe_tup (pa_cons pe_str (pa_cons (pe_xq (pv 1)) pa_nil))))) pss_nil)
      (pss_cons (ps_if (pt_val (pe_callB call_isq (by rfl) T.n_isinstance PyProof.Rows.boot_isinstance (pa_cons (pv 1) (pa_cons (pe_glR T.g_BadItem) pa_nil)))) (pss_one (ps_ret (pe_tup (pa_cons pe_str (pa_cons (pe_xq (pv 1)) pa_nil))))) pss_nil)
      (pss_cons (ps_if (pt_val (pe_callB call_isq (by rfl) T.n_isinstance PyProof.Rows.boot_isinstance (pa_cons (pv 1) (pa_cons (pe_glR T.g_BadTable) pa_nil)))) (pss_one (ps_ret (pe_tup (pa_cons pe_str (pa_cons (pe_xq (pv 1)) pa_nil))))) pss_nil)
      (pss_cons (ps_if (pt_val (pe_callB call_isq (by rfl) T.n_isinstance PyProof.Rows.boot_isinstance (pa_cons (pv 1) (pa_cons (pe_glR T.g_BadPaper) pa_nil)))) (pss_one (ps_ret (pe_tup (pa_cons pe_str (pa_cons (pe_xq (pv 1)) pa_nil))))) pss_nil)
      (pss_cons (ps_if (pt_val (pe_callB call_isq (by rfl) T.n_isinstance PyProof.Rows.boot_isinstance (pa_cons (pv 1) (pa_cons (pe_glR T.g_BadScript) pa_nil)))) (pss_one (ps_ret (pe_tup (pa_cons pe_str (pa_cons (pe_xq (pv 1)) pa_nil))))) pss_nil)
      (pss_cons (ps_if (pt_val (pe_callB call_isq (by rfl) T.n_isinstance PyProof.Rows.boot_isinstance (pa_cons (pv 1) (pa_cons (pe_glR T.g_BadHouse) pa_nil)))) (pss_one (ps_ret (pe_tup (pa_cons pe_str (pa_cons (pe_xq (pv 1)) pa_nil))))) pss_nil)
      (pss_cons (ps_if (pt_val (pe_callB call_isq (by rfl) T.n_isinstance PyProof.Rows.boot_isinstance (pa_cons (pv 1) (pa_cons (pe_glR T.g_BadText) pa_nil)))) (pss_one (ps_ret (pe_tup (pa_cons pe_str (pa_cons (pe_xq (pv 1)) (pa_cons (pe_xq (pv 1)) pa_nil)))))) pss_nil)
      (pss_cons (ps_if (pt_val (pe_callB call_isq (by rfl) T.n_isinstance PyProof.Rows.boot_isinstance (pa_cons (pv 1) (pa_cons (pe_glR T.g_TooMany) pa_nil)))) (pss_one (ps_ret (pe_tup (pa_cons pe_str (pa_cons (pe_xq (pv 1)) pa_nil))))) pss_nil)
      (pss_one (ps_ret (pe_ifExp (pt_val (pe_callB call_isq (by rfl) T.n_isinstance PyProof.Rows.boot_isinstance (pa_cons (pv 1) (pa_cons (pe_glR T.g_NeverThere) pa_nil)))) (pe_tup (pa_cons pe_str (pa_cons (pe_xq (pv 1)) pa_nil))) (pe_tup (pa_cons pe_str pa_nil)))))))))))))))))), ?_⟩
  refine ⟨rfl, hc, h _ _ (fun cls d H' he => ?_) fun v H' hz => ?_⟩
  · have nd : ∀ {a dd : Addr} {H1 : Hp} {o : HO}, H1 a = none → H1 dd = some o → upd H1 a (exq a cls d) dd = some o := fun na hd => Same.upd (Same.refl _) na _ _ hd
    rcases he with ⟨dd, l, fl, rfl, rfl, hdd, hq⟩ | ⟨dd, v, rfl, rfl, hdd, hq⟩
    · have kc := keptC T T.xText
      refine ⟨T.xText.exm, fun a na => ⟨_, rfl, _, rfl, rfl, _, rfl, iteF ?_⟩⟩
      refine ⟨_, rfl, a, _, _, dd, _, _, rfl, upd_same, nd na hdd, kc, of_decide_eq_true (T.e 4 0), _, rfl, iteF ?_⟩
      refine ⟨_, rfl, a, _, _, dd, _, _, rfl, upd_same, nd na hdd, kc, of_decide_eq_true (T.e 4 1), _, rfl, iteF ?_⟩
      refine ⟨_, rfl, a, _, _, dd, _, _, rfl, upd_same, nd na hdd, kc, of_decide_eq_true (T.e 4 2), _, rfl, iteF ?_⟩
      refine ⟨_, rfl, a, _, _, dd, _, _, rfl, upd_same, nd na hdd, kc, of_decide_eq_true (T.e 4 3), _, rfl, iteF ?_⟩
      refine ⟨_, rfl, a, _, _, dd, _, _, rfl, upd_same, nd na hdd, kc, of_decide_eq_true (T.e 4 4), _, rfl, iteF ?_⟩
      refine ⟨_, rfl, a, _, _, dd, _, _, rfl, upd_same, nd na hdd, kc, of_decide_eq_true (T.e 4 5), _, rfl, iteF ?_⟩
      refine ⟨_, rfl, a, _, _, dd, _, _, rfl, upd_same, nd na hdd, kc, of_decide_eq_true (T.e 4 6), _, rfl, iteF ?_⟩
      refine ⟨_, rfl, a, _, _, dd, _, _, rfl, upd_same, nd na hdd, kc, of_decide_eq_true (T.e 4 7), _, rfl, iteF ?_⟩
      refine ⟨_, rfl, a, _, _, dd, _, _, rfl, upd_same, nd na hdd, kc, of_decide_eq_true (T.e 4 8), _, rfl, iteT ?_⟩
      refine ⟨_, rfl, a, _, dd, _, _, rfl, upd_same, nd na hdd, T.xText.xf, T.noLine, rfl, _, rfl, a, _, dd, _, _, rfl, upd_same, nd na hdd, T.xText.xf, T.noWord, rfl, (by decide : 3 ≤ sizeLine), fun p np => ?_⟩
      exact hq p _ ((Same.upd (Same.refl _) na).trans (Same.upd (Same.refl _) np)) (.inl (.inl upd_same))
    · have kc := keptC T T.xTable
      refine ⟨T.xTable.exm, fun a na => ⟨_, rfl, _, rfl, rfl, _, rfl, iteF ?_⟩⟩
      refine ⟨_, rfl, a, _, _, dd, _, _, rfl, upd_same, nd na hdd, kc, of_decide_eq_true (T.e 5 0), _, rfl, iteF ?_⟩
      refine ⟨_, rfl, a, _, _, dd, _, _, rfl, upd_same, nd na hdd, kc, of_decide_eq_true (T.e 5 1), _, rfl, iteF ?_⟩
      refine ⟨_, rfl, a, _, _, dd, _, _, rfl, upd_same, nd na hdd, kc, of_decide_eq_true (T.e 5 2), _, rfl, iteF ?_⟩
      refine ⟨_, rfl, a, _, _, dd, _, _, rfl, upd_same, nd na hdd, kc, of_decide_eq_true (T.e 5 3), _, rfl, iteF ?_⟩
      refine ⟨_, rfl, a, _, _, dd, _, _, rfl, upd_same, nd na hdd, kc, of_decide_eq_true (T.e 5 4), _, rfl, iteT ?_⟩
      refine ⟨_, rfl, a, _, dd, _, _, rfl, upd_same, nd na hdd, T.xTable.xf, T.noRow, rfl, (by decide : 2 ≤ sizeLine), fun p np => ?_⟩
      exact hq p _ ((Same.upd (Same.refl _) na).trans (Same.upd (Same.refl _) np)) (.inl (.inl upd_same))
  · exact ⟨_, rfl, rfl, _, rfl, iteT ⟨(by decide : 0 ≤ sizeLine), fun p np => hz p _ (Same.upd (Same.refl _) np) (.inl (.inl upd_same))⟩⟩
end
end K39
set_option Elab.async false
set_option linter.all false
set_option maxRecDepth 100000
set_option maxHeartbeats 4000000
namespace K39
open PySem PySem.Spec PyProof.Rows L2 LamX
/-! ### what stays -/
theorem SqT.extN {K : PySem.W.Frag} {H H' : Hp} {p : Addr} {xs : List V} (e : ExtN H H') (h : SqT K H p xs) : SqT K H' p xs := by
  rcases h with (h | ⟨o, h⟩) | h
  · exact .inl (.inl (e _ _ h (fun _ z => by cases z)))
  · exact .inl (.inr ⟨o, e _ _ h (fun _ z => by cases z)⟩)
  · exact .inr h
theorem SqL.extN {K : PySem.W.Frag} {H H' : Hp} {p : Addr} {xs : List V} (e : ExtN H H') (h : SqL K H p xs) : SqL K H' p xs := by
  rcases h with (h | ⟨o, h⟩) | h
  · exact .inl (.inl (e _ _ h (fun _ z => by cases z)))
  · exact .inl (.inr ⟨o, e _ _ h (fun _ z => by cases z)⟩)
  · exact .inr h
theorem StAt.extN {H H' : Hp} {d cl lf : Addr} {n a : Nat} (e : ExtN H H') (h : StAt H d cl lf n a) : StAt H' d cl lf n a := by
  obtain ⟨cs, c1, c2⟩ := h.cells
  obtain ⟨ls, l1, l2⟩ := h.lefts
  exact ⟨e _ _ h.dict (fun _ z => by cases z), ⟨cs, e _ _ c1 (fun _ z => by cases z), c2⟩, ⟨ls, e _ _ l1 (fun _ z => by cases z), l2⟩, h.pos, h.apart⟩
theorem codeO_dK {c : Addr} {q : Str} {kvs : List (Key × V)} : CodeO c q ≠ .dK kvs := fun z => by
  unfold CodeO at z
  cases z
theorem codeO_lst {c : Addr} {q : Str} {xs : List V} : CodeO c q ≠ .lst xs := fun z => by
  unfold CodeO at z
  cases z
theorem tabs_kp {H H' : Hp} {T : List (Addr × Str)} {d cl lf : Addr} {n a : Nat} (k : Kp [d, lf] H H') (st : StAt H d cl lf n a) (t : Tabs T H) : Tabs T H' := fun p hp => by
  obtain ⟨ls, l1, _⟩ := st.lefts
  obtain ⟨ps, h1, h2, h3⟩ := t p hp
  have no : ∀ (b : Addr) (o : HO), H b = some o → (∀ kvs : List (Key × V), o ≠ .dK kvs) → (∀ xs : List V, o ≠ .lst xs) → H' b = some o := fun b o hb n1 n2 => by
    refine k b o (fun hm => ?_) hb
    simp only [List.mem_cons, List.not_mem_nil, or_false] at hm
    rcases hm with rfl | rfl
    · exact n1 _ (Option.some.inj (hb.symm.trans st.dict))
    · exact n2 _ (Option.some.inj (hb.symm.trans l1))
  refine ⟨ps, no _ _ h1 (fun _ z => by cases z) (fun _ z => by cases z), h2, fun pos cv hc => ?_⟩
  obtain ⟨c, e1, e2⟩ := h3 pos cv hc
  exact ⟨c, e1, no _ _ e2 (fun _ => codeO_dK) fun _ => codeO_lst⟩
/-! ### what a lambda over read_table tells -/
section
variable {K : PySem.W.Frag}
theorem out_told {H1 : Hp} {Q Q0 : VK} {E0 : XK} {o : Out} (hE : ∀ cls d H', erR K Q cls d H' → E0 cls d H') (hN : ∀ v H', (∀ p H'', Same H' H'' → SqT K H'' p [] → Q (.ref p) H'') → Q0 v H')
    (hq : ∀ p H'', Same H1 H'' → SqT K H'' p (outV o) → Q (.ref p) H'') : OutEnd K o H1 Q0 E0 := by
  cases o with
  | fine => exact fun H' p e => hN _ _ fun p H'' e2 h => hq p H'' (e.trans e2) h
  | text l f => exact fun H2 d e nd => hE _ _ _ (.inl ⟨d, (l : Nat), (f : Nat), rfl, rfl, upd_same, fun p H'' e2 h => hq p H'' ((Same.upd e nd).trans e2) h⟩)
  | tab v => exact fun H2 d e nd => hE _ _ _ (.inr ⟨d, v, rfl, rfl, upd_same, fun p H'' e2 h => hq p H'' ((Same.upd e nd).trans e2) h⟩)
theorem raised_text {T : List (Addr × Str)} {te : TE} {σ : L2.St} {H : Hp} {Q : VK} {z : Str} {lns : List Str} {o : Out} (hT : Tabs T H) (ht : ∀ H1 R, ExtN H H1 → (∀ H2, Same H1 H2 → R (.str z) H2) → te σ H1 R) (h1 : lnsOk z lns) (h2 : rowsOk (lns.map fun ln => Txt.split ln " "))
    (ho : toldOf (lns.map fun ln => Txt.split ln " ") = o) (hq : ∀ p H'', ExtN H H'' → Tabs T H'' → SqT K H'' p (outV o) → Q (.ref p) H'') : tLam T (ttR K) (fun E => tCall (spReadTable K) [] E (tCons te tNil)) σ H Q := by
  refine ⟨hT, fun H1 e1 T1 E0 Q0 hE hN => ?_⟩
  refine ht H1 _ e1 fun H2 e2 => .inl ⟨z, lns, rfl, h1, h2, ?_⟩
  rw [ho]
  exact out_told hE hN fun p H'' e h => hq p H'' (e1.trans (ExtN.of (e2.trans e))) (T1.ext (e2.trans e)) h
theorem raised_other {T : List (Addr × Str)} {te : TE} {σ : L2.St} {H : Hp} {Q : VK} {v : V} (hT : Tabs T H) (ht : ∀ H1 R, ExtN H H1 → R v H1 → te σ H1 R) (hv : ∀ H1, ExtN H H1 → NotStr K H1 v)
    (hq : ∀ p H'', ExtN H H'' → Tabs T H'' → SqT K H'' p (outV (.text 0 0)) → Q (.ref p) H'') : tLam T (ttR K) (fun E => tCall (spReadTable K) [] E (tCons te tNil)) σ H Q := by
  refine ⟨hT, fun H1 e1 T1 E0 Q0 hE hN => ?_⟩
  refine ht H1 _ e1 (.inr ⟨v, rfl, hv H1 e1, fun H2 d e nd => hE _ _ _ (.inl ⟨d, 0, 0, rfl, rfl, upd_same, fun p H'' e2 h => ?_⟩)⟩)
  exact hq p H'' (e1.trans (ExtN.of ((Same.upd e nd).trans e2))) (T1.ext ((Same.upd e nd).trans e2)) h
end
/-! ### comparing what was told -/
def outD : Out → List PyData
  | .fine => []
  | .text l f => [.str "text", .int (l : Nat), .int (f : Nat)]
  | .tab (.int k) => [.str "table", .int k]
  | .tab _ => [.str "table", .none]
def outGood : Out → Prop
  | .tab (.int _) => True
  | .tab .non => True
  | .tab _ => False
  | _ => True
theorem outDp {K : PySem.W.Frag} {H : Hp} {p : Addr} {o : Out} (hg : outGood o) (h : SqT K H p (outV o)) : Dp K H (.ref p) (.tuple (outD o)) := by
  refine .tup h ?_
  match o, hg with
  | .fine, _ => exact .nil
  | .text l f, _ => exact .cons (.str _) (.cons (.int _) (.cons (.int _) .nil))
  | .tab (.int k), _ => exact .cons (.str _) (.cons (.int _) .nil)
  | .tab .non, _ => exact .cons (.str _) (.cons .non .nil)
theorem sTx : PyData.strOk "text" = true := by decide +kernel
theorem sTb : PyData.strOk "table" = true := by decide +kernel
theorem outShaped {o : Out} (hg : outGood o) : SeqAt.shaped (.tuple (outD o)) = true := by
  match o, hg with
  | .fine, _ => decide +kernel
  | .text l f, _ => simp [outD, SeqAt.shaped, PyData.canLay0, PyData.canLayAll0, PyData.depth, PyData.depthAll, sTx]
  | .tab (.int k), _ => simp [outD, SeqAt.shaped, PyData.canLay0, PyData.canLayAll0, PyData.depth, PyData.depthAll, sTb]
  | .tab .non, _ => decide +kernel
theorem outEq {o : Out} (hg : outGood o) : PyData.eqv (.tuple (outD o)) (.tuple (outD o)) = true := by
  match o, hg with
  | .fine, _ => simp [outD, PyData.eqv, PyData.eqvAll]
  | .text l f, _ => simp [outD, PyData.eqv, PyData.eqvAll]
  | .tab (.int k), _ => simp [outD, PyData.eqv, PyData.eqvAll]
  | .tab .non, _ => simp [outD, PyData.eqv, PyData.eqvAll]
end K39
set_option Elab.async false
set_option linter.all false
set_option maxRecDepth 100000
set_option maxHeartbeats 4000000
/-! the plain law: what the program tells is what the law says is due -/
namespace K39
open PySem PySem.Spec PyProof.Rows L2
theorem reg_cases {z : Str} (h : isReg z = true) : z ∈ (["p", "q", "r", "s", "x", "y"] : List Str) := by
  unfold isReg inV regV at h
  simp only [List.any_cons, List.any_nil, Bool.or_false, Bool.or_eq_true] at h
  have e : ∀ y : Str, eqV (.str y) (.str z) = true → z = y := fun y hy => by
    have hy : (y == z) = true := hy
    exact (eq_of_beq hy).symm
  simp only [List.mem_cons, List.not_mem_nil, or_false]
  rcases h with h | h | h | h | h | h
  · exact .inl (e _ h)
  · exact .inr (.inl (e _ h))
  · exact .inr (.inr (.inl (e _ h)))
  · exact .inr (.inr (.inr (.inl (e _ h))))
  · exact .inr (.inr (.inr (.inr (.inl (e _ h)))))
  · exact .inr (.inr (.inr (.inr (.inr (e _ h)))))
theorem reg_noNum {z : Str} (h : isReg z = true) : isNum z = false := by
  have all : ∀ z ∈ (["p", "q", "r", "s", "x", "y"] : List Str), isNum z = false := by decide +kernel
  exact all z (reg_cases h)
theorem lost_noNum : isNum "lost" = false := by decide +kernel
theorem told_fits {c : Nat} {z : Str} (hc : c = 110 ∨ c = 98 ∨ c = 119) : (tkTold c z).isSome = fits c z := by
  rcases hc with rfl | rfl | rfl
  · show (((if isNum z = true then some (numVal z) else none) : Option Int).map Tk.num).isSome = (isNum z || (decide (110 = 119) && (isReg z || decide (z = "lost"))))
    cases isNum z <;> rfl
  · show (if isBas z = true then some (Tk.bas z) else none).isSome = (isReg z || decide (z = "sp"))
    have e : isBas z = (isReg z || decide (z = "sp")) := by
      unfold isBas
      rw [Bool.or_comm]
    rw [← e]
    cases isBas z <;> rfl
  · show ((if z = "lost" then some Wh.lost else if isReg z = true then some (.inn z) else (if isNum z = true then some (numVal z) else none).map .wrd).map Tk.whr).isSome = (isNum z || (decide (119 = 119) && (isReg z || decide (z = "lost"))))
    by_cases h1 : z = "lost"
    · rw [if_pos h1, decide_eq_true h1]
      cases isNum z <;> cases isReg z <;> rfl
    · rw [if_neg h1, decide_eq_false h1]
      cases isReg z <;> cases isNum z <;> rfl
theorem lf_tk : ∀ (k : Nat) (ws : List Str) (cs : List Nat), (∀ c ∈ cs, c = 110 ∨ c = 98 ∨ c = 119) → lfFrom k ws cs = (match tkFault k ws cs with
    | some f => some f
    | none => if ws.length < cs.length then some (k + ws.length + 1) else if cs.length < ws.length then some (k + cs.length + 1) else none)
  | k, [], [], _ => rfl
  | k, [], c :: cs, _ => by
    show some (k + 1) = if 0 < (c :: cs).length then some (k + 0 + 1) else _
    rw [if_pos (by simp)]
  | k, z :: zs, [], _ => by
    show some (k + 1) = if (z :: zs).length < 0 then _ else if 0 < (z :: zs).length then some (k + 0 + 1) else none
    rw [if_neg (by simp), if_pos (by simp)]
  | k, z :: zs, c :: cs, h => by
    have ih := lf_tk (k + 1) zs cs fun c hc => h c (List.mem_cons_of_mem _ hc)
    have hc := h c (List.mem_cons_self ..)
    have n45 : decide (c = 45) = false := decide_eq_false (by omega)
    show (if (!decide (c = 45) && !fits c z) = true then some (k + 1) else lfFrom (k + 1) zs cs) = (match (match tkTold c z with | none => some (k + 1) | some _ => tkFault (k + 1) zs cs) with
      | some f => some f
      | none => if (z :: zs).length < (c :: cs).length then some (k + (z :: zs).length + 1) else if (c :: cs).length < (z :: zs).length then some (k + (c :: cs).length + 1) else none)
    rw [n45, ← told_fits hc, ih]
    cases tkTold c z with
    | none => rfl
    | some t =>
      simp only [Option.isSome_some, Bool.not_true, Bool.and_false, Bool.false_eq_true, if_false, List.length_cons]
      cases tkFault (k + 1) zs cs with
      | some f => rfl
      | none =>
        simp only
        rw [show k + 1 + zs.length + 1 = k + (zs.length + 1) + 1 by omega, show k + 1 + cs.length + 1 = k + (cs.length + 1) + 1 by omega]
        by_cases h1 : zs.length < cs.length
        · simp only [if_pos h1, if_pos (show zs.length + 1 < cs.length + 1 by omega)]
        · by_cases h2 : cs.length < zs.length
          · simp only [if_neg h1, if_neg (show ¬ zs.length + 1 < cs.length + 1 by omega), if_pos h2, if_pos (show cs.length + 1 < zs.length + 1 by omega)]
          · simp only [if_neg h1, if_neg (show ¬ zs.length + 1 < cs.length + 1 by omega), if_neg h2, if_neg (show ¬ cs.length + 1 < zs.length + 1 by omega)]
theorem lf_all (ws : List Str) (cs : List Nat) (h : ∀ c ∈ cs, c = 110 ∨ c = 98 ∨ c = 119) : lfFrom 0 ws cs = allFault ws cs := by
  rw [lf_tk 0 ws cs h]
  unfold allFault
  cases tkFault 0 ws cs with
  | some f => rfl
  | none => simp only [Nat.zero_add]
theorem lf_shift : ∀ (k : Nat) (ws : List Str) (cs : List Nat), lfFrom (k + 2) ws cs = (lfFrom k ws cs).map (· + 2)
  | k, [], [] => rfl
  | k, [], c :: cs => rfl
  | k, z :: zs, [] => rfl
  | k, z :: zs, c :: cs => by
    show (if (!decide (c = 45) && !fits c z) = true then some (k + 2 + 1) else lfFrom (k + 2 + 1) zs cs) = (if (!decide (c = 45) && !fits c z) = true then some (k + 1) else lfFrom (k + 1) zs cs).map (· + 2)
    by_cases h : (!decide (c = 45) && !fits c z) = true
    · rw [if_pos h, if_pos h]
      rfl
    · rw [if_neg h, if_neg h, ← lf_shift (k + 1) zs cs]
theorem cplA : cpl "n-wwwww" = 110 :: 45 :: w5 := by decide +kernel
theorem cplB : cpl "nbnwwwww" = n8 := by decide +kernel
theorem row_line (ws : List Str) : lfFrom 0 ws (cpl (sortsT ws)) = rowFault ws := by
  unfold sortsT rowFault
  by_cases hN : isNoneRow ws = true
  · rw [if_pos hN, if_pos hN, cplA]
    unfold isNoneRow at hN
    simp only [Bool.and_eq_true, decide_eq_true_eq] at hN
    obtain ⟨h1, h2⟩ := hN
    match ws, h1, h2 with
    | z0 :: z1 :: r, _, h2 =>
      have e5 : lfFrom 0 r w5 = allFault r w5 := lf_all r w5 (by simp [w5])
      have e1 := lf_all [z0] [110] (by simp)
      show (if (!decide (110 = 45) && !fits 110 z0) = true then some 1 else if (!decide (45 = 45) && !fits 45 z1) = true then some 2 else lfFrom 2 r w5) = (match allFault [z0] [110] with | some f => some f | none => (allFault r w5).map (· + 2))
      rw [← e1, ← e5, lf_shift 0 r w5]
      show _ = (match (if (!decide (110 = 45) && !fits 110 z0) = true then some 1 else none) with | some f => some f | none => (lfFrom 0 r w5).map (· + 2))
      cases fits 110 z0 <;> simp
  · rw [if_neg hN, if_neg hN, cplB]
    exact lf_all ws n8 (by simp [n8])
theorem text_fault : ∀ (k : Nat) (rws : List (List Str)), textFault k rws = faultFrom k rws
  | _, [] => rfl
  | k, ws :: r => by
    have ih := text_fault (k + 1) r
    show (if hasNil ws = true then some (k + 1, 0) else match rowFault ws with | some f => some (k + 1, f) | none => textFault (k + 1) r) = (match lineFault ws with | some f => some (k + 1, f) | none => faultFrom (k + 1) r)
    unfold lineFault
    by_cases h : hasNil ws = true
    · rw [if_pos h, if_pos h]
    · rw [if_neg h, if_neg h, row_line, ih]
/-- a place's word -/
theorem where_ok {z : Str} (h : fits 119 z = true) (f : Bool) : (whOk (whD z) && (f || !isWrd (whD z))) = whereRight z f := by
  unfold fits at h
  rw [if_neg (by decide)] at h
  unfold whD whTold whereRight numTold
  by_cases h1 : z = "lost"
  · rw [if_pos h1, h1, lost_noNum]
    cases f <;> rfl
  · rw [if_neg h1]
    cases h2 : isReg z with
    | true =>
      rw [if_pos rfl, reg_noNum h2]
      show (isReg z && (f || true)) = true
      rw [h2]
      cases f <;> rfl
    | false =>
      rw [if_neg Bool.false_ne_true]
      rw [h2] at h
      simp [h1] at h
      rw [h]
      show (inB (numVal z) (-64) 0 && (f || !true)) = (!true || (f && inB (numVal z) (-64) 0))
      cases f <;> simp
theorem all_where (f : Bool) : ∀ (zs : List Str), (∀ z ∈ zs, fits 119 z = true) → ((zs.map whD).all whOk && (f || !(zs.map whD).any isWrd)) = zs.all fun z => whereRight z f
  | [], _ => by cases f <;> rfl
  | z :: zs, h => by
    have ih := all_where f zs fun y hy => h y (List.mem_cons_of_mem _ hy)
    have hz := where_ok (h z (List.mem_cons_self ..)) f
    simp only [List.map_cons, List.all_cons, List.any_cons]
    rw [← ih, ← hz]
    generalize whOk (whD z) = a
    generalize isWrd (whD z) = b
    generalize (zs.map whD).all whOk = c
    generalize (zs.map whD).any isWrd = d
    cases f <;> cases a <;> cases b <;> cases c <;> cases d <;> rfl
theorem row_ok {k : Nat} {least : Int} {ws : List Str} (h0 : 0 ≤ least) (h : lineFault ws = none) : rowOk (if k = 0 then 0 else 59) least (rowOf ws) = goodRow k least ws ∧ (rowOf ws).spot = numVal (ws.getD 0 "") := by
  obtain ⟨hnil, hl, l7, n0, eF, hF, hall⟩ := line_ok h
  have nD : ∀ {z : Str}, isNum z = true → numD z = numVal z := fun {z} hz => by
    unfold numD numTold
    rw [if_pos hz]
    rfl
  have spot : inB (numVal (ws.getD 0 "")) least (if k = 0 then 0 else 59) = (inB (numVal (ws.getD 0 "")) least 59 && (decide (0 < k) || decide (numVal (ws.getD 0 "") = 0))) := by
    generalize numVal (ws.getD 0 "") = n
    unfold inB
    by_cases hk : k = 0
    · subst hk
      rw [if_pos rfl]
      have : decide (n ≤ 0) = (decide (n = 0) || decide (n < 0)) := by
        rw [← Bool.decide_or]
        exact decide_eq_decide.mpr ⟨fun h => by omega, fun h => by omega⟩
      by_cases hn : least ≤ n
      · rw [decide_eq_true hn]
        by_cases hz : n = 0
        · subst hz; decide
        · simp only [Bool.true_and, Nat.lt_irrefl, decide_false, Bool.false_or, decide_eq_false hz, Bool.and_false]
          exact decide_eq_false (by omega)
      · rw [decide_eq_false hn]
        rfl
    · rw [if_neg hk, decide_eq_true (by omega : 0 < k), Bool.true_or, Bool.and_true]
  have last : ∀ (m : Nat), ws.length = m + 5 → (∀ j, m ≤ j → j < m + 5 → (cpl (sortsT ws))[j]? = some 119) → ∀ z ∈ ws.drop m, fits 119 z = true := fun m hm hc z hz => by
    obtain ⟨i, hi⟩ := List.mem_iff_getElem?.mp hz
    rw [List.getElem?_drop] at hi
    have lt := (List.getElem?_eq_some_iff.mp hi).1
    rcases hall (m + i) z 119 hi (hc _ (by omega) (by omega)) with h | h
    · exact absurd h (by decide)
    · exact h
  have rl : (sortsT ws).length = (cpl (sortsT ws)).length := (cpl_len _).symm
  by_cases hN : isNoneRow ws = true
  · have eS : cpl (sortsT ws) = 110 :: 45 :: w5 := by
      unfold sortsT
      rw [if_pos hN, cplA]
    have l : ws.length = 7 := by rw [hl, rl, eS]; rfl
    have hf : isFound ws = false := by rw [eF, hN]; rfl
    have eR : rowOf ws = ⟨numD (ws.getD 0 ""), none, (ws.drop 2).map whD⟩ := if_pos hN
    rw [eR]
    refine ⟨?_, nD n0⟩
    unfold rowOk rulOk goodRow
    rw [hf]
    show ((true && (((ws.drop 2).map whD).all whOk && (false || !((ws.drop 2).map whD).any isWrd))) && inB (numD (ws.getD 0 "")) least (if k = 0 then 0 else 59)) = _
    rw [all_where false (ws.drop 2) (last 2 (by omega) (fun j h1 h2 => by
      rw [eS]
      have : j = 2 ∨ j = 3 ∨ j = 4 ∨ j = 5 ∨ j = 6 := by omega
      rcases this with rfl | rfl | rfl | rfl | rfl <;> rfl)), nD n0, spot, l]
    generalize (ws.drop 2).all (fun z => whereRight z false) = a
    generalize (inB (numVal (ws.getD 0 "")) least 59 && (decide (0 < k) || decide (numVal (ws.getD 0 "") = 0))) = b
    cases a <;> cases b <;> rfl
  · have hN' : isNoneRow ws = false := (Bool.not_eq_true _).mp hN
    have eS : cpl (sortsT ws) = n8 := by
      unfold sortsT
      rw [if_neg hN, cplB]
    have l : ws.length = 8 := by rw [hl, rl, eS]; rfl
    have hf : isFound ws = true := by rw [eF, hN']; rfl
    obtain ⟨_, n2⟩ := hF hf
    have eR : rowOf ws = ⟨numD (ws.getD 0 ""), some (ws.getD 1 "", numD (ws.getD 2 "")), (ws.drop 3).map whD⟩ := if_neg hN
    have b1 : isBas (ws.getD 1 "") = true := by
      have g : ws[1]? = some (ws.getD 1 "") := by
        rw [List.getD_eq_getElem?_getD, List.getElem?_eq_getElem (by omega)]
        rfl
      rcases hall 1 _ 98 g (by rw [eS]; rfl) with h | h
      · exact absurd h (by decide)
      · unfold fits at h
        rw [if_pos rfl] at h
        unfold isBas
        rw [Bool.or_comm]
        exact h
    rw [eR]
    refine ⟨?_, nD n0⟩
    unfold rowOk rulOk goodRow
    rw [hf]
    show (((isBas (ws.getD 1 "") && inB (numD (ws.getD 2 "")) (-64) 128) && (((ws.drop 3).map whD).all whOk && (true || !((ws.drop 3).map whD).any isWrd))) && inB (numD (ws.getD 0 "")) least (if k = 0 then 0 else 59)) = _
    rw [all_where true (ws.drop 3) (last 3 (by omega) (fun j h1 h2 => by
      rw [eS]
      have : j = 3 ∨ j = 4 ∨ j = 5 ∨ j = 6 ∨ j = 7 := by omega
      rcases this with rfl | rfl | rfl | rfl | rfl <;> rfl)), nD n0, nD n2, spot, l, b1]
    generalize (ws.drop 3).all (fun z => whereRight z true) = a
    generalize (inB (numVal (ws.getD 0 "")) least 59 && (decide (0 < k) || decide (numVal (ws.getD 0 "") = 0))) = b
    generalize inB (numVal (ws.getD 2 "")) (-64) 128 = c
    cases a <;> cases b <;> cases c <;> rfl
theorem need_due : ∀ (k : Nat) (least : Int) (rws : List (List Str)), 0 ≤ least → (∀ ws ∈ rws, lineFault ws = none) → needFrom k least (rws.map rowOf) = dueFrom k least rws
  | _, _, [], _, _ => rfl
  | k, least, ws :: r, h0, h => by
    obtain ⟨e1, e2⟩ := row_ok (k := k) h0 (h ws (List.mem_cons_self ..))
    show (if rowOk (if k = 0 then 0 else 59) least (rowOf ws) = true then needFrom (k + 1) ((rowOf ws).spot + 1) (r.map rowOf) else some k) = (if goodRow k least ws = true then dueFrom (k + 1) (numVal (ws.getD 0 "") + 1) r else some k)
    rw [e1, e2]
    by_cases hg : goodRow k least ws = true
    · rw [if_pos hg, if_pos hg]
      refine need_due (k + 1) _ r ?_ fun w hw => h w (List.mem_cons_of_mem _ hw)
      unfold goodRow inB at hg
      simp only [Bool.and_eq_true, decide_eq_true_eq] at hg
      omega
    · rw [if_neg hg, if_neg hg]
theorem plain (rws : List (List Str)) (hne : rws ≠ []) : toldOf rws = dueOf rws := by
  unfold toldOf dueOf
  rw [text_fault]
  cases hf : faultFrom 0 rws with
  | some p => rfl
  | none =>
    simp only
    have hl := fault_none hf
    unfold needRows
    rw [List.length_map, need_due 0 0 rws (by decide) hl]
    have l1 : 1 ≤ rws.length := List.length_pos_iff.mpr hne
    by_cases h60 : 60 < rws.length
    · rw [if_neg (by omega), if_pos h60]
    · rw [if_pos ⟨l1, by omega⟩, if_neg h60]
      cases dueFrom 0 0 rws <;> rfl
theorem due_good (rws : List (List Str)) : outGood (dueOf rws) := by
  unfold dueOf
  split
  · trivial
  · split
    · trivial
    · split <;> trivial
end K39
set_option Elab.async false
set_option linter.all false
set_option maxRecDepth 100000
set_option maxHeartbeats 4000000
/-! texts: joined and cut -/
namespace K39
open PySem PySem.Spec PyProof.Rows L2 LamX
theorem mem_joinL {S : List Nat} {c : Nat} : ∀ {ps : List (List Nat)}, c ∈ TL.joinL S ps → c ∈ S ∨ ∃ p ∈ ps, c ∈ p
  | [], h => by cases h
  | [p], h => .inr ⟨p, List.mem_cons_self .., h⟩
  | p :: q :: r, h => by
    have h : c ∈ p ++ (S ++ TL.joinL S (q :: r)) := h
    rcases List.mem_append.mp h with h | h
    · exact .inr ⟨p, List.mem_cons_self .., h⟩
    · rcases List.mem_append.mp h with h | h
      · exact .inl h
      · rcases mem_joinL h with h | ⟨x, hx, h⟩
        · exact .inl h
        · exact .inr ⟨x, List.mem_cons_of_mem _ hx, h⟩
theorem len_joinL {S : List Nat} {m : Nat} : ∀ {ps : List (List Nat)}, (∀ p ∈ ps, p.length ≤ m) → (TL.joinL S ps).length ≤ ps.length * (m + S.length)
  | [], _ => by simp [TL.joinL]
  | [p], h => by
    have := h p (List.mem_cons_self ..)
    show p.length ≤ 1 * (m + S.length)
    omega
  | p :: q :: r, h => by
    have h1 := h p (List.mem_cons_self ..)
    have ih := len_joinL (S := S) (m := m) (ps := q :: r) fun x hx => h x (List.mem_cons_of_mem _ hx)
    show (p ++ (S ++ TL.joinL S (q :: r))).length ≤ ((q :: r).length + 1) * (m + S.length)
    rw [List.length_append, List.length_append, Nat.add_mul]
    omega
theorem sum_le {m : Nat} : ∀ {l : List Nat}, (∀ x ∈ l, x ≤ m) → l.sum ≤ l.length * m
  | [], _ => by simp
  | a :: l, h => by
    have h1 := h a (List.mem_cons_self ..)
    have ih := sum_le (m := m) (l := l) fun x hx => h x (List.mem_cons_of_mem _ hx)
    rw [List.sum_cons, List.length_cons, Nat.add_mul]
    omega
def rowGood (ws : List Str) : Prop := ws ≠ [] ∧ ws.length ≤ 20 ∧ ∀ z ∈ ws, okV z
abbrev lineT (ws : List Str) : Str := Txt.join " " ws
abbrev textT (rws : List (List Str)) : Str := Txt.join "\n" (rws.map lineT)
theorem tl_sp : TL.tl (" " : Str) = [32] := by decide +kernel
theorem tl_nl : TL.tl ("\n" : Str) = [10] := by decide +kernel
theorem line_mem {ws : List Str} (h : rowGood ws) {c : Nat} (hc : c ∈ TL.tl (lineT ws)) : c < 128 ∧ c ≠ 10 := by
  unfold lineT at hc
  rw [TL.join_eq, TL.tl_join, tl_sp] at hc
  rcases mem_joinL hc with hc | ⟨p, hp, hc⟩
  · rw [List.mem_singleton.mp hc]
    decide
  · obtain ⟨z, hz, rfl⟩ := List.mem_map.mp hp
    obtain ⟨a, b, d⟩ := (h.2.2 z hz).2 c hc
    exact ⟨a, d⟩
theorem line_len {ws : List Str} (h : rowGood ws) : (lineT ws).length ≤ 420 := by
  unfold lineT
  rw [TL.len_tl, TL.join_eq, TL.tl_join, tl_sp]
  have z := len_joinL (S := [32]) (m := 20) (ps := ws.map TL.tl) fun p hp => by
    obtain ⟨y, hy, rfl⟩ := List.mem_map.mp hp
    rw [← TL.len_tl]
    exact (h.2.2 y hy).1
  rw [List.length_map] at z
  have := h.2.1
  simp only [List.length_singleton] at z
  omega
theorem line_cut {ws : List Str} (h : rowGood ws) : Txt.split (lineT ws) " " = ws :=
  TL.split_join tl_sp (by decide +kernel) h.1 fun p hp hc => by
    have := ((h.2.2 p hp).2 32 hc).2.1
    exact this rfl
theorem text_ok {rws : List (List Str)} (hne : rws ≠ []) (hl : rws.length ≤ 100) (h : ∀ ws ∈ rws, rowGood ws) :
    lnsOk (textT rws) (rws.map lineT) ∧ rowsOk ((rws.map lineT).map fun ln => Txt.split ln " ") ∧ ((rws.map lineT).map fun ln => Txt.split ln " ") = rws := by
  have e : ((rws.map lineT).map fun ln => Txt.split ln " ") = rws := by
    rw [List.map_map]
    conv => rhs; rw [← List.map_id rws]
    exact List.map_congr_left fun ws hw => line_cut (h ws hw)
  have ll : ∀ ln ∈ rws.map lineT, ln.length ≤ 420 := fun ln hln => by
    obtain ⟨ws, hw, rfl⟩ := List.mem_map.mp hln
    exact line_len (h ws hw)
  refine ⟨⟨?_, ?_, by rw [List.length_map]; omega, fun ln hln => by have := ll ln hln; omega⟩, ?_, e⟩
  · refine TL.split_join tl_nl (by decide +kernel) (fun z => hne (List.map_eq_nil_iff.mp z)) fun p hp hc => ?_
    obtain ⟨ws, hw, rfl⟩ := List.mem_map.mp hp
    exact (line_mem (h ws hw) hc).2 rfl
  · unfold textT
    rw [TL.len_tl, TL.join_eq, TL.tl_join, tl_nl]
    have z := len_joinL (S := [10]) (m := 420) (ps := (rws.map lineT).map TL.tl) fun p hp => by
      obtain ⟨y, hy, rfl⟩ := List.mem_map.mp hp
      rw [← TL.len_tl]
      exact ll y hy
    rw [List.length_map, List.length_map] at z
    simp only [List.length_singleton] at z
    omega
  · rw [e]
    intro ws hw
    obtain ⟨_, h2, h3⟩ := h ws hw
    exact ⟨by omega, fun z hz => by have := (h3 z hz).1; omega⟩
/-- what is joined is no longer than a line -/
theorem join_fits {ys : List Str} {a : Str} {n m : Nat} (hn : ys.length ≤ n) (hm : ∀ y ∈ ys, y.length ≤ m) (ha : a.length = 1) (h : n * m + n ≤ 16777216) : (ys.map (·.length)).sum + ys.length * a.length ≤ 16777216 := by
  have z := sum_le (m := m) (l := ys.map (·.length)) fun x hx => by
    obtain ⟨y, hy, rfl⟩ := List.mem_map.mp hx
    exact hm y hy
  rw [List.length_map] at z
  rw [ha]
  have := Nat.mul_le_mul_right m hn
  omega
/-! ### the five written texts -/
def wA : List Str := ["0", "none", "p", "p", "p", "p", "p"]
def rowA : Str := "0 none p p p p p"
theorem rowA_eq : lineT wA = rowA := by decide +kernel
def t1 : List (List Str) := [[""]]
def t2 : List (List Str) := [wA, [""]]
def t3 : List (List Str) := List.replicate 61 wA
def t4 : List (List Str) := List.replicate 60 wA ++ ([["0", "none", "p", "p", "p", "p"]] : List (List Str))
def t5 : List (List Str) := ["z0", "none", "p", "p", "p", "p", "p"] :: List.replicate 60 wA
theorem goodB {ws : List Str} (h : (!ws.isEmpty && (decide (ws.length ≤ 20) && ws.all okVb)) = true) : rowGood ws := by
  simp only [Bool.and_eq_true, decide_eq_true_eq, List.all_eq_true] at h
  obtain ⟨h1, h2, h3⟩ := h
  refine ⟨fun z => ?_, h2, fun z hz => okV_of (h3 z hz)⟩
  rw [z] at h1
  cases h1
theorem goodAll {rws : List (List Str)} (h : (rws.all fun ws => !ws.isEmpty && (decide (ws.length ≤ 20) && ws.all okVb)) = true) : ∀ ws ∈ rws, rowGood ws := fun ws hw => goodB (List.all_eq_true.mp h ws hw)
structure Told (z : Str) (lns : List Str) (o : Out) : Prop where
  ln : lnsOk z lns
  rw : rowsOk (lns.map fun l => Txt.split l " ")
  td : toldOf (lns.map fun l => Txt.split l " ") = o
  gd : outGood o
theorem told_of {rws : List (List Str)} {z : Str} {o : Out} (hz : textT rws = z) (hne : rws ≠ []) (hl : rws.length ≤ 100) (h : ∀ ws ∈ rws, rowGood ws) (ho : dueOf rws = o) : Told z (rws.map lineT) o := by
  obtain ⟨a, b, c⟩ := text_ok hne hl h
  subst hz
  refine ⟨a, b, ?_, ho ▸ due_good rws⟩
  rw [c, plain rws hne, ho]
theorem due_text {rws : List (List Str)} {p : Nat × Nat} (h : faultFrom 0 rws = some p) : dueOf rws = .text p.1 p.2 := by
  unfold dueOf
  rw [h]
theorem due_many {rws : List (List Str)} (h : faultFrom 0 rws = none) (hl : 60 < rws.length) : dueOf rws = .tab .non := by
  unfold dueOf
  rw [h]
  exact if_pos hl
theorem told1 : Told "" (t1.map lineT) (.text 1 0) := told_of (by decide +kernel) (by decide) (by decide) (goodAll (by decide +kernel)) (due_text (p := (1, 0)) (by decide +kernel))
theorem told2 : Told (rowA ++ "\n") (t2.map lineT) (.text 2 0) := told_of (by decide +kernel) (by decide) (by decide) (goodAll (by decide +kernel)) (due_text (p := (2, 0)) (by decide +kernel))
theorem told3 : Told (Txt.join "\n" (List.replicate 61 rowA)) (t3.map lineT) (.tab .non) := told_of (by unfold textT t3; rw [List.map_replicate, rowA_eq]) (by decide) (by decide) (goodAll (by decide +kernel)) (due_many (by decide +kernel) (by decide))
theorem told4 : Told (Txt.join "\n" (List.replicate 60 rowA ++ (["0 none p p p p"] : List Str))) (t4.map lineT) (.text 61 7) := told_of (by unfold textT t4; rw [List.map_append, List.map_replicate, rowA_eq]; rw [show ([["0", "none", "p", "p", "p", "p"]] : List (List Str)).map lineT = (["0 none p p p p"] : List Str) by decide +kernel]) (by decide) (by decide) (goodAll (by decide +kernel)) (due_text (p := (61, 7)) (by decide +kernel))
theorem told5 : Told (Txt.join "\n" (("z" ++ rowA) :: List.replicate 60 rowA)) (t5.map lineT) (.text 1 1) := told_of (by unfold textT t5; rw [List.map_cons, List.map_replicate, rowA_eq]; rw [show lineT ["z0", "none", "p", "p", "p", "p", "p"] = ("z" ++ rowA : Str) by decide +kernel]) (by decide) (by decide) (goodAll (by decide +kernel)) (due_text (p := (1, 1)) (by decide +kernel))
end K39
set_option Elab.async false
set_option linter.all false
set_option maxRecDepth 100000
set_option maxHeartbeats 4000000
namespace K39
open PySem PySem.Spec PyProof.Rows L2 LamX
def rJoinQ (K : PySem.W.Frag) : V → List V → Hp → VK → Prop := fun x xs H Q => ∃ a p, ∃ ys : List Str, x = .str a ∧ xs = [.ref p] ∧ (SqL K H p (ys.map V.str) ∨ SqT K H p (ys.map V.str)) ∧ (ys.map (·.length)).sum + ys.length * a.length ≤ 16777216 ∧ Q (.str (Txt.join a ys)) H
theorem joinQ {X : Cx} {K : PySem.W.Frag} {o e : Expr} {to te : TE} {apos pos : Pos} (ho : PE X o to) (he : PE X e te) (h : X.K = K := by rfl) (hs : starEach [e] X.env = [(false, eval e X.env)] := by rfl) (hbase : attributeBase o "join" X.env (eval o X.env) = eval o X.env := by rfl) (hline : (apos.endLine == pos.line) = true := by rfl) :
    PE X (.Call (.Attribute o "join" apos) [e] [] pos) (tM1 (rJoinQ K) to te) := by
  subst h
  exact pe_join ho he hs hbase hline
section
variable {P : Program} {w : World} {K : PySem.W.Frag} {mg : Str → Option Value} {base : Heap}
theorem scLaw : FnScope ["script", "state", "turn", "rows", "text", "due", "thing", "row", "told", "words"] ["script"] (defScope sLaw) := ⟨rfl, rfl, rfl, by decide +kernel, rfl, by decide +kernel, by decide +kernel⟩
def lawN : List Str := ["script", "state", "turn", "rows", "text", "due", "thing", "row", "told", "words"]
def spLaw (K : PySem.W.Frag) (PT : Addr) : Sp := fun vs H Q _ => ∃ (a : Addr) (ns : List Int), vs = [.ref a] ∧ SqL K H a (vints ns) ∧ ns.length ≤ 63 ∧ H PT = some (.tbl #[]) ∧ ∀ H', Q (.bl true) H'
theorem ok_law (T : Tx K mg) {cc PT : Addr} {dV kV doc pm ct oc : Value} {an od : Option Addr} {osl : Array (Option Value)} (lk : K.lookup (He.ga K "law") = some ⟨oc, od, .func (PySem.W.fnOf "law" "law" (defArgs sLaw) (defBody sLaw) (defScope sLaw) dV kV doc pm an (.ref cc) ct), osl⟩) (hcd : PySem.W.codeIn K (.ref cc) "law" = true)
    (TB : TabB base mg cc PT) : FnOk P w K mg base CX0 9 (He.ga K "law") (PySem.W.fnOf "law" "law" (defArgs sLaw) (defBody sLaw) (defScope sLaw) dV kV doc pm an (.ref cc) ct) ["script"] (spLaw K PT) := by
  have o_law_begin := ok_begin (P := P) (w := w) (base := base) T
  have o_law_draw := ok_draw (P := P) (w := w) (base := base) T
  have o_law_drawn_table := ok_ltable (P := P) (w := w) (base := base) T
  have o_law_words := ok_lwords (P := P) (w := w) (base := base) T
  have o_law_spoilt := ok_lspoilt (P := P) (w := w) (base := base) T
  have o_law_due := ok_ldue (P := P) (w := w) (base := base) T
  have oread_table := ok_read_table (P := P) (w := w) (base := base) T
  obtain ⟨fdR, FR⟩ := T.sd.def_ 21 (d := dLawRaised) rfl
  have kR := FR.kp
  have bR : Binds K fdR ["asked"] [] := FR.bindsN fun _ _ _ _ _ _ us hl => match us, hl with | [_], _ => rfl
  obtain ⟨oc2, od2, dV2, kV2, doc2, pm2, an2, cdv2, ct2, osl2, rfl, lkR, hcR, _, _⟩ := FR.ex
  have kR : PySem.W.keepIn K (.ref (He.ga K "_law_raised")) = true := kR
  have bR : Binds K (PySem.W.fnOf "_law_raised" "_law_raised" (defArgs sLawRaised) (defBody sLawRaised) (defScope sLawRaised) dV2 kV2 doc2 pm2 an2 cdv2 ct2) ["asked"] [] := bR
  have lkR : K.lookup (He.ga K "_law_raised") = some ⟨oc2, od2, .func (PySem.W.fnOf "_law_raised" "_law_raised" (defArgs sLawRaised) (defBody sLawRaised) (defScope sLawRaised) dV2 kV2 doc2 pm2 an2 cdv2 ct2), osl2⟩ := lkR
  have hcR : PySem.W.codeIn K cdv2 "_law_raised" = true := hcR
  clear FR
  obtain ⟨TT, eTT⟩ : ∃ TT : List (Addr × Str), TT = [(PT, ("law.<locals>.<lambda>" : Str))] := ⟨_, rfl⟩
  have memT : (PT, ("law.<locals>.<lambda>" : Str)) ∈ TT := by simp [eTT]
  have huT : ∀ p ∈ TT, p.1 = PT → p.2 = "law.<locals>.<lambda>" := fun p hp _ => by
    rw [eTT] at hp
    rw [List.mem_singleton.mp hp]
  refine fn_of lk hcd scLaw (fun vs H Q E h => ?_) fun A outer s H vs Q E hr h => ?_
  · obtain ⟨a, ns, rfl, _⟩ := h
    rfl
  · suffices hh : ∃ t, PSs (cxOf CX0 P w K mg base ["script", "state", "turn", "rows", "text", "due", "thing", "row", "told", "words"] "law" (defScope sLaw) (He.ga K "law") (.ref cc) A outer s H E).nox (defBody sLaw) t ∧ t { nx := fun _ H' => Q .non H', rt := Q } (L2.start ["script", "state", "turn", "rows", "text", "due", "thing", "row", "told", "words"] vs) H by
      obtain ⟨t, h1, h2⟩ := hh
      exact ⟨t, h1.nox, h2⟩
    obtain ⟨a, ns, rfl, hs, hl, hP, hq⟩ := h
    refine ⟨_, (pss_cons (ps_set (i := 1) scLaw.nd rfl (Or.inl rfl) (pe_k o_law_begin hr (by decide) pass0 (pa_cons (pv 0) pa_nil)))
      (pss_cons (ps_for PassesOwn.never rfl (pi_range1 rfl T.n_range (pa_cons (pe_op op_add pe_int (pe_callB (call_min2 (by rfl)) (by rfl) T.n_min PyProof.Rows.boot_min (pa_cons pe_int (pa_cons (pe_callB call_len_seq (by rfl) T.n_len PySem.boot_len (pa_cons (pv 0) pa_nil)) pa_nil)))) pa_nil)) (pg_name (i := 2) scLaw.nd rfl (Or.inl rfl)) (pss_cons (ps_set (i := 3) scLaw.nd rfl (Or.inl rfl) (pe_k o_law_spoilt hr (by decide) pass0 (pa_cons (pv 1) (pa_cons (pe_k o_law_words hr (by decide) pass0 (pa_cons (pe_k o_law_drawn_table hr (by decide) pass0 (pa_cons (pv 1) (pa_cons pe_int (pa_cons (pe_ix ix_list (pe_lst (pa_cons pe_int (pa_cons pe_int (pa_cons pe_int pa_nil)))) (pe_k o_law_draw hr (by decide) pass0 (pa_cons (pv 1) (pa_cons pe_int pa_nil))) (fun _ _ => rfl)) pa_nil)))) pa_nil)) pa_nil))))
      (pss_cons (ps_set (i := 4) scLaw.nd rfl (Or.inr rfl) (joinQ (K := K) pe_str (pe_lc (own := [("words", 9)]) rfl scLaw.nd (pi_list (pv 3)) (blkOk_by (N := ["script", "state", "turn", "rows", "text", "due", "thing", "row", "told", "words"]) (sc := defScope sLaw) (by decide +kernel)) (fun _ _ _ _ _ => (pg_name (i := 9) scLaw.nd rfl (Or.inl rfl))) (fun _ _ _ _ _ => pts_nil) (fun _ _ _ _ _ => (joinQ (K := K) pe_str (pv 9))))))
      (pss_cons (ps_set (i := 5) scLaw.nd rfl (Or.inl rfl) (pe_k o_law_due hr (by decide) pass0 (pa_cons (pv 3) pa_nil)))
      (pss_one (ps_if (pt_cmpR (op_neD (un64 hr)) (pe_lamN (k := 6) (t := fun E => tCall (spReadTable K) [] E (tCons (tVar 4) tNil)) rfl T.g__law_raised kR lkR hcR bR scLawRaised rfl (Or.inl rfl) (raised_gives T) TB rfl memT huT hr (lamN_by (by show lamNB lawN (defScope sLaw) _ = true; decide +kernel)) (.inl ⟨rfl, fun _ _ _ _ _ => rfl⟩) (fun A outer s H E f c' hr2 => pe_k oread_table hr2 (by decide) (L2.passes_call (L2.takes_of rfl rfl rfl rfl) fun _ _ _ _ h => h) (pa_cons (pv 4) pa_nil))) (pv 5) (nomark _)) (pss_one (ps_ret pe_bl)) pss_nil))))))
      (pss_cons (ps_for PassesOwn.never rfl (pi_list (pe_lst (pa_cons pe_non (pa_cons pe_int (pa_cons pe_bl (pa_cons (pe_lst (pa_cons pe_str pa_nil)) (pa_cons (pe_tup pa_nil) (pa_cons pe_dnewK pa_nil)))))))) (pg_name (i := 6) scLaw.nd rfl (Or.inr rfl)) (pss_one (ps_if (pt_cmpR (op_neD (un64 hr)) (pe_lamN (k := 6) (t := fun E => tCall (spReadTable K) [] E (tCons (tVar 6) tNil)) rfl T.g__law_raised kR lkR hcR bR scLawRaised rfl (Or.inl rfl) (raised_gives T) TB rfl memT huT hr (lamN_by (by show lamNB lawN (defScope sLaw) _ = true; decide +kernel)) (.inl ⟨rfl, fun _ _ _ _ _ => rfl⟩) (fun A outer s H E f c' hr2 => pe_k oread_table hr2 (by decide) (L2.passes_call (L2.takes_of rfl rfl rfl rfl) fun _ _ _ _ h => h) (pa_cons (pv 6) pa_nil))) (pe_tup (pa_cons pe_str (pa_cons pe_int (pa_cons pe_int pa_nil)))) (nomark _)) (pss_one (ps_ret pe_bl)) pss_nil)))
      (pss_cons (ps_set (i := 7) scLaw.nd rfl (Or.inr rfl) pe_str)
      (pss_cons (ps_set (i := 8) scLaw.nd rfl (Or.inl rfl) (pe_lst (pa_cons (pe_lamN (k := 6) (t := fun E => tCall (spReadTable K) [] E (tCons (tC (V.str "")) tNil)) rfl T.g__law_raised kR lkR hcR bR scLawRaised rfl (Or.inl rfl) (raised_gives T) TB rfl memT huT hr (lamN_by (by show lamNB lawN (defScope sLaw) _ = true; decide +kernel)) (.inl ⟨rfl, fun _ _ _ _ _ => rfl⟩) (fun A outer s H E f c' hr2 => pe_k oread_table hr2 (by decide) (L2.passes_call (L2.takes_of rfl rfl rfl rfl) fun _ _ _ _ h => h) (pa_cons pe_str pa_nil))) (pa_cons (pe_lamN (k := 6) (t := fun E => tCall (spReadTable K) [] E (tCons _ tNil)) rfl T.g__law_raised kR lkR hcR bR scLawRaised rfl (Or.inl rfl) (raised_gives T) TB rfl memT huT hr (lamN_by (by show lamNB lawN (defScope sLaw) _ = true; decide +kernel)) (.inr ⟨_, 0, "y", rfl, rfl, pe_int, rfl, fun t v doc pm ctv c' => ⟨_, rfl, rfl⟩⟩) (fun A outer s H E f c' hr2 => pe_k oread_table hr2 (by decide) (L2.passes_call (L2.takes_of rfl rfl rfl rfl) fun _ _ _ _ h => h) (pa_cons (pe_op op_add_str (pv 7) pe_str) pa_nil))) pa_nil))))
      (pss_cons (ps_expr (pe_bm PySem.F.plainAttrs_list PySem.F.slot_list_append PySem.F.type_list_append mt_append (pv 8) (pa_cons (pe_lamN (k := 6) (t := fun E => tCall (spReadTable K) [] E (tCons _ tNil)) rfl T.g__law_raised kR lkR hcR bR scLawRaised rfl (Or.inl rfl) (raised_gives T) TB rfl memT huT hr (lamN_by (by show lamNB lawN (defScope sLaw) _ = true; decide +kernel)) (.inl ⟨rfl, fun _ _ _ _ _ => rfl⟩) (fun A outer s H E f c' hr2 => pe_k oread_table hr2 (by decide) (L2.passes_call (L2.takes_of rfl rfl rfl rfl) fun _ _ _ _ h => h) (pa_cons (joinQ (K := K) pe_str (pe_op op_rep (pe_lst (pa_cons (pv 7) pa_nil)) pe_int)) pa_nil))) pa_nil)))
      (pss_cons (ps_expr (pe_bm PySem.F.plainAttrs_list PySem.F.slot_list_append PySem.F.type_list_append mt_append (pv 8) (pa_cons (pe_lamN (k := 6) (t := fun E => tCall (spReadTable K) [] E (tCons _ tNil)) rfl T.g__law_raised kR lkR hcR bR scLawRaised rfl (Or.inl rfl) (raised_gives T) TB rfl memT huT hr (lamN_by (by show lamNB lawN (defScope sLaw) _ = true; decide +kernel)) (.inl ⟨rfl, fun _ _ _ _ _ => rfl⟩) (fun A outer s H E f c' hr2 => pe_k oread_table hr2 (by decide) (L2.passes_call (L2.takes_of rfl rfl rfl rfl) fun _ _ _ _ h => h) (pa_cons (joinQ (K := K) pe_str (pe_op op_cat (pe_op op_rep (pe_lst (pa_cons (pv 7) pa_nil)) pe_int) (pe_lst (pa_cons pe_str pa_nil)))) pa_nil))) pa_nil)))
      (pss_cons (ps_expr (pe_bm PySem.F.plainAttrs_list PySem.F.slot_list_append PySem.F.type_list_append mt_append (pv 8) (pa_cons (pe_lamN (k := 6) (t := fun E => tCall (spReadTable K) [] E (tCons _ tNil)) rfl T.g__law_raised kR lkR hcR bR scLawRaised rfl (Or.inl rfl) (raised_gives T) TB rfl memT huT hr (lamN_by (by show lamNB lawN (defScope sLaw) _ = true; decide +kernel)) (.inl ⟨rfl, fun _ _ _ _ _ => rfl⟩) (fun A outer s H E f c' hr2 => pe_k oread_table hr2 (by decide) (L2.passes_call (L2.takes_of rfl rfl rfl rfl) fun _ _ _ _ h => h) (pa_cons (joinQ (K := K) pe_str (pe_op op_cat (pe_lst (pa_cons (pe_op op_add_str pe_str (pv 7)) pa_nil)) (pe_op op_rep (pe_lst (pa_cons (pv 7) pa_nil)) pe_int))) pa_nil))) pa_nil)))
      (pss_one (ps_ret (pe_cmpR (op_eqD (un64 hr)) (pv 8) (pe_lst (pa_cons (pe_tup (pa_cons pe_str (pa_cons pe_int (pa_cons pe_int pa_nil)))) (pa_cons (pe_tup (pa_cons pe_str (pa_cons pe_int (pa_cons pe_int pa_nil)))) (pa_cons (pe_tup (pa_cons pe_str (pa_cons pe_non pa_nil))) (pa_cons (pe_tup (pa_cons pe_str (pa_cons pe_int (pa_cons pe_int pa_nil)))) (pa_cons (pe_tup (pa_cons pe_str (pa_cons pe_int (pa_cons pe_int pa_nil)))) pa_nil)))))) (nomark _)))))))))))), ?_⟩
    have T0 : Tabs TT H := by
      rw [eTT]
      intro p hp
      rw [List.mem_singleton.mp hp]
      exact TabS.nil hP
    have lns : (vints ns).length = ns.length := by unfold vints; rw [List.length_map]
    refine ⟨_, rfl, a, ns, rfl, hs, by omega, fun H1 d cl lf n e1 st _ _ _ => ?_⟩
    dsimp only [gName]
    obtain ⟨N, hN, hN2⟩ : ∃ N : Nat, (if (ns.length : Int) < 8 then (ns.length : Int) else 8) + 5 = (N : Int) ∧ N ≤ 13 := ⟨(if ns.length < 8 then ns.length else 8) + 5, by split <;> split <;> omega, by split <;> omega⟩
    refine ⟨_, rfl, a, _, rfl, .inl (Same.lst e1 hs), _, _, rfl, _, _, rfl, rfl, (N : Int), by rw [lns, ← hN, Int.add_comm], by omega, by omega, ?_⟩
    refine loop_n N (fun i σ H2 => ∃ (u2 u3 u4 u5 : Option V) (a' : Nat), σ = [some (.ref a), some (.ref d), u2, u3, u4, u5, none, none, none, none] ∧ StAt H2 d cl lf n a' ∧ a' ≤ 2000 * i ∧ Tabs TT H2) ⟨none, none, none, none, 0, rfl, st, by omega, T0.ext e1⟩ (fun σ H2 hv => ?_) fun i σ H2 hi hv => ?_
    · -- behind the turns
      obtain ⟨u2, u3, u4, u5, a', rfl, st2, ha2, T2⟩ := hv
      refine ⟨by show (N : Int).toNat ≤ N; omega, ?_⟩
      refine ⟨(by decide : 1 ≤ sizeLine), fun L1 n1 => ⟨(by decide : 0 ≤ sizeLine), fun p2 n2 => fun d3 n3 => ⟨(by decide : 6 ≤ sizeLine), fun L4 n4 => ?_⟩⟩⟩
      have a1 := Same.upd (o := .lst [.str "0 none"]) (Same.refl H2) n1
      have a2 := Same.upd (o := .tup []) (Same.refl _) n2
      have a3 := Same.upd (o := .dK []) (Same.refl _) n3
      have a4 := Same.upd (o := .lst [.non, .int 5, .bl true, .ref L1, .ref p2, .ref d3]) (Same.refl _) n4
      have hL1 := a4 _ _ (a3 _ _ (a2 _ _ (upd_same (H := H2) (a := L1) (o := .lst [.str "0 none"]))))
      have hp2 := a4 _ _ (a3 _ _ (upd_same (H := upd H2 L1 (.lst [.str "0 none"])) (a := p2) (o := .tup [])))
      have hd3 := a4 _ _ (upd_same (H := upd (upd H2 L1 (.lst [.str "0 none"])) p2 (.tup [])) (a := d3) (o := .dK []))
      have hL4 : upd (upd (upd (upd H2 L1 (.lst [.str "0 none"])) p2 (.tup [])) d3 (.dK [])) L4 (.lst [.non, .int 5, .bl true, .ref L1, .ref p2, .ref d3]) L4 = some (.lst [.non, .int 5, .bl true, .ref L1, .ref p2, .ref d3]) := upd_same
      have T5 := T2.ext (((a1.trans a2).trans a3).trans a4)
      clear a1 a2 a3 a4
      generalize upd (upd (upd (upd H2 L1 (.lst [.str "0 none"])) p2 (.tup [])) d3 (.dK [])) L4 (.lst [.non, .int 5, .bl true, .ref L1, .ref p2, .ref d3]) = H5 at *
      have hns : ∀ v ∈ ([.non, .int 5, .bl true, .ref L1, .ref p2, .ref d3] : List V), ∀ H', ExtN H5 H' → NotStr K H' v := fun v hv H' e => by
        simp only [List.mem_cons, List.not_mem_nil, or_false] at hv
        rcases hv with rfl | rfl | rfl | rfl | rfl | rfl
        · exact ⟨_, .base .non, by rfl⟩
        · exact ⟨_, .base (.int 5), by rfl⟩
        · exact ⟨_, .base (.bl true), by rfl⟩
        · exact ⟨_, .base (.lst (e _ _ hL1 (fun _ z => by cases z))), by rfl⟩
        · exact ⟨_, .base (.tup (e _ _ hp2 (fun _ z => by cases z))), by rfl⟩
        · exact ⟨_, .base (.dK (e _ _ hd3 (fun _ z => by cases z))), by rfl⟩
      have sL4 : SqL K H5 L4 [.non, .int 5, .bl true, .ref L1, .ref p2, .ref d3] := .inl (.inl hL4)
      refine ⟨L4, rfl, ⟨_, sL4⟩, loop_n 6 (fun i σ H6 => ∃ u6 : Option V, σ = [some (.ref a), some (.ref d), u2, u3, u4, u5, u6, none, none, none] ∧ ExtN H5 H6 ∧ Tabs TT H6) ⟨none, rfl, ExtN.refl _, T5⟩ (fun σ H6 hv => ?_) fun i σ H6 hi hv => ?_⟩
      · obtain ⟨u6, rfl, e6, T6⟩ := hv
        refine ⟨⟨_, SqL.extN e6 sL4, (by decide : 6 ≤ 6)⟩, ?_⟩
        dsimp only
        refine raised_text T6 (fun H1 R _ hR => hR H1 (Same.refl _)) told1.ln told1.rw told1.td (fun q1 H7 e7 T7 h7 => ?_)
        refine raised_text T7 (fun H1 R _ hR => ⟨_, rfl, _, _, rfl, rfl, by decide +kernel, hR H1 (Same.refl _)⟩) told2.ln told2.rw told2.td (fun q2 H8 e8 T8 h8 => ?_)
        have h7 := SqT.extN e8 h7
        refine ⟨(by decide : 2 ≤ sizeLine), fun D nD => ?_⟩
        have b0 := Same.upd (o := .lst [.ref q1, .ref q2]) (Same.refl H8) nD
        have h7 := Same.tup b0 h7
        have h8 := Same.tup b0 h8
        have T9 := T8.ext b0
        have hD : upd H8 D (.lst [.ref q1, .ref q2]) D = some (.lst [.ref q1, .ref q2]) := upd_same
        generalize upd H8 D (.lst [.ref q1, .ref q2]) = H9 at *
        dsimp only [gName]
        have lN : ∀ (xs : List V) (ps : Array Value), HO.lst xs ≠ .tbl ps := fun _ _ z => by cases z
        have updT : ∀ {H1 : Hp} {xs ys : List V}, H1 D = some (.lst xs) → Tabs TT H1 → Tabs TT (upd H1 D (.lst ys)) := fun {H1 xs ys} h t p hp => by
          obtain ⟨ps, g1, g2, g3⟩ := t p hp
          have n1 : p.1 ≠ D := fun z => by rw [z, h] at g1; cases g1
          refine ⟨ps, by rw [upd_ne n1]; exact g1, g2, fun pos cv hc => ?_⟩
          obtain ⟨c, x1, x2⟩ := g3 pos cv hc
          have n2 : c ≠ D := fun z => by
            rw [z, h] at x2
            exact codeO_lst (Option.some.inj x2).symm
          exact ⟨c, x1, by rw [upd_ne n2]; exact x2⟩
        refine ⟨_, rfl, .inl ⟨rfl, _, .inl (.inl hD)⟩, ?_⟩
        refine raised_text T9 (fun H1 R _ hR => ⟨⟨_, rfl⟩, _, rfl, (by decide : 1 ≤ sizeLine), fun L nL => ⟨L, 61, _, rfl, rfl, upd_same, by decide, by decide, by decide, fun p np => ⟨_, p, List.replicate 61 rowA, rfl, rfl, .inl (.inl (.inl upd_same)), join_fits (n := 61) (m := 20) (by decide) (fun y hy => ?_) rfl (by decide), hR _ ((Same.upd (Same.refl _) nL).trans (Same.upd (Same.refl _) np))⟩⟩⟩) told3.ln told3.rw told3.td (fun q3 H10 e10 T10 h10 => ?_)
        · rw [(List.mem_replicate.mp hy).2]
          decide
        have hD10 := e10 _ _ hD (lN _)
        have h7 := SqT.extN e10 h7
        have h8 := SqT.extN e10 h8
        refine ⟨D, _, _, rfl, rfl, hD10, (by decide : 2 < sizeLine), ?_⟩
        have h7 := SqT.updL (zs := [.ref q1, .ref q2, .ref q3]) hD10 h7
        have h8 := SqT.updL (zs := [.ref q1, .ref q2, .ref q3]) hD10 h8
        have h10 := SqT.updL (zs := [.ref q1, .ref q2, .ref q3]) hD10 h10
        have T11 := updT (ys := [.ref q1, .ref q2, .ref q3]) hD10 T10
        have hD11 : upd H10 D (.lst [.ref q1, .ref q2, .ref q3]) D = some (.lst [.ref q1, .ref q2, .ref q3]) := upd_same
        show tSeq _ _ _ _ (upd H10 D (.lst [.ref q1, .ref q2, .ref q3]))
        generalize upd H10 D (.lst [.ref q1, .ref q2, .ref q3]) = H11 at *
        refine ⟨_, rfl, .inl ⟨rfl, _, .inl (.inl hD11)⟩, ?_⟩
        refine raised_text T11 (fun H1 R _ hR => ⟨⟨_, rfl⟩, _, rfl, (by decide : 1 ≤ sizeLine), fun L nL => ⟨L, 60, _, rfl, rfl, upd_same, by decide, by decide, by decide, fun p np => ⟨(by decide : 1 ≤ sizeLine), fun L2 nL2 => ⟨p, L2, _, _, rfl, rfl, (Same.upd (Same.refl _) nL2) _ _ upd_same, upd_same, by decide, fun p3 np3 => ⟨_, p3, List.replicate 60 rowA ++ (["0 none p p p p"] : List Str), rfl, rfl, .inl (.inl (.inl upd_same)), join_fits (n := 61) (m := 20) (by decide) (fun y hy => ?_) rfl (by decide), hR _ ((((Same.upd (Same.refl _) nL).trans (Same.upd (Same.refl _) np)).trans (Same.upd (Same.refl _) nL2)).trans (Same.upd (Same.refl _) np3))⟩⟩⟩⟩⟩) told4.ln told4.rw told4.td (fun q4 H12 e12 T12 h12 => ?_)
        · rcases List.mem_append.mp hy with hy | hy
          · rw [(List.mem_replicate.mp hy).2]
            decide
          · rw [List.mem_singleton.mp hy]
            decide
        have hD12 := e12 _ _ hD11 (lN _)
        have h7 := SqT.extN e12 h7
        have h8 := SqT.extN e12 h8
        have h10 := SqT.extN e12 h10
        refine ⟨D, _, _, rfl, rfl, hD12, (by decide : 3 < sizeLine), ?_⟩
        have h7 := SqT.updL (zs := [.ref q1, .ref q2, .ref q3, .ref q4]) hD12 h7
        have h8 := SqT.updL (zs := [.ref q1, .ref q2, .ref q3, .ref q4]) hD12 h8
        have h10 := SqT.updL (zs := [.ref q1, .ref q2, .ref q3, .ref q4]) hD12 h10
        have h12 := SqT.updL (zs := [.ref q1, .ref q2, .ref q3, .ref q4]) hD12 h12
        have T13 := updT (ys := [.ref q1, .ref q2, .ref q3, .ref q4]) hD12 T12
        have hD13 : upd H12 D (.lst [.ref q1, .ref q2, .ref q3, .ref q4]) D = some (.lst [.ref q1, .ref q2, .ref q3, .ref q4]) := upd_same
        show tSeq _ _ _ _ (upd H12 D (.lst [.ref q1, .ref q2, .ref q3, .ref q4]))
        generalize upd H12 D (.lst [.ref q1, .ref q2, .ref q3, .ref q4]) = H13 at *
        refine ⟨_, rfl, .inl ⟨rfl, _, .inl (.inl hD13)⟩, ?_⟩
        refine raised_text T13 (fun H1 R _ hR => ⟨⟨_, rfl⟩, _, rfl, _, _, rfl, rfl, by decide +kernel, (by decide : 1 ≤ sizeLine), fun L0 nL0 => ⟨_, rfl, (by decide : 1 ≤ sizeLine), fun L nL => ⟨L, 60, _, rfl, rfl, upd_same, by decide, by decide, by decide, fun p np => ⟨L0, p, _, _, rfl, rfl, (Same.upd (Same.refl _) np) _ _ ((Same.upd (Same.refl _) nL) _ _ upd_same), upd_same, by decide, fun p3 np3 => ⟨_, p3, ("z" ++ rowA : Str) :: List.replicate 60 rowA, rfl, rfl, .inl (.inl (.inl upd_same)), join_fits (n := 61) (m := 20) (by decide) (fun y hy => ?_) rfl (by decide), hR _ ((((Same.upd (Same.refl _) nL0).trans (Same.upd (Same.refl _) nL)).trans (Same.upd (Same.refl _) np)).trans (Same.upd (Same.refl _) np3))⟩⟩⟩⟩⟩) told5.ln told5.rw told5.td (fun q5 H14 e14 T14 h14 => ?_)
        · rcases List.mem_cons.mp hy with hy | hy
          · rw [hy]
            decide +kernel
          · rw [(List.mem_replicate.mp hy).2]
            decide
        have hD14 := e14 _ _ hD13 (lN _)
        have h7 := SqT.extN e14 h7
        have h8 := SqT.extN e14 h8
        have h10 := SqT.extN e14 h10
        have h12 := SqT.extN e14 h12
        refine ⟨D, _, _, rfl, rfl, hD14, (by decide : 4 < sizeLine), ?_⟩
        have h7 := SqT.updL (zs := [.ref q1, .ref q2, .ref q3, .ref q4, .ref q5]) hD14 h7
        have h8 := SqT.updL (zs := [.ref q1, .ref q2, .ref q3, .ref q4, .ref q5]) hD14 h8
        have h10 := SqT.updL (zs := [.ref q1, .ref q2, .ref q3, .ref q4, .ref q5]) hD14 h10
        have h12 := SqT.updL (zs := [.ref q1, .ref q2, .ref q3, .ref q4, .ref q5]) hD14 h12
        have h14 := SqT.updL (zs := [.ref q1, .ref q2, .ref q3, .ref q4, .ref q5]) hD14 h14
        have hD15 : upd H14 D (.lst [.ref q1, .ref q2, .ref q3, .ref q4, .ref q5]) D = some (.lst [.ref q1, .ref q2, .ref q3, .ref q4, .ref q5]) := upd_same
        dsimp only
        rw [show ([.ref q1, .ref q2, .ref q3, .ref q4] ++ [.ref q5] : List V) = [.ref q1, .ref q2, .ref q3, .ref q4, .ref q5] from rfl]
        generalize upd H14 D (.lst [.ref q1, .ref q2, .ref q3, .ref q4, .ref q5]) = H15 at *
        refine ⟨_, rfl, (by decide : 3 ≤ sizeLine), fun r1 m1 => ⟨(by decide : 3 ≤ sizeLine), fun r2 m2 => ⟨(by decide : 2 ≤ sizeLine), fun r3 m3 => ⟨(by decide : 3 ≤ sizeLine), fun r4 m4 => ⟨(by decide : 3 ≤ sizeLine), fun r5 m5 => ⟨(by decide : 5 ≤ sizeLine), fun L nL => ?_⟩⟩⟩⟩⟩⟩
        have c1 := Same.upd (o := .tup [.str "text", .int 1, .int 0]) (Same.refl H15) m1
        have c2 := Same.upd (o := .tup [.str "text", .int 2, .int 0]) (Same.refl _) m2
        have c3 := Same.upd (o := .tup [.str "table", .non]) (Same.refl _) m3
        have c4 := Same.upd (o := .tup [.str "text", .int 61, .int 7]) (Same.refl _) m4
        have c5 := Same.upd (o := .tup [.str "text", .int 1, .int 1]) (Same.refl _) m5
        have c6 := Same.upd (o := .lst [.ref r1, .ref r2, .ref r3, .ref r4, .ref r5]) (Same.refl _) nL
        have call := ((((c1.trans c2).trans c3).trans c4).trans c5).trans c6
        refine ⟨.list [.tuple (outD (.text 1 0)), .tuple (outD (.text 2 0)), .tuple (outD (.tab .non)), .tuple (outD (.text 61 7)), .tuple (outD (.text 1 1))], .list [.tuple (outD (.text 1 0)), .tuple (outD (.text 2 0)), .tuple (outD (.tab .non)), .tuple (outD (.text 61 7)), .tuple (outD (.text 1 1))],
          .lst (.inl (.inl (call _ _ hD15))) (.cons (outDp told1.gd (Same.tup call h7)) (.cons (outDp told2.gd (Same.tup call h8)) (.cons (outDp told3.gd (Same.tup call h10)) (.cons (outDp told4.gd (Same.tup call h12)) (.cons (outDp told5.gd (Same.tup call h14)) .nil))))),
          .lst (.inl (.inl upd_same)) (.cons (outDp told1.gd (.inl (.inl (c6 _ _ (c5 _ _ (c4 _ _ (c3 _ _ (c2 _ _ upd_same)))))))) (.cons (outDp told2.gd (.inl (.inl (c6 _ _ (c5 _ _ (c4 _ _ (c3 _ _ upd_same))))))) (.cons (outDp told3.gd (.inl (.inl (c6 _ _ (c5 _ _ (c4 _ _ upd_same)))))) (.cons (outDp told4.gd (.inl (.inl (c6 _ _ (c5 _ _ upd_same))))) (.cons (outDp told5.gd (.inl (.inl (c6 _ _ upd_same)))) .nil))))),
          by decide +kernel, by decide +kernel, ?_⟩
        rw [show PyData.eqv (.list [.tuple (outD (.text 1 0)), .tuple (outD (.text 2 0)), .tuple (outD (.tab .non)), .tuple (outD (.text 61 7)), .tuple (outD (.text 1 1))]) (.list [.tuple (outD (.text 1 0)), .tuple (outD (.text 2 0)), .tuple (outD (.tab .non)), .tuple (outD (.text 61 7)), .tuple (outD (.text 1 1))]) = true by simp [outD, PyData.eqv, PyData.eqvAll]]
        exact hq _
      · obtain ⟨u6, rfl, e6, T6⟩ := hv
        obtain ⟨v, gv⟩ : ∃ v, ([.non, .int 5, .bl true, .ref L1, .ref p2, .ref d3] : List V)[i]? = some v := ⟨_, List.getElem?_eq_getElem hi⟩
        refine ⟨⟨_, _, SqL.extN e6 sL4, gv⟩, fun x H7 hy => ?_⟩
        obtain ⟨rfl, hx⟩ := hy
        have ex := hx _ (SqL.extN e6 sL4)
        rw [gv] at ex
        obtain rfl := (Option.some.inj ex).symm
        refine raised_other T6 (fun H1 R _ hR => ⟨_, rfl, hR⟩) (fun H1 e1 => hns _ (List.mem_of_getElem? gv) H1 (e6.trans e1)) fun p8 H8 e8 T8 h8 => ?_
        refine ⟨(by decide : 3 ≤ sizeLine), fun p9 np9 => ?_⟩
        have c9 := Same.upd (o := .tup [.str "text", .int 0, .int 0]) (Same.refl H8) np9
        refine ⟨_, _, outDp (o := .text 0 0) trivial (Same.tup c9 h8), outDp (o := .text 0 0) trivial (.inl (.inl upd_same)), outShaped (o := .text 0 0) trivial, outShaped (o := .text 0 0) trivial, _, rfl, ?_⟩
        rw [outEq (o := .text 0 0) trivial]
        exact iteF ⟨_, rfl, (e6.trans e8).trans (ExtN.of c9), T8.ext c9⟩
    · -- a turn
      obtain ⟨u2, u3, u4, u5, a', rfl, st2, ha2, T2⟩ := hv
      refine ⟨hi, fun x H3 hy => ?_⟩
      obtain ⟨rfl, rfl⟩ := hy
      refine ⟨_, rfl, _, rfl, (by decide : 3 ≤ sizeLine), fun L nL => ?_⟩
      have e3 := Same.upd (o := .lst [.int 3, .int 14, .int 60]) (Same.refl H3) nL
      refine ⟨_, rfl, d, cl, lf, n, a', _, rfl, by decide, by decide, st2.same e3, by omega, fun k H4 k0 k1 kp4 st4 => ?_⟩
      have nLm := fresh_dl st2 nL
      have hL4 := kp4 _ _ nLm upd_same
      have T4 := tabs_kp kp4 (st2.same e3) (T2.ext e3)
      obtain ⟨most, gm, m1, m2⟩ : ∃ most : Int, atI [V.int 3, V.int 14, V.int 60] k = some (.int most) ∧ 1 ≤ most ∧ most ≤ 60 := by
        have : k = 0 ∨ k = 1 ∨ k = 2 := by omega
        rcases this with rfl | rfl | rfl
        · exact ⟨3, rfl, by decide, by decide⟩
        · exact ⟨14, rfl, by decide, by decide⟩
        · exact ⟨60, rfl, by decide, by decide⟩
      refine ⟨L, _, _, _, rfl, rfl, .inl (.inl hL4), gm, d, cl, lf, n, a' + 1, most, rfl, m1, m2, st4, by omega, fun p5 as rs H5 hp5 hR5 hne5 h605 hf5 hE5 => ?_⟩
      obtain ⟨k5, a5, ha5, st5⟩ := hE5
      have T5 := tabs_kp k5 st4 T4
      refine ⟨p5, as, rs, rfl, hp5, hR5, h605, hf5, fun p6 rws6 H6 e6 hA6 hl6 hF6 => ?_⟩
      have st6 := st5.same e6
      have T6 := T5.ext e6
      have pos6 : 1 ≤ rws6.length := by rw [hl6]; exact List.length_pos_iff.mpr hne5
      refine ⟨d, cl, lf, n, a5, p6, rws6, rfl, st6, by omega, hA6, pos6, by omega, hF6, fun p7 rws H7 hE7 hA7 hl7 hF7 => ?_⟩
      obtain ⟨k7, a7, ha7, st7⟩ := hE7
      have T7 := tabs_kp k7 st6 T6
      have lne : rws ≠ [] := fun z => by rw [z] at hl7; simp at hl7; omega
      have l60 : rws.length ≤ 60 := by omega
      have good : ∀ ws ∈ rws, rowGood ws := fun ws hw => by
        obtain ⟨g1, g2, g3⟩ := hF7 ws hw
        exact ⟨fun z => by rw [z] at g1; simp at g1, by omega, g3⟩
      obtain ⟨ps, hs7, hps, hp7⟩ := hA7
      have lp : (ps.map V.ref).length = rws.length := by rw [List.length_map, hps]
      dsimp only [gName]
      refine ⟨⟨_, rfl⟩, _, rfl, p7, rfl, ⟨_, hs7⟩, fun D nD => ?_⟩
      refine lc_listJ (S := []) (xs := ps.map V.ref) (fun j acc _ => acc = vstrs ((rws.take j).map lineT)) (fun H8 k => Same.lst k.same hs7) (by rw [lp, sizeLine_eq]; omega) nD (by simp) (fun _ _ _ _ _ _ j => j) rfl (fun j x hx acc H8 Q8 N8 k8 hD8 jj hy hn => ?_) fun ys H8 k8 hD8 jj => ?_
      · obtain ⟨q, gq, rfl⟩ := map_get hx
        obtain ⟨ws, gws⟩ := get_len hps gq
        have gd := good ws (List.mem_of_getElem? gws)
        refine lc_yes rfl ⟨⟨_, rfl⟩, _, rfl, _, q, ws, rfl, rfl, .inl (Same.lst k8.same (hp7 j q ws gq gws)), join_fits (n := 20) (m := 20) gd.2.1 (fun y hy => (gd.2.2 y hy).1) rfl (by decide), hy _ _ (Kp.refl _ _) ?_⟩
        dsimp only
        rw [take_snoc gws, List.map_append, jj]
        unfold vstrs
        rw [List.map_append]
        rfl
      · rw [lp, List.take_length] at jj
        have st8 := st7.same k8.same
        have T8 := T7.ext k8.same
        have hA8 : RwsAt K H8 p7 rws := ⟨ps, Same.lst k8.same hs7, hps, fun i p ws g1 g2 => Same.lst k8.same (hp7 i p ws g1 g2)⟩
        refine ⟨_, D, rws.map lineT, rfl, rfl, .inl (.inl (.inl (by rw [hD8, jj]; rfl))), join_fits (n := 60) (m := 420) (by rw [List.length_map]; exact l60) (fun y hy => ?_) rfl (by decide), ?_⟩
        · obtain ⟨ws, hw, rfl⟩ := List.mem_map.mp hy
          exact line_len (good ws hw)
        dsimp only [gName]
        obtain ⟨x1, x2, x3⟩ := text_ok lne (by omega) good
        refine ⟨_, rfl, p7, rws, rfl, hA8, ⟨by omega, fun ws hw => ?_⟩, fun p9 H9 e9 h9 => ?_⟩
        · obtain ⟨g1, g2, g3⟩ := good ws hw
          exact ⟨by omega, fun z hz => ⟨by have := (g3 z hz).1; omega, fun c hc => by have := ((g3 z hz).2 c hc).1; omega⟩⟩
        dsimp only [gName]
        refine raised_text (T8.ext e9) (fun H1 R _ hR => ⟨_, rfl, hR H1 (Same.refl _)⟩) x1 x2 (o := dueOf rws) (by rw [x3]; exact plain rws lne) fun p10 H10 e10 T10 h10 => ?_
        have g := due_good rws
        refine ⟨_, rfl, _, _, outDp g h10, outDp g (SqT.extN e10 h9), outShaped g, outShaped g, _, rfl, ?_⟩
        rw [outEq g]
        exact iteF ⟨_, _, _, _, a7, rfl, (st8.same e9).extN e10, by omega, T10⟩
end
end K39
set_option Elab.async false
set_option linter.all false
set_option maxRecDepth 100000
set_option maxHeartbeats 0
namespace K39
open PySem PySem.Spec PyProof.Rows L2
abbrev R : PySem.W.OpenRow := PySem.W.OpenLaw.row PySem.Challenge.rw_unwindrows_k39_whole_wrong_texts_of_tabl
/-! ### the Hook: what stands reachable from the module's names, and the statics -/
abbrev KY (g : Addr → Option Obj) : PySem.W.Frag := He.frT g (cStatics :: He.asD g 6)
theorem saysY {w : World} {h : Heap}
    (e : ((He.obsT fa fn [] (KY h.get?), ex (KY h.get?) && He.tabsB h.get? tf (KY h.get?)) : He.AlX) = He.valX fn [] w) : He.SaysX fa fn [] tf ex w h (KY h.get?) := by
  obtain ⟨e1, e2⟩ := Prod.mk.inj e
  obtain ⟨more, tb⟩ := Bool.and_eq_true_iff.mp e2
  have each : ∀ p ∈ tf, PySem.W.codeHdIn (KY h.get?) (He.cT (KY h.get?) p).1 (He.cT (KY h.get?) p).2 = true ∧
      ∃ o, h.get? (He.cT (KY h.get?) p).2 = some o ∧ He.emptyTab o = true := by
    intro p hp
    have z := List.all_eq_true.mp tb p hp
    obtain ⟨z1, z2⟩ := Bool.and_eq_true_iff.mp z
    refine ⟨z1, ?_⟩
    generalize h.get? (He.cT (KY h.get?) p).2 = r at z2
    cases r with
    | none => cases z2
    | some o => exact ⟨o, rfl, z2⟩
  refine ⟨e1, more, fun p hp => (each p hp).1, fun p hp => ?_, fun p hp => ?_⟩
  · obtain ⟨o, e3, e4⟩ := (each p hp).2
    exact He.frT_none e3 e4
  · obtain ⟨o, e3, e4⟩ := (each p hp).2
    exact e3.trans (congrArg some (He.emptyTab_eq e4))
def obY (g : Addr → Option Obj) : He.AlX := (He.obsT fa fn [] (KY g), ex (KY g) && He.tabsB g tf (KY g))
def hk : PySem.W.Hook where
  α := He.AlX
  obs := fun s => obY s.heap.get?
  val := fun w => He.valX fn [] w
  says := fun w h => ∃ K : PySem.W.Frag, K.In h ∧ He.SaysX fa fn [] tf ex w h K
  of := fun _ _ e => ⟨_, He.frT_in, saysY e⟩
  keeps := by
    rintro w h h' ⟨K, KI, c⟩ k
    exact ⟨K, PySem.W.Frag.In.keeps KI k, c.t, c.more, c.hd, c.out, fun p hp => k _ _ (c.empty p hp)⟩
def ob (s : PySem.W.SharedT) : He.AlX := obY (HandSHeadRun.getT s)
theorem ob_eq (s : PySem.W.SharedT) : ob s = hk.obs s.abs := by
  have e : HandSHeadRun.getT s = s.abs.heap.get? := funext (HandSHeadRun.getT_eq s)
  show obY (HandSHeadRun.getT s) = obY s.abs.heap.get?
  rw [e]
def loose0 : List PySem.Str := ["UnwindError", "BadCode", "BadPath", "BadPlace", "BadItem", "BadTable", "BadPaper", "BadScript", "BadHouse", "BadText", "TooMany", "NeverThere", "REGISTERS", "STACK", "MOST_CODE", "MOST_WORDS", "MOST_LETTERS", "LETTERS", "is_integer", "is_register", "is_basis", "is_name", "WORD", "IN", "ITEMS", "LOST", "is_finding", "is_where", "is_rule", "need_rows"]
def loose1 : List PySem.Str := ["need_table", "BLANK", "LINE", "MINUS", "NONE", "DIGITS", "MOST_DIGITS", "number_told", "part_told", "where_told", "lines_of", "told_all", "row_told", "all_told", "read_table", "_law_mixed", "_law_begin", "_law_draw", "_law_of", "_law_raised", "_law_where", "_law_drawn_rule", "_law_drawn_table", "_law_is_number", "_law_fits", "_law_sorts", "_law_line_fault", "_law_where_right", "_law_due", "_law_words"]
def loose2 : List PySem.Str := ["_law_spoilt"]
def loose : List PySem.Str := loose0 ++ loose1 ++ loose2
theorem run (w : World) : HandSHeadRun.RunEq R (PySem.W.view R.prog [67]) hk ob 8000 loose w := by
  intro os
  kernel_rfl
end K39
set_option Elab.async false
set_option linter.all false
set_option maxRecDepth 100000
set_option maxHeartbeats 0
namespace K39
open PySem PySem.Spec PyProof.Rows L2 LamX
theorem law_at {w : World} {mg : Str → Option Value} {h : Heap} {K : PySem.W.Frag} (KX : K.In h) (G : h.Ns mainGlobals mg) (c : He.SaysX fa fn [] tf ex w h K) : LawAtS PySem.Challenge.rw_unwindrows_k39_whole_wrong_texts_of_tabl w K CX0 9 63 "script" mg (He.ga K "law") h := by
  have T := tx_of KX G c
  obtain ⟨fd, F⟩ := T.sd.def_ 33 (d := dLaw) rfl
  have hb := FunD.bindsA (ps := ["script"]) F fun _ _ _ _ _ _ us hl => match us, hl with | [_], _ => rfl
  obtain ⟨oc, od, dV, kV, doc, pm, an, cdv, ct, osl, rfl, lk, hcd, _, _⟩ := F.ex
  obtain ⟨cc, rfl⟩ := He.codeIn_ref hcd
  have ecc : He.codeOf K ("law", none) = cc := He.codeOf_eq lk rfl
  have hm : (("law", none) : He.Defn) ∈ tf := List.mem_cons_self ..
  have e1 := c.empty _ hm
  have e2 := c.out _ hm
  have e3 := c.hd _ hm
  have e4 : (He.cT K ("law", none)).1 = cc := ecc
  rw [e4] at e3
  have e3 := PySem.W.codeHd_of_K KX e3
  generalize (He.cT K ("law", none)).2 = PT at e1 e2 e3
  refine ⟨_, [(cc, PT)], spLaw K PT, fun p hp => ?_, fun p hp => ?_, fun p hp => ?_, fun s u => hb s [u] rfl, fun H a ns hl hbits hP hS => ⟨a, ns, rfl, hS, hl, hP _ (List.mem_cons_self ..), fun _ => rfl⟩, fun base _ _ hTB => ok_law T lk hcd (hTB _ (List.mem_cons_self ..))⟩
  · rw [List.mem_singleton.mp hp]
    exact e1
  · rw [List.mem_singleton.mp hp]
    exact e2
  · rw [List.mem_singleton.mp hp]
    exact e3
end K39
open PySem PySem.W PySem.Calls PyProof.Rows
theorem PySem.Challenge.cw_unwindrows_k39_whole_wrong_texts_of_tabl_holds : PySem.Challenge.rw_unwindrows_k39_whole_wrong_texts_of_tabl.Holds := by
  w_on; o_law
  refine HandSHeadRun.head_any (r := OpenLaw.row PySem.Challenge.rw_unwindrows_k39_whole_wrong_texts_of_tabl) (q := view (OpenLaw.row PySem.Challenge.rw_unwindrows_k39_whole_wrong_texts_of_tabl).prog [67]) (H := K39.hk) (ob := K39.ob) (M := 8000) (loose := K39.loose) (d := HandSHeadRun.topDef (OpenLaw.row PySem.Challenge.rw_unwindrows_k39_whole_wrong_texts_of_tabl).prog 67) (kwd := []) K39.ob_eq
    (by kernel_rfl) (fun s => by kernel_rfl) K39.run (by kernel_rfl) (by kernel_rfl) (by kernel_rfl) (by rfl) (by first | assumption | decide +kernel) (by decide +kernel) ⟨rfl, rfl, rfl, rfl, rfl, by decide +kernel⟩ ?hw ?hc
  case hw => w_witness2
  case hc =>
    refine LamX.walk_ofTsE (l := PySem.Challenge.rw_unwindrows_k39_whole_wrong_texts_of_tabl) (n := 63) (k := 9) (x := "script") (CX := fun _ => L2.CX0) rfl (by decide) (by kernel_rfl) ⟨rfl, by decide, by decide⟩ ?F (fun _ _ _ _ _ z => z)
    intro w mg fa h Y G hmg0
    obtain ⟨K, KX, c⟩ := Y
    have hmg : mg ("law" : PySem.Str) = some (.ref fa) := by
      have e : (HandSHeadRun.topDef (OpenLaw.row PySem.Challenge.rw_unwindrows_k39_whole_wrong_texts_of_tabl).prog 67).name = ("law" : PySem.Str) := by kernel_rfl
      rw [← e]
      exact hmg0
    have T := K39.tx_of KX G c
    have e := hmg.symm.trans T.g_law
    cases e
    exact ⟨K, KX, K39.law_at KX G c⟩
