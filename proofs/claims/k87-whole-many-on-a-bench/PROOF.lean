import PyProof.Rows.All
import Wide.All
import OpenK.AllK
import Wide.FinOn
import KE.KStateDown
import HandS.ForMost
import HandS.Exc
import HandS.ExcOwn
import HandS.Defaults
import HandS.Codes
import HandS.HeadEnd
import HandS.HeadHook4
import HandS.HeadNt
import HandS.Head2
import HandS.WordsExc
import HandS.TryOnly
import HandS.Small
import HandS.Conv
import HandS.SortOrd
import HandS.SortKw
import HandS.Walk
import HandS.NoneIn
import HandS.Deep
import HandS.Wide
import HandS.IsInst
import KE.SortKeyHeap
import KE.KDictKeyed
import KE.DataCmp
import KE.GoesEnum
import HandS.Zip
import PySem.Challenge.RW_swaprest_k87_whole_many_on_a_bench
set_option Elab.async false
set_option linter.all false
set_option maxRecDepth 100000
set_option maxHeartbeats 0
/-! ## Pl -/
/-! the text by places -/
namespace Sw
open PySem L2
def topS (i : Nat) : Stmt := PySem.Challenge.pw_swaprest_k87_whole_many_on_a_bench.main.body.getD i (.Pass ⟨0, 0, 0, 0⟩)
abbrev sIsWhole : Stmt := topS 18
abbrev sDivisor : Stmt := topS 19
abbrev sIsNumber : Stmt := topS 21
abbrev sPlus : Stmt := topS 23
abbrev sContrary : Stmt := topS 24
abbrev sLess : Stmt := topS 25
abbrev sTimes : Stmt := topS 26
abbrev sIsRow : Stmt := topS 28
abbrev sNoughtsRow : Stmt := topS 29
abbrev sUnit : Stmt := topS 30
abbrev sIsNought : Stmt := topS 31
abbrev sScaled : Stmt := topS 32
abbrev sAdded : Stmt := topS 33
abbrev sAreWays : Stmt := topS 35
abbrev sRoundSum : Stmt := topS 37
abbrev sFirstFault : Stmt := topS 38
abbrev sNeedLaw : Stmt := topS 39
abbrev sIsWord : Stmt := topS 44
abbrev sIsTerm : Stmt := topS 45
abbrev sRank : Stmt := topS 46
abbrev sCheckSum : Stmt := topS 47
abbrev sGathered : Stmt := topS 48
abbrev sToldSum : Stmt := topS 49
abbrev sPutTo : Stmt := topS 50
abbrev sClimb : Stmt := topS 54
abbrev sRisen : Stmt := topS 55
abbrev sNumberText : Stmt := topS 75
abbrev sRowText : Stmt := topS 76
abbrev sTableText : Stmt := topS 77
abbrev sWordText : Stmt := topS 78
abbrev sSumText : Stmt := topS 79
abbrev sFiguresIn : Stmt := topS 80
abbrev sWholeIn : Stmt := topS 81
abbrev sNumberIn : Stmt := topS 82
abbrev sWayIn : Stmt := topS 83
abbrev sPlaceIn : Stmt := topS 84
abbrev sRowIn : Stmt := topS 85
abbrev sLeavingIn : Stmt := topS 86
abbrev sReadTable : Stmt := topS 87
abbrev sWordIn : Stmt := topS 88
abbrev sReadSum : Stmt := topS 89
abbrev sMadeOf : Stmt := topS 95
abbrev sIsLine : Stmt := topS 96
abbrev sLookNew : Stmt := topS 97
abbrev sTwoSigns : Stmt := topS 98
abbrev sSignsOf : Stmt := topS 99
abbrev sNamesOf : Stmt := topS 100
abbrev sRuleText : Stmt := topS 101
abbrev sMixed : Stmt := topS 102
abbrev sLawMixed : Stmt := topS 105
abbrev sLawPurse : Stmt := topS 106
abbrev sLawTake : Stmt := topS 107
abbrev sLawAt : Stmt := topS 108
abbrev sLawMarks : Stmt := topS 109
abbrev sLawTableLine : Stmt := topS 110
abbrev sLawSumLine : Stmt := topS 111
abbrev sLawLine : Stmt := topS 112
abbrev sLawBehind : Stmt := topS 113
abbrev sLawStands : Stmt := topS 114
abbrev sLawNoneLeft : Stmt := topS 115
abbrev sLaw : Stmt := topS 116
abbrev sTableInit : Stmt := inClass (topS 36) 0
abbrev sTableCross : Stmt := inClass (topS 36) 1
abbrev sTableOfWays : Stmt := inClass (topS 36) 2
abbrev sTableBreaks : Stmt := inClass (topS 36) 4
abbrev sBenchInit : Stmt := inClass (topS 103) 0
abbrev sBenchTell : Stmt := inClass (topS 103) 1
abbrev sBenchLookThere : Stmt := inClass (topS 103) 2
abbrev sBenchKeep : Stmt := inClass (topS 103) 3
abbrev sBenchTakenBack : Stmt := inClass (topS 103) 4
abbrev sBenchWithout : Stmt := inClass (topS 103) 5
abbrev sBenchPutTable : Stmt := inClass (topS 103) 6
abbrev sBenchPutSum : Stmt := inClass (topS 103) 7
abbrev sBenchDropped : Stmt := inClass (topS 103) 8
abbrev sBenchMade : Stmt := inClass (topS 103) 9
abbrev sBenchAnswer : Stmt := inClass (topS 103) 10
/-! ### each def as a datum -/
def DIsWhole : He.DefD := ⟨("is_whole", none), "is_whole", "is_whole", defArgs sIsWhole, defBody sIsWhole, defScope sIsWhole, [], []⟩
def DDivisor : He.DefD := ⟨("divisor", none), "divisor", "divisor", defArgs sDivisor, defBody sDivisor, defScope sDivisor, [], []⟩
def DIsNumber : He.DefD := ⟨("is_number", none), "is_number", "is_number", defArgs sIsNumber, defBody sIsNumber, defScope sIsNumber, [], []⟩
def DPlus : He.DefD := ⟨("plus", none), "plus", "plus", defArgs sPlus, defBody sPlus, defScope sPlus, [], []⟩
def DContrary : He.DefD := ⟨("contrary", none), "contrary", "contrary", defArgs sContrary, defBody sContrary, defScope sContrary, [], []⟩
def DLess : He.DefD := ⟨("less", none), "less", "less", defArgs sLess, defBody sLess, defScope sLess, [], []⟩
def DTimes : He.DefD := ⟨("times", none), "times", "times", defArgs sTimes, defBody sTimes, defScope sTimes, [], []⟩
def DIsRow : He.DefD := ⟨("is_row", none), "is_row", "is_row", defArgs sIsRow, defBody sIsRow, defScope sIsRow, [], []⟩
def DNoughtsRow : He.DefD := ⟨("noughts_row", none), "noughts_row", "noughts_row", defArgs sNoughtsRow, defBody sNoughtsRow, defScope sNoughtsRow, [], []⟩
def DUnit : He.DefD := ⟨("unit", none), "unit", "unit", defArgs sUnit, defBody sUnit, defScope sUnit, [], []⟩
def DIsNought : He.DefD := ⟨("is_nought", none), "is_nought", "is_nought", defArgs sIsNought, defBody sIsNought, defScope sIsNought, [], []⟩
def DScaled : He.DefD := ⟨("scaled", none), "scaled", "scaled", defArgs sScaled, defBody sScaled, defScope sScaled, [], []⟩
def DAdded : He.DefD := ⟨("added", none), "added", "added", defArgs sAdded, defBody sAdded, defScope sAdded, [], []⟩
def DAreWays : He.DefD := ⟨("are_ways", none), "are_ways", "are_ways", defArgs sAreWays, defBody sAreWays, defScope sAreWays, [], []⟩
def DRoundSum : He.DefD := ⟨("round_sum", none), "round_sum", "round_sum", defArgs sRoundSum, defBody sRoundSum, defScope sRoundSum, [], []⟩
def DFirstFault : He.DefD := ⟨("first_fault", none), "first_fault", "first_fault", defArgs sFirstFault, defBody sFirstFault, defScope sFirstFault, [], []⟩
def DNeedLaw : He.DefD := ⟨("need_law", none), "need_law", "need_law", defArgs sNeedLaw, defBody sNeedLaw, defScope sNeedLaw, [], []⟩
def DIsWord : He.DefD := ⟨("is_word", none), "is_word", "is_word", defArgs sIsWord, defBody sIsWord, defScope sIsWord, [], []⟩
def DIsTerm : He.DefD := ⟨("is_term", none), "is_term", "is_term", defArgs sIsTerm, defBody sIsTerm, defScope sIsTerm, [], []⟩
def DRank : He.DefD := ⟨("rank", none), "rank", "rank", defArgs sRank, defBody sRank, defScope sRank, [], []⟩
def DCheckSum : He.DefD := ⟨("check_sum", none), "check_sum", "check_sum", defArgs sCheckSum, defBody sCheckSum, defScope sCheckSum, [], []⟩
def DGathered : He.DefD := ⟨("gathered", none), "gathered", "gathered", defArgs sGathered, defBody sGathered, defScope sGathered, [], []⟩
def DToldSum : He.DefD := ⟨("told_sum", none), "told_sum", "told_sum", defArgs sToldSum, defBody sToldSum, defScope sToldSum, [], []⟩
def DPutTo : He.DefD := ⟨("put_to", none), "put_to", "put_to", defArgs sPutTo, defBody sPutTo, defScope sPutTo, [], []⟩
def DClimb : He.DefD := ⟨("climb", none), "climb", "climb", defArgs sClimb, defBody sClimb, defScope sClimb, [], []⟩
def DRisen : He.DefD := ⟨("risen", none), "risen", "risen", defArgs sRisen, defBody sRisen, defScope sRisen, [], []⟩
def DNumberText : He.DefD := ⟨("number_text", none), "number_text", "number_text", defArgs sNumberText, defBody sNumberText, defScope sNumberText, [], []⟩
def DRowText : He.DefD := ⟨("row_text", none), "row_text", "row_text", defArgs sRowText, defBody sRowText, defScope sRowText, [], []⟩
def DTableText : He.DefD := ⟨("table_text", none), "table_text", "table_text", defArgs sTableText, defBody sTableText, defScope sTableText, [], []⟩
def DWordText : He.DefD := ⟨("word_text", none), "word_text", "word_text", defArgs sWordText, defBody sWordText, defScope sWordText, [], []⟩
def DSumText : He.DefD := ⟨("sum_text", none), "sum_text", "sum_text", defArgs sSumText, defBody sSumText, defScope sSumText, [], []⟩
def DFiguresIn : He.DefD := ⟨("figures_in", none), "figures_in", "figures_in", defArgs sFiguresIn, defBody sFiguresIn, defScope sFiguresIn, [], []⟩
def DWholeIn : He.DefD := ⟨("whole_in", none), "whole_in", "whole_in", defArgs sWholeIn, defBody sWholeIn, defScope sWholeIn, [], []⟩
def DNumberIn : He.DefD := ⟨("number_in", none), "number_in", "number_in", defArgs sNumberIn, defBody sNumberIn, defScope sNumberIn, [], []⟩
def DWayIn : He.DefD := ⟨("way_in", none), "way_in", "way_in", defArgs sWayIn, defBody sWayIn, defScope sWayIn, [], []⟩
def DPlaceIn : He.DefD := ⟨("place_in", none), "place_in", "place_in", defArgs sPlaceIn, defBody sPlaceIn, defScope sPlaceIn, [], []⟩
def DRowIn : He.DefD := ⟨("row_in", none), "row_in", "row_in", defArgs sRowIn, defBody sRowIn, defScope sRowIn, [], []⟩
def DLeavingIn : He.DefD := ⟨("leaving_in", none), "leaving_in", "leaving_in", defArgs sLeavingIn, defBody sLeavingIn, defScope sLeavingIn, [], []⟩
def DReadTable : He.DefD := ⟨("read_table", none), "read_table", "read_table", defArgs sReadTable, defBody sReadTable, defScope sReadTable, [], []⟩
def DWordIn : He.DefD := ⟨("word_in", none), "word_in", "word_in", defArgs sWordIn, defBody sWordIn, defScope sWordIn, [], []⟩
def DReadSum : He.DefD := ⟨("read_sum", none), "read_sum", "read_sum", defArgs sReadSum, defBody sReadSum, defScope sReadSum, [], []⟩
def DMadeOf : He.DefD := ⟨("made_of", none), "made_of", "made_of", defArgs sMadeOf, defBody sMadeOf, defScope sMadeOf, [], []⟩
def DIsLine : He.DefD := ⟨("is_line", none), "is_line", "is_line", defArgs sIsLine, defBody sIsLine, defScope sIsLine, [], []⟩
def DLookNew : He.DefD := ⟨("look_new", none), "look_new", "look_new", defArgs sLookNew, defBody sLookNew, defScope sLookNew, [], []⟩
def DTwoSigns : He.DefD := ⟨("two_signs", none), "two_signs", "two_signs", defArgs sTwoSigns, defBody sTwoSigns, defScope sTwoSigns, [], []⟩
def DSignsOf : He.DefD := ⟨("signs_of", none), "signs_of", "signs_of", defArgs sSignsOf, defBody sSignsOf, defScope sSignsOf, [], []⟩
def DNamesOf : He.DefD := ⟨("names_of", none), "names_of", "names_of", defArgs sNamesOf, defBody sNamesOf, defScope sNamesOf, [], []⟩
def DRuleText : He.DefD := ⟨("rule_text", none), "rule_text", "rule_text", defArgs sRuleText, defBody sRuleText, defScope sRuleText, [], []⟩
def DMixed : He.DefD := ⟨("mixed", none), "mixed", "mixed", defArgs sMixed, defBody sMixed, defScope sMixed, [], []⟩
def DLawMixed : He.DefD := ⟨("_law_mixed", none), "_law_mixed", "_law_mixed", defArgs sLawMixed, defBody sLawMixed, defScope sLawMixed, [], []⟩
def DLawPurse : He.DefD := ⟨("_law_purse", none), "_law_purse", "_law_purse", defArgs sLawPurse, defBody sLawPurse, defScope sLawPurse, [], []⟩
def DLawTake : He.DefD := ⟨("_law_take", none), "_law_take", "_law_take", defArgs sLawTake, defBody sLawTake, defScope sLawTake, [], []⟩
def DLawAt : He.DefD := ⟨("_law_at", none), "_law_at", "_law_at", defArgs sLawAt, defBody sLawAt, defScope sLawAt, [], []⟩
def DLawMarks : He.DefD := ⟨("_law_marks", none), "_law_marks", "_law_marks", defArgs sLawMarks, defBody sLawMarks, defScope sLawMarks, [], []⟩
def DLawTableLine : He.DefD := ⟨("_law_table_line", none), "_law_table_line", "_law_table_line", defArgs sLawTableLine, defBody sLawTableLine, defScope sLawTableLine, [], []⟩
def DLawSumLine : He.DefD := ⟨("_law_sum_line", none), "_law_sum_line", "_law_sum_line", defArgs sLawSumLine, defBody sLawSumLine, defScope sLawSumLine, [], []⟩
def DLawLine : He.DefD := ⟨("_law_line", none), "_law_line", "_law_line", defArgs sLawLine, defBody sLawLine, defScope sLawLine, [], []⟩
def DLawBehind : He.DefD := ⟨("_law_behind", none), "_law_behind", "_law_behind", defArgs sLawBehind, defBody sLawBehind, defScope sLawBehind, [], []⟩
def DLawStands : He.DefD := ⟨("_law_stands", none), "_law_stands", "_law_stands", defArgs sLawStands, defBody sLawStands, defScope sLawStands, [], []⟩
def DLawNoneLeft : He.DefD := ⟨("_law_none_left", none), "_law_none_left", "_law_none_left", defArgs sLawNoneLeft, defBody sLawNoneLeft, defScope sLawNoneLeft, [], []⟩
def DLaw : He.DefD := ⟨("law", none), "law", "law", defArgs sLaw, defBody sLaw, defScope sLaw, [], []⟩
def DTableInit : He.DefD := ⟨("Table", some "__init__"), "__init__", "Table.__init__", defArgs sTableInit, defBody sTableInit, defScope sTableInit, [], []⟩
def DTableCross : He.DefD := ⟨("Table", some "cross"), "cross", "Table.cross", defArgs sTableCross, defBody sTableCross, defScope sTableCross, [], []⟩
def DTableOfWays : He.DefD := ⟨("Table", some "of_ways"), "of_ways", "Table.of_ways", defArgs sTableOfWays, defBody sTableOfWays, defScope sTableOfWays, [], []⟩
def DTableBreaks : He.DefD := ⟨("Table", some "breaks"), "breaks", "Table.breaks", defArgs sTableBreaks, defBody sTableBreaks, defScope sTableBreaks, [], []⟩
def DBenchInit : He.DefD := ⟨("Bench", some "__init__"), "__init__", "Bench.__init__", defArgs sBenchInit, defBody sBenchInit, defScope sBenchInit, [], []⟩
def DBenchTell : He.DefD := ⟨("Bench", some "tell"), "tell", "Bench.tell", defArgs sBenchTell, defBody sBenchTell, defScope sBenchTell, [], []⟩
def DBenchLookThere : He.DefD := ⟨("Bench", some "look_there"), "look_there", "Bench.look_there", defArgs sBenchLookThere, defBody sBenchLookThere, defScope sBenchLookThere, [], []⟩
def DBenchKeep : He.DefD := ⟨("Bench", some "keep"), "keep", "Bench.keep", defArgs sBenchKeep, defBody sBenchKeep, defScope sBenchKeep, [], []⟩
def DBenchTakenBack : He.DefD := ⟨("Bench", some "taken_back"), "taken_back", "Bench.taken_back", defArgs sBenchTakenBack, defBody sBenchTakenBack, defScope sBenchTakenBack, [], []⟩
def DBenchWithout : He.DefD := ⟨("Bench", some "without"), "without", "Bench.without", defArgs sBenchWithout, defBody sBenchWithout, defScope sBenchWithout, [], []⟩
def DBenchPutTable : He.DefD := ⟨("Bench", some "put_table"), "put_table", "Bench.put_table", defArgs sBenchPutTable, defBody sBenchPutTable, defScope sBenchPutTable, [], []⟩
def DBenchPutSum : He.DefD := ⟨("Bench", some "put_sum"), "put_sum", "Bench.put_sum", defArgs sBenchPutSum, defBody sBenchPutSum, defScope sBenchPutSum, [], []⟩
def DBenchDropped : He.DefD := ⟨("Bench", some "dropped"), "dropped", "Bench.dropped", defArgs sBenchDropped, defBody sBenchDropped, defScope sBenchDropped, [], []⟩
def DBenchMade : He.DefD := ⟨("Bench", some "made"), "made", "Bench.made", defArgs sBenchMade, defBody sBenchMade, defScope sBenchMade, [], []⟩
def DBenchAnswer : He.DefD := ⟨("Bench", some "answer"), "answer", "Bench.answer", defArgs sBenchAnswer, defBody sBenchAnswer, defScope sBenchAnswer, [], []⟩
def fns : List He.DefD := [DIsWhole, DDivisor, DIsNumber, DPlus, DContrary, DLess, DTimes, DIsRow, DNoughtsRow, DUnit, DIsNought, DScaled, DAdded, DAreWays, DRoundSum, DFirstFault, DNeedLaw, DIsWord, DIsTerm, DRank, DCheckSum, DGathered, DToldSum, DPutTo, DClimb, DRisen, DNumberText, DRowText, DTableText, DWordText, DSumText, DFiguresIn, DWholeIn, DNumberIn, DWayIn, DPlaceIn, DRowIn, DLeavingIn, DReadTable, DWordIn, DReadSum, DMadeOf, DIsLine, DLookNew, DTwoSigns, DSignsOf, DNamesOf, DRuleText, DMixed, DLawMixed, DLawPurse, DLawTake, DLawAt, DLawMarks, DLawTableLine, DLawSumLine, DLawLine, DLawBehind, DLawStands, DLawNoneLeft, DLaw, DTableInit, DTableCross, DTableOfWays, DTableBreaks, DBenchInit, DBenchTell, DBenchLookThere, DBenchKeep, DBenchTakenBack, DBenchWithout, DBenchPutTable, DBenchPutSum, DBenchDropped, DBenchMade, DBenchAnswer]
def fas : List He.Fa := [.free "len", .free "isinstance", .free "int", .free "bool", .free "abs", .free "range", .free "enumerate", .free "zip", .free "sorted", .free "dict", .free "list", .free "tuple", .free "str", .glo "is_whole", .glo "divisor", .glo "is_number", .glo "plus", .glo "contrary", .glo "less", .glo "times", .glo "is_row", .glo "noughts_row", .glo "unit", .glo "is_nought", .glo "scaled", .glo "added", .glo "are_ways", .glo "round_sum", .glo "first_fault", .glo "need_law", .glo "is_word", .glo "is_term", .glo "rank", .glo "check_sum", .glo "gathered", .glo "told_sum", .glo "put_to", .glo "climb", .glo "risen", .glo "number_text", .glo "row_text", .glo "table_text", .glo "word_text", .glo "sum_text", .glo "figures_in", .glo "whole_in", .glo "number_in", .glo "way_in", .glo "place_in", .glo "row_in", .glo "leaving_in", .glo "read_table", .glo "word_in", .glo "read_sum", .glo "made_of", .glo "is_line", .glo "look_new", .glo "two_signs", .glo "signs_of", .glo "names_of", .glo "rule_text", .glo "mixed", .glo "_law_mixed", .glo "_law_purse", .glo "_law_take", .glo "_law_at", .glo "_law_marks", .glo "_law_table_line", .glo "_law_sum_line", .glo "_law_line", .glo "_law_behind", .glo "_law_stands", .glo "_law_none_left", .glo "law", .int "MOST" 5, .int "MOST_FIGURES" 9, .int "MOST_WAYS" 5, .str "FIGURES" "0123456789", .str "SMALL" "abcdefghijklmnopqrstuvwxyz", .str "CAPITAL" "ABCDEFGHIJKLMNOPQRSTUVWXYZ", .glo "NOUGHT", .glo "ONE", .glo "COUNTS", .glo "MAKERS", .glo "Table", .cls "Table", .mkr "Table", .meth "Table" "__init__", .meth "Table" "cross", .meth "Table" "of_ways", .meth "Table" "breaks", .glo "Bench", .cls "Bench", .mkr "Bench", .meth "Bench" "__init__", .meth "Bench" "tell", .meth "Bench" "look_there", .meth "Bench" "keep", .meth "Bench" "taken_back", .meth "Bench" "without", .meth "Bench" "put_table", .meth "Bench" "put_sum", .meth "Bench" "dropped", .meth "Bench" "made", .meth "Bench" "answer", .noat "Table" "count", .noat "Table" "width", .noat "Table" "leavings", .noat "Table" "rests", .noat "Table" "fault", .noat "Bench" "tables", .noat "Bench" "sums", .noat "Bench" "past", .glo "NoDeed", .exc "NoDeed", .exm "NoDeed" "NoDeed" true]
def ckeys : List Str := ["mix", "times", "swap", "even", "uneven", "back", "passes", "drop", "show", "rule", "of", "parts", "undo", "all"]
def tabs : List He.Tab := [(fun K => He.ga K "COUNTS", ckeys)]
def cvals : List (Str × He.Dv) := [("mix", .int 5), ("times", .int 4), ("swap", .int 4), ("even", .int 3), ("uneven", .int 3), ("back", .int 3), ("passes", .int 3), ("drop", .int 2), ("show", .int 2), ("rule", .int 2), ("of", .int 2), ("parts", .int 2), ("undo", .int 1), ("all", .int 1)]
def makers : List He.Dv := [.str "sum", .str "times", .str "swap", .str "mix", .str "even", .str "uneven", .str "back"]
def exB (K : PySem.W.Frag) : Bool := He.tupB K "NOUGHT" [.int 0, .int 1] && (He.tupB K "ONE" [.int 1, .int 1] && (He.tupB K "MAKERS" makers && He.valsB K (He.ga K "COUNTS") cvals))
abbrev R : PySem.W.OpenRow := PySem.W.OpenLaw.row PySem.Challenge.rw_swaprest_k87_whole_many_on_a_bench

/-! ### a hook over a part of the heap that is laid out first -/
def frO {A : Type} (o : Obj) (k : Obj → A) : A := match o with
  | ⟨c, d, dt, sl⟩ => k ⟨c, d, dt, sl⟩
theorem frO_eq {A : Type} (o : Obj) (k : Obj → A) : frO o k = k o := by
  cases o
  rfl
def frK {A : Type} (g : Addr → Option Obj) : List Addr → (PySem.W.Frag → A) → A
  | [], k => k []
  | a :: r, k => match g a with
    | none => frK g r k
    | some o => frO o fun o => frK g r fun K => k ((a, o) :: K)
theorem frK_eq {A : Type} (g : Addr → Option Obj) : ∀ (as : List Addr) (k : PySem.W.Frag → A), frK g as k = k (He.frG g as)
  | [], k => rfl
  | a :: r, k => by
    unfold frK He.frG
    cases e : g a with
    | none =>
      rw [List.filterMap_cons, e]
      exact frK_eq g r k
    | some o =>
      rw [List.filterMap_cons, e]
      show frO o (fun o => frK g r fun K => k ((a, o) :: K)) = _
      rw [frO_eq, frK_eq g r]
      rfl
abbrev AlS : Type := He.AlT × Bool
def obsS (as : List Addr) (fa : List He.Fa) (fn : List He.DefD) (ts : List He.Tab) (ex : PySem.W.Frag → Bool) (g : Addr → Option Obj) : AlS := frK g as fun K => (He.obsT fa fn ts K, ex K)
structure SaysS (fa : List He.Fa) (fn : List He.DefD) (ts : List He.Tab) (ex : PySem.W.Frag → Bool) (w : World) (K : PySem.W.Frag) : Prop where
  t : He.SaysT fa fn ts w K
  more : ex K = true
def hookS (as : List Addr) (fa : List He.Fa) (fn : List He.DefD) (ts : List He.Tab) (ex : PySem.W.Frag → Bool) : PySem.W.Hook where
  α := AlS
  obs := fun s => obsS as fa fn ts ex s.heap.get?
  val := fun w => (He.valT fn ts w, true)
  says := fun w h => ∃ K : PySem.W.Frag, K.In h ∧ SaysS fa fn ts ex w K
  of := fun w s e => by
    have e2 : ((He.obsT fa fn ts (He.frG s.heap.get? as), ex (He.frG s.heap.get? as)) : AlS) = (He.valT fn ts w, true) := (frK_eq s.heap.get? as _).symm.trans e
    exact ⟨_, He.frG_in, ⟨congrArg (fun z : AlS => z.1) e2, congrArg (fun z : AlS => z.2) e2⟩⟩
  keeps := fun _ _ _ ⟨K, hK, c⟩ k => ⟨K, PySem.W.Frag.In.keeps hK k, c⟩
theorem obsS_eq {as : List Addr} {fa : List He.Fa} {fn : List He.DefD} {ts : List He.Tab} {ex : PySem.W.Frag → Bool} {g : Addr → Option Obj} {s : Shared} (h : ∀ a, g a = s.heap.get? a) : obsS as fa fn ts ex g = (hookS as fa fn ts ex).obs s := by
  have e : g = s.heap.get? := funext h
  rw [e] <;> rfl

def addrs : List Addr := List.range 900
abbrev hkX : PySem.W.Hook := hookS addrs fas fns tabs exB

/-! ### the facts by names -/
structure Tx (w : World) (K : PySem.W.Frag) (mg : Str → Option Value) : Prop where
  says : SaysS fas fns tabs exB w K
  glo : ∀ x : Str, (He.Fa.glo x).ok K = true → mg x = some (.ref (He.ga K x))
  free : ∀ x : Str, (He.Fa.free x).ok K = true → mg x = none
  int : ∀ (x : Str) (i : Int), (He.Fa.int x i).ok K = true → ∃ t, mg x = some (.int i t)
  str : ∀ x z : Str, (He.Fa.str x z).ok K = true → ∃ t, mg x = some (.str z t)
theorem Tx.of {w : World} {K : PySem.W.Frag} {mg : Str → Option Value} {h : Heap} (X : K.In h) (G : h.Ns mainGlobals mg) (c : SaysS fas fns tabs exB w K) : Tx w K mg :=
  ⟨c, fun _ e => He.glo_ok X G e, fun _ e => He.free_ok X G e, fun _ _ e => He.int_ok X G e, fun _ _ e => He.str_ok X G e⟩
section
variable {w : World} {K : PySem.W.Frag} {mg : Str → Option Value}
theorem Tx.fa (T : Tx w K mg) (i : Nat) {f : He.Fa} (h : fas[i]? = some f := by rfl) : f.ok K = true := T.says.t.d.fact i h
theorem Tx.df (T : Tx w K mg) (i : Nat) {d : He.DefD} (h : fns[i]? = some d := by rfl) : ∃ fd, FunD K d.name d.qual d.params d.body d.scope (d.dvs K) (d.kws K) (He.fAd K d.at_) fd := T.says.t.d.def_ i h
theorem Tx.m_len (T : Tx w K mg) : mg "len" = none := T.free _ (T.fa 0)
theorem Tx.m_isinstance (T : Tx w K mg) : mg "isinstance" = none := T.free _ (T.fa 1)
theorem Tx.m_int (T : Tx w K mg) : mg "int" = none := T.free _ (T.fa 2)
theorem Tx.m_bool (T : Tx w K mg) : mg "bool" = none := T.free _ (T.fa 3)
theorem Tx.m_abs (T : Tx w K mg) : mg "abs" = none := T.free _ (T.fa 4)
theorem Tx.m_range (T : Tx w K mg) : mg "range" = none := T.free _ (T.fa 5)
theorem Tx.m_enumerate (T : Tx w K mg) : mg "enumerate" = none := T.free _ (T.fa 6)
theorem Tx.m_zip (T : Tx w K mg) : mg "zip" = none := T.free _ (T.fa 7)
theorem Tx.m_sorted (T : Tx w K mg) : mg "sorted" = none := T.free _ (T.fa 8)
theorem Tx.m_dict (T : Tx w K mg) : mg "dict" = none := T.free _ (T.fa 9)
theorem Tx.m_list (T : Tx w K mg) : mg "list" = none := T.free _ (T.fa 10)
theorem Tx.m_tuple (T : Tx w K mg) : mg "tuple" = none := T.free _ (T.fa 11)
theorem Tx.m_str (T : Tx w K mg) : mg "str" = none := T.free _ (T.fa 12)
theorem Tx.c_MOST (T : Tx w K mg) : ∃ u, mg "MOST" = some u ∧ RelV (.int 5) u := by
  obtain ⟨t, e⟩ := T.int "MOST" 5 (T.fa 74)
  exact ⟨_, e, t, rfl⟩
theorem Tx.c_MOST_FIGURES (T : Tx w K mg) : ∃ u, mg "MOST_FIGURES" = some u ∧ RelV (.int 9) u := by
  obtain ⟨t, e⟩ := T.int "MOST_FIGURES" 9 (T.fa 75)
  exact ⟨_, e, t, rfl⟩
theorem Tx.c_MOST_WAYS (T : Tx w K mg) : ∃ u, mg "MOST_WAYS" = some u ∧ RelV (.int 5) u := by
  obtain ⟨t, e⟩ := T.int "MOST_WAYS" 5 (T.fa 76)
  exact ⟨_, e, t, rfl⟩
theorem Tx.c_FIGURES (T : Tx w K mg) : ∃ u, mg "FIGURES" = some u ∧ RelV (.str "0123456789") u := by
  obtain ⟨t, e⟩ := T.str "FIGURES" "0123456789" (T.fa 77)
  exact ⟨_, e, t, rfl⟩
theorem Tx.c_SMALL (T : Tx w K mg) : ∃ u, mg "SMALL" = some u ∧ RelV (.str "abcdefghijklmnopqrstuvwxyz") u := by
  obtain ⟨t, e⟩ := T.str "SMALL" "abcdefghijklmnopqrstuvwxyz" (T.fa 78)
  exact ⟨_, e, t, rfl⟩
theorem Tx.c_CAPITAL (T : Tx w K mg) : ∃ u, mg "CAPITAL" = some u ∧ RelV (.str "ABCDEFGHIJKLMNOPQRSTUVWXYZ") u := by
  obtain ⟨t, e⟩ := T.str "CAPITAL" "ABCDEFGHIJKLMNOPQRSTUVWXYZ" (T.fa 79)
  exact ⟨_, e, t, rfl⟩
theorem Tx.c_NOUGHT (T : Tx w K mg) : ∃ u, mg "NOUGHT" = some u ∧ RelV (.ref (He.ga K "NOUGHT")) u := ⟨_, T.glo _ (T.fa 80), rfl⟩
theorem Tx.c_ONE (T : Tx w K mg) : ∃ u, mg "ONE" = some u ∧ RelV (.ref (He.ga K "ONE")) u := ⟨_, T.glo _ (T.fa 81), rfl⟩
theorem Tx.c_COUNTS (T : Tx w K mg) : ∃ u, mg "COUNTS" = some u ∧ RelV (.ref (He.ga K "COUNTS")) u := ⟨_, T.glo _ (T.fa 82), rfl⟩
theorem Tx.c_MAKERS (T : Tx w K mg) : ∃ u, mg "MAKERS" = some u ∧ RelV (.ref (He.ga K "MAKERS")) u := ⟨_, T.glo _ (T.fa 83), rfl⟩
theorem Tx.ex (T : Tx w K mg) : He.tupB K "NOUGHT" [.int 0, .int 1] = true ∧ He.tupB K "ONE" [.int 1, .int 1] = true ∧ He.tupB K "MAKERS" makers = true ∧ He.valsB K (He.ga K "COUNTS") cvals = true := by
  have h : exB K = true := T.says.more
  obtain ⟨h1, h⟩ := He.ba h
  obtain ⟨h2, h⟩ := He.ba h
  obtain ⟨h3, h4⟩ := He.ba h
  exact ⟨h1, h2, h3, h4⟩
theorem Tx.q_NOUGHT (T : Tx w K mg) (H : Hp) : SqT K H (He.ga K "NOUGHT") [.int 0, .int 1] := He.tupB_ok T.ex.1 H
theorem Tx.q_ONE (T : Tx w K mg) (H : Hp) : SqT K H (He.ga K "ONE") [.int 1, .int 1] := He.tupB_ok T.ex.2.1 H
theorem Tx.q_MAKERS (T : Tx w K mg) (H : Hp) : SqT K H (He.ga K "MAKERS") (makers.map (He.Dv.v K)) := He.tupB_ok T.ex.2.2.1 H
theorem Tx.kd (T : Tx w K mg) : ∃ es n, KDict K w (He.ga K "COUNTS") es n := T.says.t.tab 0 (t := (fun K => He.ga K "COUNTS", ckeys))
theorem Tx.kv (T : Tx w K mg) {q : Str × He.Dv} (hq : q ∈ cvals) : ∃ u, PySem.W.nsIn K (He.ga K "COUNTS") q.1 = some (some u) ∧ RelV (q.2.v K) u := He.valsB_ok T.ex.2.2.2 hq
abbrev cT (K : PySem.W.Frag) : Addr := He.ga K ("Table" : Str)
abbrev cB (K : PySem.W.Frag) : Addr := He.ga K ("Bench" : Str)
theorem Tx.cl_Table (T : Tx w K mg) : Cls K (He.ga K "Table") := He.cls_ok (T.fa 85)
theorem Tx.g_Table (T : Tx w K mg) : mg "Table" = some (.ref (He.ga K "Table")) := T.glo _ (T.fa 84)
theorem Tx.mk_Table (T : Tx w K mg) : Mk K (He.ga K "Table") (He.ma K (He.ga K "Table") "__init__") := He.mkr_ok (T.fa 86)
theorem Tx.me_Table___init__ (T : Tx w K mg) : Meth K (He.ga K "Table") "__init__" (He.ma K (He.ga K "Table") "__init__") := He.meth_ok (T.fa 87)
theorem Tx.me_Table_cross (T : Tx w K mg) : Meth K (He.ga K "Table") "cross" (He.ma K (He.ga K "Table") "cross") := He.meth_ok (T.fa 88)
theorem Tx.me_Table_of_ways (T : Tx w K mg) : Meth K (He.ga K "Table") "of_ways" (He.ma K (He.ga K "Table") "of_ways") := He.meth_ok (T.fa 89)
theorem Tx.me_Table_breaks (T : Tx w K mg) : Meth K (He.ga K "Table") "breaks" (He.ma K (He.ga K "Table") "breaks") := He.meth_ok (T.fa 90)
theorem Tx.cl_Bench (T : Tx w K mg) : Cls K (He.ga K "Bench") := He.cls_ok (T.fa 92)
theorem Tx.g_Bench (T : Tx w K mg) : mg "Bench" = some (.ref (He.ga K "Bench")) := T.glo _ (T.fa 91)
theorem Tx.mk_Bench (T : Tx w K mg) : Mk K (He.ga K "Bench") (He.ma K (He.ga K "Bench") "__init__") := He.mkr_ok (T.fa 93)
theorem Tx.me_Bench___init__ (T : Tx w K mg) : Meth K (He.ga K "Bench") "__init__" (He.ma K (He.ga K "Bench") "__init__") := He.meth_ok (T.fa 94)
theorem Tx.me_Bench_tell (T : Tx w K mg) : Meth K (He.ga K "Bench") "tell" (He.ma K (He.ga K "Bench") "tell") := He.meth_ok (T.fa 95)
theorem Tx.me_Bench_look_there (T : Tx w K mg) : Meth K (He.ga K "Bench") "look_there" (He.ma K (He.ga K "Bench") "look_there") := He.meth_ok (T.fa 96)
theorem Tx.me_Bench_keep (T : Tx w K mg) : Meth K (He.ga K "Bench") "keep" (He.ma K (He.ga K "Bench") "keep") := He.meth_ok (T.fa 97)
theorem Tx.me_Bench_taken_back (T : Tx w K mg) : Meth K (He.ga K "Bench") "taken_back" (He.ma K (He.ga K "Bench") "taken_back") := He.meth_ok (T.fa 98)
theorem Tx.me_Bench_without (T : Tx w K mg) : Meth K (He.ga K "Bench") "without" (He.ma K (He.ga K "Bench") "without") := He.meth_ok (T.fa 99)
theorem Tx.me_Bench_put_table (T : Tx w K mg) : Meth K (He.ga K "Bench") "put_table" (He.ma K (He.ga K "Bench") "put_table") := He.meth_ok (T.fa 100)
theorem Tx.me_Bench_put_sum (T : Tx w K mg) : Meth K (He.ga K "Bench") "put_sum" (He.ma K (He.ga K "Bench") "put_sum") := He.meth_ok (T.fa 101)
theorem Tx.me_Bench_dropped (T : Tx w K mg) : Meth K (He.ga K "Bench") "dropped" (He.ma K (He.ga K "Bench") "dropped") := He.meth_ok (T.fa 102)
theorem Tx.me_Bench_made (T : Tx w K mg) : Meth K (He.ga K "Bench") "made" (He.ma K (He.ga K "Bench") "made") := He.meth_ok (T.fa 103)
theorem Tx.me_Bench_answer (T : Tx w K mg) : Meth K (He.ga K "Bench") "answer" (He.ma K (He.ga K "Bench") "answer") := He.meth_ok (T.fa 104)
theorem Tx.n_count (T : Tx w K mg) : NoAttr K (He.ga K "Table") "count" := He.noat_ok (T.fa 105)
theorem Tx.n_width (T : Tx w K mg) : NoAttr K (He.ga K "Table") "width" := He.noat_ok (T.fa 106)
theorem Tx.n_leavings (T : Tx w K mg) : NoAttr K (He.ga K "Table") "leavings" := He.noat_ok (T.fa 107)
theorem Tx.n_rests (T : Tx w K mg) : NoAttr K (He.ga K "Table") "rests" := He.noat_ok (T.fa 108)
theorem Tx.n_fault (T : Tx w K mg) : NoAttr K (He.ga K "Table") "fault" := He.noat_ok (T.fa 109)
theorem Tx.n_tables (T : Tx w K mg) : NoAttr K (He.ga K "Bench") "tables" := He.noat_ok (T.fa 110)
theorem Tx.n_sums (T : Tx w K mg) : NoAttr K (He.ga K "Bench") "sums" := He.noat_ok (T.fa 111)
theorem Tx.n_past (T : Tx w K mg) : NoAttr K (He.ga K "Bench") "past" := He.noat_ok (T.fa 112)
theorem Tx.g_NoDeed (T : Tx w K mg) : mg "NoDeed" = some (.ref (He.ga K "NoDeed")) := T.glo _ (T.fa 113)
theorem Tx.x_NoDeed (T : Tx w K mg) : PySem.W.excIn K (He.ga K "NoDeed") He.veBase "ValueError.__new__" = true ∧ PySem.W.keepIn K (.ref (He.ga K "NoDeed")) = true ∧ PySem.W.subIn K (.ref (He.ga K "NoDeed")) (.type "BaseException") = some true ∧ PySem.W.typeIn K (.ref (He.ga K "NoDeed")) = some (.type "type") := He.exc_ok (T.fa 114)
theorem Tx.e_NoDeed (T : Tx w K mg) : PySem.W.exmOne K (.ref (He.ga K "NoDeed")) (.ref (He.ga K "NoDeed")) = some true := He.exm_ok (T.fa 115)
theorem Tx.F_is_whole (T : Tx w K mg) : ∃ fd, Fun K "is_whole" "is_whole" sIsWhole (He.ga K "is_whole") fd ∧ Binds K fd ["one"] [] := by
  obtain ⟨fd, F⟩ := T.df 0 (d := DIsWhole)
  have G : Fun K "is_whole" "is_whole" sIsWhole (He.ga K "is_whole") fd := He5.fun_of (st := sIsWhole) F
  exact ⟨fd, G, G.binds fun _ _ _ _ _ _ us hl => match us, hl with | [_], _ => rfl⟩
theorem Tx.g_is_whole (T : Tx w K mg) : mg "is_whole" = some (.ref (He.ga K "is_whole")) := T.glo _ (T.fa 13)
theorem Tx.F_divisor (T : Tx w K mg) : ∃ fd, Fun K "divisor" "divisor" sDivisor (He.ga K "divisor") fd ∧ Binds K fd ["one", "other"] [] := by
  obtain ⟨fd, F⟩ := T.df 1 (d := DDivisor)
  have G : Fun K "divisor" "divisor" sDivisor (He.ga K "divisor") fd := He5.fun_of (st := sDivisor) F
  exact ⟨fd, G, G.binds fun _ _ _ _ _ _ us hl => match us, hl with | [_, _], _ => rfl⟩
theorem Tx.g_divisor (T : Tx w K mg) : mg "divisor" = some (.ref (He.ga K "divisor")) := T.glo _ (T.fa 14)
theorem Tx.F_is_number (T : Tx w K mg) : ∃ fd, Fun K "is_number" "is_number" sIsNumber (He.ga K "is_number") fd ∧ Binds K fd ["one"] [] := by
  obtain ⟨fd, F⟩ := T.df 2 (d := DIsNumber)
  have G : Fun K "is_number" "is_number" sIsNumber (He.ga K "is_number") fd := He5.fun_of (st := sIsNumber) F
  exact ⟨fd, G, G.binds fun _ _ _ _ _ _ us hl => match us, hl with | [_], _ => rfl⟩
theorem Tx.g_is_number (T : Tx w K mg) : mg "is_number" = some (.ref (He.ga K "is_number")) := T.glo _ (T.fa 15)
theorem Tx.F_plus (T : Tx w K mg) : ∃ fd, Fun K "plus" "plus" sPlus (He.ga K "plus") fd ∧ Binds K fd ["one", "other"] [] := by
  obtain ⟨fd, F⟩ := T.df 3 (d := DPlus)
  have G : Fun K "plus" "plus" sPlus (He.ga K "plus") fd := He5.fun_of (st := sPlus) F
  exact ⟨fd, G, G.binds fun _ _ _ _ _ _ us hl => match us, hl with | [_, _], _ => rfl⟩
theorem Tx.g_plus (T : Tx w K mg) : mg "plus" = some (.ref (He.ga K "plus")) := T.glo _ (T.fa 16)
theorem Tx.F_contrary (T : Tx w K mg) : ∃ fd, Fun K "contrary" "contrary" sContrary (He.ga K "contrary") fd ∧ Binds K fd ["one"] [] := by
  obtain ⟨fd, F⟩ := T.df 4 (d := DContrary)
  have G : Fun K "contrary" "contrary" sContrary (He.ga K "contrary") fd := He5.fun_of (st := sContrary) F
  exact ⟨fd, G, G.binds fun _ _ _ _ _ _ us hl => match us, hl with | [_], _ => rfl⟩
theorem Tx.g_contrary (T : Tx w K mg) : mg "contrary" = some (.ref (He.ga K "contrary")) := T.glo _ (T.fa 17)
theorem Tx.F_less (T : Tx w K mg) : ∃ fd, Fun K "less" "less" sLess (He.ga K "less") fd ∧ Binds K fd ["one", "other"] [] := by
  obtain ⟨fd, F⟩ := T.df 5 (d := DLess)
  have G : Fun K "less" "less" sLess (He.ga K "less") fd := He5.fun_of (st := sLess) F
  exact ⟨fd, G, G.binds fun _ _ _ _ _ _ us hl => match us, hl with | [_, _], _ => rfl⟩
theorem Tx.g_less (T : Tx w K mg) : mg "less" = some (.ref (He.ga K "less")) := T.glo _ (T.fa 18)
theorem Tx.F_times (T : Tx w K mg) : ∃ fd, Fun K "times" "times" sTimes (He.ga K "times") fd ∧ Binds K fd ["one", "other"] [] := by
  obtain ⟨fd, F⟩ := T.df 6 (d := DTimes)
  have G : Fun K "times" "times" sTimes (He.ga K "times") fd := He5.fun_of (st := sTimes) F
  exact ⟨fd, G, G.binds fun _ _ _ _ _ _ us hl => match us, hl with | [_, _], _ => rfl⟩
theorem Tx.g_times (T : Tx w K mg) : mg "times" = some (.ref (He.ga K "times")) := T.glo _ (T.fa 19)
theorem Tx.F_is_row (T : Tx w K mg) : ∃ fd, Fun K "is_row" "is_row" sIsRow (He.ga K "is_row") fd ∧ Binds K fd ["row", "width"] [] := by
  obtain ⟨fd, F⟩ := T.df 7 (d := DIsRow)
  have G : Fun K "is_row" "is_row" sIsRow (He.ga K "is_row") fd := He5.fun_of (st := sIsRow) F
  exact ⟨fd, G, G.binds fun _ _ _ _ _ _ us hl => match us, hl with | [_, _], _ => rfl⟩
theorem Tx.g_is_row (T : Tx w K mg) : mg "is_row" = some (.ref (He.ga K "is_row")) := T.glo _ (T.fa 20)
theorem Tx.F_noughts_row (T : Tx w K mg) : ∃ fd, Fun K "noughts_row" "noughts_row" sNoughtsRow (He.ga K "noughts_row") fd ∧ Binds K fd ["width"] [] := by
  obtain ⟨fd, F⟩ := T.df 8 (d := DNoughtsRow)
  have G : Fun K "noughts_row" "noughts_row" sNoughtsRow (He.ga K "noughts_row") fd := He5.fun_of (st := sNoughtsRow) F
  exact ⟨fd, G, G.binds fun _ _ _ _ _ _ us hl => match us, hl with | [_], _ => rfl⟩
theorem Tx.g_noughts_row (T : Tx w K mg) : mg "noughts_row" = some (.ref (He.ga K "noughts_row")) := T.glo _ (T.fa 21)
theorem Tx.F_unit (T : Tx w K mg) : ∃ fd, Fun K "unit" "unit" sUnit (He.ga K "unit") fd ∧ Binds K fd ["width", "at"] [] := by
  obtain ⟨fd, F⟩ := T.df 9 (d := DUnit)
  have G : Fun K "unit" "unit" sUnit (He.ga K "unit") fd := He5.fun_of (st := sUnit) F
  exact ⟨fd, G, G.binds fun _ _ _ _ _ _ us hl => match us, hl with | [_, _], _ => rfl⟩
theorem Tx.g_unit (T : Tx w K mg) : mg "unit" = some (.ref (He.ga K "unit")) := T.glo _ (T.fa 22)
theorem Tx.F_is_nought (T : Tx w K mg) : ∃ fd, Fun K "is_nought" "is_nought" sIsNought (He.ga K "is_nought") fd ∧ Binds K fd ["row"] [] := by
  obtain ⟨fd, F⟩ := T.df 10 (d := DIsNought)
  have G : Fun K "is_nought" "is_nought" sIsNought (He.ga K "is_nought") fd := He5.fun_of (st := sIsNought) F
  exact ⟨fd, G, G.binds fun _ _ _ _ _ _ us hl => match us, hl with | [_], _ => rfl⟩
theorem Tx.g_is_nought (T : Tx w K mg) : mg "is_nought" = some (.ref (He.ga K "is_nought")) := T.glo _ (T.fa 23)
theorem Tx.F_scaled (T : Tx w K mg) : ∃ fd, Fun K "scaled" "scaled" sScaled (He.ga K "scaled") fd ∧ Binds K fd ["number", "row"] [] := by
  obtain ⟨fd, F⟩ := T.df 11 (d := DScaled)
  have G : Fun K "scaled" "scaled" sScaled (He.ga K "scaled") fd := He5.fun_of (st := sScaled) F
  exact ⟨fd, G, G.binds fun _ _ _ _ _ _ us hl => match us, hl with | [_, _], _ => rfl⟩
theorem Tx.g_scaled (T : Tx w K mg) : mg "scaled" = some (.ref (He.ga K "scaled")) := T.glo _ (T.fa 24)
theorem Tx.F_added (T : Tx w K mg) : ∃ fd, Fun K "added" "added" sAdded (He.ga K "added") fd ∧ Binds K fd ["one", "other"] [] := by
  obtain ⟨fd, F⟩ := T.df 12 (d := DAdded)
  have G : Fun K "added" "added" sAdded (He.ga K "added") fd := He5.fun_of (st := sAdded) F
  exact ⟨fd, G, G.binds fun _ _ _ _ _ _ us hl => match us, hl with | [_, _], _ => rfl⟩
theorem Tx.g_added (T : Tx w K mg) : mg "added" = some (.ref (He.ga K "added")) := T.glo _ (T.fa 25)
theorem Tx.F_are_ways (T : Tx w K mg) : ∃ fd, Fun K "are_ways" "are_ways" sAreWays (He.ga K "are_ways") fd ∧ Binds K fd ["count", "one", "other"] [] := by
  obtain ⟨fd, F⟩ := T.df 13 (d := DAreWays)
  have G : Fun K "are_ways" "are_ways" sAreWays (He.ga K "are_ways") fd := He5.fun_of (st := sAreWays) F
  exact ⟨fd, G, G.binds fun _ _ _ _ _ _ us hl => match us, hl with | [_, _, _], _ => rfl⟩
theorem Tx.g_are_ways (T : Tx w K mg) : mg "are_ways" = some (.ref (He.ga K "are_ways")) := T.glo _ (T.fa 26)
theorem Tx.F_round_sum (T : Tx w K mg) : ∃ fd, Fun K "round_sum" "round_sum" sRoundSum (He.ga K "round_sum") fd ∧ Binds K fd ["table", "one", "two", "three"] [] := by
  obtain ⟨fd, F⟩ := T.df 14 (d := DRoundSum)
  have G : Fun K "round_sum" "round_sum" sRoundSum (He.ga K "round_sum") fd := He5.fun_of (st := sRoundSum) F
  exact ⟨fd, G, G.binds fun _ _ _ _ _ _ us hl => match us, hl with | [_, _, _, _], _ => rfl⟩
theorem Tx.g_round_sum (T : Tx w K mg) : mg "round_sum" = some (.ref (He.ga K "round_sum")) := T.glo _ (T.fa 27)
theorem Tx.F_first_fault (T : Tx w K mg) : ∃ fd, Fun K "first_fault" "first_fault" sFirstFault (He.ga K "first_fault") fd ∧ Binds K fd ["table"] [] := by
  obtain ⟨fd, F⟩ := T.df 15 (d := DFirstFault)
  have G : Fun K "first_fault" "first_fault" sFirstFault (He.ga K "first_fault") fd := He5.fun_of (st := sFirstFault) F
  exact ⟨fd, G, G.binds fun _ _ _ _ _ _ us hl => match us, hl with | [_], _ => rfl⟩
theorem Tx.g_first_fault (T : Tx w K mg) : mg "first_fault" = some (.ref (He.ga K "first_fault")) := T.glo _ (T.fa 28)
theorem Tx.F_need_law (T : Tx w K mg) : ∃ fd, Fun K "need_law" "need_law" sNeedLaw (He.ga K "need_law") fd ∧ Binds K fd ["table"] [] := by
  obtain ⟨fd, F⟩ := T.df 16 (d := DNeedLaw)
  have G : Fun K "need_law" "need_law" sNeedLaw (He.ga K "need_law") fd := He5.fun_of (st := sNeedLaw) F
  exact ⟨fd, G, G.binds fun _ _ _ _ _ _ us hl => match us, hl with | [_], _ => rfl⟩
theorem Tx.g_need_law (T : Tx w K mg) : mg "need_law" = some (.ref (He.ga K "need_law")) := T.glo _ (T.fa 29)
theorem Tx.F_is_word (T : Tx w K mg) : ∃ fd, Fun K "is_word" "is_word" sIsWord (He.ga K "is_word") fd ∧ Binds K fd ["word", "count"] [] := by
  obtain ⟨fd, F⟩ := T.df 17 (d := DIsWord)
  have G : Fun K "is_word" "is_word" sIsWord (He.ga K "is_word") fd := He5.fun_of (st := sIsWord) F
  exact ⟨fd, G, G.binds fun _ _ _ _ _ _ us hl => match us, hl with | [_, _], _ => rfl⟩
theorem Tx.g_is_word (T : Tx w K mg) : mg "is_word" = some (.ref (He.ga K "is_word")) := T.glo _ (T.fa 30)
theorem Tx.F_is_term (T : Tx w K mg) : ∃ fd, Fun K "is_term" "is_term" sIsTerm (He.ga K "is_term") fd ∧ Binds K fd ["told", "count"] [] := by
  obtain ⟨fd, F⟩ := T.df 18 (d := DIsTerm)
  have G : Fun K "is_term" "is_term" sIsTerm (He.ga K "is_term") fd := He5.fun_of (st := sIsTerm) F
  exact ⟨fd, G, G.binds fun _ _ _ _ _ _ us hl => match us, hl with | [_, _], _ => rfl⟩
theorem Tx.g_is_term (T : Tx w K mg) : mg "is_term" = some (.ref (He.ga K "is_term")) := T.glo _ (T.fa 31)
theorem Tx.F_rank (T : Tx w K mg) : ∃ fd, Fun K "rank" "rank" sRank (He.ga K "rank") fd ∧ Binds K fd ["word"] [] := by
  obtain ⟨fd, F⟩ := T.df 19 (d := DRank)
  have G : Fun K "rank" "rank" sRank (He.ga K "rank") fd := He5.fun_of (st := sRank) F
  exact ⟨fd, G, G.binds fun _ _ _ _ _ _ us hl => match us, hl with | [_], _ => rfl⟩
theorem Tx.g_rank (T : Tx w K mg) : mg "rank" = some (.ref (He.ga K "rank")) := T.glo _ (T.fa 32)
theorem Tx.F_check_sum (T : Tx w K mg) : ∃ fd, Fun K "check_sum" "check_sum" sCheckSum (He.ga K "check_sum") fd ∧ Binds K fd ["count", "total"] [] := by
  obtain ⟨fd, F⟩ := T.df 20 (d := DCheckSum)
  have G : Fun K "check_sum" "check_sum" sCheckSum (He.ga K "check_sum") fd := He5.fun_of (st := sCheckSum) F
  exact ⟨fd, G, G.binds fun _ _ _ _ _ _ us hl => match us, hl with | [_, _], _ => rfl⟩
theorem Tx.g_check_sum (T : Tx w K mg) : mg "check_sum" = some (.ref (He.ga K "check_sum")) := T.glo _ (T.fa 33)
theorem Tx.F_gathered (T : Tx w K mg) : ∃ fd, Fun K "gathered" "gathered" sGathered (He.ga K "gathered") fd ∧ Binds K fd ["total"] [] := by
  obtain ⟨fd, F⟩ := T.df 21 (d := DGathered)
  have G : Fun K "gathered" "gathered" sGathered (He.ga K "gathered") fd := He5.fun_of (st := sGathered) F
  exact ⟨fd, G, G.binds fun _ _ _ _ _ _ us hl => match us, hl with | [_], _ => rfl⟩
theorem Tx.g_gathered (T : Tx w K mg) : mg "gathered" = some (.ref (He.ga K "gathered")) := T.glo _ (T.fa 34)
theorem Tx.F_told_sum (T : Tx w K mg) : ∃ fd, Fun K "told_sum" "told_sum" sToldSum (He.ga K "told_sum") fd ∧ Binds K fd ["numbers"] [] := by
  obtain ⟨fd, F⟩ := T.df 22 (d := DToldSum)
  have G : Fun K "told_sum" "told_sum" sToldSum (He.ga K "told_sum") fd := He5.fun_of (st := sToldSum) F
  exact ⟨fd, G, G.binds fun _ _ _ _ _ _ us hl => match us, hl with | [_], _ => rfl⟩
theorem Tx.g_told_sum (T : Tx w K mg) : mg "told_sum" = some (.ref (He.ga K "told_sum")) := T.glo _ (T.fa 35)
theorem Tx.F_put_to (T : Tx w K mg) : ∃ fd, Fun K "put_to" "put_to" sPutTo (He.ga K "put_to") fd ∧ Binds K fd ["numbers", "word", "number"] [] := by
  obtain ⟨fd, F⟩ := T.df 23 (d := DPutTo)
  have G : Fun K "put_to" "put_to" sPutTo (He.ga K "put_to") fd := He5.fun_of (st := sPutTo) F
  exact ⟨fd, G, G.binds fun _ _ _ _ _ _ us hl => match us, hl with | [_, _, _], _ => rfl⟩
theorem Tx.g_put_to (T : Tx w K mg) : mg "put_to" = some (.ref (He.ga K "put_to")) := T.glo _ (T.fa 36)
theorem Tx.F_climb (T : Tx w K mg) : ∃ fd, Fun K "climb" "climb" sClimb (He.ga K "climb") fd ∧ Binds K fd ["table", "numbers"] [] := by
  obtain ⟨fd, F⟩ := T.df 24 (d := DClimb)
  have G : Fun K "climb" "climb" sClimb (He.ga K "climb") fd := He5.fun_of (st := sClimb) F
  exact ⟨fd, G, G.binds fun _ _ _ _ _ _ us hl => match us, hl with | [_, _], _ => rfl⟩
theorem Tx.g_climb (T : Tx w K mg) : mg "climb" = some (.ref (He.ga K "climb")) := T.glo _ (T.fa 37)
theorem Tx.F_risen (T : Tx w K mg) : ∃ fd, Fun K "risen" "risen" sRisen (He.ga K "risen") fd ∧ Binds K fd ["table", "total"] [] := by
  obtain ⟨fd, F⟩ := T.df 25 (d := DRisen)
  have G : Fun K "risen" "risen" sRisen (He.ga K "risen") fd := He5.fun_of (st := sRisen) F
  exact ⟨fd, G, G.binds fun _ _ _ _ _ _ us hl => match us, hl with | [_, _], _ => rfl⟩
theorem Tx.g_risen (T : Tx w K mg) : mg "risen" = some (.ref (He.ga K "risen")) := T.glo _ (T.fa 38)
theorem Tx.F_number_text (T : Tx w K mg) : ∃ fd, Fun K "number_text" "number_text" sNumberText (He.ga K "number_text") fd ∧ Binds K fd ["number"] [] := by
  obtain ⟨fd, F⟩ := T.df 26 (d := DNumberText)
  have G : Fun K "number_text" "number_text" sNumberText (He.ga K "number_text") fd := He5.fun_of (st := sNumberText) F
  exact ⟨fd, G, G.binds fun _ _ _ _ _ _ us hl => match us, hl with | [_], _ => rfl⟩
theorem Tx.g_number_text (T : Tx w K mg) : mg "number_text" = some (.ref (He.ga K "number_text")) := T.glo _ (T.fa 39)
theorem Tx.F_row_text (T : Tx w K mg) : ∃ fd, Fun K "row_text" "row_text" sRowText (He.ga K "row_text") fd ∧ Binds K fd ["row"] [] := by
  obtain ⟨fd, F⟩ := T.df 27 (d := DRowText)
  have G : Fun K "row_text" "row_text" sRowText (He.ga K "row_text") fd := He5.fun_of (st := sRowText) F
  exact ⟨fd, G, G.binds fun _ _ _ _ _ _ us hl => match us, hl with | [_], _ => rfl⟩
theorem Tx.g_row_text (T : Tx w K mg) : mg "row_text" = some (.ref (He.ga K "row_text")) := T.glo _ (T.fa 40)
theorem Tx.F_table_text (T : Tx w K mg) : ∃ fd, Fun K "table_text" "table_text" sTableText (He.ga K "table_text") fd ∧ Binds K fd ["table"] [] := by
  obtain ⟨fd, F⟩ := T.df 28 (d := DTableText)
  have G : Fun K "table_text" "table_text" sTableText (He.ga K "table_text") fd := He5.fun_of (st := sTableText) F
  exact ⟨fd, G, G.binds fun _ _ _ _ _ _ us hl => match us, hl with | [_], _ => rfl⟩
theorem Tx.g_table_text (T : Tx w K mg) : mg "table_text" = some (.ref (He.ga K "table_text")) := T.glo _ (T.fa 41)
theorem Tx.F_word_text (T : Tx w K mg) : ∃ fd, Fun K "word_text" "word_text" sWordText (He.ga K "word_text") fd ∧ Binds K fd ["word"] [] := by
  obtain ⟨fd, F⟩ := T.df 29 (d := DWordText)
  have G : Fun K "word_text" "word_text" sWordText (He.ga K "word_text") fd := He5.fun_of (st := sWordText) F
  exact ⟨fd, G, G.binds fun _ _ _ _ _ _ us hl => match us, hl with | [_], _ => rfl⟩
theorem Tx.g_word_text (T : Tx w K mg) : mg "word_text" = some (.ref (He.ga K "word_text")) := T.glo _ (T.fa 42)
theorem Tx.F_sum_text (T : Tx w K mg) : ∃ fd, Fun K "sum_text" "sum_text" sSumText (He.ga K "sum_text") fd ∧ Binds K fd ["total"] [] := by
  obtain ⟨fd, F⟩ := T.df 30 (d := DSumText)
  have G : Fun K "sum_text" "sum_text" sSumText (He.ga K "sum_text") fd := He5.fun_of (st := sSumText) F
  exact ⟨fd, G, G.binds fun _ _ _ _ _ _ us hl => match us, hl with | [_], _ => rfl⟩
theorem Tx.g_sum_text (T : Tx w K mg) : mg "sum_text" = some (.ref (He.ga K "sum_text")) := T.glo _ (T.fa 43)
theorem Tx.F_figures_in (T : Tx w K mg) : ∃ fd, Fun K "figures_in" "figures_in" sFiguresIn (He.ga K "figures_in") fd ∧ Binds K fd ["text"] [] := by
  obtain ⟨fd, F⟩ := T.df 31 (d := DFiguresIn)
  have G : Fun K "figures_in" "figures_in" sFiguresIn (He.ga K "figures_in") fd := He5.fun_of (st := sFiguresIn) F
  exact ⟨fd, G, G.binds fun _ _ _ _ _ _ us hl => match us, hl with | [_], _ => rfl⟩
theorem Tx.g_figures_in (T : Tx w K mg) : mg "figures_in" = some (.ref (He.ga K "figures_in")) := T.glo _ (T.fa 44)
theorem Tx.F_whole_in (T : Tx w K mg) : ∃ fd, Fun K "whole_in" "whole_in" sWholeIn (He.ga K "whole_in") fd ∧ Binds K fd ["text"] [] := by
  obtain ⟨fd, F⟩ := T.df 32 (d := DWholeIn)
  have G : Fun K "whole_in" "whole_in" sWholeIn (He.ga K "whole_in") fd := He5.fun_of (st := sWholeIn) F
  exact ⟨fd, G, G.binds fun _ _ _ _ _ _ us hl => match us, hl with | [_], _ => rfl⟩
theorem Tx.g_whole_in (T : Tx w K mg) : mg "whole_in" = some (.ref (He.ga K "whole_in")) := T.glo _ (T.fa 45)
theorem Tx.F_number_in (T : Tx w K mg) : ∃ fd, Fun K "number_in" "number_in" sNumberIn (He.ga K "number_in") fd ∧ Binds K fd ["text"] [] := by
  obtain ⟨fd, F⟩ := T.df 33 (d := DNumberIn)
  have G : Fun K "number_in" "number_in" sNumberIn (He.ga K "number_in") fd := He5.fun_of (st := sNumberIn) F
  exact ⟨fd, G, G.binds fun _ _ _ _ _ _ us hl => match us, hl with | [_], _ => rfl⟩
theorem Tx.g_number_in (T : Tx w K mg) : mg "number_in" = some (.ref (He.ga K "number_in")) := T.glo _ (T.fa 46)
theorem Tx.F_way_in (T : Tx w K mg) : ∃ fd, Fun K "way_in" "way_in" sWayIn (He.ga K "way_in") fd ∧ Binds K fd ["text", "count"] [] := by
  obtain ⟨fd, F⟩ := T.df 34 (d := DWayIn)
  have G : Fun K "way_in" "way_in" sWayIn (He.ga K "way_in") fd := He5.fun_of (st := sWayIn) F
  exact ⟨fd, G, G.binds fun _ _ _ _ _ _ us hl => match us, hl with | [_, _], _ => rfl⟩
theorem Tx.g_way_in (T : Tx w K mg) : mg "way_in" = some (.ref (He.ga K "way_in")) := T.glo _ (T.fa 47)
theorem Tx.F_place_in (T : Tx w K mg) : ∃ fd, Fun K "place_in" "place_in" sPlaceIn (He.ga K "place_in") fd ∧ Binds K fd ["text", "count"] [] := by
  obtain ⟨fd, F⟩ := T.df 35 (d := DPlaceIn)
  have G : Fun K "place_in" "place_in" sPlaceIn (He.ga K "place_in") fd := He5.fun_of (st := sPlaceIn) F
  exact ⟨fd, G, G.binds fun _ _ _ _ _ _ us hl => match us, hl with | [_, _], _ => rfl⟩
theorem Tx.g_place_in (T : Tx w K mg) : mg "place_in" = some (.ref (He.ga K "place_in")) := T.glo _ (T.fa 48)
theorem Tx.F_row_in (T : Tx w K mg) : ∃ fd, Fun K "row_in" "row_in" sRowIn (He.ga K "row_in") fd ∧ Binds K fd ["text", "count"] [] := by
  obtain ⟨fd, F⟩ := T.df 36 (d := DRowIn)
  have G : Fun K "row_in" "row_in" sRowIn (He.ga K "row_in") fd := He5.fun_of (st := sRowIn) F
  exact ⟨fd, G, G.binds fun _ _ _ _ _ _ us hl => match us, hl with | [_, _], _ => rfl⟩
theorem Tx.g_row_in (T : Tx w K mg) : mg "row_in" = some (.ref (He.ga K "row_in")) := T.glo _ (T.fa 49)
theorem Tx.F_leaving_in (T : Tx w K mg) : ∃ fd, Fun K "leaving_in" "leaving_in" sLeavingIn (He.ga K "leaving_in") fd ∧ Binds K fd ["text", "count"] [] := by
  obtain ⟨fd, F⟩ := T.df 37 (d := DLeavingIn)
  have G : Fun K "leaving_in" "leaving_in" sLeavingIn (He.ga K "leaving_in") fd := He5.fun_of (st := sLeavingIn) F
  exact ⟨fd, G, G.binds fun _ _ _ _ _ _ us hl => match us, hl with | [_, _], _ => rfl⟩
theorem Tx.g_leaving_in (T : Tx w K mg) : mg "leaving_in" = some (.ref (He.ga K "leaving_in")) := T.glo _ (T.fa 50)
theorem Tx.F_read_table (T : Tx w K mg) : ∃ fd, Fun K "read_table" "read_table" sReadTable (He.ga K "read_table") fd ∧ Binds K fd ["text"] [] := by
  obtain ⟨fd, F⟩ := T.df 38 (d := DReadTable)
  have G : Fun K "read_table" "read_table" sReadTable (He.ga K "read_table") fd := He5.fun_of (st := sReadTable) F
  exact ⟨fd, G, G.binds fun _ _ _ _ _ _ us hl => match us, hl with | [_], _ => rfl⟩
theorem Tx.g_read_table (T : Tx w K mg) : mg "read_table" = some (.ref (He.ga K "read_table")) := T.glo _ (T.fa 51)
theorem Tx.F_word_in (T : Tx w K mg) : ∃ fd, Fun K "word_in" "word_in" sWordIn (He.ga K "word_in") fd ∧ Binds K fd ["text", "count"] [] := by
  obtain ⟨fd, F⟩ := T.df 39 (d := DWordIn)
  have G : Fun K "word_in" "word_in" sWordIn (He.ga K "word_in") fd := He5.fun_of (st := sWordIn) F
  exact ⟨fd, G, G.binds fun _ _ _ _ _ _ us hl => match us, hl with | [_, _], _ => rfl⟩
theorem Tx.g_word_in (T : Tx w K mg) : mg "word_in" = some (.ref (He.ga K "word_in")) := T.glo _ (T.fa 52)
theorem Tx.F_read_sum (T : Tx w K mg) : ∃ fd, Fun K "read_sum" "read_sum" sReadSum (He.ga K "read_sum") fd ∧ Binds K fd ["text", "count"] [] := by
  obtain ⟨fd, F⟩ := T.df 40 (d := DReadSum)
  have G : Fun K "read_sum" "read_sum" sReadSum (He.ga K "read_sum") fd := He5.fun_of (st := sReadSum) F
  exact ⟨fd, G, G.binds fun _ _ _ _ _ _ us hl => match us, hl with | [_, _], _ => rfl⟩
theorem Tx.g_read_sum (T : Tx w K mg) : mg "read_sum" = some (.ref (He.ga K "read_sum")) := T.glo _ (T.fa 53)
theorem Tx.F_made_of (T : Tx w K mg) : ∃ fd, Fun K "made_of" "made_of" sMadeOf (He.ga K "made_of") fd ∧ Binds K fd ["word", "signs"] [] := by
  obtain ⟨fd, F⟩ := T.df 41 (d := DMadeOf)
  have G : Fun K "made_of" "made_of" sMadeOf (He.ga K "made_of") fd := He5.fun_of (st := sMadeOf) F
  exact ⟨fd, G, G.binds fun _ _ _ _ _ _ us hl => match us, hl with | [_, _], _ => rfl⟩
theorem Tx.g_made_of (T : Tx w K mg) : mg "made_of" = some (.ref (He.ga K "made_of")) := T.glo _ (T.fa 54)
theorem Tx.F_is_line (T : Tx w K mg) : ∃ fd, Fun K "is_line" "is_line" sIsLine (He.ga K "is_line") fd ∧ Binds K fd ["words"] [] := by
  obtain ⟨fd, F⟩ := T.df 42 (d := DIsLine)
  have G : Fun K "is_line" "is_line" sIsLine (He.ga K "is_line") fd := He5.fun_of (st := sIsLine) F
  exact ⟨fd, G, G.binds fun _ _ _ _ _ _ us hl => match us, hl with | [_], _ => rfl⟩
theorem Tx.g_is_line (T : Tx w K mg) : mg "is_line" = some (.ref (He.ga K "is_line")) := T.glo _ (T.fa 55)
theorem Tx.F_look_new (T : Tx w K mg) : ∃ fd, Fun K "look_new" "look_new" sLookNew (He.ga K "look_new") fd ∧ Binds K fd ["words"] [] := by
  obtain ⟨fd, F⟩ := T.df 43 (d := DLookNew)
  have G : Fun K "look_new" "look_new" sLookNew (He.ga K "look_new") fd := He5.fun_of (st := sLookNew) F
  exact ⟨fd, G, G.binds fun _ _ _ _ _ _ us hl => match us, hl with | [_], _ => rfl⟩
theorem Tx.g_look_new (T : Tx w K mg) : mg "look_new" = some (.ref (He.ga K "look_new")) := T.glo _ (T.fa 56)
theorem Tx.F_two_signs (T : Tx w K mg) : ∃ fd, Fun K "two_signs" "two_signs" sTwoSigns (He.ga K "two_signs") fd ∧ Binds K fd ["words"] [] := by
  obtain ⟨fd, F⟩ := T.df 44 (d := DTwoSigns)
  have G : Fun K "two_signs" "two_signs" sTwoSigns (He.ga K "two_signs") fd := He5.fun_of (st := sTwoSigns) F
  exact ⟨fd, G, G.binds fun _ _ _ _ _ _ us hl => match us, hl with | [_], _ => rfl⟩
theorem Tx.g_two_signs (T : Tx w K mg) : mg "two_signs" = some (.ref (He.ga K "two_signs")) := T.glo _ (T.fa 57)
theorem Tx.F_signs_of (T : Tx w K mg) : ∃ fd, Fun K "signs_of" "signs_of" sSignsOf (He.ga K "signs_of") fd ∧ Binds K fd ["words"] [] := by
  obtain ⟨fd, F⟩ := T.df 45 (d := DSignsOf)
  have G : Fun K "signs_of" "signs_of" sSignsOf (He.ga K "signs_of") fd := He5.fun_of (st := sSignsOf) F
  exact ⟨fd, G, G.binds fun _ _ _ _ _ _ us hl => match us, hl with | [_], _ => rfl⟩
theorem Tx.g_signs_of (T : Tx w K mg) : mg "signs_of" = some (.ref (He.ga K "signs_of")) := T.glo _ (T.fa 58)
theorem Tx.F_names_of (T : Tx w K mg) : ∃ fd, Fun K "names_of" "names_of" sNamesOf (He.ga K "names_of") fd ∧ Binds K fd ["words"] [] := by
  obtain ⟨fd, F⟩ := T.df 46 (d := DNamesOf)
  have G : Fun K "names_of" "names_of" sNamesOf (He.ga K "names_of") fd := He5.fun_of (st := sNamesOf) F
  exact ⟨fd, G, G.binds fun _ _ _ _ _ _ us hl => match us, hl with | [_], _ => rfl⟩
theorem Tx.g_names_of (T : Tx w K mg) : mg "names_of" = some (.ref (He.ga K "names_of")) := T.glo _ (T.fa 59)
theorem Tx.F_rule_text (T : Tx w K mg) : ∃ fd, Fun K "rule_text" "rule_text" sRuleText (He.ga K "rule_text") fd ∧ Binds K fd ["table"] [] := by
  obtain ⟨fd, F⟩ := T.df 47 (d := DRuleText)
  have G : Fun K "rule_text" "rule_text" sRuleText (He.ga K "rule_text") fd := He5.fun_of (st := sRuleText) F
  exact ⟨fd, G, G.binds fun _ _ _ _ _ _ us hl => match us, hl with | [_], _ => rfl⟩
theorem Tx.g_rule_text (T : Tx w K mg) : mg "rule_text" = some (.ref (He.ga K "rule_text")) := T.glo _ (T.fa 60)
theorem Tx.F_mixed (T : Tx w K mg) : ∃ fd, Fun K "mixed" "mixed" sMixed (He.ga K "mixed") fd ∧ Binds K fd ["one", "number", "other"] [] := by
  obtain ⟨fd, F⟩ := T.df 48 (d := DMixed)
  have G : Fun K "mixed" "mixed" sMixed (He.ga K "mixed") fd := He5.fun_of (st := sMixed) F
  exact ⟨fd, G, G.binds fun _ _ _ _ _ _ us hl => match us, hl with | [_, _, _], _ => rfl⟩
theorem Tx.g_mixed (T : Tx w K mg) : mg "mixed" = some (.ref (He.ga K "mixed")) := T.glo _ (T.fa 61)
theorem Tx.F__law_mixed (T : Tx w K mg) : ∃ fd, Fun K "_law_mixed" "_law_mixed" sLawMixed (He.ga K "_law_mixed") fd ∧ Binds K fd ["_law_cell", "_law_k"] [] := by
  obtain ⟨fd, F⟩ := T.df 49 (d := DLawMixed)
  have G : Fun K "_law_mixed" "_law_mixed" sLawMixed (He.ga K "_law_mixed") fd := He5.fun_of (st := sLawMixed) F
  exact ⟨fd, G, G.binds fun _ _ _ _ _ _ us hl => match us, hl with | [_, _], _ => rfl⟩
theorem Tx.g__law_mixed (T : Tx w K mg) : mg "_law_mixed" = some (.ref (He.ga K "_law_mixed")) := T.glo _ (T.fa 62)
theorem Tx.F__law_purse (T : Tx w K mg) : ∃ fd, Fun K "_law_purse" "_law_purse" sLawPurse (He.ga K "_law_purse") fd ∧ Binds K fd ["_law_cell", "_law_k"] [] := by
  obtain ⟨fd, F⟩ := T.df 50 (d := DLawPurse)
  have G : Fun K "_law_purse" "_law_purse" sLawPurse (He.ga K "_law_purse") fd := He5.fun_of (st := sLawPurse) F
  exact ⟨fd, G, G.binds fun _ _ _ _ _ _ us hl => match us, hl with | [_, _], _ => rfl⟩
theorem Tx.g__law_purse (T : Tx w K mg) : mg "_law_purse" = some (.ref (He.ga K "_law_purse")) := T.glo _ (T.fa 63)
theorem Tx.F__law_take (T : Tx w K mg) : ∃ fd, Fun K "_law_take" "_law_take" sLawTake (He.ga K "_law_take") fd ∧ Binds K fd ["_law_purse_here", "_law_many"] [] := by
  obtain ⟨fd, F⟩ := T.df 51 (d := DLawTake)
  have G : Fun K "_law_take" "_law_take" sLawTake (He.ga K "_law_take") fd := He5.fun_of (st := sLawTake) F
  exact ⟨fd, G, G.binds fun _ _ _ _ _ _ us hl => match us, hl with | [_, _], _ => rfl⟩
theorem Tx.g__law_take (T : Tx w K mg) : mg "_law_take" = some (.ref (He.ga K "_law_take")) := T.glo _ (T.fa 64)
theorem Tx.F__law_at (T : Tx w K mg) : ∃ fd, Fun K "_law_at" "_law_at" sLawAt (He.ga K "_law_at") fd ∧ Binds K fd ["_law_script", "_law_k"] [] := by
  obtain ⟨fd, F⟩ := T.df 52 (d := DLawAt)
  have G : Fun K "_law_at" "_law_at" sLawAt (He.ga K "_law_at") fd := He5.fun_of (st := sLawAt) F
  exact ⟨fd, G, G.binds fun _ _ _ _ _ _ us hl => match us, hl with | [_, _], _ => rfl⟩
theorem Tx.g__law_at (T : Tx w K mg) : mg "_law_at" = some (.ref (He.ga K "_law_at")) := T.glo _ (T.fa 65)
theorem Tx.F__law_marks (T : Tx w K mg) : ∃ fd, Fun K "_law_marks" "_law_marks" sLawMarks (He.ga K "_law_marks") fd ∧ Binds K fd ["_law_purse_here", "_law_letters", "_law_least", "_law_most"] [] := by
  obtain ⟨fd, F⟩ := T.df 53 (d := DLawMarks)
  have G : Fun K "_law_marks" "_law_marks" sLawMarks (He.ga K "_law_marks") fd := He5.fun_of (st := sLawMarks) F
  exact ⟨fd, G, G.binds fun _ _ _ _ _ _ us hl => match us, hl with | [_, _, _, _], _ => rfl⟩
theorem Tx.g__law_marks (T : Tx w K mg) : mg "_law_marks" = some (.ref (He.ga K "_law_marks")) := T.glo _ (T.fa 66)
theorem Tx.F__law_table_line (T : Tx w K mg) : ∃ fd, Fun K "_law_table_line" "_law_table_line" sLawTableLine (He.ga K "_law_table_line") fd ∧ Binds K fd ["_law_purse_here", "_law_name"] [] := by
  obtain ⟨fd, F⟩ := T.df 54 (d := DLawTableLine)
  have G : Fun K "_law_table_line" "_law_table_line" sLawTableLine (He.ga K "_law_table_line") fd := He5.fun_of (st := sLawTableLine) F
  exact ⟨fd, G, G.binds fun _ _ _ _ _ _ us hl => match us, hl with | [_, _], _ => rfl⟩
theorem Tx.g__law_table_line (T : Tx w K mg) : mg "_law_table_line" = some (.ref (He.ga K "_law_table_line")) := T.glo _ (T.fa 67)
theorem Tx.F__law_sum_line (T : Tx w K mg) : ∃ fd, Fun K "_law_sum_line" "_law_sum_line" sLawSumLine (He.ga K "_law_sum_line") fd ∧ Binds K fd ["_law_purse_here", "_law_sign", "_law_names", "_law_state"] [] := by
  obtain ⟨fd, F⟩ := T.df 55 (d := DLawSumLine)
  have G : Fun K "_law_sum_line" "_law_sum_line" sLawSumLine (He.ga K "_law_sum_line") fd := He5.fun_of (st := sLawSumLine) F
  exact ⟨fd, G, G.binds fun _ _ _ _ _ _ us hl => match us, hl with | [_, _, _, _], _ => rfl⟩
theorem Tx.g__law_sum_line (T : Tx w K mg) : mg "_law_sum_line" = some (.ref (He.ga K "_law_sum_line")) := T.glo _ (T.fa 68)
theorem Tx.F__law_line (T : Tx w K mg) : ∃ fd, Fun K "_law_line" "_law_line" sLawLine (He.ga K "_law_line") fd ∧ Binds K fd ["_law_purse_here", "_law_names", "_law_signs", "_law_state"] [] := by
  obtain ⟨fd, F⟩ := T.df 56 (d := DLawLine)
  have G : Fun K "_law_line" "_law_line" sLawLine (He.ga K "_law_line") fd := He5.fun_of (st := sLawLine) F
  exact ⟨fd, G, G.binds fun _ _ _ _ _ _ us hl => match us, hl with | [_, _, _, _], _ => rfl⟩
theorem Tx.g__law_line (T : Tx w K mg) : mg "_law_line" = some (.ref (He.ga K "_law_line")) := T.glo _ (T.fa 69)
theorem Tx.F__law_behind (T : Tx w K mg) : ∃ fd, Fun K "_law_behind" "_law_behind" sLawBehind (He.ga K "_law_behind") fd ∧ Binds K fd ["_law_state", "_law_line_here"] [] := by
  obtain ⟨fd, F⟩ := T.df 57 (d := DLawBehind)
  have G : Fun K "_law_behind" "_law_behind" sLawBehind (He.ga K "_law_behind") fd := He5.fun_of (st := sLawBehind) F
  exact ⟨fd, G, G.binds fun _ _ _ _ _ _ us hl => match us, hl with | [_, _], _ => rfl⟩
theorem Tx.g__law_behind (T : Tx w K mg) : mg "_law_behind" = some (.ref (He.ga K "_law_behind")) := T.glo _ (T.fa 70)
theorem Tx.F__law_stands (T : Tx w K mg) : ∃ fd, Fun K "_law_stands" "_law_stands" sLawStands (He.ga K "_law_stands") fd ∧ Binds K fd ["_law_bench", "_law_state"] [] := by
  obtain ⟨fd, F⟩ := T.df 58 (d := DLawStands)
  have G : Fun K "_law_stands" "_law_stands" sLawStands (He.ga K "_law_stands") fd := He5.fun_of (st := sLawStands) F
  exact ⟨fd, G, G.binds fun _ _ _ _ _ _ us hl => match us, hl with | [_, _], _ => rfl⟩
theorem Tx.g__law_stands (T : Tx w K mg) : mg "_law_stands" = some (.ref (He.ga K "_law_stands")) := T.glo _ (T.fa 71)
theorem Tx.F__law_none_left (T : Tx w K mg) : ∃ fd, Fun K "_law_none_left" "_law_none_left" sLawNoneLeft (He.ga K "_law_none_left") fd ∧ Binds K fd ["_law_bench"] [] := by
  obtain ⟨fd, F⟩ := T.df 59 (d := DLawNoneLeft)
  have G : Fun K "_law_none_left" "_law_none_left" sLawNoneLeft (He.ga K "_law_none_left") fd := He5.fun_of (st := sLawNoneLeft) F
  exact ⟨fd, G, G.binds fun _ _ _ _ _ _ us hl => match us, hl with | [_], _ => rfl⟩
theorem Tx.g__law_none_left (T : Tx w K mg) : mg "_law_none_left" = some (.ref (He.ga K "_law_none_left")) := T.glo _ (T.fa 72)
theorem Tx.F_law (T : Tx w K mg) : ∃ fd, Fun K "law" "law" sLaw (He.ga K "law") fd ∧ Binds K fd ["_law_script"] [] := by
  obtain ⟨fd, F⟩ := T.df 60 (d := DLaw)
  have G : Fun K "law" "law" sLaw (He.ga K "law") fd := He5.fun_of (st := sLaw) F
  exact ⟨fd, G, G.binds fun _ _ _ _ _ _ us hl => match us, hl with | [_], _ => rfl⟩
theorem Tx.g_law (T : Tx w K mg) : mg "law" = some (.ref (He.ga K "law")) := T.glo _ (T.fa 73)
theorem Tx.F_Table___init__ (T : Tx w K mg) : ∃ fd, Fun K "__init__" "Table.__init__" sTableInit (He.ma K (He.ga K "Table") "__init__") fd ∧ Binds K fd ["self", "count", "leavings"] [] := by
  obtain ⟨fd, F⟩ := T.df 61 (d := DTableInit)
  have G : Fun K "__init__" "Table.__init__" sTableInit (He.ma K (He.ga K "Table") "__init__") fd := He5.fun_of (st := sTableInit) F
  exact ⟨fd, G, G.binds fun _ _ _ _ _ _ us hl => match us, hl with | [_, _, _], _ => rfl⟩
theorem Tx.F_Table_cross (T : Tx w K mg) : ∃ fd, Fun K "cross" "Table.cross" sTableCross (He.ma K (He.ga K "Table") "cross") fd ∧ Binds K fd ["self", "one", "other"] [] := by
  obtain ⟨fd, F⟩ := T.df 62 (d := DTableCross)
  have G : Fun K "cross" "Table.cross" sTableCross (He.ma K (He.ga K "Table") "cross") fd := He5.fun_of (st := sTableCross) F
  exact ⟨fd, G, G.binds fun _ _ _ _ _ _ us hl => match us, hl with | [_, _, _], _ => rfl⟩
theorem Tx.F_Table_of_ways (T : Tx w K mg) : ∃ fd, Fun K "of_ways" "Table.of_ways" sTableOfWays (He.ma K (He.ga K "Table") "of_ways") fd ∧ Binds K fd ["self", "one", "other"] [] := by
  obtain ⟨fd, F⟩ := T.df 63 (d := DTableOfWays)
  have G : Fun K "of_ways" "Table.of_ways" sTableOfWays (He.ma K (He.ga K "Table") "of_ways") fd := He5.fun_of (st := sTableOfWays) F
  exact ⟨fd, G, G.binds fun _ _ _ _ _ _ us hl => match us, hl with | [_, _, _], _ => rfl⟩
theorem Tx.F_Table_breaks (T : Tx w K mg) : ∃ fd, Fun K "breaks" "Table.breaks" sTableBreaks (He.ma K (He.ga K "Table") "breaks") fd ∧ Binds K fd ["self"] [] := by
  obtain ⟨fd, F⟩ := T.df 64 (d := DTableBreaks)
  have G : Fun K "breaks" "Table.breaks" sTableBreaks (He.ma K (He.ga K "Table") "breaks") fd := He5.fun_of (st := sTableBreaks) F
  exact ⟨fd, G, G.binds fun _ _ _ _ _ _ us hl => match us, hl with | [_], _ => rfl⟩
theorem Tx.F_Bench___init__ (T : Tx w K mg) : ∃ fd, Fun K "__init__" "Bench.__init__" sBenchInit (He.ma K (He.ga K "Bench") "__init__") fd ∧ Binds K fd ["self"] [] := by
  obtain ⟨fd, F⟩ := T.df 65 (d := DBenchInit)
  have G : Fun K "__init__" "Bench.__init__" sBenchInit (He.ma K (He.ga K "Bench") "__init__") fd := He5.fun_of (st := sBenchInit) F
  exact ⟨fd, G, G.binds fun _ _ _ _ _ _ us hl => match us, hl with | [_], _ => rfl⟩
theorem Tx.F_Bench_tell (T : Tx w K mg) : ∃ fd, Fun K "tell" "Bench.tell" sBenchTell (He.ma K (He.ga K "Bench") "tell") fd ∧ Binds K fd ["self", "line"] [] := by
  obtain ⟨fd, F⟩ := T.df 66 (d := DBenchTell)
  have G : Fun K "tell" "Bench.tell" sBenchTell (He.ma K (He.ga K "Bench") "tell") fd := He5.fun_of (st := sBenchTell) F
  exact ⟨fd, G, G.binds fun _ _ _ _ _ _ us hl => match us, hl with | [_, _], _ => rfl⟩
theorem Tx.F_Bench_look_there (T : Tx w K mg) : ∃ fd, Fun K "look_there" "Bench.look_there" sBenchLookThere (He.ma K (He.ga K "Bench") "look_there") fd ∧ Binds K fd ["self", "words"] [] := by
  obtain ⟨fd, F⟩ := T.df 67 (d := DBenchLookThere)
  have G : Fun K "look_there" "Bench.look_there" sBenchLookThere (He.ma K (He.ga K "Bench") "look_there") fd := He5.fun_of (st := sBenchLookThere) F
  exact ⟨fd, G, G.binds fun _ _ _ _ _ _ us hl => match us, hl with | [_, _], _ => rfl⟩
theorem Tx.F_Bench_keep (T : Tx w K mg) : ∃ fd, Fun K "keep" "Bench.keep" sBenchKeep (He.ma K (He.ga K "Bench") "keep") fd ∧ Binds K fd ["self", "word"] [] := by
  obtain ⟨fd, F⟩ := T.df 68 (d := DBenchKeep)
  have G : Fun K "keep" "Bench.keep" sBenchKeep (He.ma K (He.ga K "Bench") "keep") fd := He5.fun_of (st := sBenchKeep) F
  exact ⟨fd, G, G.binds fun _ _ _ _ _ _ us hl => match us, hl with | [_, _], _ => rfl⟩
theorem Tx.F_Bench_taken_back (T : Tx w K mg) : ∃ fd, Fun K "taken_back" "Bench.taken_back" sBenchTakenBack (He.ma K (He.ga K "Bench") "taken_back") fd ∧ Binds K fd ["self"] [] := by
  obtain ⟨fd, F⟩ := T.df 69 (d := DBenchTakenBack)
  have G : Fun K "taken_back" "Bench.taken_back" sBenchTakenBack (He.ma K (He.ga K "Bench") "taken_back") fd := He5.fun_of (st := sBenchTakenBack) F
  exact ⟨fd, G, G.binds fun _ _ _ _ _ _ us hl => match us, hl with | [_], _ => rfl⟩
theorem Tx.F_Bench_without (T : Tx w K mg) : ∃ fd, Fun K "without" "Bench.without" sBenchWithout (He.ma K (He.ga K "Bench") "without") fd ∧ Binds K fd ["self", "name"] [] := by
  obtain ⟨fd, F⟩ := T.df 70 (d := DBenchWithout)
  have G : Fun K "without" "Bench.without" sBenchWithout (He.ma K (He.ga K "Bench") "without") fd := He5.fun_of (st := sBenchWithout) F
  exact ⟨fd, G, G.binds fun _ _ _ _ _ _ us hl => match us, hl with | [_, _], _ => rfl⟩
theorem Tx.F_Bench_put_table (T : Tx w K mg) : ∃ fd, Fun K "put_table" "Bench.put_table" sBenchPutTable (He.ma K (He.ga K "Bench") "put_table") fd ∧ Binds K fd ["self", "name", "table"] [] := by
  obtain ⟨fd, F⟩ := T.df 71 (d := DBenchPutTable)
  have G : Fun K "put_table" "Bench.put_table" sBenchPutTable (He.ma K (He.ga K "Bench") "put_table") fd := He5.fun_of (st := sBenchPutTable) F
  exact ⟨fd, G, G.binds fun _ _ _ _ _ _ us hl => match us, hl with | [_, _, _], _ => rfl⟩
theorem Tx.F_Bench_put_sum (T : Tx w K mg) : ∃ fd, Fun K "put_sum" "Bench.put_sum" sBenchPutSum (He.ma K (He.ga K "Bench") "put_sum") fd ∧ Binds K fd ["self", "words", "told"] [] := by
  obtain ⟨fd, F⟩ := T.df 72 (d := DBenchPutSum)
  have G : Fun K "put_sum" "Bench.put_sum" sBenchPutSum (He.ma K (He.ga K "Bench") "put_sum") fd := He5.fun_of (st := sBenchPutSum) F
  exact ⟨fd, G, G.binds fun _ _ _ _ _ _ us hl => match us, hl with | [_, _, _], _ => rfl⟩
theorem Tx.F_Bench_dropped (T : Tx w K mg) : ∃ fd, Fun K "dropped" "Bench.dropped" sBenchDropped (He.ma K (He.ga K "Bench") "dropped") fd ∧ Binds K fd ["self", "word"] [] := by
  obtain ⟨fd, F⟩ := T.df 73 (d := DBenchDropped)
  have G : Fun K "dropped" "Bench.dropped" sBenchDropped (He.ma K (He.ga K "Bench") "dropped") fd := He5.fun_of (st := sBenchDropped) F
  exact ⟨fd, G, G.binds fun _ _ _ _ _ _ us hl => match us, hl with | [_, _], _ => rfl⟩
theorem Tx.F_Bench_made (T : Tx w K mg) : ∃ fd, Fun K "made" "Bench.made" sBenchMade (He.ma K (He.ga K "Bench") "made") fd ∧ Binds K fd ["self", "words", "line"] [] := by
  obtain ⟨fd, F⟩ := T.df 74 (d := DBenchMade)
  have G : Fun K "made" "Bench.made" sBenchMade (He.ma K (He.ga K "Bench") "made") fd := He5.fun_of (st := sBenchMade) F
  exact ⟨fd, G, G.binds fun _ _ _ _ _ _ us hl => match us, hl with | [_, _, _], _ => rfl⟩
theorem Tx.F_Bench_answer (T : Tx w K mg) : ∃ fd, Fun K "answer" "Bench.answer" sBenchAnswer (He.ma K (He.ga K "Bench") "answer") fd ∧ Binds K fd ["self", "words"] [] := by
  obtain ⟨fd, F⟩ := T.df 75 (d := DBenchAnswer)
  have G : Fun K "answer" "Bench.answer" sBenchAnswer (He.ma K (He.ga K "Bench") "answer") fd := He5.fun_of (st := sBenchAnswer) F
  exact ⟨fd, G, G.binds fun _ _ _ _ _ _ us hl => match us, hl with | [_, _], _ => rfl⟩
end
end Sw

/-! ## Run -/
namespace Sw
open PySem L2
def loose0 : List PySem.Str := ["SwapError", "NoNumber", "NoCount", "TooLong", "NoLine", "NoMatch", "NoDeed", "NoRow", "NoPair", "NoSum", "NotBare", "Broken", "NoText", "NoName", "NOUGHT", "ONE", "is_whole", "divisor", "lowest", "is_number", "fraction", "plus", "contrary", "less", "times", "is_row", "noughts_row", "unit", "is_nought", "scaled"]
def loose1 : List PySem.Str := ["added", "are_ways", "Table", "round_sum", "first_fault", "need_law", "first_number", "need_bare", "MOST", "is_word", "is_term", "rank", "check_sum", "gathered", "told_sum", "put_to", "do_step", "disorder", "first_fall", "climb", "risen", "longest", "product", "choices", "pair_rank", "parted", "less_sum", "swap_of", "turned_back", "all_orders"]
def loose2 : List PySem.Str := ["even_sum", "even_of", "uneven_of", "passes", "FIGURES", "MOST_FIGURES", "MOST_WAYS", "number_text", "row_text", "table_text", "word_text", "sum_text", "figures_in", "whole_in", "number_in", "way_in", "place_in", "row_in", "leaving_in", "read_table", "word_in", "read_sum", "SMALL", "CAPITAL", "COUNTS", "MAKERS", "made_of", "is_line", "look_new", "two_signs"]
def loose3 : List PySem.Str := ["signs_of", "names_of", "rule_text", "mixed", "Bench", "_law_mixed", "_law_purse", "_law_take", "_law_at", "_law_marks", "_law_table_line", "_law_sum_line", "_law_line", "_law_behind", "_law_stands", "_law_none_left"]
def looseN : List PySem.Str := loose0 ++ loose1 ++ loose2 ++ loose3
def ob (s : PySem.W.SharedT) : AlS := obsS addrs fas fns tabs exB (HandSHeadRun.getT s)
theorem ob_eq (s : PySem.W.SharedT) : ob s = hkX.obs s.abs := obsS_eq (HandSHeadRun.getT_eq s)
abbrev qv : Program := PySem.W.view R.prog [116]
theorem runO {o : Option PySem.W.SharedT} {X : Type} {x : PySem.W.SharedT → X} {y : X} {v : World}
    (a : o.map x = some y)
    (b : o.map (fun s => frK (HandSHeadRun.getT s) addrs fun K => (fas.all fun f => f.ok K, fns.map fun d => He.fnW K d.at_, tabs.map fun t => He.dicW K (t.1 K), exB K)) = some (true, (He.valD fns).2, tabs.map fun t => some (He.keysIn v.params t.2), true))
    (c : o.map (fun s => frK (HandSHeadRun.getT s) addrs fun K => fns.all fun f => f.ok K) = some true) :
    o.map (fun s => (x s, ob s)) = some (y, hkX.val v) := by
  cases o with
  | none => cases a
  | some s =>
    have a := Option.some.inj a
    have b := Option.some.inj b
    have c := Option.some.inj c
    dsimp only at b c
    rw [frK_eq] at b c
    have h : ob s = hkX.val v := by
      show frK (HandSHeadRun.getT s) addrs (fun K => (He.obsT fas fns tabs K, exB K)) = (He.valT fns tabs v, true)
      rw [frK_eq]
      generalize He.frG (HandSHeadRun.getT s) addrs = K at b c
      have b1 : (fas.all fun f => f.ok K) = true := congrArg (fun z => z.1) b
      have b2 : (fns.map fun d => He.fnW K d.at_) = (He.valD fns).2 := congrArg (fun z => z.2.1) b
      have b3 : (tabs.map fun t => He.dicW K (t.1 K)) = tabs.map fun t => some (He.keysIn v.params t.2) := congrArg (fun z => z.2.2.1) b
      have b4 : exB K = true := congrArg (fun z => z.2.2.2) b
      show ((((fas.all fun f => f.ok K) && (fns.all fun f => f.ok K), fns.map fun d => He.fnW K d.at_), tabs.map fun t => He.dicW K (t.1 K)), exB K) = ((((He.valD fns).1, (He.valD fns).2), tabs.map fun t => some (He.keysIn v.params t.2)), true)
      rw [b1, b2, b3, b4, c]
      rfl
    show some (x s, ob s) = some (y, hkX.val v)
    rw [h, a]
    rfl
theorem runP {o : Option PySem.W.SharedT} {A B C : Type} {x : PySem.W.SharedT → A} {y : PySem.W.SharedT → B} {z : PySem.W.SharedT → C} {a : A} {b : B} {c : C}
    (h : o.map (fun s => ((x s, y s), z s)) = some ((a, b), c)) : o.map (fun s => (x s, y s, z s)) = some (a, b, c) := by
  cases o with
  | none => cases h
  | some s =>
    have h := Option.some.inj h
    exact congrArg some (by
      show (x s, y s, z s) = (a, b, c)
      rw [← (show x s = a from congrArg (fun q => q.1.1) h), ← (show y s = b from congrArg (fun q => q.1.2) h), ← (show z s = c from congrArg (fun q => q.2) h)])
open HandSHeadRun PySem.W PySem.Calls PyProof.Rows in
theorem runC_false (w : World) : ∀ os : OsState, (endF (stepQ (denQ tabQ) R.prog (w.withFollow "special-get-raises" false)) 20000 R.prog (w.withFollow "special-get-raises" false) os).map (fun s => frK (HandSHeadRun.getT s) addrs fun K => fns.all fun f => f.ok K) = some true := by
  intro os
  kernel_rfl
open HandSHeadRun PySem.W PySem.Calls PyProof.Rows in
theorem runB_false (w : World) : ∀ os : OsState, (endF (stepQ (denQ tabQ) R.prog (w.withFollow "special-get-raises" false)) 20000 R.prog (w.withFollow "special-get-raises" false) os).map (fun s => frK (HandSHeadRun.getT s) addrs fun K => (fas.all fun f => f.ok K, fns.map fun d => He.fnW K d.at_, tabs.map fun t => He.dicW K (t.1 K), exB K)) = some (true, (He.valD fns).2, tabs.map fun t => some (He.keysIn (w.withFollow "special-get-raises" false).params t.2), true) := by
  intro os
  kernel_rfl
open HandSHeadRun PySem.W PySem.Calls PyProof.Rows in
theorem runA_false (w : World) : ∀ os : OsState, (endF (stepQ (denQ tabQ) R.prog (w.withFollow "special-get-raises" false)) 20000 R.prog (w.withFollow "special-get-raises" false) os).map (fun s => (HandSHeadRun.looksF R.prog (boot_heap (w.withFollow "special-get-raises" false).params) s.abs, HandSHeadRun.seenQ qv looseN (importedModules R.prog.main.body) (fun s => xlAt qv [] s && recOk R.toRowW.records s) s.abs)) = some (true, openGood qv looseN) := by
  intro os
  kernel_rfl
open HandSHeadRun PySem.W PySem.Calls PyProof.Rows in
theorem runC_true (w : World) : ∀ os : OsState, (endF (stepQ (denQ tabQ) R.prog (w.withFollow "special-get-raises" true)) 20000 R.prog (w.withFollow "special-get-raises" true) os).map (fun s => frK (HandSHeadRun.getT s) addrs fun K => fns.all fun f => f.ok K) = some true := by
  intro os
  kernel_rfl
open HandSHeadRun PySem.W PySem.Calls PyProof.Rows in
theorem runB_true (w : World) : ∀ os : OsState, (endF (stepQ (denQ tabQ) R.prog (w.withFollow "special-get-raises" true)) 20000 R.prog (w.withFollow "special-get-raises" true) os).map (fun s => frK (HandSHeadRun.getT s) addrs fun K => (fas.all fun f => f.ok K, fns.map fun d => He.fnW K d.at_, tabs.map fun t => He.dicW K (t.1 K), exB K)) = some (true, (He.valD fns).2, tabs.map fun t => some (He.keysIn (w.withFollow "special-get-raises" true).params t.2), true) := by
  intro os
  kernel_rfl
open HandSHeadRun PySem.W PySem.Calls PyProof.Rows in
theorem runA_true (w : World) : ∀ os : OsState, (endF (stepQ (denQ tabQ) R.prog (w.withFollow "special-get-raises" true)) 20000 R.prog (w.withFollow "special-get-raises" true) os).map (fun s => (HandSHeadRun.looksF R.prog (boot_heap (w.withFollow "special-get-raises" true).params) s.abs, HandSHeadRun.seenQ qv looseN (importedModules R.prog.main.body) (fun s => xlAt qv [] s && recOk R.toRowW.records s) s.abs)) = some (true, openGood qv looseN) := by
  intro os
  kernel_rfl
theorem run_false (w : World) : HandSHeadRun.RunEq R qv hkX ob 20000 looseN (w.withFollow "special-get-raises" false) := fun os => runP (runO (v := (w.withFollow "special-get-raises" false)) (runA_false w os) (runB_false w os) (runC_false w os))
theorem run_true (w : World) : HandSHeadRun.RunEq R qv hkX ob 20000 looseN (w.withFollow "special-get-raises" true) := fun os => runP (runO (v := (w.withFollow "special-get-raises" true)) (runA_true w os) (runB_true w os) (runC_true w os))
theorem run (w : World) : HandSHeadRun.RunEq R qv hkX ob 20000 looseN w := PySem.W.byRow2 "special-get-raises" (P := fun w => HandSHeadRun.RunEq R qv hkX ob 20000 looseN w) run_false run_true w
end Sw

/-! ## Rules -/
/-! rules that the layer lacks: a method that may raise at the caller's slots, dict(pairs) with keys that are tuples, sorted of a dict by a key that is a def -/
namespace Sw
open PySem PySem.Spec PyProof.Rows L2
open C8 (Cal Met Mak pe_c pe_mk pe_mt pe_mt0 pe_gc)
section
variable {X : Cx} {CX : CXT} {k : Nat} {f C : Addr} {fd : FuncData} {ps : List Str} {sp : Sp} {E : L2.St → XK} {m : Str} {p pos apos : Pos} {e o : Expr} {es : List Expr} {ta : TE} {t : TA}
def tMethX (C : Addr) (m : Str) (sp : Sp) (E : L2.St → XK) (ta : TE) (t : TA) : TE := fun σ H Q => ta σ H fun x H1 => ∃ a dx fs, x = .ref a ∧ H1 a = some (.ins C dx fs) ∧ fs.lookup m = none ∧
  t σ H1 fun vs H2 => sp (x :: vs) H2 Q (E σ)
theorem pe_methX {pl : Sem Bool} (he : PE X o ta) (c : Cls X.K C) (hm : Meth X.K C m f) (F : FnOk X.prog X.w X.K X.mg X.base CX k f fd ps sp) (hr : Room k X.A) (hb : Binds X.K fd ps []) (hx : ∀ σ, PassesAt CX X σ (E σ)) (ha : PA X (e :: es) t)
    (hst : starEach (e :: es) X.env = (false, eval e X.env) :: starEach es X.env := by rfl) (hpl : (backTo pos (starEach es X.env)).any (·.1) = false := by rfl)
    (ht : eval (.Call (.Attribute o m apos) (e :: es) [] pos) X.env = (do
      let ov ← eval o X.env
      standAt apos.atName
      let (f, first) ← holding [ov] (getMethod ov m pl)
      callWith pos f first (backTo pos (starEach (e :: es) X.env)) (backToKw pos (keywordEach [] X.env))) := by rfl) :
    PE X (.Call (.Attribute o m apos) (e :: es) [] pos) (tMethX C m sp E ta t) := by
  refine ⟨fun pins s σ H Q I h => ?_⟩
  refine PySem.W.methodCall_KW (pl := pl) (thn (he.run pins s σ H _ I h) fun u s1 ⟨x, H1, I1, rx, a, dx, fs, ex, ea, l, q⟩ => ?_) ht
  subst ex
  obtain rfl : u = Value.ref a := rx
  refine getmeth_ok I1 ea c hm l ?_
  refine PySem.W.callWith_K (first := [.ref a]) (h₀ := X.base) I.ok.mod.kin hm.kp (thn (ha.run pos pins s1 σ H1 _ I1 q) fun us s2 ⟨vs, H2, I2, r, q2⟩ => ⟨I2.kIn, ?_⟩) hst hpl
  exact run_fnS (us := .ref a :: us) (vs := .ref a :: vs) F hr hb (hx σ) I2 (.cons rfl r) q2
end

/-! ### dict(pairs), the keys tuples -/
abbrev PK3 : Type := List Key × Addr × V
def PairsT (K : PySem.W.Frag) (H : Hp) : List Addr → List PK3 → Prop := Paired fun p k => SqT K H p [.ref k.2.1, k.2.2] ∧ H k.2.1 = some (.tup (k.1.map kV))
theorem storedAll_nd {Kt : Type} [DecidableEq Kt] : ∀ (ps xs : List (Kt × Addr × Value)), ((xs ++ ps).map (·.1)).Nodup → storedAllH xs ps = xs ++ ps
  | [], xs, _ => (List.append_nil xs).symm
  | p :: ps, xs, h => by
    have e : storedH xs p.1 p.2.1 p.2.2 = xs ++ [p] := by
      unfold storedH
      have hn : atKey xs p.1 = none := by
        cases q : atKey xs p.1 with
        | none => rfl
        | some y =>
          exfalso
          unfold atKey at q
          cases q2 : xs.find? (fun x => decide (x.1 = p.1)) with
          | none =>
            rw [q2] at q
            cases q
          | some z =>
            have h1 := List.find?_some q2
            have h2 := List.mem_of_find?_eq_some q2
            rw [List.map_append, List.nodup_append] at h
            refine h.2.2 z.1 (List.mem_map.mpr ⟨z, h2, rfl⟩) p.1 (List.mem_map.mpr ⟨p, List.mem_cons_self, rfl⟩) ?_
            simpa using h1
      rw [hn]
      rfl
    show storedAllH (storedH xs p.1 p.2.1 p.2.2) ps = _
    rw [e, storedAll_nd ps (xs ++ [p]) (by rw [List.append_assoc]; exact h), List.append_assoc]
    rfl
section
variable {X : Cx} {pins : List (Addr × Obj)} {σ : L2.St} {H : Hp} {s : Shared}
theorem pairsT_of (I : Inv X pins σ H s) : ∀ {ps : List Addr} {ks : List PK3}, PairsT X.K H ps ks →
    ∃ prs : List (List Key × Addr × Value), KT H (ks.map fun k => (k.1, k.2.2)) prs ∧ prs.length = ps.length ∧ prs.map (·.1) = ks.map (·.1) ∧ (∀ x ∈ prs, H x.2.1 = some (.tup (x.1.map kV))) ∧ ∀ (j : Nat) (q : List Key × Addr × Value), prs[j]? = some q → ∃ b, ps[j]? = some b ∧ PairAt s.heap b (.ref q.2.1) q.2.2
  | _, _, .nil => ⟨[], .nil, rfl, rfl, (fun x hx => nomatch hx), fun j q e => by simp at e⟩
  | b :: ps, k :: ks, .cons hp ht => by
    obtain ⟨prs, rel, hl, hm, hin, hpr⟩ := pairsT_of I ht
    obtain ⟨h1, h2⟩ := hp
    obtain ⟨its, rv, it, _⟩ := I.tuple h1
    obtain ⟨u1, u2, rfl, r1, r2⟩ := vals2 rv
    cases r1
    refine ⟨(k.1, k.2.1, u2) :: prs, .cons ⟨rfl, h2, r2⟩ rel, by simp [hl], by simp [hm], (fun x hx => by
      rcases List.mem_cons.mp hx with e | hx
      · subst e
        exact h2
      · exact hin x hx), fun j q e => ?_⟩
    cases j with
    | zero =>
      have e' : (k.1, k.2.1, u2) = q := Option.some.inj e
      subst e'
      obtain ⟨o, ho, hc, n, hd⟩ := it
      exact ⟨b, rfl, .inl ⟨o, ho, hc, n, hd⟩⟩
    | succ j =>
      obtain ⟨b', e1, e2⟩ := hpr j q (by simpa using e)
      exact ⟨b', by simpa using e1, e2⟩
end

section
variable {X : Cx}
theorem stays_mix {P : Program} {w : World} : (tupleKind (mixKind P w)).Stays := tupleKind_stays
/-- dict(pairs): the keys are tuples, no two alike -/
theorem call_dictT (hcalm : X.calm = true) (hu : X.A.units + 64 < cLine) : CallR X (.type "dict") (fun xs H Q => ∃ (a : Addr) (ps : List Addr) (ks : List PK3), xs = [.ref a] ∧ SqL X.K H a (ps.map V.ref) ∧ PairsT X.K H ps ks ∧ (ks.map (·.1)).Nodup ∧
    ∀ p, H p = none → Q (.ref p) (upd H p (.dT (ks.map fun k => (k.1, k.2.2))))) := by
  intro pins s σ H xs us Q I r q
  obtain ⟨a, ps, ks, ex, hq, hp, hnd, q⟩ := q
  subst ex
  obtain ⟨u, eu, rx⟩ := vals1 r
  subst eu
  cases rx
  obtain ⟨its, rv, pl, hz⟩ := I.list hq
  have ei := refs_at rv
  subst ei
  rw [List.length_map] at hz
  obtain ⟨prs, rel, hl, hk, hin, hpr⟩ := pairsT_of I hp
  obtain ⟨o, n, ho, hc, hd, hdat⟩ := pl
  have hnd' : ((([] : List (List Key × Addr × Value)) ++ prs).map (·.1)).Nodup := by
    rw [List.nil_append, hk]
    exact hnd
  have his : ∀ x ∈ prs, (tupleKind (mixKind X.prog X.w)).is s.heap x.1 x.2.1 := fun x hx => key_of I.hok (hin x hx)
  refine call_dict_pairsH (knd := tupleKind (mixKind X.prog X.w)) (ps := prs) (PairArg.list a (ps.map Value.ref).toArray (fun j => ps.getD j 0) (prs.map fun x => (Value.ref x.2.1, x.2.2))) (I.ok.hd hcalm) (show X.A.units + 2 < cLine by omega)
    ⟨⟨o, n, ho, hc, hd, hdat⟩, by simp [hl], fun j k v e => ?_⟩ ⟨by simp, fun i key v e => ?_⟩ (fun h' kk x hx => stays_mix.all h' (fun b u hb e => ?_) _ _ (his x hx)) (by rw [List.length_map, hl]; exact hz) fun h' tk hd' kp => ?_
  · rw [List.getElem?_map] at e
    cases e2 : prs[j]? with
    | none =>
      rw [e2] at e
      cases e
    | some x =>
      rw [e2] at e
      have e3 : (Value.ref x.2.1, x.2.2) = (k, v) := Option.some.inj e
      obtain ⟨e4, e5⟩ := Prod.mk.inj e3
      subst e4 e5
      obtain ⟨b, hb, hpa⟩ := hpr j x e2
      have eg : ps.getD j 0 = b := by simp [List.getD, hb]
      show (ps.map Value.ref).toArray[j]? = some (.ref (ps.getD j 0)) ∧ PairAt s.heap (ps.getD j 0) _ _
      rw [eg]
      exact ⟨by simp [hb], hpa⟩
  · have e : (prs.map fun x => (Value.ref x.2.1, x.2.2))[i]? = some (key, v) := e
    rw [List.getElem?_map] at e
    cases e2 : prs[i]? with
    | none =>
      rw [e2] at e
      cases e
    | some x =>
      rw [e2] at e
      have e3 : (Value.ref x.2.1, x.2.2) = (key, v) := Option.some.inj e
      obtain ⟨e4, e5⟩ := Prod.mk.inj e3
      subst e4 e5
      exact ⟨x.1, x.2.1, rfl, rfl⟩
  · exact kk b u (Nat.ne_of_lt (Heap.lt_size e)) hb e
  · rw [storedAll_nd prs [] hnd', List.nil_append] at hd'
    have hm : (s.heap.objs.size == sysModules) = false := beq_eq_false_iff_ne.mpr (Nat.ne_of_gt I.big)
    have hlen : (ks.map fun k => (k.1, k.2.2)).length ≤ sizeLine := by
      rw [Paired.length rel, hl]
      exact hz
    obtain ⟨q2, es, ep, hq2, h2, h3, h4, _, h5⟩ := hd'
    have hnew : H s.heap.objs.size = none := I.hok.fresh (Nat.le_refl _)
    exact ⟨.ref s.heap.objs.size, upd H s.heap.objs.size (.dT (ks.map fun k => (k.1, k.2.2))), I.laid (t' := tk) (fun b u e => kp b u (fun z => nomatch z) e) (Nat.le_refl _)
      (show ObjOk X.prog X.w _ _ _ (.dT _) from ⟨hlen, hm, prs, rel.keeps fun c ys ec => by rw [upd_ne (ne_of_none ec hnew)]; exact ec, q2, es, ep, hq2, h2, h3, h4, h5⟩), rfl, q _ hnew⟩
end

/-! ### sorted of a dict whose keys are tuples -/
theorem one_perm {A : Type} : ∀ {xs ys : List A}, xs.Perm ys → ys.length ≤ 1 → xs = ys
  | [], ys, h, _ => by rw [List.nil_perm.mp h]
  | [x], ys, h, _ => (List.perm_singleton.mp h.symm).symm
  | x :: y :: r, ys, h, hl => by
    have := h.length_eq
    simp only [List.length_cons] at this
    omega
theorem swo_no : SrtO.Swo (fun _ _ : Value => false) := by
  constructor <;> simp
section
variable {X : Cx}
/-- the keys of such a dict, in a row -/
theorem acc_keys {acc : Array Value} {ks : List (List Key × Addr × Value)} {es : Array DictEntry} {P : Program} {w : World} (he : es.toList = ks.map (entryOfKey (tupleKind (mixKind P w))))
    (it : ItemsOf (fun i v => ∃ en : DictEntry, es[i]? = some en ∧ v = en.key) acc es.size) : acc.toList = (ks.map fun x => x.2.1).map Value.ref := by
  have l1 : es.size = ks.length := size_of_entries he
  have hl : acc.toList.length = ks.length := by rw [Array.length_toList, it.1]; exact l1
  rw [List.map_map]
  apply List.ext_getElem?
  intro j
  rw [List.getElem?_map]
  cases hj : acc.toList[j]? with
  | none =>
    have h1 := List.getElem?_eq_none_iff.mp hj
    rw [List.getElem?_eq_none (by omega)]
    all_goals rfl
  | some v =>
    obtain ⟨en, hen, hv⟩ := it.2 j v (by rw [← Array.getElem?_toList]; exact hj)
    have qe := entry_at he j
    rw [hen] at qe
    cases hb : ks[j]? with
    | none =>
      rw [hb] at qe
      exact nomatch (show some en = none from qe)
    | some b =>
      rw [hb] at qe
      have e2 : en = entryOfKey (tupleKind (mixKind P w)) b := Option.some.inj qe
      rw [hv, e2]
      all_goals rfl
/-- sorted(d), at most one key -/
theorem call_sortedT (hcalm : X.calm = true) : CallR X (.builtin "sorted") (fun xs H Q => ∃ (d : Addr) (kvs : List (List Key × V)), xs = [V.ref d] ∧ Rd H d (.dT kvs) ∧ kvs.length ≤ 1 ∧ ∀ p bs, H p = none → IsKeys H kvs bs → Q (.ref p) (upd H p (.lst (bs.map V.ref)))) := by
  intro pins s σ H xs us Q I r h
  obtain ⟨d, kvs, rfl, hd, hone, q⟩ := h
  obtain ⟨u, rfl, rx⟩ := r.one
  cases rx
  obtain ⟨z, hs, ks, pr, o, es, ep, ho, hx, hdt, he, hn⟩ := (show ObjOk X.prog X.w H s.heap d (.dT kvs) from hd.ok I.hok)
  have l1 : es.size = ks.length := size_of_entries he
  have l2 : kvs.length = ks.length := Paired.length pr
  refine Calls.call_function_entry PyProof.Rows.kind_sorted PyProof.Rows.plain_sorted PyProof.Rows.entry_sorted (PyProof.Rows.args_sorted1 _) ?_
  unfold Builtin.«sorted»
  refine wpAny_bind (m := checkCount "sorted" 1 1 _) (wpAny_pure ?_)
  refine wpAny_bind (PySem.W.kdu_collect (A := X.A.in1) (kdl_raw hs hx hdt) (I.ok.hd hcalm) ho (by omega) fun h' tk acc hk hacc => ?_)
  have ea := acc_keys he hacc
  have hl : acc.toList.length ≤ 1 := by
    rw [ea, List.length_map, List.length_map]
    omega
  have I1 : Inv X pins σ H { s with heap := h', toks := tk } := I.kept hk
  refine wpAny_bind (wpAny_newList ?_ (Nat.le_trans hl (by decide)))
  have hoL : (h'.push (seqObj "list" acc.toList.toArray 0)).get? h'.objs.size = some (seqObj "list" acc.toList.toArray 0) := Heap.get?_push_size _ rfl
  show wpAny _ _ _ _ _ { s with heap := h'.push (seqObj "list" acc.toList.toArray 0), toks := tk }
  refine wpAny_bind (wpAny_holding (wpAny_call_entry PyProof.Rows.slot_list_sort ⟨_, hoL, rfl⟩ PyProof.Rows.entry_list_sort
    (SrtO.list_sort_ord (s := { s with heap := h'.push (seqObj "list" acc.toList.toArray 0), toks := tk }) swo_no hoL (Nat.le_trans hl (by decide)) (fun h2 => absurd hl (by omega)) fun out h1 h2 => ⟨_, rfl, ?_⟩)
    (PyProof.Rows.args_list_sort _)))
  have eo : out = acc.toList := one_perm h2.perm hl
  subst eo
  obtain ⟨e', he'⟩ := PyProof.Rows.sortedHeap_at (vs := acc.toList) (out := acc.toList.toArray) hoL
  have rv : Vals ((ks.map fun x => x.2.1).map V.ref) acc.toList := by rw [ea]; exact vals_refs _
  have hlen : ((ks.map fun x => x.2.1).map V.ref).length ≤ sizeLine := by
    rw [List.length_map, List.length_map]
    omega
  refine wpAny_pure ⟨_, rfl, .ref h'.objs.size, upd H h'.objs.size (.lst ((ks.map fun x => x.2.1).map V.ref)), I1.laid (t' := tk) (fun b u e => ?_) (Nat.le_refl _)
    (show ObjOk X.prog X.w _ _ _ (.lst _) from ⟨hlen, acc.toList, e', rv, he'⟩), rfl, q _ _ (I1.hok.fresh (Nat.le_refl _)) (isKeys_of pr)⟩
  have hb : b < h'.objs.size := Heap.lt_size e
  rw [PyProof.Rows.sortedHeap_old (Nat.ne_of_lt hb) (by rw [PyProof.Rows.size_push']; exact Nat.lt_succ_of_lt hb)]
  exact Heap.get?_push_of_some _ e
end

/-! ### sorted of a dict by a key that is a def -/
section
variable {K : PySem.W.Frag} {H H' : Hp}
theorem Same.sqT {a : Addr} {xs : List V} (e : Same H H') (h : SqT K H a xs) : SqT K H' a xs := by
  rcases h with (h | ⟨o, h⟩) | h
  · exact .inl (.inl (e _ _ h))
  · exact .inl (.inr ⟨o, e _ _ h⟩)
  · exact .inr h
mutual
theorem Dp.same (e : Same H H') : ∀ (d : PyData) (v : V), Dp K H v d → Dp K H' v d
  | .none, _, h => by cases h; exact .non
  | .bool b, _, h => by cases h; exact .bl b
  | .int i, _, h => by cases h; exact .int i
  | .str x, _, h => by cases h; exact .str x
  | .list ds, _, h => by
    cases h with
    | lst hs ha => exact .lst (e.seq hs) (Dp.sameAll e ds _ ha)
  | .tuple ds, _, h => by
    cases h with
    | tup hs ha => exact .tup (Same.sqT e hs) (Dp.sameAll e ds _ ha)
  | .dict _, _, h => by cases h
theorem Dp.sameAll (e : Same H H') : ∀ (ds : List PyData) (vs : List V), DpAll K H vs ds → DpAll K H' vs ds
  | [], _, h => by cases h; exact .nil
  | d :: ds, _, h => by
    cases h with
    | cons h1 h2 => exact .cons (Dp.same e d _ h1) (Dp.sameAll e ds _ h2)
end
end
section
variable {X : Cx} {pins : List (Addr × Obj)} {σ : L2.St} {H : Hp} {s : Shared}
theorem run_at {A' : Around} {k : Nat} {f : Addr} {fd : FuncData} {ps : List Str} {sp : Sp} {Q : VK} {us : List Value} {vs : List V} (hA : A'.frames = some X.stack) (F : FnOk X.prog X.w X.K X.mg X.base CX0 k f fd ps sp) (hr : Room k A') (hb : Binds X.K fd ps [])
    (I : Inv X pins σ H s) (r : Vals vs us) (h : sp vs H Q E0) : wpAny (model X.prog X.w) A' (call (.ref f) us) (EP X pins σ Q) (fun _ _ => False) s := by
  have hl : us.length = ps.length := by rw [← r.length]; exact F.len _ _ _ _ h
  have b := hb s us I.kIn (by rw [List.append_nil]; exact hl)
  rw [List.append_nil] at b
  have e0 := I.env0
  refine wpAny_call (codeAny_mono (F.run A' X.stack s H ⟨us, []⟩ us vs Q E0 hr ⟨hA, e0.mod, e0.bs, e0.bsz, e0.funs, e0.frf, e0.hok, e0.bare⟩ b r h) fun r s' hq => ?_)
  cases r with
  | error e => exact hq
  | ok fl =>
    cases fl with
    | ret u => exact I.after hq
    | next => exact False.elim hq
    | brk => exact False.elim hq
    | cont => exact False.elim hq
/-- an object that stood untracked is tracked; the records at ch have changed -/
theorem Inv.adopt {a : Addr} {o : HO} {h' : Heap} {t' : Nat} {ch : List Addr} (I : Inv X pins σ H s) (hin : a ∈ ch)
    (hch : ∀ b ∈ ch, (X.s_0.heap.objs.size ≤ b) ∧ b ≠ X.env.locals ∧ b ∉ X.fs ∧ H b = none ∧ (∀ x c, X.env.cells.lookup x = some c → c ≠ b) ∧ ∀ p ∈ X.pn ++ pins, p.1 ≠ b)
    (kp : ∀ b u, b ∉ ch → s.heap.get? b = some u → h'.get? b = some u) (new : ObjOk X.prog X.w (upd H a o) h' a o) : Inv X pins σ (upd H a o) { s with heap := h', toks := t' } := by
  have ha : H a = none := (hch a hin).2.2.2.1
  have nch : ∀ b u, H b = some u → b ∉ ch := fun b u e z => by
    rw [(hch b z).2.2.2.1] at e
    cases e
  have na : ∀ b u, H b = some u → b ≠ a := fun b u e z => by
    subst z
    rw [ha] at e
    cases e
  refine I.step (g' := s.gens) (d' := s.drawn) (t' := t') (ch := ch) (fun b hb => ⟨.inr (hch b hb).1, (hch b hb).2.1, (hch b hb).2.2.2.2.1, (hch b hb).2.2.2.2.2⟩)
    (fun b u _ _ hc e _ => kp b u hc e) (fun b u _ hf hc e n => ⟨u.slots, kp b u hc e⟩) (fun b u hc e n => ?_) (fun b u hc e => ⟨u, kp b u hc e⟩)
    (fun b xs e => by rw [upd_ne (na b _ e)]; exact e) (fun b u xs e => by rw [upd_ne (na b _ e)]; exact e) (fun b ps e => ⟨#[], by rw [upd_ne (na b _ e), e]; simp⟩) (fun m hm => ?_) (fun b u e => ?_) I.bare
  · have hb : b ≠ a := fun z => hc (by rw [z]; exact hin)
    rw [upd_ne hb]
    exact n
  · obtain ⟨ob, es, ep, hob, r⟩ := hm
    exact ⟨ob, es, ep, kp _ _ (fun z => (hch _ z).2.1 rfl) hob, r⟩
  · by_cases hb : b = a
    · subst hb
      rw [upd_same] at e
      cases e
      exact new
    · rw [upd_ne hb] at e
      refine (I.hok b u e).stay (fun c v hc q => kp c v ?_ q) (fun c q => by rw [upd_ne (na c _ q)]; exact q) fun c xs q => by rw [upd_ne (na c _ q)]; exact q
      rcases hc with rfl | hc
      · exact nch c u e
      · exact nch c _ hc
end

section
variable {X : Cx}
/-- what is asked of sorted(d, key=f), d with keys that are tuples and stand in the order of the key already -/
def rSortK (K : PySem.W.Frag) (f : Addr) (kd : List Key → PyData) : List V → List V → Hp → VK → Prop := fun vs zs H Q => ∃ (d : Addr) (kvs : List (List Key × V)), vs = [V.ref d] ∧ zs = [V.ref f] ∧ Rd H d (.dT kvs) ∧
  (kvs.map (·.1)).Pairwise (fun k k' => PySem.W.dataLe false kd k k' = true) ∧ PySem.W.AllAlike ((kvs.map (·.1)).map kd) ∧ PySem.W.Sortable ((kvs.map (·.1)).map kd) ∧ (∀ k ∈ kvs.map (·.1), (kd k).depth ≤ 8) ∧
  ∀ (p : Addr) (bs : List Addr) (H' : Hp), H p = none → IsKeys H kvs bs → Same H H' → Same H' (upd H' p (.lst (bs.map V.ref))) → Q (.ref p) (upd H' p (.lst (bs.map V.ref)))
theorem isKeys_get {H : Hp} {kvs : List (List Key × V)} {bs : List Addr} (h : IsKeys H kvs bs) {j : Nat} {b : Addr} (e : bs[j]? = some b) : ∃ k, (kvs.map (·.1))[j]? = some k ∧ H b = some (.tup (k.map kV)) := by
  have hl : kvs.length = bs.length := Paired.length h
  have hj : j < kvs.length := by
    rw [hl]
    exact (List.getElem?_eq_some_iff.mp e).1
  obtain ⟨b', e', r⟩ := paired_get h (i := j) (a := kvs[j]) (List.getElem?_eq_getElem hj)
  rw [e] at e'
  cases e'
  exact ⟨kvs[j].1, by rw [List.getElem?_map, List.getElem?_eq_getElem hj]; rfl, r⟩
theorem room2 {k : Nat} {A : Around} (r : Room (k + 2) A) : Room k A.in1.in1 := r.in1.in1
theorem each_dp {pins : List (Addr × Obj)} {σ : L2.St} {H : Hp} {s : Shared} (I : Inv X pins σ H s) (kd : List Key → PyData) : ∀ {ts : List Addr} {ks : List (List Key)}, Paired (fun t k => Dp X.K H (.ref t) (kd k)) ts ks →
    PySem.W.EachIs (fun v d => ∃ as, Reads s.heap v d as) (ts.map Value.ref) (ks.map kd)
  | _, _, .nil => .nil
  | _, _, .cons h t => .cons (Dp.reads I _ _ _ h rfl) (each_dp I kd t)
theorem paired_snoc {A B : Type} {G : A → B → Prop} : ∀ {xs : List A} {ys : List B} {x : A} {y : B}, Paired G xs ys → G x y → Paired G (xs ++ [x]) (ys ++ [y])
  | _, _, _, _, .nil, h => .cons h .nil
  | _, _, _, _, .cons r t, h => .cons r (paired_snoc t h)
theorem each_zip : ∀ {bs : List Addr} {ks : List (List Key)}, bs.length = ks.length → PySem.W.EachIs (fun (v : Value) (x : Addr × List Key) => v = Value.ref x.1) (bs.map Value.ref) (bs.zip ks)
  | [], [], _ => .nil
  | b :: bs, k :: ks, h => .cons rfl (each_zip (by simpa using h))
  | [], _ :: _, h => by simp at h
  | _ :: _, [], h => by simp at h
theorem each_refs : ∀ {out : List Value} {zs : List (Addr × List Key)}, PySem.W.EachIs (fun (v : Value) (x : Addr × List Key) => v = Value.ref x.1) out zs → out = (zs.map (·.1)).map Value.ref
  | _, _, .nil => rfl
  | _, _, .cons h t => by rw [List.map_cons, List.map_cons, ← each_refs t, h]
theorem pw_zip {kd : List Key → PyData} : ∀ {bs : List Addr} {ks : List (List Key)}, ks.Pairwise (fun k k' => PySem.W.dataLe false kd k k' = true) → (bs.zip ks).Pairwise (fun x y => PySem.W.dataLe false (fun z : Addr × List Key => kd z.2) x y = true)
  | [], ks, _ => by rw [List.zip_nil_left]; exact .nil
  | b :: bs, [], _ => by rw [List.zip_nil_right]; exact .nil
  | b :: bs, k :: ks, h => by
    obtain ⟨h1, h2⟩ := List.pairwise_cons.mp h
    rw [List.zip_cons_cons]
    refine List.pairwise_cons.mpr ⟨fun y hy => ?_, pw_zip h2⟩
    exact h1 y.2 (List.of_mem_zip hy).2
theorem cr_sortK {k : Nat} {f : Addr} {fd : FuncData} {ps : List Str} {sp : Sp} {kd : List Key → PyData} (hcalm : X.calm = true) (F : FnOk X.prog X.w X.K X.mg X.base CX0 k f fd ps sp) (hr : Room (k + 2) X.A) (hb : Binds X.K fd ps [])
    (hsp : ∀ (H : Hp) (b : Addr) (w : List Key) (Q : VK), H b = some (.tup (w.map kV)) → (∀ t H', Same H H' → Dp X.K H' (.ref t) (kd w) → Q (.ref t) H') → sp [.ref b] H Q E0) :
    CallRK X (.builtin "sorted") [Str.ofString "key"] (rSortK X.K f kd) := by
  intro pins s σ H vs zs us ws Q I r rz h
  obtain ⟨d, kvs, rfl, rfl, hd, hpw, hal, hsk, hdp, q⟩ := h
  obtain rfl := Vals.ref1 r
  obtain ⟨w1, rfl, e1⟩ := vals1 rz
  obtain rfl : w1 = Value.ref f := e1
  obtain ⟨z, hs, ks, pr, o, es, ep, ho, hx, hdt, he, hn⟩ := (show ObjOk X.prog X.w H s.heap d (.dT kvs) from hd.ok I.hok)
  have l1 : es.size = ks.length := size_of_entries he
  have l2 : kvs.length = ks.length := Paired.length pr
  show wpAny _ _ (call (.builtin "sorted") [Value.ref d] [(Str.ofString "key", Value.ref f)]) _ _ _
  refine PyProof.Rows.call_function_entry_kw PyProof.Rows.kind_sorted PyProof.Rows.plain_sorted PyProof.Rows.entry_sorted (PyProof.Rows.ksk_s1 _ _) ?_
  unfold Builtin.«sorted»
  refine wpAny_bind (m := checkCount "sorted" 1 1 _) (wpAny_pure ?_)
  refine wpAny_bind (PySem.W.kdu_collect (A := X.A.in1) (kdl_raw hs hx hdt) (I.ok.hd hcalm) ho (by omega) fun h' tk acc hk hacc => ?_)
  have ea := acc_keys he hacc
  have hik := isKeys_of pr
  generalize hbs : (ks.map fun x => x.2.1) = bs at ea hik
  have hbl : bs.length = kvs.length := (Paired.length hik).symm
  have I1 : Inv X pins σ H { s with heap := h', toks := tk } := I.kept hk
  have hal2 : acc.toList.length = kvs.length := by rw [ea, List.length_map, hbl]
  refine wpAny_bind (wpAny_newList ?_ (by omega))
  have hoL : (h'.push (seqObj "list" acc.toList.toArray 0)).get? h'.objs.size = some (seqObj "list" acc.toList.toArray 0) := Heap.get?_push_size _ rfl
  show wpAny _ _ _ _ _ { s with heap := h'.push (seqObj "list" acc.toList.toArray 0), toks := tk }
  refine wpAny_bind (wpAny_holding (PyProof.Rows.wpAny_call_entry_kw PyProof.Rows.slot_list_sort ⟨_, hoL, rfl⟩ PyProof.Rows.entry_list_sort ?_ (PyProof.Rows.ksk_l1 _ _)))
  show wpAny (model X.prog X.w) X.A.in1.in1 (Builtin.«list.sort» ⟨[.ref h'.objs.size], [(Str.ofString "key", Value.ref f)]⟩) _ _ _
  rw [PyProof.Rows.ksk_t1]
  have hlt : h'.objs.size < (h'.push (seqObj "list" acc.toList.toArray 0)).objs.size := Heap.lt_size hoL
  generalize hA : h'.objs.size = a at hoL hlt
  have oldA : ∀ b u, h'.get? b = some u → b ≠ a := fun b u e => by
    rw [← hA]
    exact Nat.ne_of_lt (Heap.lt_size e)
  obtain ⟨e1, ho1⟩ : ∃ e1, ((h'.push (seqObj "list" acc.toList.toArray 0)).update a (Obj.mapSeq fun _ => (#[] : Array Value))).get? a = some (seqObj "list" #[] e1) := ⟨_, PyProof.Rows.get?_update_seq hoL fun _ => #[]⟩
  have hZ : acc.toList.length ≤ sizeLine := by omega
  unfold PyProof.Rows.ksk_tree
  refine wpAny_bind (PyProof.Rows.listItems_at hoL rfl ?_)
  refine wpAny_bind (PyProof.Rows.listUpdate_at hoL rfl ?_ (by rw [List.size_toArray]; exact hZ) (Nat.zero_le _))
  refine wpAny_bind (PyProof.Rows.seqEpoch_at ho1 rfl ?_)
  refine wpAny_bind (wpAny_newTuple ?_ hZ)
  refine wpAny_bind (wpAny_newList ?_ (Nat.zero_le _))
  refine wpAny_holding ?_
  have hkS : (((h'.push (seqObj "list" acc.toList.toArray 0)).update a (Obj.mapSeq fun _ => (#[] : Array Value))).push (seqObj "tuple" acc.toList.toArray 0)).objs.size = a + 2 := by
    rw [PyProof.Rows.size_push', Heap.size_update, PyProof.Rows.size_push', hA]
  have hkg := Heap.get?_push_size (((h'.push (seqObj "list" acc.toList.toArray 0)).update a (Obj.mapSeq fun _ => (#[] : Array Value))).push (seqObj "tuple" acc.toList.toArray 0)) (o := seqObj "list" #[] 0) rfl
  show wpAny _ _ (PyProof.Rows.ksk_rest a (.ref f) false acc.toList.toArray e1 (.ref (((h'.push (seqObj "list" acc.toList.toArray 0)).update a (Obj.mapSeq fun _ => (#[] : Array Value))).push (seqObj "tuple" acc.toList.toArray 0)).objs.size)) _ _
    { s with heap := (((h'.push (seqObj "list" acc.toList.toArray 0)).update a (Obj.mapSeq fun _ => (#[] : Array Value))).push (seqObj "tuple" acc.toList.toArray 0)).push (seqObj "list" #[] 0), toks := tk }
  generalize hg0 : (((h'.push (seqObj "list" acc.toList.toArray 0)).update a (Obj.mapSeq fun _ => (#[] : Array Value))).push (seqObj "tuple" acc.toList.toArray 0)).push (seqObj "list" #[] 0) = g0 at hkg ⊢
  rw [hkS] at hkg ⊢
  have na : g0.get? a = some (seqObj "list" #[] e1) := by
    rw [← hg0]
    exact Heap.get?_push_of_some _ (Heap.get?_push_of_some _ ho1)
  have kp0 : ∀ b u, h'.get? b = some u → g0.get? b = some u := fun b u e => by
    rw [← hg0]
    refine Heap.get?_push_of_some _ (Heap.get?_push_of_some _ ?_)
    exact (Heap.get?_update_ne _ _ _ _ (oldA b u e)).trans (Heap.get?_push_of_some _ e)
  have hka : a + 2 ≠ a := by omega
  have I2 : Inv X pins σ H { s with heap := g0, toks := tk } := I1.kept (t' := tk) kp0
  -- the new places are no one's
  have fresh : ∀ b, a ≤ b → H b = none ∧ b ≠ X.env.locals ∧ b ∉ X.fs ∧ (∀ x c, X.env.cells.lookup x = some c → c ≠ b) ∧ (∀ p ∈ X.pn ++ pins, p.1 ≠ b) ∧ X.s_0.heap.objs.size ≤ b := fun b hab => by
    have lt : ∀ {c : Addr} {u : Obj}, h'.get? c = some u → c ≠ b := fun {c u} e => by
      have h1 : c < a := by
        rw [← hA]
        exact Heap.lt_size e
      exact Nat.ne_of_lt (Nat.lt_of_lt_of_le h1 hab)
    refine ⟨I1.hok.fresh (by rw [hA]; exact hab), ?_, I1.nofs (by rw [hA]; exact hab), fun x c e => ?_, fun p hp => lt (I1.pin p hp).1, Nat.le_trans I1.sz (by rw [hA]; exact hab)⟩
    · have := I1.lt
      rw [hA] at this
      exact (Nat.ne_of_lt (Nat.lt_of_lt_of_le this hab)).symm
    · obtain ⟨v, ob, hob, _⟩ := I1.cell x c e
      exact lt hob
  obtain ⟨fa1, fa2, fa3, fa4, fa5, fa6⟩ := fresh a (Nat.le_refl _)
  obtain ⟨fk1, fk2, fk3, fk4, fk5, fk6⟩ := fresh (a + 2) (by omega)
  have notcell : ∀ (n : Nat) (kA : Array Value), ∀ v, (seqObj "list" kA n).data ≠ .cell v := fun n kA v z => by cases z
  unfold PyProof.Rows.ksk_rest
  refine wpAny_bind (wpAny_rule ?_)
  first
    | rw [List.forIn_toArray]
    | (rw [← Array.forIn_toList]; simp only [List.toList_toArray])
    | rw [← Array.forIn_toList]
  refine wpAny_bind (PyProof.Rows.ksk_fold (fun i s' => ∃ (Hi : Hp) (kA : Array Value) (e : Nat) (ts : List Addr), Inv X ((a, seqObj "list" #[] e1) :: pins) σ Hi s' ∧ s'.heap.get? (a + 2) = some (seqObj "list" kA e) ∧ Hi (a + 2) = none ∧ Same H Hi ∧ kA.toList = ts.map Value.ref ∧
    Paired (fun t k => Dp X.K Hi (.ref t) (kd k)) ts ((kvs.map (·.1)).take i)) acc.toList 0 _ ⟨H, #[], 0, [], I2.pins_of ?pin0, hkg, fk1, Same.refl H, rfl, by rw [List.take_zero]; exact .nil⟩ ?step ?done)
  case pin0 =>
    intro p hp
    rcases List.mem_cons.mp hp with e | hp
    · subst e
      exact ⟨na, fa1, fa2, fa3, notcell _ _⟩
    · exact I2.pin p (List.mem_append_right _ hp)
  case step =>
    rintro j x s' hx ⟨Hi, kA, e, ts, J, nk, nH, sm, ekA, hts⟩
    simp only [Nat.zero_add] at hts ⊢
    rw [ea, List.getElem?_map] at hx
    cases hb1 : bs[j]? with
    | none =>
      rw [hb1] at hx
      cases hx
    | some b =>
      rw [hb1] at hx
      have hx' : Value.ref b = x := Option.some.inj hx
      subst hx'
      obtain ⟨w, hw, hHb⟩ := isKeys_get hik hb1
      have hjl : j < kvs.length := by
        have := (List.getElem?_eq_some_iff.mp hb1).1
        omega
      have J2 : Inv X ((a + 2, seqObj "list" kA e) :: (a, seqObj "list" #[] e1) :: pins) σ Hi s' := J.pins_of fun p hp => by
        rcases List.mem_cons.mp hp with e | hp
        · subst e
          exact ⟨nk, nH, fk2, fk3, notcell _ _⟩
        · exact J.pin p (List.mem_append_right _ hp)
      have hts' : ts.length = j := by
        have := Paired.length hts
        rw [List.length_take, List.length_map] at this
        omega
      refine wpAny_bind (wpAny_attempt (wpAny_mono (run_at (A' := X.A.in1.in1) (Q := fun v H' => Same Hi H' ∧ ∃ t, v = V.ref t ∧ Dp X.K H' (.ref t) (kd w)) I.ok.frames F (room2 hr) hb J2 (show Vals [V.ref b] [Value.ref b] from .cons rfl .nil) (hsp Hi b w _ (sm b _ hHb) fun t H' s1 d1 => ⟨s1, t, rfl, d1⟩)) (fun v s'' he2 => ?_) fun _ _ hF => hF.elim))
      obtain ⟨v', H2, J3, rv, s2, t, ev, dt⟩ := he2
      subst ev
      obtain rfl : v = Value.ref t := rv
      try dsimp only
      obtain ⟨nk2, nH2, _, _, _⟩ := J3.pin (a + 2, seqObj "list" kA e) (List.mem_append_right _ List.mem_cons_self)
      have na2 := J3.pin (a, seqObj "list" #[] e1) (List.mem_append_right _ (List.mem_cons_of_mem _ List.mem_cons_self))
      have sb := Heap.SameBut.update s''.heap (a + 2) (Obj.mapSeq (·.push (Value.ref t)))
      obtain ⟨c2, hc2⟩ : ∃ c2, (s''.heap.update (a + 2) (Obj.mapSeq (·.push (Value.ref t)))).get? (a + 2) = some (seqObj "list" (kA.push (Value.ref t)) c2) := ⟨_, PyProof.Rows.get?_update_seq nk2 (·.push (Value.ref t))⟩
      have hkz : kA.size ≤ sizeLine := by
        have h1 : kA.toList.length = ts.length := by rw [ekA, List.length_map]
        rw [Array.length_toList] at h1
        omega
      refine wpAny_bind (PyProof.Rows.listUpdate_at nk2 rfl ?_ hkz (by rw [Array.size_push]; omega))
      have J4 : Inv X ((a, seqObj "list" #[] e1) :: pins) σ H2 s'' := J3.pins_of fun p hp => J3.pin p (List.mem_append_right _ (List.mem_cons_of_mem _ hp))
      have J5 : Inv X ((a, seqObj "list" #[] e1) :: pins) σ H2 { s'' with heap := s''.heap.update (a + 2) (Obj.mapSeq (·.push (Value.ref t))), toks := s''.toks } :=
        J4.turned (it := a + 2) (fun b u hb e => (sb.2 b hb).trans e) nH2 fk2 (.inr fk6) fk4 fun p hp => by
          rcases List.mem_append.mp hp with hp | hp
          · exact fk5 p (List.mem_append_left _ hp)
          · rcases List.mem_cons.mp hp with e | hp
            · subst e
              exact hka.symm
            · exact fk5 p (List.mem_append_right _ hp)
      refine wpAny_pure ⟨rfl, H2, kA.push (Value.ref t), c2, ts ++ [t], J5, hc2, nH2, sm.trans s2, by rw [Array.toList_push, ekA, List.map_append]; rfl, ?_⟩
      have et : (kvs.map (·.1)).take (j + 1) = (kvs.map (·.1)).take j ++ [w] := by rw [List.take_add_one, hw]; simp
      rw [et]
      exact paired_snoc (Paired.mapP hts fun t k d => Dp.same s2 _ _ d) dt
  case done =>
    rintro s' ⟨Hi, kA, e, ts, J, nk, nH, sm, ekA, hts⟩
    have et : (kvs.map (·.1)).take (0 + acc.toList.length) = kvs.map (·.1) := List.take_of_length_le (by rw [List.length_map]; omega)
    rw [et] at hts
    have hsz : kA.size = acc.toList.length := by
      have h1 : kA.toList.length = ts.length := by rw [ekA, List.length_map]
      have h2 := Paired.length hts
      rw [List.length_map] at h2
      rw [Array.length_toList] at h1
      omega
    obtain ⟨na2, naH, _⟩ := J.pin (a, seqObj "list" #[] e1) (List.mem_append_right _ List.mem_cons_self)
    try dsimp only
    refine wpAny_bind (PyProof.Rows.listItems_at nk rfl ?_)
    obtain ⟨G, g1, g2⟩ := restrict s'.heap fun b => decide (b ≠ a + 2)
    have hG : G.get? (a + 2) = none := g2 _ (by simp)
    have kpG : PySem.W.KeepsBut a G s'.heap := fun b u hba e => by
      have hb2 : b ≠ a + 2 := fun z => by
        rw [z, hG] at e
        cases e
      rw [← g1 b (decide_eq_true hb2)]
      exact e
    have hk' : PySem.W.EachIs (fun v k => ∃ as, Reads s'.heap v k as) kA.toList ((kvs.map (·.1)).map kd) := by
      rw [ekA]
      exact each_dp J kd hts
    refine PySem.W.keyH_end (κ := PySem.W.dataKind s'.heap ((kvs.map (·.1)).map kd)) (h₁ := G) kpG hG nk na2 hka
      (PySem.W.SortsAt.data hk' hal hsk (fun dd hdd => ?_)) hsz hZ fun h3 tk3 c k3 n3 => ⟨_, rfl, ?_⟩
    · obtain ⟨kk, hkk, rfl⟩ := List.mem_map.mp hdd
      have h1 := hdp kk hkk
      have h2 := hr.units
      show X.A.in1.in1.units + _ < cLine
      show X.A.units + 1 + 1 + _ < cLine
      omega
    · have eo : PySem.W.sortVals (PySem.W.dataKind s'.heap ((kvs.map (·.1)).map kd)) false kA.toList acc.toList = bs.map Value.ref := by
        have hbk : bs.length = (kvs.map (·.1)).length := by rw [List.length_map, hbl]
        have ez : (bs.zip (kvs.map (·.1))).map (fun z : Addr × List Key => kd z.2) = (kvs.map (·.1)).map kd := by
          have h2 : (bs.zip (kvs.map (·.1))).map (fun z : Addr × List Key => z.2) = kvs.map (·.1) := List.map_snd_zip (Nat.le_of_eq hbk.symm)
          rw [← h2, List.map_map]
          simp only [h2]
          rfl
        have ko : PySem.W.KeyedOut false ((bs.zip (kvs.map (·.1))).map (fun z : Addr × List Key => kd z.2)) acc.toList (PySem.W.sortVals (PySem.W.dataKind s'.heap ((kvs.map (·.1)).map kd)) false kA.toList acc.toList) := by
          rw [ez]
          exact ⟨s'.heap, kA.toList, hal, rfl, hk'⟩
        have e3 := PySem.W.keyedOut_each (fun z : Addr × List Key => kd z.2) ko (by rw [ea]; exact each_zip hbk)
        rw [List.mergeSort_of_pairwise (pw_zip hpw)] at e3
        have e4 := each_refs e3
        rw [List.map_fst_zip (Nat.le_of_eq hbk)] at e4
        exact e4
      rw [eo] at n3
      have hb3 : (bs.map V.ref).length ≤ sizeLine := by
        rw [List.length_map]
        omega
      have J6 : Inv X pins σ Hi s' := J.pins_of fun p hp => J.pin p (List.mem_append_right _ (List.mem_cons_of_mem _ hp))
      have J7 := Inv.adopt (a := a) (o := .lst (bs.map V.ref)) (h' := h3) (t' := tk3) (ch := [a, a + 2]) J6 List.mem_cons_self (fun b hb => ?_) (fun b u hb e => ?_) ⟨hb3, bs.map Value.ref, c, vals_refs bs, n3⟩
      · refine wpAny_pure ⟨_, rfl, .ref a, _, J7, rfl, q a bs Hi fa1 hik sm fun b u e => ?_⟩
        rw [upd_ne (ne_of_none e naH)]
        exact e
      · rcases List.mem_cons.mp hb with e | hb
        · subst e
          exact ⟨fa6, fa2, fa3, naH, fa4, fa5⟩
        · have e := List.mem_singleton.mp hb
          subst e
          exact ⟨fk6, fk2, fk3, nH, fk4, fk5⟩
      · have hba : b ≠ a := fun z => hb (by rw [z]; exact List.mem_cons_self)
        have hb2 : b ≠ a + 2 := fun z => hb (by rw [z]; exact List.mem_cons_of_mem _ List.mem_cons_self)
        exact k3 b u hba (by rw [g1 b (decide_eq_true hb2)]; exact e)
end

section
variable {X : Cx} {a b c d e : Expr} {ta tb tc td : TE} {pos p p2 kp : Pos}
/-- a < b < c < d -/
def tChain3 (r r' r'' : R2) (ta tb tc td : TE) : TE := fun σ H Q => ta σ H fun x H1 => tb σ H1 fun y H2 => r x y H2 fun z H3 => ∃ k, z = .bl k ∧
  (if k = true then tc σ H3 fun v H4 => r' y v H4 fun z2 H5 => ∃ k2, z2 = .bl k2 ∧ (if k2 = true then td σ H5 fun u H6 => r'' v u H6 Q else Q (.bl false) H5) else Q (.bl false) H3)
theorem pe_chain3 {op op' op'' : CmpOp} {r r' r'' : R2} (ho : OpR X (compareOp op) r) (ho' : OpR X (compareOp op') r') (ho'' : OpR X (compareOp op'') r'') (ha : PE X a ta) (hb : PE X b tb) (hc : PE X c tc) (hd : PE X d td)
    (hm : lastMarks [op, op', op''] [b, c, d] = false := by with_unfolding_all rfl) : PE X (.Compare a [op, op', op''] [b, c, d] pos) (tChain3 r r' r'' ta tb tc td) := by
  refine ⟨fun pins s σ H Q I h => ?_⟩
  refine Compare_chain (thn (ha.run pins s σ H _ I h) fun v s1 ⟨x, H1, I1, r1, q1⟩ => chain_link (thn (hb.run pins s1 σ H1 _ I1 q1) fun u s2 ⟨y, H2, I2, r2, q2⟩ =>
    thn (ho pins s2 σ H2 x y v u _ I2 r1 r2 q2) fun d s3 ⟨z, H3, I3, r3, k, e, q3⟩ => ?_)) hm
  subst e
  cases r3
  refine wpAny_truthy_bool ?_
  cases k with
  | false => exact ite_ff ⟨.bl false, H3, I3, rfl, q3⟩
  | true =>
    refine ite_tt (chain_link (thn (hc.run pins s3 σ H3 _ I3 q3) fun w' s4 ⟨z', H4, I4, r4, q4⟩ => thn (ho' pins s4 σ H4 y z' u w' _ I4 r2 r4 q4) fun d2 s5 ⟨z2, H5, I5, r5, k2, e2, q5⟩ => ?_))
    subst e2
    cases r5
    refine wpAny_truthy_bool ?_
    cases k2 with
    | false => exact ite_ff ⟨.bl false, H5, I5, rfl, q5⟩
    | true => exact ite_tt (chain_last (thn (hd.run pins s5 σ H5 _ I5 q5) fun w2 s6 ⟨z3, H6, I6, r6, q6⟩ => ho'' pins s6 σ H6 z' z3 w' w2 Q I6 r4 r6 q6))
/-- sorted(d, key=rank) -/
def tSortK (K : PySem.W.Frag) (f : Addr) (kd : List Key → PyData) (ta : TA) : TE := fun σ H Q => ta σ H fun vs H1 => rSortK K f kd vs [.ref f] H1 Q
theorem pe_sortK {k j : Nat} {f : Addr} {fd : FuncData} {ps : List Str} {sp : Sp} {kd : List Key → PyData} (F : FnOk X.prog X.w X.K X.mg X.base CX0 k f fd ps sp) (hmg : X.mg "rank" = some (.ref f)) (hb : Binds X.K fd ps []) (hr : Room j X.A) (hk : k + 2 ≤ j) (hcalm : X.calm = true)
    (hsp : ∀ (H : Hp) (b : Addr) (w : List Key) (Q : VK), H b = some (.tup (w.map kV)) → (∀ t H', Same H H' → Dp X.K H' (.ref t) (kd w) → Q (.ref t) H') → sp [.ref b] H Q E0)
    (hg : Gl X "sorted") (hm : X.mg "sorted" = none) (hg2 : Gl X "rank") {ta : TA} (ha : PA X [e] ta)
    (he : backTo pos (starEach (e :: []) X.env) = (false, eval e X.env) :: backTo pos (starEach [] X.env) := by rfl) (hpl : (backTo pos (starEach (e :: []) X.env)).any (·.1) = false := by rfl)
    (hall : (backToKw pos (keywordEach [⟨some ("key" : Str), .Name "rank" p2, kp⟩] X.env)).all (·.1.isSome) = true := by rfl) (hnone : (backToKw pos (keywordEach [⟨some ("key" : Str), .Name "rank" p2, kp⟩] X.env)).any (·.1.isNone) = false := by rfl)
    (hks : (backToKw pos (keywordEach [⟨some ("key" : Str), .Name "rank" p2, kp⟩] X.env)).filterMap (·.1) = [Str.ofString "key"] := by rfl) :
    PE X (.Call (.Name "sorted" p) [e] [⟨some ("key" : Str), .Name "rank" p2, kp⟩] pos) (tSortK X.K f kd ta) := by
  have PEf : PE X (.Name "rank" p2) (tC (.ref f)) := pe_glob hg2 hmg rfl
  exact pe_callBK (cr_sortK (kd := kd) hcalm F (hr.mono hk) hb hsp) hg hm (by decide +kernel) ha (pk_cons PEf pk_nil) (he := he) (hpl := hpl) (hall := hall) (hnone := hnone) (hks := hks)
theorem m2_of {o e f : Expr} {m : Str} {apos cpos : Pos} (h1 : attributeBase o m X.env (eval o X.env) = eval o X.env) (h2 : ((backTo cpos (starEach [e, f] X.env)).all (fun x => !x.1) && (backToKw cpos (keywordEach [] X.env)).all (fun x => x.1.isSome)
    && decide (([e, f] : List Expr).length + ([] : List Keyword).length + (if ([] : List Keyword).isEmpty then 0 else 1) < 30)) = true) (h3 : (apos.endLine == cpos.line) = true) (h4 : backTo cpos (starEach [e, f] X.env) = [(false, eval e X.env), (false, eval f X.env)]) : M2 X o m apos e f cpos := ⟨h1, h2, h3, h4⟩
end

section
variable {X : Cx} {k j : Nat} {C : Addr} {x : Str} {sp : Sp} {dvs : List V} {p pos : Pos}
theorem pe_mk0 (c : Mak X.prog X.w X.K X.mg X.base k x C sp dvs) (hr : Room j X.A) (hk : k + 1 ≤ j) (hg : Gl X x) (hdb : (x == ("__debug__" : Str)) = false := by decide) : PE X (.Call (.Name x p) [] [] pos) (tMake C sp dvs E0 tNil) := by
  obtain ⟨f, fd, ps, ds, M, F, hm, b, d⟩ := c.ex
  exact pe_make0 M F (hr.mono hk) hg hm b d pass0 hdb
end
end Sw

/-! ## Rep -/
/-! what stands for what -/
namespace Sw
open PySem PySem.Spec PyProof.Rows L2
open C8 (Cal Met Mak pe_c pe_mk pe_mt pe_mt0 pe_gc)
section
variable {K : PySem.W.Frag} {H H' H'' : Hp}
theorem Same.new {p : Addr} {o : HO} (e : Same H H') (h : H' p = none) : Same H (upd H' p o) := fun b u q => by
  rw [upd_ne (ne_of_none (e b u q) h)]
  exact e b u q
theorem Same.mut {p : Addr} {o : HO} (e : Same H H') (h : H p = none) : Same H (upd H' p o) := fun b u q => by
  rw [upd_ne (ne_of_none q h)]
  exact e b u q
theorem same_new {p : Addr} {o : HO} (h : H p = none) : Same H (upd H p o) := Same.new (Same.refl H) h
/-- n, over 1 -/
def Nm (K : PySem.W.Frag) (H : Hp) (v : V) (n : Int) : Prop := ∃ a, v = .ref a ∧ SqT K H a [.int n, .int 1]
theorem Nm.same {v : V} {n : Int} (h : Nm K H v n) (e : Same H H') : Nm K H' v n := by
  obtain ⟨a, rfl, h⟩ := h
  exact ⟨a, rfl, Same.sqT e h⟩
theorem Nm.new {p : Addr} {n : Int} : Nm K (upd H p (.tup [.int n, .int 1])) (.ref p) n := ⟨p, rfl, SqT.of upd_same⟩
theorem nms_same {xs : List V} {ns : List Int} (h : Paired (Nm K H) xs ns) (e : Same H H') : Paired (Nm K H') xs ns := Paired.mapP h fun _ _ q => Nm.same q e
/-- a row at a -/
def RwA (K : PySem.W.Frag) (H : Hp) (a : Addr) (ns : List Int) : Prop := ∃ xs, SqL K H a xs ∧ Paired (Nm K H) xs ns
theorem RwA.same {a : Addr} {ns : List Int} (h : RwA K H a ns) (e : Same H H') : RwA K H' a ns := by
  obtain ⟨xs, h1, h2⟩ := h
  exact ⟨xs, e.seq h1, nms_same h2 e⟩
/-- the i-th of such -/
theorem nms_at {xs : List V} {ns : List Int} (h : Paired (Nm K H) xs ns) {i : Nat} {n : Int} (e : ns[i]? = some n) : ∃ x, xs[i]? = some x ∧ Nm K H x n := by
  induction h generalizing i with
  | nil => simp at e
  | cons r t ih =>
    cases i with
    | zero =>
      have e' := Option.some.inj e
      subst e'
      exact ⟨_, rfl, r⟩
    | succ j =>
      obtain ⟨x, h1, h2⟩ := ih (i := j) (by simpa using e)
      exact ⟨x, by simpa using h1, h2⟩
theorem nms_of {xs : List V} {ns : List Int} (h : Paired (Nm K H) xs ns) {i : Nat} {x : V} (e : xs[i]? = some x) : ∃ n, ns[i]? = some n ∧ Nm K H x n := paired_get h e
theorem tyx_tup {a : Addr} {xs : List V} (h : SqT K H a xs) : TyX K H (.ref a) (.type "tuple") := by
  rcases h with (h | ⟨o, h⟩) | ⟨o, its, n, h, hc, _⟩
  · exact .base (.tup h)
  · exact .fTuple h
  · exact .kTuple h hc
theorem tyx_lst {a : Addr} {xs : List V} (h : SqL K H a xs) : TyX K H (.ref a) (.type "list") := by
  rcases h with (h | ⟨o, h⟩) | ⟨o, its, n, h, hc, _⟩
  · exact .base (.lst h)
  · exact .base (.frz h)
  · exact .kList h hc
theorem ifT {c : Bool} {A B : Prop} (hc : c = true) (h : A) : if c = true then A else B := by
  rw [if_pos hc]
  exact h
theorem ifF {c : Bool} {A B : Prop} (hc : c = false) (h : B) : if c = true then A else B := by
  rw [if_neg (by rw [hc]; decide)]
  exact h
/-- a bool's two ways -/
theorem if2 {c : Bool} {A B : Prop} (h1 : c = true → A) (h2 : c = false → B) : if c = true then A else B := by
  cases c with
  | true => exact ifT rfl (h1 rfl)
  | false => exact ifF rfl (h2 rfl)
theorem ne_free {a p : Addr} {o : HO} (h : H a = some o) (hp : H p = none) : a ≠ p := ne_of_none h hp
theorem sz0 : 0 ≤ sizeLine := Nat.zero_le _
theorem sz1 : 1 ≤ sizeLine := by decide
theorem sz2 : 2 ≤ sizeLine := by decide
theorem sz3 : 3 ≤ sizeLine := by decide
theorem sz4 : 4 ≤ sizeLine := by decide
theorem sz5 : 5 ≤ sizeLine := by decide
theorem szk {n : Nat} (h : n ≤ 100000) : n ≤ sizeLine := Nat.le_trans h (by decide)
theorem szl {n : Nat} (h : n ≤ 100000) : n < sizeLine := Nat.lt_of_le_of_lt h (by decide)
/-! the rules within a comprehension's block: K written out -/
theorem ix_tupK (K : PySem.W.Frag) {X : Cx} (h : X.K = K := by rfl) : IxR X (rIxT K) := by
  subst h
  exact ix_tup
theorem ix_listK (K : PySem.W.Frag) {X : Cx} (h : X.K = K := by rfl) : IxR X (rIxL K) := by
  subst h
  exact ix_list
theorem op_in_seqK (K : PySem.W.Frag) {X : Cx} (h : X.K = K := by rfl) : OpR X (compareOp .In) (rIn K false) := by
  subst h
  exact op_in_seq
theorem op_notIn_seqK (K : PySem.W.Frag) {X : Cx} (h : X.K = K := by rfl) : OpR X (compareOp .NotIn) (rIn K true) := by
  subst h
  exact op_notIn_seq
theorem call_len_seqK (K : PySem.W.Frag) {X : Cx} (h : X.K = K := by rfl) : CallR X (.builtin "len") (fun xs H Q => ∃ p ys, xs = [.ref p] ∧ (SqL K H p ys ∨ SqT K H p ys) ∧ Q (.int ys.length) H) := by
  subst h
  exact call_len_seq
theorem call_tuple_ofK (K : PySem.W.Frag) {X : Cx} (h : X.K = K := by rfl) : CallR X (.type "tuple") (fun xs H Q => ∃ p ys, xs = [.ref p] ∧ ((SqL K H p ys ∧ ∀ l, H l = none → Q (.ref l) (upd H l (.tup ys))) ∨ (SqT K H p ys ∧ Q (.ref p) H))) := by
  subst h
  exact call_tuple_of
theorem pe_fldK (K : PySem.W.Frag) {X : Cx} {e : Expr} {ta : TE} {f : Str} {pos : Pos} (he : PE X e ta) (hb : attributeBase e f X.env (eval e X.env) = eval e X.env) (h : X.K = K := by rfl) : PE X (.Attribute e f pos) (tFld K ta f) := by
  subst h
  exact pe_fld he hb
theorem sl_listK (K : PySem.W.Frag) {X : Cx} (h : X.K = K := by rfl) : SlR X (rSlL K) := by
  subst h
  exact sl_list
theorem sl_tupK (K : PySem.W.Frag) {X : Cx} (h : X.K = K := by rfl) : SlR X (rSlT K) := by
  subst h
  exact sl_tup
/-! ### all but lists stands -/
def tf : HO → Bool
  | .tup _ => true
  | .frz _ _ => true
  | _ => false
def SameT (H H' : Hp) : Prop := ∀ b o, H b = some o → tf o = true → H' b = some o
theorem Same.t (e : Same H H') : SameT H H' := fun b o h _ => e b o h
theorem SameT.refl (H : Hp) : SameT H H := fun _ _ h _ => h
theorem SameT.trans (e : SameT H H') (e' : SameT H' H'') : SameT H H'' := fun b o h n => e' b o (e b o h n) n
theorem SameT.chg {D : Addr} {u o : HO} (h : H D = some u) (n : tf u = false) : SameT H (upd H D o) := fun b w q m => by
  rw [upd_ne (fun z => by
    subst z
    rw [h] at q
    rw [← Option.some.inj q, n] at m
    cases m)]
  exact q
theorem SameT.lst {D : Addr} {xs : List V} {o : HO} (h : H D = some (.lst xs)) : SameT H (upd H D o) := SameT.chg h rfl
theorem sqT_t {a : Addr} {xs : List V} (h : SqT K H a xs) (e : SameT H H') : SqT K H' a xs := by
  rcases h with (h | ⟨o, h⟩) | h
  · exact .inl (.inl (e _ _ h rfl))
  · exact .inl (.inr ⟨o, e _ _ h rfl⟩)
  · exact .inr h
theorem Nm.t {v : V} {n : Int} (h : Nm K H v n) (e : SameT H H') : Nm K H' v n := by
  obtain ⟨a, rfl, h⟩ := h
  exact ⟨a, rfl, sqT_t h e⟩
theorem nms_t {xs : List V} {ns : List Int} (h : Paired (Nm K H) xs ns) (e : SameT H H') : Paired (Nm K H') xs ns := Paired.mapP h fun _ _ q => Nm.t q e
theorem paired_set {A B : Type} {G : A → B → Prop} {x : A} {y : B} (h : G x y) : ∀ {xs : List A} {ys : List B} (i : Nat), Paired G xs ys → Paired G (xs.set i x) (ys.set i y)
  | _, _, _, .nil => .nil
  | _, _, 0, .cons _ t => .cons h t
  | _, _, i + 1, .cons r t => .cons r (paired_set h i t)
/-- a new row: a tracked list -/
def RwN (K : PySem.W.Frag) (H : Hp) (a : Addr) (ns : List Int) : Prop := ∃ xs, H a = some (.lst xs) ∧ Paired (Nm K H) xs ns
theorem RwN.a {a : Addr} {ns : List Int} (h : RwN K H a ns) : RwA K H a ns := by
  obtain ⟨xs, h1, h2⟩ := h
  exact ⟨xs, SqL.of h1, h2⟩
theorem RwN.same {a : Addr} {ns : List Int} (h : RwN K H a ns) (e : Same H H') : RwN K H' a ns := by
  obtain ⟨xs, h1, h2⟩ := h
  exact ⟨xs, e _ _ h1, nms_same h2 e⟩
/-- a comprehension whose elements stand for f 0, f 1, .. -/
theorem lc_rel {A : Type} {Rl : Hp → V → A → Prop} (st : ∀ H H' v a, SameT H H' → Rl H v a → Rl H' v a) {J : It} {n : Nat} {G : Hp → Prop} {Y : Nat → Hp → V → Hp → Prop} (w : Walk J n G Y) (hY : ∀ i H x H', Y i H x H' → Same H H')
    {g : TG} {tt : TT} {te : TE} {vs : List Nat} {σ : L2.St} {H1 : Hp} {D : Addr} {Qd : Hp → Prop} (hG : ∀ H', Same H1 H' → G H') (hD : H1 D = none) (hn : n ≤ 100000) (f : Nat → A)
    (hs : ∀ i x H' H'' (R : V → Hp → Prop) (Pn : Hp → Prop), i < n → Same H1 H' → Y i H' x H'' → (∀ v H3, Same H'' H3 → Rl H3 v (f i) → R v H3) → g x (wipe σ vs) H'' fun σ2 H2 => wipe σ2 vs = wipe σ vs ∧ tt σ2 H2 fun b H3 => if b = true then te σ2 H3 R else Pn H3)
    (hd : ∀ H' ys, Same H1 H' → H' D = some (.lst ys) → Paired (Rl H') ys ((List.range n).map f) → Qd H') :
    ∃ W : Nat → Nat → Hp → Prop, (∃ m, W 0 m (upd H1 D (.lst []))) ∧ ∀ i m H, W i m H →
      (J.stop i H ∧ Qd H) ∨ (J.go i H ∧ ∃ Nx : Hp → Prop, (∀ H', Nx H' → ∃ m', m' < m ∧ W (i + 1) m' H') ∧ ∀ x H', J.yld i H x H' → g x (wipe σ vs) H' fun σ2 H2 => wipe σ2 vs = wipe σ vs ∧ tt σ2 H2 fun b H3 =>
        if b = true then te σ2 H3 fun y H4 => ∃ acc, H4 D = some (.lst acc) ∧ acc.length < sizeLine ∧ Nx (upd H4 D (.lst (acc ++ [y]))) else Nx H3) := by
  refine lc_it w (fun i H' => Same H1 H' ∧ ∃ ys, H' D = some (.lst ys) ∧ Paired (Rl H') ys ((List.range i).map f)) ⟨same_new hD, [], upd_same, .nil⟩ (fun i H' _ e => hG H' e.1) ?_ (fun H' e => ?_)
  · rintro i x H' H'' hi ⟨s1, ys, hD', hp⟩ hy
    have s2 := hY i H' x H'' hy
    refine hs i x H' H'' _ _ hi s1 hy fun v H3 s3 hv => ?_
    have hl := Paired.length hp
    rw [List.length_map, List.length_range] at hl
    have hD3 : H3 D = some (.lst ys) := s3 _ _ (s2 _ _ hD')
    refine ⟨ys, hD3, szl (by omega), Same.mut (s1.trans (s2.trans s3)) hD, ys ++ [v], upd_same, ?_⟩
    rw [List.range_succ, List.map_append]
    exact paired_snoc (Paired.mapP hp fun _ _ q => st _ _ _ _ ((Same.t (s2.trans s3)).trans (SameT.lst hD3)) q) (st _ _ _ _ (SameT.lst hD3) hv)
  · obtain ⟨s1, ys, hD', hp⟩ := e
    exact hd H' ys s1 hD' hp
theorem yat_same {xs : List V} : ∀ i H x H', YAt xs i H x H' → Same H H' := fun i H x H' y => by
  obtain ⟨rfl, _⟩ := y
  exact Same.refl _
theorem yfn_same {f : Nat → V} : ∀ i H x H', YFn f i H x H' → Same H H' := fun i H x H' y => by
  obtain ⟨rfl, _⟩ := y
  exact Same.refl _
theorem ypair_same {xs ys : Nat → Option V} : ∀ i H x H', YPair xs ys i H x H' → Same H H' := fun i H x H' y => by
  obtain ⟨T, x, y, _, h, rfl, _⟩ := y
  exact same_new h
theorem ixN_nat {n i : Nat} (h : i < n) : ixN n (i : Int) = some i := by
  unfold ixN
  rw [if_pos (Int.natCast_nonneg i), if_pos (by omega)]
  simp
theorem yesR {te : TE} {σ : L2.St} {R : V → Hp → Prop} {Pn : Hp → Prop} (h : te σ H R) : tYes σ H (fun b H3 => if b = true then te σ H3 R else Pn H3) := by
  show (if true = true then te σ H R else Pn H)
  rw [if_pos rfl]
  exact h
/-! ### tables -/
def rowI (c : Nat) (d : Int) : List Int := List.replicate c 0 ++ [d]
theorem rowI_len {c : Nat} {d : Int} : (rowI c d).length = c + 1 := by simp [rowI]
def Rests (K : PySem.W.Frag) (H : Hp) (ra : Addr) (c : Nat) (l : Option Int) : Prop := match l with
  | none => SqL K H ra []
  | some d => ∃ t rt, SqL K H ra [.ref t] ∧ SqT K H t [.int 0, .int 1, .ref rt] ∧ RwA K H rt (rowI c d)
theorem Rests.same {ra : Addr} {c : Nat} {l : Option Int} (h : Rests K H ra c l) (e : Same H H') : Rests K H' ra c l := by
  cases l with
  | none => exact e.seq h
  | some d =>
    obtain ⟨t, rt, h1, h2, h3⟩ := h
    exact ⟨t, rt, e.seq h1, Same.sqT e h2, h3.same e⟩
/-- what cross, of_ways, first_fault lean on -/
def TbR (K : PySem.W.Frag) (H : Hp) (a : Addr) (c : Nat) (l : Option Int) : Prop := ∃ dx fs ra, H a = some (.ins (cT K) dx fs) ∧ fs.lookup ("width" : Str) = some (.int ((c + 1 : Nat) : Int)) ∧ fs.lookup ("count" : Str) = some (.int c) ∧ fs.lookup ("rests" : Str) = some (.ref ra) ∧
  fs.lookup ("cross" : Str) = none ∧ fs.lookup ("of_ways" : Str) = none ∧ Rests K H ra c l
theorem TbR.same {a : Addr} {c : Nat} {l : Option Int} (h : TbR K H a c l) (e : Same H H') : TbR K H' a c l := by
  obtain ⟨dx, fs, ra, h1, h2, h3, h4, h5, h6, h7⟩ := h
  exact ⟨dx, fs, ra, e _ _ h1, h2, h3, h4, h5, h6, h7.same e⟩
/-- what is left of two ways, the lesser first -/
def owI (c : Nat) (l : Option Int) (i j : Int) : List Int := match l with
  | some d => if i = 0 ∧ j = 1 then rowI c d else List.replicate (c + 1) 0
  | none => List.replicate (c + 1) 0
theorem owI_len {c : Nat} {l : Option Int} {i j : Int} : (owI c l i j).length = c + 1 := by
  unfold owI
  cases l with
  | none => simp
  | some d =>
    dsimp only
    split
    · exact rowI_len
    · simp
def Leavs (K : PySem.W.Frag) (H : Hp) (la : Addr) (c : Nat) (l : Option Int) : Prop := match l with
  | none => SqT K H la []
  | some d => ∃ t rt xs, SqT K H la [.ref t] ∧ SqT K H t [.int 0, .int 1, .ref rt] ∧ SqT K H rt xs ∧ Paired (Nm K H) xs (rowI c d)
theorem Leavs.same {la : Addr} {c : Nat} {l : Option Int} (h : Leavs K H la c l) (e : Same H H') : Leavs K H' la c l := by
  cases l with
  | none => exact Same.sqT e h
  | some d =>
    obtain ⟨t, rt, xs, h1, h2, h3, h4⟩ := h
    exact ⟨t, rt, xs, Same.sqT e h1, Same.sqT e h2, Same.sqT e h3, nms_same h4 e⟩
def tfl (c : Nat) (la ra : Addr) : List (Str × V) := putF "fault" .non (putF "rests" (.ref ra) (putF "leavings" (.ref la) (putF "width" (.int ((c + 1 : Nat) : Int)) (putF "count" (.int c) []))))
def TbF (K : PySem.W.Frag) (H : Hp) (a : Addr) (c : Nat) (l : Option Int) : Prop := ∃ dx la ra, H a = some (.ins (cT K) dx (tfl c la ra)) ∧ Leavs K H la c l ∧ Rests K H ra c l
theorem TbF.same {a : Addr} {c : Nat} {l : Option Int} (h : TbF K H a c l) (e : Same H H') : TbF K H' a c l := by
  obtain ⟨dx, la, ra, h1, h2, h3⟩ := h
  exact ⟨dx, la, ra, e _ _ h1, h2.same e, h3.same e⟩
theorem putF_len (f : Str) (v : V) : ∀ fs : List (Str × V), (putF f v fs).length ≤ fs.length + 1
  | [] => Nat.le_refl _
  | (g, x) :: r => by
    unfold putF
    split
    · simp
    · simp only [List.length_cons]
      have := putF_len f v r
      omega
theorem tfl_count {c : Nat} {la ra : Addr} : (tfl c la ra).lookup ("count" : Str) = some (.int c) := by
  unfold tfl
  rw [lookup_putF, if_neg (by decide +kernel), lookup_putF, if_neg (by decide +kernel), lookup_putF, if_neg (by decide +kernel), lookup_putF, if_neg (by decide +kernel), lookup_putF, if_pos rfl]
theorem tfl_width {c : Nat} {la ra : Addr} : (tfl c la ra).lookup ("width" : Str) = some (.int ((c + 1 : Nat) : Int)) := by
  unfold tfl
  rw [lookup_putF, if_neg (by decide +kernel), lookup_putF, if_neg (by decide +kernel), lookup_putF, if_neg (by decide +kernel), lookup_putF, if_pos rfl]
theorem tfl_leavings {c : Nat} {la ra : Addr} : (tfl c la ra).lookup ("leavings" : Str) = some (.ref la) := by
  unfold tfl
  rw [lookup_putF, if_neg (by decide +kernel), lookup_putF, if_neg (by decide +kernel), lookup_putF, if_pos rfl]
theorem tfl_rests {c : Nat} {la ra : Addr} : (tfl c la ra).lookup ("rests" : Str) = some (.ref ra) := by
  unfold tfl
  rw [lookup_putF, if_neg (by decide +kernel), lookup_putF, if_pos rfl]
theorem tfl_fault {c : Nat} {la ra : Addr} : (tfl c la ra).lookup ("fault" : Str) = some .non := by
  unfold tfl
  rw [lookup_putF, if_pos rfl]
theorem tfl_no {c : Nat} {la ra : Addr} {m : Str} (h1 : ¬ m = "fault") (h2 : ¬ m = "rests") (h3 : ¬ m = "leavings") (h4 : ¬ m = "width") (h5 : ¬ m = "count") : (tfl c la ra).lookup m = none := by
  unfold tfl
  rw [lookup_putF, if_neg h1, lookup_putF, if_neg h2, lookup_putF, if_neg h3, lookup_putF, if_neg h4, lookup_putF, if_neg h5]
  rfl
theorem TbF.r {a : Addr} {c : Nat} {l : Option Int} (h : TbF K H a c l) : TbR K H a c l := by
  obtain ⟨dx, la, ra, h1, h2, h3⟩ := h
  exact ⟨dx, _, ra, h1, tfl_width, tfl_count, tfl_rests, tfl_no (by decide +kernel) (by decide +kernel) (by decide +kernel) (by decide +kernel) (by decide +kernel), tfl_no (by decide +kernel) (by decide +kernel) (by decide +kernel) (by decide +kernel) (by decide +kernel), h3⟩
theorem Rests.list {ra : Addr} {c : Nat} {l : Option Int} (h : Rests K H ra c l) : ∃ xs, SqL K H ra xs ∧ xs.length ≤ 1 ∧ (xs = [] → l = none) ∧ ∀ x ∈ xs, ∃ d t rt, l = some d ∧ x = .ref t ∧ SqT K H t [.int 0, .int 1, .ref rt] ∧ RwA K H rt (rowI c d) := by
  cases l with
  | none => exact ⟨[], h, by simp, fun _ => rfl, fun x hx => nomatch hx⟩
  | some d =>
    obtain ⟨t, rt, h1, h2, h3⟩ := h
    refine ⟨[.ref t], h1, by simp, (fun z => nomatch z), fun x hx => ?_⟩
    have e := List.mem_singleton.mp hx
    subst e
    exact ⟨d, t, rt, rfl, rfl, h2, h3⟩
theorem at_get {xs : List V} {i : Nat} {v : V} (h : xs[i]? = some v) : atI xs (i : Int) = some v := atI_nat h
/-- a comprehension over one thing -/
theorem lc_one {J : It} {G : Hp → Prop} {Y : Nat → Hp → V → Hp → Prop} (w : Walk J 1 G Y) {g : TG} {tt : TT} {te : TE} {vs : List Nat} {σ : L2.St} {H1 : Hp} {D : Addr} {Qd : Hp → Prop} (hG : G (upd H1 D (.lst [])))
    (hs : ∀ x H'' (R : V → Hp → Prop) (Pn : Hp → Prop), Y 0 (upd H1 D (.lst [])) x H'' → (∀ v H3, H3 D = some (.lst []) → G (upd H3 D (.lst [v])) → Qd (upd H3 D (.lst [v])) → R v H3) → (∀ H3, G H3 → Qd H3 → Pn H3) →
      g x (wipe σ vs) H'' fun σ2 H2 => wipe σ2 vs = wipe σ vs ∧ tt σ2 H2 fun b H3 => if b = true then te σ2 H3 R else Pn H3) :
    ∃ W : Nat → Nat → Hp → Prop, (∃ m, W 0 m (upd H1 D (.lst []))) ∧ ∀ i m H, W i m H →
      (J.stop i H ∧ Qd H) ∨ (J.go i H ∧ ∃ Nx : Hp → Prop, (∀ H', Nx H' → ∃ m', m' < m ∧ W (i + 1) m' H') ∧ ∀ x H', J.yld i H x H' → g x (wipe σ vs) H' fun σ2 H2 => wipe σ2 vs = wipe σ vs ∧ tt σ2 H2 fun b H3 =>
        if b = true then te σ2 H3 fun y H4 => ∃ acc, H4 D = some (.lst acc) ∧ acc.length < sizeLine ∧ Nx (upd H4 D (.lst (acc ++ [y]))) else Nx H3) := by
  refine lc_it w (fun i H' => G H' ∧ (i = 0 → H' = upd H1 D (.lst [])) ∧ (0 < i → Qd H')) ⟨hG, fun _ => rfl, fun z => absurd z (by decide)⟩ (fun i H' _ e => e.1) ?_ (fun H' e => e.2.2 (by decide))
  rintro i x H' H'' hi ⟨_, e0, _⟩ hy
  have hi0 : i = 0 := by omega
  subst hi0
  rw [e0 rfl] at hy
  exact hs x H'' _ _ hy (fun v H3 h3 g3 q => ⟨[], h3, by decide, g3, fun z => absurd z (by omega), fun _ => q⟩) fun H3 g3 q => ⟨g3, fun z => absurd z (by omega), fun _ => q⟩
/-- a comprehension over nothing -/
theorem lc_nil {J : It} {G : Hp → Prop} {Y : Nat → Hp → V → Hp → Prop} (w : Walk J 0 G Y) {g : TG} {tt : TT} {te : TE} {vs : List Nat} {σ : L2.St} {H1 : Hp} {D : Addr} {Qd : Hp → Prop} (hG : G (upd H1 D (.lst []))) (hd : Qd (upd H1 D (.lst []))) :
    ∃ W : Nat → Nat → Hp → Prop, (∃ m, W 0 m (upd H1 D (.lst []))) ∧ ∀ i m H, W i m H →
      (J.stop i H ∧ Qd H) ∨ (J.go i H ∧ ∃ Nx : Hp → Prop, (∀ H', Nx H' → ∃ m', m' < m ∧ W (i + 1) m' H') ∧ ∀ x H', J.yld i H x H' → g x (wipe σ vs) H' fun σ2 H2 => wipe σ2 vs = wipe σ vs ∧ tt σ2 H2 fun b H3 =>
        if b = true then te σ2 H3 fun y H4 => ∃ acc, H4 D = some (.lst acc) ∧ acc.length < sizeLine ∧ Nx (upd H4 D (.lst (acc ++ [y]))) else Nx H3) :=
  lc_it w (fun i H' => H' = upd H1 D (.lst [])) rfl (fun i H' _ e => by rw [e]; exact hG) (fun i x H' H'' hi _ _ => absurd hi (Nat.not_lt_zero _)) (fun H' e => by rw [e]; exact hd)
/-- what a table is made of -/
def LvIn (K : PySem.W.Frag) (H : Hp) (lv : Addr) (c : Nat) (l : Option Int) : Prop := match l with
  | none => SqL K H lv []
  | some d => 2 ≤ c ∧ d ≠ 0 ∧ ∃ t rt, SqL K H lv [.ref t] ∧ SqT K H t [.int 0, .int 1, .ref rt] ∧ RwA K H rt (rowI c d)
theorem LvIn.list {lv : Addr} {c : Nat} {l : Option Int} (h : LvIn K H lv c l) : ∃ xs, SqL K H lv xs ∧ xs.length ≤ 1 ∧ (xs = [] → l = none) ∧ ∀ x ∈ xs, ∃ d t rt, l = some d ∧ 2 ≤ c ∧ d ≠ 0 ∧ x = .ref t ∧ SqT K H t [.int 0, .int 1, .ref rt] ∧ RwA K H rt (rowI c d) := by
  cases l with
  | none => exact ⟨[], h, by simp, fun _ => rfl, fun x hx => nomatch hx⟩
  | some d =>
    obtain ⟨h0, h00, t, rt, h1, h2, h3⟩ := h
    refine ⟨[.ref t], h1, by simp, (fun z => nomatch z), fun x hx => ?_⟩
    have e := List.mem_singleton.mp hx
    subst e
    exact ⟨d, t, rt, rfl, h0, h00, rfl, h2, h3⟩
/-- all but a stands -/
def Keep (a : Addr) (H H' : Hp) : Prop := ∀ b o, H b = some o → b ≠ a → H' b = some o
theorem Keep.of {a : Addr} (e : Same H H') : Keep a H H' := fun b o h _ => e b o h
theorem Keep.trans {a : Addr} (e : Keep a H H') (e' : Keep a H' H'') : Keep a H H'' := fun b o h n => e' b o (e b o h n) n
theorem Keep.new {a p : Addr} {o : HO} (e : Keep a H H') (h : H' p = none) : Keep a H (upd H' p o) := fun b u q n => by
  rw [upd_ne (ne_of_none (e b u q n) h)]
  exact e b u q n
theorem Keep.at {a : Addr} {o : HO} (e : Keep a H H') : Keep a H (upd H' a o) := fun b u q n => by
  rw [upd_ne n]
  exact e b u q n
theorem Keep.same {a : Addr} (e : Keep a H H') (e' : Same H' H'') : Keep a H H'' := fun b o h n => e' b o (e b o h n)
/-- a table's fields ahead of fault -/
def tf4 (c : Nat) (la ra : Addr) : List (Str × V) := putF "rests" (.ref ra) (putF "leavings" (.ref la) (putF "width" (.int ((c + 1 : Nat) : Int)) (putF "count" (.int c) [])))
theorem tf4_len {c : Nat} {la ra : Addr} : (tf4 c la ra).length < 1000 := by
  unfold tf4
  have h1 := putF_len ("count" : Str) (V.int c) []
  have h2 := putF_len ("width" : Str) (V.int ((c + 1 : Nat) : Int)) (putF "count" (.int c) [])
  have h3 := putF_len ("leavings" : Str) (V.ref la) (putF "width" (.int ((c + 1 : Nat) : Int)) (putF "count" (.int c) []))
  have h4 := putF_len ("rests" : Str) (V.ref ra) (putF "leavings" (.ref la) (putF "width" (.int ((c + 1 : Nat) : Int)) (putF "count" (.int c) [])))
  simp only [List.length_nil] at h1
  omega
theorem tf4_no {c : Nat} {la ra : Addr} {m : Str} (h2 : ¬ m = "rests") (h3 : ¬ m = "leavings") (h4 : ¬ m = "width") (h5 : ¬ m = "count") : (tf4 c la ra).lookup m = none := by
  unfold tf4
  rw [lookup_putF, if_neg h2, lookup_putF, if_neg h3, lookup_putF, if_neg h4, lookup_putF, if_neg h5]
  rfl
theorem tbR_of {a dx la ra : Addr} {c : Nat} {l : Option Int} (h : H a = some (.ins (cT K) dx (tf4 c la ra))) (hr : Rests K H ra c l) : TbR K H a c l := by
  refine ⟨dx, _, ra, h, ?_, ?_, ?_, tf4_no (by decide +kernel) (by decide +kernel) (by decide +kernel) (by decide +kernel), tf4_no (by decide +kernel) (by decide +kernel) (by decide +kernel) (by decide +kernel), hr⟩
  · unfold tf4
    rw [lookup_putF, if_neg (by decide +kernel), lookup_putF, if_neg (by decide +kernel), lookup_putF, if_pos rfl]
  · unfold tf4
    rw [lookup_putF, if_neg (by decide +kernel), lookup_putF, if_neg (by decide +kernel), lookup_putF, if_neg (by decide +kernel), lookup_putF, if_pos rfl]
  · unfold tf4
    rw [lookup_putF, if_pos rfl]
theorem upd_keep {x a : Addr} {o u w : HO} (h : H x = some o) (ha : H a = some u) (d : o ≠ u) : upd H a w x = some o := by
  rw [upd_ne (ne_of h ha d)]
  exact h
theorem rowI_all {c : Nat} {d : Int} (h : d ≠ 0) : ((rowI c d).all fun n => decide (n = 0)) = false := by
  rw [List.all_eq_false]
  exact ⟨d, by simp [rowI], by simp [h]⟩
theorem isKeys_one {k : List Key} {v : V} {bs : List Addr} (h : IsKeys H [(k, v)] bs) : ∃ b, bs = [b] ∧ H b = some (.tup (k.map kV)) := by
  cases h with
  | cons r t =>
    cases t
    exact ⟨_, rfl, r⟩
end
end Sw

/-! ## Rep2 -/
/-! words and sums -/
namespace Sw
open PySem PySem.Spec PyProof.Rows L2
open C8 (Cal Met Mak pe_c pe_mk pe_mt pe_mt0 pe_gc)
section
variable {X : Cx}
theorem pe_never {e : Expr} : PE X e (fun _ _ _ => False) := ⟨fun _ _ _ _ _ _ h => h.elim⟩
/-- t >= u of what reads as alike data -/
def rGeD (K : PySem.W.Frag) : R2 := fun x y H Q => ∃ d e, Dp K H x d ∧ Dp K H y e ∧ PySem.W.alike d e = true ∧ d ≠ .none ∧ min d.depth e.depth ≤ 8 ∧ Q (.bl (!PySem.W.dataLt d e)) H
theorem op_geDat (hu : X.A.units + 64 < cLine) : OpR X (compareOp .GtE) (rGeD X.K) := by
  intro pins s σ H x y v u Q I rx ry h
  obtain ⟨d, e, hd, he, hal, hn, hdp, q⟩ := h
  obtain ⟨as, ra⟩ := Dp.reads I d x v hd rx
  obtain ⟨bs, rb⟩ := Dp.reads I e y u he ry
  exact PySem.W.ge_data ra rb hal hn (by omega) ⟨.bl _, H, I, rfl, q⟩
end
section
variable {K : PySem.W.Frag} {H H' H'' : Hp}
def keyD : Key → PyData
  | .inl i => .int i
  | .inr z => .str z
def rankD (w : List Key) : PyData := .tuple [.int (w.length : Int), .tuple (w.map keyD)]
theorem dp_keys : ∀ w : List Key, DpAll K H (w.map kV) (w.map keyD)
  | [] => .nil
  | .inl i :: w => .cons (.int i) (dp_keys w)
  | .inr z :: w => .cons (.str z) (dp_keys w)
theorem dp_word {b : Addr} {w : List Key} (h : SqT K H b (w.map kV)) : Dp K H (.ref b) (.tuple (w.map keyD)) := .tup h (dp_keys w)
theorem dp_rank {b t : Addr} {w : List Key} (ht : SqT K H t [.int (w.length : Int), .ref b]) (h : SqT K H b (w.map kV)) : Dp K H (.ref t) (rankD w) := .tup ht (.cons (.int _) (.cons (dp_word h) .nil))
/-- a sum: a number, and perhaps one of the way 0 -/
def sumK (t : Int) : Option Int → List (List Key × Int)
  | none => [([], t)]
  | some d => [([], t), ([.inl 0], d)]
def TmR (K : PySem.W.Frag) (H : Hp) (v : V) (k : List Key × Int) : Prop := ∃ x b y, v = .ref x ∧ SqT K H x [.ref b, y] ∧ H b = some (.tup (k.1.map kV)) ∧ Nm K H y k.2
def SuR (K : PySem.W.Frag) (H : Hp) (a : Addr) (s : List (List Key × Int)) : Prop := ∃ xs, SqL K H a xs ∧ Paired (TmR K H) xs s
def KvR (K : PySem.W.Frag) (H : Hp) (p : List Key × V) (k : List Key × Int) : Prop := p.1 = k.1 ∧ Nm K H p.2 k.2
def DtR (K : PySem.W.Frag) (H : Hp) (q : Addr) (s : List (List Key × Int)) : Prop := ∃ kvs, H q = some (.dT kvs) ∧ Paired (KvR K H) kvs s
theorem TmR.t {v : V} {k : List Key × Int} (h : TmR K H v k) (e : SameT H H') : TmR K H' v k := by
  obtain ⟨x, b, y, rfl, h1, h2, h3⟩ := h
  exact ⟨x, b, y, rfl, sqT_t h1 e, e _ _ h2 rfl, Nm.t h3 e⟩
theorem TmR.same {v : V} {k : List Key × Int} (h : TmR K H v k) (e : Same H H') : TmR K H' v k := h.t (Same.t e)
theorem KvR.t {p : List Key × V} {k : List Key × Int} (h : KvR K H p k) (e : SameT H H') : KvR K H' p k := ⟨h.1, Nm.t h.2 e⟩
theorem SuR.same {a : Addr} {s : List (List Key × Int)} (h : SuR K H a s) (e : Same H H') : SuR K H' a s := by
  obtain ⟨xs, h1, h2⟩ := h
  exact ⟨xs, e.seq h1, Paired.mapP h2 fun _ _ q => TmR.same q e⟩
theorem DtR.same {q : Addr} {s : List (List Key × Int)} (h : DtR K H q s) (e : Same H H') : DtR K H' q s := by
  obtain ⟨xs, h1, h2⟩ := h
  exact ⟨xs, e _ _ h1, Paired.mapP h2 fun _ _ q => KvR.t q (Same.t e)⟩
theorem tm_of {xs : List V} {s : List (List Key × Int)} (h : Paired (TmR K H) xs s) {i : Nat} {x : V} (e : xs[i]? = some x) : ∃ k, s[i]? = some k ∧ TmR K H x k := paired_get h e
theorem tm_at {A B : Type} {G : A → B → Prop} {xs : List A} {ys : List B} (h : Paired G xs ys) {i : Nat} {y : B} (e : ys[i]? = some y) : ∃ x, xs[i]? = some x ∧ G x y := by
  induction h generalizing i with
  | nil => simp at e
  | cons r t ih =>
    cases i with
    | zero =>
      have e' := Option.some.inj e
      subst e'
      exact ⟨_, rfl, r⟩
    | succ j =>
      obtain ⟨x, h1, h2⟩ := ih (i := j) (by simpa using e)
      exact ⟨x, by simpa using h1, h2⟩
theorem kv_keys {kvs : List (List Key × V)} {s : List (List Key × Int)} (h : Paired (KvR K H) kvs s) : kvs.map (·.1) = s.map (·.1) := by
  induction h with
  | nil => rfl
  | cons r t ih => rw [List.map_cons, List.map_cons, ih, r.1]
theorem sumK_len {t : Int} {o : Option Int} : (sumK t o).length ≤ 2 := by cases o <;> simp [sumK]
theorem sumK_words {t : Int} {o : Option Int} : ∀ k ∈ sumK t o, k.1.length ≤ 1 ∧ ∀ y ∈ k.1, y = .inl 0 := by
  cases o <;> simp [sumK]
theorem sumK_nz {t : Int} {o : Option Int} (ht : t ≠ 0) (ho : ∀ d, o = some d → d ≠ 0) : ∀ k ∈ sumK t o, k.2 ≠ 0 := by
  cases o with
  | none => simp [sumK, ht]
  | some d => simp [sumK, ht, ho d rfl]
theorem sumK_keys {t : Int} {o : Option Int} : (sumK t o).map (·.1) = [[]] ∨ (sumK t o).map (·.1) = [[], [.inl 0]] := by
  cases o
  · exact .inl rfl
  · exact .inr rfl
theorem sumK_nd {t : Int} {o : Option Int} : ((sumK t o).map (·.1)).Nodup := by
  cases o <;> simp [sumK]
theorem sumK_sort {ks : List (List Key)} (h : ks = [[]] ∨ ks = [[], [.inl 0]]) : ks.Pairwise (fun k k' => PySem.W.dataLe false rankD k k' = true) ∧ PySem.W.AllAlike (ks.map rankD) ∧ PySem.W.Sortable (ks.map rankD) ∧ ∀ k ∈ ks, (rankD k).depth ≤ 8 := by
  rcases h with rfl | rfl
  · refine ⟨by simp, ?_, .inl ?_, ?_⟩
    · intro d hd d' hd'
      simp only [List.map_cons, List.map_nil, List.mem_singleton] at hd hd'
      subst hd hd'
      rfl
    · intro d hd
      simp only [List.map_cons, List.map_nil, List.mem_singleton] at hd
      exact ⟨_, _, hd⟩
    · intro k hk
      rw [List.mem_singleton.mp hk]
      decide +kernel
  · refine ⟨?_, ?_, .inl ?_, ?_⟩
    · refine List.pairwise_cons.mpr ⟨fun k hk => ?_, by simp⟩
      rw [List.mem_singleton.mp hk]
      decide +kernel
    · intro d hd d' hd'
      simp only [List.map_cons, List.map_nil, List.mem_cons, List.not_mem_nil, or_false] at hd hd'
      rcases hd with rfl | rfl <;> rcases hd' with rfl | rfl <;> decide +kernel
    · intro d hd
      simp only [List.map_cons, List.map_nil, List.mem_cons, List.not_mem_nil, or_false] at hd
      rcases hd with rfl | rfl
      · exact ⟨_, _, rfl⟩
      · exact ⟨_, _, rfl⟩
    · intro k hk
      simp only [List.mem_cons, List.not_mem_nil, or_false] at hk
      rcases hk with rfl | rfl <;> decide +kernel
/-- out of the lock -/
theorem lock_back {q : Addr} {od : Obj} {u : HO} (h : H q = some u) (e : Same (upd H q (.frz od u)) H') : Same H (upd H' q u) := fun b o hb => by
  by_cases hq : b = q
  · subst hq
    rw [upd_same, ← hb, h]
  · rw [upd_ne hq]
    exact e _ _ (by rw [upd_ne hq]; exact hb)
theorem Same.none {b : Addr} (e : Same H H') (h : H' b = none) : H b = none := by
  cases q : H b with
  | none => rfl
  | some o =>
    rw [e _ _ q] at h
    cases h
theorem Keep.none {a b : Addr} (e : Keep a H H') (n : b ≠ a) (h : H' b = none) : H b = none := by
  cases q : H b with
  | none => rfl
  | some o =>
    rw [e _ _ q n] at h
    cases h
theorem valV_nd {A : Type} [DecidableEq A] : ∀ {kvs : List (A × V)}, (kvs.map (·.1)).Nodup → ∀ {i : Nat} {k : A} {v : V}, kvs[i]? = some (k, v) → valV kvs k = some v
  | [], _, i, k, v, h => by simp at h
  | p :: r, hn, 0, k, v, h => by
    have e : p = (k, v) := Option.some.inj h
    subst e
    exact valV_pos rfl
  | p :: r, hn, i + 1, k, v, h => by
    have h' : r[i]? = some (k, v) := by simpa using h
    rw [List.map_cons, List.nodup_cons] at hn
    rw [valV_neg (fun e => hn.1 (e ▸ List.mem_map.mpr ⟨(k, v), List.mem_of_getElem? h', rfl⟩))]
    exact valV_nd hn.2 h'
theorem sums_pairs : ∀ {xs : List V} {s : List (List Key × Int)}, Paired (TmR K H) xs s → ∃ (ps : List Addr) (ks : List PK3), xs = ps.map V.ref ∧ PairsT K H ps ks ∧ Paired (KvR K H) (ks.map fun k => (k.1, k.2.2)) s
  | _, _, .nil => ⟨[], [], rfl, .nil, .nil⟩
  | _, y :: s, .cons h t => by
    obtain ⟨ps, ks, e, h1, h2⟩ := sums_pairs t
    obtain ⟨x, b, n, rfl, hx, hb, hn⟩ := h
    exact ⟨x :: ps, (y.1, b, n) :: ks, by rw [e]; rfl, .cons ⟨hx, hb⟩ h1, .cons ⟨rfl, hn⟩ h2⟩
/-- a comprehension that takes nothing -/
theorem lc_out {J : It} {n : Nat} {G : Hp → Prop} {Y : Nat → Hp → V → Hp → Prop} (w : Walk J n G Y) (hY : ∀ i H x H', Y i H x H' → Same H H')
    {g : TG} {tt : TT} {te : TE} {vs : List Nat} {σ : L2.St} {H1 : Hp} {D : Addr} {Qd : Hp → Prop} (hG : ∀ H', Same H1 H' → G H') (hD : H1 D = none)
    (hs : ∀ i x H' H'' (R : V → Hp → Prop) (Pn : Hp → Prop), i < n → Same H1 H' → Y i H' x H'' → (∀ H3, Same H'' H3 → Pn H3) → g x (wipe σ vs) H'' fun σ2 H2 => wipe σ2 vs = wipe σ vs ∧ tt σ2 H2 fun b H3 => if b = true then te σ2 H3 R else Pn H3)
    (hd : ∀ H', Same H1 H' → H' D = some (.lst []) → Qd H') :
    ∃ W : Nat → Nat → Hp → Prop, (∃ m, W 0 m (upd H1 D (.lst []))) ∧ ∀ i m H, W i m H →
      (J.stop i H ∧ Qd H) ∨ (J.go i H ∧ ∃ Nx : Hp → Prop, (∀ H', Nx H' → ∃ m', m' < m ∧ W (i + 1) m' H') ∧ ∀ x H', J.yld i H x H' → g x (wipe σ vs) H' fun σ2 H2 => wipe σ2 vs = wipe σ vs ∧ tt σ2 H2 fun b H3 =>
        if b = true then te σ2 H3 fun y H4 => ∃ acc, H4 D = some (.lst acc) ∧ acc.length < sizeLine ∧ Nx (upd H4 D (.lst (acc ++ [y]))) else Nx H3) := by
  refine lc_it w (fun i H' => Same H1 H' ∧ H' D = some (.lst [])) ⟨same_new hD, upd_same⟩ (fun i H' _ e => hG H' e.1) ?_ (fun H' e => hd H' e.1 e.2)
  rintro i x H' H'' hi ⟨s1, hD'⟩ hy
  have s2 := hY i H' x H'' hy
  exact hs i x H' H'' _ _ hi s1 hy fun H3 s3 => ⟨s1.trans (s2.trans s3), s3 _ _ (s2 _ _ hD')⟩
theorem ykeyT_same {kvs : List (List Key × V)} : ∀ (i : Nat) (H : Hp) (x : V) (H' : Hp), (H' = H ∧ ∃ (k : List Key) (v : V) (q : Addr), kvs[i]? = some (k, v) ∧ x = .ref q ∧ H q = some (.tup (k.map kV))) → Same H H' := fun i H x H' y => by
  obtain ⟨rfl, _⟩ := y
  exact Same.refl _
theorem ykey_same {kvs : List (Key × V)} : ∀ (i : Nat) (H : Hp) (x : V) (H' : Hp), (H' = H ∧ ∃ k v, kvs[i]? = some (k, v) ∧ x = kV k) → Same H H' := fun i H x H' y => by
  obtain ⟨rfl, _⟩ := y
  exact Same.refl _
theorem ystr_same {z : Str} : ∀ (i : Nat) (H : Hp) (v : V) (H' : Hp), (H' = H ∧ ∃ c, z.cps[i]? = some c ∧ v = V.str ⟨#[c]⟩) → Same H H' := fun i H x H' y => by
  obtain ⟨rfl, _⟩ := y
  exact Same.refl _
theorem Leavs.list {la : Addr} {c : Nat} {l : Option Int} (h : Leavs K H la c l) : ∃ xs, SqT K H la xs ∧ xs.length ≤ 1 ∧ (xs = [] ↔ l = none) ∧ ∀ x ∈ xs, ∃ d t rt rx, l = some d ∧ x = .ref t ∧ SqT K H t [.int 0, .int 1, .ref rt] ∧ SqT K H rt rx ∧ Paired (Nm K H) rx (rowI c d) := by
  cases l with
  | none => exact ⟨[], h, by simp, by simp, fun x hx => nomatch hx⟩
  | some d =>
    obtain ⟨t, rt, rx, h1, h2, h3, h4⟩ := h
    refine ⟨[.ref t], h1, by simp, by simp, fun x hx => ?_⟩
    have e := List.mem_singleton.mp hx
    subst e
    exact ⟨d, t, rt, rx, rfl, rfl, h2, h3, h4⟩
def tmD (k : List Key × Int) : PyData := .tuple [.tuple (k.1.map keyD), .tuple [.int k.2, .int 1]]
theorem dp_tm {v : V} {k : List Key × Int} (h : TmR K H v k) : Dp K H v (tmD k) := by
  obtain ⟨x, b, y, rfl, h1, h2, a, rfl, h3⟩ := h
  exact .tup h1 (.cons (dp_word (SqT.of h2)) (.cons (.tup h3 (.cons (.int _) (.cons (.int _) .nil))) .nil))
theorem dp_tms : ∀ {xs : List V} {s : List (List Key × Int)}, Paired (TmR K H) xs s → DpAll K H xs (s.map tmD)
  | _, _, .nil => .nil
  | _, _, .cons h t => .cons (dp_tm h) (dp_tms t)
theorem sumK_shaped {t : Int} {o : Option Int} : SeqAt.shaped (.list ((sumK t o).map tmD)) = true := by cases o <;> rfl
theorem sumK_ne {t : Int} {o : Option Int} : PyData.eqv (.list ((sumK t o).map tmD)) (.list []) = false := by cases o <;> rfl
/-- a new table: its lists are new -/
def RestsN (K : PySem.W.Frag) (H0 H : Hp) (ra : Addr) (c : Nat) (l : Option Int) : Prop := match l with
  | none => SqL K H ra []
  | some d => ∃ t rt, SqL K H ra [.ref t] ∧ SqT K H t [.int 0, .int 1, .ref rt] ∧ RwA K H rt (rowI c d) ∧ H0 rt = none
def TbN (K : PySem.W.Frag) (H0 H : Hp) (a : Addr) (c : Nat) (l : Option Int) : Prop := ∃ dx la ra, H a = some (.ins (cT K) dx (tfl c la ra)) ∧ Leavs K H la c l ∧ H0 ra = none ∧ RestsN K H0 H ra c l
theorem TbN.f {H0 : Hp} {a : Addr} {c : Nat} {l : Option Int} (h : TbN K H0 H a c l) : TbF K H a c l := by
  obtain ⟨dx, la, ra, h1, h2, _, h4⟩ := h
  refine ⟨dx, la, ra, h1, h2, ?_⟩
  cases l with
  | none => exact h4
  | some d =>
    obtain ⟨t, rt, h5, h6, h7, _⟩ := h4
    exact ⟨t, rt, h5, h6, h7⟩
theorem TbN.old {H0 H1 : Hp} {a : Addr} {c : Nat} {l : Option Int} (h : TbN K H1 H a c l) (e : ∀ b, H1 b = none → H0 b = none) : TbN K H0 H a c l := by
  obtain ⟨dx, la, ra, h1, h2, h3, h4⟩ := h
  refine ⟨dx, la, ra, h1, h2, e _ h3, ?_⟩
  cases l with
  | none => exact h4
  | some d =>
    obtain ⟨t, rt, h5, h6, h7, h8⟩ := h4
    exact ⟨t, rt, h5, h6, h7, e _ h8⟩
end
end Sw

/-! ## Rep3 -/
/-! texts by their signs -/
namespace Sw
open PySem PySem.Spec PyProof.Rows L2
abbrev SS (l : List Nat) : Str := SX.S l
def numZ (n : Int) : List Nat := if n < 0 then 45 :: TL.numL n.natAbs else TL.numL n.natAbs
theorem numZ_S (n : Int) : Str.ofString (toString n) = SS (numZ n) := by
  cases n with
  | ofNat m => exact (SX.num_S m).trans (by unfold numZ; rw [if_neg (by simp)]; rfl)
  | negSucc m =>
    unfold numZ
    rw [if_pos (Int.negSucc_lt_zero m)]
    refine TL.ext_tl ?_
    have e : toString (Int.negSucc m) = "-" ++ toString (((m + 1 : Nat)) : Int) := rfl
    rw [e, TL.tl_ofString, String.toList_append, List.map_append]
    have e2 := TL.tl_num (m + 1)
    rw [TL.tl_ofString] at e2
    rw [e2]
    rfl
theorem log_ok {n : Int} (h : n.natAbs < 2 ^ 64) : n.natAbs.log2 < 1920 := by
  by_cases h0 : n.natAbs = 0
  · rw [h0]
    decide
  · have := (Nat.log2_lt (k := 64) h0).mpr h
    omega
theorem l_dash : Str.ofString "-" = SS [45] := by decide +kernel
theorem l_e : Str.ofString "e" = SS [101] := by decide +kernel
theorem l_plus : Str.ofString "+" = SS [43] := by decide +kernel
theorem l_star : Str.ofString "*" = SS [42] := by decide +kernel
theorem l_blank : Str.ofString " " = SS [32] := by decide +kernel
theorem l_comma : Str.ofString "," = SS [44] := by decide +kernel
theorem l_eq : Str.ofString "=" = SS [61] := by decide +kernel
theorem l_dot : Str.ofString "." = SS [46] := by decide +kernel
theorem l_colon : Str.ofString ":" = SS [58] := by decide +kernel
theorem l_slash : Str.ofString "/" = SS [47] := by decide +kernel
theorem l_0 : Str.ofString "0" = SS [48] := by decide +kernel
theorem l_none : Str.ofString "" = SS [] := by decide +kernel
theorem cat_S (a b : List Nat) : SS a ++ SS b = SS (a ++ b) := SX.S_cat a b
theorem join1 (a y : List Nat) : Txt.join (SS a) [SS y] = SS y := SX.join_S a [y]
theorem join2 (a y z : List Nat) : Txt.join (SS a) [SS y, SS z] = SS (y ++ (a ++ z)) := SX.join_S a [y, z]
theorem len_S (a : List Nat) : (SS a).length = a.length := SX.S_len a
theorem numL_short {n : Nat} (h : n < 10 ^ 9) : (TL.numL n).length ≤ 9 := TL.numL_len (by decide) h
theorem numZ_short {n : Int} (h : n.natAbs < 10 ^ 9) : (numZ n).length ≤ 10 := by
  unfold numZ
  have := numL_short h
  split <;> simp <;> omega
/-- a table's text, a sum's text -/
def leafL : Option Int → List Nat
  | none => []
  | some d => [32, 48, 44, 49, 61] ++ (numZ d ++ [42, 101])
def tabL (c : Nat) (l : Option Int) : List Nat := TL.numL c ++ leafL l
def tailL : Option Int → List Nat
  | none => []
  | some d => [32] ++ (numZ d ++ [58, 48])
def sumL (t : Int) (o : Option Int) : List Nat := numZ t ++ [58, 101] ++ tailL o
def LOk (c : Nat) (l : Option Int) : Prop := 1 ≤ c ∧ c ≤ 3 ∧ ∀ d, l = some d → 2 ≤ c ∧ 1 ≤ d ∧ d ≤ 9
def SOk (t : Int) (o : Option Int) : Prop := 1 ≤ t ∧ t ≤ 1000000 ∧ ∀ d, o = some d → -9 ≤ d ∧ d ≤ -1
theorem room65 {k : Nat} {A : Around} (r : Room k A) : A.units + 65 < cLine := by
  have := r.un
  omega
theorem numL_head : ∀ (m n : Nat), n ≤ m → 0 < n → ∃ c r, TL.numL n = c :: r ∧ c ≠ 48
  | 0, n, h, h0 => absurd h0 (by omega)
  | m + 1, n, h, h0 => by
    by_cases h9 : n < 10
    · exact ⟨48 + n, [], TL.numL_lt h9, by omega⟩
    · obtain ⟨c, r, e, hc⟩ := numL_head m (n / 10) (by omega) (by omega)
      exact ⟨c, r ++ [48 + n % 10], by rw [TL.numL_step (by omega), e]; rfl, hc⟩
theorem str_ne {a b : List Nat} (h : a ≠ b) : ¬ (V.str (SS a) = V.str (SS b)) := fun e => h (SX.S_inj (by injection e))
theorem figs : (Str.ofString "0123456789").cps.toList = [48, 49, 50, 51, 52, 53, 54, 55, 56, 57] := by decide +kernel
theorem in_figs {c : Nat} (h : 48 ≤ c ∧ c ≤ 57) : c ∈ (Str.ofString "0123456789").cps.toList := by
  rw [figs]
  obtain ⟨h1, h2⟩ := h
  have e : c = 48 ∨ c = 49 ∨ c = 50 ∨ c = 51 ∨ c = 52 ∨ c = 53 ∨ c = 54 ∨ c = 55 ∨ c = 56 ∨ c = 57 := by omega
  rcases e with rfl | rfl | rfl | rfl | rfl | rfl | rfl | rfl | rfl | rfl <;> decide
theorem numL_int {n : Nat} (h : n < 10 ^ 9) : intText? (SS (TL.numL n)) = some (n : Int) := by
  have e := SX.int_S (a := TL.numL n) ?_ (TL.numL_ne n) (by have := numL_short h; omega)
  · rw [TL.numL_val] at e
    exact e
  · rw [List.all_eq_true]
    intro c hc
    have := TL.numL_digits n c hc
    simp [this.1, this.2]
theorem numZ_free {n : Int} {s : Nat} (h : s ≠ 45) (h2 : s < 48 ∨ 57 < s) : s ∉ numZ n := by
  unfold numZ
  split
  · intro hm
    rcases List.mem_cons.mp hm with e | hm
    · exact h e
    · exact TL.numL_free h2 hm
  · exact TL.numL_free h2
/-- a term's text -/
def termL (k : List Key × Int) : List Nat := numZ k.2 ++ ([58] ++ (if k.1 = [] then [101] else [48]))
theorem sumL_terms (t : Int) (o : Option Int) : sumL t o = TL.joinL [32] ((sumK t o).map termL) := by
  cases o with
  | none => simp [sumL, tailL, sumK, termL, TL.joinL]
  | some d => simp [sumL, tailL, sumK, termL, TL.joinL]
theorem termL_free {k : List Key × Int} : (32 : Nat) ∉ termL k := by
  unfold termL
  intro h
  rcases List.mem_append.mp h with h | h
  · exact numZ_free (by decide) (by decide) h
  · revert h
    split <;> decide
theorem sumL_split (t : Int) (o : Option Int) : Txt.split (SS (sumL t o)) (SS [32]) = ((sumK t o).map termL).map SS := by
  rw [SX.split_S (by simp) (by decide), sumL_terms, SX.spl_join]
  · cases o <;> simp [sumK]
  · intro p hp
    obtain ⟨k, _, rfl⟩ := List.mem_map.mp hp
    exact termL_free
theorem termL_part (k : List Key × Int) : Txt.partition (SS (termL k)) (SS [58]) = (SS (numZ k.2), SS [58], SS (if k.1 = [] then [101] else [48])) :=
  SX.partition_some (by simp) (SX.par_head (c := 58) (sep := []) _ (numZ_free (by decide) (by decide)))
theorem putK_new {A : Type} [DecidableEq A] {kvs : List (A × V)} {k : A} {v : V} (h : valV kvs k = none) : putK kvs k v = kvs ++ [(k, v)] := by
  unfold putK
  rw [valV_any, h]
  rfl
theorem upd_none {H : Hp} {p b : Addr} {o : HO} (h : upd H p o b = none) : H b = none := by
  by_cases e : b = p
  · subst e
    rw [upd_same] at h
    cases h
  · rw [upd_ne e] at h
    exact h
theorem valV_free {A : Type} [DecidableEq A] {kvs : List (A × V)} {k : A} (h : k ∉ kvs.map (·.1)) : valV kvs k = none := by
  cases e : valV kvs k with
  | none => rfl
  | some v => exact absurd (valV_in e) h
theorem tabL_split {c : Nat} {l : Option Int} : Txt.split (SS (tabL c l)) (SS [32]) = (match l with | none => [SS (TL.numL c)] | some d => [SS (TL.numL c), SS ([48, 44, 49, 61] ++ (numZ d ++ [42, 101]))]) := by
  have h1 : (32 : Nat) ∉ TL.numL c := TL.numL_free (by decide)
  rw [SX.split_S (by simp) (by decide)]
  cases l with
  | none =>
    have e : tabL c none = TL.joinL [32] [TL.numL c] := by simp [tabL, leafL, TL.joinL]
    rw [e, SX.spl_join (by simp)]
    · rfl
    · intro p hp
      rw [List.mem_singleton.mp hp]
      exact h1
  | some d =>
    have e : tabL c (some d) = TL.joinL [32] [TL.numL c, [48, 44, 49, 61] ++ (numZ d ++ [42, 101])] := by simp [tabL, leafL, TL.joinL]
    rw [e, SX.spl_join (by simp)]
    · rfl
    · intro p hp
      simp only [List.mem_cons, List.not_mem_nil, or_false] at hp
      rcases hp with rfl | rfl
      · exact h1
      · intro hm
        rcases List.mem_append.mp hm with hm | hm
        · revert hm
          decide
        · rcases List.mem_append.mp hm with hm | hm
          · exact numZ_free (by decide) (by decide) hm
          · revert hm
            decide
end Sw

/-! ## Rep4 -/
/-! lines by their words -/
namespace Sw
open PySem PySem.Spec PyProof.Rows L2
abbrev WT : List Nat := [116, 97, 98, 108, 101]
abbrev WS : List Nat := [115, 117, 109]
abbrev WM : List Nat := [109, 105, 120]
abbrev WD : List Nat := [100, 114, 111, 112]
abbrev WA : List Nat := [97, 108, 108]
abbrev WH : List Nat := [115, 104, 111, 119]
abbrev WR : List Nat := [114, 117, 108, 101]
abbrev WO : List Nat := [111, 102]
abbrev WU : List Nat := [117, 110, 100, 111]
def firsts : List (List Nat) := [WT, WS, WM, WD, WA, WH, WR, WO, WU]
def NameOk (n : List Nat) : Prop := 1 ≤ n.length ∧ n.length ≤ 8 ∧ ∀ c ∈ n, 97 ≤ c ∧ c ≤ 122
def SignOk (n : List Nat) : Prop := 1 ≤ n.length ∧ n.length ≤ 8 ∧ ∀ c ∈ n, 65 ≤ c ∧ c ≤ 90
def wV (ws : List (List Nat)) : List V := (ws.map SS).map V.str
theorem wV_cons (w : List Nat) (r : List (List Nat)) : wV (w :: r) = .str (SS w) :: wV r := rfl
theorem wV_len (ws : List (List Nat)) : (wV ws).length = ws.length := by simp [wV]
theorem wV_drop (ws : List (List Nat)) (k : Nat) : (wV ws).drop k = wV (ws.drop k) := by simp [wV]
theorem wV_take (ws : List (List Nat)) (k : Nat) : (wV ws).take k = wV (ws.take k) := by simp [wV]
theorem wV_flat (ws : List (List Nat)) : (wV ws).all flatV = true := by
  rw [List.all_eq_true]
  intro x hx
  obtain ⟨z, _, rfl⟩ := List.mem_map.mp hx
  rfl
theorem cutV_from (xs : List V) (k : Nat) : cutV xs (some (k : Int)) none = xs.drop k := by
  unfold cutV
  rw [HT.sIx_nat, HT.sIx_none]
  rcases Nat.le_total k xs.length with h | h
  · rw [Nat.min_eq_left h, List.take_of_length_le (by rw [List.length_drop]; omega)]
  · rw [Nat.min_eq_right h, List.drop_eq_nil_of_le h, List.drop_eq_nil_of_le (Nat.le_refl _)]
    simp
theorem cutV_to (xs : List V) (k : Nat) : cutV xs none (some (k : Int)) = xs.take k := by
  unfold cutV
  rw [HT.sIx_nat, HT.sIx_none]
  rcases Nat.le_total k xs.length with h | h
  · rw [Nat.min_eq_left h]
    simp
  · rw [Nat.min_eq_right h]
    simp [List.take_of_length_le h]
theorem cutV_23 {x y z : V} {r : List V} : cutV (x :: y :: z :: r) (some 2) (some 3) = [z] := by
  unfold cutV
  have e2 : HT.sIx (x :: y :: z :: r).length 0 (some (2 : Int)) = 2 := by
    have := HT.sIx_nat (x :: y :: z :: r).length 0 2
    simp at this
    simpa using this
  have e3 : HT.sIx (x :: y :: z :: r).length (x :: y :: z :: r).length (some (3 : Int)) = 3 := by
    have := HT.sIx_nat (x :: y :: z :: r).length (x :: y :: z :: r).length 3
    simp at this
    simpa using this
  rw [e2, e3]
  rfl
theorem inV_str {w : List Nat} {ws : List (List Nat)} : inV (.str (SS w)) (wV ws) = ws.any fun z => decide (z = w) := by
  unfold inV wV
  rw [List.map_map, List.any_map]
  congr 1
  funext z
  show eqV (V.str (SS z)) (V.str (SS w)) = decide (z = w)
  by_cases h : z = w
  · subst h
    simp [eqV]
  · have h2 : ¬ SS z = SS w := fun e => h (SX.S_inj e)
    simp [eqV, h, h2]
/-- which names, which signs a line looks for -/
def namesF : List (List Nat) → List (List Nat)
  | w :: r => if w = WS then (r.drop 1).take 1 else if w = WR then r else []
  | [] => []
def signsF : List (List Nat) → List (List Nat)
  | w :: r => if w = WO then r else if w = WM then [r.getD 1 [], r.getD 3 []] else []
  | [] => []
def twoF : List (List Nat) → List (List Nat)
  | w :: r => if w = WM then [r.getD 1 [], r.getD 3 []] else []
  | [] => []
theorem namesF_sum {a b : List Nat} {r : List (List Nat)} : namesF (WS :: a :: b :: r) = [b] := by simp [namesF]
theorem namesF_rule {r : List (List Nat)} : namesF (WR :: r) = r := by simp [namesF]
theorem namesF_no {w : List Nat} {r : List (List Nat)} (h : w ≠ WS) (h2 : w ≠ WR) : namesF (w :: r) = [] := by simp [namesF, h, h2]
theorem signsF_of {r : List (List Nat)} : signsF (WO :: r) = r := by simp [signsF]
theorem signsF_two {w : List Nat} {r : List (List Nat)} (h : w ≠ WO) : signsF (w :: r) = twoF (w :: r) := by simp [signsF, twoF, h]
theorem twoF_mix {a b c d : List Nat} : twoF [WM, a, b, c, d] = [b, d] := by simp [twoF]
theorem twoF_no {w : List Nat} {r : List (List Nat)} (h : w ≠ WM) : twoF (w :: r) = [] := by simp [twoF, h]
theorem two_of {A : Type} {r : List A} (h : 2 ≤ r.length) : ∃ a b t, r = a :: b :: t := by
  cases r with
  | nil => simp at h
  | cons a r =>
    cases r with
    | nil => simp at h
    | cons b t => exact ⟨a, b, t, rfl⟩
theorem four_of {A : Type} {r : List A} (h : r.length = 4) : ∃ a b c d, r = [a, b, c, d] := by
  obtain ⟨a, b, t, rfl⟩ := two_of (r := r) (by omega)
  obtain ⟨c, d, u, rfl⟩ := two_of (r := t) (by simp at h; omega)
  simp at h
  subst h
  exact ⟨a, b, c, d, rfl⟩
theorem sum_short {m : Nat} : ∀ {ys : List Str}, (∀ y ∈ ys, y.length ≤ m) → (ys.map (·.length)).sum ≤ m * ys.length
  | [], _ => by simp
  | y :: r, h => by
    have h1 := h y List.mem_cons_self
    have h2 := sum_short (ys := r) fun z hz => h z (List.mem_cons_of_mem _ hz)
    rw [List.map_cons, List.sum_cons, List.length_cons, Nat.mul_add]
    omega
theorem small_in {c : Nat} (h : 97 ≤ c ∧ c ≤ 122) : c ∈ (Str.ofString "abcdefghijklmnopqrstuvwxyz").cps.toList := by
  have e : (Str.ofString "abcdefghijklmnopqrstuvwxyz").cps.toList = (List.range 26).map (97 + ·) := by decide +kernel
  rw [e]
  exact List.mem_map.mpr ⟨c - 97, List.mem_range.mpr (by omega), by omega⟩
theorem capital_in {c : Nat} (h : 65 ≤ c ∧ c ≤ 90) : c ∈ (Str.ofString "ABCDEFGHIJKLMNOPQRSTUVWXYZ").cps.toList := by
  have e : (Str.ofString "ABCDEFGHIJKLMNOPQRSTUVWXYZ").cps.toList = (List.range 26).map (65 + ·) := by decide +kernel
  rw [e]
  exact List.mem_map.mpr ⟨c - 65, List.mem_range.mpr (by omega), by omega⟩
end Sw

/-! ## ZipLT -/
/-! zip of a list and a tuple, by the library's zip of any two iterators (wpAny_pyNext_zipD2_item, _end, zip_begins2) -/
namespace Sw
open PySem PySem.Spec PyProof.Rows L2 RZ

/-- what the walk yields: both hold what they held, a new pair at each turn -/
def ItzLT (K : PySem.W.Frag) (a b : Addr) (xs ys : List V) : It where
  go i H := (SqL K H a xs ∧ SqT K H b ys) ∧ i < min xs.length ys.length
  yld := YPair (fun i => xs[i]?) (fun i => ys[i]?)
  stop i H := (SqL K H a xs ∧ SqT K H b ys) ∧ i = min xs.length ys.length

theorem walk_zipLT {K : PySem.W.Frag} {a b : Addr} {xs ys : List V} {n : Nat} (hn : n = min xs.length ys.length) :
    Walk (ItzLT K a b xs ys) n (fun H => SqL K H a xs ∧ SqT K H b ys) (YPair (fun i => xs[i]?) (fun i => ys[i]?)) where
  goes := fun _ _ lt q => ⟨q, hn ▸ lt⟩
  stops := fun _ q => ⟨q, hn⟩
  yields := fun _ _ _ _ _ _ y => y

/-- the five cells of the zip, i turns gone -/
def ZipSt (a b z TI TO i1 i2 : Addr) (i : Nat) (h : Heap) : Prop :=
  (IsZip h z TI TO .none ∧ IsTupOf2 h TI (.ref i1) (.ref i2)) ∧ (∃ x y, IsTupOf2 h TO x y) ∧ h.IsListIter i1 a i ∧ h.IsTupleIter i2 b i

section
variable {a b z TI TO i1 i2 : Addr} {i : Nat} {h h' : Heap}
theorem each5 {p : Addr → Prop} : (∀ c ∈ [z, TI, TO, i1, i2], p c) ↔ p z ∧ p TI ∧ p TO ∧ p i1 ∧ p i2 := by
  simp only [List.forall_mem_cons, List.not_mem_nil, false_implies, implies_true, and_true]
theorem out5 {c : Addr} (n : c ∉ [z, TI, TO, i1, i2]) : c ≠ z ∧ c ≠ TI ∧ c ≠ TO ∧ c ≠ i1 ∧ c ≠ i2 := by
  simpa only [List.mem_cons, List.not_mem_nil, or_false, not_or] using n
theorem ZipSt.cells (t : ZipSt a b z TI TO i1 i2 i h) : ∀ c ∈ [z, TI, TO, i1, i2], ∃ o, h.get? c = some o ∧ ∀ v, o.data ≠ .cell v := by
  obtain ⟨⟨t1, t2⟩, ⟨x, y, t3⟩, ⟨p, t4, _, d4⟩, ⟨q, t5, _, d5⟩⟩ := t
  exact each5.mpr ⟨⟨_, t1, fun _ => nofun⟩, ⟨_, t2, fun _ => nofun⟩, ⟨_, t3, fun _ => nofun⟩, ⟨p, t4, fun _ e => nomatch d4.symm.trans e⟩, ⟨q, t5, fun _ e => nomatch d5.symm.trans e⟩⟩
theorem ZipSt.stay (t : ZipSt a b z TI TO i1 i2 i h) (k : ∀ c ∈ [z, TI, TO, i1, i2], ∀ o, h.get? c = some o → h'.get? c = some o) : ZipSt a b z TI TO i1 i2 i h' := by
  obtain ⟨k1, k2, k3, k4, k5⟩ := each5.mp k
  obtain ⟨⟨t1, t2⟩, ⟨x, y, t3⟩, t4, t5⟩ := t
  exact ⟨⟨k1 _ t1, k2 _ t2⟩, ⟨x, y, k3 _ t3⟩, t4.at k4, t5.at k5⟩
end

theorem turnLT {P : Program} {w : World} {K : PySem.W.Frag} {elts : List Expr} {kk : Nat} {tpos : Pos} {a b z TI TO i1 i2 : Addr} {xs ys : List V}
    (S : ZipSep2 z TI TO i1 i2 [i1, a] [i2, b]) (na : a ≠ i1) (nb : b ≠ i2) : Turn P w K (.Tuple elts kk tpos) (ItzLT K a b xs ys) [z, TI, TO, i1, i2] z (ZipSt a b z TI TO i1 i2) where
  mem := List.mem_cons_self
  obj := fun _ _ t => t.cells
  keep := fun _ _ _ t k => t.stay k
  self := fun _ _ _ _ _ t q => wpAny_pyIter_zip t.1.1 q
  item := fun X hP hw hK calm i pins s σ H E I far t g => by
    cases hP
    cases hw
    cases hK
    obtain ⟨⟨ga, gb⟩, lt⟩ := g
    obtain ⟨us, va, la, _⟩ := I.list ga
    obtain ⟨vs, vb, lb, _⟩ := I.tuple gb
    have na' := va.length
    have nb' := vb.length
    have hd := I.ok.hd calm
    have live := t.cells
    obtain ⟨⟨t1, t2⟩, ⟨x0, y0, t3⟩, t4, t5⟩ := t
    have D1 := Draws.list (prog := X.prog) (w := X.w) (A := X.A.in1) hd i1 a na us.toArray
    have D2 := Draws.tuple (prog := X.prog) (w := X.w) (A := X.A.in1) hd i2 b nb vs.toArray
    have s1 : s.heap.IsListIter i1 a i ∧ s.heap.IsList a us.toArray := ⟨t4, la.isList⟩
    have s2 : s.heap.IsTupleIter i2 b i ∧ s.heap.IsTuple b vs.toArray := ⟨t5, lb⟩
    have sz1 : us.toArray.size = xs.length := by rw [List.size_toArray, na']
    have sz2 : vs.toArray.size = ys.length := by rw [List.size_toArray, nb']
    refine wpAny_pyNext_zipD2_item S D1 D2 t1 t2 t3 s1 s2 (by omega) (by omega) fun u v h1 tk hu hv w1 w3 w4 w5 new size old => ⟨_, rfl, ?_⟩
    refine wpAny_letOwnedTupleGo_zip (s := { s with heap := h1, toks := tk }) w1 fun h2 y1 but => ?_
    -- what of the one side and the other
    obtain ⟨u', hu', ru⟩ := va.get (List.getElem?_eq_getElem (show i < xs.length by omega))
    obtain ⟨v', hv', rv⟩ := vb.get (List.getElem?_eq_getElem (show i < ys.length by omega))
    have eu : u' = u := Option.some.inj (hu'.symm.trans ((List.getElem?_toArray ..).symm.trans hu))
    have ev : v' = v := Option.some.inj (hv'.symm.trans ((List.getElem?_toArray ..).symm.trans hv))
    subst eu
    subst ev
    have zlt : z < s.heap.objs.size := Heap.lt_size t1
    have after : ∀ c o, c ≠ z → h1.get? c = some o → h2.get? c = some o := fun c o n e => (but.2 c n).trans e
    have pair : h2.get? s.heap.objs.size = some { cls := .type "tuple", data := .seq #[u', v'] } := after _ _ (Nat.ne_of_gt zlt) new
    have I2 := I.turnedNew (h' := h2) (t' := tk) (ch := [z, TI, TO, i1, i2]) (T := s.heap.objs.size) (ob := .tup [xs[i]'(by omega), ys[i]'(by omega)])
      (fun c o n e => by
        obtain ⟨n1, _, n3, n4, n5⟩ := out5 n
        exact after c o n1 (old c o n1 n3 n4 n5 e)) far (Nat.le_refl _) ⟨show 2 ≤ sizeLine by decide, [u', v'], .cons ru (.cons rv .nil), _, pair, rfl, _, rfl⟩
    refine ⟨.ref s.heap.objs.size, _, I2, rfl, ⟨_, _, _, rfl, I.hok.fresh (Nat.le_refl _), rfl, List.getElem?_eq_getElem _, List.getElem?_eq_getElem _⟩, ⟨⟨y1, ?_⟩, ⟨_, _, after _ _ S.TOz w3⟩, ?_, ?_⟩, fun c hc => ?_⟩
    · exact after _ _ S.TIz (old _ _ S.TIz S.TITO S.TIi1 S.TIi2 t2)
    · exact w4.1.at fun o => after i1 o S.zi1.symm
    · exact w5.1.at fun o => after i2 o S.zi2.symm
    · obtain ⟨o, e, _⟩ := live c hc
      rw [upd_ne (Nat.ne_of_lt (Heap.lt_size e)), (far c hc).1]
  done := fun X hP hw hK calm i pins s σ H E I far t g => by
    cases hP
    cases hw
    cases hK
    obtain ⟨⟨ga, gb⟩, e⟩ := g
    obtain ⟨us, va, la, _⟩ := I.list ga
    obtain ⟨vs, vb, lb, _⟩ := I.tuple gb
    have na' := va.length
    have nb' := vb.length
    have hd := I.ok.hd calm
    obtain ⟨⟨t1, t2⟩, ⟨x0, y0, t3⟩, t4, t5⟩ := t
    have D1 := Draws.list (prog := X.prog) (w := X.w) (A := X.A.in1) hd i1 a na us.toArray
    have D2 := Draws.tuple (prog := X.prog) (w := X.w) (A := X.A.in1) hd i2 b nb vs.toArray
    have s1 : s.heap.IsListIter i1 a i ∧ s.heap.IsList a us.toArray := ⟨t4, la.isList⟩
    have s2 : s.heap.IsTupleIter i2 b i ∧ s.heap.IsTuple b vs.toArray := ⟨t5, lb⟩
    have sz1 : us.toArray.size = xs.length := by rw [List.size_toArray, na']
    have sz2 : vs.toArray.size = ys.length := by rw [List.size_toArray, nb']
    refine wpAny_pyNext_zipD2_end S D1 D2 t1 t2 t3 s1 s2 (by omega) (by omega) (by omega) fun h1 tk old => ⟨rfl, ?_⟩
    refine I.turnedL (ch := [z, TI, TO, i1, i2]) (fun c o n q => ?_) far
    obtain ⟨n1, _, n3, n4, n5⟩ := out5 n
    exact old c o n1 n3 n4 n5 q

/-- the word of zip(e, e2), e a list and e2 a tuple -/
def iZipLT (K : PySem.W.Frag) (ta : TA) : TI := fun σ H R =>
  ta σ H fun vs H1 => ∃ a b xs ys, vs = [.ref a, .ref b] ∧ SqL K H1 a xs ∧ SqT K H1 b ys ∧ R (ItzLT K a b xs ys) H1

theorem pi_zipLT {X : Cx} {e e2 : Expr} {ta : TA} {p pos tpos : Pos} {elts : List Expr} {kk : Nat} (hg : Gl X "zip") (hm : X.mg "zip" = none) (ha : PA X [e, e2] ta)
    (hs : starEach [e, e2] X.env = (false, eval e X.env) :: starEach [e2] X.env := by rfl) (hpl : (backTo pos (starEach [e2] X.env)).any (·.1) = false := by rfl) :
    PI X (.Tuple elts kk tpos) (.Call (.Name "zip" p) [e, e2] [] pos) (iZipLT X.K ta) where
  run := fun pins s σ H R I q => by
    refine Call_ (ld_blt I hg hm PyProof.Rows.boot_zip (PyProof.Rows.callWith_type1 (thn (ha.run pos pins s σ H _ I q) ?_) hs hpl))
    intro us s1 hus
    obtain ⟨_, H1, I1, r, a, b, xs, ys, rfl, qa, qb, q1⟩ := hus
    obtain ⟨_, _, rfl, ra, rb⟩ := vals2 r
    cases ra
    cases rb
    obtain ⟨its, _, la, _⟩ := I1.list qa
    obtain ⟨its2, _, lb, _⟩ := I1.tuple qb
    have za : ∀ c ∈ [a], c < s1.heap.objs.size := fun c hc => by
      rw [List.mem_singleton.mp hc]
      exact la.lt
    have zb : ∀ c ∈ [b], c < s1.heap.objs.size := fun c hc => by
      rw [List.mem_singleton.mp hc]
      obtain ⟨_, e, _⟩ := id lb
      exact Heap.lt_size e
    refine zip_begins2 (begins_list a its.toArray) (begins_tuple b its2.toArray) la.isList lb fun h z1 z2 z3 z4 z5 size old => wpAny_pyIter_zip z1 ?_
    refine ⟨_, [s1.heap.objs.size + 4, s1.heap.objs.size + 2, s1.heap.objs.size + 3, s1.heap.objs.size, s1.heap.objs.size + 1], _, _, H1, rfl, I1.kept (t' := s1.toks) old,
      turnLT (zip_sep2 za zb) (Nat.ne_of_lt (za a List.mem_cons_self)) (Nat.ne_of_lt (Nat.lt_succ_of_lt (zb b List.mem_cons_self))),
      ⟨⟨z1, z2⟩, ⟨_, _, z3⟩, ⟨_, z4, rfl, rfl⟩, ⟨_, z5, rfl, rfl⟩⟩, ?_, q1⟩
    have fresh : ∀ c, s1.heap.objs.size ≤ c → FpOk X pins H1 c := fun c le => I1.fpOk le (I1.hok.fresh le)
    exact each5.mpr ⟨fresh _ (Nat.le_add_right _ _), fresh _ (Nat.le_add_right _ _), fresh _ (Nat.le_add_right _ _), fresh _ (Nat.le_refl _), fresh _ (Nat.le_add_right _ _)⟩
end Sw

/-! ## G1 -/
namespace Sw
open PySem PySem.Spec PyProof.Rows L2
open C8 (Cal Met Mak pe_c pe_mk pe_mt pe_mt0 pe_gc)
section
variable {P : Program} {w : World} {K : PySem.W.Frag} {mg : Str → Option Value} {base : Heap}
abbrev N_is_whole : List Str := ["one"]
abbrev s_is_whole : Stmt := sIsWhole
theorem sc_is_whole : FnScope N_is_whole ["one"] (defScope s_is_whole) := ⟨rfl, rfl, rfl, by decide +kernel, rfl, by decide +kernel, by decide +kernel⟩
def sp_is_whole (K : PySem.W.Frag) : Sp := fun vs H Q _ => ∃ i : Int, vs = [.int i] ∧ Q (.bl true) H
theorem ok_is_whole (T : Tx w K mg) : Cal P w K mg base 1 "is_whole" (sp_is_whole K) [] := by
  obtain ⟨fd, F, b⟩ := T.F_is_whole
  refine ⟨_, fd, _, [], F.ok sc_is_whole (fun vs H Q E h => ?_) (fun cdv A outer s H vs Q E hr h => ?_), T.g_is_whole, F.kp, b, .nil⟩
  · obtain ⟨i, rfl, _⟩ := h
    rfl
  · obtain ⟨i, rfl, k⟩ := h
    have hu := hu_of hr
    have nd := sc_is_whole.nd
    refine ⟨_, (pss_one (ps_ret (pe_and (pe_callB call_isi rfl T.m_isinstance (by decide +kernel) (pa_cons (pv 0) (pa_cons (pe_bltn (v := .ty "int") rfl T.m_int (by decide +kernel) rfl) pa_nil))) (pe_one (pe_not (pe_callB call_isi rfl T.m_isinstance (by decide +kernel) (pa_cons (pv 0) (pa_cons (pe_bltn (v := .ty "bool") rfl T.m_bool (by decide +kernel) rfl) pa_nil)))))))), ?_⟩
    refine ⟨_, rfl, _, _, _, _, _, rfl, .ty _, .base (.int _), kit_ty (r := true) (by decide +kernel), true, rfl, ifT rfl ?_⟩
    exact ⟨_, rfl, _, _, _, _, _, rfl, .ty _, .base (.int _), kit_ty (r := false) (by decide +kernel), false, rfl, k⟩
abbrev N_divisor : List Str := ["one", "other"]
abbrev s_divisor : Stmt := sDivisor
theorem sc_divisor : FnScope N_divisor ["one", "other"] (defScope s_divisor) := ⟨rfl, rfl, rfl, by decide +kernel, rfl, by decide +kernel, by decide +kernel⟩
def sp_divisor (K : PySem.W.Frag) : Sp := fun vs H Q _ => ∃ i : Int, vs = [.int i, .int 1] ∧ Q (.int 1) H
theorem ok_divisor (T : Tx w K mg) : Cal P w K mg base 1 "divisor" (sp_divisor K) [] := by
  obtain ⟨fd, F, b⟩ := T.F_divisor
  refine ⟨_, fd, _, [], F.ok sc_divisor (fun vs H Q E h => ?_) (fun cdv A outer s H vs Q E hr h => ?_), T.g_divisor, F.kp, b, .nil⟩
  · obtain ⟨i, rfl, _⟩ := h
    rfl
  · obtain ⟨i, rfl, k⟩ := h
    have hu := hu_of hr
    have nd := sc_divisor.nd
    refine ⟨_, (pss_cons (ps_set (i := 0) nd rfl (.inl rfl) (pe_callB call_abs rfl T.m_abs (by decide +kernel) (pa_cons (pv 0) pa_nil)))
      (pss_cons (ps_set (i := 1) nd rfl (.inl rfl) (pe_callB call_abs rfl T.m_abs (by decide +kernel) (pa_cons (pv 1) pa_nil)))
      (pss_cons (ps_while PassesOwn.never (pt_cmpR op_ne (pv 1) pe_int (nomark _)) (pss_one (ps_par (i := 0) (j := 1) rfl nd rfl rfl (by decide) rfl rfl (pa_cons (pv 1) (pa_cons (pe_op op_mod (pv 0) (pv 1)) pa_nil)) (by rfl))))
      (pss_one (ps_ret (pv 0)))))), ?_⟩
    refine ⟨_, rfl, _, rfl, _, rfl, _, rfl, ?_⟩
    refine while_by (fun σ H' => H' = H ∧ ∃ a b : Int, σ = [some (.int a), some (.int b)] ∧ (b = 1 ∨ (a = 1 ∧ b = 0))) (fun σ H' => match σ with | [_, some (.int b)] => b.toNat | _ => 0) ⟨rfl, _, _, rfl, .inl rfl⟩ ?_ ?_
    · rintro σ H' ⟨rfl, a, b, rfl, hab⟩
      refine ⟨_, rfl, rfl, _, rfl, ?_⟩
      rcases hab with rfl | ⟨rfl, rfl⟩
      · refine ifT rfl ?_
        refine ⟨_, rfl, _, rfl, _, rfl, _, _, rfl, rfl, (by show (0 : Int) < 1; decide), _, _, rfl, ?_⟩
        refine ⟨⟨rfl, _, _, rfl, .inr ⟨rfl, ?_⟩⟩, ?_⟩
        · exact Int.emod_one _
        · show (a % 1).toNat < (1 : Int).toNat
          rw [Int.emod_one]
          decide
      · refine ifF rfl ?_
        exact ⟨_, rfl, k⟩
    · intro σ H Q Q' m h
      obtain ⟨v, h1, h2, b, h3, h4⟩ := h
      exact ⟨v, h1, h2, b, h3, m _ _ h4⟩
abbrev N_is_number : List Str := ["one"]
abbrev s_is_number : Stmt := sIsNumber
theorem sc_is_number : FnScope N_is_number ["one"] (defScope s_is_number) := ⟨rfl, rfl, rfl, by decide +kernel, rfl, by decide +kernel, by decide +kernel⟩
def sp_is_number (K : PySem.W.Frag) : Sp := fun vs H Q _ => ∃ (x : V) (n : Int), vs = [x] ∧ Nm K H x n ∧ Q (.bl true) H
theorem ok_is_number (T : Tx w K mg) (c_is_whole : Cal P w K mg base 1 "is_whole" (sp_is_whole K) []) (c_divisor : Cal P w K mg base 1 "divisor" (sp_divisor K) []) : Cal P w K mg base 2 "is_number" (sp_is_number K) [] := by
  obtain ⟨fd, F, b⟩ := T.F_is_number
  refine ⟨_, fd, _, [], F.ok sc_is_number (fun vs H Q E h => ?_) (fun cdv A outer s H vs Q E hr h => ?_), T.g_is_number, F.kp, b, .nil⟩
  · obtain ⟨_, n, rfl, _⟩ := h
    rfl
  · obtain ⟨_, n, rfl, ⟨a, rfl, hx⟩, k⟩ := h
    have hu := hu_of hr
    have nd := sc_is_number.nd
    refine ⟨_, (pss_cons (ps_if (PW.pt (pw_or (pt_not (pt_val (pe_callB call_isi rfl T.m_isinstance (by decide +kernel) (pa_cons (pv 0) (pa_cons (pe_bltn (v := .ty "tuple") rfl T.m_tuple (by decide +kernel) rfl) pa_nil))))) (pw_or1 (pt_cmpR op_ne (pe_callB call_len_seq rfl T.m_len (by decide +kernel) (pa_cons (pv 0) pa_nil)) pe_int (nomark _))))) (pss_one (ps_ret pe_bl)) pss_nil)
      (pss_cons (ps_if (PW.pt (pw_or (pt_not (pt_val (pe_c c_is_whole hr (by decide) rfl (pa_cons (pe_ix ix_tup (pv 0) pe_int (fun _ _ => rfl)) pa_nil)))) (pw_or1 (pt_not (pt_val (pe_c c_is_whole hr (by decide) rfl (pa_cons (pe_ix ix_tup (pv 0) pe_int (fun _ _ => rfl)) pa_nil))))))) (pss_one (ps_ret pe_bl)) pss_nil)
      (pss_one (ps_ret (pe_and (pe_cmpR op_ge (pe_ix ix_tup (pv 0) pe_int (fun _ _ => rfl)) pe_int (nomark _)) (pe_one (pe_cmpR op_eq (pe_c c_divisor hr (by decide) rfl (pa_cons (pe_ix ix_tup (pv 0) pe_int (fun _ _ => rfl)) (pa_cons (pe_ix ix_tup (pv 0) pe_int (fun _ _ => rfl)) pa_nil))) pe_int (nomark _)))))))), ?_⟩
    refine ⟨_, rfl, _, _, _, _, _, rfl, .ty _, tyx_tup hx, kit_ty (r := true) (by decide +kernel), _, rfl, ifF rfl ?_⟩
    refine ⟨_, rfl, _, _, rfl, .inr hx, rfl, _, rfl, ifF rfl ?_⟩
    refine ⟨_, rfl, _, _, _, _, rfl, rfl, hx, rfl, _, rfl, _, rfl, ifF rfl ?_⟩
    refine ⟨_, rfl, _, _, _, _, rfl, rfl, hx, rfl, _, rfl, _, rfl, ifF rfl ?_⟩
    refine ⟨_, rfl, _, _, _, _, rfl, rfl, hx, rfl, _, _, rfl, rfl, _, rfl, ifT rfl ?_⟩
    exact ⟨_, rfl, _, _, _, _, rfl, rfl, hx, rfl, _, rfl, _, _, _, _, rfl, rfl, hx, rfl, _, rfl, rfl, k⟩
abbrev N_plus : List Str := ["one", "other"]
abbrev s_plus : Stmt := sPlus
theorem sc_plus : FnScope N_plus ["one", "other"] (defScope s_plus) := ⟨rfl, rfl, rfl, by decide +kernel, rfl, by decide +kernel, by decide +kernel⟩
def sp_plus (K : PySem.W.Frag) : Sp := fun vs H Q _ => ∃ (x y : V) (n m : Int), vs = [x, y] ∧ Nm K H x n ∧ Nm K H y m ∧ ∀ v H', Same H H' → Nm K H' v (n + m) → Q v H'
theorem ok_plus (T : Tx w K mg) : Cal P w K mg base 1 "plus" (sp_plus K) [] := by
  obtain ⟨fd, F, b⟩ := T.F_plus
  refine ⟨_, fd, _, [], F.ok sc_plus (fun vs H Q E h => ?_) (fun cdv A outer s H vs Q E hr h => ?_), T.g_plus, F.kp, b, .nil⟩
  · obtain ⟨_, _, n, m, rfl, _⟩ := h
    rfl
  · obtain ⟨_, _, n, m, rfl, ⟨a, rfl, hx⟩, ⟨b, rfl, hy⟩, k⟩ := h
    have hu := hu_of hr
    have nd := sc_plus.nd
    refine ⟨_, (pss_cons (ps_if (PW.pt (pw_and (pt_cmpR op_eq (pe_ix ix_tup (pv 0) pe_int (fun _ _ => rfl)) pe_int (nomark _)) (pw_and1 (pt_cmpR op_eq (pe_ix ix_tup (pv 1) pe_int (fun _ _ => rfl)) pe_int (nomark _))))) (pss_one (ps_ret (pe_tup (pa_cons (pe_op op_add (pe_ix ix_tup (pv 0) pe_int (fun _ _ => rfl)) (pe_ix ix_tup (pv 1) pe_int (fun _ _ => rfl))) (pa_cons pe_int pa_nil))))) pss_nil)
      (pss_one ps_never)), ?_⟩
    refine ⟨_, rfl, _, _, _, _, rfl, rfl, hx, rfl, rfl, _, rfl, ifT rfl ?_⟩
    refine ⟨_, rfl, _, _, _, _, rfl, rfl, hy, rfl, rfl, _, rfl, ifT rfl ?_⟩
    refine ⟨_, rfl, _, _, _, _, rfl, rfl, hx, rfl, _, rfl, _, _, _, _, rfl, rfl, hy, rfl, _, _, rfl, rfl, sz2, fun p hp => ?_⟩
    exact k _ _ (same_new hp) Nm.new
abbrev N_contrary : List Str := ["one"]
abbrev s_contrary : Stmt := sContrary
theorem sc_contrary : FnScope N_contrary ["one"] (defScope s_contrary) := ⟨rfl, rfl, rfl, by decide +kernel, rfl, by decide +kernel, by decide +kernel⟩
def sp_contrary (K : PySem.W.Frag) : Sp := fun vs H Q _ => ∃ (x : V) (n : Int), vs = [x] ∧ Nm K H x n ∧ ∀ v H', Same H H' → Nm K H' v (-n) → Q v H'
theorem ok_contrary (T : Tx w K mg) : Cal P w K mg base 1 "contrary" (sp_contrary K) [] := by
  obtain ⟨fd, F, b⟩ := T.F_contrary
  refine ⟨_, fd, _, [], F.ok sc_contrary (fun vs H Q E h => ?_) (fun cdv A outer s H vs Q E hr h => ?_), T.g_contrary, F.kp, b, .nil⟩
  · obtain ⟨_, n, rfl, _⟩ := h
    rfl
  · obtain ⟨_, n, rfl, ⟨a, rfl, hx⟩, k⟩ := h
    have hu := hu_of hr
    have nd := sc_contrary.nd
    refine ⟨_, (pss_one (ps_ret (pe_tup (pa_cons (pe_un un_neg (pe_ix ix_tup (pv 0) pe_int (fun _ _ => rfl))) (pa_cons (pe_ix ix_tup (pv 0) pe_int (fun _ _ => rfl)) pa_nil))))), ?_⟩
    refine ⟨_, rfl, _, _, _, _, rfl, rfl, hx, rfl, _, rfl, _, rfl, _, _, _, _, rfl, rfl, hx, rfl, sz2, fun p hp => ?_⟩
    exact k _ _ (same_new hp) Nm.new
abbrev N_less : List Str := ["one", "other"]
abbrev s_less : Stmt := sLess
theorem sc_less : FnScope N_less ["one", "other"] (defScope s_less) := ⟨rfl, rfl, rfl, by decide +kernel, rfl, by decide +kernel, by decide +kernel⟩
def sp_less (K : PySem.W.Frag) : Sp := fun vs H Q _ => ∃ (x y : V) (n m : Int), vs = [x, y] ∧ Nm K H x n ∧ Nm K H y m ∧ ∀ v H', Same H H' → Nm K H' v (n - m) → Q v H'
theorem ok_less (T : Tx w K mg) (c_contrary : Cal P w K mg base 1 "contrary" (sp_contrary K) []) (c_plus : Cal P w K mg base 1 "plus" (sp_plus K) []) : Cal P w K mg base 2 "less" (sp_less K) [] := by
  obtain ⟨fd, F, b⟩ := T.F_less
  refine ⟨_, fd, _, [], F.ok sc_less (fun vs H Q E h => ?_) (fun cdv A outer s H vs Q E hr h => ?_), T.g_less, F.kp, b, .nil⟩
  · obtain ⟨_, _, n, m, rfl, _⟩ := h
    rfl
  · obtain ⟨_, _, n, m, rfl, ⟨a, rfl, hx⟩, ⟨b, rfl, hy⟩, k⟩ := h
    have hu := hu_of hr
    have nd := sc_less.nd
    refine ⟨_, (pss_one (ps_ret (pe_c c_plus hr (by decide) rfl (pa_cons (pv 0) (pa_cons (pe_c c_contrary hr (by decide) rfl (pa_cons (pv 1) pa_nil)) pa_nil))))), ?_⟩
    refine ⟨_, rfl, _, rfl, _, _, rfl, ⟨b, rfl, hy⟩, fun v H1 s1 h1 => ?_⟩
    refine ⟨_, _, _, _, rfl, Nm.same ⟨a, rfl, hx⟩ s1, h1, fun v2 H2 s2 h2 => ?_⟩
    exact k _ _ (s1.trans s2) (by rw [Int.sub_eq_add_neg]; exact h2)
abbrev N_times : List Str := ["one", "other"]
abbrev s_times : Stmt := sTimes
theorem sc_times : FnScope N_times ["one", "other"] (defScope s_times) := ⟨rfl, rfl, rfl, by decide +kernel, rfl, by decide +kernel, by decide +kernel⟩
def sp_times (K : PySem.W.Frag) : Sp := fun vs H Q _ => ∃ (x y : V) (n m : Int), vs = [x, y] ∧ Nm K H x n ∧ Nm K H y m ∧ (-(2 ^ 64) < n ∧ n < 2 ^ 64) ∧ ∀ v H', Same H H' → Nm K H' v (n * m) → Q v H'
theorem ok_times (T : Tx w K mg) : Cal P w K mg base 1 "times" (sp_times K) [] := by
  obtain ⟨fd, F, b⟩ := T.F_times
  refine ⟨_, fd, _, [], F.ok sc_times (fun vs H Q E h => ?_) (fun cdv A outer s H vs Q E hr h => ?_), T.g_times, F.kp, b, .nil⟩
  · obtain ⟨_, _, n, m, rfl, _⟩ := h
    rfl
  · obtain ⟨_, _, n, m, rfl, ⟨a, rfl, hx⟩, ⟨b, rfl, hy⟩, hn, k⟩ := h
    have hu := hu_of hr
    have nd := sc_times.nd
    refine ⟨_, (pss_cons (ps_if (PW.pt (pw_and (pt_cmpR op_eq (pe_ix ix_tup (pv 0) pe_int (fun _ _ => rfl)) pe_int (nomark _)) (pw_and1 (pt_cmpR op_eq (pe_ix ix_tup (pv 1) pe_int (fun _ _ => rfl)) pe_int (nomark _))))) (pss_one (ps_ret (pe_tup (pa_cons (pe_op op_mul (pe_ix ix_tup (pv 0) pe_int (fun _ _ => rfl)) (pe_ix ix_tup (pv 1) pe_int (fun _ _ => rfl))) (pa_cons pe_int pa_nil))))) pss_nil)
      (pss_one ps_never)), ?_⟩
    refine ⟨_, rfl, _, _, _, _, rfl, rfl, hx, rfl, rfl, _, rfl, ifT rfl ?_⟩
    refine ⟨_, rfl, _, _, _, _, rfl, rfl, hy, rfl, rfl, _, rfl, ifT rfl ?_⟩
    refine ⟨_, rfl, _, _, _, _, rfl, rfl, hx, rfl, _, rfl, _, _, _, _, rfl, rfl, hy, rfl, _, _, rfl, rfl, .inl hn, sz2, fun p hp => ?_⟩
    exact k _ _ (same_new hp) Nm.new
end
end Sw

/-! ## G2 -/
namespace Sw
open PySem PySem.Spec PyProof.Rows L2
open C8 (Cal Met Mak pe_c pe_mk pe_mt pe_mt0 pe_gc)
section
variable {P : Program} {w : World} {K : PySem.W.Frag} {mg : Str → Option Value} {base : Heap}
abbrev N_is_row : List Str := ["row", "width", "one"]
abbrev s_is_row : Stmt := sIsRow
theorem sc_is_row : FnScope N_is_row ["row", "width"] (defScope s_is_row) := ⟨rfl, rfl, rfl, by decide +kernel, rfl, by decide +kernel, by decide +kernel⟩
def sp_is_row (K : PySem.W.Frag) : Sp := fun vs H Q _ => ∃ (a : Addr) (ns : List Int), vs = [.ref a, .int ns.length] ∧ RwA K H a ns ∧ Q (.bl true) H
theorem ok_is_row (T : Tx w K mg) (c_is_number : Cal P w K mg base 2 "is_number" (sp_is_number K) []) : Cal P w K mg base 3 "is_row" (sp_is_row K) [] := by
  obtain ⟨fd, F, b⟩ := T.F_is_row
  refine ⟨_, fd, _, [], F.ok sc_is_row (fun vs H Q E h => ?_) (fun cdv A outer s H vs Q E hr h => ?_), T.g_is_row, F.kp, b, .nil⟩
  · obtain ⟨a, ns, rfl, _⟩ := h
    rfl
  · obtain ⟨a, ns, rfl, ⟨xs, hx, hp⟩, k⟩ := h
    have hu := hu_of hr
    have nd := sc_is_row.nd
    refine ⟨_, (pss_cons (ps_if (PW.pt (pw_or (pt_not (pt_val (pe_callB call_isi rfl T.m_isinstance (by decide +kernel) (pa_cons (pv 0) (pa_cons (pe_bltn (v := .ty "list") rfl T.m_list (by decide +kernel) rfl) pa_nil))))) (pw_or1 (pt_cmpR op_ne (pe_callB call_len_seq rfl T.m_len (by decide +kernel) (pa_cons (pv 0) pa_nil)) (pv 1) (nomark _))))) (pss_one (ps_ret pe_bl)) pss_nil)
      (pss_cons (ps_for PassesOwn.never rfl (pi_list (pv 0)) (pg_name (i := 2) nd rfl (.inl rfl)) (pss_one (ps_if (pt_not (pt_val (pe_c c_is_number hr (by decide) rfl (pa_cons (pv 2) pa_nil)))) (pss_one (ps_ret pe_bl)) pss_nil)))
      (pss_one (ps_ret pe_bl)))), ?_⟩
    refine ⟨_, rfl, _, _, _, _, _, rfl, .ty _, tyx_lst hx, kit_ty (r := true) (by decide +kernel), _, rfl, ifF rfl ?_⟩
    have hl : xs.length = ns.length := Paired.length hp
    refine ⟨_, rfl, _, _, rfl, .inl hx, _, rfl, rfl, _, rfl, ifF (by rw [hl]; simp) ?_⟩
    refine ⟨_, rfl, a, rfl, ⟨_, hx⟩, for_it (walk_list (xs := xs)) (fun i σ H' => H' = H ∧ ∃ v, σ = [some (.ref a), some (.int ns.length), v]) ⟨rfl, none, rfl⟩ (fun i σ H' _ e => by rw [e.1]; exact hx) ?_ ?_⟩
    · rintro i x σ H' H'' hi ⟨rfl, v, rfl⟩ ⟨rfl, hxi⟩
      obtain ⟨n, hn, hN⟩ := nms_of hp hxi
      refine ⟨_, rfl, _, n, rfl, hN, _, rfl, ifF rfl ?_⟩
      exact ⟨rfl, _, rfl⟩
    · rintro σ H' ⟨rfl, v, rfl⟩
      exact k
abbrev N_noughts_row : List Str := ["width", "place"]
abbrev s_noughts_row : Stmt := sNoughtsRow
theorem sc_noughts_row : FnScope N_noughts_row ["width"] (defScope s_noughts_row) := ⟨rfl, rfl, rfl, by decide +kernel, rfl, by decide +kernel, by decide +kernel⟩
def sp_noughts_row (K : PySem.W.Frag) : Sp := fun vs H Q _ => ∃ n : Nat, vs = [.int n] ∧ n ≤ 60 ∧ ∀ a H', Same H H' → H a = none → RwN K H' a (List.replicate n 0) → Q (.ref a) H'
theorem ok_noughts_row (T : Tx w K mg) : Cal P w K mg base 1 "noughts_row" (sp_noughts_row K) [] := by
  obtain ⟨fd, F, b⟩ := T.F_noughts_row
  refine ⟨_, fd, _, [], F.ok sc_noughts_row (fun vs H Q E h => ?_) (fun cdv A outer s H vs Q E hr h => ?_), T.g_noughts_row, F.kp, b, .nil⟩
  · obtain ⟨n, rfl, _⟩ := h
    rfl
  · obtain ⟨n, rfl, hn, k⟩ := h
    have hu := hu_of hr
    have nd := sc_noughts_row.nd
    refine ⟨_, (pss_one (ps_ret (pe_lc (own := [("place", 1)]) (g := gName 1) rfl nd (pi_range1 rfl T.m_range (pa_cons (pv 0) pa_nil)) (blkOk_by (own := [("place", 1)]) (N := N_noughts_row) (sc := defScope s_noughts_row) (by decide +kernel)) (fun _ _ _ _ _ => (pg_name (i := 1) nd rfl (.inl rfl))) (fun _ _ _ _ _ => pts_nil) (fun _ _ _ _ _ => (pe_gc rfl T.c_NOUGHT))))), ?_⟩
    refine ⟨_, rfl, (n : Int), rfl, by omega, by omega, fun D hD => lc_rel (Rl := Nm K) (fun _ _ _ _ e q => Nm.t q e) (walk_range (lo := 0) (n := n)) yfn_same (fun _ _ => trivial) hD (by omega) (fun _ => 0) ?_ ?_⟩
    · rintro i x H' H'' R Pn hi s1 ⟨rfl, rfl⟩ hR
      exact ⟨rfl, yesR (hR _ _ (Same.refl _) ⟨_, rfl, T.q_NOUGHT _⟩)⟩
    · intro H' ys s1 h1 hp
      refine k D _ s1 hD ⟨ys, h1, ?_⟩
      have e : (List.range n).map (fun _ => (0 : Int)) = List.replicate n 0 := by simp [List.map_const']
      rw [e] at hp
      exact hp
abbrev N_unit : List Str := ["width", "at", "row"]
abbrev s_unit : Stmt := sUnit
theorem sc_unit : FnScope N_unit ["width", "at"] (defScope s_unit) := ⟨rfl, rfl, rfl, by decide +kernel, rfl, by decide +kernel, by decide +kernel⟩
def sp_unit (K : PySem.W.Frag) : Sp := fun vs H Q _ => ∃ n i : Nat, vs = [.int n, .int i] ∧ n ≤ 60 ∧ i < n ∧ ∀ a H', Same H H' → H a = none → RwN K H' a ((List.replicate n 0).set i 1) → Q (.ref a) H'
theorem ok_unit (T : Tx w K mg) (c_noughts_row : Cal P w K mg base 1 "noughts_row" (sp_noughts_row K) []) : Cal P w K mg base 2 "unit" (sp_unit K) [] := by
  obtain ⟨fd, F, b⟩ := T.F_unit
  refine ⟨_, fd, _, [], F.ok sc_unit (fun vs H Q E h => ?_) (fun cdv A outer s H vs Q E hr h => ?_), T.g_unit, F.kp, b, .nil⟩
  · obtain ⟨n, i, rfl, _⟩ := h
    rfl
  · obtain ⟨n, i, rfl, hn, hi, k⟩ := h
    have hu := hu_of hr
    have nd := sc_unit.nd
    refine ⟨_, (pss_cons (ps_set (i := 2) nd rfl (.inl rfl) (pe_c c_noughts_row hr (by decide) rfl (pa_cons (pv 0) pa_nil)))
      (pss_cons (ps_asg (pe_gc rfl T.c_ONE) (pg_sub (pv 2) (pv 1) set_list))
      (pss_one (ps_ret (pv 2))))), ?_⟩
    refine ⟨_, rfl, n, rfl, hn, fun a H1 s1 ha ⟨xs, hx, hp⟩ => ?_⟩
    have hl := Paired.length hp
    rw [List.length_replicate] at hl
    refine ⟨_, rfl, _, rfl, a, xs, _, i, rfl, rfl, hx, ixN_nat (by omega), ?_⟩
    refine ⟨_, rfl, k a _ (Same.mut s1 ha) ha ⟨_, upd_same, ?_⟩⟩
    exact nms_t (paired_set (G := Nm K H1) ⟨_, rfl, T.q_ONE H1⟩ i hp) (SameT.lst hx)
abbrev N_is_nought : List Str := ["row", "one"]
abbrev s_is_nought : Stmt := sIsNought
theorem sc_is_nought : FnScope N_is_nought ["row"] (defScope s_is_nought) := ⟨rfl, rfl, rfl, by decide +kernel, rfl, by decide +kernel, by decide +kernel⟩
def sp_is_nought (K : PySem.W.Frag) : Sp := fun vs H Q _ => ∃ (a : Addr) (ns : List Int), vs = [.ref a] ∧ RwA K H a ns ∧ Q (.bl (ns.all fun n => decide (n = 0))) H
theorem ok_is_nought (T : Tx w K mg) : Cal P w K mg base 1 "is_nought" (sp_is_nought K) [] := by
  obtain ⟨fd, F, b⟩ := T.F_is_nought
  refine ⟨_, fd, _, [], F.ok sc_is_nought (fun vs H Q E h => ?_) (fun cdv A outer s H vs Q E hr h => ?_), T.g_is_nought, F.kp, b, .nil⟩
  · obtain ⟨a, ns, rfl, _⟩ := h
    rfl
  · obtain ⟨a, ns, rfl, ⟨xs, hx, hp⟩, k⟩ := h
    have hu := hu_of hr
    have nd := sc_is_nought.nd
    refine ⟨_, (pss_cons (ps_for PassesOwn.never rfl (pi_list (pv 0)) (pg_name (i := 1) nd rfl (.inl rfl)) (pss_one (ps_if (pt_cmpR op_ne (pe_ix ix_tup (pv 1) pe_int (fun _ _ => rfl)) pe_int (nomark _)) (pss_one (ps_ret pe_bl)) pss_nil)))
      (pss_one (ps_ret pe_bl))), ?_⟩
    refine ⟨_, rfl, a, rfl, ⟨_, hx⟩, for_it (walk_list (xs := xs)) (fun i σ H' => H' = H ∧ ∃ v, σ = [some (.ref a), v] ∧ ((ns.take i).all fun n => decide (n = 0)) = true) ⟨rfl, none, rfl, by simp⟩ (fun i σ H' _ e => by rw [e.1]; exact hx) ?_ ?_⟩
    · rintro i x σ H' H'' hi ⟨rfl, v, rfl, hall⟩ ⟨rfl, hxi⟩
      obtain ⟨n, hn, b, rfl, hb⟩ := nms_of hp hxi
      refine ⟨_, rfl, _, _, _, _, rfl, rfl, hb, rfl, rfl, _, rfl, ?_⟩
      refine if2 (fun hc => ?_) (fun hc => ?_)
      · have e : (ns.all fun n => decide (n = 0)) = false := by
          have hne : ¬ n = 0 := by
            intro z
            subst z
            simp at hc
          exact List.all_eq_false.mpr ⟨n, List.mem_of_getElem? hn, by simp [hne]⟩
        rw [e] at k
        exact k
      · refine ⟨rfl, _, rfl, ?_⟩
        have hz : n = 0 := by simpa using hc
        rw [List.take_add_one, hn, List.all_append, hall, hz]
        rfl
    · rintro σ H' ⟨rfl, v, rfl, hall⟩
      have hl := Paired.length hp
      rw [hl, List.take_length] at hall
      rw [hall] at k
      exact k
abbrev N_scaled : List Str := ["number", "row", "one"]
abbrev s_scaled : Stmt := sScaled
theorem sc_scaled : FnScope N_scaled ["number", "row"] (defScope s_scaled) := ⟨rfl, rfl, rfl, by decide +kernel, rfl, by decide +kernel, by decide +kernel⟩
def sp_scaled (K : PySem.W.Frag) : Sp := fun vs H Q _ => ∃ (x : V) (m : Int) (a : Addr) (ns : List Int), vs = [x, .ref a] ∧ Nm K H x m ∧ RwA K H a ns ∧ ns.length ≤ 60 ∧ (-(2 ^ 64) < m ∧ m < 2 ^ 64) ∧ ∀ b H', Same H H' → H b = none → RwN K H' b (ns.map (m * ·)) → Q (.ref b) H'
theorem ok_scaled (T : Tx w K mg) (c_noughts_row : Cal P w K mg base 1 "noughts_row" (sp_noughts_row K) []) (c_times : Cal P w K mg base 1 "times" (sp_times K) []) : Cal P w K mg base 2 "scaled" (sp_scaled K) [] := by
  obtain ⟨fd, F, b⟩ := T.F_scaled
  refine ⟨_, fd, _, [], F.ok sc_scaled (fun vs H Q E h => ?_) (fun cdv A outer s H vs Q E hr h => ?_), T.g_scaled, F.kp, b, .nil⟩
  · obtain ⟨_, m, a, ns, rfl, _⟩ := h
    rfl
  · obtain ⟨_, m, a, ns, rfl, ⟨b, rfl, hb⟩, ⟨xs, hx, hp⟩, hlen, hm, k⟩ := h
    have hu := hu_of hr
    have nd := sc_scaled.nd
    refine ⟨_, (pss_cons (ps_if (pt_cmpR op_eq (pe_ix ix_tup (pv 0) pe_int (fun _ _ => rfl)) pe_int (nomark _)) (pss_one (ps_ret (pe_c c_noughts_row hr (by decide) rfl (pa_cons (pe_callB call_len_seq rfl T.m_len (by decide +kernel) (pa_cons (pv 1) pa_nil)) pa_nil)))) pss_nil)
      (pss_one (ps_ret (pe_lc (own := [("one", 2)]) (g := gName 2) rfl nd (pi_list (pv 1)) (blkOk_by (own := [("one", 2)]) (N := N_scaled) (sc := defScope s_scaled) (by decide +kernel)) (fun _ _ _ _ _ => (pg_name (i := 2) nd rfl (.inl rfl))) (fun _ _ _ _ _ => pts_nil) (fun _ _ _ _ _ => (pe_ifExp (pt_cmpR op_ne (pe_ix (ix_tupK K) (pv 2) pe_int (fun _ _ => rfl)) pe_int (nomark _)) (pe_c c_times hr (by decide) rfl (pa_cons (pv 0) (pa_cons (pv 2) pa_nil))) (pe_gc rfl T.c_NOUGHT))))))), ?_⟩
    have hl := Paired.length hp
    refine ⟨_, rfl, _, _, _, _, rfl, rfl, hb, rfl, rfl, _, rfl, ?_⟩
    refine if2 (fun hc => ?_) (fun hc => ?_)
    · have hz : m = 0 := by simpa using hc
      subst hz
      refine ⟨_, rfl, _, _, rfl, .inl hx, xs.length, rfl, by omega, fun c H1 s1 hc1 r1 => k c H1 s1 hc1 ?_⟩
      have e : ns.map ((0 : Int) * ·) = List.replicate xs.length 0 := by
        rw [hl]
        apply List.ext_getElem
        · simp
        · intro i h1 h2
          simp
      rw [e]
      exact r1
    · refine ⟨_, rfl, a, rfl, ⟨_, hx⟩, fun D hD => lc_rel (Rl := Nm K) (fun _ _ _ _ e q => Nm.t q e) (walk_list (xs := xs)) yat_same (fun _ e => e.seq hx) hD (by omega) (fun i => m * ns.getD i 0) ?_ ?_⟩
      · rintro i x H' H'' R Pn hi s1 ⟨rfl, hxi⟩ hR
        obtain ⟨n, hn, c, rfl, hc⟩ := nms_of hp hxi
        have hgd : ns.getD i 0 = n := by simp [List.getD, hn]
        have hc2 := Same.sqT s1 hc
        refine ⟨rfl, yesR ?_⟩
        refine ⟨_, rfl, _, _, _, _, rfl, rfl, hc2, rfl, rfl, _, rfl, ?_⟩
        refine if2 (fun hq => ?_) (fun hq => ?_)
        · refine ⟨_, rfl, _, rfl, _, _, _, _, rfl, ⟨b, rfl, Same.sqT s1 hb⟩, ⟨c, rfl, hc2⟩, hm, fun v H3 s3 h3 => hR v H3 s3 ?_⟩
          rw [hgd]
          exact h3
        · have hz : n = 0 := by simpa using hq
          refine hR _ _ (Same.refl _) ?_
          rw [hgd, hz, Int.mul_zero]
          exact ⟨_, rfl, T.q_NOUGHT _⟩
      · intro H' ys s1 h1 hq
        refine k D _ s1 hD ⟨ys, h1, ?_⟩
        have e : (List.range xs.length).map (fun i => m * ns.getD i 0) = ns.map (m * ·) := by
          rw [hl]
          apply List.ext_getElem
          · simp
          · intro i h1 h2
            simp at h1 h2
            simp [h2]
        rw [e] at hq
        exact hq
abbrev N_added : List Str := ["one", "other", "a", "b"]
abbrev s_added : Stmt := sAdded
theorem sc_added : FnScope N_added ["one", "other"] (defScope s_added) := ⟨rfl, rfl, rfl, by decide +kernel, rfl, by decide +kernel, by decide +kernel⟩
def sp_added (K : PySem.W.Frag) : Sp := fun vs H Q _ => ∃ (a b : Addr) (ns ms : List Int), vs = [.ref a, .ref b] ∧ RwA K H a ns ∧ RwA K H b ms ∧ ns.length = ms.length ∧ ns.length ≤ 60 ∧ ∀ c H', Same H H' → H c = none → RwN K H' c (List.zipWith (· + ·) ns ms) → Q (.ref c) H'
theorem ok_added (T : Tx w K mg) (c_plus : Cal P w K mg base 1 "plus" (sp_plus K) []) : Cal P w K mg base 2 "added" (sp_added K) [] := by
  obtain ⟨fd, F, b⟩ := T.F_added
  refine ⟨_, fd, _, [], F.ok sc_added (fun vs H Q E h => ?_) (fun cdv A outer s H vs Q E hr h => ?_), T.g_added, F.kp, b, .nil⟩
  · obtain ⟨a, b, ns, ms, rfl, _⟩ := h
    rfl
  · obtain ⟨a, b, ns, ms, rfl, ⟨xs, hx, hp⟩, ⟨ys, hy, hq⟩, hl, hlen, k⟩ := h
    have hu := hu_of hr
    have nd := sc_added.nd
    refine ⟨_, (pss_one (ps_ret (pe_lc (own := [("a", 2), ("b", 3)]) (g := gTup K 2 (gCons (gName 2) (gCons (gName 3) gNil))) rfl nd (pi_zip rfl T.m_zip (pa_cons (pv 0) (pa_cons (pv 1) pa_nil))) (blkOk_by (own := [("a", 2), ("b", 3)]) (N := N_added) (sc := defScope s_added) (by decide +kernel)) (fun _ _ _ _ _ => (pg_tup rfl (pgs_cons (pg_name (i := 2) nd rfl (.inl rfl)) (pgs_cons (pg_name (i := 3) nd rfl (.inl rfl)) pgs_nil)))) (fun _ _ _ _ _ => pts_nil) (fun _ _ _ _ _ => (pe_c c_plus hr (by decide) rfl (pa_cons (pv 2) (pa_cons (pv 3) pa_nil))))))), ?_⟩
    have hlx := Paired.length hp
    have hly := Paired.length hq
    refine ⟨_, rfl, _, rfl, a, b, xs, ys, rfl, hx, hy, fun D hD => lc_rel (Rl := Nm K) (fun _ _ _ _ e q => Nm.t q e) (walk_zip (xs := xs) (ys := ys) (n := xs.length) (by omega)) ypair_same (fun _ e => ⟨e.seq hx, e.seq hy⟩) hD (by omega) (fun i => ns.getD i 0 + ms.getD i 0) ?_ ?_⟩
    · rintro i x H' H'' R Pn hi s1 ⟨t, u, v, rfl, ht, rfl, hu, hv⟩ hR
      obtain ⟨n, hn, hN⟩ := nms_of hp hu
      obtain ⟨m, hm, hM⟩ := nms_of hq hv
      have hgd : ns.getD i 0 = n := by simp [List.getD, hn]
      have hgm : ms.getD i 0 = m := by simp [List.getD, hm]
      refine ⟨t, [u, v], rfl, SqT.of upd_same, rfl, _, _, rfl, _, _, rfl, rfl, rfl, yesR ?_⟩
      refine ⟨_, rfl, _, rfl, _, _, n, m, rfl, Nm.same hN (s1.trans (same_new ht)), Nm.same hM (s1.trans (same_new ht)), fun w H3 s3 h3 => hR w H3 s3 ?_⟩
      rw [hgd, hgm]
      exact h3
    · intro H' zs s1 h1 hz
      refine k D _ s1 hD ⟨zs, h1, ?_⟩
      have e : (List.range xs.length).map (fun i => ns.getD i 0 + ms.getD i 0) = List.zipWith (· + ·) ns ms := by
        rw [hlx]
        apply List.ext_getElem
        · simp; omega
        · intro i h1 h2
          simp at h1 h2
          have h3 : i < ms.length := by omega
          simp [h1, h3]
      rw [e] at hz
      exact hz
end
end Sw

/-! ## G3 -/
namespace Sw
open PySem PySem.Spec PyProof.Rows L2
open C8 (Cal Met Mak pe_c pe_mk pe_mt pe_mt0 pe_gc)
section
variable {P : Program} {w : World} {K : PySem.W.Frag} {mg : Str → Option Value} {base : Heap}
abbrev N_are_ways : List Str := ["count", "one", "other"]
abbrev s_are_ways : Stmt := sAreWays
theorem sc_are_ways : FnScope N_are_ways ["count", "one", "other"] (defScope s_are_ways) := ⟨rfl, rfl, rfl, by decide +kernel, rfl, by decide +kernel, by decide +kernel⟩
def sp_are_ways (K : PySem.W.Frag) : Sp := fun vs H Q _ => ∃ c : Int, vs = [.int c, .int 0, .int 1] ∧ 2 ≤ c ∧ Q (.bl true) H
theorem ok_are_ways (T : Tx w K mg) (c_is_whole : Cal P w K mg base 1 "is_whole" (sp_is_whole K) []) : Cal P w K mg base 2 "are_ways" (sp_are_ways K) [] := by
  obtain ⟨fd, F, b⟩ := T.F_are_ways
  refine ⟨_, fd, _, [], F.ok sc_are_ways (fun vs H Q E h => ?_) (fun cdv A outer s H vs Q E hr h => ?_), T.g_are_ways, F.kp, b, .nil⟩
  · obtain ⟨c, rfl, _⟩ := h
    rfl
  · obtain ⟨c, rfl, hc, k⟩ := h
    have hu := hu_of hr
    have nd := sc_are_ways.nd
    refine ⟨_, (pss_cons (ps_if (PW.pt (pw_or (pt_not (pt_val (pe_c c_is_whole hr (by decide) rfl (pa_cons (pv 1) pa_nil)))) (pw_or1 (pt_not (pt_val (pe_c c_is_whole hr (by decide) rfl (pa_cons (pv 2) pa_nil))))))) (pss_one (ps_ret pe_bl)) pss_nil)
      (pss_one (ps_ret (pe_chain3 op_le op_lt op_lt pe_int (pv 1) (pv 2) (pv 0))))), ?_⟩
    refine ⟨_, rfl, _, rfl, _, rfl, ifF rfl ?_⟩
    refine ⟨_, rfl, _, rfl, _, rfl, ifF rfl ?_⟩
    refine ⟨_, rfl, _, _, rfl, rfl, _, rfl, ifT rfl ?_⟩
    refine ⟨_, rfl, _, _, rfl, rfl, _, rfl, ifT rfl ?_⟩
    refine ⟨_, rfl, _, _, rfl, rfl, ?_⟩
    have e : decide ((1 : Int) < c) = true := decide_eq_true (by omega)
    show Q (.bl (decide ((1 : Int) < c))) _
    rw [e]
    exact k
abbrev N_Table_cross : List Str := ["self", "one", "other", "total", "i", "j", "row", "much"]
abbrev s_Table_cross : Stmt := sTableCross
theorem sc_Table_cross : FnScope N_Table_cross ["self", "one", "other"] (defScope s_Table_cross) := ⟨rfl, rfl, rfl, by decide +kernel, rfl, by decide +kernel, by decide +kernel⟩
def sp_Table_cross (K : PySem.W.Frag) : Sp := fun vs H Q _ => ∃ (a oa ob : Addr) (c : Nat) (l : Option Int) (ns ms : List Int) (n0 n1 m0 m1 : Int), vs = [.ref a, .ref oa, .ref ob] ∧ TbR K H a c l ∧ RwA K H oa ns ∧ RwA K H ob ms ∧ c ≤ 6 ∧ (ns[0]? = some n0 ∧ ns[1]? = some n1 ∧ ms[0]? = some m0 ∧ ms[1]? = some m1) ∧ ((-(2 ^ 64) < n0 ∧ n0 < 2 ^ 64) ∧ (-(2 ^ 64) < n1 ∧ n1 < 2 ^ 64)) ∧ n0 * m1 - n1 * m0 = 0 ∧ ∀ b H', Same H H' → H b = none → RwN K H' b (List.replicate (c + 1) 0) → Q (.ref b) H'
theorem ok_Table_cross (T : Tx w K mg) (c_noughts_row : Cal P w K mg base 1 "noughts_row" (sp_noughts_row K) []) (c_times : Cal P w K mg base 1 "times" (sp_times K) []) (c_less : Cal P w K mg base 2 "less" (sp_less K) []) (c_scaled : Cal P w K mg base 2 "scaled" (sp_scaled K) []) (c_added : Cal P w K mg base 2 "added" (sp_added K) []) : Met P w K mg base 3 (He.ga K "Table") "cross" (sp_Table_cross K) [] := by
  obtain ⟨fd, F, b⟩ := T.F_Table_cross
  refine ⟨_, fd, _, [], T.cl_Table, T.me_Table_cross, F.ok sc_Table_cross (fun vs H Q E h => ?_) (fun cdv A outer s H vs Q E hr h => ?_), b, .nil⟩
  · obtain ⟨a, oa, ob, c, l, ns, ms, n0, n1, m0, m1, rfl, _⟩ := h
    rfl
  · obtain ⟨a, oa, ob, c, l, ns, ms, n0, n1, m0, m1, rfl, ht, ho, hq, hc, hn, hb, he, k⟩ := h
    have hu := hu_of hr
    have nd := sc_Table_cross.nd
    refine ⟨_, (pss_cons (ps_set (i := 3) nd rfl (.inl rfl) (pe_c c_noughts_row hr (by decide) rfl (pa_cons (pe_fld (pv 0) rfl) pa_nil)))
      (pss_cons (ps_for PassesOwn.never rfl (pi_list (pe_fld (pv 0) rfl)) (pg_tup rfl (pgs_cons (pg_name (i := 4) nd rfl (.inl rfl)) (pgs_cons (pg_name (i := 5) nd rfl (.inl rfl)) (pgs_cons (pg_name (i := 6) nd rfl (.inl rfl)) pgs_nil)))) (pss_cons (ps_set (i := 7) nd rfl (.inl rfl) (pe_c c_less hr (by decide) rfl (pa_cons (pe_c c_times hr (by decide) rfl (pa_cons (pe_ix ix_list (pv 1) (pv 4) (fun _ _ => rfl)) (pa_cons (pe_ix ix_list (pv 2) (pv 5) (fun _ _ => rfl)) pa_nil))) (pa_cons (pe_c c_times hr (by decide) rfl (pa_cons (pe_ix ix_list (pv 1) (pv 5) (fun _ _ => rfl)) (pa_cons (pe_ix ix_list (pv 2) (pv 4) (fun _ _ => rfl)) pa_nil))) pa_nil))))
      (pss_one (ps_if (pt_cmpR op_ne (pe_ix ix_tup (pv 7) pe_int (fun _ _ => rfl)) pe_int (nomark _)) (pss_one (ps_set (i := 3) nd rfl (.inl rfl) (pe_c c_added hr (by decide) rfl (pa_cons (pv 3) (pa_cons (pe_c c_scaled hr (by decide) rfl (pa_cons (pv 7) (pa_cons (pv 6) pa_nil))) pa_nil))))) pss_nil))))
      (pss_one (ps_ret (pv 3))))), ?_⟩
    obtain ⟨dx, fs, ra, ha, hw, hcn, hra, _, _, hre⟩ := id ht
    refine ⟨_, rfl, a, _, dx, fs, _, rfl, ha, T.cl_Table, T.n_width, hw, c + 1, rfl, by omega, fun b H1 s1 hb1 r1 => ?_⟩
    obtain ⟨xs, hxs, hx1, _, hxa⟩ := hre.list
    refine ⟨_, rfl, a, _, dx, fs, _, rfl, s1 _ _ ha, T.cl_Table, T.n_rests, hra, ra, rfl, ⟨_, s1.seq hxs⟩, for_it (walk_list (xs := xs)) (fun i σ H' => Same H H' ∧ ∃ v4 v5 v6 v7, σ = [some (.ref a), some (.ref oa), some (.ref ob), some (.ref b), v4, v5, v6, v7] ∧ RwN K H' b (List.replicate (c + 1) 0)) ⟨s1, none, none, none, none, rfl, r1⟩ (fun i σ H' _ e => e.1.seq hxs) ?_ ?_⟩
    · rintro i x σ H' H'' hi ⟨s2, v4, v5, v6, v7, rfl, r2⟩ ⟨rfl, hxi⟩
      obtain ⟨d, t, rt, rfl, rfl, ht2, hrt⟩ := hxa x (List.mem_of_getElem? hxi)
      obtain ⟨xs1, hx1, hp1⟩ := ho
      obtain ⟨xs2, hx2, hp2⟩ := hq
      obtain ⟨y0, hy0, hN0⟩ := nms_at hp1 hn.1
      obtain ⟨y1, hy1, hN1⟩ := nms_at hp1 hn.2.1
      obtain ⟨z0, hz0, hM0⟩ := nms_at hp2 hn.2.2.1
      obtain ⟨z1, hz1, hM1⟩ := nms_at hp2 hn.2.2.2
      refine ⟨t, _, rfl, Same.sqT s2 ht2, rfl, _, _, rfl, _, _, rfl, _, _, rfl, rfl, ?_⟩
      refine ⟨_, rfl, _, rfl, _, _, _, _, rfl, rfl, s2.seq hx1, at_get (i := 0) hy0, _, rfl, _, rfl, _, _, _, _, rfl, rfl, s2.seq hx2, at_get (i := 1) hz1, _, _, n0, m1, rfl, Nm.same hN0 s2, Nm.same hM1 s2, hb.1, fun u1 H3 s3 h3 => ?_⟩
      refine ⟨_, rfl, _, rfl, _, _, _, _, rfl, rfl, (s2.trans s3).seq hx1, at_get (i := 1) hy1, _, rfl, _, rfl, _, _, _, _, rfl, rfl, (s2.trans s3).seq hx2, at_get (i := 0) hz0, _, _, n1, m0, rfl, Nm.same hN1 (s2.trans s3), Nm.same hM0 (s2.trans s3), hb.2, fun u2 H4 s4 h4 => ?_⟩
      refine ⟨_, _, _, _, rfl, Nm.same h3 s4, h4, fun u3 H5 s5 h5 => ?_⟩
      obtain ⟨p, rfl, hp⟩ := h5
      refine ⟨_, rfl, _, _, _, _, rfl, rfl, hp, rfl, rfl, _, rfl, ifF (by simp [he]) ?_⟩
      exact ⟨((s2.trans s3).trans s4).trans s5, _, _, _, _, rfl, r2.same ((s3.trans s4).trans s5)⟩
    · rintro σ H' ⟨s2, v4, v5, v6, v7, rfl, r2⟩
      exact ⟨_, rfl, k b H' s2 hb1 r2⟩
abbrev N_Table_of_ways : List Str := ["self", "one", "other", "number", "i", "j", "row"]
abbrev s_Table_of_ways : Stmt := sTableOfWays
theorem sc_Table_of_ways : FnScope N_Table_of_ways ["self", "one", "other"] (defScope s_Table_of_ways) := ⟨rfl, rfl, rfl, by decide +kernel, rfl, by decide +kernel, by decide +kernel⟩
def sp_Table_of_ways (K : PySem.W.Frag) : Sp := fun vs H Q _ => ∃ (a : Addr) (c : Nat) (l : Option Int) (i j : Int), vs = [.ref a, .int i, .int j] ∧ TbR K H a c l ∧ c ≤ 6 ∧ i ≤ j ∧ ∀ b H', Same H H' → H b = none → RwN K H' b (owI c l i j) → Q (.ref b) H'
theorem ok_Table_of_ways (T : Tx w K mg) (c_noughts_row : Cal P w K mg base 1 "noughts_row" (sp_noughts_row K) []) : Met P w K mg base 2 (He.ga K "Table") "of_ways" (sp_Table_of_ways K) [] := by
  obtain ⟨fd, F, b⟩ := T.F_Table_of_ways
  refine ⟨_, fd, _, [], T.cl_Table, T.me_Table_of_ways, F.ok sc_Table_of_ways (fun vs H Q E h => ?_) (fun cdv A outer s H vs Q E hr h => ?_), b, .nil⟩
  · obtain ⟨a, c, l, i, j, rfl, _⟩ := h
    rfl
  · obtain ⟨a, c, l, i, j, rfl, ht, hc, hij, k⟩ := h
    have hu := hu_of hr
    have nd := sc_Table_of_ways.nd
    refine ⟨_, (pss_cons (ps_if (pt_cmpR op_gt (pv 1) (pv 2) (nomark _)) (pss_one ps_never) pss_nil)
      (pss_cons (ps_for PassesOwn.never rfl (pi_list (pe_fld (pv 0) rfl)) (pg_tup rfl (pgs_cons (pg_name (i := 4) nd rfl (.inl rfl)) (pgs_cons (pg_name (i := 5) nd rfl (.inl rfl)) (pgs_cons (pg_name (i := 6) nd rfl (.inl rfl)) pgs_nil)))) (pss_one (ps_if (PW.pt (pw_and (pt_cmpR op_eq (pv 4) (pv 1) (nomark _)) (pw_and1 (pt_cmpR op_eq (pv 5) (pv 2) (nomark _))))) (pss_one (ps_ret (pe_callTy call_list_of rfl T.m_list (by decide +kernel) (pa_cons (pv 6) pa_nil)))) pss_nil)))
      (pss_one (ps_ret (pe_c c_noughts_row hr (by decide) rfl (pa_cons (pe_fld (pv 0) rfl) pa_nil)))))), ?_⟩
    obtain ⟨dx, fs, ra, ha, hw, hcn, hra, _, _, hre⟩ := id ht
    refine ⟨_, rfl, _, rfl, _, _, rfl, rfl, _, rfl, ifF (decide_eq_false (by omega)) ?_⟩
    obtain ⟨xs, hxs, hx1, hx0, hxa⟩ := hre.list
    refine ⟨_, rfl, a, _, dx, fs, _, rfl, ha, T.cl_Table, T.n_rests, hra, ra, rfl, ⟨_, hxs⟩, for_it (walk_list (xs := xs)) (fun n σ H' => H' = H ∧ (∃ v3 v4 v5 v6, σ = [some (.ref a), some (.int i), some (.int j), v3, v4, v5, v6]) ∧ (0 < n → owI c l i j = List.replicate (c + 1) 0)) ⟨rfl, ⟨none, none, none, none, rfl⟩, fun z => absurd z (by decide)⟩ (fun n σ H' _ e => by rw [e.1]; exact hxs) ?_ ?_⟩
    · rintro n x σ H' H'' hn ⟨rfl, ⟨v3, v4, v5, v6, rfl⟩, hz⟩ ⟨rfl, hxi⟩
      obtain ⟨d, t, rt, rfl, rfl, ht2, xr, hxr, hpr⟩ := hxa x (List.mem_of_getElem? hxi)
      refine ⟨t, _, rfl, ht2, rfl, _, _, rfl, _, _, rfl, _, _, rfl, rfl, ?_⟩
      refine ⟨_, rfl, _, rfl, rfl, _, rfl, ?_⟩
      refine if2 (fun h1 => ?_) (fun h1 => ?_)
      · refine ⟨_, rfl, _, rfl, rfl, _, rfl, ?_⟩
        refine if2 (fun h2 => ?_) (fun h2 => ?_)
        · have e1 : i = 0 := by have := of_decide_eq_true h1; injection this with e; exact e.symm
          have e2 : j = 1 := by have := of_decide_eq_true h2; injection this with e; exact e.symm
          refine ⟨_, rfl, _, _, rfl, .inl hxr, fun q hq => ?_⟩
          refine k q _ (same_new hq) hq ⟨xr, upd_same, ?_⟩
          have eo : owI c (some d) i j = rowI c d := by
            unfold owI
            dsimp only
            rw [if_pos ⟨e1, e2⟩]
          rw [eo]
          exact nms_same hpr (same_new hq)
        · have e2 : ¬ j = 1 := fun z => of_decide_eq_false h2 (by rw [z])
          refine ⟨rfl, ⟨_, _, _, _, rfl⟩, fun _ => ?_⟩
          unfold owI
          dsimp only
          rw [if_neg (fun z => e2 z.2)]
      · have e1 : ¬ i = 0 := fun z => of_decide_eq_false h1 (by rw [z])
        refine ⟨rfl, ⟨_, _, _, _, rfl⟩, fun _ => ?_⟩
        unfold owI
        dsimp only
        rw [if_neg (fun z => e1 z.1)]
    · rintro σ H' ⟨rfl, ⟨v3, v4, v5, v6, rfl⟩, hz⟩
      have e0 : owI c l i j = List.replicate (c + 1) 0 := by
        cases l with
        | none => rfl
        | some d => exact hz (List.length_pos_iff.mpr fun z => nomatch hx0 z)
      rw [e0] at k
      exact ⟨_, rfl, a, _, dx, fs, _, rfl, ha, T.cl_Table, T.n_width, hw, c + 1, rfl, by omega, fun b H1 s1 hb1 r1 => k b H1 s1 hb1 r1⟩
end
end Sw

/-! ## G4 -/
namespace Sw
open PySem PySem.Spec PyProof.Rows L2
open C8 (Cal Met Mak pe_c pe_mk pe_mt pe_mt0 pe_gc)
section
variable {P : Program} {w : World} {K : PySem.W.Frag} {mg : Str → Option Value} {base : Heap}
def sp_Table_of_ways2 (K : PySem.W.Frag) : Sp := fun vs H Q _ => ∃ (a : Addr) (c : Nat) (l : Option Int) (i j : Int), vs = [.ref a, .int i, .int j] ∧ TbR K H a c l ∧ c ≤ 6 ∧ j < i ∧ ∀ b H', Same H H' → H b = none → RwN K H' b ((owI c l j i).map fun n => -n) → Q (.ref b) H'
theorem ok_Table_of_ways2 (T : Tx w K mg) (c_Table_of_ways : Met P w K mg base 2 (He.ga K "Table") "of_ways" (sp_Table_of_ways K) []) (c_contrary : Cal P w K mg base 1 "contrary" (sp_contrary K) []) : Met P w K mg base 3 (He.ga K "Table") "of_ways" (sp_Table_of_ways2 K) [] := by
  obtain ⟨fd, F, b⟩ := T.F_Table_of_ways
  refine ⟨_, fd, _, [], T.cl_Table, T.me_Table_of_ways, F.ok sc_Table_of_ways (fun vs H Q E h => ?_) (fun cdv A outer s H vs Q E hr h => ?_), b, .nil⟩
  · obtain ⟨a, c, l, i, j, rfl, _⟩ := h
    rfl
  · obtain ⟨a, c, l, i, j, rfl, ht, hc, hij, k⟩ := h
    have hu := hu_of hr
    have nd := sc_Table_of_ways.nd
    refine ⟨_, (pss_cons (ps_if (pt_cmpR op_gt (pv 1) (pv 2) (nomark _)) (pss_one (ps_ret (pe_lc (own := [("number", 3)]) (g := gName 3) rfl nd (pi_list (pe_mt c_Table_of_ways hr (by decide) (pv 0) (pa_cons (pv 2) (pa_cons (pv 1) pa_nil)))) (blkOk_by (own := [("number", 3)]) (N := N_Table_of_ways) (sc := defScope s_Table_of_ways) (by decide +kernel)) (fun _ _ _ _ _ => (pg_name (i := 3) nd rfl (.inl rfl))) (fun _ _ _ _ _ => pts_nil) (fun _ _ _ _ _ => (pe_c c_contrary hr (by decide) rfl (pa_cons (pv 3) pa_nil)))))) pss_nil)
      (pss_cons ps_never
      (pss_one ps_never))), ?_⟩
    obtain ⟨dx, fs, ra, ha, hw, hcn, hra, _, hno, hre⟩ := id ht
    refine ⟨_, rfl, _, rfl, _, _, rfl, rfl, _, rfl, ifT (decide_eq_true (by omega)) ?_⟩
    refine ⟨_, rfl, a, dx, fs, rfl, ha, hno, _, rfl, _, rfl, a, c, l, j, i, rfl, ht, hc, by omega, fun b H1 s1 hb1 r1 => ?_⟩
    obtain ⟨xs, hx, hp⟩ := r1
    have hl := Paired.length hp
    rw [owI_len] at hl
    refine ⟨b, rfl, ⟨_, SqL.of hx⟩, fun D hD => lc_rel (Rl := Nm K) (fun _ _ _ _ e q => Nm.t q e) (walk_list (xs := xs)) yat_same (fun _ e => e.seq (SqL.of hx)) hD (by omega) (fun n => -((owI c l j i).getD n 0)) ?_ ?_⟩
    · rintro n x H' H'' R Pn hn s2 ⟨rfl, hxi⟩ hR
      obtain ⟨m, hm, hN⟩ := nms_of hp hxi
      have hgd : (owI c l j i).getD n 0 = m := by simp [List.getD, hm]
      refine ⟨rfl, yesR ?_⟩
      refine ⟨_, rfl, _, m, rfl, Nm.same hN s2, fun v H3 s3 h3 => hR v H3 s3 ?_⟩
      rw [hgd]
      exact h3
    · intro H' ys s2 h2 hq
      refine k D _ (s1.trans s2) (s1.free hD) ⟨ys, h2, ?_⟩
      have e : (List.range xs.length).map (fun n => -((owI c l j i).getD n 0)) = (owI c l j i).map fun n => -n := by
        rw [hl]
        apply List.ext_getElem
        · simp [owI_len]
        · intro n h1 h2
          simp [owI_len] at h1 h2
          have h3 : n < (owI c l j i).length := by rw [owI_len]; omega
          simp [h3]
      rw [e] at hq
      exact hq
abbrev N_round_sum : List Str := ["table", "one", "two", "three", "width", "total"]
abbrev s_round_sum : Stmt := sRoundSum
theorem sc_round_sum : FnScope N_round_sum ["table", "one", "two", "three"] (defScope s_round_sum) := ⟨rfl, rfl, rfl, by decide +kernel, rfl, by decide +kernel, by decide +kernel⟩
def sp_round_sum (K : PySem.W.Frag) : Sp := fun vs H Q _ => ∃ (a : Addr) (l : Option Int), vs = [.ref a, .int 0, .int 1, .int 2] ∧ TbR K H a 3 l ∧ ∀ b H', Same H H' → H b = none → RwN K H' b [0, 0, 0, 0] → Q (.ref b) H'
theorem ok_round_sum (T : Tx w K mg) (c_Table_cross : Met P w K mg base 3 (He.ga K "Table") "cross" (sp_Table_cross K) []) (c_unit : Cal P w K mg base 2 "unit" (sp_unit K) []) (c_Table_of_ways : Met P w K mg base 2 (He.ga K "Table") "of_ways" (sp_Table_of_ways K) []) (c_Table_of_ways2 : Met P w K mg base 3 (He.ga K "Table") "of_ways" (sp_Table_of_ways2 K) []) (c_added : Cal P w K mg base 2 "added" (sp_added K) []) : Cal P w K mg base 4 "round_sum" (sp_round_sum K) [] := by
  obtain ⟨fd, F, b⟩ := T.F_round_sum
  refine ⟨_, fd, _, [], F.ok sc_round_sum (fun vs H Q E h => ?_) (fun cdv A outer s H vs Q E hr h => ?_), T.g_round_sum, F.kp, b, .nil⟩
  · obtain ⟨a, l, rfl, _⟩ := h
    rfl
  · obtain ⟨a, l, rfl, ht, k⟩ := h
    have hu := hu_of hr
    have nd := sc_round_sum.nd
    refine ⟨_, (pss_cons (ps_set (i := 4) nd rfl (.inl rfl) (pe_fld (pv 0) rfl))
      (pss_cons (ps_set (i := 5) nd rfl (.inl rfl) (pe_mt c_Table_cross hr (by decide) (pv 0) (pa_cons (pe_c c_unit hr (by decide) rfl (pa_cons (pv 4) (pa_cons (pv 1) pa_nil))) (pa_cons (pe_mt c_Table_of_ways hr (by decide) (pv 0) (pa_cons (pv 2) (pa_cons (pv 3) pa_nil))) pa_nil))))
      (pss_cons (ps_set (i := 5) nd rfl (.inl rfl) (pe_c c_added hr (by decide) rfl (pa_cons (pv 5) (pa_cons (pe_mt c_Table_cross hr (by decide) (pv 0) (pa_cons (pe_c c_unit hr (by decide) rfl (pa_cons (pv 4) (pa_cons (pv 2) pa_nil))) (pa_cons (pe_mt c_Table_of_ways2 hr (by decide) (pv 0) (pa_cons (pv 3) (pa_cons (pv 1) pa_nil))) pa_nil))) pa_nil))))
      (pss_one (ps_ret (pe_c c_added hr (by decide) rfl (pa_cons (pv 5) (pa_cons (pe_mt c_Table_cross hr (by decide) (pv 0) (pa_cons (pe_c c_unit hr (by decide) rfl (pa_cons (pv 4) (pa_cons (pv 3) pa_nil))) (pa_cons (pe_mt c_Table_of_ways hr (by decide) (pv 0) (pa_cons (pv 1) (pa_cons (pv 2) pa_nil))) pa_nil))) pa_nil)))))))), ?_⟩
    obtain ⟨dx, fs, ra, ha, hw, hcn, hra, hn1, hn2, hre⟩ := id ht
    have e12 : owI 3 l 1 2 = [0, 0, 0, 0] := by cases l <;> rfl
    have e02 : (owI 3 l 0 2).map (fun n => -n) = [0, 0, 0, 0] := by cases l <;> rfl
    have e01 : ∃ d, owI 3 l 0 1 = [0, 0, 0, d] := by
      cases l with
      | none => exact ⟨0, rfl⟩
      | some d => exact ⟨d, rfl⟩
    refine ⟨_, rfl, a, _, dx, fs, _, rfl, ha, T.cl_Table, T.n_width, hw, ?_⟩
    refine ⟨_, rfl, a, dx, fs, rfl, ha, hn1, _, rfl, _, rfl, 4, 0, rfl, by decide, by decide, fun b1 H1 s1 f1 r1 => ?_⟩
    refine ⟨_, rfl, a, dx, fs, rfl, s1 _ _ ha, hn2, _, rfl, _, rfl, a, 3, l, 1, 2, rfl, ht.same s1, by decide, by decide, fun b2 H2 s2 f2 r2 => ?_⟩
    rw [e12] at r2
    refine ⟨a, b1, b2, 3, l, [1, 0, 0, 0], [0, 0, 0, 0], 1, 0, 0, 0, rfl, ht.same (s1.trans s2), (r1.same s2).a, r2.a, by decide, ⟨rfl, rfl, rfl, rfl⟩, by decide, by decide, fun b3 H3 s3 f3 r3 => ?_⟩
    have t3 := (s1.trans s2).trans s3
    refine ⟨_, rfl, _, rfl, a, dx, fs, rfl, t3 _ _ ha, hn1, _, rfl, _, rfl, 4, 1, rfl, by decide, by decide, fun b4 H4 s4 f4 r4 => ?_⟩
    have t4 := t3.trans s4
    refine ⟨_, rfl, a, dx, fs, rfl, t4 _ _ ha, hn2, _, rfl, _, rfl, a, 3, l, 2, 0, rfl, ht.same t4, by decide, by decide, fun b5 H5 s5 f5 r5 => ?_⟩
    rw [e02] at r5
    have t5 := t4.trans s5
    refine ⟨a, b4, b5, 3, l, [0, 1, 0, 0], [0, 0, 0, 0], 0, 1, 0, 0, rfl, ht.same t5, (r4.same s5).a, r5.a, by decide, ⟨rfl, rfl, rfl, rfl⟩, by decide, by decide, fun b6 H6 s6 f6 r6 => ?_⟩
    have t6 := t5.trans s6
    refine ⟨b3, b6, [0, 0, 0, 0], [0, 0, 0, 0], rfl, (r3.same ((s4.trans s5).trans s6)).a, r6.a, rfl, by decide, fun b7 H7 s7 f7 r7 => ?_⟩
    have t7 := t6.trans s7
    refine ⟨_, rfl, _, rfl, a, dx, fs, rfl, t7 _ _ ha, hn1, _, rfl, _, rfl, 4, 2, rfl, by decide, by decide, fun b8 H8 s8 f8 r8 => ?_⟩
    have t8 := t7.trans s8
    refine ⟨_, rfl, a, dx, fs, rfl, t8 _ _ ha, hn2, _, rfl, _, rfl, a, 3, l, 0, 1, rfl, ht.same t8, by decide, by decide, fun b9 H9 s9 f9 r9 => ?_⟩
    obtain ⟨d, e01⟩ := e01
    rw [e01] at r9
    have t9 := t8.trans s9
    refine ⟨a, b8, b9, 3, l, [0, 0, 1, 0], [0, 0, 0, d], 0, 0, 0, 0, rfl, ht.same t9, (r8.same s9).a, r9.a, by decide, ⟨rfl, rfl, rfl, rfl⟩, by decide, by decide, fun b10 H10 s10 f10 r10 => ?_⟩
    refine ⟨b7, b10, [0, 0, 0, 0], [0, 0, 0, 0], rfl, (r7.same ((s8.trans s9).trans s10)).a, r10.a, rfl, by decide, fun b11 H11 s11 f11 r11 => ?_⟩
    have t11 := (t9.trans s10).trans s11
    exact k b11 H11 t11 ((t9.trans s10).free f11) r11
abbrev N_first_fault : List Str := ["table", "one", "two", "three", "row"]
abbrev s_first_fault : Stmt := sFirstFault
theorem sc_first_fault : FnScope N_first_fault ["table"] (defScope s_first_fault) := ⟨rfl, rfl, rfl, by decide +kernel, rfl, by decide +kernel, by decide +kernel⟩
def sp_first_fault (K : PySem.W.Frag) : Sp := fun vs H Q _ => ∃ (a : Addr) (c : Nat) (l : Option Int), vs = [.ref a] ∧ TbR K H a c l ∧ c ≤ 3 ∧ ∀ H', Same H H' → Q .non H'
theorem ok_first_fault (T : Tx w K mg) (c_round_sum : Cal P w K mg base 4 "round_sum" (sp_round_sum K) []) (c_is_nought : Cal P w K mg base 1 "is_nought" (sp_is_nought K) []) : Cal P w K mg base 5 "first_fault" (sp_first_fault K) [] := by
  obtain ⟨fd, F, b⟩ := T.F_first_fault
  refine ⟨_, fd, _, [], F.ok sc_first_fault (fun vs H Q E h => ?_) (fun cdv A outer s H vs Q E hr h => ?_), T.g_first_fault, F.kp, b, .nil⟩
  · obtain ⟨a, c, l, rfl, _⟩ := h
    rfl
  · obtain ⟨a, c, l, rfl, ht, hc, k⟩ := h
    have hu := hu_of hr
    have nd := sc_first_fault.nd
    refine ⟨_, (pss_cons (ps_for PassesOwn.never rfl (pi_range1 rfl T.m_range (pa_cons (pe_fld (pv 0) rfl) pa_nil)) (pg_name (i := 1) nd rfl (.inl rfl)) (pss_one (ps_for PassesOwn.never rfl (pi_range2 rfl T.m_range (pa_cons (pe_op op_add (pv 1) pe_int) (pa_cons (pe_fld (pv 0) rfl) pa_nil))) (pg_name (i := 2) nd rfl (.inl rfl)) (pss_one (ps_for PassesOwn.never rfl (pi_range2 rfl T.m_range (pa_cons (pe_op op_add (pv 2) pe_int) (pa_cons (pe_fld (pv 0) rfl) pa_nil))) (pg_name (i := 3) nd rfl (.inl rfl)) (pss_cons (ps_set (i := 4) nd rfl (.inl rfl) (pe_c c_round_sum hr (by decide) rfl (pa_cons (pv 0) (pa_cons (pv 1) (pa_cons (pv 2) (pa_cons (pv 3) pa_nil))))))
      (pss_one (ps_if (pt_not (pt_val (pe_c c_is_nought hr (by decide) rfl (pa_cons (pv 4) pa_nil)))) (pss_one ps_never) pss_nil))))))))
      (pss_one (ps_ret pe_non))), ?_⟩
    obtain ⟨dx, fs, ra, ha, hw, hcn, hra, hn1, hn2, hre⟩ := id ht
    refine ⟨_, rfl, a, _, dx, fs, _, rfl, ha, T.cl_Table, T.n_count, hcn, (c : Int), rfl, by omega, by omega, for_it (walk_range (lo := 0) (n := ((c : Nat) : Int).toNat)) (fun i σ H' => Same H H' ∧ ∃ v1 v2 v3 v4, σ = [some (.ref a), v1, v2, v3, v4]) ⟨Same.refl _, none, none, none, none, rfl⟩ (fun _ _ _ _ _ => trivial) ?_ ?_⟩
    · rintro i x σ H' H'' hi ⟨s1, v1, v2, v3, v4, rfl⟩ ⟨rfl, rfl⟩
      refine ⟨_, rfl, _, _, rfl, rfl, _, rfl, a, _, dx, fs, _, rfl, s1 _ _ ha, T.cl_Table, T.n_count, hcn, _, _, rfl, ⟨by omega, by omega, by omega, by omega⟩, for_it (walk_range (lo := 0 + (i : Int) + 1) (n := ((c : Int) - (0 + (i : Int) + 1)).toNat)) (fun j σ H' => Same H H' ∧ ∃ v2 v3 v4, σ = [some (.ref a), some (.int (0 + (i : Int))), v2, v3, v4]) ⟨s1, v2, v3, v4, rfl⟩ (fun _ _ _ _ _ => trivial) ?_ ?_⟩
      · rintro j y σ H3 H4 hj ⟨s3, v2, v3, v4, rfl⟩ ⟨rfl, rfl⟩
        refine ⟨_, rfl, _, _, rfl, rfl, _, rfl, a, _, dx, fs, _, rfl, s3 _ _ ha, T.cl_Table, T.n_count, hcn, _, _, rfl, ⟨by omega, by omega, by omega, by omega⟩, for_it (walk_range (lo := 0 + (i : Int) + 1 + (j : Int) + 1) (n := ((c : Int) - (0 + (i : Int) + 1 + (j : Int) + 1)).toNat)) (fun _ σ H' => Same H H' ∧ ∃ v3 v4, σ = [some (.ref a), some (.int (0 + (i : Int))), some (.int (0 + (i : Int) + 1 + (j : Int))), v3, v4]) ⟨s3, v3, v4, rfl⟩ (fun _ _ _ _ _ => trivial) ?_ ?_⟩
        · rintro m z σ H5 H6 hm ⟨s5, v3, v4, rfl⟩ ⟨rfl, rfl⟩
          have hi0 : i = 0 := by omega
          have hj0 : j = 0 := by omega
          have hm0 : m = 0 := by omega
          have hc3 : c = 3 := by omega
          subst hi0 hj0 hm0 hc3
          refine ⟨_, rfl, _, rfl, _, rfl, _, rfl, a, l, rfl, ht.same s5, fun b H7 s7 f7 r7 => ?_⟩
          refine ⟨_, rfl, b, _, rfl, r7.a, _, rfl, ifF rfl ?_⟩
          exact ⟨s5.trans s7, _, _, rfl⟩
        · rintro σ H5 ⟨s5, v3, v4, rfl⟩
          exact ⟨s5, _, _, _, rfl⟩
      · rintro σ H3 ⟨s3, v2, v3, v4, rfl⟩
        exact ⟨s3, _, _, _, _, rfl⟩
    · rintro σ H' ⟨s1, v1, v2, v3, v4, rfl⟩
      exact k H' s1
abbrev N_need_law : List Str := ["table"]
abbrev s_need_law : Stmt := sNeedLaw
theorem sc_need_law : FnScope N_need_law ["table"] (defScope s_need_law) := ⟨rfl, rfl, rfl, by decide +kernel, rfl, by decide +kernel, by decide +kernel⟩
def sp_need_law (K : PySem.W.Frag) : Sp := fun vs H Q _ => ∃ (a : Addr) (c : Nat) (l : Option Int), vs = [.ref a] ∧ TbF K H a c l ∧ Q .non H
theorem ok_need_law (T : Tx w K mg) : Cal P w K mg base 1 "need_law" (sp_need_law K) [] := by
  obtain ⟨fd, F, b⟩ := T.F_need_law
  refine ⟨_, fd, _, [], F.ok sc_need_law (fun vs H Q E h => ?_) (fun cdv A outer s H vs Q E hr h => ?_), T.g_need_law, F.kp, b, .nil⟩
  · obtain ⟨a, c, l, rfl, _⟩ := h
    rfl
  · obtain ⟨a, c, l, rfl, ht, k⟩ := h
    have hu := hu_of hr
    have nd := sc_need_law.nd
    refine ⟨_, (pss_one (ps_if (pt_cmpR op_notN (pe_fld (pv 0) rfl) pe_non (nomark _)) (pss_one ps_never) pss_nil)), ?_⟩
    obtain ⟨dx, la, ra, ha, _, _⟩ := id ht
    refine ⟨_, rfl, a, _, dx, _, _, rfl, ha, T.cl_Table, T.n_fault, tfl_fault, rfl, _, rfl, ifF rfl ?_⟩
    exact k
abbrev N_Table_breaks : List Str := ["self", "one", "two", "three", "row"]
abbrev s_Table_breaks : Stmt := sTableBreaks
theorem sc_Table_breaks : FnScope N_Table_breaks ["self"] (defScope s_Table_breaks) := ⟨rfl, rfl, rfl, by decide +kernel, rfl, by decide +kernel, by decide +kernel⟩
def sp_Table_breaks (K : PySem.W.Frag) : Sp := fun vs H Q _ => ∃ (a : Addr) (c : Nat) (l : Option Int), vs = [.ref a] ∧ TbF K H a c l ∧ Q .non H
theorem ok_Table_breaks (T : Tx w K mg) : Met P w K mg base 1 (He.ga K "Table") "breaks" (sp_Table_breaks K) [] := by
  obtain ⟨fd, F, b⟩ := T.F_Table_breaks
  refine ⟨_, fd, _, [], T.cl_Table, T.me_Table_breaks, F.ok sc_Table_breaks (fun vs H Q E h => ?_) (fun cdv A outer s H vs Q E hr h => ?_), b, .nil⟩
  · obtain ⟨a, c, l, rfl, _⟩ := h
    rfl
  · obtain ⟨a, c, l, rfl, ht, k⟩ := h
    have hu := hu_of hr
    have nd := sc_Table_breaks.nd
    refine ⟨_, (pss_cons (ps_if (pt_cmpR op_isN (pe_fld (pv 0) rfl) pe_non (nomark _)) (pss_one (ps_ret pe_non)) pss_nil)
      (pss_cons ps_never
      (pss_one ps_never))), ?_⟩
    obtain ⟨dx, la, ra, ha, _, _⟩ := id ht
    refine ⟨_, rfl, a, _, dx, _, _, rfl, ha, T.cl_Table, T.n_fault, tfl_fault, rfl, _, rfl, ifT rfl ?_⟩
    exact k
end
end Sw

/-! ## G5 -/
namespace Sw
open PySem PySem.Spec PyProof.Rows L2
open C8 (Cal Met Mak pe_c pe_mk pe_mt pe_mt0 pe_gc)
section
variable {P : Program} {w : World} {K : PySem.W.Frag} {mg : Str → Option Value} {base : Heap}
abbrev N_Table___init__ : List Str := ["self", "count", "leavings", "told", "place", "one", "other", "row", "pairs", "pair"]
abbrev s_Table___init__ : Stmt := sTableInit
theorem sc_Table___init__ : FnScope N_Table___init__ ["self", "count", "leavings"] (defScope s_Table___init__) := ⟨rfl, rfl, rfl, by decide +kernel, rfl, by decide +kernel, by decide +kernel⟩
def sp_Table___init__ (K : PySem.W.Frag) : Sp := fun vs H Q _ => ∃ (a dx lv : Addr) (c : Nat) (l : Option Int), vs = [.ref a, .int c, .ref lv] ∧ H a = some (.ins (cT K) dx []) ∧ 1 ≤ c ∧ c ≤ 3 ∧ lv ≠ a ∧ LvIn K H lv c l ∧ ∀ H', Keep a H H' → TbN K H H' a c l → Q .non H'
theorem ok_Table___init__ (T : Tx w K mg) (c_is_whole : Cal P w K mg base 1 "is_whole" (sp_is_whole K) []) (c_are_ways : Cal P w K mg base 2 "are_ways" (sp_are_ways K) []) (c_is_row : Cal P w K mg base 3 "is_row" (sp_is_row K) []) (c_is_nought : Cal P w K mg base 1 "is_nought" (sp_is_nought K) []) (c_first_fault : Cal P w K mg base 5 "first_fault" (sp_first_fault K) []) : Mak P w K mg base 6 "Table" (He.ga K "Table") (sp_Table___init__ K) [] := by
  obtain ⟨fd, F, b⟩ := T.F_Table___init__
  refine ⟨_, fd, _, [], T.mk_Table, F.ok sc_Table___init__ (fun vs H Q E h => ?_) (fun cdv A outer s H vs Q E hr h => ?_), T.g_Table, b, .nil⟩
  · obtain ⟨a, dx, lv, c, l, rfl, _⟩ := h
    rfl
  · obtain ⟨a, dx, lv, c, l, rfl, ha, hc1, hc3, hlv, hl, k⟩ := h
    have hu := hu_of hr
    have nd := sc_Table___init__.nd
    refine ⟨_, (pss_cons (ps_if (PW.pt (pw_or (pt_not (pt_val (pe_c c_is_whole hr (by decide) rfl (pa_cons (pv 1) pa_nil)))) (pw_or (pt_cmpR op_lt (pv 1) pe_int (nomark _)) (pw_or1 (pt_cmpR op_gt (pv 1) pe_int (nomark _)))))) (pss_one ps_never) pss_nil)
      (pss_cons (ps_set (i := 3) nd rfl (.inr rfl) pe_dnewT)
      (pss_cons (ps_for PassesOwn.never rfl (pi_enum rfl T.m_enumerate (pa_cons (pv 2) pa_nil)) (pg_tup rfl (pgs_cons (pg_name (i := 4) nd rfl (.inl rfl)) (pgs_cons (pg_tup rfl (pgs_cons (pg_name (i := 5) nd rfl (.inl rfl)) (pgs_cons (pg_name (i := 6) nd rfl (.inl rfl)) (pgs_cons (pg_name (i := 7) nd rfl (.inl rfl)) pgs_nil)))) pgs_nil))) (pss_cons (ps_if (PW.pt (pw_or (pt_not (pt_val (pe_c c_are_ways hr (by decide) rfl (pa_cons (pv 1) (pa_cons (pv 5) (pa_cons (pv 6) pa_nil)))))) (pw_or1 (pt_cmp (pc_din hu (pe_tup (pa_cons (pv 5) (pa_cons (pv 6) pa_nil))) (pv 3)) rfl)))) (pss_one ps_never) pss_nil)
      (pss_cons (ps_if (pt_not (pt_val (pe_c c_is_row hr (by decide) rfl (pa_cons (pv 7) (pa_cons (pe_op op_add (pv 1) pe_int) pa_nil))))) (pss_one ps_never) pss_nil)
      (pss_one (ps_dput hu (pv 3) (pe_tup (pa_cons (pv 5) (pa_cons (pv 6) pa_nil))) (pe_callTy call_list_of rfl T.m_list (by decide +kernel) (pa_cons (pv 7) pa_nil)) rfl)))))
      (pss_cons (ps_setLc (i := 8) (own := [("pair", 9)]) (g := gName 9) rfl nd rfl rfl (sw_true rfl rfl rfl (by decide +kernel)) (pi_list (pe_callB (call_sortedT rfl) rfl T.m_sorted (by decide +kernel) (pa_cons (pv 3) pa_nil))) (blkOk_by (own := [("pair", 9)]) (N := N_Table___init__) (sc := defScope s_Table___init__) (by decide +kernel)) (fun _ _ _ _ _ => (pg_name (i := 9) nd rfl (.inl rfl))) (fun _ _ _ _ _ => (pts_one (pt_not (pt_val (pe_c c_is_nought hr (by decide) rfl (pa_cons (pe_dget hu (pv 3) (pv 9) (fun _ _ => rfl)) pa_nil)))))) (fun _ _ _ _ _ => (pv 9)))
      (pss_cons (ps_fld (pv 0) (pv 1) rfl)
      (pss_cons (ps_fld (pv 0) (pe_op op_add (pv 1) pe_int) rfl)
      (pss_cons (ps_fld (pv 0) (pe_callTy call_tuple_of rfl T.m_tuple (by decide +kernel) (pa_cons (pe_lc (own := [("one", 5), ("other", 6)]) (g := gTup K 2 (gCons (gName 5) (gCons (gName 6) gNil))) rfl nd (pi_list (pv 8)) (blkOk_by (own := [("one", 5), ("other", 6)]) (N := N_Table___init__) (sc := defScope s_Table___init__) (by decide +kernel)) (fun _ _ _ _ _ => (pg_tup rfl (pgs_cons (pg_name (i := 5) nd rfl (.inl rfl)) (pgs_cons (pg_name (i := 6) nd rfl (.inl rfl)) pgs_nil)))) (fun _ _ _ _ _ => pts_nil) (fun _ _ _ _ _ => (pe_tup (pa_cons (pv 5) (pa_cons (pv 6) (pa_cons (pe_callTy (call_tuple_ofK K) rfl T.m_tuple (by decide +kernel) (pa_cons (pe_dget hu (pv 3) (pe_tup (pa_cons (pv 5) (pa_cons (pv 6) pa_nil))) (fun _ _ => rfl)) pa_nil)) pa_nil)))))) pa_nil)) rfl)
      (pss_cons (ps_fld (pv 0) (pe_lc (own := [("one", 5), ("other", 6)]) (g := gTup K 2 (gCons (gName 5) (gCons (gName 6) gNil))) rfl nd (pi_list (pv 8)) (blkOk_by (own := [("one", 5), ("other", 6)]) (N := N_Table___init__) (sc := defScope s_Table___init__) (by decide +kernel)) (fun _ _ _ _ _ => (pg_tup rfl (pgs_cons (pg_name (i := 5) nd rfl (.inl rfl)) (pgs_cons (pg_name (i := 6) nd rfl (.inl rfl)) pgs_nil)))) (fun _ _ _ _ _ => pts_nil) (fun _ _ _ _ _ => (pe_tup (pa_cons (pv 5) (pa_cons (pv 6) (pa_cons (pe_dget hu (pv 3) (pe_tup (pa_cons (pv 5) (pa_cons (pv 6) pa_nil))) (fun _ _ => rfl)) pa_nil)))))) rfl)
      (pss_one (ps_fld (pv 0) (pe_c c_first_fault hr (by decide) rfl (pa_cons (pv 0) pa_nil)) rfl)))))))))), ?_⟩
    refine ⟨_, rfl, (c : Int), rfl, _, rfl, ifF rfl ⟨_, rfl, _, _, rfl, rfl, _, rfl, ifF (decide_eq_false (by omega)) ⟨_, rfl, _, _, rfl, rfl, _, rfl, ifF (decide_eq_false (by omega)) ?_⟩⟩⟩
    intro q hq
    obtain ⟨xs, hxs, hx1, hxn, hxa⟩ := hl.list
    refine ⟨_, rfl, lv, xs, rfl, (same_new hq).seq hxs, for_it (walk_enum (xs := xs)) (fun i σ H' => ∃ (kvs : List (List Key × V)) (v4 v5 v6 v7 v8 v9 : Option V), σ = [some (.ref a), some (.int c), some (.ref lv), some (.ref q), v4, v5, v6, v7, v8, v9] ∧ Same H H' ∧ H' q = some (.dT kvs) ∧ (i = 0 → kvs = []) ∧
        (0 < i → ∃ d rt, l = some d ∧ 2 ≤ c ∧ d ≠ 0 ∧ kvs = [([.inl 0, .inl 1], .ref rt)] ∧ RwN K H' rt (rowI c d) ∧ H rt = none))
      ⟨[], none, none, none, none, none, none, rfl, same_new hq, upd_same, fun _ => rfl, fun z => absurd z (by decide)⟩ (fun i σ H' _ e => by obtain ⟨kvs, _, _, _, _, _, _, _, s1, _⟩ := e; exact s1.seq hxs) ?_ ?_⟩
    · rintro i x σ H' H'' hi ⟨kvs, v4, v5, v6, v7, v8, v9, rfl, s1, hqk, hk0, _⟩ ⟨t', u, v, rfl, ht', rfl, hu', hv'⟩
      have hi0 : i = 0 := by omega
      subst hi0
      have ek := hk0 rfl
      subst ek
      have eu : V.int ((0 : Nat) : Int) = u := Option.some.inj hu'
      subst eu
      obtain ⟨d, t, rt, el, hc2, hd0, rfl, ht2, hrt⟩ := hxa v (List.mem_of_getElem? hv')
      have s2 : Same H (upd H' t' (.tup [.int ((0 : Nat) : Int), .ref t])) := s1.trans (same_new ht')
      have q2 : (upd H' t' (.tup [.int ((0 : Nat) : Int), .ref t])) q = some (.dT []) := by rw [upd_ne (ne_free hqk ht')]; exact hqk
      generalize hH2 : upd H' t' (.tup [.int ((0 : Nat) : Int), .ref t]) = H2 at s2 q2 ⊢
      have ht3 : SqT K H2 t' [.int ((0 : Nat) : Int), .ref t] := by rw [← hH2]; exact SqT.of upd_same
      refine ⟨t', _, rfl, ht3, rfl, _, _, rfl, _, _, rfl, t, _, rfl, Same.sqT s2 ht2, rfl, _, _, rfl, _, _, rfl, _, _, rfl, rfl, rfl, ?_⟩
      refine ⟨_, rfl, _, rfl, _, rfl, (c : Int), rfl, by omega, _, rfl, ifF rfl ⟨_, rfl, _, rfl, sz2, fun p hp => ?_⟩⟩
      have s3 := s2.trans (same_new (o := .tup [.int 0, .int 1]) hp)
      have q3 : (upd H2 p (.tup [.int 0, .int 1])) q = some (.dT []) := by rw [upd_ne (ne_free q2 hp)]; exact q2
      refine ⟨_, rfl, q, _, rfl, DGet.t (k := [.inl 0, .inl 1]) q3 upd_same, _, rfl, ifF rfl ?_⟩
      generalize upd H2 p (.tup [.int 0, .int 1]) = H3 at s3 q3 ⊢
      refine ⟨_, rfl, _, rfl, _, _, rfl, rfl, rt, rowI c d, (by rw [rowI_len]; rfl), hrt.same s3, _, rfl, ifF rfl ?_⟩
      obtain ⟨rx, hrx, hrp⟩ := hrt
      refine ⟨_, rfl, _, _, rfl, .inl (s3.seq hrx), fun rt2 hrt2 => ?_⟩
      have s4 := s3.trans (same_new (o := .lst rx) hrt2)
      have q4 : (upd H3 rt2 (.lst rx)) q = some (.dT []) := by rw [upd_ne (ne_free q3 hrt2)]; exact q3
      have r4 : (upd H3 rt2 (.lst rx)) rt2 = some (.lst rx) := upd_same
      generalize upd H3 rt2 (.lst rx) = H4 at s4 q4 r4 ⊢
      refine ⟨_, rfl, _, rfl, _, rfl, sz2, fun p2 hp2 => ?_⟩
      have s5 := s4.trans (same_new (o := .tup [.int 0, .int 1]) hp2)
      have q5 : (upd H4 p2 (.tup [.int 0, .int 1])) q = some (.dT []) := by rw [upd_ne (ne_free q4 hp2)]; exact q4
      have r5 : (upd H4 p2 (.tup [.int 0, .int 1])) rt2 = some (.lst rx) := by rw [upd_ne (ne_free r4 hp2)]; exact r4
      have e5 : (upd H4 p2 (.tup [.int 0, .int 1])) p2 = some (.tup [.int 0, .int 1]) := upd_same
      generalize upd H4 p2 (.tup [.int 0, .int 1]) = H5 at s5 q5 r5 e5 ⊢
      refine ⟨q, _, rfl, DPut.t (k := [.inl 0, .inl 1]) q5 e5 (by show 0 < sizeLine; decide), ?_⟩
      refine ⟨[([.inl 0, .inl 1], .ref rt2)], _, _, _, _, _, _, rfl, Same.mut s5 hq, upd_same, fun z => absurd z (by omega), fun _ => ⟨d, rt2, el, hc2, hd0, rfl, ⟨rx, ?_, ?_⟩, s3.free hrt2⟩⟩
      · rw [upd_ne (ne_of r5 q5 (fun z => nomatch z))]
        exact r5
      · exact nms_t (nms_same hrp s5) (SameT.chg q5 rfl)
    · rintro σ H1 ⟨kvs, v4, v5, v6, v7, v8, v9, rfl, s1, hq1, hk0, hk1⟩
      have hkl : kvs.length ≤ 1 := by
        rcases Nat.eq_zero_or_pos xs.length with h0 | h0
        · rw [hk0 h0]
          simp
        · obtain ⟨_, _, _, _, _, e, _⟩ := hk1 h0
          rw [e]
          simp
      have ha1 := s1 _ _ ha
      refine ⟨_, rfl, q, kvs, rfl, .inl hq1, hkl, fun p bs hp hk => ?_⟩
      rcases Nat.eq_zero_or_pos xs.length with h0 | h0
      · -- nothing is left of two ways
        have e0 := hk0 h0
        subst e0
        cases hk
        have el : l = none := hxn (List.length_eq_zero_iff.mp h0)
        subst el
        rw [List.map_nil]
        refine ⟨p, rfl, ⟨_, SqL.of upd_same⟩, fun D hD => lc_nil (walk_list (xs := [])) ((same_new hD).seq (SqL.of upd_same)) ?_⟩
        have kp : Keep a H (upd (upd H1 p (.lst [])) D (.lst [])) := Keep.new (Keep.new (Keep.of s1) hp) hD
        have haD : a ≠ D := ne_free (same_new (o := .lst []) hp _ _ ha1) hD
        have ha2 : (upd (upd H1 p (.lst [])) D (.lst [])) a = some (.ins (cT K) dx []) := same_new hD _ _ (same_new hp _ _ ha1)
        have hD2 : (upd (upd H1 p (.lst [])) D (.lst [])) D = some (.lst []) := upd_same
        generalize upd (upd H1 p (.lst [])) D (.lst []) = H2 at kp ha2 hD2 ⊢
        refine ⟨_, rfl, _, rfl, a, _, dx, _, rfl, ha2, T.cl_Table, T.n_count, by decide, ?_⟩
        refine ⟨_, rfl, _, _, rfl, rfl, _, rfl, a, _, dx, _, rfl, upd_same, T.cl_Table, T.n_width, Nat.lt_of_le_of_lt (putF_len _ _ _) (by decide), ?_⟩
        have hD3 : (upd (upd H2 a (.ins (cT K) dx (putF "count" (.int c) []))) a (.ins (cT K) dx (putF "width" (.int ((c : Int) + 1)) (putF "count" (.int c) [])))) D = some (.lst []) := by
          rw [upd_ne haD.symm, upd_ne haD.symm]
          exact hD2
        have kp3 : Keep a H (upd (upd H2 a (.ins (cT K) dx (putF "count" (.int c) []))) a (.ins (cT K) dx (putF "width" (.int ((c : Int) + 1)) (putF "count" (.int c) [])))) := Keep.at (Keep.at kp)
        have ha3 : (upd (upd H2 a (.ins (cT K) dx (putF "count" (.int c) []))) a (.ins (cT K) dx (putF "width" (.int ((c : Int) + 1)) (putF "count" (.int c) [])))) a = some (.ins (cT K) dx (putF "width" (.int ((c : Int) + 1)) (putF "count" (.int c) []))) := upd_same
        generalize upd (upd H2 a (.ins (cT K) dx (putF "count" (.int c) []))) a (.ins (cT K) dx (putF "width" (.int ((c : Int) + 1)) (putF "count" (.int c) []))) = H3 at hD3 kp3 ha3 ⊢
        refine ⟨_, rfl, D, rfl, ⟨_, SqL.of hD3⟩, fun D2 hD2n => lc_nil (walk_list (xs := [])) ((same_new hD2n).seq (SqL.of hD3)) ?_⟩
        refine ⟨_, _, rfl, .inl ⟨SqL.of upd_same, fun la hla => ?_⟩⟩
        have s4 : Same H3 (upd (upd H3 D2 (.lst [])) la (.tup [])) := Same.new (same_new hD2n) hla
        have hla4 : (upd (upd H3 D2 (.lst [])) la (.tup [])) la = some (.tup []) := upd_same
        have haL : la ≠ a := (ne_free (same_new (o := .lst []) hD2n _ _ ha3) hla).symm
        generalize upd (upd H3 D2 (.lst [])) la (.tup []) = H4 at s4 hla4 ⊢
        refine ⟨_, rfl, a, _, dx, _, rfl, s4 _ _ ha3, T.cl_Table, T.n_leavings, Nat.lt_of_le_of_lt (Nat.le_trans (putF_len _ _ _) (Nat.succ_le_succ (putF_len _ _ _))) (by decide), ?_⟩
        have kp5 : Keep a H (upd H4 a (.ins (cT K) dx (putF "leavings" (.ref la) (putF "width" (.int ((c : Int) + 1)) (putF "count" (.int c) []))))) := Keep.at (kp3.same s4)
        have hD5 : (upd H4 a (.ins (cT K) dx (putF "leavings" (.ref la) (putF "width" (.int ((c : Int) + 1)) (putF "count" (.int c) []))))) D = some (.lst []) := by
          rw [upd_ne haD.symm]
          exact s4 _ _ hD3
        have hla5 : (upd H4 a (.ins (cT K) dx (putF "leavings" (.ref la) (putF "width" (.int ((c : Int) + 1)) (putF "count" (.int c) []))))) la = some (.tup []) := by
          rw [upd_ne haL]
          exact hla4
        have ha5 : (upd H4 a (.ins (cT K) dx (putF "leavings" (.ref la) (putF "width" (.int ((c : Int) + 1)) (putF "count" (.int c) []))))) a = some (.ins (cT K) dx (putF "leavings" (.ref la) (putF "width" (.int ((c : Int) + 1)) (putF "count" (.int c) [])))) := upd_same
        generalize upd H4 a (.ins (cT K) dx (putF "leavings" (.ref la) (putF "width" (.int ((c : Int) + 1)) (putF "count" (.int c) [])))) = H5 at kp5 hD5 hla5 ha5 ⊢
        refine ⟨_, rfl, D, rfl, ⟨_, SqL.of hD5⟩, fun ra hra => lc_nil (walk_list (xs := [])) ((same_new hra).seq (SqL.of hD5)) ?_⟩
        have haR : ra ≠ a := (ne_free ha5 hra).symm
        have hraF : H ra = none := kp5.none haR hra
        have s6 : Same H5 (upd H5 ra (.lst [])) := same_new hra
        have hra6 : (upd H5 ra (.lst [])) ra = some (.lst []) := upd_same
        generalize upd H5 ra (.lst []) = H6 at s6 hra6 ⊢
        refine ⟨_, rfl, a, _, dx, _, rfl, s6 _ _ ha5, T.cl_Table, T.n_rests, Nat.lt_of_le_of_lt (Nat.le_trans (putF_len _ _ _) (Nat.succ_le_succ (Nat.le_trans (putF_len _ _ _) (Nat.succ_le_succ (putF_len _ _ _))))) (by decide), ?_⟩
        have kp7 : Keep a H (upd H6 a (.ins (cT K) dx (tf4 c la ra))) := Keep.at (kp5.same s6)
        have hra7 : (upd H6 a (.ins (cT K) dx (tf4 c la ra))) ra = some (.lst []) := by
          rw [upd_ne haR]
          exact hra6
        have hla7 : (upd H6 a (.ins (cT K) dx (tf4 c la ra))) la = some (.tup []) := by
          rw [upd_ne haL]
          exact s6 _ _ hla5
        have ha7 : (upd H6 a (.ins (cT K) dx (tf4 c la ra))) a = some (.ins (cT K) dx (tf4 c la ra)) := upd_same
        rw [show putF "rests" (V.ref ra) (putF "leavings" (V.ref la) (putF "width" (V.int ((c : Int) + 1)) (putF "count" (V.int c) []))) = tf4 c la ra from rfl]
        generalize upd H6 a (.ins (cT K) dx (tf4 c la ra)) = H7 at kp7 hra7 hla7 ha7 ⊢
        refine ⟨_, rfl, a, c, none, rfl, tbR_of ha7 (SqL.of hra7), hc3, fun H8 s8 => ?_⟩
        refine ⟨_, rfl, a, _, dx, _, rfl, s8 _ _ ha7, T.cl_Table, T.n_fault, tf4_len, ?_⟩
        refine k _ (Keep.at (kp7.same s8)) ⟨dx, la, ra, upd_same, ?_, hraF, ?_⟩
        · show SqT K _ la []
          refine SqT.of ?_
          rw [upd_ne haL]
          exact s8 _ _ hla7
        · show SqL K _ ra []
          refine SqL.of ?_
          rw [upd_ne haR]
          exact s8 _ _ hra7
      · -- a number alone is left of the ways 0 and 1
        obtain ⟨d, rt, el, hc2, hd0, ek, ⟨rx, hrt, hrp⟩, hrtF⟩ := hk1 h0
        subst el ek
        obtain ⟨b, rfl, hb⟩ := isKeys_one hk
        have hb : H1 b = some (.tup [.int 0, .int 1]) := hb
        refine ⟨p, rfl, ⟨_, SqL.of upd_same⟩, fun D hD => lc_one (walk_list (xs := [.ref b])) ((same_new hD).seq (SqL.of upd_same)) fun x H'' R Pn hy hR hP => ?_⟩
        obtain ⟨rfl, hx⟩ := hy
        have ex : V.ref b = x := Option.some.inj hx
        subst ex
        have s2 : Same H1 (upd (upd H1 p (.lst [.ref b])) D (.lst [])) := Same.new (same_new hp) hD
        have hp2 : (upd (upd H1 p (.lst [.ref b])) D (.lst [])) p = some (.lst [.ref b]) := same_new hD _ _ upd_same
        have hD2 : (upd (upd H1 p (.lst [.ref b])) D (.lst [])) D = some (.lst []) := upd_same
        have hDp : p ≠ D := ne_free (o := .lst [.ref b]) upd_same hD
        have hDn : H1 D = none := by
          rw [upd_ne hDp.symm] at hD
          exact hD
        show gName 9 _ _ (upd (upd H1 p (.lst [.ref b])) D (.lst [])) _
        generalize upd (upd H1 p (.lst [.ref b])) D (.lst []) = H2 at s2 hp2 hD2 ⊢
        refine ⟨rfl, _, rfl, _, rfl, q, .ref rt, rfl, DGet.t (k := [.inl 0, .inl 1]) (s2 _ _ hq1) (s2 _ _ hb), rt, rowI c d, rfl, ⟨rx, SqL.of (s2 _ _ hrt), nms_same hrp s2⟩, _, rfl, ifT (by rw [rowI_all hd0]; rfl) ?_⟩
        refine ⟨_, rfl, hR _ _ hD2 (SqL.of (by rw [upd_ne hDp]; exact hp2)) ?_⟩
        -- what stands
        have s3 : Same H1 (upd H2 D (.lst [.ref b])) := Same.mut s2 hDn
        have hD3 : (upd H2 D (.lst [.ref b])) D = some (.lst [.ref b]) := upd_same
        generalize upd H2 D (.lst [.ref b]) = H3 at s3 hD3 ⊢
        have kp3 : Keep a H H3 := Keep.of (s1.trans s3)
        have ha3 := s3 _ _ ha1
        have hq3 := s3 _ _ hq1
        have hb3 := s3 _ _ hb
        have hr3 := s3 _ _ hrt
        have hn3 := nms_same hrp s3
        clear hq1 hb hrt hrp s2 hp2 hD2 hR hP
        refine ⟨_, rfl, _, rfl, a, _, dx, _, rfl, ha3, T.cl_Table, T.n_count, by decide, ?_⟩
        refine ⟨_, rfl, _, _, rfl, rfl, _, rfl, a, _, dx, _, rfl, upd_same, T.cl_Table, T.n_width, Nat.lt_of_le_of_lt (putF_len _ _ _) (by decide), ?_⟩
        have c4 : SameT H3 (upd (upd H3 a (.ins (cT K) dx (putF "count" (.int c) []))) a (.ins (cT K) dx (putF "width" (.int ((c : Int) + 1)) (putF "count" (.int c) [])))) := (SameT.chg ha3 rfl).trans (SameT.chg upd_same rfl)
        have up : ∀ {x : Addr} {o : HO}, H3 x = some o → o ≠ .ins (cT K) dx [] → (upd (upd H3 a (.ins (cT K) dx (putF "count" (.int c) []))) a (.ins (cT K) dx (putF "width" (.int ((c : Int) + 1)) (putF "count" (.int c) [])))) x = some o := fun {x o} h n => by
          have hxa := ne_of h ha3 n
          rw [upd_ne hxa, upd_ne hxa]
          exact h
        have kp4 : Keep a H (upd (upd H3 a (.ins (cT K) dx (putF "count" (.int c) []))) a (.ins (cT K) dx (putF "width" (.int ((c : Int) + 1)) (putF "count" (.int c) [])))) := Keep.at (Keep.at kp3)
        have ha4 : (upd (upd H3 a (.ins (cT K) dx (putF "count" (.int c) []))) a (.ins (cT K) dx (putF "width" (.int ((c : Int) + 1)) (putF "count" (.int c) [])))) a = some (.ins (cT K) dx (putF "width" (.int ((c : Int) + 1)) (putF "count" (.int c) []))) := upd_same
        have hq4 := up hq3 (fun z => nomatch z)
        have hb4 := up hb3 (fun z => nomatch z)
        have hr4 := up hr3 (fun z => nomatch z)
        have hD4 := up hD3 (fun z => nomatch z)
        have hn4 := nms_t hn3 c4
        clear up c4
        generalize upd (upd H3 a (.ins (cT K) dx (putF "count" (.int c) []))) a (.ins (cT K) dx (putF "width" (.int ((c : Int) + 1)) (putF "count" (.int c) []))) = H4 at kp4 ha4 hq4 hb4 hr4 hD4 hn4 ⊢
        clear ha3 hq3 hb3 hr3 hn3 hD3 kp3 s3
        -- self.leavings
        refine ⟨_, rfl, D, rfl, ⟨_, SqL.of hD4⟩, fun D2 hD2n => lc_one (walk_list (xs := [.ref b])) ((same_new hD2n).seq (SqL.of hD4)) fun x H'' R Pn hy hR hP => ?_⟩
        obtain ⟨rfl, hx⟩ := hy
        have ex : V.ref b = x := Option.some.inj hx
        subst ex
        have s5 : Same H4 (upd H4 D2 (.lst [])) := same_new hD2n
        refine ⟨b, _, rfl, SqT.of (s5 _ _ hb4), rfl, _, _, rfl, _, _, rfl, rfl, rfl, yesR ?_⟩
        refine ⟨_, rfl, _, rfl, _, rfl, _, rfl, _, rfl, sz2, fun p2 hp2 => ?_⟩
        have s6 : Same (upd H4 D2 (.lst [])) (upd (upd H4 D2 (.lst [])) p2 (.tup [.int 0, .int 1])) := same_new hp2
        refine ⟨q, .ref rt, rfl, DGet.t (k := [.inl 0, .inl 1]) (s6 _ _ (s5 _ _ hq4)) upd_same, _, _, rfl, .inl ⟨SqL.of (s6 _ _ (s5 _ _ hr4)), fun rt2 hrt2 => ?_⟩⟩
        have s7 : Same H4 (upd (upd (upd H4 D2 (.lst [])) p2 (.tup [.int 0, .int 1])) rt2 (.tup rx)) := (s5.trans s6).trans (same_new hrt2)
        have hD7 : (upd (upd (upd H4 D2 (.lst [])) p2 (.tup [.int 0, .int 1])) rt2 (.tup rx)) D2 = some (.lst []) := same_new hrt2 _ _ (s6 _ _ upd_same)
        have hr7 : (upd (upd (upd H4 D2 (.lst [])) p2 (.tup [.int 0, .int 1])) rt2 (.tup rx)) rt2 = some (.tup rx) := upd_same
        refine ⟨sz3, fun t3 ht3 => ?_⟩
        generalize upd (upd (upd H4 D2 (.lst [])) p2 (.tup [.int 0, .int 1])) rt2 (.tup rx) = H7 at s7 hD7 hr7 ht3 ⊢
        have s8 : Same H4 (upd H7 t3 (.tup [.int 0, .int 1, .ref rt2])) := s7.trans (same_new ht3)
        have hD8 : (upd H7 t3 (.tup [.int 0, .int 1, .ref rt2])) D2 = some (.lst []) := same_new ht3 _ _ hD7
        have hr8 : (upd H7 t3 (.tup [.int 0, .int 1, .ref rt2])) rt2 = some (.tup rx) := same_new ht3 _ _ hr7
        have ht8 : (upd H7 t3 (.tup [.int 0, .int 1, .ref rt2])) t3 = some (.tup [.int 0, .int 1, .ref rt2]) := upd_same
        generalize upd H7 t3 (.tup [.int 0, .int 1, .ref rt2]) = H8 at s8 hD8 hr8 ht8 ⊢
        have s9 : Same H4 (upd H8 D2 (.lst [.ref t3])) := Same.mut s8 hD2n
        refine hR _ _ hD8 (s9.seq (SqL.of hD4)) ?_
        have hr9 : (upd H8 D2 (.lst [.ref t3])) rt2 = some (.tup rx) := upd_keep hr8 hD8 (fun z => nomatch z)
        have ht9 : (upd H8 D2 (.lst [.ref t3])) t3 = some (.tup [.int 0, .int 1, .ref rt2]) := upd_keep ht8 hD8 (fun z => nomatch z)
        refine ⟨_, _, rfl, .inl ⟨SqL.of upd_same, fun la hla => ?_⟩⟩
        generalize upd H8 D2 (.lst [.ref t3]) = H9 at s9 hr9 ht9 hla ⊢
        have s10 : Same H4 (upd H9 la (.tup [.ref t3])) := s9.trans (same_new hla)
        have hr10 := same_new (o := .tup [.ref t3]) hla _ _ hr9
        have ht10 := same_new (o := .tup [.ref t3]) hla _ _ ht9
        have hl10 : (upd H9 la (.tup [.ref t3])) la = some (.tup [.ref t3]) := upd_same
        generalize upd H9 la (.tup [.ref t3]) = H10 at s10 hr10 ht10 hl10 ⊢
        have ha10 := s10 _ _ ha4
        refine ⟨_, rfl, a, _, dx, _, rfl, ha10, T.cl_Table, T.n_leavings, Nat.lt_of_le_of_lt (Nat.le_trans (putF_len _ _ _) (Nat.succ_le_succ (putF_len _ _ _))) (by decide), ?_⟩
        have kp11 : Keep a H (upd H10 a (.ins (cT K) dx (putF "leavings" (.ref la) (putF "width" (.int ((c : Int) + 1)) (putF "count" (.int c) []))))) := Keep.at (kp4.same s10)
        have c11 : SameT H10 (upd H10 a (.ins (cT K) dx (putF "leavings" (.ref la) (putF "width" (.int ((c : Int) + 1)) (putF "count" (.int c) []))))) := SameT.chg ha10 rfl
        have hD11 := upd_keep (w := .ins (cT K) dx (putF "leavings" (.ref la) (putF "width" (.int ((c : Int) + 1)) (putF "count" (.int c) [])))) (s10 _ _ hD4) ha10 (fun z => nomatch z)
        have hq11 := upd_keep (w := .ins (cT K) dx (putF "leavings" (.ref la) (putF "width" (.int ((c : Int) + 1)) (putF "count" (.int c) [])))) (s10 _ _ hq4) ha10 (fun z => nomatch z)
        have hb11 := upd_keep (w := .ins (cT K) dx (putF "leavings" (.ref la) (putF "width" (.int ((c : Int) + 1)) (putF "count" (.int c) [])))) (s10 _ _ hb4) ha10 (fun z => nomatch z)
        have hrr11 := upd_keep (w := .ins (cT K) dx (putF "leavings" (.ref la) (putF "width" (.int ((c : Int) + 1)) (putF "count" (.int c) [])))) (s10 _ _ hr4) ha10 (fun z => nomatch z)
        have hr11 := upd_keep (w := .ins (cT K) dx (putF "leavings" (.ref la) (putF "width" (.int ((c : Int) + 1)) (putF "count" (.int c) [])))) hr10 ha10 (fun z => nomatch z)
        have ht11 := upd_keep (w := .ins (cT K) dx (putF "leavings" (.ref la) (putF "width" (.int ((c : Int) + 1)) (putF "count" (.int c) [])))) ht10 ha10 (fun z => nomatch z)
        have hl11 := upd_keep (w := .ins (cT K) dx (putF "leavings" (.ref la) (putF "width" (.int ((c : Int) + 1)) (putF "count" (.int c) [])))) hl10 ha10 (fun z => nomatch z)
        have hn11 := nms_t (nms_same hn4 s10) c11
        have ha11 : (upd H10 a (.ins (cT K) dx (putF "leavings" (.ref la) (putF "width" (.int ((c : Int) + 1)) (putF "count" (.int c) []))))) a = some (.ins (cT K) dx (putF "leavings" (.ref la) (putF "width" (.int ((c : Int) + 1)) (putF "count" (.int c) [])))) := upd_same
        clear c11
        generalize upd H10 a (.ins (cT K) dx (putF "leavings" (.ref la) (putF "width" (.int ((c : Int) + 1)) (putF "count" (.int c) [])))) = H11 at kp11 hD11 hq11 hb11 hrr11 hr11 ht11 hl11 hn11 ha11 ⊢
        -- self.rests
        refine ⟨_, rfl, D, rfl, ⟨_, SqL.of hD11⟩, fun ra hra => lc_one (walk_list (xs := [.ref b])) ((same_new hra).seq (SqL.of hD11)) fun x H'' R2 Pn2 hy hR2 hP2 => ?_⟩
        obtain ⟨rfl, hx⟩ := hy
        have ex : V.ref b = x := Option.some.inj hx
        subst ex
        have s12 : Same H11 (upd H11 ra (.lst [])) := same_new hra
        have hraF : H ra = none := kp11.none (ne_free ha11 hra).symm hra
        refine ⟨b, _, rfl, SqT.of (s12 _ _ hb11), rfl, _, _, rfl, _, _, rfl, rfl, rfl, yesR ?_⟩
        refine ⟨_, rfl, _, rfl, _, rfl, _, rfl, _, rfl, sz2, fun p3 hp3 => ?_⟩
        have s13 : Same (upd H11 ra (.lst [])) (upd (upd H11 ra (.lst [])) p3 (.tup [.int 0, .int 1])) := same_new hp3
        refine ⟨q, .ref rt, rfl, DGet.t (k := [.inl 0, .inl 1]) (s13 _ _ (s12 _ _ hq11)) upd_same, sz3, fun t4 ht4 => ?_⟩
        have s14 : Same H11 (upd (upd (upd H11 ra (.lst [])) p3 (.tup [.int 0, .int 1])) t4 (.tup [.int 0, .int 1, .ref rt])) := (s12.trans s13).trans (same_new ht4)
        have hD14 : (upd (upd (upd H11 ra (.lst [])) p3 (.tup [.int 0, .int 1])) t4 (.tup [.int 0, .int 1, .ref rt])) ra = some (.lst []) := same_new ht4 _ _ (s13 _ _ upd_same)
        have ht14 : (upd (upd (upd H11 ra (.lst [])) p3 (.tup [.int 0, .int 1])) t4 (.tup [.int 0, .int 1, .ref rt])) t4 = some (.tup [.int 0, .int 1, .ref rt]) := upd_same
        generalize upd (upd (upd H11 ra (.lst [])) p3 (.tup [.int 0, .int 1])) t4 (.tup [.int 0, .int 1, .ref rt]) = H14 at s14 hD14 ht14 ⊢
        have s15 : Same H11 (upd H14 ra (.lst [.ref t4])) := Same.mut s14 hra
        refine hR2 _ _ hD14 (s15.seq (SqL.of hD11)) ?_
        have ht15 : (upd H14 ra (.lst [.ref t4])) t4 = some (.tup [.int 0, .int 1, .ref rt]) := upd_keep ht14 hD14 (fun z => nomatch z)
        have hra15 : (upd H14 ra (.lst [.ref t4])) ra = some (.lst [.ref t4]) := upd_same
        generalize upd H14 ra (.lst [.ref t4]) = H15 at s15 ht15 hra15 ⊢
        have ha15 := s15 _ _ ha11
        refine ⟨_, rfl, a, _, dx, _, rfl, ha15, T.cl_Table, T.n_rests, Nat.lt_of_le_of_lt (Nat.le_trans (putF_len _ _ _) (Nat.succ_le_succ (Nat.le_trans (putF_len _ _ _) (Nat.succ_le_succ (putF_len _ _ _))))) (by decide), ?_⟩
        rw [show putF "rests" (V.ref ra) (putF "leavings" (V.ref la) (putF "width" (V.int ((c : Int) + 1)) (putF "count" (V.int c) []))) = tf4 c la ra from rfl]
        have kp16 : Keep a H (upd H15 a (.ins (cT K) dx (tf4 c la ra))) := Keep.at (kp11.same s15)
        have c16 : SameT H15 (upd H15 a (.ins (cT K) dx (tf4 c la ra))) := SameT.chg ha15 rfl
        have hrr16 := upd_keep (w := .ins (cT K) dx (tf4 c la ra)) (s15 _ _ hrr11) ha15 (fun z => nomatch z)
        have hr16 := upd_keep (w := .ins (cT K) dx (tf4 c la ra)) (s15 _ _ hr11) ha15 (fun z => nomatch z)
        have ht16 := upd_keep (w := .ins (cT K) dx (tf4 c la ra)) (s15 _ _ ht11) ha15 (fun z => nomatch z)
        have hl16 := upd_keep (w := .ins (cT K) dx (tf4 c la ra)) (s15 _ _ hl11) ha15 (fun z => nomatch z)
        have htt16 := upd_keep (w := .ins (cT K) dx (tf4 c la ra)) ht15 ha15 (fun z => nomatch z)
        have hra16 := upd_keep (w := .ins (cT K) dx (tf4 c la ra)) hra15 ha15 (fun z => nomatch z)
        have hn16 := nms_t (nms_same hn11 s15) c16
        have ha16 : (upd H15 a (.ins (cT K) dx (tf4 c la ra))) a = some (.ins (cT K) dx (tf4 c la ra)) := upd_same
        clear c16
        generalize upd H15 a (.ins (cT K) dx (tf4 c la ra)) = H16 at kp16 hrr16 hr16 ht16 hl16 htt16 hra16 hn16 ha16 ⊢
        have hre : Rests K H16 ra c (some d) := ⟨t4, rt, SqL.of hra16, SqT.of htt16, rx, SqL.of hrr16, hn16⟩
        refine ⟨_, rfl, a, c, some d, rfl, tbR_of ha16 hre, hc3, fun H17 s17 => ?_⟩
        have ha17 := s17 _ _ ha16
        refine ⟨_, rfl, a, _, dx, _, rfl, ha17, T.cl_Table, T.n_fault, tf4_len, ?_⟩
        have up : ∀ {x : Addr} {o : HO}, H16 x = some o → o ≠ .ins (cT K) dx (tf4 c la ra) → (upd H17 a (.ins (cT K) dx (putF "fault" .non (tf4 c la ra)))) x = some o := fun {x o} h n => upd_keep (s17 _ _ h) ha17 n
        have hn18 := nms_t (nms_same hn16 s17) (SameT.chg (o := .ins (cT K) dx (putF "fault" .non (tf4 c la ra))) ha17 rfl)
        exact k _ (Keep.at (kp16.same s17)) ⟨dx, la, ra, upd_same, ⟨t3, rt2, rx, SqT.of (up hl16 (fun z => nomatch z)), SqT.of (up ht16 (fun z => nomatch z)), SqT.of (up hr16 (fun z => nomatch z)), hn18⟩, hraF,
          ⟨t4, rt, SqL.of (up hra16 (fun z => nomatch z)), SqT.of (up htt16 (fun z => nomatch z)), ⟨rx, SqL.of (up hrr16 (fun z => nomatch z)), hn18⟩, hrtF⟩⟩
end
end Sw

/-! ## G6 -/
namespace Sw
open PySem PySem.Spec PyProof.Rows L2
open C8 (Cal Met Mak pe_c pe_mk pe_mt pe_mt0 pe_gc)
section
variable {P : Program} {w : World} {K : PySem.W.Frag} {mg : Str → Option Value} {base : Heap}
abbrev N_is_word : List Str := ["word", "count", "way"]
abbrev s_is_word : Stmt := sIsWord
theorem sc_is_word : FnScope N_is_word ["word", "count"] (defScope s_is_word) := ⟨rfl, rfl, rfl, by decide +kernel, rfl, by decide +kernel, by decide +kernel⟩
def sp_is_word (K : PySem.W.Frag) : Sp := fun vs H Q _ => ∃ (b : Addr) (w : List Key) (c : Nat), vs = [.ref b, .int c] ∧ SqT K H b (w.map kV) ∧ w.length ≤ 1 ∧ (∀ y ∈ w, y = .inl 0) ∧ 1 ≤ c ∧ Q (.bl true) H
theorem ok_is_word (T : Tx w K mg) (c_is_whole : Cal P w K mg base 1 "is_whole" (sp_is_whole K) []) : Cal P w K mg base 2 "is_word" (sp_is_word K) [] := by
  obtain ⟨fd, F, b⟩ := T.F_is_word
  refine ⟨_, fd, _, [], F.ok sc_is_word (fun vs H Q E h => ?_) (fun cdv A outer s H vs Q E hr h => ?_), T.g_is_word, F.kp, b, .nil⟩
  · obtain ⟨b, w, c, rfl, _⟩ := h
    rfl
  · obtain ⟨b, w, c, rfl, hb, hl, hw, hc, k⟩ := h
    have hu := hu_of hr
    have nd := sc_is_word.nd
    refine ⟨_, (pss_cons (ps_if (PW.pt (pw_or (pt_not (pt_val (pe_callB call_isi rfl T.m_isinstance (by decide +kernel) (pa_cons (pv 0) (pa_cons (pe_bltn (v := .ty "tuple") rfl T.m_tuple (by decide +kernel) rfl) pa_nil))))) (pw_or1 (pt_cmpR op_gt (pe_callB call_len_seq rfl T.m_len (by decide +kernel) (pa_cons (pv 0) pa_nil)) (pe_gc rfl T.c_MOST) (nomark _))))) (pss_one (ps_ret pe_bl)) pss_nil)
      (pss_cons (ps_for PassesOwn.never rfl (pi_tup (pv 0)) (pg_name (i := 2) nd rfl (.inl rfl)) (pss_one (ps_if (PW.pt (pw_or (pt_not (pt_val (pe_c c_is_whole hr (by decide) rfl (pa_cons (pv 2) pa_nil)))) (pw_or (pt_cmpR op_lt (pv 2) pe_int (nomark _)) (pw_or1 (pt_cmpR op_ge (pv 2) (pv 1) (nomark _)))))) (pss_one (ps_ret pe_bl)) pss_nil)))
      (pss_one (ps_ret pe_bl)))), ?_⟩
    refine ⟨_, rfl, _, _, _, _, _, rfl, .ty _, tyx_tup hb, kit_ty (r := true) (by decide +kernel), _, rfl, ifF rfl ?_⟩
    refine ⟨_, rfl, _, _, rfl, .inr hb, _, _, rfl, rfl, _, rfl, ifF (decide_eq_false (by rw [List.length_map]; omega)) ?_⟩
    refine ⟨_, rfl, b, rfl, ⟨_, hb⟩, for_it (walk_tup (xs := w.map kV)) (fun i σ H' => H' = H ∧ ∃ v, σ = [some (.ref b), some (.int c), v]) ⟨rfl, none, rfl⟩ (fun i σ H' _ e => by rw [e.1]; exact hb) ?_ ?_⟩
    · rintro i x σ H' H'' hi ⟨rfl, v, rfl⟩ ⟨rfl, hxi⟩
      rw [List.getElem?_map] at hxi
      cases hy : w[i]? with
      | none =>
        rw [hy] at hxi
        cases hxi
      | some y =>
        rw [hy] at hxi
        have e := hw y (List.mem_of_getElem? hy)
        subst e
        have ex : V.int 0 = x := Option.some.inj hxi
        subst ex
        refine ⟨_, rfl, _, rfl, _, rfl, ifF rfl ?_⟩
        refine ⟨_, rfl, _, _, rfl, rfl, _, rfl, ifF rfl ?_⟩
        refine ⟨_, rfl, _, rfl, _, _, rfl, rfl, _, rfl, ifF (decide_eq_false (by omega)) ?_⟩
        exact ⟨rfl, _, rfl⟩
    · rintro σ H' ⟨rfl, v, rfl⟩
      exact k
abbrev N_is_term : List Str := ["told", "count"]
abbrev s_is_term : Stmt := sIsTerm
theorem sc_is_term : FnScope N_is_term ["told", "count"] (defScope s_is_term) := ⟨rfl, rfl, rfl, by decide +kernel, rfl, by decide +kernel, by decide +kernel⟩
def sp_is_term (K : PySem.W.Frag) : Sp := fun vs H Q _ => ∃ (x : V) (y : List Key × Int) (c : Nat), vs = [x, .int c] ∧ TmR K H x y ∧ y.1.length ≤ 1 ∧ (∀ z ∈ y.1, z = .inl 0) ∧ y.2 ≠ 0 ∧ 1 ≤ c ∧ Q (.bl true) H
theorem ok_is_term (T : Tx w K mg) (c_is_number : Cal P w K mg base 2 "is_number" (sp_is_number K) []) (c_is_word : Cal P w K mg base 2 "is_word" (sp_is_word K) []) : Cal P w K mg base 3 "is_term" (sp_is_term K) [] := by
  obtain ⟨fd, F, b⟩ := T.F_is_term
  refine ⟨_, fd, _, [], F.ok sc_is_term (fun vs H Q E h => ?_) (fun cdv A outer s H vs Q E hr h => ?_), T.g_is_term, F.kp, b, .nil⟩
  · obtain ⟨_, y, c, rfl, _⟩ := h
    rfl
  · obtain ⟨_, y, c, rfl, ⟨x, b, n, rfl, hx, hb, hn⟩, hl, hw, hnz, hc, k⟩ := h
    have hu := hu_of hr
    have nd := sc_is_term.nd
    refine ⟨_, (pss_cons (ps_if (PW.pt (pw_or (pt_not (pt_val (pe_callB call_isi rfl T.m_isinstance (by decide +kernel) (pa_cons (pv 0) (pa_cons (pe_bltn (v := .ty "tuple") rfl T.m_tuple (by decide +kernel) rfl) pa_nil))))) (pw_or1 (pt_cmpR op_ne (pe_callB call_len_seq rfl T.m_len (by decide +kernel) (pa_cons (pv 0) pa_nil)) pe_int (nomark _))))) (pss_one (ps_ret pe_bl)) pss_nil)
      (pss_one (ps_ret (pe_and (pe_c c_is_word hr (by decide) rfl (pa_cons (pe_ix ix_tup (pv 0) pe_int (fun _ _ => rfl)) (pa_cons (pv 1) pa_nil))) (pe_and (pe_c c_is_number hr (by decide) rfl (pa_cons (pe_ix ix_tup (pv 0) pe_int (fun _ _ => rfl)) pa_nil)) (pe_one (pe_cmpR op_ne (pe_ix ix_tup (pe_ix ix_tup (pv 0) pe_int (fun _ _ => rfl)) pe_int (fun _ _ => rfl)) pe_int (nomark _)))))))), ?_⟩
    refine ⟨_, rfl, _, _, _, _, _, rfl, .ty _, tyx_tup hx, kit_ty (r := true) (by decide +kernel), _, rfl, ifF rfl ?_⟩
    refine ⟨_, rfl, _, _, rfl, .inr hx, rfl, _, rfl, ifF rfl ?_⟩
    refine ⟨_, rfl, _, _, _, _, rfl, rfl, hx, rfl, _, rfl, b, y.1, c, rfl, SqT.of hb, hl, hw, hc, _, rfl, ifT rfl ?_⟩
    refine ⟨_, rfl, _, _, _, _, rfl, rfl, hx, rfl, _, _, rfl, hn, _, rfl, ifT rfl ?_⟩
    obtain ⟨z, rfl, hz⟩ := hn
    refine ⟨_, rfl, _, _, _, _, rfl, rfl, hx, rfl, _, _, _, _, rfl, rfl, hz, rfl, rfl, ?_⟩
    have e : (!(decide (V.int y.2 = V.int 0))) = true := by simp [hnz]
    first
      | (rw [e]; exact k)
      | (show Q (.bl _) _
         have e2 : decide (¬ (V.int y.2 = V.int 0)) = true := by simp [hnz]
         simpa [hnz] using k)
abbrev N_rank : List Str := ["word"]
abbrev s_rank : Stmt := sRank
theorem sc_rank : FnScope N_rank ["word"] (defScope s_rank) := ⟨rfl, rfl, rfl, by decide +kernel, rfl, by decide +kernel, by decide +kernel⟩
def sp_rank (K : PySem.W.Frag) : Sp := fun vs H Q _ => ∃ (b : Addr) (w : List Key), vs = [.ref b] ∧ SqT K H b (w.map kV) ∧ ∀ t H', Same H H' → SqT K H' t [.int (w.length : Int), .ref b] → Q (.ref t) H'
theorem ok_rank (T : Tx w K mg) : Cal P w K mg base 1 "rank" (sp_rank K) [] := by
  obtain ⟨fd, F, b⟩ := T.F_rank
  refine ⟨_, fd, _, [], F.ok sc_rank (fun vs H Q E h => ?_) (fun cdv A outer s H vs Q E hr h => ?_), T.g_rank, F.kp, b, .nil⟩
  · obtain ⟨b, w, rfl, _⟩ := h
    rfl
  · obtain ⟨b, w, rfl, hb, k⟩ := h
    have hu := hu_of hr
    have nd := sc_rank.nd
    refine ⟨_, (pss_one (ps_ret (pe_tup (pa_cons (pe_callB call_len_seq rfl T.m_len (by decide +kernel) (pa_cons (pv 0) pa_nil)) (pa_cons (pv 0) pa_nil))))), ?_⟩
    refine ⟨_, rfl, _, _, rfl, .inr hb, _, rfl, sz2, fun p hp => ?_⟩
    refine k p _ (same_new hp) (SqT.of ?_)
    rw [List.length_map]
    exact upd_same
abbrev N_check_sum : List Str := ["count", "total", "place", "told"]
abbrev s_check_sum : Stmt := sCheckSum
theorem sc_check_sum : FnScope N_check_sum ["count", "total"] (defScope s_check_sum) := ⟨rfl, rfl, rfl, by decide +kernel, rfl, by decide +kernel, by decide +kernel⟩
def sp_check_sum (K : PySem.W.Frag) : Sp := fun vs H Q _ => ∃ (a : Addr) (c : Nat) (t : Int) (o : Option Int), vs = [.int c, .ref a] ∧ SuR K H a (sumK t o) ∧ t ≠ 0 ∧ (∀ d, o = some d → d ≠ 0) ∧ 1 ≤ c ∧ ∀ H', Same H H' → Q .non H'
theorem ok_check_sum (T : Tx w K mg) (c_is_term : Cal P w K mg base 3 "is_term" (sp_is_term K) []) (c_rank : Cal P w K mg base 1 "rank" (sp_rank K) []) : Cal P w K mg base 4 "check_sum" (sp_check_sum K) [] := by
  obtain ⟨fd, F, b⟩ := T.F_check_sum
  refine ⟨_, fd, _, [], F.ok sc_check_sum (fun vs H Q E h => ?_) (fun cdv A outer s H vs Q E hr h => ?_), T.g_check_sum, F.kp, b, .nil⟩
  · obtain ⟨a, c, t, o, rfl, _⟩ := h
    rfl
  · obtain ⟨a, c, t, o, rfl, ⟨xs, hx, hp⟩, ht, ho, hc, k⟩ := h
    have hu := hu_of hr
    have nd := sc_check_sum.nd
    refine ⟨_, (pss_one (ps_for PassesOwn.never rfl (pi_enum rfl T.m_enumerate (pa_cons (pv 1) pa_nil)) (pg_tup rfl (pgs_cons (pg_name (i := 2) nd rfl (.inl rfl)) (pgs_cons (pg_name (i := 3) nd rfl (.inl rfl)) pgs_nil))) (pss_cons (ps_if (pt_not (pt_val (pe_c c_is_term hr (by decide) rfl (pa_cons (pv 3) (pa_cons (pv 0) pa_nil))))) (pss_one ps_never) pss_nil)
      (pss_one (ps_if (PW.pt (pw_and (pt_cmpR op_gt (pv 2) pe_int (nomark _)) (pw_and1 (pt_cmpR (op_geDat hr.units) (pe_c c_rank hr (by decide) rfl (pa_cons (pe_ix ix_tup (pe_ix ix_list (pv 1) (pe_op op_sub (pv 2) pe_int) (fun _ _ => rfl)) pe_int (fun _ _ => rfl)) pa_nil)) (pe_c c_rank hr (by decide) rfl (pa_cons (pe_ix ix_tup (pv 3) pe_int (fun _ _ => rfl)) pa_nil)) (nomark _))))) (pss_one ps_never) pss_nil))))), ?_⟩
    have hl2 := Paired.length hp
    have hl3 : (sumK t o).length ≤ 2 := sumK_len
    refine ⟨_, rfl, a, xs, rfl, hx, for_it (walk_enum (xs := xs)) (fun i σ H' => Same H H' ∧ ∃ v2 v3, σ = [some (.int c), some (.ref a), v2, v3]) ⟨Same.refl _, none, none, rfl⟩ (fun i σ H' _ e => e.1.seq hx) ?_ ?_⟩
    · rintro i x σ H' H'' hi ⟨s1, v2, v3, rfl⟩ ⟨p, u, v, rfl, hpn, rfl, hu, hv⟩
      have eu : V.int (i : Nat) = u := Option.some.inj hu
      subst eu
      obtain ⟨y, hy, hT⟩ := tm_of hp hv
      have s2 := s1.trans (same_new (o := .tup [.int (i : Nat), v]) hpn)
      refine ⟨p, _, rfl, SqT.of upd_same, rfl, _, _, rfl, _, _, rfl, rfl, ?_⟩
      generalize upd H' p (.tup [.int (i : Nat), v]) = H2 at s2 ⊢
      have hw := sumK_words y (List.mem_of_getElem? hy)
      refine ⟨_, rfl, _, rfl, _, y, c, rfl, hT.same s2, hw.1, hw.2, sumK_nz ht ho y (List.mem_of_getElem? hy), hc, _, rfl, ifF rfl ?_⟩
      refine ⟨_, rfl, _, _, rfl, rfl, _, rfl, ?_⟩
      by_cases hi0 : i = 0
      · refine ifF (decide_eq_false (by omega)) ?_
        exact ⟨s2, _, _, rfl⟩
      · refine ifT (decide_eq_true (by omega)) ?_
        have hi1 : i = 1 := by omega
        subst hi1
        cases o with
        | none =>
          simp [sumK] at hy
        | some d =>
          have ey : y = ([.inl 0], d) := (Option.some.inj hy).symm
          subst ey
          obtain ⟨x0, h0, hT0⟩ := tm_at hp (i := 0) (y := ([], t)) rfl
          obtain ⟨t0, b0, n0, rfl, h01, h02, h03⟩ := hT0
          obtain ⟨t1, b1, n1, rfl, h11, h12, h13⟩ := hT
          refine ⟨_, rfl, _, rfl, _, _, rfl, rfl, _, _, _, _, rfl, rfl, s2.seq hx, at_get (i := 0) h0, _, _, _, _, rfl, rfl, Same.sqT s2 h01, rfl, b0, [], rfl, SqT.of (s2 _ _ h02), fun r1 H3 s3 k1 => ?_⟩
          refine ⟨_, rfl, _, _, _, _, rfl, rfl, Same.sqT (s2.trans s3) h11, rfl, b1, [.inl 0], rfl, SqT.of ((s2.trans s3) _ _ h12), fun r2 H4 s4 k2 => ?_⟩
          have s24 := (s2.trans s3).trans s4
          refine ⟨rankD [], rankD [.inl 0], dp_rank (Same.sqT s4 k1) (SqT.of (s24 _ _ h02)), dp_rank k2 (SqT.of (s24 _ _ h12)), by decide +kernel, (by unfold rankD; exact fun z => nomatch z), by decide +kernel, ?_⟩
          refine ⟨_, rfl, ifF (by decide +kernel) ?_⟩
          exact ⟨s24, _, _, rfl⟩
    · rintro σ H' ⟨s1, v2, v3, rfl⟩
      exact k H' s1
abbrev N_gathered : List Str := ["total"]
abbrev s_gathered : Stmt := sGathered
theorem sc_gathered : FnScope N_gathered ["total"] (defScope s_gathered) := ⟨rfl, rfl, rfl, by decide +kernel, rfl, by decide +kernel, by decide +kernel⟩
def sp_gathered (K : PySem.W.Frag) : Sp := fun vs H Q _ => ∃ (a : Addr) (s : List (List Key × Int)), vs = [.ref a] ∧ SuR K H a s ∧ (s.map (·.1)).Nodup ∧ ∀ q H', Same H H' → H q = none → DtR K H' q s → Q (.ref q) H'
theorem ok_gathered (T : Tx w K mg) : Cal P w K mg base 1 "gathered" (sp_gathered K) [] := by
  obtain ⟨fd, F, b⟩ := T.F_gathered
  refine ⟨_, fd, _, [], F.ok sc_gathered (fun vs H Q E h => ?_) (fun cdv A outer s H vs Q E hr h => ?_), T.g_gathered, F.kp, b, .nil⟩
  · obtain ⟨a, s, rfl, _⟩ := h
    rfl
  · obtain ⟨a, s, rfl, ⟨xs, hx, hp⟩, hnd, k⟩ := h
    have hu := hu_of hr
    have nd := sc_gathered.nd
    refine ⟨_, (pss_one (ps_ret (pe_callTy (call_dictT rfl hr.units) rfl T.m_dict (by decide +kernel) (pa_cons (pv 0) pa_nil)))), ?_⟩
    obtain ⟨ps, ks, rfl, hpt, hkv⟩ := sums_pairs hp
    refine ⟨_, rfl, a, ps, ks, rfl, hx, hpt, ?_, fun p hpn => ?_⟩
    · have e := kv_keys hkv
      rw [List.map_map] at e
      have e2 : ks.map (·.1) = s.map (·.1) := e
      rw [e2]
      exact hnd
    · exact k p _ (same_new hpn) hpn ⟨_, upd_same, Paired.mapP hkv fun _ _ q => KvR.t q (Same.t (same_new hpn))⟩
abbrev N_told_sum : List Str := ["numbers", "word"]
abbrev s_told_sum : Stmt := sToldSum
theorem sc_told_sum : FnScope N_told_sum ["numbers"] (defScope s_told_sum) := ⟨rfl, rfl, rfl, by decide +kernel, rfl, by decide +kernel, by decide +kernel⟩
def sp_told_sum (K : PySem.W.Frag) : Sp := fun vs H Q _ => ∃ (q : Addr) (t : Int) (o : Option Int), vs = [.ref q] ∧ DtR K H q (sumK t o) ∧ ∀ a H', Same H H' → H a = none → SuR K H' a (sumK t o) → Q (.ref a) H'
theorem ok_told_sum (T : Tx w K mg) (c_rank : Cal P w K mg base 1 "rank" (sp_rank K) []) : Cal P w K mg base 4 "told_sum" (sp_told_sum K) [] := by
  obtain ⟨fd, F, b⟩ := T.F_told_sum
  obtain ⟨fR, fdR, psR, dsR, FR, hmR, _, bR, dR⟩ := c_rank.ex
  cases dR
  refine ⟨_, fd, _, [], F.ok sc_told_sum (fun vs H Q E h => ?_) (fun cdv A outer s H vs Q E hr h => ?_), T.g_told_sum, F.kp, b, .nil⟩
  · obtain ⟨q, t, o, rfl, _⟩ := h
    rfl
  · obtain ⟨q, t, o, rfl, ⟨kvs, hq, hp⟩, k⟩ := h
    have hu := hu_of hr
    have nd := sc_told_sum.nd
    refine ⟨_, (pss_one (ps_ret (pe_lc (own := [("word", 1)]) (g := gName 1) rfl nd (pi_list (pe_sortK (kd := rankD) FR hmR bR hr (by decide) rfl (fun H b w Q h k => ⟨b, w, rfl, SqT.of h, fun t H' s1 h1 => k t H' s1 (dp_rank h1 (SqT.of (s1 _ _ h)))⟩) (by rfl) T.m_sorted (by rfl) (pa_cons (pv 0) pa_nil))) (blkOk_by (own := [("word", 1)]) (N := N_told_sum) (sc := defScope s_told_sum) (by decide +kernel)) (fun _ _ _ _ _ => (pg_name (i := 1) nd rfl (.inl rfl))) (fun _ _ _ _ _ => pts_nil) (fun _ _ _ _ _ => (pe_tup (pa_cons (pv 1) (pa_cons (pe_dget hu (pv 0) (pv 1) (fun _ _ => rfl)) pa_nil))))))), ?_⟩
    have hks := kv_keys hp
    have hsk := sumK_sort (ks := kvs.map (·.1)) (by rw [hks]; exact sumK_keys)
    have hlk := Paired.length hp
    refine ⟨_, rfl, q, kvs, rfl, rfl, .inl hq, hsk.1, hsk.2.1, hsk.2.2.1, hsk.2.2.2, fun p bs H1 hpn hik s1 s2 => ?_⟩
    have hpn1 : H1 p = none ∨ True := .inr trivial
    refine ⟨p, rfl, ⟨_, SqL.of upd_same⟩, fun D hD => ?_⟩
    have sA : Same H (upd H1 p (.lst (bs.map V.ref))) := s1.trans s2
    have hpA : (upd H1 p (.lst (bs.map V.ref))) p = some (.lst (bs.map V.ref)) := upd_same
    generalize upd H1 p (.lst (bs.map V.ref)) = H2 at sA hpA hD ⊢
    have hbl : kvs.length = bs.length := Paired.length hik
    have hl2 : (sumK t o).length ≤ 2 := sumK_len
    refine lc_rel (Rl := TmR K) (fun _ _ _ _ e q => q.t e) (walk_list (xs := bs.map V.ref)) yat_same (fun _ e => e.seq (SqL.of hpA)) hD (by rw [List.length_map]; omega) (fun i => (sumK t o).getD i ([], 0)) ?_ ?_
    · rintro i x H' H'' R Pn hi s3 ⟨rfl, hxi⟩ hR
      rw [List.getElem?_map] at hxi
      have hi2 : i < bs.length := by rw [List.length_map] at hi; exact hi
      rw [List.getElem?_eq_getElem hi2] at hxi
      have ex : V.ref bs[i] = x := Option.some.inj hxi
      subst ex
      obtain ⟨w, hw, hHb⟩ := isKeys_get hik (j := i) (b := bs[i]) (List.getElem?_eq_getElem hi2)
      obtain ⟨⟨k0, v0⟩, hkv0⟩ : ∃ y, kvs[i]? = some y := ⟨_, List.getElem?_eq_getElem (by omega)⟩
      have ew : k0 = w := by
        rw [List.getElem?_map, hkv0] at hw
        exact Option.some.inj hw
      subst ew
      obtain ⟨y, hy, hyk, hyn⟩ := paired_get hp hkv0
      have hyk : k0 = y.1 := hyk
      have sB := sA.trans s3
      have hval : valV kvs k0 = some v0 := valV_nd (by rw [hks]; exact sumK_nd) hkv0
      refine ⟨rfl, yesR ?_⟩
      refine ⟨_, rfl, _, rfl, _, rfl, q, v0, rfl, hval ▸ DGet.t (k := k0) (sB _ _ hq) (sB _ _ hHb), sz2, fun t2 ht2 => hR _ _ (same_new ht2) ?_⟩
      have hgd : (sumK t o).getD i ([], 0) = y := by simp [List.getD, hy]
      rw [hgd]
      have sC := sB.trans (same_new (o := .tup [.ref bs[i], v0]) ht2)
      exact ⟨t2, bs[i], v0, rfl, SqT.of upd_same, by rw [← hyk]; exact sC _ _ hHb, Nm.same hyn sC⟩
    · intro H' ys s3 h3 hz
      refine k D _ (sA.trans s3) (sA.free hD) ⟨ys, SqL.of h3, ?_⟩
      have e : (List.range (bs.map V.ref).length).map (fun i => (sumK t o).getD i ([], 0)) = sumK t o := by
        have hlen : (bs.map V.ref).length = (sumK t o).length := by rw [List.length_map]; omega
        rw [hlen]
        cases o <;> rfl
      rw [e] at hz
      exact hz
abbrev N_put_to : List Str := ["numbers", "word", "number", "new"]
abbrev s_put_to : Stmt := sPutTo
theorem sc_put_to : FnScope N_put_to ["numbers", "word", "number"] (defScope s_put_to) := ⟨rfl, rfl, rfl, by decide +kernel, rfl, by decide +kernel, by decide +kernel⟩
def sp_put_to (K : PySem.W.Frag) : Sp := fun vs H Q _ => ∃ (q b : Addr) (kvs : List (List Key × V)) (w : List Key) (x v : V) (n m : Int), vs = [.ref q, .ref b, x] ∧ H q = some (.dT kvs) ∧ kvs.length ≤ 2 ∧ H b = some (.tup (w.map kV)) ∧ valV kvs w = some v ∧ Nm K H v n ∧ Nm K H x m ∧ n + m ≠ 0 ∧ ∀ v' H', Same H H' → Nm K H' v' (n + m) → Q .non (upd H' q (.dT (putK kvs w v')))
theorem ok_put_to (T : Tx w K mg) (c_plus : Cal P w K mg base 1 "plus" (sp_plus K) []) : Cal P w K mg base 2 "put_to" (sp_put_to K) [] := by
  obtain ⟨fd, F, b⟩ := T.F_put_to
  refine ⟨_, fd, _, [], F.ok sc_put_to (fun vs H Q E h => ?_) (fun cdv A outer s H vs Q E hr h => ?_), T.g_put_to, F.kp, b, .nil⟩
  · obtain ⟨q, b, kvs, w, x, v, n, m, rfl, _⟩ := h
    rfl
  · obtain ⟨q, b, kvs, w, x, v, n, m, rfl, hq, hl, hb, hv, hn, hm, hnz, k⟩ := h
    have hu := hu_of hr
    have nd := sc_put_to.nd
    refine ⟨_, (pss_cons (ps_set (i := 3) nd rfl (.inl rfl) (pe_c c_plus hr (by decide) rfl (pa_cons (pe_dget2 hu (pv 0) (pv 1) (pe_gc rfl T.c_NOUGHT) (m2_of rfl rfl rfl rfl)) (pa_cons (pv 2) pa_nil))))
      (pss_one (ps_if (pt_cmpR op_ne (pe_ix ix_tup (pv 3) pe_int (fun _ _ => rfl)) pe_int (nomark _)) (pss_one (ps_dput hu (pv 0) (pv 1) (pv 3) rfl)) (pss_one ps_never)))), ?_⟩
    refine ⟨_, rfl, q, rfl, .inr ⟨kvs, .inl hq⟩, _, rfl, _, DGet.t (k := w) hq hb, _, rfl, ?_⟩
    rw [hv]
    refine ⟨v, x, n, m, rfl, hn, hm, fun v' H1 s1 h1 => ?_⟩
    obtain ⟨p, rfl, hp⟩ := h1
    refine ⟨_, rfl, _, _, _, _, rfl, rfl, hp, rfl, rfl, _, rfl, ifT (by simp [hnz]) ?_⟩
    refine ⟨_, rfl, _, rfl, _, rfl, q, _, rfl, DPut.t (k := w) (s1 _ _ hq) (s1 _ _ hb) (Nat.lt_of_le_of_lt hl (by decide)), ?_⟩
    exact k _ H1 s1 ⟨p, rfl, hp⟩
end
end Sw

/-! ## G7 -/
namespace Sw
open PySem PySem.Spec PyProof.Rows L2
open C8 (Cal Met Mak pe_c pe_mk pe_mt pe_mt0 pe_gc)
section
variable {P : Program} {w : World} {K : PySem.W.Frag} {mg : Str → Option Value} {base : Heap}
abbrev N_climb : List Str := ["table", "numbers", "steps", "length", "many", "here", "word", "place"]
abbrev s_climb : Stmt := sClimb
theorem sc_climb : FnScope N_climb ["table", "numbers"] (defScope s_climb) := ⟨rfl, rfl, rfl, by decide +kernel, rfl, by decide +kernel, by decide +kernel⟩
def sp_climb (K : PySem.W.Frag) : Sp := fun vs H Q _ => ∃ (v : V) (q : Addr) (kvs : List (List Key × V)), vs = [v, .ref q] ∧ H q = some (.dT kvs) ∧ (∀ k ∈ kvs, k.1.length ≤ 1) ∧ kvs.length ≤ 2 ∧ ∀ a H', Same H H' → Q (.ref a) H'
theorem ok_climb (T : Tx w K mg) : Cal P w K mg base 1 "climb" (sp_climb K) [] := by
  obtain ⟨fd, F, b⟩ := T.F_climb
  refine ⟨_, fd, _, [], F.ok sc_climb (fun vs H Q E h => ?_) (fun cdv A outer s H vs Q E hr h => ?_), T.g_climb, F.kp, b, .nil⟩
  · obtain ⟨v, q, kvs, rfl, _⟩ := h
    rfl
  · obtain ⟨v, q, kvs, rfl, hq, hkl, hkn, k⟩ := h
    have hu := hu_of hr
    have nd := sc_climb.nd
    refine ⟨_, (pss_cons (ps_set (i := 2) nd rfl (.inl rfl) (pe_lst pa_nil))
      (pss_cons (ps_for PassesOwn.never rfl (pi_tup (pe_tup (pa_cons pe_int (pa_cons pe_int (pa_cons pe_int (pa_cons pe_int pa_nil)))))) (pg_name (i := 3) nd rfl (.inr rfl)) (pss_one (ps_for PassesOwn.never rfl (pi_range3 rfl T.m_range (pa_cons (pe_op op_fdiv (pe_op op_mul (pv 3) (pe_op op_sub (pv 3) pe_int)) pe_int) (pa_cons pe_int (pa_cons (pe_un un_neg pe_int) pa_nil)))) (pg_name (i := 4) nd rfl (.inr rfl)) (pss_cons (ps_lock (ps_setLc (i := 5) (own := [("word", 6)]) (g := gName 6) rfl nd rfl rfl (sw_true rfl rfl rfl (by decide +kernel)) (pi_keys (pv 1)) (blkOk_by (own := [("word", 6)]) (N := N_climb) (sc := defScope s_climb) (by decide +kernel)) (fun _ _ _ _ _ => (pg_name (i := 6) nd rfl (.inl rfl))) (fun _ _ _ _ _ => (pts_one (PW.pt (pw_and (pt_cmpR op_eq (pe_callB (call_len_seqK K) rfl T.m_len (by decide +kernel) (pa_cons (pv 6) pa_nil)) (pv 3) (nomark _)) (pw_and1 (pt_cmpR op_eq pe_never (pv 4) (nomark _))))))) (fun _ _ _ _ _ => (pv 6))))
      (pss_one (ps_for PassesOwn.never rfl (pi_list (pe_callB cr_sorted rfl T.m_sorted (by decide +kernel) (pa_cons (pv 5) pa_nil))) (pg_name (i := 6) nd rfl (.inl rfl)) pss_never))))))
      (pss_one (ps_ret (pv 2))))), ?_⟩
    refine ⟨sz0, fun st hst => ?_⟩
    have sA := same_new (o := .lst []) hst
    refine ⟨sz4, fun p hp => ?_⟩
    have sB := sA.trans (same_new (o := .tup [.int 5, .int 4, .int 3, .int 2]) hp)
    refine ⟨p, rfl, ⟨_, SqT.of upd_same⟩, for_it (walk_tup (xs := [.int 5, .int 4, .int 3, .int 2])) (fun i σ H' => Same H H' ∧ H' p = some (.tup [.int 5, .int 4, .int 3, .int 2]) ∧ ∃ v3 v4 v5 v6 v7, σ = [some v, some (.ref q), some (.ref st), v3, v4, v5, v6, v7]) ⟨sB, upd_same, none, none, none, none, none, rfl⟩ (fun i σ H' _ e => SqT.of e.2.1) ?_ ?_⟩
    · rintro i x σ H' H'' hi ⟨s1, hp1, v3, v4, v5, v6, v7, rfl⟩ ⟨rfl, hxi⟩
      obtain ⟨n, rfl, hn2, hn5⟩ : ∃ n : Int, x = .int n ∧ 2 ≤ n ∧ n ≤ 5 := by
        have hi4 : i < 4 := hi
        match i, hi4, hxi with
        | 0, _, h => exact ⟨5, (Option.some.inj h).symm, by decide, by decide⟩
        | 1, _, h => exact ⟨4, (Option.some.inj h).symm, by decide, by decide⟩
        | 2, _, h => exact ⟨3, (Option.some.inj h).symm, by decide, by decide⟩
        | 3, _, h => exact ⟨2, (Option.some.inj h).symm, by decide, by decide⟩
      have hb : 0 ≤ n * (n - 1) / 2 ∧ n * (n - 1) / 2 ≤ 10 := by
        have h4 : n = 2 ∨ n = 3 ∨ n = 4 ∨ n = 5 := by omega
        rcases h4 with rfl | rfl | rfl | rfl <;> decide
      refine ⟨_, rfl, _, rfl, _, _, rfl, rfl, _, _, rfl, rfl, .inl ⟨by omega, by omega⟩, _, _, rfl, rfl, ⟨by decide, by decide⟩, _, rfl, _, _, _, _, rfl, RgC.neg (by omega) (by omega) (by decide) (by decide), for_it (walk_rangeC (lo := n * (n - 1) / 2) (c := -1) (n := (n * (n - 1) / 2 - 0).toNat)) (fun _ σ H' => Same H H' ∧ H' p = some (.tup [.int 5, .int 4, .int 3, .int 2]) ∧ ∃ v4 v5 v6 v7, σ = [some v, some (.ref q), some (.ref st), some (.int n), v4, v5, v6, v7]) ⟨s1, hp1, v4, v5, v6, v7, rfl⟩ (fun _ _ _ _ _ => trivial) ?_ ?_⟩
      · rintro j y σ H3 H4 hj ⟨s3, hp3, v4, v5, v6, v7, rfl⟩ ⟨rfl, rfl⟩
        refine ⟨q, _, s3 _ _ hq, trivial, fun od => ?_⟩
        have hq0 := s3 _ _ hq
        have hqF : (upd H4 q (.frz od (.dT kvs))) q = some (.frz od (.dT kvs)) := upd_same
        refine ⟨_, rfl, q, od, rfl, .inr ⟨kvs, hqF, fun D hD => lc_out walk_keysT ykeyT_same (fun _ e => e _ _ hqF) hD ?_ ?_⟩⟩
        · rintro m z H5 H6 R Pn hm s5 ⟨rfl, kk, vv, b, hkv, rfl, hHb⟩ hR
          refine ⟨rfl, _, rfl, _, _, rfl, .inr (SqT.of hHb), _, rfl, rfl, _, rfl, ifF ?_ (hR _ (Same.refl _))⟩
          have h1 := hkl _ (List.mem_of_getElem? hkv)
          rw [List.length_map]
          simp only [decide_eq_false_iff_not]
          intro e
          injection e with e
          have h1 : kk.length ≤ 1 := h1
          omega
        · intro H5 s5 hD5
          have s6 := lock_back hq0 s5
          refine ⟨s5 _ _ hqF, ?_⟩
          have hDq : D ≠ q := fun z => by
            rw [z, hqF] at hD
            cases hD
          refine ⟨_, rfl, D, [], rfl, SqL.of (by rw [upd_ne hDq]; exact hD5), by decide, fun ns p2 hpm hpw hp2 => ?_⟩
          have ens : ns = [] := List.perm_nil.mp hpm
          subst ens
          have s7 := s6.trans (same_new (o := .lst []) hp2)
          refine ⟨p2, rfl, ⟨_, SqL.of upd_same⟩, for_it (walk_list (xs := [])) (fun _ σ H' => H' = _ ∧ σ = _) ⟨rfl, rfl⟩ (fun _ _ _ _ e => by rw [e.1]; exact SqL.of upd_same) (fun i _ _ _ _ hi => absurd hi (Nat.not_lt_zero _)) ?_⟩
          rintro σ H' ⟨rfl, rfl⟩
          exact ⟨s3.trans s7, s7 _ _ hp3, _, _, _, _, rfl⟩
      · rintro σ H3 ⟨s3, hp3, v4, v5, v6, v7, rfl⟩
        exact ⟨s3, hp3, _, _, _, _, _, rfl⟩
    · rintro σ H' ⟨s1, hp1, v3, v4, v5, v6, v7, rfl⟩
      exact ⟨_, rfl, k st H' s1⟩
abbrev N_risen : List Str := ["table", "total", "numbers"]
abbrev s_risen : Stmt := sRisen
theorem sc_risen : FnScope N_risen ["table", "total"] (defScope s_risen) := ⟨rfl, rfl, rfl, by decide +kernel, rfl, by decide +kernel, by decide +kernel⟩
def sp_risen (K : PySem.W.Frag) : Sp := fun vs H Q _ => ∃ (tb a : Addr) (c : Nat) (l : Option Int) (t : Int) (o : Option Int), vs = [.ref tb, .ref a] ∧ TbF K H tb c l ∧ SuR K H a (sumK t o) ∧ t ≠ 0 ∧ (∀ d, o = some d → d ≠ 0) ∧ 1 ≤ c ∧ ∀ b H', Same H H' → H b = none → SuR K H' b (sumK t o) → Q (.ref b) H'
theorem ok_risen (T : Tx w K mg) (c_check_sum : Cal P w K mg base 4 "check_sum" (sp_check_sum K) []) (c_need_law : Cal P w K mg base 1 "need_law" (sp_need_law K) []) (c_gathered : Cal P w K mg base 1 "gathered" (sp_gathered K) []) (c_climb : Cal P w K mg base 1 "climb" (sp_climb K) []) (c_told_sum : Cal P w K mg base 4 "told_sum" (sp_told_sum K) []) : Cal P w K mg base 5 "risen" (sp_risen K) [] := by
  obtain ⟨fd, F, b⟩ := T.F_risen
  refine ⟨_, fd, _, [], F.ok sc_risen (fun vs H Q E h => ?_) (fun cdv A outer s H vs Q E hr h => ?_), T.g_risen, F.kp, b, .nil⟩
  · obtain ⟨tb, a, c, l, t, o, rfl, _⟩ := h
    rfl
  · obtain ⟨tb, a, c, l, t, o, rfl, hT, hs, ht, ho, hc, k⟩ := h
    have hu := hu_of hr
    have nd := sc_risen.nd
    refine ⟨_, (pss_cons (ps_expr (pe_c c_check_sum hr (by decide) rfl (pa_cons (pe_fld (pv 0) rfl) (pa_cons (pv 1) pa_nil))))
      (pss_cons (ps_expr (pe_c c_need_law hr (by decide) rfl (pa_cons (pv 0) pa_nil)))
      (pss_cons (ps_set (i := 2) nd rfl (.inl rfl) (pe_c c_gathered hr (by decide) rfl (pa_cons (pv 1) pa_nil)))
      (pss_cons (ps_expr (pe_c c_climb hr (by decide) rfl (pa_cons (pv 0) (pa_cons (pv 2) pa_nil))))
      (pss_one (ps_ret (pe_c c_told_sum hr (by decide) rfl (pa_cons (pv 2) pa_nil)))))))), ?_⟩
    obtain ⟨dx, la, ra, htb, hlv, hre⟩ := id hT
    refine ⟨_, rfl, tb, _, dx, _, _, rfl, htb, T.cl_Table, T.n_count, tfl_count, _, rfl, a, c, t, o, rfl, hs, ht, ho, hc, fun H1 s1 => ?_⟩
    refine ⟨_, rfl, tb, c, l, rfl, hT.same s1, ?_⟩
    refine ⟨_, rfl, a, _, rfl, hs.same s1, sumK_nd, fun q H2 s2 hqn hD => ?_⟩
    obtain ⟨kvs, hq, hp⟩ := id hD
    have hks := kv_keys hp
    refine ⟨_, rfl, _, rfl, _, q, kvs, rfl, hq, fun y hy => ?_, ?_, fun a3 H3 s3 => ?_⟩
    · obtain ⟨z, hz, e⟩ := List.mem_map.mp (hks ▸ List.mem_map.mpr ⟨y, hy, rfl⟩ : y.1 ∈ (sumK t o).map (·.1))
      rw [← e]
      exact (sumK_words z hz).1
    · rw [Paired.length hp]
      exact sumK_len
    · refine ⟨_, rfl, q, t, o, rfl, hD.same s3, fun b H4 s4 hb hS => ?_⟩
      have sA := s1.trans (s2.trans s3)
      exact k b H4 (sA.trans s4) (sA.free hb) hS
end
end Sw

/-! ## G8 -/
namespace Sw
open PySem PySem.Spec PyProof.Rows L2
open C8 (Cal Met Mak pe_c pe_mk pe_mt pe_mt0 pe_gc)
section
variable {P : Program} {w : World} {K : PySem.W.Frag} {mg : Str → Option Value} {base : Heap}
abbrev N_number_text : List Str := ["number"]
abbrev s_number_text : Stmt := sNumberText
theorem sc_number_text : FnScope N_number_text ["number"] (defScope s_number_text) := ⟨rfl, rfl, rfl, by decide +kernel, rfl, by decide +kernel, by decide +kernel⟩
def sp_number_text (K : PySem.W.Frag) : Sp := fun vs H Q _ => ∃ (x : V) (n : Int), vs = [x] ∧ Nm K H x n ∧ n.natAbs < 2 ^ 64 ∧ Q (.str (SS (numZ n))) H
theorem ok_number_text (T : Tx w K mg) : Cal P w K mg base 1 "number_text" (sp_number_text K) [] := by
  obtain ⟨fd, F, b⟩ := T.F_number_text
  refine ⟨_, fd, _, [], F.ok sc_number_text (fun vs H Q E h => ?_) (fun cdv A outer s H vs Q E hr h => ?_), T.g_number_text, F.kp, b, .nil⟩
  · obtain ⟨_, n, rfl, _⟩ := h
    rfl
  · obtain ⟨_, n, rfl, ⟨a, rfl, hx⟩, hn, k⟩ := h
    have hu := hu_of hr
    have nd := sc_number_text.nd
    refine ⟨_, (pss_cons (ps_if (pt_cmpR op_eq (pe_ix ix_tup (pv 0) pe_int (fun _ _ => rfl)) pe_int (nomark _)) (pss_one (ps_ret (pe_callTy call_str_int rfl T.m_str (by decide +kernel) (pa_cons (pe_ix ix_tup (pv 0) pe_int (fun _ _ => rfl)) pa_nil)))) pss_nil)
      (pss_one ps_never)), ?_⟩
    refine ⟨_, rfl, _, _, _, _, rfl, rfl, hx, rfl, rfl, _, rfl, ifT rfl ?_⟩
    refine ⟨_, rfl, _, _, _, _, rfl, rfl, hx, rfl, n, rfl, log_ok hn, ?_⟩
    show Q (.str (Str.ofString (toString n))) H
    rw [numZ_S]
    exact k
abbrev N_row_text : List Str := ["row", "signs", "way", "sign", "number"]
abbrev s_row_text : Stmt := sRowText
theorem sc_row_text : FnScope N_row_text ["row"] (defScope s_row_text) := ⟨rfl, rfl, rfl, by decide +kernel, rfl, by decide +kernel, by decide +kernel⟩
def sp_row_text (K : PySem.W.Frag) : Sp := fun vs H Q _ => ∃ (a : Addr) (xs : List V) (c : Nat) (d : Int), vs = [.ref a] ∧ SqT K H a xs ∧ Paired (Nm K H) xs (rowI c d) ∧ c ≤ 6 ∧ d ≠ 0 ∧ d.natAbs < 10 ^ 9 ∧ ∀ H', Same H H' → Q (.str (SS (numZ d ++ [42, 101]))) H'
theorem ok_row_text (T : Tx w K mg) (c_number_text : Cal P w K mg base 1 "number_text" (sp_number_text K) []) : Cal P w K mg base 2 "row_text" (sp_row_text K) [] := by
  obtain ⟨fd, F, b⟩ := T.F_row_text
  refine ⟨_, fd, _, [], F.ok sc_row_text (fun vs H Q E h => ?_) (fun cdv A outer s H vs Q E hr h => ?_), T.g_row_text, F.kp, b, .nil⟩
  · obtain ⟨a, xs, c, d, rfl, _⟩ := h
    rfl
  · obtain ⟨a, xs, c, d, rfl, hx, hp, hc, hd, hnd, k⟩ := h
    have hu := hu_of hr
    have nd := sc_row_text.nd
    refine ⟨_, (pss_cons (ps_set (i := 1) nd rfl (.inl rfl) (pe_op op_cat (pe_lc (own := [("way", 2)]) (g := gName 2) rfl nd (pi_range1 rfl T.m_range (pa_cons (pe_op op_sub (pe_callB call_len_seq rfl T.m_len (by decide +kernel) (pa_cons (pv 0) pa_nil)) pe_int) pa_nil)) (blkOk_by (own := [("way", 2)]) (N := N_row_text) (sc := defScope s_row_text) (by decide +kernel)) (fun _ _ _ _ _ => (pg_name (i := 2) nd rfl (.inl rfl))) (fun _ _ _ _ _ => pts_nil) (fun _ _ _ _ _ => (pe_callTy call_str_int rfl T.m_str (by decide +kernel) (pa_cons (pv 2) pa_nil)))) (pe_lst (pa_cons pe_str pa_nil))))
      (pss_one (ps_ret (pe_join pe_str (pe_lc (own := [("sign", 3), ("number", 4)]) (g := gTup K 2 (gCons (gName 3) (gCons (gName 4) gNil))) rfl nd (pi_zipLT rfl T.m_zip (pa_cons (pv 1) (pa_cons (pv 0) pa_nil))) (blkOk_by (own := [("sign", 3), ("number", 4)]) (N := N_row_text) (sc := defScope s_row_text) (by decide +kernel)) (fun _ _ _ _ _ => (pg_tup rfl (pgs_cons (pg_name (i := 3) nd rfl (.inl rfl)) (pgs_cons (pg_name (i := 4) nd rfl (.inl rfl)) pgs_nil)))) (fun _ _ _ _ _ => (pts_one (pt_cmpR op_ne (pe_ix (ix_tupK K) (pv 4) pe_int (fun _ _ => rfl)) pe_int (nomark _)))) (fun _ _ _ _ _ => (pe_op op_add_str (pe_op op_add_str (pe_c c_number_text hr (by decide) rfl (pa_cons (pv 4) pa_nil)) pe_str) (pv 3)))))))), ?_⟩
    have hl := Paired.length hp
    rw [rowI_len] at hl
    have hz9 := numZ_short hnd
    refine ⟨_, rfl, _, _, rfl, .inr hx, _, _, rfl, rfl, ((c : Nat) : Int), ?_, by omega, by omega, fun D hD => lc_rel (Rl := fun _ v (z : Str) => v = .str z) (fun _ _ _ _ _ q => q) (walk_range (lo := 0) (n := c)) yfn_same (fun _ _ => trivial) hD (by omega) (fun i => Str.ofString (toString (0 + (i : Int)))) ?_ ?_⟩
    · have e : ((xs.length : Nat) : Int) - 1 = (c : Int) := by omega
      show [V.int (((xs.length : Nat) : Int) - 1)] = _
      rw [e]
    · rintro i x H' H'' R Pn hi s1 ⟨rfl, rfl⟩ hR
      refine ⟨rfl, yesR ?_⟩
      exact ⟨_, rfl, _, rfl, log_ok (by omega), hR _ _ (Same.refl _) rfl⟩
    · intro H1 ys s1 h1 hq
      have hyl := Paired.length hq
      rw [List.length_map, List.length_range] at hyl
      refine ⟨sz1, fun p hpn => ?_⟩
      have hpD : D ≠ p := ne_free h1 hpn
      refine ⟨D, p, ys, [.str (Str.ofString "e")], rfl, rfl, by rw [upd_ne hpD]; exact h1, upd_same, szk (by simp; omega), fun q hqn => ?_⟩
      have s2 := s1.trans ((same_new (o := .lst [.str (Str.ofString "e")]) hpn).trans (same_new (o := .lst (ys ++ [.str (Str.ofString "e")])) hqn))
      have h2 : (upd (upd H1 p (.lst [.str (Str.ofString "e")])) q (.lst (ys ++ [.str (Str.ofString "e")]))) q = some (.lst (ys ++ [.str (Str.ofString "e")])) := upd_same
      generalize upd (upd H1 p (.lst [.str (Str.ofString "e")])) q (.lst (ys ++ [.str (Str.ofString "e")])) = H2 at s2 h2 ⊢
      have hsq : SqL K H2 q (ys ++ [.str (Str.ofString "e")]) := SqL.of h2
      obtain ⟨zs, hzs⟩ : ∃ zs, zs = ys ++ [V.str (Str.ofString "e")] := ⟨_, rfl⟩
      rw [← hzs] at hsq
      refine ⟨⟨_, rfl⟩, _, rfl, _, rfl, q, a, zs, xs, rfl, hsq, Same.sqT s2 hx, fun E hE => ?_⟩
      refine lc_it (walk_zipLT (K := K) (a := q) (b := a) (xs := zs) (ys := xs) (n := c + 1) (by rw [hzs]; simp; omega)) (fun i H' => Same H2 H' ∧ H' E = some (.lst (if i ≤ c then [] else [.str (SS (numZ d ++ [42, 101]))]))) ⟨same_new hE, by rw [if_pos (Nat.zero_le _)]; exact upd_same⟩ (fun i H' _ e => ⟨e.1.seq hsq, Same.sqT (s2.trans e.1) hx⟩) ?_ ?_
      · rintro i x H' H'' hi ⟨s3, hE3⟩ ⟨t, u, v, rfl, htn, rfl, hu, hv⟩
        rw [if_pos (by omega)] at hE3
        obtain ⟨n, hn, b, rfl, hb⟩ := nms_of hp hv
        have s4 := (s2.trans s3).trans (same_new (o := .tup [u, .ref b]) htn)
        have hE4 := same_new (o := .tup [u, .ref b]) htn _ _ hE3
        refine ⟨t, _, rfl, SqT.of upd_same, rfl, _, _, rfl, _, _, rfl, rfl, rfl, _, rfl, _, _, _, _, rfl, rfl, Same.sqT s4 hb, rfl, rfl, _, rfl, ?_⟩
        by_cases hic : i < c
        · have hn0 : n = 0 := by
            have e : (rowI c d)[i]? = some 0 := by
              unfold rowI
              rw [List.getElem?_append_left (by simp; omega), List.getElem?_replicate, if_pos hic]
            rw [e] at hn
            exact (Option.some.inj hn).symm
          subst hn0
          refine ifF rfl ?_
          refine ⟨s3.trans (same_new htn), ?_⟩
          rw [if_pos (by omega)]
          exact hE4
        · have hic2 : i = c := by omega
          subst hic2
          have hnd : n = d := by
            have e : (rowI i d)[i]? = some d := by
              unfold rowI
              rw [List.getElem?_append_right (by simp)]
              simp
            rw [e] at hn
            exact (Option.some.inj hn).symm
          subst hnd
          refine ifT (by simp [hd]) ?_
          have eu : u = .str (Str.ofString "e") := by
            have hu : zs[i]? = some u := hu
            rw [hzs, List.getElem?_append_right (by omega)] at hu
            rw [hyl, Nat.sub_self] at hu
            exact (Option.some.inj hu).symm
          subst eu
          refine ⟨_, rfl, _, n, rfl, ⟨b, rfl, Same.sqT s4 hb⟩, by omega, _, _, rfl, rfl, (by simp only [l_dash, l_e, l_plus, l_star, l_blank, l_comma, l_eq, l_dot, l_colon, l_0, cat_S, len_S, numZ_S, List.length_append, List.length_cons, List.length_nil]; exact szk (by omega)), _, rfl, _, _, rfl, rfl, (by simp only [l_dash, l_e, l_plus, l_star, l_blank, l_comma, l_eq, l_dot, l_colon, l_0, cat_S, len_S, numZ_S, List.length_append, List.length_cons, List.length_nil]; exact szk (by omega)), [], hE4, by decide, ?_⟩
          refine ⟨Same.mut (s3.trans (same_new htn)) hE, ?_⟩
          · rw [if_neg (by omega), l_star, l_e, cat_S, cat_S, List.append_assoc]
            exact upd_same
      · rintro H' ⟨s3, hE3⟩
        rw [if_neg (by omega)] at hE3
        refine ⟨_, E, [SS (numZ d ++ [42, 101])], rfl, rfl, .inl (SqL.of hE3), ?_, ?_⟩
        · simp [len_S, l_plus]
          omega
        · rw [l_plus, join1]
          exact k _ (s2.trans s3)
abbrev N_table_text : List Str := ["table", "words", "one", "other", "row"]
abbrev s_table_text : Stmt := sTableText
theorem sc_table_text : FnScope N_table_text ["table"] (defScope s_table_text) := ⟨rfl, rfl, rfl, by decide +kernel, rfl, by decide +kernel, by decide +kernel⟩
def sp_table_text (K : PySem.W.Frag) : Sp := fun vs H Q _ => ∃ (a : Addr) (c : Nat) (l : Option Int), vs = [.ref a] ∧ TbF K H a c l ∧ LOk c l ∧ ∀ H', Same H H' → Q (.str (SS (tabL c l))) H'
theorem ok_table_text (T : Tx w K mg) (c_row_text : Cal P w K mg base 2 "row_text" (sp_row_text K) []) : Cal P w K mg base 3 "table_text" (sp_table_text K) [] := by
  obtain ⟨fd, F, b⟩ := T.F_table_text
  refine ⟨_, fd, _, [], F.ok sc_table_text (fun vs H Q E h => ?_) (fun cdv A outer s H vs Q E hr h => ?_), T.g_table_text, F.kp, b, .nil⟩
  · obtain ⟨a, c, l, rfl, _⟩ := h
    rfl
  · obtain ⟨a, c, l, rfl, hT, hL, k⟩ := h
    have hu := hu_of hr
    have nd := sc_table_text.nd
    refine ⟨_, (pss_cons (ps_set (i := 1) nd rfl (.inl rfl) (pe_lst (pa_cons (pe_callTy call_str_int rfl T.m_str (by decide +kernel) (pa_cons (pe_fld (pv 0) rfl) pa_nil)) pa_nil)))
      (pss_cons (ps_for PassesOwn.never rfl (pi_tup (pe_fld (pv 0) rfl)) (pg_tup rfl (pgs_cons (pg_name (i := 2) nd rfl (.inl rfl)) (pgs_cons (pg_name (i := 3) nd rfl (.inl rfl)) (pgs_cons (pg_name (i := 4) nd rfl (.inl rfl)) pgs_nil)))) (pss_one (ps_expr (pe_bm PySem.F.plainAttrs_list PySem.F.slot_list_append PySem.F.type_list_append mt_append (pv 1) (pa_cons (pe_op op_add_str (pe_op op_add_str (pe_op op_add_str (pe_op op_add_str (pe_callTy call_str_int rfl T.m_str (by decide +kernel) (pa_cons (pv 2) pa_nil)) pe_str) (pe_callTy call_str_int rfl T.m_str (by decide +kernel) (pa_cons (pv 3) pa_nil))) pe_str) (pe_c c_row_text hr (by decide) rfl (pa_cons (pv 4) pa_nil))) pa_nil)))))
      (pss_one (ps_ret (pe_join pe_str (pv 1)))))), ?_⟩
    obtain ⟨dx, la, ra, ha, hlv, hre⟩ := id hT
    obtain ⟨hc1, hc3, hld⟩ := hL
    have hcz : (TL.numL c).length ≤ 9 := numL_short (by omega)
    refine ⟨_, rfl, a, _, dx, _, _, rfl, ha, T.cl_Table, T.n_count, tfl_count, _, rfl, log_ok (by omega), sz1, fun p hpn => ?_⟩
    have ec : Str.ofString (toString ((c : Nat) : Int)) = SS (TL.numL c) := SX.num_S c
    have s1 := same_new (o := .lst [.str (Str.ofString (toString ((c : Nat) : Int)))]) hpn
    have h1 : (upd H p (.lst [.str (Str.ofString (toString ((c : Nat) : Int)))])) p = some (.lst [.str (SS (TL.numL c))]) := by rw [← ec]; exact upd_same
    obtain ⟨xs, hxs, hx1, hxn, hxa⟩ := hlv.list
    show gName 1 (.ref p) _ (upd H p (.lst [.str (Str.ofString (toString ((c : Nat) : Int)))])) _
    generalize upd H p (.lst [.str (Str.ofString (toString ((c : Nat) : Int)))]) = H1 at s1 h1 ⊢
    refine ⟨_, rfl, a, _, dx, _, _, rfl, s1 _ _ ha, T.cl_Table, T.n_leavings, tfl_leavings, la, rfl, ⟨_, Same.sqT s1 hxs⟩, for_it (walk_tup (xs := xs)) (fun i σ H' => Same H H' ∧ H' p = some (.lst (if i = 0 then [.str (SS (TL.numL c))] else [.str (SS (TL.numL c)), .str (SS ((leafL l).drop 1))])) ∧ ∃ v2 v3 v4, σ = [some (.ref a), some (.ref p), v2, v3, v4]) ⟨s1, h1, none, none, none, rfl⟩ (fun i σ H' _ e => Same.sqT e.1 hxs) ?_ ?_⟩
    · rintro i x σ H' H'' hi ⟨s2, h2, v2, v3, v4, rfl⟩ ⟨rfl, hxi⟩
      have hi0 : i = 0 := by omega
      subst hi0
      obtain ⟨d, t, rt, rx, rfl, rfl, ht2, hrt, hrp⟩ := hxa x (List.mem_of_getElem? hxi)
      obtain ⟨hc2, hd1, hd9⟩ := hld d rfl
      have hz9 := numZ_short (n := d) (by omega)
      have hz0 : (numZ 0).length ≤ 10 := by decide +kernel
      have hz1 : (numZ 1).length ≤ 10 := by decide +kernel
      refine ⟨t, _, rfl, Same.sqT s2 ht2, rfl, _, _, rfl, _, _, rfl, _, _, rfl, rfl, ?_⟩
      refine ⟨_, rfl, .inl ⟨rfl, _, SqL.of h2⟩, _, rfl, _, rfl, by decide, _, _, rfl, rfl, (by simp only [l_dash, l_e, l_plus, l_star, l_blank, l_comma, l_eq, l_dot, l_colon, l_0, cat_S, len_S, numZ_S, List.length_append, List.length_cons, List.length_nil]; exact szk (by omega)), _, rfl, _, rfl, by decide, _, _, rfl, rfl, (by simp only [l_dash, l_e, l_plus, l_star, l_blank, l_comma, l_eq, l_dot, l_colon, l_0, cat_S, len_S, numZ_S, List.length_append, List.length_cons, List.length_nil]; exact szk (by omega)), _, _, rfl, rfl, (by simp only [l_dash, l_e, l_plus, l_star, l_blank, l_comma, l_eq, l_dot, l_colon, l_0, cat_S, len_S, numZ_S, List.length_append, List.length_cons, List.length_nil]; exact szk (by omega)), _, rfl, rt, rx, c, d, rfl, Same.sqT s2 hrt, nms_same hrp s2, by omega, by omega, by omega, fun H3 s3 => ?_⟩
      refine ⟨_, _, rfl, rfl, (by simp only [l_dash, l_e, l_plus, l_star, l_blank, l_comma, l_eq, l_dot, l_colon, l_0, cat_S, len_S, numZ_S, List.length_append, List.length_cons, List.length_nil]; exact szk (by omega)), p, _, _, rfl, rfl, s3 _ _ h2, szl (by rw [if_pos rfl]; simp), ?_⟩
      have s4 := s2.trans s3
      refine ⟨Same.mut s4 hpn, ?_, _, _, _, rfl⟩
      rw [upd_same]
      have e0 : Str.ofString (toString (0 : Int)) = SS [48] := by decide +kernel
      have e1 : Str.ofString (toString (1 : Int)) = SS [49] := by decide +kernel
      rw [e0, e1, l_comma, l_eq, cat_S, cat_S, cat_S, cat_S]
      rfl
    · rintro σ H' ⟨s2, h2, v2, v3, v4, rfl⟩
      by_cases h0 : xs.length = 0
      · have el : l = none := hxn.mp (List.length_eq_zero_iff.mp h0)
        subst el
        rw [if_pos h0] at h2
        refine ⟨⟨_, rfl⟩, _, rfl, _, p, [SS (TL.numL c)], rfl, rfl, .inl (SqL.of h2), ?_, ?_⟩
        · simp [len_S, l_blank]
          omega
        · rw [l_blank, join1]
          have e : tabL c none = TL.numL c := by simp [tabL, leafL]
          have k2 := k _ s2
          rw [e] at k2
          exact k2
      · rw [if_neg h0] at h2
        cases l with
        | none => exact absurd (by rw [hxn.mpr rfl]; rfl) h0
        | some d =>
          refine ⟨⟨_, rfl⟩, _, rfl, _, p, [SS (TL.numL c), SS ((leafL (some d)).drop 1)], rfl, rfl, .inl (SqL.of h2), ?_, ?_⟩
          · have := hld d rfl
            have h3 := numZ_short (n := d) (by omega)
            simp [len_S, l_blank, leafL]
            omega
          · rw [l_blank, join2]
            exact k _ s2
abbrev N_word_text : List Str := ["word", "way"]
abbrev s_word_text : Stmt := sWordText
theorem sc_word_text : FnScope N_word_text ["word"] (defScope s_word_text) := ⟨rfl, rfl, rfl, by decide +kernel, rfl, by decide +kernel, by decide +kernel⟩
def sp_word_text (K : PySem.W.Frag) : Sp := fun vs H Q _ => ∃ (b : Addr) (w : List Key), vs = [.ref b] ∧ SqT K H b (w.map kV) ∧ (w = [] ∨ w = [.inl 0]) ∧ ∀ H', Same H H' → Q (.str (SS (if w = [] then [101] else [48]))) H'
theorem ok_word_text (T : Tx w K mg) : Cal P w K mg base 1 "word_text" (sp_word_text K) [] := by
  obtain ⟨fd, F, b⟩ := T.F_word_text
  refine ⟨_, fd, _, [], F.ok sc_word_text (fun vs H Q E h => ?_) (fun cdv A outer s H vs Q E hr h => ?_), T.g_word_text, F.kp, b, .nil⟩
  · obtain ⟨b, w, rfl, _⟩ := h
    rfl
  · obtain ⟨b, w, rfl, hb, hw, k⟩ := h
    have hu := hu_of hr
    have nd := sc_word_text.nd
    refine ⟨_, (pss_cons (ps_if (pt_cmpR (op_eqD hr.units) (pv 0) (pe_tup pa_nil) (nomark _)) (pss_one (ps_ret pe_str)) pss_nil)
      (pss_one (ps_ret (pe_join pe_str (pe_lc (own := [("way", 1)]) (g := gName 1) rfl nd (pi_tup (pv 0)) (blkOk_by (own := [("way", 1)]) (N := N_word_text) (sc := defScope s_word_text) (by decide +kernel)) (fun _ _ _ _ _ => (pg_name (i := 1) nd rfl (.inl rfl))) (fun _ _ _ _ _ => pts_nil) (fun _ _ _ _ _ => (pe_callTy call_str_int rfl T.m_str (by decide +kernel) (pa_cons (pv 1) pa_nil)))))))), ?_⟩
    refine ⟨_, rfl, sz0, fun p hpn => ?_⟩
    have s1 := same_new (o := .tup []) hpn
    rcases hw with rfl | rfl
    · refine ⟨.tuple [], .tuple [], dp_word (w := []) (Same.sqT s1 hb), .tup (SqT.of upd_same) .nil, by decide +kernel, by decide +kernel, ?_⟩
      refine ⟨_, rfl, ifT (by decide +kernel) ?_⟩
      have k2 := k _ s1
      rw [if_pos rfl, ← l_e] at k2
      exact k2
    · refine ⟨.tuple [.int 0], .tuple [], dp_word (w := [.inl 0]) (Same.sqT s1 hb), .tup (SqT.of upd_same) .nil, by decide +kernel, by decide +kernel, ?_⟩
      refine ⟨_, rfl, ifF (by decide +kernel) ?_⟩
      have hb2 := Same.sqT s1 hb
      generalize upd H p (.tup []) = H1 at s1 hb2 ⊢
      refine ⟨⟨_, rfl⟩, _, rfl, b, rfl, ⟨_, hb2⟩, fun D hD => lc_rel (Rl := fun _ v (z : Str) => v = .str z) (fun _ _ _ _ _ q => q) (walk_tup (xs := [.int 0])) yat_same (fun _ e => Same.sqT e hb2) hD (by decide) (fun _ => SS [48]) ?_ ?_⟩
      · rintro i x H' H'' R Pn hi s2 ⟨rfl, hxi⟩ hR
        have hi0 : i = 0 := by
          have hi : i < 1 := hi
          omega
        subst hi0
        have ex : V.int 0 = x := Option.some.inj hxi
        subst ex
        exact ⟨rfl, yesR ⟨_, rfl, _, rfl, by decide, hR _ _ (Same.refl _) (congrArg V.str (by decide +kernel))⟩⟩
      · intro H' ys s2 h2 hq
        cases hq with
        | cons e t =>
          cases t
          subst e
          refine ⟨_, D, [SS [48]], rfl, rfl, .inl (SqL.of h2), by simp [len_S, l_dot], ?_⟩
          rw [l_dot, join1]
          have k2 := k _ (s1.trans s2)
          rw [if_neg (by simp)] at k2
          exact k2
abbrev N_sum_text : List Str := ["total", "word", "number"]
abbrev s_sum_text : Stmt := sSumText
theorem sc_sum_text : FnScope N_sum_text ["total"] (defScope s_sum_text) := ⟨rfl, rfl, rfl, by decide +kernel, rfl, by decide +kernel, by decide +kernel⟩
def sp_sum_text (K : PySem.W.Frag) : Sp := fun vs H Q _ => ∃ (a : Addr) (t : Int) (o : Option Int), vs = [.ref a] ∧ SuR K H a (sumK t o) ∧ SOk t o ∧ ∀ H', Same H H' → Q (.str (SS (sumL t o))) H'
theorem ok_sum_text (T : Tx w K mg) (c_number_text : Cal P w K mg base 1 "number_text" (sp_number_text K) []) (c_word_text : Cal P w K mg base 1 "word_text" (sp_word_text K) []) : Cal P w K mg base 2 "sum_text" (sp_sum_text K) [] := by
  obtain ⟨fd, F, b⟩ := T.F_sum_text
  refine ⟨_, fd, _, [], F.ok sc_sum_text (fun vs H Q E h => ?_) (fun cdv A outer s H vs Q E hr h => ?_), T.g_sum_text, F.kp, b, .nil⟩
  · obtain ⟨a, t, o, rfl, _⟩ := h
    rfl
  · obtain ⟨a, t, o, rfl, ⟨xs, hx, hp⟩, hL, k⟩ := h
    have hu := hu_of hr
    have nd := sc_sum_text.nd
    refine ⟨_, (pss_cons (ps_if (pt_cmpR (op_eqD hr.units) (pv 0) (pe_lst pa_nil) (nomark _)) (pss_one (ps_ret pe_str)) pss_nil)
      (pss_one (ps_ret (pe_join pe_str (pe_lc (own := [("word", 1), ("number", 2)]) (g := gTup K 2 (gCons (gName 1) (gCons (gName 2) gNil))) rfl nd (pi_list (pv 0)) (blkOk_by (own := [("word", 1), ("number", 2)]) (N := N_sum_text) (sc := defScope s_sum_text) (by decide +kernel)) (fun _ _ _ _ _ => (pg_tup rfl (pgs_cons (pg_name (i := 1) nd rfl (.inl rfl)) (pgs_cons (pg_name (i := 2) nd rfl (.inl rfl)) pgs_nil)))) (fun _ _ _ _ _ => pts_nil) (fun _ _ _ _ _ => (pe_op op_add_str (pe_op op_add_str (pe_c c_number_text hr (by decide) rfl (pa_cons (pv 2) pa_nil)) pe_str) (pe_c c_word_text hr (by decide) rfl (pa_cons (pv 1) pa_nil))))))))), ?_⟩
    obtain ⟨ht1, ht2, hod⟩ := hL
    have hl := Paired.length hp
    have hl2 : (sumK t o).length ≤ 2 := sumK_len
    have hz9 := numZ_short (n := t) (by omega)
    refine ⟨_, rfl, sz0, fun p hpn => ?_⟩
    have s1 := same_new (o := .lst []) hpn
    refine ⟨_, _, .lst (s1.seq hx) (dp_tms (Paired.mapP hp fun _ _ q => TmR.same q s1)), .lst (SqL.of upd_same) .nil, sumK_shaped, by decide +kernel, _, rfl, ifF sumK_ne ?_⟩
    generalize upd H p (.lst []) = H1 at s1 ⊢
    refine ⟨⟨_, rfl⟩, _, rfl, a, rfl, ⟨_, s1.seq hx⟩, fun D hD => lc_rel (Rl := fun _ v (z : List Nat) => v = .str (SS z)) (fun _ _ _ _ _ q => q) (walk_list (xs := xs)) yat_same (fun _ e => (s1.trans e).seq hx) hD (by omega) (fun i => if i = 0 then numZ t ++ [58, 101] else (tailL o).drop 1) ?_ ?_⟩
    · rintro i x H' H'' R Pn hi s2 ⟨rfl, hxi⟩ hR
      obtain ⟨y, hy, z, b, n, rfl, hz1, hz2, hz3⟩ := tm_of hp hxi
      have s3 := s1.trans s2
      refine ⟨z, _, rfl, Same.sqT s3 hz1, rfl, _, _, rfl, _, _, rfl, rfl, rfl, yesR ?_⟩
      have hcase : (i = 0 ∧ y = ([], t)) ∨ (∃ d, o = some d ∧ i = 1 ∧ y = ([.inl 0], d)) := by
        cases o with
        | none =>
          have hi1 : i < 1 := by rw [hl] at hi; exact hi
          have hi0 : i = 0 := by omega
          subst hi0
          exact .inl ⟨rfl, (Option.some.inj hy).symm⟩
        | some d =>
          have hi1 : i < 2 := by rw [hl] at hi; exact hi
          match i, hi1, hy with
          | 0, _, e => exact .inl ⟨rfl, (Option.some.inj e).symm⟩
          | 1, _, e => exact .inr ⟨d, rfl, rfl, (Option.some.inj e).symm⟩
      rcases hcase with ⟨rfl, rfl⟩ | ⟨d, rfl, rfl, rfl⟩
      · refine ⟨_, rfl, _, t, rfl, Nm.same hz3 s3, by omega, _, _, rfl, rfl, (by simp only [l_dash, l_e, l_plus, l_star, l_blank, l_comma, l_eq, l_dot, l_colon, l_0, cat_S, len_S, numZ_S, List.length_append, List.length_cons, List.length_nil]; exact szk (by omega)), _, rfl, b, [], rfl, SqT.of (s3 _ _ hz2), .inl rfl, fun H3 s4 => ?_⟩
        refine ⟨_, _, rfl, rfl, szk (by simp [l_colon, cat_S, len_S]; omega), hR _ _ s4 ?_⟩
        rw [if_pos rfl, if_pos rfl, l_colon, cat_S, cat_S, List.append_assoc]
        rfl
      · have hd := hod d rfl
        have hz8 := numZ_short (n := d) (by omega)
        refine ⟨_, rfl, _, d, rfl, Nm.same hz3 s3, by omega, _, _, rfl, rfl, (by simp only [l_dash, l_e, l_plus, l_star, l_blank, l_comma, l_eq, l_dot, l_colon, l_0, cat_S, len_S, numZ_S, List.length_append, List.length_cons, List.length_nil]; exact szk (by omega)), _, rfl, b, [.inl 0], rfl, SqT.of (s3 _ _ hz2), .inr rfl, fun H3 s4 => ?_⟩
        refine ⟨_, _, rfl, rfl, szk (by simp [l_colon, cat_S, len_S]; omega), hR _ _ s4 ?_⟩
        rw [if_neg (by simp), if_neg (by simp), l_colon, cat_S, cat_S]
        simp [tailL]
    · intro H' ys s2 h2 hq
      have hys : ∃ zs : List (List Nat), ys = (zs.map SS).map V.str ∧ Txt.join (SS [32]) (zs.map SS) = SS (sumL t o) ∧ ((zs.map SS).map (·.length)).sum + (zs.map SS).length * (SS [32]).length ≤ 16777216 := by
        cases o with
        | none =>
          rw [hl] at hq
          cases hq with
          | cons e q2 =>
            cases q2
            refine ⟨[numZ t ++ [58, 101]], by rw [e]; rfl, ?_, ?_⟩
            · rw [SX.join_S]
              simp [TL.joinL, sumL, tailL]
            · simp [len_S]
              omega
        | some d =>
          have hd := hod d rfl
          have hz8 := numZ_short (n := d) (by omega)
          rw [hl] at hq
          cases hq with
          | cons e q2 =>
            cases q2 with
            | cons e2 q3 =>
              cases q3
              refine ⟨[numZ t ++ [58, 101], (tailL (some d)).drop 1], by rw [e, e2]; rfl, ?_, ?_⟩
              · rw [SX.join_S]
                simp [TL.joinL, sumL, tailL]
              · simp [len_S, tailL]
                omega
      obtain ⟨zs, rfl, hj, hlen⟩ := hys
      refine ⟨_, D, zs.map SS, rfl, rfl, .inl (SqL.of h2), by rw [l_blank]; exact hlen, ?_⟩
      rw [l_blank, hj]
      exact k _ (s1.trans s2)
end
end Sw

/-! ## G9 -/
namespace Sw
open PySem PySem.Spec PyProof.Rows L2
open C8 (Cal Met Mak pe_c pe_mk pe_mt pe_mt0 pe_gc)
section
variable {P : Program} {w : World} {K : PySem.W.Frag} {mg : Str → Option Value} {base : Heap}
abbrev N_figures_in : List Str := ["text", "sign"]
abbrev s_figures_in : Stmt := sFiguresIn
theorem sc_figures_in : FnScope N_figures_in ["text"] (defScope s_figures_in) := ⟨rfl, rfl, rfl, by decide +kernel, rfl, by decide +kernel, by decide +kernel⟩
def sp_figures_in (K : PySem.W.Frag) : Sp := fun vs H Q _ => ∃ n : Nat, vs = [.str (SS (TL.numL n))] ∧ n < 10 ^ 9 ∧ ∀ H', Same H H' → Q (.int n) H'
theorem ok_figures_in (T : Tx w K mg) : Cal P w K mg base 1 "figures_in" (sp_figures_in K) [] := by
  obtain ⟨fd, F, b⟩ := T.F_figures_in
  refine ⟨_, fd, _, [], F.ok sc_figures_in (fun vs H Q E h => ?_) (fun cdv A outer s H vs Q E hr h => ?_), T.g_figures_in, F.kp, b, .nil⟩
  · obtain ⟨n, rfl, _⟩ := h
    rfl
  · obtain ⟨n, rfl, hn, k⟩ := h
    have hu := hu_of hr
    have nd := sc_figures_in.nd
    refine ⟨_, (pss_cons (ps_if (PW.pt (pw_or (pt_cmpR op_eq (pv 0) pe_str (nomark _)) (pw_or (pt_cmpR op_gt (pe_callB call_len_str rfl T.m_len (by decide +kernel) (pa_cons (pv 0) pa_nil)) (pe_gc rfl T.c_MOST_FIGURES) (nomark _)) (pw_or1 (pt_cmpR (op_neD hr.units) (pe_lc (own := [("sign", 1)]) (g := gName 1) rfl nd (pi_str (pv 0)) (blkOk_by (own := [("sign", 1)]) (N := N_figures_in) (sc := defScope s_figures_in) (by decide +kernel)) (fun _ _ _ _ _ => (pg_name (i := 1) nd rfl (.inl rfl))) (fun _ _ _ _ _ => (pts_one (pt_cmpR op_notIn_sign (pv 1) (pe_gc rfl T.c_FIGURES) rfl))) (fun _ _ _ _ _ => (pv 1))) (pe_lst pa_nil) (nomark _)))))) (pss_one (ps_ret pe_non)) pss_nil)
      (pss_cons (ps_if (PW.pt (pw_and (pt_cmpR op_eq (pe_ix ix_str (pv 0) pe_int (fun _ _ => rfl)) pe_str (nomark _)) (pw_and1 (pt_cmpR op_ne (pv 0) pe_str (nomark _))))) (pss_one (ps_ret pe_non)) pss_nil)
      (pss_one (ps_ret (pe_callTy call_int_str rfl T.m_int (by decide +kernel) (pa_cons (pv 0) pa_nil)))))), ?_⟩
    have h9 := numL_short hn
    refine ⟨_, rfl, rfl, _, rfl, ifF (by rw [l_none]; exact decide_eq_false (str_ne (TL.numL_ne n))) ?_⟩
    refine ⟨_, rfl, _, rfl, (by rw [len_S]; exact szk (by omega)), _, _, rfl, rfl, _, rfl, ifF (by rw [len_S]; exact decide_eq_false (by omega)) ?_⟩
    refine ⟨_, rfl, _, rfl, fun D hD => lc_out walk_str ystr_same (fun _ _ => trivial) hD ?_ ?_⟩
    · rintro i x H' H'' R Pn hi s1 ⟨rfl, c, hc, rfl⟩ hR
      refine ⟨rfl, _, rfl, c, _, rfl, rfl, _, rfl, ifF ?_ (hR _ (Same.refl _))⟩
      have hm : c ∈ TL.numL n := by
        have e := List.mem_of_getElem? (l := TL.numL n) (i := i) (a := c) (by simpa using hc)
        exact e
      simp [in_figs (TL.numL_digits n c hm)]
    · intro H1 s1 h1
      refine ⟨sz0, fun p hpn => ?_⟩
      have h2 := same_new (o := .lst []) hpn
      refine ⟨.list [], .list [], .lst (h2.seq (SqL.of h1)) .nil, .lst (SqL.of upd_same) .nil, by decide +kernel, by decide +kernel, _, rfl, ifF (by decide +kernel) ?_⟩
      have s2 := s1.trans h2
      generalize upd H1 p (.lst []) = H2 at s2 ⊢
      have hz : (TL.numL n).length ≠ 0 := fun e => TL.numL_ne n (List.length_eq_zero_iff.mp e)
      obtain ⟨c, r, hcr⟩ : ∃ c r, TL.numL n = c :: r := List.exists_cons_of_ne_nil (TL.numL_ne n)
      refine ⟨_, rfl, _, _, c, rfl, rfl, (by rw [len_S]; exact szk (by omega)), (atI_nat (j := 0) (by show (TL.numL n)[0]? = some c; rw [hcr]; rfl)), rfl, _, rfl, ?_⟩
      have last : ∃ a m, [V.str (SS (TL.numL n))] = [V.str a] ∧ intText? a = some m ∧ a.length ≤ 640 ∧ Q (.int m) H2 := ⟨_, _, rfl, numL_int hn, (by rw [len_S]; omega), k _ s2⟩
      refine if2 (fun h => ?_) (fun h => ⟨_, rfl, last⟩)
      have hc : c = 48 := by
        have e := of_decide_eq_true h
        rw [l_0] at e
        injection e with e
        have := SX.S_inj e
        injection this
      have hn0 : n = 0 := by
        rcases Nat.eq_zero_or_pos n with h0 | h0
        · exact h0
        · obtain ⟨c', r', e', hc'⟩ := numL_head n n (Nat.le_refl _) h0
          rw [hcr] at e'
          injection e' with e1 e2
          exact absurd (e1.symm.trans hc) hc'
      subst hn0
      exact ⟨_, rfl, rfl, _, rfl, ifF (by decide +kernel) ⟨_, rfl, last⟩⟩
abbrev N_whole_in : List Str := ["text", "number"]
abbrev s_whole_in : Stmt := sWholeIn
theorem sc_whole_in : FnScope N_whole_in ["text"] (defScope s_whole_in) := ⟨rfl, rfl, rfl, by decide +kernel, rfl, by decide +kernel, by decide +kernel⟩
def sp_whole_in (K : PySem.W.Frag) : Sp := fun vs H Q _ => ∃ n : Int, vs = [.str (SS (numZ n))] ∧ n.natAbs < 10 ^ 9 ∧ ∀ H', Same H H' → Q (.int n) H'
theorem ok_whole_in (T : Tx w K mg) (c_figures_in : Cal P w K mg base 1 "figures_in" (sp_figures_in K) []) : Cal P w K mg base 2 "whole_in" (sp_whole_in K) [] := by
  obtain ⟨fd, F, b⟩ := T.F_whole_in
  refine ⟨_, fd, _, [], F.ok sc_whole_in (fun vs H Q E h => ?_) (fun cdv A outer s H vs Q E hr h => ?_), T.g_whole_in, F.kp, b, .nil⟩
  · obtain ⟨n, rfl, _⟩ := h
    rfl
  · obtain ⟨n, rfl, hn, k⟩ := h
    have hu := hu_of hr
    have nd := sc_whole_in.nd
    refine ⟨_, (pss_cons (ps_if (pt_cmpR op_eq (pe_slice C8.sl_txt (pv 0) po_none (po_some pe_int)) pe_str (nomark _)) (pss_cons (ps_set (i := 1) nd rfl (.inl rfl) (pe_c c_figures_in hr (by decide) rfl (pa_cons (pe_slice C8.sl_txt (pv 0) (po_some pe_int) po_none) pa_nil)))
      (pss_cons (ps_if (PW.pt (pw_or (pt_cmpR op_isN (pv 1) pe_non (nomark _)) (pw_or1 (pt_cmpR op_eq (pv 1) pe_int (nomark _))))) (pss_one (ps_ret pe_non)) pss_nil)
      (pss_one (ps_ret (pe_op op_sub pe_int (pv 1)))))) pss_nil)
      (pss_one (ps_ret (pe_c c_figures_in hr (by decide) rfl (pa_cons (pv 0) pa_nil))))), ?_⟩
    have h9 := numZ_short hn
    refine ⟨_, rfl, _, rfl, _, rfl, (by rw [len_S]; exact szk (by omega)), rfl, _, rfl, ?_⟩
    have e1 : Txt.slice (SS (numZ n)) none (some 1) = SS ((numZ n).take 1) := SX.slice_to (by decide)
    by_cases h0 : n < 0
    · have ez : numZ n = 45 :: TL.numL n.natAbs := by
        unfold numZ
        rw [if_pos h0]
      refine ifT ?_ ?_
      · rw [e1, ez, l_dash]
        exact decide_eq_true rfl
      · refine ⟨_, rfl, _, rfl, _, rfl, (by rw [len_S]; exact szk (by omega)), n.natAbs, ?_, hn, fun H1 s1 => ?_⟩
        · have e2 : Txt.slice (SS (numZ n)) (some 1) none = SS ((numZ n).drop 1) := SX.slice_from (by decide)
          rw [e2, ez]
          rfl
        · refine ⟨_, rfl, rfl, _, rfl, ifF rfl ?_⟩
          refine ⟨_, rfl, rfl, _, rfl, ifF (decide_eq_false (fun e => by injection e with e; omega)) ?_⟩
          refine ⟨_, rfl, _, _, rfl, rfl, ?_⟩
          have e3 : (0 : Int) - (n.natAbs : Int) = n := by omega
          show Q (.int ((0 : Int) - (n.natAbs : Int))) _
          rw [e3]
          exact k _ s1
    · have ez : numZ n = TL.numL n.natAbs := by
        unfold numZ
        rw [if_neg h0]
      obtain ⟨c, r, hcr⟩ : ∃ c r, TL.numL n.natAbs = c :: r := List.exists_cons_of_ne_nil (TL.numL_ne _)
      have hc := TL.numL_digits n.natAbs c (by rw [hcr]; exact List.mem_cons_self)
      refine ifF ?_ ?_
      · rw [e1, ez, hcr, l_dash]
        refine decide_eq_false (str_ne ?_)
        simp
        omega
      · refine ⟨_, rfl, n.natAbs, (by rw [ez]; rfl), hn, fun H1 s1 => ?_⟩
        have e3 : ((n.natAbs : Nat) : Int) = n := by omega
        have k2 := k _ s1
        rw [← e3] at k2
        exact k2
abbrev N_number_in : List Str := ["text", "top", "stroke", "bottom", "number", "below"]
abbrev s_number_in : Stmt := sNumberIn
theorem sc_number_in : FnScope N_number_in ["text"] (defScope s_number_in) := ⟨rfl, rfl, rfl, by decide +kernel, rfl, by decide +kernel, by decide +kernel⟩
def sp_number_in (K : PySem.W.Frag) : Sp := fun vs H Q _ => ∃ n : Int, vs = [.str (SS (numZ n))] ∧ n.natAbs < 10 ^ 9 ∧ ∀ v H', Same H H' → Nm K H' v n → Q v H'
theorem ok_number_in (T : Tx w K mg) (c_whole_in : Cal P w K mg base 2 "whole_in" (sp_whole_in K) []) (c_is_number : Cal P w K mg base 2 "is_number" (sp_is_number K) []) : Cal P w K mg base 3 "number_in" (sp_number_in K) [] := by
  obtain ⟨fd, F, b⟩ := T.F_number_in
  refine ⟨_, fd, _, [], F.ok sc_number_in (fun vs H Q E h => ?_) (fun cdv A outer s H vs Q E hr h => ?_), T.g_number_in, F.kp, b, .nil⟩
  · obtain ⟨n, rfl, _⟩ := h
    rfl
  · obtain ⟨n, rfl, hn, k⟩ := h
    have hu := hu_of hr
    have nd := sc_number_in.nd
    refine ⟨_, (pss_cons (ps_asg (pe_partition (pv 0) pe_str) (pg_tup rfl (pgs_cons (pg_name (i := 1) nd rfl (.inl rfl)) (pgs_cons (pg_name (i := 2) nd rfl (.inl rfl)) (pgs_cons (pg_name (i := 3) nd rfl (.inl rfl)) pgs_nil)))))
      (pss_cons (ps_set (i := 4) nd rfl (.inl rfl) (pe_c c_whole_in hr (by decide) rfl (pa_cons (pv 1) pa_nil)))
      (pss_cons (ps_set (i := 5) nd rfl (.inl rfl) pe_int)
      (pss_cons (ps_if (pt_cmpR op_eq (pv 2) pe_str (nomark _)) pss_never pss_nil)
      (pss_cons (ps_if (PW.pt (pw_or (pt_cmpR op_isN (pv 4) pe_non (nomark _)) (pw_or1 (pt_not (pt_val (pe_c c_is_number hr (by decide) rfl (pa_cons (pe_tup (pa_cons (pv 4) (pa_cons (pv 5) pa_nil))) pa_nil))))))) (pss_one (ps_ret pe_non)) pss_nil)
      (pss_one (ps_ret (pe_tup (pa_cons (pv 4) (pa_cons (pv 5) pa_nil)))))))))), ?_⟩
    have h9 := numZ_short hn
    refine ⟨_, rfl, ⟨_, rfl⟩, _, _, rfl, rfl, (by decide +kernel), (by rw [len_S]; exact szk (by omega)), fun p hpn => ?_⟩
    have ep : Txt.partition (SS (numZ n)) (Str.ofString "/") = (SS (numZ n), SS [], SS []) := by
      rw [l_slash]
      exact SX.partition_none (by simp) (SX.par_head_none (numZ_free (by decide) (by decide)))
    rw [ep]
    have s1 := same_new (o := .tup [.str (SS (numZ n)), .str (SS []), .str (SS [])]) hpn
    refine ⟨p, _, rfl, SqT.of upd_same, rfl, _, _, rfl, _, _, rfl, _, _, rfl, rfl, ?_⟩
    generalize upd H p (.tup [.str (SS (numZ n)), .str (SS []), .str (SS [])]) = H1 at s1 ⊢
    refine ⟨_, rfl, n, rfl, hn, fun H2 s2 => ?_⟩
    refine ⟨_, rfl, rfl, _, rfl, ifF (by rw [l_slash]; exact decide_eq_false (str_ne (by simp))) ?_⟩
    refine ⟨_, rfl, rfl, _, rfl, ifF rfl ?_⟩
    refine ⟨_, rfl, _, rfl, sz2, fun q hqn => ?_⟩
    have s3 := (s1.trans s2).trans (same_new (o := .tup [.int n, .int 1]) hqn)
    have hN : Nm K (upd H2 q (.tup [.int n, .int 1])) (.ref q) n := Nm.new
    generalize upd H2 q (.tup [.int n, .int 1]) = H3 at s3 hN ⊢
    refine ⟨_, n, rfl, hN, _, rfl, ifF rfl ?_⟩
    exact ⟨_, rfl, _, rfl, sz2, fun u hun => k _ _ (s3.trans (same_new hun)) Nm.new⟩
abbrev N_way_in : List Str := ["text", "count", "number"]
abbrev s_way_in : Stmt := sWayIn
theorem sc_way_in : FnScope N_way_in ["text", "count"] (defScope s_way_in) := ⟨rfl, rfl, rfl, by decide +kernel, rfl, by decide +kernel, by decide +kernel⟩
def sp_way_in (K : PySem.W.Frag) : Sp := fun vs H Q _ => ∃ n c : Nat, vs = [.str (SS (TL.numL n)), .int c] ∧ n < c ∧ c ≤ 6 ∧ ∀ H', Same H H' → Q (.int n) H'
theorem ok_way_in (T : Tx w K mg) (c_figures_in : Cal P w K mg base 1 "figures_in" (sp_figures_in K) []) : Cal P w K mg base 2 "way_in" (sp_way_in K) [] := by
  obtain ⟨fd, F, b⟩ := T.F_way_in
  refine ⟨_, fd, _, [], F.ok sc_way_in (fun vs H Q E h => ?_) (fun cdv A outer s H vs Q E hr h => ?_), T.g_way_in, F.kp, b, .nil⟩
  · obtain ⟨n, c, rfl, _⟩ := h
    rfl
  · obtain ⟨n, c, rfl, hn, hc, k⟩ := h
    have hu := hu_of hr
    have nd := sc_way_in.nd
    refine ⟨_, (pss_cons (ps_set (i := 2) nd rfl (.inl rfl) (pe_c c_figures_in hr (by decide) rfl (pa_cons (pv 0) pa_nil)))
      (pss_cons (ps_if (PW.pt (pw_or (pt_cmpR op_isN (pv 2) pe_non (nomark _)) (pw_or1 (pt_cmpR op_ge (pv 2) (pv 1) (nomark _))))) (pss_one (ps_ret pe_non)) pss_nil)
      (pss_one (ps_ret (pv 2))))), ?_⟩
    refine ⟨_, rfl, n, rfl, by omega, fun H1 s1 => ?_⟩
    refine ⟨_, rfl, rfl, _, rfl, ifF rfl ?_⟩
    refine ⟨_, rfl, _, rfl, _, _, rfl, rfl, _, rfl, ifF (decide_eq_false (by omega)) ?_⟩
    exact ⟨_, rfl, k _ s1⟩
abbrev N_place_in : List Str := ["text", "count"]
abbrev s_place_in : Stmt := sPlaceIn
theorem sc_place_in : FnScope N_place_in ["text", "count"] (defScope s_place_in) := ⟨rfl, rfl, rfl, by decide +kernel, rfl, by decide +kernel, by decide +kernel⟩
def sp_place_in (K : PySem.W.Frag) : Sp := fun vs H Q _ => ∃ c : Nat, vs = [.str (SS [101]), .int c] ∧ Q (.int c) H
theorem ok_place_in (T : Tx w K mg) : Cal P w K mg base 1 "place_in" (sp_place_in K) [] := by
  obtain ⟨fd, F, b⟩ := T.F_place_in
  refine ⟨_, fd, _, [], F.ok sc_place_in (fun vs H Q E h => ?_) (fun cdv A outer s H vs Q E hr h => ?_), T.g_place_in, F.kp, b, .nil⟩
  · obtain ⟨c, rfl, _⟩ := h
    rfl
  · obtain ⟨c, rfl, k⟩ := h
    have hu := hu_of hr
    have nd := sc_place_in.nd
    refine ⟨_, (pss_cons (ps_if (pt_cmpR op_eq (pv 0) pe_str (nomark _)) (pss_one (ps_ret (pv 1))) pss_nil)
      (pss_one ps_never)), ?_⟩
    refine ⟨_, rfl, rfl, _, rfl, ifT (by rw [l_e]; exact decide_eq_true rfl) ?_⟩
    exact ⟨_, rfl, k⟩
abbrev N_word_in : List Str := ["text", "count", "ways", "one"]
abbrev s_word_in : Stmt := sWordIn
theorem sc_word_in : FnScope N_word_in ["text", "count"] (defScope s_word_in) := ⟨rfl, rfl, rfl, by decide +kernel, rfl, by decide +kernel, by decide +kernel⟩
def sp_word_in (K : PySem.W.Frag) : Sp := fun vs H Q _ => ∃ (c : Nat) (w : List Key), vs = [.str (SS (if w = [] then [101] else [48])), .int c] ∧ (w = [] ∨ w = [.inl 0]) ∧ 1 ≤ c ∧ c ≤ 6 ∧ ∀ b H', Same H H' → H' b = some (.tup (w.map kV)) → Q (.ref b) H'
theorem ok_word_in (T : Tx w K mg) (c_way_in : Cal P w K mg base 2 "way_in" (sp_way_in K) []) : Cal P w K mg base 3 "word_in" (sp_word_in K) [] := by
  obtain ⟨fd, F, b⟩ := T.F_word_in
  refine ⟨_, fd, _, [], F.ok sc_word_in (fun vs H Q E h => ?_) (fun cdv A outer s H vs Q E hr h => ?_), T.g_word_in, F.kp, b, .nil⟩
  · obtain ⟨c, w, rfl, _⟩ := h
    rfl
  · obtain ⟨c, w, rfl, hw, hc, hc6, k⟩ := h
    have hu := hu_of hr
    have nd := sc_word_in.nd
    refine ⟨_, (pss_cons (ps_if (pt_cmpR op_eq (pv 0) pe_str (nomark _)) (pss_one (ps_ret (pe_tup pa_nil))) pss_nil)
      (pss_cons (ps_setLc (i := 2) (own := [("one", 3)]) (g := gName 3) rfl nd rfl rfl (sw_true rfl rfl rfl (by decide +kernel)) (pi_list (pe_split (pv 0) pe_str)) (blkOk_by (own := [("one", 3)]) (N := N_word_in) (sc := defScope s_word_in) (by decide +kernel)) (fun _ _ _ _ _ => (pg_name (i := 3) nd rfl (.inl rfl))) (fun _ _ _ _ _ => pts_nil) (fun _ _ _ _ _ => (pe_c c_way_in hr (by decide) rfl (pa_cons (pv 3) (pa_cons (pv 1) pa_nil)))))
      (pss_cons (ps_if (PW.pt (pw_or (pt_cmpR op_in_seq pe_non (pv 2) rfl) (pw_or1 (pt_cmpR op_gt (pe_callB call_len_seq rfl T.m_len (by decide +kernel) (pa_cons (pv 2) pa_nil)) (pe_gc rfl T.c_MOST_WAYS) (nomark _))))) (pss_one (ps_ret pe_non)) pss_nil)
      (pss_one (ps_ret (pe_callTy call_tuple_of rfl T.m_tuple (by decide +kernel) (pa_cons (pv 2) pa_nil))))))), ?_⟩
    rcases hw with rfl | rfl
    · refine ⟨_, rfl, rfl, _, rfl, ifT (by rw [if_pos rfl, l_e]; exact decide_eq_true rfl) ?_⟩
      exact ⟨sz0, fun p hpn => k p _ (same_new hpn) upd_same⟩
    · refine ⟨_, rfl, rfl, _, rfl, ifF (by rw [if_neg (by simp), l_e]; exact decide_eq_false (str_ne (by simp))) ?_⟩
      rw [if_neg (by simp)]
      refine ⟨_, rfl, ⟨_, rfl⟩, _, _, rfl, rfl, (by decide +kernel), szk (by rw [len_S]; simp), fun p hpn => ?_⟩
      have ep : Txt.split (SS [48]) (Str.ofString ".") = [SS [48]] := by
        rw [l_dot]
        exact (SX.split_S (by simp) (by decide)).trans (by decide)
      rw [ep]
      have s1 := same_new (o := .lst ([SS [48]].map V.str)) hpn
      have h1 : (upd H p (.lst ([SS [48]].map V.str))) p = some (.lst ([SS [48]].map V.str)) := upd_same
      generalize upd H p (.lst ([SS [48]].map V.str)) = H1 at s1 h1 ⊢
      refine ⟨p, rfl, ⟨_, SqL.of h1⟩, fun D hD => lc_rel (Rl := fun _ v (n : Int) => v = .int n) (fun _ _ _ _ _ q => q) (walk_list (xs := [SS [48]].map V.str)) yat_same (fun _ e => e.seq (SqL.of h1)) hD (by decide) (fun _ => 0) ?_ ?_⟩
      · rintro i x H' H'' R Pn hi s2 ⟨rfl, hxi⟩ hR
        have hi0 : i = 0 := by
          have hi : i < 1 := hi
          omega
        subst hi0
        have ex : V.str (SS [48]) = x := Option.some.inj hxi
        subst ex
        exact ⟨rfl, yesR ⟨_, rfl, _, rfl, 0, c, rfl, by omega, hc6, fun H3 s3 => hR _ _ s3 rfl⟩⟩
      · intro H2 ys s2 h2 hq
        have ey : ys = [.int 0] := by
          cases hq with
          | cons e t =>
            cases t
            rw [e]
        subst ey
        refine ⟨_, rfl, _, [.int 0], rfl, .inl (SqL.of h2), rfl, rfl, _, rfl, ifF rfl ?_⟩
        refine ⟨_, rfl, _, _, rfl, .inl (SqL.of h2), _, _, rfl, rfl, _, rfl, ifF rfl ?_⟩
        exact ⟨_, rfl, _, _, rfl, .inl ⟨SqL.of h2, fun b hb => k b _ ((s1.trans s2).trans (same_new hb)) upd_same⟩⟩
end
end Sw

/-! ## G10 -/
namespace Sw
open PySem PySem.Spec PyProof.Rows L2
open C8 (Cal Met Mak pe_c pe_mk pe_mt pe_mt0 pe_gc)
section
variable {P : Program} {w : World} {K : PySem.W.Frag} {mg : Str → Option Value} {base : Heap}
abbrev N_row_in : List Str := ["text", "count", "row", "done", "term", "first", "sign", "last", "number", "place"]
abbrev s_row_in : Stmt := sRowIn
theorem sc_row_in : FnScope N_row_in ["text", "count"] (defScope s_row_in) := ⟨rfl, rfl, rfl, by decide +kernel, rfl, by decide +kernel, by decide +kernel⟩
def sp_row_in (K : PySem.W.Frag) : Sp := fun vs H Q _ => ∃ (c : Nat) (d : Int), vs = [.str (SS (numZ d ++ [42, 101])), .int c] ∧ c ≤ 6 ∧ d ≠ 0 ∧ d.natAbs < 10 ^ 9 ∧ ∀ a H', Same H H' → RwN K H' a (rowI c d) → Q (.ref a) H'
theorem ok_row_in (T : Tx w K mg) (c_noughts_row : Cal P w K mg base 1 "noughts_row" (sp_noughts_row K) []) (c_number_in : Cal P w K mg base 3 "number_in" (sp_number_in K) []) (c_place_in : Cal P w K mg base 1 "place_in" (sp_place_in K) []) : Cal P w K mg base 4 "row_in" (sp_row_in K) [] := by
  obtain ⟨fd, F, b⟩ := T.F_row_in
  refine ⟨_, fd, _, [], F.ok sc_row_in (fun vs H Q E h => ?_) (fun cdv A outer s H vs Q E hr h => ?_), T.g_row_in, F.kp, b, .nil⟩
  · obtain ⟨c, d, rfl, _⟩ := h
    rfl
  · obtain ⟨c, d, rfl, hc, hd, hd9, k⟩ := h
    have hu := hu_of hr
    have nd := sc_row_in.nd
    refine ⟨_, (pss_cons (ps_set (i := 2) nd rfl (.inl rfl) (pe_c c_noughts_row hr (by decide) rfl (pa_cons (pe_op op_add (pv 1) pe_int) pa_nil)))
      (pss_cons (ps_set (i := 3) nd rfl (.inl rfl) (pe_lst pa_nil))
      (pss_cons (ps_for PassesOwn.never rfl (pi_list (pe_split (pv 0) pe_str)) (pg_name (i := 4) nd rfl (.inl rfl)) (pss_cons (ps_asg (pe_partition (pv 4) pe_str) (pg_tup rfl (pgs_cons (pg_name (i := 5) nd rfl (.inl rfl)) (pgs_cons (pg_name (i := 6) nd rfl (.inl rfl)) (pgs_cons (pg_name (i := 7) nd rfl (.inl rfl)) pgs_nil)))))
      (pss_cons (ps_set (i := 8) nd rfl (.inl rfl) (pe_c c_number_in hr (by decide) rfl (pa_cons (pv 5) pa_nil)))
      (pss_cons (ps_set (i := 9) nd rfl (.inl rfl) (pe_c c_place_in hr (by decide) rfl (pa_cons (pv 7) (pa_cons (pv 1) pa_nil))))
      (pss_cons (ps_if (PW.pt (pw_or (pt_cmpR op_eq (pv 6) pe_str (nomark _)) (pw_or (pt_cmpR op_isN (pv 8) pe_non (nomark _)) (pw_or (pt_cmpR op_eq (pe_ix ix_tup (pv 8) pe_int (fun _ _ => rfl)) pe_int (nomark _)) (pw_or (pt_cmpR op_isN (pv 9) pe_non (nomark _)) (pw_or1 (pt_cmpR op_in_seq (pv 9) (pv 3) rfl))))))) (pss_one (ps_ret pe_non)) pss_nil)
      (pss_cons (ps_asg (pv 8) (pg_sub (pv 2) (pv 9) set_list))
      (pss_one (ps_expr (pe_bm PySem.F.plainAttrs_list PySem.F.slot_list_append PySem.F.type_list_append mt_append (pv 3) (pa_cons (pv 9) pa_nil))))))))))
      (pss_one (ps_ret (pv 2)))))), ?_⟩
    have h9 := numZ_short hd9
    refine ⟨_, rfl, _, _, rfl, rfl, c + 1, rfl, by omega, fun ro H1 s1 hro r1 => ?_⟩
    refine ⟨sz0, fun dn hdn => ?_⟩
    have nrd : ro ≠ dn := by
      obtain ⟨rx, hrx, _⟩ := r1
      exact ne_free hrx hdn
    have s2 := s1.trans (same_new (o := .lst []) hdn)
    have r2 : RwN K (upd H1 dn (.lst [])) ro (List.replicate (c + 1) 0) := r1.same (same_new hdn)
    have d2 : (upd H1 dn (.lst [])) dn = some (.lst []) := upd_same
    have hdn0 : H dn = none := s1.free hdn
    show tSeq _ _ _ _ (upd H1 dn (.lst []))
    generalize upd H1 dn (.lst []) = H2 at s2 r2 d2 ⊢
    refine ⟨_, rfl, ⟨_, rfl⟩, _, _, rfl, rfl, (by decide +kernel), (by rw [len_S]; exact szk (by simp; omega)), fun p hpn => ?_⟩
    have ep : Txt.split (SS (numZ d ++ [42, 101])) (Str.ofString "+") = [SS (numZ d ++ [42, 101])] := by
      rw [l_plus]
      refine (SX.split_S (by simp) (by decide)).trans ?_
      rw [TL.spl_last1 (s := 43) (S := []) (p := numZ d ++ [42, 101]) (acc := [])]
      · rfl
      · intro hm
        rcases List.mem_append.mp hm with hm | hm
        · exact numZ_free (by decide) (by decide) hm
        · revert hm
          decide
    rw [ep]
    have hp3 := same_new (o := .lst ([SS (numZ d ++ [42, 101])].map V.str)) hpn
    have s3 := s2.trans hp3
    have r3 := r2.same hp3
    have d3 := hp3 _ _ d2
    have p3 : (upd H2 p (.lst ([SS (numZ d ++ [42, 101])].map V.str))) p = some (.lst ([SS (numZ d ++ [42, 101])].map V.str)) := upd_same
    have nd1 : dn ≠ p := ne_free d2 hpn
    have nr1 : ro ≠ p := by
      obtain ⟨rx, hrx, _⟩ := r2
      exact ne_free hrx hpn
    have hp0 : H p = none := s2.free hpn
    clear hp3
    generalize upd H2 p (.lst ([SS (numZ d ++ [42, 101])].map V.str)) = H3 at s3 r3 d3 p3 ⊢
    refine ⟨p, rfl, ⟨_, SqL.of p3⟩, for_it (walk_list (xs := [V.str (SS (numZ d ++ [42, 101]))])) (fun i σ H' => Same H H' ∧ H' p = some (.lst [V.str (SS (numZ d ++ [42, 101]))]) ∧ (∃ v4 v5 v6 v7 v8 v9, σ = [some (.str (SS (numZ d ++ [42, 101]))), some (.int c), some (.ref ro), some (.ref dn), v4, v5, v6, v7, v8, v9]) ∧ (i = 0 → RwN K H' ro (List.replicate (c + 1) 0) ∧ H' dn = some (.lst [])) ∧ (0 < i → RwN K H' ro (rowI c d)))
      ⟨s3, p3, ⟨none, none, none, none, none, none, rfl⟩, fun _ => ⟨r3, d3⟩, fun z => absurd z (by decide)⟩ (fun i σ H' _ e => SqL.of e.2.1) ?_ ?_⟩
    · rintro i x σ H' H'' hi ⟨s4, p4, ⟨v4, v5, v6, v7, v8, v9, rfl⟩, h0, _⟩ ⟨rfl, hxi⟩
      have hi0 : i = 0 := by
        have hi : i < 1 := hi
        omega
      subst hi0
      obtain ⟨r4, d4⟩ := h0 rfl
      have ex : V.str (SS (numZ d ++ [42, 101])) = x := Option.some.inj hxi
      subst ex
      refine ⟨_, rfl, ⟨_, rfl⟩, _, _, rfl, rfl, (by decide +kernel), (by rw [len_S]; exact szk (by simp; omega)), fun q hqn => ?_⟩
      have eq : Txt.partition (SS (numZ d ++ [42, 101])) (Str.ofString "*") = (SS (numZ d), SS [42], SS [101]) := by
        rw [l_star]
        exact SX.partition_some (by simp) (SX.par_head (c := 42) (sep := []) [101] (numZ_free (by decide) (by decide)))
      rw [eq]
      have hq5 := same_new (o := .tup [.str (SS (numZ d)), .str (SS [42]), .str (SS [101])]) hqn
      refine ⟨q, _, rfl, SqT.of upd_same, rfl, _, _, rfl, _, _, rfl, _, _, rfl, rfl, ?_⟩
      have s5 := s4.trans hq5
      have r5 := r4.same hq5
      have d5 := hq5 _ _ d4
      have p5 := hq5 _ _ p4
      clear hq5
      generalize upd _ q (.tup [.str (SS (numZ d)), .str (SS [42]), .str (SS [101])]) = H5 at s5 r5 d5 p5 ⊢
      refine ⟨_, rfl, d, rfl, hd9, fun nv H6 s6 hN => ?_⟩
      refine ⟨_, rfl, _, rfl, c, rfl, ?_⟩
      obtain ⟨na, rfl, hna⟩ := id hN
      refine ⟨_, rfl, rfl, _, rfl, ifF (by rw [l_none]; exact decide_eq_false (str_ne (by simp))) ?_⟩
      refine ⟨_, rfl, rfl, _, rfl, ifF rfl ?_⟩
      refine ⟨_, rfl, _, _, _, _, rfl, rfl, hna, rfl, rfl, _, rfl, ifF (decide_eq_false (fun e => by injection e with e; exact hd e)) ?_⟩
      refine ⟨_, rfl, rfl, _, rfl, ifF rfl ?_⟩
      refine ⟨_, rfl, _, rfl, dn, [], rfl, .inl (SqL.of (s6 _ _ d5)), rfl, rfl, _, rfl, ifF rfl ?_⟩
      obtain ⟨rx, hrx, hrp⟩ := r5.same s6
      have hrl := Paired.length hrp
      rw [List.length_replicate] at hrl
      refine ⟨_, rfl, _, rfl, _, rfl, ro, rx, _, c, rfl, rfl, hrx, ixN_nat (by omega), ?_⟩
      have d6 := s6 _ _ d5
      have p6 := s6 _ _ p5
      have d7 : (upd H6 ro (.lst (rx.set c (.ref na)))) dn = some (.lst []) := by
        rw [upd_ne nrd.symm]
        exact d6
      refine ⟨_, rfl, .inl ⟨rfl, _, SqL.of d7⟩, _, rfl, dn, [], _, rfl, rfl, d7, (by decide), ?_⟩
      have s8 : Same H (upd (upd H6 ro (.lst (rx.set c (.ref na)))) dn (.lst ([] ++ [.int c]))) := Same.mut (Same.mut (s5.trans s6) hro) hdn0
      refine ⟨s8, ?_, ⟨_, _, _, _, _, _, rfl⟩, fun z => absurd z (by decide), fun _ => ⟨rx.set c (.ref na), ?_, ?_⟩⟩
      · rw [upd_ne nd1.symm, upd_ne nr1.symm]
        exact p6
      · rw [upd_ne nrd, upd_same]
      · rw [show rowI c d = (List.replicate (c + 1) 0).set c d by simp [rowI, List.replicate_succ']]
        exact nms_t (nms_t (paired_set hN c hrp) (SameT.lst hrx)) (SameT.lst d7)
    · rintro σ H' ⟨s4, p4, ⟨v4, v5, v6, v7, v8, v9, rfl⟩, _, h1⟩
      exact ⟨_, rfl, k ro H' s4 (h1 (Nat.succ_pos 0))⟩
abbrev N_leaving_in : List Str := ["text", "count", "ahead", "sign", "behind", "first", "comma", "last", "one", "other", "row"]
abbrev s_leaving_in : Stmt := sLeavingIn
theorem sc_leaving_in : FnScope N_leaving_in ["text", "count"] (defScope s_leaving_in) := ⟨rfl, rfl, rfl, by decide +kernel, rfl, by decide +kernel, by decide +kernel⟩
def sp_leaving_in (K : PySem.W.Frag) : Sp := fun vs H Q _ => ∃ (c : Nat) (d : Int), vs = [.str (SS ([48, 44, 49, 61] ++ (numZ d ++ [42, 101]))), .int c] ∧ 2 ≤ c ∧ c ≤ 6 ∧ d ≠ 0 ∧ d.natAbs < 10 ^ 9 ∧ ∀ t rt H', Same H H' → SqT K H' t [.int 0, .int 1, .ref rt] → RwN K H' rt (rowI c d) → Q (.ref t) H'
theorem ok_leaving_in (T : Tx w K mg) (c_way_in : Cal P w K mg base 2 "way_in" (sp_way_in K) []) (c_row_in : Cal P w K mg base 4 "row_in" (sp_row_in K) []) : Cal P w K mg base 5 "leaving_in" (sp_leaving_in K) [] := by
  obtain ⟨fd, F, b⟩ := T.F_leaving_in
  refine ⟨_, fd, _, [], F.ok sc_leaving_in (fun vs H Q E h => ?_) (fun cdv A outer s H vs Q E hr h => ?_), T.g_leaving_in, F.kp, b, .nil⟩
  · obtain ⟨c, d, rfl, _⟩ := h
    rfl
  · obtain ⟨c, d, rfl, hc, hc6, hd, hd9, k⟩ := h
    have hu := hu_of hr
    have nd := sc_leaving_in.nd
    refine ⟨_, (pss_cons (ps_asg (pe_partition (pv 0) pe_str) (pg_tup rfl (pgs_cons (pg_name (i := 2) nd rfl (.inl rfl)) (pgs_cons (pg_name (i := 3) nd rfl (.inl rfl)) (pgs_cons (pg_name (i := 4) nd rfl (.inl rfl)) pgs_nil)))))
      (pss_cons (ps_asg (pe_partition (pv 2) pe_str) (pg_tup rfl (pgs_cons (pg_name (i := 5) nd rfl (.inl rfl)) (pgs_cons (pg_name (i := 6) nd rfl (.inl rfl)) (pgs_cons (pg_name (i := 7) nd rfl (.inl rfl)) pgs_nil)))))
      (pss_cons (ps_set (i := 8) nd rfl (.inl rfl) (pe_c c_way_in hr (by decide) rfl (pa_cons (pv 5) (pa_cons (pv 1) pa_nil))))
      (pss_cons (ps_set (i := 9) nd rfl (.inl rfl) (pe_c c_way_in hr (by decide) rfl (pa_cons (pv 7) (pa_cons (pv 1) pa_nil))))
      (pss_cons (ps_set (i := 10) nd rfl (.inl rfl) (pe_c c_row_in hr (by decide) rfl (pa_cons (pv 4) (pa_cons (pv 1) pa_nil))))
      (pss_cons (ps_if (PW.pt (pw_or (pt_cmpR op_eq (pv 3) pe_str (nomark _)) (pw_or (pt_cmpR op_eq (pv 6) pe_str (nomark _)) (pw_or (pt_cmpR op_isN (pv 8) pe_non (nomark _)) (pw_or (pt_cmpR op_isN (pv 9) pe_non (nomark _)) (pw_or (pt_cmpR op_isN (pv 10) pe_non (nomark _)) (pw_or1 (pt_cmpR op_ge (pv 8) (pv 9) (nomark _))))))))) (pss_one (ps_ret pe_non)) pss_nil)
      (pss_one (ps_ret (pe_tup (pa_cons (pv 8) (pa_cons (pv 9) (pa_cons (pv 10) pa_nil)))))))))))), ?_⟩
    have h9 := numZ_short hd9
    refine ⟨_, rfl, ⟨_, rfl⟩, _, _, rfl, rfl, (by decide +kernel), (by rw [len_S]; exact szk (by simp; omega)), fun q hqn => ?_⟩
    have eq : Txt.partition (SS ([48, 44, 49, 61] ++ (numZ d ++ [42, 101]))) (Str.ofString "=") = (SS [48, 44, 49], SS [61], SS (numZ d ++ [42, 101])) := by
      rw [l_eq]
      exact SX.partition_some (by simp) (SX.par_head (c := 61) (sep := []) (p := [48, 44, 49]) (numZ d ++ [42, 101]) (by decide))
    rw [eq]
    have s1 := same_new (o := .tup [.str (SS [48, 44, 49]), .str (SS [61]), .str (SS (numZ d ++ [42, 101]))]) hqn
    refine ⟨q, _, rfl, SqT.of upd_same, rfl, _, _, rfl, _, _, rfl, _, _, rfl, rfl, ?_⟩
    generalize upd H q (.tup [.str (SS [48, 44, 49]), .str (SS [61]), .str (SS (numZ d ++ [42, 101]))]) = H1 at s1 ⊢
    refine ⟨_, rfl, ⟨_, rfl⟩, _, _, rfl, rfl, (by decide +kernel), szk (by rw [len_S]; simp), fun p hpn => ?_⟩
    have ep : Txt.partition (SS [48, 44, 49]) (Str.ofString ",") = (SS [48], SS [44], SS [49]) := by
      rw [l_comma]
      exact SX.partition_some (by simp) (SX.par_head (c := 44) (sep := []) (p := [48]) [49] (by decide))
    rw [ep]
    have s2 := s1.trans (same_new (o := .tup [.str (SS [48]), .str (SS [44]), .str (SS [49])]) hpn)
    refine ⟨p, _, rfl, SqT.of upd_same, rfl, _, _, rfl, _, _, rfl, _, _, rfl, rfl, ?_⟩
    generalize upd H1 p (.tup [.str (SS [48]), .str (SS [44]), .str (SS [49])]) = H2 at s2 ⊢
    have n0 : TL.numL 0 = [48] := TL.numL_lt (by decide)
    have n1 : TL.numL 1 = [49] := TL.numL_lt (by decide)
    refine ⟨_, rfl, _, rfl, 0, c, (by rw [n0]; rfl), by omega, hc6, fun H3 s3 => ?_⟩
    refine ⟨_, rfl, _, rfl, 1, c, (by rw [n1]; rfl), by omega, hc6, fun H4 s4 => ?_⟩
    refine ⟨_, rfl, _, rfl, c, d, rfl, hc6, hd, hd9, fun rt H5 s5 hrt => ?_⟩
    refine ⟨_, rfl, rfl, _, rfl, ifF (by rw [l_none]; exact decide_eq_false (str_ne (by simp))) ?_⟩
    refine ⟨_, rfl, rfl, _, rfl, ifF (by rw [l_none]; exact decide_eq_false (str_ne (by simp))) ?_⟩
    refine ⟨_, rfl, rfl, _, rfl, ifF rfl ?_⟩
    refine ⟨_, rfl, rfl, _, rfl, ifF rfl ?_⟩
    refine ⟨_, rfl, rfl, _, rfl, ifF rfl ?_⟩
    refine ⟨_, rfl, _, rfl, _, _, rfl, rfl, _, rfl, ifF rfl ?_⟩
    refine ⟨_, rfl, _, rfl, _, rfl, sz3, fun t ht => ?_⟩
    exact k t rt _ (((s2.trans s3).trans (s4.trans s5)).trans (same_new ht)) (SqT.of upd_same) (hrt.same (same_new ht))
end
end Sw

/-! ## G11 -/
namespace Sw
open PySem PySem.Spec PyProof.Rows L2
open C8 (Cal Met Mak pe_c pe_mk pe_mt pe_mt0 pe_gc)
section
variable {P : Program} {w : World} {K : PySem.W.Frag} {mg : Str → Option Value} {base : Heap}
abbrev N_read_table : List Str := ["text", "words", "count", "leavings", "at", "found", "told"]
abbrev s_read_table : Stmt := sReadTable
theorem sc_read_table : FnScope N_read_table ["text"] (defScope s_read_table) := ⟨rfl, rfl, rfl, by decide +kernel, rfl, by decide +kernel, by decide +kernel⟩
def sp_read_table (K : PySem.W.Frag) : Sp := fun vs H Q _ => ∃ (c : Nat) (l : Option Int), vs = [.str (SS (tabL c l))] ∧ LOk c l ∧ ∀ a H', Same H H' → H a = none → TbN K H H' a c l → Q (.ref a) H'
theorem ok_read_table (T : Tx w K mg) (c_figures_in : Cal P w K mg base 1 "figures_in" (sp_figures_in K) []) (c_leaving_in : Cal P w K mg base 5 "leaving_in" (sp_leaving_in K) []) (c_Table : Mak P w K mg base 6 "Table" (He.ga K "Table") (sp_Table___init__ K) []) : Cal P w K mg base 8 "read_table" (sp_read_table K) [] := by
  obtain ⟨fd, F, b⟩ := T.F_read_table
  refine ⟨_, fd, _, [], F.ok sc_read_table (fun vs H Q E h => ?_) (fun cdv A outer s H vs Q E hr h => ?_), T.g_read_table, F.kp, b, .nil⟩
  · obtain ⟨c, l, rfl, _⟩ := h
    rfl
  · obtain ⟨c, l, rfl, hL, k⟩ := h
    have hu := hu_of hr
    have nd := sc_read_table.nd
    refine ⟨_, (pss_cons (ps_set (i := 1) nd rfl (.inl rfl) (pe_split (pv 0) pe_str))
      (pss_cons (ps_set (i := 2) nd rfl (.inl rfl) (pe_c c_figures_in hr (by decide) rfl (pa_cons (pe_ix ix_list (pv 1) pe_int (fun _ _ => rfl)) pa_nil)))
      (pss_cons (ps_if (PW.pt (pw_or (pt_cmpR op_isN (pv 2) pe_non (nomark _)) (pw_or (pt_cmpR op_lt (pv 2) pe_int (nomark _)) (pw_or1 (pt_cmpR op_gt (pv 2) pe_int (nomark _)))))) (pss_one ps_never) pss_nil)
      (pss_cons (ps_set (i := 3) nd rfl (.inl rfl) (pe_lst pa_nil))
      (pss_cons (ps_for PassesOwn.never rfl (pi_range2 rfl T.m_range (pa_cons pe_int (pa_cons (pe_callB call_len_seq rfl T.m_len (by decide +kernel) (pa_cons (pv 1) pa_nil)) pa_nil))) (pg_name (i := 4) nd rfl (.inl rfl)) (pss_cons (ps_set (i := 5) nd rfl (.inl rfl) (pe_c c_leaving_in hr (by decide) rfl (pa_cons (pe_ix ix_list (pv 1) (pv 4) (fun _ _ => rfl)) (pa_cons (pv 2) pa_nil))))
      (pss_cons (ps_if (PW.pt (pw_or (pt_cmpR op_isN (pv 5) pe_non (nomark _)) (pw_or1 (pt_cmpR (op_inD (room65 hr)) (pe_slice sl_tup (pv 5) po_none (po_some pe_int)) (pe_lc (own := [("told", 6)]) (g := gName 6) rfl nd (pi_list (pv 3)) (blkOk_by (own := [("told", 6)]) (N := N_read_table) (sc := defScope s_read_table) (by decide +kernel)) (fun _ _ _ _ _ => (pg_name (i := 6) nd rfl (.inl rfl))) (fun _ _ _ _ _ => pts_nil) (fun _ _ _ _ _ => (pe_slice (sl_tupK K) (pv 6) po_none (po_some pe_int)))) rfl)))) (pss_one ps_never) pss_nil)
      (pss_one (ps_expr (pe_bm PySem.F.plainAttrs_list PySem.F.slot_list_append PySem.F.type_list_append mt_append (pv 3) (pa_cons (pv 5) pa_nil)))))))
      (pss_one (ps_ret (pe_mk c_Table hr (by decide) rfl (pa_cons (pv 2) (pa_cons (pv 3) pa_nil)))))))))), ?_⟩
    obtain ⟨hc1, hc3, hld⟩ := id hL
    have hcz : (TL.numL c).length ≤ 9 := numL_short (by omega)
    have htl : (tabL c l).length ≤ 50 := by
      unfold tabL
      cases l with
      | none => simp [leafL]; omega
      | some d =>
        have := hld d rfl
        have h3 := numZ_short (n := d) (by omega)
        simp [leafL]
        omega
    refine ⟨_, rfl, ⟨_, rfl⟩, _, _, rfl, rfl, (by decide +kernel), szk (by rw [len_S]; omega), fun wa hwa => ?_⟩
    obtain ⟨ws, hws, hsp⟩ : ∃ ws, ws = Txt.split (SS (tabL c l)) (Str.ofString " ") ∧ (∃ r, ws = SS (TL.numL c) :: r ∧ ((l = none ∧ r = []) ∨ ∃ d, l = some d ∧ r = [SS ([48, 44, 49, 61] ++ (numZ d ++ [42, 101]))])) := by
      refine ⟨_, rfl, ?_⟩
      rw [l_blank, tabL_split]
      cases l with
      | none => exact ⟨[], rfl, .inl ⟨rfl, rfl⟩⟩
      | some d => exact ⟨_, rfl, .inr ⟨d, rfl, rfl⟩⟩
    rw [← hws]
    obtain ⟨r, rfl, hr2⟩ := hsp
    clear hws
    have s1 := same_new (o := .lst ((SS (TL.numL c) :: r).map V.str)) hwa
    have h1 : (upd H wa (.lst ((SS (TL.numL c) :: r).map V.str))) wa = some (.lst ((SS (TL.numL c) :: r).map V.str)) := upd_same
    show gName 1 _ _ (upd H wa (.lst ((SS (TL.numL c) :: r).map V.str))) _
    generalize upd H wa (.lst ((SS (TL.numL c) :: r).map V.str)) = H1 at s1 h1 ⊢
    refine ⟨_, rfl, _, _, _, _, rfl, rfl, SqL.of h1, at_get (i := 0) rfl, c, rfl, by omega, fun H2 s2 => ?_⟩
    refine ⟨_, rfl, rfl, _, rfl, ifF rfl ?_⟩
    refine ⟨_, rfl, _, _, rfl, rfl, _, rfl, ifF (decide_eq_false (by omega)) ?_⟩
    refine ⟨_, rfl, _, _, rfl, rfl, _, rfl, ifF (decide_eq_false (by omega)) ?_⟩
    refine ⟨sz0, fun lv hlv => ?_⟩
    have s3 := (s1.trans s2).trans (same_new (o := .lst []) hlv)
    have w3 := same_new (o := .lst []) hlv _ _ (s2 _ _ h1)
    have v3 : (upd H2 lv (.lst [])) lv = some (.lst []) := upd_same
    have hlv0 : H lv = none := (s1.trans s2).free hlv
    show tSeq _ _ _ _ (upd H2 lv (.lst []))
    generalize upd H2 lv (.lst []) = H3 at s3 w3 v3 ⊢
    refine ⟨_, rfl, _, _, rfl, .inl (SqL.of w3), 1, (((SS (TL.numL c) :: r).map V.str).length : Nat), rfl, ⟨by decide, by decide, by omega, by rcases hr2 with ⟨_, rfl⟩ | ⟨d, _, rfl⟩ <;> simp⟩, for_it (walk_range (lo := 1) (n := ((((SS (TL.numL c) :: r).map V.str).length : Nat) - (1 : Int)).toNat)) (fun i σ H' => Same H H' ∧ H' wa = some (.lst ((SS (TL.numL c) :: r).map V.str)) ∧ (∃ v4 v5 v6, σ = [some (.str (SS (tabL c l))), some (.ref wa), some (.int c), some (.ref lv), v4, v5, v6]) ∧ (i = 0 → H' lv = some (.lst [])) ∧ (0 < i → H' lv ≠ none ∧ LvIn K H' lv c l))
      ⟨s3, w3, ⟨none, none, none, rfl⟩, fun _ => v3, fun z => absurd z (by decide)⟩ (fun _ _ _ _ _ => trivial) ?_ ?_⟩
    · rintro i x σ H' H'' hi ⟨s4, w4, ⟨v4, v5, v6, rfl⟩, h0, _⟩ ⟨rfl, rfl⟩
      rcases hr2 with ⟨rfl, rfl⟩ | ⟨d, rfl, rfl⟩
      · exact absurd hi (Nat.not_lt_zero _)
      obtain ⟨hc2, hd1, hd9⟩ := hld d rfl
      have hi0 : i = 0 := by
        have hi : i < 1 := hi
        omega
      subst hi0
      have v4' := h0 rfl
      refine ⟨_, rfl, _, rfl, _, _, _, _, rfl, rfl, SqL.of w4, at_get (i := 1) rfl, _, rfl, c, d, rfl, hc2, by omega, by omega, by omega, fun t rt H5 s5 ht hrt => ?_⟩
      refine ⟨_, rfl, rfl, _, rfl, ifF rfl ?_⟩
      refine ⟨_, rfl, _, rfl, t, _, rfl, ht, ?_, fun q hqn => ?_⟩
      · simp [HT.sIx]
      have ec : cutV [V.int 0, .int 1, .ref rt] none (some 2) = [.int 0, .int 1] := rfl
      rw [ec]
      have s6 := s5.trans (same_new (o := .tup [.int 0, .int 1]) hqn)
      have h6 := same_new (o := .tup [.int 0, .int 1]) hqn
      have q6 : (upd H5 q (.tup [.int 0, .int 1])) q = some (.tup [.int 0, .int 1]) := upd_same
      generalize upd H5 q (.tup [.int 0, .int 1]) = H6 at s6 h6 q6 ⊢
      refine ⟨_, rfl, lv, rfl, ⟨_, SqL.of (s6 _ _ v4')⟩, fun D hD => lc_nil (walk_list (xs := [])) ((same_new hD).seq (SqL.of (s6 _ _ v4'))) ?_⟩
      refine ⟨.tuple [.int 0, .int 1], [], .tup (SqT.of (same_new hD _ _ q6)) (.cons (.int _) (.cons (.int _) .nil)), .lst (SqL.of upd_same) .nil, by decide +kernel, by decide +kernel, _, rfl, ifF rfl ?_⟩
      have s7 := s6.trans (same_new (o := .lst []) hD)
      have h7 := h6.trans (same_new (o := .lst []) hD)
      generalize upd H6 D (.lst []) = H7 at s7 h7 ⊢
      have v7 := s7 _ _ v4'
      refine ⟨_, rfl, .inl ⟨rfl, _, SqL.of v7⟩, _, rfl, lv, [], _, rfl, rfl, v7, by decide, ?_⟩
      refine ⟨Same.mut (s4.trans s7) hlv0, ?_, ⟨_, _, _, rfl⟩, fun z => absurd z (by decide), fun _ => ⟨by rw [upd_same]; simp, hc2, by omega, t, rt, SqL.of upd_same, ?_, ?_⟩⟩
      · exact upd_keep (s7 _ _ w4) v7 (by simp)
      · exact sqT_t (Same.sqT h7 ht) (SameT.lst v7)
      · obtain ⟨rx, hrx, hrp⟩ := hrt
        exact ⟨rx, SqL.of (upd_keep (h7 _ _ hrx) v7 (by intro z; injection z with z; have := Paired.length hrp; rw [z, rowI_len] at this; simp at this)), nms_t (nms_same hrp h7) (SameT.lst v7)⟩
    · rintro σ H' ⟨s4, w4, ⟨v4, v5, v6, rfl⟩, h0, h1⟩
      have hlvs : H' lv ≠ none ∧ LvIn K H' lv c l := by
        rcases hr2 with ⟨rfl, rfl⟩ | ⟨d, rfl, rfl⟩
        · have e := h0 rfl
          exact ⟨by rw [e]; simp, SqL.of e⟩
        · exact h1 (Nat.succ_pos 0)
      refine ⟨_, rfl, _, rfl, fun a dx ha hdx hne => ?_⟩
      have s5 : Same H' (upd (upd H' dx (.own a)) a (.ins (cT K) dx [])) := Same.new (same_new hdx) (by rw [upd_ne hne.symm]; exact ha)
      refine ⟨a, dx, lv, c, l, rfl, upd_same, hc1, hc3, fun z => hlvs.1 (by rw [z]; exact ha), ?_, fun H6 kp hT => ⟨rfl, k a H6 ?_ (s4.free ha) (hT.old fun b hb => s4.free (upd_none (upd_none hb)))⟩⟩
      · cases l with
        | none => exact s5.seq hlvs.2
        | some d =>
          obtain ⟨g1, g2, t, rt, g3, g4, g5⟩ := hlvs.2
          exact ⟨g1, g2, t, rt, s5.seq g3, Same.sqT s5 g4, g5.same s5⟩
      · intro b o hb
        have hb2 := s4 _ _ hb
        exact kp _ _ (s5 _ _ hb2) (ne_free hb2 ha)
abbrev N_read_sum : List Str := ["text", "count", "numbers", "at", "term", "first", "sign", "last", "number", "word"]
abbrev s_read_sum : Stmt := sReadSum
theorem sc_read_sum : FnScope N_read_sum ["text", "count"] (defScope s_read_sum) := ⟨rfl, rfl, rfl, by decide +kernel, rfl, by decide +kernel, by decide +kernel⟩
def sp_read_sum (K : PySem.W.Frag) : Sp := fun vs H Q _ => ∃ (c : Nat) (t : Int) (o : Option Int), vs = [.str (SS (sumL t o)), .int c] ∧ SOk t o ∧ 1 ≤ c ∧ c ≤ 6 ∧ ∀ a H', Same H H' → H a = none → SuR K H' a (sumK t o) → Q (.ref a) H'
theorem ok_read_sum (T : Tx w K mg) (c_number_in : Cal P w K mg base 3 "number_in" (sp_number_in K) []) (c_word_in : Cal P w K mg base 3 "word_in" (sp_word_in K) []) (c_rank : Cal P w K mg base 1 "rank" (sp_rank K) []) : Cal P w K mg base 4 "read_sum" (sp_read_sum K) [] := by
  obtain ⟨fd, F, b⟩ := T.F_read_sum
  obtain ⟨fR, fdR, psR, dsR, FR, hmR, _, bR, dR⟩ := c_rank.ex
  cases dR
  refine ⟨_, fd, _, [], F.ok sc_read_sum (fun vs H Q E h => ?_) (fun cdv A outer s H vs Q E hr h => ?_), T.g_read_sum, F.kp, b, .nil⟩
  · obtain ⟨c, t, o, rfl, _⟩ := h
    rfl
  · obtain ⟨c, t, o, rfl, hL, hc, hc6, k⟩ := h
    have hu := hu_of hr
    have nd := sc_read_sum.nd
    refine ⟨_, (pss_cons (ps_if (pt_cmpR op_eq (pv 0) pe_str (nomark _)) (pss_one (ps_ret (pe_lst pa_nil))) pss_nil)
      (pss_cons (ps_set (i := 2) nd rfl (.inr rfl) pe_dnewT)
      (pss_cons (ps_for PassesOwn.never rfl (pi_enum rfl T.m_enumerate (pa_cons (pe_split (pv 0) pe_str) pa_nil)) (pg_tup rfl (pgs_cons (pg_name (i := 3) nd rfl (.inl rfl)) (pgs_cons (pg_name (i := 4) nd rfl (.inl rfl)) pgs_nil))) (pss_cons (ps_asg (pe_partition (pv 4) pe_str) (pg_tup rfl (pgs_cons (pg_name (i := 5) nd rfl (.inl rfl)) (pgs_cons (pg_name (i := 6) nd rfl (.inl rfl)) (pgs_cons (pg_name (i := 7) nd rfl (.inl rfl)) pgs_nil)))))
      (pss_cons (ps_set (i := 8) nd rfl (.inl rfl) (pe_c c_number_in hr (by decide) rfl (pa_cons (pv 5) pa_nil)))
      (pss_cons (ps_set (i := 9) nd rfl (.inl rfl) (pe_c c_word_in hr (by decide) rfl (pa_cons (pv 7) (pa_cons (pv 1) pa_nil))))
      (pss_cons (ps_if (PW.pt (pw_or (pt_cmpR op_eq (pv 6) pe_str (nomark _)) (pw_or (pt_cmpR op_isN (pv 8) pe_non (nomark _)) (pw_or (pt_cmpR op_eq (pe_ix ix_tup (pv 8) pe_int (fun _ _ => rfl)) pe_int (nomark _)) (pw_or (pt_cmpR op_isN (pv 9) pe_non (nomark _)) (pw_or1 (pt_cmp (pc_din hu (pv 9) (pv 2)) rfl))))))) (pss_one ps_never) pss_nil)
      (pss_one (ps_dput hu (pv 2) (pv 9) (pv 8) rfl)))))))
      (pss_one (ps_ret (pe_lc (own := [("word", 9)]) (g := gName 9) rfl nd (pi_list (pe_sortK (kd := rankD) FR hmR bR hr (by decide) rfl (fun H b w Q h k => ⟨b, w, rfl, SqT.of h, fun t H' s1 h1 => k t H' s1 (dp_rank h1 (SqT.of (s1 _ _ h)))⟩) (by rfl) T.m_sorted (by rfl) (pa_cons (pv 2) pa_nil))) (blkOk_by (own := [("word", 9)]) (N := N_read_sum) (sc := defScope s_read_sum) (by decide +kernel)) (fun _ _ _ _ _ => (pg_name (i := 9) nd rfl (.inl rfl))) (fun _ _ _ _ _ => pts_nil) (fun _ _ _ _ _ => (pe_tup (pa_cons (pv 9) (pa_cons (pe_dget hu (pv 2) (pv 9) (fun _ _ => rfl)) pa_nil)))))))))), ?_⟩
    obtain ⟨ht1, ht2, hod⟩ := id hL
    have hnz : ∀ y ∈ sumK t o, y.2 ≠ 0 ∧ y.2.natAbs < 10 ^ 9 := by
      intro y hy
      cases o with
      | none =>
        simp only [sumK, List.mem_singleton] at hy
        subst hy
        exact ⟨by show t ≠ 0; omega, by show t.natAbs < _; omega⟩
      | some d =>
        have := hod d rfl
        simp only [sumK, List.mem_cons, List.not_mem_nil, or_false] at hy
        rcases hy with rfl | rfl
        · exact ⟨by show t ≠ 0; omega, by show t.natAbs < _; omega⟩
        · exact ⟨by show d ≠ 0; omega, by show d.natAbs < _; omega⟩
    have htl : (sumL t o).length ≤ 60 ∧ 2 ≤ (sumL t o).length := by
      have h1 := numZ_short (n := t) (by omega)
      unfold sumL
      cases o with
      | none => simp [tailL]; omega
      | some d =>
        have := hod d rfl
        have h3 := numZ_short (n := d) (by omega)
        simp [tailL]
        omega
    refine ⟨_, rfl, rfl, _, rfl, ifF (by rw [l_0]; exact decide_eq_false (str_ne (fun e => by have := congrArg List.length e; simp at this; omega))) ?_⟩
    intro q hqn
    have s1 := same_new (o := .dT []) hqn
    have q1 : (upd H q (.dT [])) q = some (.dT []) := upd_same
    show tSeq _ _ _ _ (upd H q (.dT []))
    generalize upd H q (.dT []) = H1 at s1 q1 ⊢
    refine ⟨_, rfl, ⟨_, rfl⟩, _, _, rfl, rfl, (by decide +kernel), szk (by rw [len_S]; omega), fun p hpn => ?_⟩
    rw [show Txt.split (SS (sumL t o)) (Str.ofString " ") = ((sumK t o).map termL).map SS by rw [l_blank]; exact sumL_split t o]
    have s2 := s1.trans (same_new (o := .lst ((((sumK t o).map termL).map SS).map V.str)) hpn)
    have q2 := same_new (o := .lst ((((sumK t o).map termL).map SS).map V.str)) hpn _ _ q1
    have p2 : (upd H1 p (.lst ((((sumK t o).map termL).map SS).map V.str))) p = some (.lst ((((sumK t o).map termL).map SS).map V.str)) := upd_same
    generalize upd H1 p (.lst ((((sumK t o).map termL).map SS).map V.str)) = H2 at s2 q2 p2 ⊢
    refine ⟨p, _, rfl, SqL.of p2, for_it (walk_enum (xs := (((sumK t o).map termL).map SS).map V.str)) (fun i σ H' => Same H H' ∧ H' p = some (.lst ((((sumK t o).map termL).map SS).map V.str)) ∧ (∃ v3 v4 v5 v6 v7 v8 v9, σ = [some (.str (SS (sumL t o))), some (.int c), some (.ref q), v3, v4, v5, v6, v7, v8, v9]) ∧ DtR K H' q ((sumK t o).take i))
      ⟨s2, p2, ⟨none, none, none, none, none, none, none, rfl⟩, ⟨[], q2, .nil⟩⟩ (fun i σ H' _ e => SqL.of e.2.1) ?_ ?_⟩
    · rintro i x σ H' H'' hi ⟨s3, p3, ⟨v3, v4, v5, v6, v7, v8, v9, rfl⟩, kvs, q3, hkv⟩ ⟨a, u, v, rfl, han, rfl, hu', hv⟩
      have eu : V.int (i : Nat) = u := Option.some.inj hu'
      subst eu
      have hi2 : i < (sumK t o).length := by simpa using hi
      obtain ⟨y, hy⟩ : ∃ y, (sumK t o)[i]? = some y := ⟨_, List.getElem?_eq_getElem hi2⟩
      have ev : v = .str (SS (termL y)) := by
        have e : ((((sumK t o).map termL).map SS).map V.str)[i]? = some (.str (SS (termL y))) := by simp [hy]
        have hv : ((((sumK t o).map termL).map SS).map V.str)[i]? = some v := hv
        rw [e] at hv
        exact (Option.some.inj hv).symm
      subst ev
      have hyw := sumK_words y (List.mem_of_getElem? hy)
      have hyn := hnz y (List.mem_of_getElem? hy)
      have hz9 := numZ_short hyn.2
      have hyk : y.1 = [] ∨ y.1 = [.inl 0] := by
        rcases o with _ | d
        · simp only [sumK] at hy
          have := List.mem_of_getElem? hy
          simp at this
          subst this
          exact .inl rfl
        · have := List.mem_of_getElem? hy
          simp only [sumK, List.mem_cons, List.not_mem_nil, or_false] at this
          rcases this with rfl | rfl
          · exact .inl rfl
          · exact .inr rfl
      have s4 := s3.trans (same_new (o := .tup [.int (i : Nat), .str (SS (termL y))]) han)
      have p4 := same_new (o := .tup [.int (i : Nat), .str (SS (termL y))]) han _ _ p3
      have q4 := same_new (o := .tup [.int (i : Nat), .str (SS (termL y))]) han _ _ q3
      have kv4 := Paired.mapP hkv fun _ _ g => KvR.t g (Same.t (same_new (o := .tup [.int (i : Nat), .str (SS (termL y))]) han))
      refine ⟨a, _, rfl, SqT.of upd_same, rfl, _, _, rfl, _, _, rfl, rfl, ?_⟩
      generalize upd _ a (.tup [.int (i : Nat), .str (SS (termL y))]) = H4 at s4 p4 q4 kv4 ⊢
      have hlt : (termL y).length ≤ 50 := by
        unfold termL
        split <;> simp <;> omega
      refine ⟨_, rfl, ⟨_, rfl⟩, _, _, rfl, rfl, (by decide +kernel), szk (by rw [len_S]; omega), fun z hzn => ?_⟩
      rw [show Txt.partition (SS (termL y)) (Str.ofString ":") = (SS (numZ y.2), SS [58], SS (if y.1 = [] then [101] else [48])) by rw [l_colon]; exact termL_part y]
      have h5 := same_new (o := .tup [.str (SS (numZ y.2)), .str (SS [58]), .str (SS (if y.1 = [] then [101] else [48]))]) hzn
      refine ⟨z, _, rfl, SqT.of upd_same, rfl, _, _, rfl, _, _, rfl, _, _, rfl, rfl, ?_⟩
      have s5 := s4.trans h5
      have p5 := h5 _ _ p4
      have q5 := h5 _ _ q4
      have kv5 := Paired.mapP kv4 fun _ _ g => KvR.t g (Same.t h5)
      clear h5
      generalize upd H4 z (.tup [.str (SS (numZ y.2)), .str (SS [58]), .str (SS (if y.1 = [] then [101] else [48]))]) = H5 at s5 p5 q5 kv5 ⊢
      refine ⟨_, rfl, y.2, rfl, hyn.2, fun nv H6 s6 hN => ?_⟩
      refine ⟨_, rfl, _, rfl, c, y.1, rfl, hyk, hc, hc6, fun b H7 s7 hb => ?_⟩
      obtain ⟨na, rfl, hna⟩ := Nm.same hN s7
      have s67 := s6.trans s7
      have q7 := s67 _ _ q5
      have kv7 := Paired.mapP kv5 fun _ _ g => KvR.t g (Same.t s67)
      have hkk := kv_keys hkv
      have hnin : y.1 ∉ kvs.map (·.1) := by
        rw [hkk]
        intro hm
        have hnd := sumK_nd (t := t) (o := o)
        have hdrop : y ∈ (sumK t o).drop i := List.mem_of_getElem? (i := 0) (by rw [List.getElem?_drop]; exact hy)
        rw [← List.take_append_drop i (sumK t o), List.map_append, List.nodup_append] at hnd
        exact hnd.2.2 _ hm _ (List.mem_map.mpr ⟨y, hdrop, rfl⟩) rfl
      have hno := valV_free hnin
      refine ⟨_, rfl, rfl, _, rfl, ifF (by rw [l_none]; exact decide_eq_false (str_ne (by simp))) ?_⟩
      refine ⟨_, rfl, rfl, _, rfl, ifF rfl ?_⟩
      refine ⟨_, rfl, _, _, _, _, rfl, rfl, hna, rfl, rfl, _, rfl, ifF (decide_eq_false (fun e => by injection e with e; exact hyn.1 e)) ?_⟩
      refine ⟨_, rfl, rfl, _, rfl, ifF rfl ?_⟩
      refine ⟨_, rfl, _, rfl, q, _, rfl, DGet.t (k := y.1) q7 hb, _, rfl, ifF (by rw [hno]; rfl) ?_⟩
      have hkl := Paired.length hkv
      refine ⟨_, rfl, _, rfl, _, rfl, q, _, rfl, DPut.t (k := y.1) q7 hb (szl (by rw [hkl]; have h1 := List.length_take_le i (sumK t o); have h2 : (sumK t o).length ≤ 2 := sumK_len; omega)), ?_⟩
      rw [putK_new hno]
      refine ⟨Same.mut (s5.trans s67) hqn, upd_keep (s67 _ _ p5) q7 (by simp), ⟨_, _, _, _, _, _, _, rfl⟩, kvs ++ [(y.1, .ref na)], upd_same, ?_⟩
      rw [List.take_add_one, hy]
      refine Paired.snoc (Paired.mapP kv7 fun _ _ g => KvR.t g (SameT.chg q7 rfl)) ⟨rfl, ?_⟩
      exact Nm.t ⟨na, rfl, hna⟩ (SameT.chg q7 rfl)
    · rintro σ HZ ⟨sZ, pZ, ⟨v3, v4, v5, v6, v7, v8, v9, rfl⟩, hD⟩
      have eL : ((((sumK t o).map termL).map SS).map V.str).length = (sumK t o).length := by simp
      rw [eL, List.take_length] at hD
      obtain ⟨kvs, hq, hp⟩ := hD
      have k : ∀ a H', Same HZ H' → HZ a = none → SuR K H' a (sumK t o) → Q (.ref a) H' := fun a H' s h => k a H' (sZ.trans s) (sZ.free h)
      have hks := kv_keys hp
      have hsk := sumK_sort (ks := kvs.map (·.1)) (by rw [hks]; exact sumK_keys)
      have hlk := Paired.length hp
      refine ⟨_, rfl, q, kvs, rfl, rfl, .inl hq, hsk.1, hsk.2.1, hsk.2.2.1, hsk.2.2.2, fun p bs H1 hpn hik s1 s2 => ?_⟩
      have hpn1 : H1 p = none ∨ True := .inr trivial
      refine ⟨p, rfl, ⟨_, SqL.of upd_same⟩, fun D hD => ?_⟩
      have sA : Same HZ (upd H1 p (.lst (bs.map V.ref))) := s1.trans s2
      have hpA : (upd H1 p (.lst (bs.map V.ref))) p = some (.lst (bs.map V.ref)) := upd_same
      generalize upd H1 p (.lst (bs.map V.ref)) = H2 at sA hpA hD ⊢
      have hbl : kvs.length = bs.length := Paired.length hik
      have hl2 : (sumK t o).length ≤ 2 := sumK_len
      refine lc_rel (Rl := TmR K) (fun _ _ _ _ e q => q.t e) (walk_list (xs := bs.map V.ref)) yat_same (fun _ e => e.seq (SqL.of hpA)) hD (by rw [List.length_map]; omega) (fun i => (sumK t o).getD i ([], 0)) ?_ ?_
      · rintro i x H' H'' R Pn hi s3 ⟨rfl, hxi⟩ hR
        rw [List.getElem?_map] at hxi
        have hi2 : i < bs.length := by rw [List.length_map] at hi; exact hi
        rw [List.getElem?_eq_getElem hi2] at hxi
        have ex : V.ref bs[i] = x := Option.some.inj hxi
        subst ex
        obtain ⟨w, hw, hHb⟩ := isKeys_get hik (j := i) (b := bs[i]) (List.getElem?_eq_getElem hi2)
        obtain ⟨⟨k0, v0⟩, hkv0⟩ : ∃ y, kvs[i]? = some y := ⟨_, List.getElem?_eq_getElem (by omega)⟩
        have ew : k0 = w := by
          rw [List.getElem?_map, hkv0] at hw
          exact Option.some.inj hw
        subst ew
        obtain ⟨y, hy, hyk, hyn⟩ := paired_get hp hkv0
        have hyk : k0 = y.1 := hyk
        have sB := sA.trans s3
        have hval : valV kvs k0 = some v0 := valV_nd (by rw [hks]; exact sumK_nd) hkv0
        refine ⟨rfl, yesR ?_⟩
        refine ⟨_, rfl, _, rfl, _, rfl, q, v0, rfl, hval ▸ DGet.t (k := k0) (sB _ _ hq) (sB _ _ hHb), sz2, fun t2 ht2 => hR _ _ (same_new ht2) ?_⟩
        have hgd : (sumK t o).getD i ([], 0) = y := by simp [List.getD, hy]
        rw [hgd]
        have sC := sB.trans (same_new (o := .tup [.ref bs[i], v0]) ht2)
        exact ⟨t2, bs[i], v0, rfl, SqT.of upd_same, by rw [← hyk]; exact sC _ _ hHb, Nm.same hyn sC⟩
      · intro H' ys s3 h3 hz
        refine k D _ (sA.trans s3) (sA.free hD) ⟨ys, SqL.of h3, ?_⟩
        have e : (List.range (bs.map V.ref).length).map (fun i => (sumK t o).getD i ([], 0)) = sumK t o := by
          have hlen : (bs.map V.ref).length = (sumK t o).length := by rw [List.length_map]; omega
          rw [hlen]
          cases o <;> rfl
        rw [e] at hz
        exact hz
end
end Sw

/-! ## G12 -/
namespace Sw
open PySem PySem.Spec PyProof.Rows L2
open C8 (Cal Met Mak pe_c pe_mk pe_mt pe_mt0 pe_gc)
section
variable {P : Program} {w : World} {K : PySem.W.Frag} {mg : Str → Option Value} {base : Heap}
theorem makers_in (w : List Nat) : inV (.str (SS w)) (makers.map (He.Dv.v K)) = inV (.str (SS w)) [.str "sum", .str "times", .str "swap", .str "mix", .str "even", .str "uneven", .str "back"] := rfl
theorem put_same {H : Hp} {k : List Key} {v : V} : ∀ {kvs : List (List Key × V)} {s : List (List Key × Int)}, Paired (KvR K H) kvs s → (∀ y ∈ s, y.1 = k → Nm K H v y.2) → Paired (KvR K H) (kvs.map fun kv => if kv.1 = k then (kv.1, v) else kv) s
  | _, _, .nil, _ => .nil
  | p :: _, y :: _, .cons h t, hv => by
    rw [List.map_cons]
    refine .cons ?_ (put_same t fun z hz => hv z (List.mem_cons_of_mem _ hz))
    by_cases e : p.1 = k
    · rw [if_pos e]
      exact ⟨h.1, hv y List.mem_cons_self (h.1.symm.trans e)⟩
    · rw [if_neg e]
      exact h
abbrev N_made_of : List Str := ["word", "signs", "sign"]
abbrev s_made_of : Stmt := sMadeOf
theorem sc_made_of : FnScope N_made_of ["word", "signs"] (defScope s_made_of) := ⟨rfl, rfl, rfl, by decide +kernel, rfl, by decide +kernel, by decide +kernel⟩
def sp_made_of (K : PySem.W.Frag) : Sp := fun vs H Q _ => ∃ (w : List Nat) (z : Str), vs = [.str (SS w), .str z] ∧ 1 ≤ w.length ∧ w.length ≤ 8 ∧ (∀ c ∈ w, c ∈ z.cps.toList) ∧ ∀ H', Same H H' → Q (.bl true) H'
theorem ok_made_of (T : Tx w K mg) : Cal P w K mg base 1 "made_of" (sp_made_of K) [] := by
  obtain ⟨fd, F, b⟩ := T.F_made_of
  refine ⟨_, fd, _, [], F.ok sc_made_of (fun vs H Q E h => ?_) (fun cdv A outer s H vs Q E hr h => ?_), T.g_made_of, F.kp, b, .nil⟩
  · obtain ⟨w, z, rfl, _⟩ := h
    rfl
  · obtain ⟨w, z, rfl, h1, h8, hw, k⟩ := h
    have hu := hu_of hr
    have nd := sc_made_of.nd
    refine ⟨_, (pss_one (ps_ret (pe_and (pe_chain op_le op_le pe_int (pe_callB call_len_str rfl T.m_len (by decide +kernel) (pa_cons (pv 0) pa_nil)) pe_int) (pe_one (pe_cmpR (op_eqD hr.units) (pe_lc (own := [("sign", 2)]) (g := gName 2) rfl nd (pi_str (pv 0)) (blkOk_by (own := [("sign", 2)]) (N := N_made_of) (sc := defScope s_made_of) (by decide +kernel)) (fun _ _ _ _ _ => (pg_name (i := 2) nd rfl (.inl rfl))) (fun _ _ _ _ _ => (pts_one (pt_cmpR op_notIn_sign (pv 2) (pv 1) rfl))) (fun _ _ _ _ _ => (pv 2))) (pe_lst pa_nil) (nomark _)))))), ?_⟩
    refine ⟨_, rfl, _, rfl, szk (by rw [len_S]; omega), _, _, rfl, rfl, _, rfl, ifT (by rw [len_S]; exact decide_eq_true (by omega)) ?_⟩
    refine ⟨_, _, rfl, rfl, _, rfl, ifT (by rw [len_S]; exact decide_eq_true (by omega)) ?_⟩
    refine ⟨_, rfl, _, rfl, fun D hD => lc_out walk_str ystr_same (fun _ _ => trivial) hD ?_ ?_⟩
    · rintro i x H' H'' R Pn hi s1 ⟨rfl, c, hc, rfl⟩ hR
      refine ⟨rfl, _, rfl, _, rfl, c, _, rfl, rfl, _, rfl, ifF ?_ (hR _ (Same.refl _))⟩
      have hm : c ∈ w := List.mem_of_getElem? (l := w) (i := i) (a := c) (by simpa using hc)
      simp [hw c hm]
    · intro H1 s1 h1
      refine ⟨sz0, fun p hpn => ?_⟩
      have h2 := same_new (o := .lst []) hpn
      exact ⟨.list [], .list [], .lst (h2.seq (SqL.of h1)) .nil, .lst (SqL.of upd_same) .nil, by decide +kernel, by decide +kernel, k _ (s1.trans h2)⟩
abbrev N_is_line : List Str := ["words"]
abbrev s_is_line : Stmt := sIsLine
theorem sc_is_line : FnScope N_is_line ["words"] (defScope s_is_line) := ⟨rfl, rfl, rfl, by decide +kernel, rfl, by decide +kernel, by decide +kernel⟩
def sp_is_line (K : PySem.W.Frag) : Sp := fun vs H Q _ => ∃ (a : Addr) (ws : List (List Nat)), vs = [.ref a] ∧ SqL K H a (wV ws) ∧ ((∃ n x r, ws = WT :: n :: x :: r ∧ n ≠ []) ∨ (∃ s n x r, ws = WS :: s :: n :: x :: r ∧ s ≠ [] ∧ n ≠ []) ∨ ∃ w0 r q, ws = w0 :: r ∧ w0 ≠ WT ∧ w0 ≠ WS ∧ [] ∉ ws ∧ q ∈ cvals ∧ q.1 = SS w0 ∧ q.2 = .int (ws.length : Int)) ∧ Q (.bl true) H
theorem ok_is_line (T : Tx w K mg) : Cal P w K mg base 1 "is_line" (sp_is_line K) [] := by
  obtain ⟨fd, F, b⟩ := T.F_is_line
  obtain ⟨es, n, kd⟩ := T.kd
  refine ⟨_, fd, _, [], F.ok sc_is_line (fun vs H Q E h => ?_) (fun cdv A outer s H vs Q E hr h => ?_), T.g_is_line, F.kp, b, .nil⟩
  · obtain ⟨a, ws, rfl, _⟩ := h
    rfl
  · obtain ⟨a, ws, rfl, hx, hw, k⟩ := h
    have hu := hu_of hr
    have nd := sc_is_line.nd
    refine ⟨_, (pss_cons (ps_if (pt_cmpR op_eq (pe_ix ix_list (pv 0) pe_int (fun _ _ => rfl)) pe_str (nomark _)) (pss_one (ps_ret (pe_and (pe_cmpR op_gt (pe_callB call_len_seq rfl T.m_len (by decide +kernel) (pa_cons (pv 0) pa_nil)) pe_int (nomark _)) (pe_one (pe_cmpR op_ne (pe_ix ix_list (pv 0) pe_int (fun _ _ => rfl)) pe_str (nomark _)))))) pss_nil)
      (pss_cons (ps_if (pt_cmpR op_eq (pe_ix ix_list (pv 0) pe_int (fun _ _ => rfl)) pe_str (nomark _)) (pss_one (ps_ret (pe_and (pe_cmpR op_gt (pe_callB call_len_seq rfl T.m_len (by decide +kernel) (pa_cons (pv 0) pa_nil)) pe_int (nomark _)) (pe_and (pe_cmpR op_ne (pe_ix ix_list (pv 0) pe_int (fun _ _ => rfl)) pe_str (nomark _)) (pe_one (pe_cmpR op_ne (pe_ix ix_list (pv 0) pe_int (fun _ _ => rfl)) pe_str (nomark _))))))) pss_nil)
      (pss_one (ps_ret (pe_and (pe_cmpR op_notIn_seq pe_str (pv 0) rfl) (pe_and (pe_cmpR (op_in_kd kd) (pe_ix ix_list (pv 0) pe_int (fun _ _ => rfl)) (pe_gc rfl T.c_COUNTS) rfl) (pe_one (pe_cmpR op_eq (pe_callB call_len_seq rfl T.m_len (by decide +kernel) (pa_cons (pv 0) pa_nil)) (pe_ix ix_kdict (pe_gc rfl T.c_COUNTS) (pe_ix ix_list (pv 0) pe_int (fun _ _ => rfl)) (fun _ _ => rfl)) (nomark _))))))))), ?_⟩
    have lW : Str.ofString "table" = SS WT := by decide +kernel
    have lS : Str.ofString "sum" = SS WS := by decide +kernel
    rcases hw with ⟨n, x, r, rfl, hn⟩ | ⟨sg, n, x, r, rfl, hs, hn⟩ | ⟨w0, r, q, rfl, h1, h2, h3, hq, hq1, hq2⟩
    · refine ⟨_, rfl, _, _, _, _, rfl, rfl, hx, at_get (i := 0) rfl, rfl, _, rfl, ifT (by decide +kernel) ?_⟩
      refine ⟨_, rfl, _, _, rfl, .inl hx, _, _, rfl, rfl, _, rfl, ifT (by rw [wV_len]; simp; omega) ?_⟩
      refine ⟨_, rfl, _, _, _, _, rfl, rfl, hx, at_get (i := 1) rfl, rfl, ?_⟩
      have e : (!decide (V.str (SS n) = V.str (Str.ofString ""))) = true := by rw [l_none]; simp [hn]
      rw [e]
      exact k
    · refine ⟨_, rfl, _, _, _, _, rfl, rfl, hx, at_get (i := 0) rfl, rfl, _, rfl, ifF (by decide +kernel) ?_⟩
      refine ⟨_, rfl, _, _, _, _, rfl, rfl, hx, at_get (i := 0) rfl, rfl, _, rfl, ifT (by decide +kernel) ?_⟩
      refine ⟨_, rfl, _, _, rfl, .inl hx, _, _, rfl, rfl, _, rfl, ifT (by rw [wV_len]; simp; omega) ?_⟩
      refine ⟨_, rfl, _, _, _, _, rfl, rfl, hx, at_get (i := 1) rfl, rfl, _, rfl, ifT (by rw [l_none]; simp [hs]) ?_⟩
      refine ⟨_, rfl, _, _, _, _, rfl, rfl, hx, at_get (i := 2) rfl, rfl, ?_⟩
      have e : (!decide (V.str (SS n) = V.str (Str.ofString ""))) = true := by rw [l_none]; simp [hn]
      rw [e]
      exact k
    · refine ⟨_, rfl, _, _, _, _, rfl, rfl, hx, at_get (i := 0) rfl, rfl, _, rfl, ifF (by rw [lW]; exact decide_eq_false (str_ne h1)) ?_⟩
      refine ⟨_, rfl, _, _, _, _, rfl, rfl, hx, at_get (i := 0) rfl, rfl, _, rfl, ifF (by rw [lS]; exact decide_eq_false (str_ne h2)) ?_⟩
      obtain ⟨u, hu1, hu2⟩ := T.kv hq
      rw [hq1] at hu1
      refine ⟨_, rfl, a, _, rfl, .inl hx, rfl, wV_flat _, _, rfl, ifT ?_ ?_⟩
      · rw [if_pos rfl, l_none, inV_str]
        have e : ((w0 :: r).any fun z => decide (z = [])) = false := by
          rw [List.any_eq_false]
          intro z hz
          have : z ≠ [] := fun e => h3 (e ▸ hz)
          simp [this]
        rw [e]
        rfl
      refine ⟨_, rfl, _, _, _, _, rfl, rfl, hx, at_get (i := 0) rfl, _, _, rfl, rfl, hu1, _, rfl, ifT rfl ?_⟩
      refine ⟨_, rfl, _, _, rfl, .inl hx, _, rfl, _, _, _, _, rfl, rfl, hx, at_get (i := 0) rfl, _, _, .int ((w0 :: r).length : Int), rfl, rfl, ⟨es, n, u, kd.at_, kd.lit, hu1, ?_⟩, rfl, ?_⟩
      · rw [hq2] at hu2
        exact hu2
      · rw [wV_len, decide_eq_true rfl]
        exact k
abbrev N_look_new : List Str := ["words"]
abbrev s_look_new : Stmt := sLookNew
theorem sc_look_new : FnScope N_look_new ["words"] (defScope s_look_new) := ⟨rfl, rfl, rfl, by decide +kernel, rfl, by decide +kernel, by decide +kernel⟩
def sp_look_new (K : PySem.W.Frag) : Sp := fun vs H Q _ => ∃ (a : Addr) (ws : List (List Nat)), vs = [.ref a] ∧ SqL K H a (wV ws) ∧ ((∃ n r, ws = WT :: n :: r ∧ NameOk n) ∨ (∃ w0 s r, ws = w0 :: s :: r ∧ (w0 = WS ∨ w0 = WM) ∧ SignOk s) ∨ ∃ w0 r, ws = w0 :: r ∧ (w0 = WD ∨ w0 = WA ∨ w0 = WH ∨ w0 = WR ∨ w0 = WO ∨ w0 = WU)) ∧ ∀ H', Same H H' → Q .non H'
theorem ok_look_new (T : Tx w K mg) (c_made_of : Cal P w K mg base 1 "made_of" (sp_made_of K) []) : Cal P w K mg base 2 "look_new" (sp_look_new K) [] := by
  obtain ⟨fd, F, b⟩ := T.F_look_new
  refine ⟨_, fd, _, [], F.ok sc_look_new (fun vs H Q E h => ?_) (fun cdv A outer s H vs Q E hr h => ?_), T.g_look_new, F.kp, b, .nil⟩
  · obtain ⟨a, ws, rfl, _⟩ := h
    rfl
  · obtain ⟨a, ws, rfl, hx, hw, k⟩ := h
    have hu := hu_of hr
    have nd := sc_look_new.nd
    refine ⟨_, (pss_cons (ps_if (PW.pt (pw_and (pt_cmpR op_eq (pe_ix ix_list (pv 0) pe_int (fun _ _ => rfl)) pe_str (nomark _)) (pw_and1 (pt_not (pt_val (pe_c c_made_of hr (by decide) rfl (pa_cons (pe_ix ix_list (pv 0) pe_int (fun _ _ => rfl)) (pa_cons (pe_gc rfl T.c_SMALL) pa_nil)))))))) (pss_one ps_never) pss_nil)
      (pss_one (ps_if (PW.pt (pw_and (pt_cmpR op_in_seq (pe_ix ix_list (pv 0) pe_int (fun _ _ => rfl)) (pe_gc rfl T.c_MAKERS) rfl) (pw_and1 (pt_not (pt_val (pe_c c_made_of hr (by decide) rfl (pa_cons (pe_ix ix_list (pv 0) pe_int (fun _ _ => rfl)) (pa_cons (pe_gc rfl T.c_CAPITAL) pa_nil)))))))) (pss_one ps_never) pss_nil))), ?_⟩
    rcases hw with ⟨n, r, rfl, h1, h2, h3⟩ | ⟨w0, sg, r, rfl, h0, h1, h2, h3⟩ | ⟨w0, r, rfl, h0⟩
    · refine ⟨_, rfl, _, _, _, _, rfl, rfl, hx, at_get (i := 0) rfl, rfl, _, rfl, ifT (by decide +kernel) ?_⟩
      refine ⟨_, rfl, _, _, _, _, rfl, rfl, hx, at_get (i := 1) rfl, n, _, rfl, h1, h2, fun c hc => small_in (h3 c hc), fun H1 s1 => ?_⟩
      refine ⟨_, rfl, ifF rfl ?_⟩
      refine ⟨_, rfl, _, _, _, _, rfl, rfl, (s1.seq hx), at_get (i := 0) rfl, _, _, rfl, .inr (T.q_MAKERS _), rfl, rfl, _, rfl, ifF (by rw [if_neg (by simp), makers_in]; decide +kernel) ?_⟩
      exact k _ s1
    · have e1 : decide (V.str (SS w0) = V.str (Str.ofString "table")) = false := by rcases h0 with rfl | rfl <;> decide +kernel
      have e2 : inV (.str (SS w0)) (makers.map (He.Dv.v K)) = true := by rw [makers_in]; rcases h0 with rfl | rfl <;> decide +kernel
      refine ⟨_, rfl, _, _, _, _, rfl, rfl, hx, at_get (i := 0) rfl, rfl, _, rfl, ifF e1 ?_⟩
      refine ⟨_, rfl, _, _, _, _, rfl, rfl, hx, at_get (i := 0) rfl, _, _, rfl, .inr (T.q_MAKERS _), rfl, rfl, _, rfl, ifT (by rw [if_neg (by simp)]; exact e2) ?_⟩
      refine ⟨_, rfl, _, _, _, _, rfl, rfl, hx, at_get (i := 1) rfl, sg, _, rfl, h1, h2, fun c hc => capital_in (h3 c hc), fun H1 s1 => ?_⟩
      refine ⟨_, rfl, ifF rfl ?_⟩
      exact k _ s1
    · have e1 : decide (V.str (SS w0) = V.str (Str.ofString "table")) = false := by rcases h0 with rfl | rfl | rfl | rfl | rfl | rfl <;> decide +kernel
      have e2 : inV (.str (SS w0)) (makers.map (He.Dv.v K)) = false := by rw [makers_in]; rcases h0 with rfl | rfl | rfl | rfl | rfl | rfl <;> decide +kernel
      refine ⟨_, rfl, _, _, _, _, rfl, rfl, hx, at_get (i := 0) rfl, rfl, _, rfl, ifF e1 ?_⟩
      refine ⟨_, rfl, _, _, _, _, rfl, rfl, hx, at_get (i := 0) rfl, _, _, rfl, .inr (T.q_MAKERS _), rfl, rfl, _, rfl, ifF (by rw [if_neg (by simp)]; exact e2) ?_⟩
      exact k _ (Same.refl _)
end
end Sw

/-! ## G13 -/
namespace Sw
open PySem PySem.Spec PyProof.Rows L2
open C8 (Cal Met Mak pe_c pe_mk pe_mt pe_mt0 pe_gc)
section
variable {P : Program} {w : World} {K : PySem.W.Frag} {mg : Str → Option Value} {base : Heap}
abbrev N_two_signs : List Str := ["words"]
abbrev s_two_signs : Stmt := sTwoSigns
theorem sc_two_signs : FnScope N_two_signs ["words"] (defScope s_two_signs) := ⟨rfl, rfl, rfl, by decide +kernel, rfl, by decide +kernel, by decide +kernel⟩
def sp_two_signs (K : PySem.W.Frag) : Sp := fun vs H Q _ => ∃ (a : Addr) (w0 : List Nat) (r : List (List Nat)), vs = [.ref a] ∧ SqL K H a (wV (w0 :: r)) ∧ (w0 = WT ∨ w0 = WS ∨ w0 = WM ∨ w0 = WD ∨ w0 = WA ∨ w0 = WH ∨ w0 = WR ∨ w0 = WO ∨ w0 = WU) ∧ (w0 = WM → r.length = 4) ∧ ∀ b H', Same H H' → SqL K H' b (wV (twoF (w0 :: r))) → Q (.ref b) H'
theorem ok_two_signs (T : Tx w K mg) : Cal P w K mg base 1 "two_signs" (sp_two_signs K) [] := by
  obtain ⟨fd, F, b⟩ := T.F_two_signs
  refine ⟨_, fd, _, [], F.ok sc_two_signs (fun vs H Q E h => ?_) (fun cdv A outer s H vs Q E hr h => ?_), T.g_two_signs, F.kp, b, .nil⟩
  · obtain ⟨a, w0, r, rfl, _⟩ := h
    rfl
  · obtain ⟨a, w0, r, rfl, hx, h0, hr4, k⟩ := h
    have hu := hu_of hr
    have nd := sc_two_signs.nd
    refine ⟨_, (pss_cons (ps_if (pt_cmpR op_in_seq (pe_ix ix_list (pv 0) pe_int (fun _ _ => rfl)) (pe_tup (pa_cons pe_str (pa_cons pe_str pa_nil))) rfl) pss_never pss_nil)
      (pss_cons (ps_if (pt_cmpR op_eq (pe_ix ix_list (pv 0) pe_int (fun _ _ => rfl)) pe_str (nomark _)) (pss_one (ps_ret (pe_lst (pa_cons (pe_ix ix_list (pv 0) pe_int (fun _ _ => rfl)) (pa_cons (pe_ix ix_list (pv 0) pe_int (fun _ _ => rfl)) pa_nil))))) pss_nil)
      (pss_cons (ps_if (pt_cmpR op_eq (pe_ix ix_list (pv 0) pe_int (fun _ _ => rfl)) pe_str (nomark _)) (pss_one ps_never) pss_nil)
      (pss_one (ps_ret (pe_lst pa_nil)))))), ?_⟩
    have e1 : inV (.str (SS w0)) [.str "times", .str "swap"] = false := by rcases h0 with rfl | rfl | rfl | rfl | rfl | rfl | rfl | rfl | rfl <;> decide +kernel
    refine ⟨_, rfl, _, _, _, _, rfl, rfl, hx, at_get (i := 0) rfl, sz2, fun p hp => ⟨_, _, rfl, .inr (SqT.of upd_same), rfl, rfl, _, rfl, ifF (by rw [if_neg (by simp)]; exact e1) ?_⟩⟩
    have s1 := same_new (o := .tup [.str "times", .str "swap"]) hp
    generalize upd H p _ = H1 at s1 ⊢
    have hx := s1.seq hx
    by_cases hm : w0 = WM
    · subst hm
      have hl := hr4 rfl
      obtain ⟨a1, a2, a3, a4, rfl⟩ := four_of hl
      refine ⟨_, rfl, _, _, _, _, rfl, rfl, hx, at_get (i := 0) rfl, rfl, _, rfl, ifT (by decide +kernel) ?_⟩
      refine ⟨_, rfl, _, _, _, _, rfl, rfl, hx, at_get (i := 2) rfl, _, rfl, _, _, _, _, rfl, rfl, hx, at_get (i := 4) rfl, sz2, fun q hq => ?_⟩
      refine k q _ (s1.trans (same_new hq)) ?_
      rw [twoF_mix]
      exact SqL.of upd_same
    · have e2 : decide (V.str (SS w0) = V.str (Str.ofString "mix")) = false := by
        rw [show Str.ofString "mix" = SS WM by decide +kernel]
        exact decide_eq_false (str_ne hm)
      have e3 : decide (V.str (SS w0) = V.str (Str.ofString "passes")) = false := by rcases h0 with rfl | rfl | rfl | rfl | rfl | rfl | rfl | rfl | rfl <;> decide +kernel
      refine ⟨_, rfl, _, _, _, _, rfl, rfl, hx, at_get (i := 0) rfl, rfl, _, rfl, ifF e2 ?_⟩
      refine ⟨_, rfl, _, _, _, _, rfl, rfl, hx, at_get (i := 0) rfl, rfl, _, rfl, ifF e3 ?_⟩
      refine ⟨sz0, fun q hq => ?_⟩
      refine k q _ (s1.trans (same_new hq)) ?_
      rw [twoF_no hm]
      exact SqL.of upd_same
abbrev N_signs_of : List Str := ["words"]
abbrev s_signs_of : Stmt := sSignsOf
theorem sc_signs_of : FnScope N_signs_of ["words"] (defScope s_signs_of) := ⟨rfl, rfl, rfl, by decide +kernel, rfl, by decide +kernel, by decide +kernel⟩
def sp_signs_of (K : PySem.W.Frag) : Sp := fun vs H Q _ => ∃ (a : Addr) (w0 : List Nat) (r : List (List Nat)), vs = [.ref a] ∧ SqL K H a (wV (w0 :: r)) ∧ (w0 = WT ∨ w0 = WS ∨ w0 = WM ∨ w0 = WD ∨ w0 = WA ∨ w0 = WH ∨ w0 = WR ∨ w0 = WO ∨ w0 = WU) ∧ (w0 = WM → r.length = 4) ∧ ∀ b H', Same H H' → SqL K H' b (wV (signsF (w0 :: r))) → Q (.ref b) H'
theorem ok_signs_of (T : Tx w K mg) (c_two_signs : Cal P w K mg base 1 "two_signs" (sp_two_signs K) []) : Cal P w K mg base 2 "signs_of" (sp_signs_of K) [] := by
  obtain ⟨fd, F, b⟩ := T.F_signs_of
  refine ⟨_, fd, _, [], F.ok sc_signs_of (fun vs H Q E h => ?_) (fun cdv A outer s H vs Q E hr h => ?_), T.g_signs_of, F.kp, b, .nil⟩
  · obtain ⟨a, w0, r, rfl, _⟩ := h
    rfl
  · obtain ⟨a, w0, r, rfl, hx, h0, hr4, k⟩ := h
    have hu := hu_of hr
    have nd := sc_signs_of.nd
    refine ⟨_, (pss_cons (ps_if (pt_cmpR op_in_seq (pe_ix ix_list (pv 0) pe_int (fun _ _ => rfl)) (pe_tup (pa_cons pe_str (pa_cons pe_str (pa_cons pe_str pa_nil)))) rfl) (pss_one ps_never) pss_nil)
      (pss_cons (ps_if (pt_cmpR op_in_seq (pe_ix ix_list (pv 0) pe_int (fun _ _ => rfl)) (pe_tup (pa_cons pe_str (pa_cons pe_str pa_nil))) rfl) (pss_one (ps_ret (pe_slice sl_list (pv 0) (po_some pe_int) po_none))) pss_nil)
      (pss_one (ps_ret (pe_c c_two_signs hr (by decide) rfl (pa_cons (pv 0) pa_nil)))))), ?_⟩
    have e1 : inV (.str (SS w0)) [.str "even", .str "uneven", .str "back"] = false := by rcases h0 with rfl | rfl | rfl | rfl | rfl | rfl | rfl | rfl | rfl <;> decide +kernel
    refine ⟨_, rfl, _, _, _, _, rfl, rfl, hx, at_get (i := 0) rfl, sz3, fun p hp => ⟨_, _, rfl, .inr (SqT.of upd_same), rfl, rfl, _, rfl, ifF (by rw [if_neg (by simp)]; exact e1) ?_⟩⟩
    have s1 := same_new (o := .tup [.str "even", .str "uneven", .str "back"]) hp
    generalize upd H p _ = H1 at s1 ⊢
    have hx := s1.seq hx
    by_cases hm : w0 = WO
    · subst hm
      refine ⟨_, rfl, _, _, _, _, rfl, rfl, hx, at_get (i := 0) rfl, sz2, fun q hq => ⟨_, _, rfl, .inr (SqT.of upd_same), rfl, rfl, _, rfl, ifT (by rw [if_neg (by simp)]; exact (by decide +kernel)) ?_⟩⟩
      have s2 := s1.trans (same_new (o := .tup [.str "of", .str "parts"]) hq)
      have hx2 := (same_new (o := .tup [.str "of", .str "parts"]) hq).seq hx
      refine ⟨_, rfl, _, rfl, a, _, rfl, hx2, fun u hu => ?_⟩
      rw [show cutV (wV (WO :: r)) (some 1) none = wV r from cutV_from (wV (WO :: r)) 1]
      refine k u _ (s2.trans (same_new hu)) ?_
      rw [signsF_of]
      exact SqL.of upd_same
    · have e2 : inV (.str (SS w0)) [.str "of", .str "parts"] = false := by rcases h0 with rfl | rfl | rfl | rfl | rfl | rfl | rfl | rfl | rfl <;> first | decide +kernel | exact absurd rfl hm
      refine ⟨_, rfl, _, _, _, _, rfl, rfl, hx, at_get (i := 0) rfl, sz2, fun q hq => ⟨_, _, rfl, .inr (SqT.of upd_same), rfl, rfl, _, rfl, ifF (by rw [if_neg (by simp)]; exact e2) ?_⟩⟩
      have s2 := s1.trans (same_new (o := .tup [.str "of", .str "parts"]) hq)
      have hx2 := (same_new (o := .tup [.str "of", .str "parts"]) hq).seq hx
      refine ⟨_, rfl, a, w0, r, rfl, hx2, h0, hr4, fun b H3 s3 h3 => k b H3 (s2.trans s3) ?_⟩
      rw [signsF_two hm]
      exact h3
abbrev N_names_of : List Str := ["words"]
abbrev s_names_of : Stmt := sNamesOf
theorem sc_names_of : FnScope N_names_of ["words"] (defScope s_names_of) := ⟨rfl, rfl, rfl, by decide +kernel, rfl, by decide +kernel, by decide +kernel⟩
def sp_names_of (K : PySem.W.Frag) : Sp := fun vs H Q _ => ∃ (a : Addr) (w0 : List Nat) (r : List (List Nat)), vs = [.ref a] ∧ SqL K H a (wV (w0 :: r)) ∧ (w0 = WT ∨ w0 = WS ∨ w0 = WM ∨ w0 = WD ∨ w0 = WA ∨ w0 = WH ∨ w0 = WR ∨ w0 = WO ∨ w0 = WU) ∧ (w0 = WS → 2 ≤ r.length) ∧ ∀ b H', Same H H' → SqL K H' b (wV (namesF (w0 :: r))) → Q (.ref b) H'
theorem ok_names_of (T : Tx w K mg) : Cal P w K mg base 1 "names_of" (sp_names_of K) [] := by
  obtain ⟨fd, F, b⟩ := T.F_names_of
  refine ⟨_, fd, _, [], F.ok sc_names_of (fun vs H Q E h => ?_) (fun cdv A outer s H vs Q E hr h => ?_), T.g_names_of, F.kp, b, .nil⟩
  · obtain ⟨a, w0, r, rfl, _⟩ := h
    rfl
  · obtain ⟨a, w0, r, rfl, hx, h0, hr4, k⟩ := h
    have hu := hu_of hr
    have nd := sc_names_of.nd
    refine ⟨_, (pss_cons (ps_if (pt_cmpR op_eq (pe_ix ix_list (pv 0) pe_int (fun _ _ => rfl)) pe_str (nomark _)) (pss_one (ps_ret (pe_slice sl_list (pv 0) (po_some pe_int) (po_some pe_int)))) pss_nil)
      (pss_cons (ps_if (pt_cmpR op_eq (pe_ix ix_list (pv 0) pe_int (fun _ _ => rfl)) pe_str (nomark _)) (pss_one (ps_ret (pe_slice sl_list (pv 0) (po_some pe_int) po_none))) pss_nil)
      (pss_one (ps_ret (pe_lst pa_nil))))), ?_⟩
    by_cases hm : w0 = WS
    · subst hm
      have hl := hr4 rfl
      obtain ⟨a1, a2, r2, rfl⟩ := two_of hl
      refine ⟨_, rfl, _, _, _, _, rfl, rfl, hx, at_get (i := 0) rfl, rfl, _, rfl, ifT (by decide +kernel) ?_⟩
      refine ⟨_, rfl, _, rfl, _, rfl, a, _, rfl, hx, fun u hu => ?_⟩
      rw [wV_cons, wV_cons, wV_cons, cutV_23]
      refine k u _ (same_new hu) ?_
      rw [namesF_sum]
      exact SqL.of upd_same
    · have e1 : decide (V.str (SS w0) = V.str (Str.ofString "sum")) = false := by
        rw [show Str.ofString "sum" = SS WS by decide +kernel]
        exact decide_eq_false (str_ne hm)
      refine ⟨_, rfl, _, _, _, _, rfl, rfl, hx, at_get (i := 0) rfl, rfl, _, rfl, ifF e1 ?_⟩
      by_cases hm2 : w0 = WR
      · subst hm2
        refine ⟨_, rfl, _, _, _, _, rfl, rfl, hx, at_get (i := 0) rfl, rfl, _, rfl, ifT (by decide +kernel) ?_⟩
        refine ⟨_, rfl, _, rfl, a, _, rfl, hx, fun u hu => ?_⟩
        have ec : cutV (wV (WR :: r)) (some 1) none = wV r := cutV_from (wV (WR :: r)) 1
        rw [ec]
        refine k u _ (same_new hu) ?_
        rw [namesF_rule]
        exact SqL.of upd_same
      · have e2 : decide (V.str (SS w0) = V.str (Str.ofString "rule")) = false := by
          rw [show Str.ofString "rule" = SS WR by decide +kernel]
          exact decide_eq_false (str_ne hm2)
        refine ⟨_, rfl, _, _, _, _, rfl, rfl, hx, at_get (i := 0) rfl, rfl, _, rfl, ifF e2 ?_⟩
        refine ⟨sz0, fun q hq => ?_⟩
        refine k q _ (same_new hq) ?_
        rw [namesF_no hm hm2]
        exact SqL.of upd_same
abbrev N_rule_text : List Str := ["table", "found", "way"]
abbrev s_rule_text : Stmt := sRuleText
theorem sc_rule_text : FnScope N_rule_text ["table"] (defScope s_rule_text) := ⟨rfl, rfl, rfl, by decide +kernel, rfl, by decide +kernel, by decide +kernel⟩
def sp_rule_text (K : PySem.W.Frag) : Sp := fun vs H Q _ => ∃ (a : Addr) (c : Nat) (l : Option Int), vs = [.ref a] ∧ TbF K H a c l ∧ Q (.str (SS [107, 101, 101, 112, 115])) H
theorem ok_rule_text (T : Tx w K mg) (c_Table_breaks : Met P w K mg base 1 (He.ga K "Table") "breaks" (sp_Table_breaks K) []) : Cal P w K mg base 2 "rule_text" (sp_rule_text K) [] := by
  obtain ⟨fd, F, b⟩ := T.F_rule_text
  refine ⟨_, fd, _, [], F.ok sc_rule_text (fun vs H Q E h => ?_) (fun cdv A outer s H vs Q E hr h => ?_), T.g_rule_text, F.kp, b, .nil⟩
  · obtain ⟨a, c, l, rfl, _⟩ := h
    rfl
  · obtain ⟨a, c, l, rfl, hT, k⟩ := h
    have hu := hu_of hr
    have nd := sc_rule_text.nd
    refine ⟨_, (pss_cons (ps_set (i := 1) nd rfl (.inl rfl) (pe_mt0 c_Table_breaks hr (by decide) (pv 0)))
      (pss_cons (ps_if (pt_cmpR op_isN (pv 1) pe_non (nomark _)) (pss_one (ps_ret pe_str)) pss_nil)
      (pss_one ps_never))), ?_⟩
    obtain ⟨dx, la, ra, ha, _⟩ := id hT
    refine ⟨_, rfl, a, dx, _, rfl, ha, tfl_no (by decide +kernel) (by decide +kernel) (by decide +kernel) (by decide +kernel) (by decide +kernel), a, c, l, rfl, hT, ?_⟩
    refine ⟨_, rfl, rfl, _, rfl, ifT rfl ?_⟩
    have e : Str.ofString "keeps" = SS [107, 101, 101, 112, 115] := by decide +kernel
    rw [← e] at k
    exact k
abbrev N_mixed : List Str := ["one", "number", "other", "numbers", "word", "much"]
abbrev s_mixed : Stmt := sMixed
theorem sc_mixed : FnScope N_mixed ["one", "number", "other"] (defScope s_mixed) := ⟨rfl, rfl, rfl, by decide +kernel, rfl, by decide +kernel, by decide +kernel⟩
def sp_mixed (K : PySem.W.Frag) : Sp := fun vs H Q _ => ∃ (a a2 : Addr) (x : V) (t : Int) (o : Option Int), vs = [.ref a, x, .ref a2] ∧ SuR K H a (sumK t o) ∧ SuR K H a2 (sumK t o) ∧ Nm K H x 0 ∧ SOk t o ∧ ∀ b H', Same H H' → H b = none → SuR K H' b (sumK t o) → Q (.ref b) H'
theorem ok_mixed (T : Tx w K mg) (c_gathered : Cal P w K mg base 1 "gathered" (sp_gathered K) []) (c_times : Cal P w K mg base 1 "times" (sp_times K) []) (c_put_to : Cal P w K mg base 2 "put_to" (sp_put_to K) []) (c_told_sum : Cal P w K mg base 4 "told_sum" (sp_told_sum K) []) : Cal P w K mg base 5 "mixed" (sp_mixed K) [] := by
  obtain ⟨fd, F, b⟩ := T.F_mixed
  refine ⟨_, fd, _, [], F.ok sc_mixed (fun vs H Q E h => ?_) (fun cdv A outer s H vs Q E hr h => ?_), T.g_mixed, F.kp, b, .nil⟩
  · obtain ⟨a, a2, x, t, o, rfl, _⟩ := h
    rfl
  · obtain ⟨a, a2, x, t, o, rfl, h1, h2, hx, hL, k⟩ := h
    have hu := hu_of hr
    have nd := sc_mixed.nd
    refine ⟨_, (pss_cons (ps_set (i := 3) nd rfl (.inl rfl) (pe_c c_gathered hr (by decide) rfl (pa_cons (pv 0) pa_nil)))
      (pss_cons (ps_for PassesOwn.never rfl (pi_list (pv 2)) (pg_tup rfl (pgs_cons (pg_name (i := 4) nd rfl (.inl rfl)) (pgs_cons (pg_name (i := 5) nd rfl (.inl rfl)) pgs_nil))) (pss_one (ps_expr (pe_c c_put_to hr (by decide) rfl (pa_cons (pv 3) (pa_cons (pv 4) (pa_cons (pe_c c_times hr (by decide) rfl (pa_cons (pv 1) (pa_cons (pv 5) pa_nil))) pa_nil)))))))
      (pss_one (ps_ret (pe_c c_told_sum hr (by decide) rfl (pa_cons (pv 3) pa_nil)))))), ?_⟩
    obtain ⟨ht1, ht2, hod⟩ := id hL
    have hnz : ∀ y ∈ sumK t o, y.2 ≠ 0 := sumK_nz (by omega) (fun d e => by have := hod d e; omega)
    refine ⟨_, rfl, a, _, rfl, h1, sumK_nd, fun q H1 s1 hqn hD => ?_⟩
    obtain ⟨xs, hxs, hxp⟩ := h2
    refine ⟨_, rfl, a2, rfl, ⟨_, s1.seq hxs⟩, for_it (walk_list (xs := xs)) (fun i σ H' => Same H H' ∧ DtR K H' q (sumK t o) ∧ ∃ v4 v5, σ = [some (.ref a), some x, some (.ref a2), some (.ref q), v4, v5]) ⟨s1, hD, none, none, rfl⟩ (fun i σ H' _ e => e.1.seq hxs) ?_ ?_⟩
    · rintro i z σ H' H'' hi ⟨s2, ⟨kvs, hq, hkv⟩, v4, v5, rfl⟩ ⟨rfl, hzi⟩
      obtain ⟨y, hy, u, b, n, rfl, hu1, hb, hn⟩ := tm_of hxp hzi
      refine ⟨u, _, rfl, Same.sqT s2 hu1, rfl, _, _, rfl, _, _, rfl, rfl, ?_⟩
      refine ⟨_, rfl, _, rfl, _, rfl, _, rfl, x, n, 0, y.2, rfl, Nm.same hx s2, Nm.same hn s2, by decide, fun v' H3 s3 h3 => ?_⟩
      obtain ⟨⟨k0, v0⟩, hk0, hk1, hk2⟩ := tm_at hkv hy
      have hk1 : k0 = y.1 := hk1
      subst hk1
      have hks := kv_keys hkv
      have hval : valV kvs y.1 = some v0 := valV_nd (by rw [hks]; exact sumK_nd) hk0
      have hkl := Paired.length hkv
      refine ⟨q, b, kvs, y.1, v', v0, y.2, 0 * y.2, rfl, s3 _ _ hq, ?_, s3 _ _ (s2 _ _ hb), hval, Nm.same hk2 s3, h3, ?_, fun v2 H4 s4 h4 => ?_⟩
      · have : (sumK t o).length ≤ 2 := sumK_len
        omega
      · rw [Int.zero_mul, Int.add_zero]
        exact hnz y (List.mem_of_getElem? hy)
      rw [Int.zero_mul, Int.add_zero] at h4
      have s34 := s3.trans s4
      have q4 := s34 _ _ hq
      refine ⟨Same.mut (s2.trans s34) hqn, ⟨_, upd_same, ?_⟩, _, _, rfl⟩
      unfold putK
      rw [if_pos (by rw [valV_any, hval]; rfl)]
      refine put_same (Paired.mapP hkv fun _ _ g => KvR.t (KvR.t g (Same.t s34)) (SameT.chg q4 rfl)) fun y2 hy2 he => ?_
      have : y2 = y := by
        have hnd := sumK_nd (t := t) (o := o)
        obtain ⟨i2, hi2⟩ := List.getElem?_of_mem hy2
        have e1 : ((sumK t o).map (·.1))[i2]? = some y.1 := by rw [List.getElem?_map, hi2]; exact congrArg some he
        have e2 : ((sumK t o).map (·.1))[i]? = some y.1 := by rw [List.getElem?_map, hy]; rfl
        have e3 := (List.getElem?_inj (List.getElem?_eq_some_iff.mp e1).1 hnd).mp (e1.trans e2.symm)
        subst e3
        rw [hy] at hi2
        exact (Option.some.inj hi2).symm
      subst this
      exact Nm.t h4 (SameT.chg q4 rfl)
    · rintro σ H' ⟨s2, hD2, v4, v5, rfl⟩
      exact ⟨_, rfl, q, t, o, rfl, hD2, fun b H3 s3 hb h3 => k b H3 (s2.trans s3) (s2.free hb) h3⟩
end
end Sw

/-! ## Rep5 -/
/-! the bench -/
namespace Sw
open PySem PySem.Spec PyProof.Rows L2
section
variable {X : Cx}
/-- a list against the empty list -/
def rEqE (K : PySem.W.Frag) (neg : Bool) : R2 := fun x y H Q => ∃ (a b : Addr) (xs : List V), x = .ref a ∧ y = .ref b ∧ SqL K H a xs ∧ SqL K H b [] ∧ Q (.bl (if neg then !xs.isEmpty else xs.isEmpty)) H
theorem op_eqE (hu : X.A.units + 64 < cLine) : OpR X (compareOp .Eq) (rEqE X.K false) := by
  intro pins s σ H x y v u Q I rx ry h
  obtain ⟨a, b, xs, rfl, rfl, ha, hb, q⟩ := h
  rw [if_neg (by simp)] at q
  cases xs with
  | nil => exact op_eqD hu pins s σ H (.ref a) (.ref b) v u Q I rx ry ⟨.list [], .list [], .lst ha .nil, .lst hb .nil, by decide +kernel, by decide +kernel, q⟩
  | cons z zs =>
    cases rx
    cases ry
    obtain ⟨its, r1, p1, _⟩ := I.list ha
    obtain ⟨its2, r2, p2, _⟩ := I.list hb
    have l1 := r1.length
    have l2 := r2.length
    refine SeqAt.eq_list_lengthsAt p1.isList p2.isList ?_ (by omega) ⟨.bl false, H, I, rfl, q⟩
    simp only [List.size_toArray, ← l1, ← l2]
    simp
theorem op_neE (hu : X.A.units + 64 < cLine) : OpR X (compareOp .NotEq) (rEqE X.K true) := by
  intro pins s σ H x y v u Q I rx ry h
  obtain ⟨a, b, xs, rfl, rfl, ha, hb, q⟩ := h
  rw [if_pos rfl] at q
  cases xs with
  | nil => exact op_neD hu pins s σ H (.ref a) (.ref b) v u Q I rx ry ⟨.list [], .list [], .lst ha .nil, .lst hb .nil, by decide +kernel, by decide +kernel, q⟩
  | cons z zs =>
    cases rx
    cases ry
    obtain ⟨its, r1, p1, _⟩ := I.list ha
    obtain ⟨its2, r2, p2, _⟩ := I.list hb
    have l1 := r1.length
    have l2 := r2.length
    exact SeqAt.RcNeAt.lists_lengths (A := X.A) (s := s) p1.isList p2.isList (by simp only [List.size_toArray, ← l1, ← l2]; simp) (by omega) X.prog X.w X.xe _ ⟨.bl true, H, I, rfl, q⟩
/-- X(), X an own exception class without own __init__ -/
theorem pmk_own0 {C : Addr} {bmB : List Value} {B newId initId : String} {x : Str} {p pos : Pos} (F : ExcBaseFacts B newId initId bmB) (q : PySem.W.excIn X.K C bmB newId = true) (gC : X.mg x = some (.ref C)) (kC : PySem.W.keepIn X.K (.ref C) = true) (r : Raises X (.ref C)) (hg : Gl X x)
    (hdb : (x == ("__debug__" : Str)) = false := by decide) : PMk X (.Call (.Name x p) [] [] pos) (fun _ H Q => Q (.ref C) none H) := by
  intro pins s σ H Q I h
  refine wpAny_Call_Name_kw (ld_glob I hg gC ?_ hdb)
  refine PySem.W.callWith_K0 I.kIn kC ?_
  show wpAny _ _ (call (.ref C) []) _ _ _
  obtain ⟨bm, N, nm, qn, bs, hdct, sn, sub, ab, col, dd, k0, k1, k2, k3, k5, mN, hC, hN, hni, t⟩ := exc_obj I.kIn q
  refine wpAny_call_exc_subT F t hC hN hni (fun h' e hm => ?_) (Nat.zero_le _)
  exact mk_of I hm r h (I.hok.gone hm.new)
end
/-- a method that may raise -/
structure MetX (P : Program) (w : World) (K : PySem.W.Frag) (mg : Str → Option Value) (base : Heap) (k : Nat) (C : Addr) (m : Str) (sp : Sp) : Prop where
  ex : ∃ (f : Addr) (fd : FuncData) (ps : List Str), Cls K C ∧ Meth K C m f ∧ FnOk P w K mg base (L2.CX P w) k f fd ps sp ∧ Binds K fd ps []
section
variable {X : Cx} {k j : Nat} {C : Addr} {m : Str} {sp : Sp} {p pos apos : Pos} {e o : Expr} {es : List Expr} {ta : TE} {t : TA}
theorem pe_mtX {pl : Sem Bool} (c : MetX X.prog X.w X.K X.mg X.base k C m sp) (hr : Room j X.A) (hk : k ≤ j) (he : PE X o ta) (ha : PA X (e :: es) t)
    (hst : starEach (e :: es) X.env = (false, eval e X.env) :: starEach es X.env := by rfl) (hpl : (backTo pos (starEach es X.env)).any (·.1) = false := by rfl)
    (ht : eval (.Call (.Attribute o m apos) (e :: es) [] pos) X.env = (do
      let ov ← eval o X.env
      standAt apos.atName
      let (f, first) ← holding [ov] (getMethod ov m pl)
      callWith pos f first (backTo pos (starEach (e :: es) X.env)) (backToKw pos (keywordEach [] X.env))) := by rfl) :
    PE X (.Call (.Attribute o m apos) (e :: es) [] pos) (tMeth C m sp [] C8.E0 ta t) := by
  obtain ⟨f, fd, ps, hc, hm, F, b⟩ := c.ex
  exact pe_meth (pl := pl) he hc hm F (hr.mono hk) b .nil (show Passes (L2.CX X.prog X.w) X C8.E0 from passL) ha hst hpl ht
theorem pe_mtE0 {pl : Sem Bool} {E : XK} (c : MetX X.prog X.w X.K X.mg X.base k C m sp) (hr : Room j X.A) (hk : k ≤ j) (hx : Passes (L2.CX X.prog X.w) X E) (he : PE X o ta)
    (ht : eval (.Call (.Attribute o m apos) [] [] pos) X.env = (do
      let ov ← eval o X.env
      standAt apos.atName
      let (f, first) ← holding [ov] (getMethod ov m pl)
      callWith pos f first (backTo pos (starEach [] X.env)) (backToKw pos (keywordEach [] X.env))) := by rfl) :
    PE X (.Call (.Attribute o m apos) [] [] pos) (tMeth C m sp [] E ta tNil) := by
  obtain ⟨f, fd, ps, hc, hm, F, b⟩ := c.ex
  exact pe_meth0 (pl := pl) he hc hm F (hr.mono hk) b .nil hx ht
end
abbrev Tb : Type := List Nat × Nat × Option Int
abbrev Sm : Type := List Nat × List Nat × Int × Option Int
abbrev Pst : Type := List Nat × Addr × Addr × List Tb × List Sm
structure Bn where
  dt : Addr
  ds : Addr
  pa : Addr
  ts : List Tb
  ss : List Sm
  past : List Pst
section
variable {K : PySem.W.Frag} {G G' G'' H H' H'' : Hp}
def TbE (K : PySem.W.Frag) (G : Hp) (p : Key × V) (e : Tb) : Prop := p.1 = .inr (SS e.1) ∧ LOk e.2.1 e.2.2 ∧ ∃ a, p.2 = .ref a ∧ TbF K G a e.2.1 e.2.2
def SmE (K : PySem.W.Frag) (G : Hp) (p : Key × V) (e : Sm) : Prop := p.1 = .inr (SS e.1) ∧ SOk e.2.2.1 e.2.2.2 ∧ ∃ x a, p.2 = .ref x ∧ SqT K G x [.str (SS e.2.1), .ref a] ∧ SuR K G a (sumK e.2.2.1 e.2.2.2)
def DkT (K : PySem.W.Frag) (G H : Hp) (d : Addr) (ts : List Tb) : Prop := (ts.map (·.1)).Nodup ∧ ∃ kvs, H d = some (.dK kvs) ∧ Paired (TbE K G) kvs ts
def DkS (K : PySem.W.Frag) (G H : Hp) (d : Addr) (ss : List Sm) : Prop := (ss.map (·.1)).Nodup ∧ ∃ kvs, H d = some (.dK kvs) ∧ Paired (SmE K G) kvs ss
theorem TbE.g {p : Key × V} {e : Tb} (h : TbE K G p e) (s : Same G G') : TbE K G' p e := by
  obtain ⟨h1, h2, a, h3, h4⟩ := h
  exact ⟨h1, h2, a, h3, h4.same s⟩
theorem SmE.g {p : Key × V} {e : Sm} (h : SmE K G p e) (s : Same G G') : SmE K G' p e := by
  obtain ⟨h1, h2, x, a, h3, h4, h5⟩ := h
  exact ⟨h1, h2, x, a, h3, Same.sqT s h4, h5.same s⟩
theorem DkT.g {d : Addr} {ts : List Tb} (h : DkT K G H d ts) (s : Same G G') (e : ∀ o, H d = some o → H' d = some o) : DkT K G' H' d ts := by
  obtain ⟨hn, kvs, h1, h2⟩ := h
  exact ⟨hn, kvs, e _ h1, Paired.mapP h2 fun _ _ q => TbE.g q s⟩
theorem DkS.g {d : Addr} {ts : List Sm} (h : DkS K G H d ts) (s : Same G G') (e : ∀ o, H d = some o → H' d = some o) : DkS K G' H' d ts := by
  obtain ⟨hn, kvs, h1, h2⟩ := h
  exact ⟨hn, kvs, e _ h1, Paired.mapP h2 fun _ _ q => SmE.g q s⟩
/-! by name -/
def getE {A : Type} (es : List (List Nat × A)) (n : List Nat) : Option (List Nat × A) := es.find? fun e => decide (e.1 = n)
def putE {A : Type} (es : List (List Nat × A)) (e : List Nat × A) : List (List Nat × A) := if (es.any fun x => decide (x.1 = e.1)) = true then es.map (fun x => if x.1 = e.1 then e else x) else es ++ [e]
def dropE {A : Type} (es : List (List Nat × A)) (n : List Nat) : List (List Nat × A) := es.filter fun e => decide (e.1 ≠ n)
theorem key_ne {a b : List Nat} (h : a ≠ b) : ¬ ((Sum.inr (SS a) : Key) = .inr (SS b)) := fun e => h (SX.S_inj (by injection e))
section
variable {A : Type} {R : Key × V → List Nat × A → Prop} (hR : ∀ p e, R p e → p.1 = .inr (SS e.1))
include hR
theorem valV_some : ∀ {kvs : List (Key × V)} {es : List (List Nat × A)} {n : List Nat} {e : List Nat × A}, Paired R kvs es → getE es n = some e → e.1 = n ∧ ∃ v, valV kvs (.inr (SS n)) = some v ∧ R (.inr (SS n), v) e
  | _, _, n, e, .nil, h => by simp [getE] at h
  | p :: kvs, y :: es, n, e, .cons r t, h => by
    by_cases hy : y.1 = n
    · have he : y = e := by
        unfold getE at h
        rw [List.find?_cons, decide_eq_true hy] at h
        exact Option.some.inj h
      subst he
      have hp : p.1 = .inr (SS n) := by rw [hR _ _ r, hy]
      refine ⟨hy, p.2, valV_pos hp, ?_⟩
      rw [← hp]
      exact r
    · have h2 : getE es n = some e := by
        unfold getE at h ⊢
        rw [List.find?_cons, decide_eq_false hy] at h
        exact h
      obtain ⟨h3, v, h4, h5⟩ := valV_some t h2
      refine ⟨h3, v, ?_, h5⟩
      rw [valV_neg]
      · exact h4
      · rw [hR _ _ r]
        exact key_ne hy
theorem valV_none : ∀ {kvs : List (Key × V)} {es : List (List Nat × A)} {n : List Nat}, Paired R kvs es → getE es n = none → valV kvs (.inr (SS n)) = none
  | _, _, n, .nil, _ => rfl
  | p :: kvs, y :: es, n, .cons r t, h => by
    by_cases hy : y.1 = n
    · unfold getE at h
      rw [List.find?_cons, decide_eq_true hy] at h
      cases h
    · have h2 : getE es n = none := by
        unfold getE at h ⊢
        rw [List.find?_cons, decide_eq_false hy] at h
        exact h
      rw [valV_neg]
      · exact valV_none t h2
      · rw [hR _ _ r]
        exact key_ne hy
theorem any_rel : ∀ {kvs : List (Key × V)} {es : List (List Nat × A)} {n : List Nat}, Paired R kvs es → (kvs.any fun kv => decide (kv.1 = .inr (SS n))) = es.any fun x => decide (x.1 = n)
  | _, _, n, .nil => rfl
  | p :: kvs, y :: es, n, .cons r t => by
    rw [List.any_cons, List.any_cons, any_rel t, hR _ _ r]
    congr 1
    by_cases hy : y.1 = n
    · rw [decide_eq_true hy, hy, decide_eq_true rfl]
    · rw [decide_eq_false hy, decide_eq_false (key_ne hy)]
theorem map_rel {v : V} {e : List Nat × A} (he : R (.inr (SS e.1), v) e) : ∀ {kvs : List (Key × V)} {es : List (List Nat × A)}, Paired R kvs es → Paired R (kvs.map fun kv => if kv.1 = .inr (SS e.1) then (kv.1, v) else kv) (es.map fun x => if x.1 = e.1 then e else x)
  | _, _, .nil => .nil
  | p :: kvs, y :: es, .cons r t => by
    rw [List.map_cons, List.map_cons]
    refine .cons ?_ (map_rel he t)
    have hp := hR _ _ r
    by_cases hy : y.1 = e.1
    · rw [if_pos (by rw [hp, hy]), if_pos hy, hp, hy]
      exact he
    · rw [if_neg (by rw [hp]; exact key_ne hy), if_neg hy]
      exact r
theorem put_rel {v : V} {e : List Nat × A} (he : R (.inr (SS e.1), v) e) {kvs : List (Key × V)} {es : List (List Nat × A)} (h : Paired R kvs es) : Paired R (putK kvs (.inr (SS e.1)) v) (putE es e) := by
  unfold putK putE
  rw [any_rel hR h]
  split
  · exact map_rel hR he h
  · exact Paired.snoc h he
theorem drop_rel {n : List Nat} : ∀ {kvs : List (Key × V)} {es : List (List Nat × A)}, Paired R kvs es → Paired R (dropK kvs (.inr (SS n))) (dropE es n)
  | _, _, .nil => .nil
  | p :: kvs, y :: es, .cons r t => by
    unfold dropK dropE
    rw [List.filter_cons, List.filter_cons]
    have hp := hR _ _ r
    by_cases hy : y.1 = n
    · rw [if_neg (by rw [hp, hy]; simp), if_neg (by simp [hy])]
      exact drop_rel t
    · rw [if_pos (decide_eq_true (by rw [hp]; exact key_ne hy)), if_pos (by simp [hy])]
      exact .cons r (drop_rel t)
end
theorem tbE_key : ∀ (p : Key × V) (e : Tb), TbE K G p e → p.1 = .inr (SS e.1) := fun _ _ h => h.1
theorem smE_key : ∀ (p : Key × V) (e : Sm), SmE K G p e → p.1 = .inr (SS e.1) := fun _ _ h => h.1
/-! its fields -/
def bfl (dt ds pa : Addr) : List (Str × V) := putF "past" (.ref pa) (putF "sums" (.ref ds) (putF "tables" (.ref dt) []))
theorem bfl_tables {dt ds pa : Addr} : (bfl dt ds pa).lookup ("tables" : Str) = some (.ref dt) := by
  unfold bfl
  rw [lookup_putF, if_neg (by decide +kernel), lookup_putF, if_neg (by decide +kernel), lookup_putF, if_pos rfl]
theorem bfl_sums {dt ds pa : Addr} : (bfl dt ds pa).lookup ("sums" : Str) = some (.ref ds) := by
  unfold bfl
  rw [lookup_putF, if_neg (by decide +kernel), lookup_putF, if_pos rfl]
theorem bfl_past {dt ds pa : Addr} : (bfl dt ds pa).lookup ("past" : Str) = some (.ref pa) := by
  unfold bfl
  rw [lookup_putF, if_pos rfl]
theorem bfl_no {dt ds pa : Addr} {m : Str} (h1 : ¬ m = "past") (h2 : ¬ m = "sums") (h3 : ¬ m = "tables") : (bfl dt ds pa).lookup m = none := by
  unfold bfl
  rw [lookup_putF, if_neg h1, lookup_putF, if_neg h2, lookup_putF, if_neg h3]
  rfl
theorem putF_hit {f : Str} {v : V} {g : Str} {x : V} {r : List (Str × V)} (h : f = g) : putF f v ((g, x) :: r) = (g, v) :: r := by
  unfold putF
  rw [if_pos (by first | exact h | exact h.symm)]
theorem putF_miss {f : Str} {v : V} {g : Str} {x : V} {r : List (Str × V)} (h : ¬ f = g) : putF f v ((g, x) :: r) = (g, x) :: putF f v r := by
  conv => lhs; unfold putF
  rw [if_neg (by first | exact h | exact fun e => h e.symm)]
theorem bfl_eq {dt ds pa : Addr} : bfl dt ds pa = [(("tables" : Str), .ref dt), (("sums" : Str), .ref ds), (("past" : Str), .ref pa)] := by
  unfold bfl
  have e1 : putF ("tables" : Str) (.ref dt) [] = [(("tables" : Str), .ref dt)] := rfl
  rw [e1, putF_miss (by decide +kernel)]
  have e2 : putF ("sums" : Str) (.ref ds) [] = [(("sums" : Str), .ref ds)] := rfl
  rw [e2, putF_miss (by decide +kernel), putF_miss (by decide +kernel)]
  rfl
theorem bfl_dt {dt ds pa q : Addr} : putF ("tables" : Str) (.ref q) (bfl dt ds pa) = bfl q ds pa := by
  rw [bfl_eq, bfl_eq, putF_hit rfl]
theorem bfl_ds {dt ds pa q : Addr} : putF ("sums" : Str) (.ref q) (bfl dt ds pa) = bfl dt q pa := by
  rw [bfl_eq, bfl_eq, putF_miss (by decide +kernel), putF_hit rfl]
theorem bfl_len {dt ds pa : Addr} : (bfl dt ds pa).length = 3 := by
  rw [bfl_eq]
  rfl
def muts (p : Addr) (B : Bn) : List Addr := p :: B.pa :: B.dt :: B.ds :: B.past.flatMap fun e => [e.2.1, e.2.2.1]
def PsE (K : PySem.W.Frag) (G : Hp) (x : V) (e : Pst) : Prop := ∃ q, x = .ref q ∧ SqT K G q [.str (SS e.1), .ref e.2.1, .ref e.2.2.1]
structure BR (K : PySem.W.Frag) (G H : Hp) (p : Addr) (B : Bn) : Prop where
  sm : Same G H
  gn : ∀ b ∈ muts p B, G b = none
  nd : (muts p B).Nodup
  ins : ∃ dx, H p = some (.ins (cB K) dx (bfl B.dt B.ds B.pa))
  pa : ∃ xs, H B.pa = some (.lst xs) ∧ Paired (PsE K G) xs B.past
  dt : DkT K G H B.dt B.ts
  ds : DkS K G H B.ds B.ss
  ps : ∀ e ∈ B.past, DkT K G H e.2.1 e.2.2.2.1 ∧ DkS K G H e.2.2.1 e.2.2.2.2
theorem BR.same {p : Addr} {B : Bn} (h : BR K G H p B) (e : Same H H') : BR K G H' p B := by
  obtain ⟨dx, hi⟩ := h.ins
  obtain ⟨xs, h1, h2⟩ := h.pa
  exact ⟨h.sm.trans e, h.gn, h.nd, ⟨dx, e _ _ hi⟩, ⟨xs, e _ _ h1, h2⟩, h.dt.g (Same.refl _) (fun o q => e _ _ q), h.ds.g (Same.refl _) (fun o q => e _ _ q), fun x hx => ⟨(h.ps x hx).1.g (Same.refl _) (fun o q => e _ _ q), (h.ps x hx).2.g (Same.refl _) (fun o q => e _ _ q)⟩⟩
/-- a move: only M and what is new changes -/
structure Mv (M : List Addr) (G H G' H' : Hp) : Prop where
  g : Same G G'
  n : ∀ b o, H b = some o → tf o = false → G' b = G b
  k : ∀ b o, H b = some o → b ∉ M → H' b = some o
  t : ∀ b o, H b = some o → ∃ o', H' b = some o' ∧ (tf o = false → tf o' = false)
theorem Mv.trans {M M' : List Addr} (h : Mv M G H G' H') (h' : Mv M' G' H' G'' H'') (hm : ∀ b ∈ M', b ∈ M ∨ H b = none) : Mv M G H G'' H'' := by
  refine ⟨h.g.trans h'.g, fun b o e f => ?_, fun b o e n => ?_, fun b o e => ?_⟩
  · obtain ⟨o', e', f'⟩ := h.t b o e
    rw [h'.n b o' e' (f' f), h.n b o e f]
  · refine h'.k b o (h.k b o e n) fun z => ?_
    rcases hm b z with z | z
    · exact n z
    · rw [z] at e
      cases e
  · obtain ⟨o', e', f'⟩ := h.t b o e
    obtain ⟨o'', e'', f''⟩ := h'.t b o' e'
    exact ⟨o'', e'', fun f => f'' (f' f)⟩
theorem Mv.same {M : List Addr} (e : Same H H') : Mv M G H G H' := ⟨Same.refl _, fun _ _ _ _ => rfl, fun b o q _ => e _ _ q, fun b o q => ⟨o, e _ _ q, fun f => f⟩⟩
theorem Mv.upd {M : List Addr} {a : Addr} {u o : HO} (ha : H a = some u) (hm : a ∈ M) (f : tf o = false) : Mv M G H G (upd H a o) := by
  refine ⟨Same.refl _, fun _ _ _ _ => rfl, fun b w e n => ?_, fun b w e => ?_⟩
  · rw [upd_ne (fun z => n (by rw [z]; exact hm))]
    exact e
  · by_cases z : b = a
    · subst z
      exact ⟨o, upd_same, fun _ => f⟩
    · exact ⟨w, by rw [upd_ne z]; exact e, fun f => f⟩
def Nx (K : PySem.W.Frag) (p : Addr) (G H : Hp) (B : Bn) (G' H' : Hp) (B' : Bn) : Prop := Mv (muts p B) G H G' H' ∧ BR K G' H' p B' ∧ ∀ b ∈ muts p B', b ∈ muts p B ∨ H b = none
theorem Nx.trans {p : Addr} {B B' B'' : Bn} (h : Nx K p G H B G' H' B') (h' : Nx K p G' H' B' G'' H'' B'') : Nx K p G H B G'' H'' B'' := by
  obtain ⟨h1, h2, h3⟩ := h
  obtain ⟨h4, h5, h6⟩ := h'
  refine ⟨h1.trans h4 h3, h5, fun b hb => ?_⟩
  rcases h6 b hb with z | z
  · exact h3 b z
  · refine .inr ?_
    cases q : H b with
    | none => rfl
    | some o =>
      obtain ⟨o', e', _⟩ := h1.t b o q
      rw [z] at e'
      cases e'
theorem Nx.same {p : Addr} {B : Bn} (h : BR K G H p B) (e : Same H H') : Nx K p G H B G H' B := ⟨Mv.same e, h.same e, fun b hb => .inl hb⟩
theorem BR.at {p b : Addr} {B : Bn} (h : BR K G H p B) (hb : b ∈ muts p B) : ∃ o, H b = some o ∧ tf o = false := by
  unfold muts at hb
  simp only [List.mem_cons, List.mem_flatMap] at hb
  rcases hb with rfl | rfl | rfl | rfl | ⟨e, he, hb⟩
  · obtain ⟨dx, hi⟩ := h.ins
    exact ⟨_, hi, rfl⟩
  · obtain ⟨xs, h1, _⟩ := h.pa
    exact ⟨_, h1, rfl⟩
  · obtain ⟨_, kvs, h1, _⟩ := h.dt
    exact ⟨_, h1, rfl⟩
  · obtain ⟨_, kvs, h1, _⟩ := h.ds
    exact ⟨_, h1, rfl⟩
  · rcases hb with rfl | rfl | hb
    · obtain ⟨_, kvs, h1, _⟩ := (h.ps e he).1
      exact ⟨_, h1, rfl⟩
    · obtain ⟨_, kvs, h1, _⟩ := (h.ps e he).2
      exact ⟨_, h1, rfl⟩
    · cases hb
theorem mem_p {p : Addr} {B : Bn} : p ∈ muts p B := by simp [muts]
theorem mem_pa {p : Addr} {B : Bn} : B.pa ∈ muts p B := by simp [muts]
theorem mem_dt {p : Addr} {B : Bn} : B.dt ∈ muts p B := by simp [muts]
theorem mem_ds {p : Addr} {B : Bn} : B.ds ∈ muts p B := by simp [muts]
theorem mem_e1 {p : Addr} {B : Bn} {e : Pst} (h : e ∈ B.past) : e.2.1 ∈ muts p B := by
  unfold muts
  simp only [List.mem_cons, List.mem_flatMap]
  exact .inr (.inr (.inr (.inr ⟨e, h, by simp⟩)))
theorem mem_e2 {p : Addr} {B : Bn} {e : Pst} (h : e ∈ B.past) : e.2.2.1 ∈ muts p B := by
  unfold muts
  simp only [List.mem_cons, List.mem_flatMap]
  exact .inr (.inr (.inr (.inr ⟨e, h, by simp⟩)))
theorem same_mut {a : Addr} {o : HO} (e : Same G H) (h : G a = none) : Same G (upd H a o) := Same.mut e h
theorem BR.nes {p : Addr} {B : Bn} (h : BR K G H p B) : p ≠ B.pa ∧ p ≠ B.dt ∧ p ≠ B.ds ∧ B.pa ≠ B.dt ∧ B.pa ≠ B.ds ∧ B.dt ≠ B.ds ∧ (∀ e ∈ B.past, p ≠ e.2.1 ∧ p ≠ e.2.2.1 ∧ B.pa ≠ e.2.1 ∧ B.pa ≠ e.2.2.1 ∧ B.dt ≠ e.2.1 ∧ B.dt ≠ e.2.2.1 ∧ B.ds ≠ e.2.1 ∧ B.ds ≠ e.2.2.1) := by
  have hn := h.nd
  unfold muts at hn
  simp only [List.nodup_cons, List.mem_cons, List.mem_flatMap, not_or, not_exists, not_and] at hn
  obtain ⟨⟨a1, a2, a3, a4⟩, ⟨b1, b2, b3⟩, ⟨c1, c2⟩, d1, _⟩ := hn
  refine ⟨a1, a2, a3, b1, b2, c1, fun e he => ?_⟩
  have z1 := a4 e he
  have z2 := b3 e he
  have z3 := c2 e he
  have z4 := d1 e he
  simp only [List.not_mem_nil, not_false_iff, and_true] at z1 z2 z3 z4
  exact ⟨z1.1, z1.2, z2.1, z2.2, z3.1, z3.2, z4.1, z4.2⟩
/-- the tables change -/
theorem BR.setT {p : Addr} {B : Bn} {kvs : List (Key × V)} {ts : List Tb} (h : BR K G H p B) (hn : (ts.map (·.1)).Nodup) (hk : Paired (TbE K G) kvs ts) : Nx K p G H B G (upd H B.dt (.dK kvs)) { B with ts := ts } := by
  obtain ⟨_, k0, e0, _⟩ := id h.dt
  obtain ⟨n1, n2, n3, n4, n5, n6, n7⟩ := h.nes
  obtain ⟨dx, hi⟩ := h.ins
  obtain ⟨xs, h1, h2⟩ := h.pa
  refine ⟨Mv.upd e0 mem_dt rfl, ⟨same_mut h.sm (h.gn _ mem_dt), h.gn, h.nd, ⟨dx, ?_⟩, ⟨xs, ?_, h2⟩, ⟨hn, kvs, upd_same, hk⟩, h.ds.g (Same.refl _) (fun o q => ?_), fun e he => ⟨(h.ps e he).1.g (Same.refl _) (fun o q => ?_), (h.ps e he).2.g (Same.refl _) (fun o q => ?_)⟩⟩, fun b hb => .inl hb⟩
  · rw [upd_ne n2]
    exact hi
  · rw [upd_ne n4]
    exact h1
  · rw [upd_ne n6.symm]
    exact q
  · rw [upd_ne (n7 e he).2.2.2.2.1.symm]
    exact q
  · rw [upd_ne (n7 e he).2.2.2.2.2.1.symm]
    exact q
/-- the sums change -/
theorem BR.setS {p : Addr} {B : Bn} {kvs : List (Key × V)} {ss : List Sm} (h : BR K G H p B) (hn : (ss.map (·.1)).Nodup) (hk : Paired (SmE K G) kvs ss) : Nx K p G H B G (upd H B.ds (.dK kvs)) { B with ss := ss } := by
  obtain ⟨_, k0, e0, _⟩ := id h.ds
  obtain ⟨n1, n2, n3, n4, n5, n6, n7⟩ := h.nes
  obtain ⟨dx, hi⟩ := h.ins
  obtain ⟨xs, h1, h2⟩ := h.pa
  refine ⟨Mv.upd e0 mem_ds rfl, ⟨same_mut h.sm (h.gn _ mem_ds), h.gn, h.nd, ⟨dx, ?_⟩, ⟨xs, ?_, h2⟩, h.dt.g (Same.refl _) (fun o q => ?_), ⟨hn, kvs, upd_same, hk⟩, fun e he => ⟨(h.ps e he).1.g (Same.refl _) (fun o q => ?_), (h.ps e he).2.g (Same.refl _) (fun o q => ?_)⟩⟩, fun b hb => .inl hb⟩
  · rw [upd_ne n3]
    exact hi
  · rw [upd_ne n5]
    exact h1
  · rw [upd_ne n6]
    exact q
  · rw [upd_ne (n7 e he).2.2.2.2.2.2.1.symm]
    exact q
  · rw [upd_ne (n7 e he).2.2.2.2.2.2.2.symm]
    exact q
/-- a new dict of sums -/
theorem BR.newS {p d : Addr} {B : Bn} {ss : List Sm} (h : BR K G H p B) (s : Same H H') (hd : H d = none) (hk : DkS K G H' d ss) : ∃ dx, H' p = some (.ins (cB K) dx (bfl B.dt B.ds B.pa)) ∧ Nx K p G H B G (upd H' p (.ins (cB K) dx (bfl B.dt d B.pa))) { B with ds := d, ss := ss } := by
  have h' := h.same s
  obtain ⟨dx, hi⟩ := h'.ins
  obtain ⟨n1, n2, n3, n4, n5, n6, n7⟩ := h.nes
  obtain ⟨xs, h1, h2⟩ := h'.pa
  have far : ∀ b ∈ muts p B, b ≠ d := fun b hb z => by
    obtain ⟨o, e, _⟩ := h.at hb
    rw [z, hd] at e
    cases e
  have hG : G d = none := by
    cases q : G d with
    | none => rfl
    | some o =>
      rw [h.sm _ _ q] at hd
      cases hd
  have hsub : ∀ b ∈ muts p { B with ds := d, ss := ss }, b = d ∨ b ∈ muts p B := by
    intro b hb
    unfold muts at hb ⊢
    simp only [List.mem_cons] at hb ⊢
    rcases hb with z | z | z | z | z
    · exact .inr (.inl z)
    · exact .inr (.inr (.inl z))
    · exact .inr (.inr (.inr (.inl z)))
    · exact .inl z
    · exact .inr (.inr (.inr (.inr (.inr z))))
  refine ⟨dx, hi, (Mv.same s).trans (Mv.upd hi mem_p rfl) (fun b hb => .inl hb), ⟨same_mut h'.sm (h.gn _ mem_p), fun b hb => ?_, ?_, ⟨dx, upd_same⟩, ⟨xs, ?_, h2⟩, h'.dt.g (Same.refl _) (fun o q => ?_), hk.g (Same.refl _) (fun o q => ?_), fun e he => ⟨(h'.ps e he).1.g (Same.refl _) (fun o q => ?_), (h'.ps e he).2.g (Same.refl _) (fun o q => ?_)⟩⟩, fun b hb => ?_⟩
  · rcases hsub b hb with z | z
    · rw [z]
      exact hG
    · exact h.gn b z
  · have hn := h.nd
    unfold muts at hn ⊢
    simp only [List.nodup_cons, List.mem_cons, List.mem_flatMap, not_or, not_exists, not_and] at hn ⊢
    obtain ⟨⟨a1, a2, a3, a4⟩, ⟨b1, b2, b3⟩, ⟨c1, c2⟩, d1, r⟩ := hn
    refine ⟨⟨a1, a2, far p mem_p, a4⟩, ⟨b1, far _ mem_pa, b3⟩, ⟨far _ mem_dt, c2⟩, fun e he => ⟨fun z => far _ (mem_e1 he) z.symm, fun z => far _ (mem_e2 he) z.symm, by simp⟩, r⟩
  · rw [upd_ne n1.symm]
    exact h1
  · rw [upd_ne n2.symm]
    exact q
  · rw [upd_ne (far p mem_p).symm]
    exact q
  · rw [upd_ne (n7 e he).1.symm]
    exact q
  · rw [upd_ne (n7 e he).2.1.symm]
    exact q
  · rcases hsub b hb with z | z
    · exact .inr (z ▸ hd)
    · exact .inl z
/-- what is new, and all tuples -/
def ext (G H H' : Hp) : Hp := fun b => match H b with
  | none => H' b
  | some o => if tf o = true then H' b else G b
theorem ext_new {b : Addr} (h : H b = none) : ext G H H' b = H' b := by
  unfold ext
  rw [h]
theorem ext_old {b : Addr} {o : HO} (h : H b = some o) (f : tf o = false) : ext G H H' b = G b := by
  unfold ext
  rw [h]
  exact if_neg (by rw [f]; simp)
theorem ext_tup {b : Addr} {o : HO} (h : H b = some o) (f : tf o = true) : ext G H H' b = H' b := by
  unfold ext
  rw [h]
  exact if_pos f
theorem ext_g (g : Same G H) (s : Same H H') : Same G (ext G H H') := fun b o q => by
  have h := g _ _ q
  cases f : tf o with
  | true =>
    rw [ext_tup h f]
    exact s _ _ h
  | false =>
    rw [ext_old h f]
    exact q
theorem ext_h (g : Same G H) (s : Same H H') : Same (ext G H H') H' := fun b o q => by
  cases h : H b with
  | none =>
    rw [ext_new h] at q
    exact q
  | some w =>
    cases f : tf w with
    | true =>
      rw [ext_tup h f] at q
      exact q
    | false =>
      rw [ext_old h f] at q
      exact s _ _ (g _ _ q)
theorem ext_t (s : Same H H') : SameT H' (ext G H H') := fun b o q f => by
  cases h : H b with
  | none =>
    rw [ext_new h]
    exact q
  | some w =>
    have e := s _ _ h
    rw [q] at e
    have e := Option.some.inj e
    subst e
    rw [ext_tup h f]
    exact q
theorem ext_l {a : Addr} {xs : List V} (s : Same H H') (ha : H a = none) (h : SqL K H' a xs) : SqL K (ext G H H') a xs := by
  rcases h with (h | ⟨o, h⟩) | h
  · exact .inl (.inl (by rw [ext_new ha]; exact h))
  · exact .inl (.inr ⟨o, by rw [ext_new ha]; exact h⟩)
  · exact .inr h
theorem BR.ext {p : Addr} {B : Bn} (h : BR K G H p B) (s : Same H H') : Nx K p G H B (ext G H H') H' B := by
  have g := ext_g h.sm s
  refine ⟨⟨g, fun b o e f => ext_old e f, fun b o q _ => s _ _ q, fun b o q => ⟨o, s _ _ q, fun f => f⟩⟩, ?_, fun b hb => .inl hb⟩
  obtain ⟨dx, hi⟩ := h.ins
  obtain ⟨xs, h1, h2⟩ := h.pa
  refine ⟨ext_h h.sm s, fun b hb => ?_, h.nd, ⟨dx, s _ _ hi⟩, ⟨xs, s _ _ h1, Paired.mapP h2 fun x e ⟨q, r1, r2⟩ => ⟨q, r1, Same.sqT g r2⟩⟩, h.dt.g g (fun o q => s _ _ q), h.ds.g g (fun o q => s _ _ q), fun e he => ⟨(h.ps e he).1.g g (fun o q => s _ _ q), (h.ps e he).2.g g (fun o q => s _ _ q)⟩⟩
  obtain ⟨o, e, f⟩ := h.at hb
  rw [ext_old e f]
  exact h.gn b hb
theorem SuR.ext {a : Addr} {t : List (List Key × Int)} (h : SuR K H' a t) (s : Same H H') (ha : H a = none) : SuR K (ext G H H') a t := by
  obtain ⟨xs, h1, h2⟩ := h
  exact ⟨xs, ext_l s ha h1, Paired.mapP h2 fun _ _ q => TmR.t q (ext_t s)⟩
theorem TbN.ext {a : Addr} {c : Nat} {l : Option Int} (h : TbN K H H' a c l) (s : Same H H') (ha : H a = none) : TbF K (ext G H H') a c l := by
  obtain ⟨dx, la, ra, h1, h2, h3, h4⟩ := h
  have st : SameT H' (Sw.ext G H H') := ext_t s
  refine ⟨dx, la, ra, by rw [ext_new ha]; exact h1, ?_, ?_⟩
  · cases l with
    | none => exact sqT_t h2 st
    | some d =>
      obtain ⟨t, rt, xs, g1, g2, g3, g4⟩ := h2
      exact ⟨t, rt, xs, sqT_t g1 st, sqT_t g2 st, sqT_t g3 st, nms_t g4 st⟩
  · cases l with
    | none => exact ext_l s h3 h4
    | some d =>
      obtain ⟨t, rt, g1, g2, ⟨xs, g3, g4⟩, g5⟩ := h4
      exact ⟨t, rt, ext_l s h3 g1, sqT_t g2 st, ⟨xs, ext_l s g5 g3, nms_t g4 st⟩⟩
/-- a deed is kept -/
theorem BR.keep {p q dt ds : Addr} {B : Bn} {w : List Nat} {xs : List V} {kt ks : List (Key × V)} (h : BR K G H p B) (hpa : H B.pa = some (.lst xs)) (hxs : Paired (PsE K G) xs B.past) (et : H B.dt = some (.dK kt)) (es : H B.ds = some (.dK ks))
    (s : Same H H') (ft : H dt = none) (fs : H ds = none) (fq : H q = none) (nts : dt ≠ ds) (ntq : dt ≠ q) (nsq : ds ≠ q) (at_ : H' dt = some (.dK kt)) (as_ : H' ds = some (.dK ks)) (aq : H' q = some (.tup [.str (SS w), .ref dt, .ref ds])) :
    Nx K p G H B (upd G q (.tup [.str (SS w), .ref dt, .ref ds])) (upd H' B.pa (.lst (xs ++ [.ref q]))) { B with past := B.past ++ [(w, dt, ds, B.ts, B.ss)] } := by
  have noG : ∀ {b : Addr}, H b = none → G b = none := fun {b} hb => by
    cases z : G b with
    | none => rfl
    | some o =>
      rw [h.sm _ _ z] at hb
      cases hb
  have far : ∀ {d : Addr}, H d = none → ∀ b ∈ muts p B, b ≠ d := fun {d} hd b hb z => by
    obtain ⟨o, e, _⟩ := h.at hb
    rw [z, hd] at e
    cases e
  have gq : Same G (upd G q (.tup [.str (SS w), .ref dt, .ref ds])) := same_new (noG fq)
  have hpa' := s _ _ hpa
  obtain ⟨n1, n2, n3, n4, n5, n6, n7⟩ := h.nes
  obtain ⟨dx, hi⟩ := h.ins
  have em : muts p { B with past := B.past ++ [(w, dt, ds, B.ts, B.ss)] } = muts p B ++ [dt, ds] := by
    unfold muts
    simp [List.flatMap_append]
  have Gs : Same (upd G q (.tup [.str (SS w), .ref dt, .ref ds])) (upd H' B.pa (.lst (xs ++ [.ref q]))) := fun b o e => by
    have hb : b ≠ B.pa := fun z => by
      rw [z, upd_ne (far fq _ mem_pa), h.gn _ mem_pa] at e
      cases e
    rw [upd_ne hb]
    by_cases z : b = q
    · subst z
      rw [upd_same] at e
      rw [aq, e]
    · rw [upd_ne z] at e
      exact s _ _ (h.sm _ _ e)
  refine ⟨⟨gq, fun b o e f => upd_ne (fun z => by rw [z, fq] at e; cases e), fun b o e n => ?_, fun b o e => ?_⟩, ⟨Gs, fun b hb => ?_, ?_, ⟨dx, ?_⟩, ⟨xs ++ [.ref q], upd_same, ?_⟩, h.dt.g gq (fun o z => ?_), h.ds.g gq (fun o z => ?_), fun e he => ?_⟩, fun b hb => ?_⟩
  · rw [upd_ne (fun (z : b = B.pa) => n (by rw [z]; exact mem_pa))]
    exact s _ _ e
  · by_cases z : b = B.pa
    · exact ⟨_, by rw [z]; exact upd_same, fun _ => rfl⟩
    · exact ⟨o, by rw [upd_ne z]; exact s _ _ e, fun f => f⟩
  · rw [em] at hb
    rcases List.mem_append.mp hb with hb | hb
    · rw [upd_ne (far fq b hb)]
      exact h.gn b hb
    · simp only [List.mem_cons, List.not_mem_nil, or_false] at hb
      rcases hb with rfl | rfl
      · rw [upd_ne ntq]
        exact noG ft
      · rw [upd_ne nsq]
        exact noG fs
  · rw [em, List.nodup_append]
    refine ⟨h.nd, by simp [nts], fun b hb d hd => ?_⟩
    simp only [List.mem_cons, List.not_mem_nil, or_false] at hd
    rcases hd with rfl | rfl
    · exact far ft b hb
    · exact far fs b hb
  · rw [upd_ne n1]
    exact s _ _ hi
  · refine Paired.snoc (Paired.mapP hxs fun x e ⟨u, r1, r2⟩ => ⟨u, r1, Same.sqT gq r2⟩) ⟨q, rfl, SqT.of upd_same⟩
  · rw [upd_ne n4.symm]
    exact s _ _ z
  · rw [upd_ne n5.symm]
    exact s _ _ z
  · rcases List.mem_append.mp he with he | he
    · refine ⟨(h.ps e he).1.g gq (fun o z => ?_), (h.ps e he).2.g gq (fun o z => ?_)⟩
      · rw [upd_ne (n7 e he).2.2.1.symm]
        exact s _ _ z
      · rw [upd_ne (n7 e he).2.2.2.1.symm]
        exact s _ _ z
    · rw [List.mem_singleton.mp he]
      obtain ⟨t1, k1, t2, t3⟩ := h.dt
      obtain ⟨u1, k2, u2, u3⟩ := h.ds
      have e1 : k1 = kt := by
        rw [et] at t2
        injection Option.some.inj t2.symm
      have e2 : k2 = ks := by
        rw [es] at u2
        injection Option.some.inj u2.symm
      subst e1 e2
      refine ⟨⟨t1, k1, ?_, Paired.mapP t3 fun _ _ z => TbE.g z gq⟩, ⟨u1, k2, ?_, Paired.mapP u3 fun _ _ z => SmE.g z gq⟩⟩
      · show upd H' B.pa _ dt = _
        rw [upd_ne (far ft _ mem_pa).symm]
        exact at_
      · show upd H' B.pa _ ds = _
        rw [upd_ne (far fs _ mem_pa).symm]
        exact as_
  · rw [em] at hb
    rcases List.mem_append.mp hb with hb | hb
    · exact .inl hb
    · simp only [List.mem_cons, List.not_mem_nil, or_false] at hb
      rcases hb with rfl | rfl
      · exact .inr ft
      · exact .inr fs
/-- a deed is taken back -/
theorem BR.undo {p : Addr} {B : Bn} {es : List Pst} {e : Pst} {xs : List V} {dx : Addr} (h : BR K G H p B) (he : B.past = es ++ [e]) (hxs : Paired (PsE K G) xs es) (hp : H' p = some (.ins (cB K) dx (bfl e.2.1 e.2.2.1 B.pa))) (hpa : H' B.pa = some (.lst xs)) (ho : ∀ b, b ≠ p → b ≠ B.pa → H' b = H b) :
    Nx K p G H B G H' { B with dt := e.2.1, ds := e.2.2.1, ts := e.2.2.2.1, ss := e.2.2.2.2, past := es } := by
  have hm : e ∈ B.past := by rw [he]; simp
  have hms : ∀ x ∈ es, x ∈ B.past := fun x hx => by rw [he]; exact List.mem_append_left _ hx
  obtain ⟨n1, n2, n3, n4, n5, n6, n7⟩ := h.nes
  have sub : ∀ b ∈ muts p { B with dt := e.2.1, ds := e.2.2.1, ts := e.2.2.2.1, ss := e.2.2.2.2, past := es }, b ∈ muts p B := fun b hb => by
    unfold muts at hb
    simp only [List.mem_cons, List.mem_flatMap] at hb
    rcases hb with z | z | z | z | ⟨x, hx, z⟩
    · rw [z]
      exact mem_p
    · rw [z]
      exact mem_pa
    · rw [z]
      exact mem_e1 hm
    · rw [z]
      exact mem_e2 hm
    · simp only [List.not_mem_nil, or_false] at z
      rcases z with z | z
      · rw [z]
        exact mem_e1 (hms x hx)
      · rw [z]
        exact mem_e2 (hms x hx)
  have old : ∀ x ∈ B.past, H' x.2.1 = H x.2.1 ∧ H' x.2.2.1 = H x.2.2.1 := fun x hx => ⟨ho _ (n7 x hx).1.symm (n7 x hx).2.2.1.symm, ho _ (n7 x hx).2.1.symm (n7 x hx).2.2.2.1.symm⟩
  refine ⟨⟨Same.refl _, fun _ _ _ _ => rfl, fun b o q n => ?_, fun b o q => ?_⟩, ⟨fun b o q => ?_, fun b hb => h.gn b (sub b hb), ?_, ⟨dx, hp⟩, ⟨xs, hpa, hxs⟩, (h.ps e hm).1.g (Same.refl _) (fun o q => ?_), (h.ps e hm).2.g (Same.refl _) (fun o q => ?_), fun x hx => ⟨(h.ps x (hms x hx)).1.g (Same.refl _) (fun o q => ?_), (h.ps x (hms x hx)).2.g (Same.refl _) (fun o q => ?_)⟩⟩, fun b hb => .inl (sub b hb)⟩
  · rw [ho b (fun (z : b = p) => n (by rw [z]; exact mem_p)) (fun (z : b = B.pa) => n (by rw [z]; exact mem_pa))]
    exact q
  · by_cases z : b = p
    · exact ⟨_, by rw [z]; exact hp, fun _ => rfl⟩
    · by_cases z2 : b = B.pa
      · exact ⟨_, by rw [z2]; exact hpa, fun _ => rfl⟩
      · exact ⟨o, by rw [ho b z z2]; exact q, fun f => f⟩
  · rw [ho b (fun z => by rw [z, h.gn _ mem_p] at q; cases q) (fun z => by rw [z, h.gn _ mem_pa] at q; cases q)]
    exact h.sm _ _ q
  · have hn := h.nd
    unfold muts at hn ⊢
    rw [he, List.flatMap_append] at hn
    simp only [List.flatMap_cons, List.flatMap_nil, List.append_nil, List.nodup_cons, List.nodup_append, List.mem_cons, List.mem_append, List.not_mem_nil, or_false, not_or] at hn ⊢
    obtain ⟨⟨a1, a2, a3, a4, a5, a6⟩, ⟨b1, b2, b3, b4, b5⟩, ⟨c1, c2, c3⟩, ⟨d1, d2⟩, r1, r2, r3⟩ := hn
    refine ⟨⟨a1, a5, a6, a4⟩, ⟨b4, b5, b3⟩, ⟨r2.1, fun z => ?_⟩, fun z => ?_, r1⟩
    · exact r3 _ z _ (.inl rfl) rfl
    · exact r3 _ z _ (.inr rfl) rfl
  · show H' e.2.1 = some o
    rw [(old e hm).1]
    exact q
  · show H' e.2.2.1 = some o
    rw [(old e hm).2]
    exact q
  · rw [(old x (hms x hx)).1]
    exact q
  · rw [(old x (hms x hx)).2]
    exact q
theorem mergeK_nd : ∀ (kvs acc : List (Key × V)), ((acc ++ kvs).map (·.1)).Nodup → mergeK acc kvs = acc ++ kvs
  | [], acc, _ => by simp [mergeK]
  | p :: r, acc, h => by
    have hn : valV acc p.1 = none := by
      refine valV_free fun hm => ?_
      rw [List.map_append, List.nodup_append] at h
      exact h.2.2 _ hm p.1 (by simp) rfl
    have e : mergeK acc (p :: r) = mergeK (putK acc p.1 p.2) r := rfl
    rw [e, Sw.putK_new hn, mergeK_nd r (acc ++ [(p.1, p.2)]) (by simpa [List.append_assoc] using h), List.append_assoc]
    rfl
theorem keys_rel {A : Type} {R : Key × V → List Nat × A → Prop} (hR : ∀ p e, R p e → p.1 = .inr (SS e.1)) : ∀ {kvs : List (Key × V)} {es : List (List Nat × A)}, Paired R kvs es → kvs.map (·.1) = (es.map (·.1)).map fun n => (Sum.inr (SS n) : Key)
  | _, _, .nil => rfl
  | _, _, .cons r t => by
    rw [List.map_cons, List.map_cons, List.map_cons, keys_rel hR t, hR _ _ r]
theorem keys_nd {ns : List (List Nat)} (h : ns.Nodup) : (ns.map fun n => (Sum.inr (SS n) : Key)).Nodup := by
  rw [List.nodup_iff_pairwise_ne, List.pairwise_map]
  exact List.Pairwise.imp (fun hab e => hab (SX.S_inj (by injection e))) (List.nodup_iff_pairwise_ne.mp h)
theorem nodup_put {A : Type} {es : List (List Nat × A)} {e : List Nat × A} (h : (es.map (·.1)).Nodup) : ((putE es e).map (·.1)).Nodup := by
  unfold putE
  split
  · have e2 : (es.map fun x => if x.1 = e.1 then e else x).map (·.1) = es.map (·.1) := by
      rw [List.map_map]
      refine List.map_congr_left fun x _ => ?_
      show (if x.1 = e.1 then e else x).1 = x.1
      split
      · rename_i hx
        exact hx.symm
      · rfl
    rw [e2]
    exact h
  · rename_i hn
    rw [List.map_append, List.nodup_append]
    refine ⟨h, by simp, fun a ha b hb z => hn ?_⟩
    simp only [List.map_cons, List.map_nil, List.mem_singleton] at hb
    obtain ⟨x, hx, rfl⟩ := List.mem_map.mp ha
    rw [List.any_eq_true]
    exact ⟨x, hx, decide_eq_true (z.trans hb)⟩
theorem nodup_filter {A : Type} {es : List (List Nat × A)} {f : List Nat × A → Bool} (h : (es.map (·.1)).Nodup) : ((es.filter f).map (·.1)).Nodup := h.sublist ((List.filter_sublist).map _)
theorem getE_mem {A : Type} {es : List (List Nat × A)} {n : List Nat} {e : List Nat × A} (h : getE es n = some e) : e ∈ es ∧ e.1 = n := by
  unfold getE at h
  have h2 := List.find?_some h
  exact ⟨List.mem_of_find?_eq_some h, of_decide_eq_true h2⟩
theorem getE_nd {A : Type} : ∀ {es : List (List Nat × A)}, (es.map (·.1)).Nodup → ∀ {e : List Nat × A}, e ∈ es → getE es e.1 = some e
  | y :: es, hn, e, he => by
    rw [List.map_cons, List.nodup_cons] at hn
    unfold getE
    by_cases z : y.1 = e.1
    · rw [List.find?_cons, decide_eq_true z]
      rcases List.mem_cons.mp he with h | h
      · rw [h]
      · exact absurd (List.mem_map.mpr ⟨e, h, z.symm⟩) hn.1
    · rw [List.find?_cons, decide_eq_false z]
      rcases List.mem_cons.mp he with h | h
      · exact absurd (by rw [h]) z
      · exact getE_nd hn.2 h
theorem dgetS {a : Addr} {kvs : List (Key × V)} {n : List Nat} {v : V} (h : Rd H a (.dK kvs)) (e : valV kvs (.inr (SS n)) = some v) : DGet H a (.str (SS n)) (some v) := .inl ⟨kvs, .inr (SS n), h, rfl, e.symm⟩
theorem dgetO {a : Addr} {kvs : List (Key × V)} {n : List Nat} (h : Rd H a (.dK kvs)) : DGet H a (.str (SS n)) (valV kvs (.inr (SS n))) := .inl ⟨kvs, .inr (SS n), h, rfl, rfl⟩
theorem sqT_frz {a d : Addr} {xs : List V} {od : Obj} {kk : List (Key × V)} {o : HO} (h : SqT K H a xs) (hd : H d = some (.frz od (.dK kk))) : SqT K (upd H d o) a xs := by
  rcases h with (h | ⟨u, h⟩) | h
  · exact .inl (.inl (upd_keep h hd (fun z => nomatch z)))
  · exact .inl (.inr ⟨u, upd_keep h hd (fun z => nomatch z)⟩)
  · exact .inr h
theorem paired_dropLast {A B : Type} {R : A → B → Prop} : ∀ {xs : List A} {ys : List B}, Paired R xs ys → Paired R xs.dropLast ys.dropLast
  | _, _, .nil => .nil
  | _, _, .cons _ .nil => .nil
  | _, _, .cons r (.cons r2 t) => .cons r (paired_dropLast (.cons r2 t))
theorem dp_repl {x : Str} : ∀ k : Nat, DpAll K H (List.replicate k (V.str x)) (List.replicate k (PyData.str x))
  | 0 => .nil
  | k + 1 => .cons (.str _) (dp_repl k)
theorem dp_reps {x : Str} {k : Nat} {d : Addr} (h : SqL K H d (List.replicate k (V.str x))) : Dp K H (.ref d) (.list (List.replicate k (PyData.str x))) := .lst h (dp_repl k)
theorem canLay_rep {x : Str} (h : PyData.canLay0 (.str x) = true) : ∀ k : Nat, PyData.canLayAll0 (List.replicate k (PyData.str x)) = true
  | 0 => rfl
  | k + 1 => by
    show (PyData.canLay0 (.str x) && PyData.canLayAll0 (List.replicate k (PyData.str x))) = true
    rw [canLay_rep h k, Bool.and_true]
    exact h
theorem shaped_rep {x : Str} (h : PyData.canLay0 (.str x) = true) {k : Nat} (hk : k ≤ 2) : SeqAt.shaped (.list (List.replicate k (PyData.str x))) = true := by
  unfold SeqAt.shaped
  rw [Bool.and_eq_true]
  refine ⟨canLay_rep h k, ?_⟩
  match k, hk with
  | 0, _ => rfl
  | 1, _ => rfl
  | 2, _ => rfl
theorem eqv_rep {x : Str} {k : Nat} (hk : k ≤ 2) : PyData.eqv (.list (List.replicate k (PyData.str x))) (.list (List.replicate k (PyData.str x))) = true := by
  refine PySem.W.eqv_refl_alike _ ?_
  match k, hk with
  | 0, _ => rfl
  | 1, _ => rfl
  | 2, _ => rfl
end
end Sw

/-! ## G14 -/
namespace Sw
open PySem PySem.Spec PyProof.Rows L2
open C8 (Cal Met Mak pe_c pe_mk pe_mt pe_mt0 pe_gc)
section
variable {P : Program} {w : World} {K : PySem.W.Frag} {mg : Str → Option Value} {base : Heap}
abbrev N_Bench___init__ : List Str := ["self"]
abbrev s_Bench___init__ : Stmt := sBenchInit
theorem sc_Bench___init__ : FnScope N_Bench___init__ ["self"] (defScope s_Bench___init__) := ⟨rfl, rfl, rfl, by decide +kernel, rfl, by decide +kernel, by decide +kernel⟩
def sp_Bench___init__ (K : PySem.W.Frag) : Sp := fun vs H Q _ => ∃ (p dx : Addr) (G : Hp), vs = [.ref p] ∧ H p = some (.ins (cB K) dx []) ∧ Same G H ∧ G p = none ∧ ∀ dt ds pa H', Keep p H H' → H dt = none → H ds = none → H pa = none → BR K G H' p ⟨dt, ds, pa, [], [], []⟩ → Q .non H'
theorem ok_Bench___init__ (T : Tx w K mg) : Mak P w K mg base 1 "Bench" (He.ga K "Bench") (sp_Bench___init__ K) [] := by
  obtain ⟨fd, F, b⟩ := T.F_Bench___init__
  refine ⟨_, fd, _, [], T.mk_Bench, F.ok sc_Bench___init__ (fun vs H Q E h => ?_) (fun cdv A outer s H vs Q E hr h => ?_), T.g_Bench, b, .nil⟩
  · obtain ⟨p, dx, G, rfl, _⟩ := h
    rfl
  · obtain ⟨p, dx, G, rfl, hp, hs, hg, k⟩ := h
    have hu := hu_of hr
    have nd := sc_Bench___init__.nd
    refine ⟨_, (pss_cons (ps_fld (pv 0) pe_dnewK rfl)
      (pss_cons (ps_fld (pv 0) pe_dnewK rfl)
      (pss_one (ps_fld (pv 0) (pe_lst pa_nil) rfl)))), ?_⟩
    intro dt hdt
    have ndt : p ≠ dt := ne_free hp hdt
    refine ⟨_, rfl, p, _, dx, _, rfl, same_new hdt _ _ hp, T.cl_Bench, T.n_tables, by decide, ?_⟩
    have k1 : Keep p H (upd (upd H dt (.dK [])) p (.ins (cB K) dx (putF "tables" (.ref dt) []))) := Keep.at (Keep.of (same_new hdt))
    have p1 : (upd (upd H dt (.dK [])) p (.ins (cB K) dx (putF "tables" (.ref dt) []))) p = some (.ins (cB K) dx (putF "tables" (.ref dt) [])) := upd_same
    have d1 : (upd (upd H dt (.dK [])) p (.ins (cB K) dx (putF "tables" (.ref dt) []))) dt = some (.dK []) := by rw [upd_ne ndt.symm]; exact upd_same
    generalize upd (upd H dt (.dK [])) p (.ins (cB K) dx (putF "tables" (.ref dt) [])) = H1 at k1 p1 d1 ⊢
    intro ds hds
    have nds : p ≠ ds := ne_free p1 hds
    have nts : dt ≠ ds := ne_free d1 hds
    refine ⟨_, rfl, p, _, dx, _, rfl, same_new hds _ _ p1, T.cl_Bench, T.n_sums, Nat.lt_of_le_of_lt (putF_len _ _ _) (by decide), ?_⟩
    have k2 : Keep p H (upd (upd H1 ds (.dK [])) p (.ins (cB K) dx (putF "sums" (.ref ds) (putF "tables" (.ref dt) [])))) := Keep.at (k1.same (same_new hds))
    have p2 : (upd (upd H1 ds (.dK [])) p (.ins (cB K) dx (putF "sums" (.ref ds) (putF "tables" (.ref dt) [])))) p = some (.ins (cB K) dx (putF "sums" (.ref ds) (putF "tables" (.ref dt) []))) := upd_same
    have d2 : (upd (upd H1 ds (.dK [])) p (.ins (cB K) dx (putF "sums" (.ref ds) (putF "tables" (.ref dt) [])))) dt = some (.dK []) := by rw [upd_ne ndt.symm, upd_ne nts]; exact d1
    have s2 : (upd (upd H1 ds (.dK [])) p (.ins (cB K) dx (putF "sums" (.ref ds) (putF "tables" (.ref dt) [])))) ds = some (.dK []) := by rw [upd_ne nds.symm]; exact upd_same
    have hds0 : H ds = none := k1.none nds.symm hds
    generalize upd (upd H1 ds (.dK [])) p (.ins (cB K) dx (putF "sums" (.ref ds) (putF "tables" (.ref dt) []))) = H2 at k2 p2 d2 s2 ⊢
    refine ⟨sz0, fun pa hpa => ?_⟩
    have npa : p ≠ pa := ne_free p2 hpa
    have ntp : dt ≠ pa := ne_free d2 hpa
    have nsp : ds ≠ pa := ne_free s2 hpa
    refine ⟨_, rfl, p, _, dx, _, rfl, same_new hpa _ _ p2, T.cl_Bench, T.n_past, Nat.lt_of_le_of_lt (Nat.le_trans (putF_len _ _ _) (Nat.succ_le_succ (putF_len _ _ _))) (by decide), ?_⟩
    have hpa0 : H pa = none := k2.none npa.symm hpa
    have noG : ∀ {b : Addr}, H b = none → G b = none := fun {b} hb => by
      cases z : G b with
      | none => rfl
      | some o =>
        rw [hs _ _ z] at hb
        cases hb
    have k3 : Keep p H (upd (upd H2 pa (.lst [])) p (.ins (cB K) dx (bfl dt ds pa))) := Keep.at (k2.same (same_new hpa))
    refine k dt ds pa _ k3 hdt hds0 hpa0 ⟨fun b o e => k3 b o (hs _ _ e) (fun z => by rw [z, hg] at e; cases e), fun b hb => ?_, ?_, ⟨dx, upd_same⟩, ⟨[], ?_, .nil⟩, ⟨.nil, [], ?_, .nil⟩, ⟨.nil, [], ?_, .nil⟩, fun e he => nomatch he⟩
    · simp only [muts, List.flatMap_nil, List.mem_cons, List.not_mem_nil, or_false] at hb
      rcases hb with rfl | rfl | rfl | rfl
      · exact hg
      · exact noG hpa0
      · exact noG hdt
      · exact noG hds0
    · simp only [muts, List.flatMap_nil, List.nodup_cons, List.mem_cons, List.not_mem_nil, or_false, not_or, not_false_eq_true, List.nodup_nil, and_true]
      exact ⟨⟨npa, ndt, nds⟩, ⟨ntp.symm, nsp.symm⟩, nts⟩
    · rw [upd_ne npa.symm]
      exact upd_same
    · rw [upd_ne ndt.symm, upd_ne ntp]
      exact d2
    · rw [upd_ne nds.symm, upd_ne nsp]
      exact s2
abbrev N_Bench_keep : List Str := ["self", "word"]
abbrev s_Bench_keep : Stmt := sBenchKeep
theorem sc_Bench_keep : FnScope N_Bench_keep ["self", "word"] (defScope s_Bench_keep) := ⟨rfl, rfl, rfl, by decide +kernel, rfl, by decide +kernel, by decide +kernel⟩
def sp_Bench_keep (K : PySem.W.Frag) : Sp := fun vs H Q _ => ∃ (p : Addr) (w : List Nat) (G : Hp) (B : Bn), vs = [.ref p, .str (SS w)] ∧ BR K G H p B ∧ B.past.length ≤ 500 ∧ ∀ G' H' dt' ds', Nx K p G H B G' H' { B with past := B.past ++ [(w, dt', ds', B.ts, B.ss)] } → Q .non H'
theorem ok_Bench_keep (T : Tx w K mg) : Met P w K mg base 1 (He.ga K "Bench") "keep" (sp_Bench_keep K) [] := by
  obtain ⟨fd, F, b⟩ := T.F_Bench_keep
  refine ⟨_, fd, _, [], T.cl_Bench, T.me_Bench_keep, F.ok sc_Bench_keep (fun vs H Q E h => ?_) (fun cdv A outer s H vs Q E hr h => ?_), b, .nil⟩
  · obtain ⟨p, w, G, B, rfl, _⟩ := h
    rfl
  · obtain ⟨p, w, G, B, rfl, hB, hlen, k⟩ := h
    have hu := hu_of hr
    have nd := sc_Bench_keep.nd
    refine ⟨_, (pss_one (ps_expr (pe_bm PySem.F.plainAttrs_list PySem.F.slot_list_append PySem.F.type_list_append mt_append (pe_fld (pv 0) rfl) (pa_cons (pe_tup (pa_cons (pv 1) (pa_cons (pe_callTy call_dictD rfl T.m_dict (by decide +kernel) (pa_cons (pe_fld (pv 0) rfl) pa_nil)) (pa_cons (pe_callTy call_dictD rfl T.m_dict (by decide +kernel) (pa_cons (pe_fld (pv 0) rfl) pa_nil)) pa_nil)))) pa_nil)))), ?_⟩
    obtain ⟨dx, hi⟩ := hB.ins
    obtain ⟨xs, hpa, hxs⟩ := hB.pa
    obtain ⟨_, kt, et, _⟩ := hB.dt
    obtain ⟨_, ks, es, _⟩ := hB.ds
    refine ⟨_, rfl, p, _, dx, _, _, rfl, hi, T.cl_Bench, T.n_past, bfl_past, .inl ⟨rfl, _, SqL.of hpa⟩, ?_⟩
    refine ⟨_, rfl, _, rfl, p, _, dx, _, _, rfl, hi, T.cl_Bench, T.n_tables, bfl_tables, _, _, rfl, .inl et, fun dt' ft => ?_⟩
    have s1 := same_new (o := .dK kt) ft
    have a1 : (upd H dt' (.dK kt)) dt' = some (.dK kt) := upd_same
    generalize upd H dt' (.dK kt) = H1 at s1 a1 ⊢
    refine ⟨_, rfl, p, _, dx, _, _, rfl, (s1 _ _ hi), T.cl_Bench, T.n_sums, bfl_sums, _, _, rfl, .inl (s1 _ _ es), fun ds' fs => ?_⟩
    have s2 := s1.trans (same_new (o := .dK ks) fs)
    have b2 : (upd H1 ds' (.dK ks)) ds' = some (.dK ks) := upd_same
    have nts : dt' ≠ ds' := ne_free a1 fs
    have a2 := same_new (o := .dK ks) fs _ _ a1
    have fs0 := s1.free fs
    generalize upd H1 ds' (.dK ks) = H2 at s2 a2 b2 ⊢
    refine ⟨sz3, fun q fq => ?_⟩
    have s3 := s2.trans (same_new (o := .tup [.str (SS w), .ref dt', .ref ds']) fq)
    have c3 : (upd H2 q (.tup [.str (SS w), .ref dt', .ref ds'])) q = some (.tup [.str (SS w), .ref dt', .ref ds']) := upd_same
    have a3 := same_new (o := .tup [.str (SS w), .ref dt', .ref ds']) fq _ _ a2
    have b3 := same_new (o := .tup [.str (SS w), .ref dt', .ref ds']) fq _ _ b2
    have ntq : dt' ≠ q := ne_free a2 fq
    have nsq : ds' ≠ q := ne_free b2 fq
    have fq0 := s2.free fq
    generalize upd H2 q (.tup [.str (SS w), .ref dt', .ref ds']) = H3 at s3 a3 b3 c3 ⊢
    refine ⟨B.pa, xs, _, rfl, rfl, s3 _ _ hpa, ?_, ?_⟩
    · exact szl (by rw [Paired.length hxs]; omega)
    · exact k _ _ dt' ds' (hB.keep hpa hxs et es s3 ft fs0 fq0 nts ntq nsq a3 b3 c3)
abbrev N_Bench_taken_back : List Str := ["self", "last"]
abbrev s_Bench_taken_back : Stmt := sBenchTakenBack
theorem sc_Bench_taken_back : FnScope N_Bench_taken_back ["self"] (defScope s_Bench_taken_back) := ⟨rfl, rfl, rfl, by decide +kernel, rfl, by decide +kernel, by decide +kernel⟩
def sp_Bench_taken_back (K : PySem.W.Frag) : Sp := fun vs H Q E => ∃ (p : Addr) (G : Hp) (B : Bn), vs = [.ref p] ∧ BR K G H p B ∧ (B.past = [] → ∀ H', Same H H' → E (.ref (He.ga K "NoDeed")) none H') ∧ ∀ es e, B.past = es ++ [e] → ∀ H', Nx K p G H B G H' { B with dt := e.2.1, ds := e.2.2.1, ts := e.2.2.2.1, ss := e.2.2.2.2, past := es } → Q (.str (SS e.1)) H'
theorem ok_Bench_taken_back (T : Tx w K mg) : MetX P w K mg base 1 (He.ga K "Bench") "taken_back" (sp_Bench_taken_back K) := by
  obtain ⟨fd, F, b⟩ := T.F_Bench_taken_back
  refine ⟨_, fd, _, T.cl_Bench, T.me_Bench_taken_back, F.okX sc_Bench_taken_back (fun vs H Q E h => ?_) (fun cdv A outer s H vs Q E hr h => ?_), b⟩
  · obtain ⟨p, G, B, rfl, _⟩ := h
    rfl
  · obtain ⟨p, G, B, rfl, hB, kE, k⟩ := h
    have hu := hu_of hr
    have nd := sc_Bench_taken_back.nd
    refine ⟨_, (pss_cons (ps_if (pt_cmpR (op_eqE hr.units) (pe_fld (pv 0) rfl) (pe_lst pa_nil) (nomark _)) (pss_one (ps_raise rfl (takes_of rfl rfl rfl rfl) (pmk_own0 PySem.F.excBase_ValueError T.x_NoDeed.1 T.g_NoDeed T.x_NoDeed.2.1 (raises_own T.x_NoDeed.2.2.1 T.x_NoDeed.2.2.2) rfl))) pss_nil)
      (pss_cons (ps_set (i := 1) nd rfl (.inl rfl) (pe_bm0 PySem.F.plainAttrs_list PySem.F.slot_list_pop PySem.F.type_list_pop mt_pop (pe_fld (pv 0) rfl)))
      (pss_cons (ps_fld (pv 0) (pe_ix ix_tup (pv 1) pe_int (fun _ _ => rfl)) rfl)
      (pss_cons (ps_fld (pv 0) (pe_ix ix_tup (pv 1) pe_int (fun _ _ => rfl)) rfl)
      (pss_one (ps_ret (pe_ix ix_tup (pv 1) pe_int (fun _ _ => rfl)))))))), ?_⟩
    obtain ⟨dx, hi⟩ := hB.ins
    obtain ⟨xs, hpa, hxs⟩ := hB.pa
    obtain ⟨n1, _⟩ := hB.nes
    have hl := Paired.length hxs
    refine ⟨_, rfl, p, _, dx, _, _, rfl, hi, T.cl_Bench, T.n_past, bfl_past, sz0, fun b hb => ?_⟩
    have s1 := same_new (o := .lst []) hb
    refine ⟨B.pa, b, xs, rfl, rfl, s1.seq (SqL.of hpa), SqL.of upd_same, ?_⟩
    rw [if_neg (by simp)]
    generalize upd H b (.lst []) = H1 at s1 ⊢
    rcases List.eq_nil_or_concat B.past with h0 | ⟨es, e, h0⟩
    · have hx0 : xs = [] := List.length_eq_zero_iff.mp (by rw [hl, h0]; rfl)
      subst hx0
      exact ⟨_, rfl, ifT rfl (kE h0 H1 s1)⟩
    · have h0 : B.past = es ++ [e] := by rw [h0]; simp
      have hne : xs ≠ [] := fun z => by
        rw [z, h0] at hl
        simp at hl
      refine ⟨_, rfl, ifF (by simp [hne]) ?_⟩
      have hxl : xs.length = es.length + 1 := by rw [hl, h0]; simp
      obtain ⟨y, hy, hye⟩ := tm_at hxs (i := es.length) (y := e) (by rw [h0]; simp)
      obtain ⟨q, rfl, hq⟩ := hye
      have hdrop : Paired (PsE K G) xs.dropLast es := by
        have := paired_dropLast hxs
        rw [h0] at this
        simpa using this
      have hB1 := hB.same s1
      have hq1 : SqT K H1 q [.str (SS e.1), .ref e.2.1, .ref e.2.2.1] := Same.sqT (hB.sm.trans s1) hq
      refine ⟨_, rfl, p, _, dx, _, _, rfl, (s1 _ _ hi), T.cl_Bench, T.n_past, bfl_past, .inl ⟨rfl, _, SqL.of (s1 _ _ hpa)⟩, B.pa, xs, _, rfl, rfl, s1 _ _ hpa, (by rw [hxl]; simpa using hy), ?_⟩
      have ct : SameT H1 (upd H1 B.pa (.lst xs.dropLast)) := SameT.lst (s1 _ _ hpa)
      have hi2 : (upd H1 B.pa (.lst xs.dropLast)) p = some (.ins (cB K) dx (bfl B.dt B.ds B.pa)) := by rw [upd_ne n1]; exact s1 _ _ hi
      have hpa2 : (upd H1 B.pa (.lst xs.dropLast)) B.pa = some (.lst xs.dropLast) := upd_same
      have ho2 : ∀ b, b ≠ B.pa → (upd H1 B.pa (.lst xs.dropLast)) b = H1 b := fun b hb => upd_ne hb
      show gName 1 _ _ (upd H1 B.pa (.lst xs.dropLast)) _
      generalize upd H1 B.pa (.lst xs.dropLast) = H2 at ct hi2 hpa2 ho2 ⊢
      have hq2 := sqT_t hq1 ct
      refine ⟨_, rfl, _, _, _, _, rfl, rfl, hq2, at_get (i := 1) rfl, _, rfl, p, _, dx, _, rfl, hi2, T.cl_Bench, T.n_tables, (by rw [bfl_len]; decide), ?_⟩
      rw [bfl_dt]
      have hq3 := sqT_t hq2 (SameT.chg (o := .ins (cB K) dx (bfl e.2.1 B.ds B.pa)) hi2 rfl)
      refine ⟨_, rfl, _, _, _, _, rfl, rfl, hq3, at_get (i := 2) rfl, _, rfl, p, _, dx, _, rfl, upd_same, T.cl_Bench, T.n_sums, (by rw [bfl_len]; decide), ?_⟩
      rw [bfl_ds]
      have hq4 := sqT_t hq3 (SameT.chg (o := .ins (cB K) dx (bfl e.2.1 e.2.2.1 B.pa)) upd_same rfl)
      refine ⟨_, rfl, _, _, _, _, rfl, rfl, hq4, at_get (i := 0) rfl, ?_⟩
      have nx := hB1.undo (e := e) (dx := dx) h0 hdrop (H' := upd (upd H2 p (.ins (cB K) dx (bfl e.2.1 B.ds B.pa))) p (.ins (cB K) dx (bfl e.2.1 e.2.2.1 B.pa))) upd_same (by rw [upd_ne n1.symm, upd_ne n1.symm]; exact hpa2) (fun b h1 h2 => by rw [upd_ne h1, upd_ne h1]; exact ho2 b h2)
      exact k es e h0 _ ((Nx.same hB s1).trans nx)
abbrev N_Bench_without : List Str := ["self", "name", "sign"]
abbrev s_Bench_without : Stmt := sBenchWithout
theorem sc_Bench_without : FnScope N_Bench_without ["self", "name"] (defScope s_Bench_without) := ⟨rfl, rfl, rfl, by decide +kernel, rfl, by decide +kernel, by decide +kernel⟩
def sp_Bench_without (K : PySem.W.Frag) : Sp := fun vs H Q _ => ∃ (p : Addr) (n : List Nat) (G : Hp) (B : Bn), vs = [.ref p, .str (SS n)] ∧ BR K G H p B ∧ B.ss.length ≤ 500 ∧ ∀ d H', Same H H' → H d = none → DkS K G H' d (B.ss.filter fun e => decide (e.2.1 ≠ n)) → Q (.ref d) H'
theorem ok_Bench_without (T : Tx w K mg) : Met P w K mg base 1 (He.ga K "Bench") "without" (sp_Bench_without K) [] := by
  obtain ⟨fd, F, b⟩ := T.F_Bench_without
  refine ⟨_, fd, _, [], T.cl_Bench, T.me_Bench_without, F.ok sc_Bench_without (fun vs H Q E h => ?_) (fun cdv A outer s H vs Q E hr h => ?_), b, .nil⟩
  · obtain ⟨p, n, G, B, rfl, _⟩ := h
    rfl
  · obtain ⟨p, n, G, B, rfl, hB, hlen, k⟩ := h
    have hu := hu_of hr
    have nd := sc_Bench_without.nd
    refine ⟨_, (pss_one (ps_ret (pe_callTy (call_dictP rfl) rfl T.m_dict (by decide +kernel) (pa_cons (pe_lock (pe_lc (own := [("sign", 2)]) (g := gName 2) rfl nd (pi_keys (pe_fld (pv 0) rfl)) (blkOk_by (own := [("sign", 2)]) (N := N_Bench_without) (sc := defScope s_Bench_without) (by decide +kernel)) (fun _ _ _ _ _ => (pg_name (i := 2) nd rfl (.inl rfl))) (fun _ _ _ _ _ => (pts_one (pt_cmpR op_ne (pe_ix (ix_tupK K) (pe_dget hu (pe_fldK K (pv 0) rfl) (pv 2) (fun _ _ => rfl)) pe_int (fun _ _ => rfl)) (pv 1) (nomark _)))) (fun _ _ _ _ _ => (pe_tup (pa_cons (pv 2) (pa_cons (pe_dget hu (pe_fldK K (pv 0) rfl) (pv 2) (fun _ _ => rfl)) pa_nil)))))) pa_nil)))), ?_⟩
    obtain ⟨dx, hi⟩ := hB.ins
    obtain ⟨n1, n2, n3, _⟩ := hB.nes
    obtain ⟨hnd, ks, es, hks⟩ := hB.ds
    have hl := Paired.length hks
    refine ⟨B.ds, _, es, trivial, fun od => ?_⟩
    have esF : (upd H B.ds (.frz od (.dK ks))) B.ds = some (.frz od (.dK ks)) := upd_same
    have hiF : (upd H B.ds (.frz od (.dK ks))) p = some (.ins (cB K) dx (bfl B.dt B.ds B.pa)) := by rw [upd_ne n3]; exact hi
    have gF : Same G (upd H B.ds (.frz od (.dK ks))) := Same.mut hB.sm (hB.gn _ mem_ds)
    have back : ∀ H', Same (upd H B.ds (.frz od (.dK ks))) H' → Same H (upd H' B.ds (.dK ks)) := fun H' s => lock_back es s
    generalize upd H B.ds (.frz od (.dK ks)) = HL at esF hiF gF back ⊢
    refine ⟨_, rfl, p, _, dx, _, _, rfl, hiF, T.cl_Bench, T.n_sums, bfl_sums, _, od, rfl, .inl ⟨ks, esF, fun D hD => ?_⟩⟩
    have kn : (ks.map (·.1)).Nodup := by
      rw [keys_rel smE_key hks]
      exact keys_nd hnd
    refine lc_it walk_keys (fun i H' => Same HL H' ∧ ∃ (ps : List Addr) (kvs : List (Key × V)), H' D = some (.lst (ps.map V.ref)) ∧ Paired (fun p kv => SqT K H' p [kV kv.1, kv.2]) ps kvs ∧ Paired (SmE K G) kvs ((B.ss.take i).filter fun e => decide (e.2.1 ≠ n))) ⟨same_new hD, [], [], upd_same, .nil, .nil⟩ (fun i H' _ e => e.1 _ _ esF) ?_ ?_
    · rintro i x H' H'' hi2 ⟨s1, ps, kvs, hD1, hps, hkvs⟩ ⟨rfl, kk, vv, hkv, rfl⟩
      obtain ⟨e, he, hse⟩ := paired_get hks hkv
      obtain ⟨ek, hso, y, a, rfl, hy, hsu⟩ := id hse
      have ek : kk = .inr (SS e.1) := ek
      subst ek
      have hval : valV ks (.inr (SS e.1)) = some (.ref y) := valV_nd kn hkv
      refine ⟨rfl, _, rfl, p, _, dx, _, _, rfl, s1 _ _ hiF, T.cl_Bench, T.n_sums, bfl_sums, _, rfl, _, _, rfl, dgetS (.inr ⟨od, s1 _ _ esF⟩) hval, _, _, _, _, rfl, rfl, Same.sqT (gF.trans s1) hy, rfl, _, rfl, rfl, _, rfl, ?_⟩
      have hpl : ps.length ≤ i := by
        have h1 := Paired.length hps
        have h2 := Paired.length hkvs
        have h3 := List.length_filter_le (fun e : Sm => decide (e.2.1 ≠ n)) (B.ss.take i)
        have h4 := List.length_take_le i B.ss
        omega
      have et : B.ss.take (i + 1) = B.ss.take i ++ [e] := by rw [List.take_add_one, he]; rfl
      by_cases hn : e.2.1 = n
      · refine ifF (by rw [hn]; simp) ?_
        refine ⟨s1, ps, kvs, hD1, hps, ?_⟩
        rw [et, List.filter_append]
        simp [hn]
        simpa using hkvs
      · refine ifT (by simp [str_ne hn]) ?_
        refine ⟨_, rfl, _, rfl, p, _, dx, _, _, rfl, s1 _ _ hiF, T.cl_Bench, T.n_sums, bfl_sums, _, rfl, _, _, rfl, dgetS (.inr ⟨od, s1 _ _ esF⟩) hval, sz2, fun t ht => ?_⟩
        have s2 := s1.trans (same_new (o := .tup [.str (SS e.1), .ref y]) ht)
        refine ⟨ps.map V.ref, same_new ht _ _ hD1, szl (by rw [List.length_map]; omega), Same.mut s2 hD, ps ++ [t], kvs ++ [(.inr (SS e.1), .ref y)], (by rw [upd_same, List.map_append]; rfl), ?_, ?_⟩
        · refine Paired.snoc (Paired.mapP hps fun _ _ g => sqT_t (Same.sqT (same_new ht) g) (SameT.lst (same_new ht _ _ hD1))) ?_
          exact sqT_t (SqT.of upd_same) (SameT.lst (same_new ht _ _ hD1))
        · rw [et, List.filter_append]
          have ef : [e].filter (fun e => decide (e.2.1 ≠ n)) = [e] := by simp [hn]
          rw [ef]
          exact Paired.snoc hkvs hse
    · rintro H' ⟨s1, ps, kvs, hD1, hps, hkvs⟩
      rw [show ks.length = B.ss.length from hl, List.take_length] at hkvs
      have hDn : D ≠ B.ds := fun z => by
        rw [z, esF] at hD
        cases hD
      have s2 := back H' s1
      have D2 : (upd H' B.ds (.dK ks)) D = some (.lst (ps.map V.ref)) := by rw [upd_ne hDn]; exact hD1
      have ps2 : Paired (fun p kv => SqT K (upd H' B.ds (.dK ks)) p [kV kv.1, kv.2]) ps kvs := Paired.mapP hps fun a kv g => ?_
      · refine ⟨s1 _ _ esF, D, ps, kvs, rfl, SqL.of D2, ps2, fun d hd => ?_⟩
        have hnd2 : ((B.ss.filter fun e => decide (e.2.1 ≠ n)).map (·.1)).Nodup := nodup_filter hnd
        rw [mergeK_nd kvs [] (by rw [List.nil_append, keys_rel smE_key hkvs]; exact keys_nd hnd2), List.nil_append]
        exact k d _ (s2.trans (same_new hd)) (s2.free hd) ⟨hnd2, kvs, upd_same, hkvs⟩
      · exact sqT_frz g (s1 _ _ esF)
end
end Sw

/-! ## G15 -/
namespace Sw
open PySem PySem.Spec PyProof.Rows L2
open C8 (Cal Met Mak pe_c pe_mk pe_mt pe_mt0 pe_gc)
section
variable {P : Program} {w : World} {K : PySem.W.Frag} {mg : Str → Option Value} {base : Heap}
abbrev N_Bench_put_table : List Str := ["self", "name", "table"]
abbrev s_Bench_put_table : Stmt := sBenchPutTable
theorem sc_Bench_put_table : FnScope N_Bench_put_table ["self", "name", "table"] (defScope s_Bench_put_table) := ⟨rfl, rfl, rfl, by decide +kernel, rfl, by decide +kernel, by decide +kernel⟩
def sp_Bench_put_table (K : PySem.W.Frag) : Sp := fun vs H Q _ => ∃ (p : Addr) (n : List Nat) (a : Addr) (c : Nat) (l : Option Int) (G : Hp) (B : Bn), vs = [.ref p, .str (SS n), .ref a] ∧ BR K G H p B ∧ B.past.length ≤ 500 ∧ B.ts.length ≤ 500 ∧ B.ss.length ≤ 500 ∧ TbF K G a c l ∧ LOk c l ∧ ∀ G' H' B' dt' ds', Nx K p G H B G' H' B' → B'.ts = putE B.ts (n, c, l) → B'.ss = (B.ss.filter fun e => decide (e.2.1 ≠ n)) → B'.past = B.past ++ [(WT, dt', ds', B.ts, B.ss)] → Q (.str (SS n)) H'
theorem ok_Bench_put_table (T : Tx w K mg) (c_Bench_keep : Met P w K mg base 1 (He.ga K "Bench") "keep" (sp_Bench_keep K) []) (c_Bench_without : Met P w K mg base 1 (He.ga K "Bench") "without" (sp_Bench_without K) []) : Met P w K mg base 2 (He.ga K "Bench") "put_table" (sp_Bench_put_table K) [] := by
  obtain ⟨fd, F, b⟩ := T.F_Bench_put_table
  refine ⟨_, fd, _, [], T.cl_Bench, T.me_Bench_put_table, F.ok sc_Bench_put_table (fun vs H Q E h => ?_) (fun cdv A outer s H vs Q E hr h => ?_), b, .nil⟩
  · obtain ⟨p, n, a, c, l, G, B, rfl, _⟩ := h
    rfl
  · obtain ⟨p, n, a, c, l, G, B, rfl, hB, hlen, ht5, hs5, hT, hL, k⟩ := h
    have hu := hu_of hr
    have nd := sc_Bench_put_table.nd
    refine ⟨_, (pss_cons (ps_expr (pe_mt c_Bench_keep hr (by decide) (pv 0) (pa_cons pe_str pa_nil)))
      (pss_cons (ps_fld (pv 0) (pe_mt c_Bench_without hr (by decide) (pv 0) (pa_cons (pv 1) pa_nil)) rfl)
      (pss_cons (ps_dput hu (pe_fld (pv 0) rfl) (pv 1) (pv 2) rfl)
      (pss_one (ps_ret (pv 1)))))), ?_⟩
    obtain ⟨dx0, hi0⟩ := hB.ins
    refine ⟨_, rfl, p, _, _, rfl, hi0, bfl_no (by decide +kernel) (by decide +kernel) (by decide +kernel), p, WT, G, B, (by rw [show Str.ofString "table" = SS WT by decide +kernel]; rfl), hB, hlen, fun G1 H1 dt' ds' nx1 => ?_⟩
    obtain ⟨m1, hB1, sub1⟩ := id nx1
    obtain ⟨dx1, hi1⟩ := hB1.ins
    refine ⟨_, rfl, p, _, _, rfl, hi1, bfl_no (by decide +kernel) (by decide +kernel) (by decide +kernel), _, rfl, p, n, G1, _, rfl, hB1, hs5, fun d H2 s2 hd hD => ?_⟩
    obtain ⟨dx2, hi2, nx2⟩ := hB1.newS s2 hd hD
    refine ⟨_, rfl, p, _, dx2, _, rfl, hi2, T.cl_Bench, T.n_sums, (by rw [bfl_len]; decide), ?_⟩
    rw [bfl_ds]
    obtain ⟨m2, hB2, sub2⟩ := id nx2
    obtain ⟨dx3, hi3⟩ := hB2.ins
    obtain ⟨hnd, kt, et, hkt⟩ := hB2.dt
    have hT2 : TbF K G1 a c l := hT.same m1.g
    have hput : Paired (TbE K G1) (putK kt (.inr (SS n)) (.ref a)) (putE B.ts (n, c, l)) := put_rel tbE_key (e := (n, c, l)) ⟨rfl, hL, a, rfl, hT2⟩ hkt
    have nx3 := hB2.setT (ts := putE B.ts (n, c, l)) (nodup_put hnd) hput
    refine ⟨_, rfl, _, rfl, p, _, dx3, _, _, rfl, hi3, T.cl_Bench, T.n_tables, bfl_tables, _, rfl, B.dt, _, rfl, DPut.k (k := .inr (SS n)) et (szl (by rw [Paired.length hkt]; show B.ts.length ≤ _; omega)), ?_⟩
    exact ⟨_, rfl, k _ _ _ dt' ds' ((nx1.trans nx2).trans nx3) rfl rfl rfl⟩
abbrev N_Bench_put_sum : List Str := ["self", "words", "told"]
abbrev s_Bench_put_sum : Stmt := sBenchPutSum
theorem sc_Bench_put_sum : FnScope N_Bench_put_sum ["self", "words", "told"] (defScope s_Bench_put_sum) := ⟨rfl, rfl, rfl, by decide +kernel, rfl, by decide +kernel, by decide +kernel⟩
def sp_Bench_put_sum (K : PySem.W.Frag) : Sp := fun vs H Q _ => ∃ (p a x y : Addr) (w0 sg nm : List Nat) (r : List (List Nat)) (t : Int) (o : Option Int) (G : Hp) (B : Bn), vs = [.ref p, .ref a, .ref x] ∧ SqL K G a (wV (w0 :: sg :: r)) ∧ BR K G H p B ∧ B.past.length ≤ 500 ∧ B.ss.length ≤ 500 ∧ SqT K G x [.str (SS nm), .ref y] ∧ SuR K G y (sumK t o) ∧ SOk t o ∧ ∀ G' H' B' dt' ds', Nx K p G H B G' H' B' → B'.ts = B.ts → B'.ss = putE B.ss (sg, nm, t, o) → B'.past = B.past ++ [(w0, dt', ds', B.ts, B.ss)] → Q (.str (SS sg)) H'
theorem ok_Bench_put_sum (T : Tx w K mg) (c_Bench_keep : Met P w K mg base 1 (He.ga K "Bench") "keep" (sp_Bench_keep K) []) : Met P w K mg base 2 (He.ga K "Bench") "put_sum" (sp_Bench_put_sum K) [] := by
  obtain ⟨fd, F, b⟩ := T.F_Bench_put_sum
  refine ⟨_, fd, _, [], T.cl_Bench, T.me_Bench_put_sum, F.ok sc_Bench_put_sum (fun vs H Q E h => ?_) (fun cdv A outer s H vs Q E hr h => ?_), b, .nil⟩
  · obtain ⟨p, a, x, y, w0, sg, nm, r, t, o, G, B, rfl, _⟩ := h
    rfl
  · obtain ⟨p, a, x, y, w0, sg, nm, r, t, o, G, B, rfl, hxG, hB, hlen, hs5, hX, hY, hO, k⟩ := h
    have hu := hu_of hr
    have nd := sc_Bench_put_sum.nd
    refine ⟨_, (pss_cons (ps_expr (pe_mt c_Bench_keep hr (by decide) (pv 0) (pa_cons (pe_ix ix_list (pv 1) pe_int (fun _ _ => rfl)) pa_nil)))
      (pss_cons (ps_dput hu (pe_fld (pv 0) rfl) (pe_ix ix_list (pv 1) pe_int (fun _ _ => rfl)) (pv 2) rfl)
      (pss_one (ps_ret (pe_ix ix_list (pv 1) pe_int (fun _ _ => rfl)))))), ?_⟩
    obtain ⟨dx0, hi0⟩ := hB.ins
    have hx := hB.sm.seq hxG
    refine ⟨_, rfl, p, _, _, rfl, hi0, bfl_no (by decide +kernel) (by decide +kernel) (by decide +kernel), _, rfl, _, _, _, _, rfl, rfl, hx, at_get (i := 0) rfl, p, w0, G, B, rfl, hB, hlen, fun G1 H1 dt' ds' nx1 => ?_⟩
    obtain ⟨m1, hB1, sub1⟩ := id nx1
    obtain ⟨dx1, hi1⟩ := hB1.ins
    obtain ⟨hnd, ks, es, hks⟩ := hB1.ds
    have hput : Paired (SmE K G1) (putK ks (.inr (SS sg)) (.ref x)) (putE B.ss (sg, nm, t, o)) := put_rel smE_key (e := (sg, nm, t, o)) ⟨rfl, hO, x, y, rfl, Same.sqT m1.g hX, hY.same m1.g⟩ hks
    have nx2 := hB1.setS (ss := putE B.ss (sg, nm, t, o)) (nodup_put hnd) hput
    have hx1 : SqL K H1 a (wV (w0 :: sg :: r)) := (m1.g.trans hB1.sm).seq hxG
    refine ⟨_, rfl, _, rfl, p, _, dx1, _, _, rfl, hi1, T.cl_Bench, T.n_sums, bfl_sums, _, rfl, _, _, _, _, rfl, rfl, hx1, at_get (i := 1) rfl, B.ds, _, rfl, DPut.k (k := .inr (SS sg)) es (szl (by rw [Paired.length hks]; show B.ss.length ≤ _; omega)), ?_⟩
    have hx2 : SqL K (upd H1 B.ds (.dK (putK ks (.inr (SS sg)) (.ref x)))) a (wV (w0 :: sg :: r)) := (m1.g.trans nx2.2.1.sm).seq hxG
    exact ⟨_, rfl, _, _, _, _, rfl, rfl, hx2, at_get (i := 1) rfl, k _ _ _ dt' ds' (nx1.trans nx2) rfl rfl rfl⟩
abbrev N_Bench_dropped : List Str := ["self", "word"]
abbrev s_Bench_dropped : Stmt := sBenchDropped
theorem sc_Bench_dropped : FnScope N_Bench_dropped ["self", "word"] (defScope s_Bench_dropped) := ⟨rfl, rfl, rfl, by decide +kernel, rfl, by decide +kernel, by decide +kernel⟩
def sp_Bench_dropped (K : PySem.W.Frag) : Sp := fun vs H Q _ => ∃ (p : Addr) (n : List Nat) (G : Hp) (B : Bn), vs = [.ref p, .str (SS n)] ∧ BR K G H p B ∧ B.past.length ≤ 500 ∧ B.ss.length ≤ 500 ∧ ((getE B.ts n).isSome = true ∨ ((getE B.ts n) = none ∧ (getE B.ss n).isSome = true)) ∧ ∀ G' H' B' dt' ds', Nx K p G H B G' H' B' → (((getE B.ts n).isSome = true ∧ B'.ts = dropE B.ts n ∧ B'.ss = (B.ss.filter fun e => decide (e.2.1 ≠ n))) ∨ (getE B.ts n = none ∧ B'.ts = B.ts ∧ B'.ss = dropE B.ss n)) → B'.past = B.past ++ [(WD, dt', ds', B.ts, B.ss)] → Q (.str (SS n)) H'
theorem ok_Bench_dropped (T : Tx w K mg) (c_Bench_keep : Met P w K mg base 1 (He.ga K "Bench") "keep" (sp_Bench_keep K) []) (c_Bench_without : Met P w K mg base 1 (He.ga K "Bench") "without" (sp_Bench_without K) []) : Met P w K mg base 2 (He.ga K "Bench") "dropped" (sp_Bench_dropped K) [] := by
  obtain ⟨fd, F, b⟩ := T.F_Bench_dropped
  refine ⟨_, fd, _, [], T.cl_Bench, T.me_Bench_dropped, F.ok sc_Bench_dropped (fun vs H Q E h => ?_) (fun cdv A outer s H vs Q E hr h => ?_), b, .nil⟩
  · obtain ⟨p, n, G, B, rfl, _⟩ := h
    rfl
  · obtain ⟨p, n, G, B, rfl, hB, hlen, hs5, hn, k⟩ := h
    have hu := hu_of hr
    have nd := sc_Bench_dropped.nd
    refine ⟨_, (pss_cons (ps_expr (pe_mt c_Bench_keep hr (by decide) (pv 0) (pa_cons pe_str pa_nil)))
      (pss_cons (ps_if (pt_cmp (pc_din hu (pv 1) (pe_fld (pv 0) rfl)) rfl) (pss_cons (ps_fld (pv 0) (pe_mt c_Bench_without hr (by decide) (pv 0) (pa_cons (pv 1) pa_nil)) rfl)
      (pss_one (ps_expr (pe_dpop1 (pe_fld (pv 0) rfl) (pv 1) ⟨rfl, rfl, rfl, rfl⟩)))) (pss_one (ps_expr (pe_dpop1 (pe_fld (pv 0) rfl) (pv 1) ⟨rfl, rfl, rfl, rfl⟩))))
      (pss_one (ps_ret (pv 1))))), ?_⟩
    obtain ⟨dx0, hi0⟩ := hB.ins
    refine ⟨_, rfl, p, _, _, rfl, hi0, bfl_no (by decide +kernel) (by decide +kernel) (by decide +kernel), p, WD, G, B, (by rw [show Str.ofString "drop" = SS WD by decide +kernel]; rfl), hB, hlen, fun G1 H1 dt' ds' nx1 => ?_⟩
    obtain ⟨m1, hB1, sub1⟩ := id nx1
    obtain ⟨dx1, hi1⟩ := hB1.ins
    obtain ⟨hnd, kt, et, hkt⟩ := hB1.dt
    obtain ⟨hns, ks, es, hks⟩ := hB1.ds
    refine ⟨_, rfl, _, rfl, p, _, dx1, _, _, rfl, hi1, T.cl_Bench, T.n_tables, bfl_tables, B.dt, _, rfl, dgetO (n := n) (.inl et), _, rfl, ?_⟩
    rcases hn with hn | ⟨hn0, hn⟩
    · obtain ⟨e, he⟩ := Option.isSome_iff_exists.mp hn
      obtain ⟨_, v, hv, _⟩ := valV_some tbE_key hkt he
      refine ifT (by rw [hv]; rfl) ?_
      refine ⟨_, rfl, p, _, _, rfl, hi1, bfl_no (by decide +kernel) (by decide +kernel) (by decide +kernel), _, rfl, p, n, G1, _, rfl, hB1, hs5, fun d H2 s2 hd hD => ?_⟩
      obtain ⟨dx2, hi2, nx2⟩ := hB1.newS s2 hd hD
      refine ⟨_, rfl, p, _, dx2, _, rfl, hi2, T.cl_Bench, T.n_sums, (by rw [bfl_len]; decide), ?_⟩
      rw [bfl_ds]
      obtain ⟨m2, hB2, sub2⟩ := id nx2
      obtain ⟨dx3, hi3⟩ := hB2.ins
      obtain ⟨hnd2, kt2, et2, hkt2⟩ := hB2.dt
      obtain ⟨_, v2, hv2, _⟩ := valV_some tbE_key hkt2 he
      have nx3 := hB2.setT (ts := dropE B.ts n) (nodup_filter hnd2) (drop_rel tbE_key hkt2)
      refine ⟨_, rfl, p, _, dx3, _, _, rfl, hi3, T.cl_Bench, T.n_tables, bfl_tables, B.dt, rfl, .inl ⟨_, .inl et2⟩, _, rfl, _, .inr (SS n), _, et2, rfl, hv2, ?_⟩
      exact ⟨_, rfl, k _ _ _ dt' ds' ((nx1.trans nx2).trans nx3) (.inl ⟨hn, rfl, rfl⟩) rfl⟩
    · have hv := valV_none tbE_key hkt hn0
      refine ifF (by rw [hv]; rfl) ?_
      obtain ⟨e, he⟩ := Option.isSome_iff_exists.mp hn
      obtain ⟨_, v, hv, _⟩ := valV_some smE_key hks he
      have nx2 := hB1.setS (ss := dropE B.ss n) (nodup_filter hns) (drop_rel smE_key hks)
      refine ⟨_, rfl, p, _, dx1, _, _, rfl, hi1, T.cl_Bench, T.n_sums, bfl_sums, B.ds, rfl, .inl ⟨_, .inl es⟩, _, rfl, _, .inr (SS n), _, es, rfl, hv, ?_⟩
      exact ⟨_, rfl, k _ _ _ dt' ds' (nx1.trans nx2) (.inr ⟨hn0, rfl, rfl⟩) rfl⟩
end
end Sw

/-! ## G16 -/
namespace Sw
open PySem PySem.Spec PyProof.Rows L2
open C8 (Cal Met Mak pe_c pe_mk pe_mt pe_mt0 pe_gc)
section
variable {P : Program} {w : World} {K : PySem.W.Frag} {mg : Str → Option Value} {base : Heap}
abbrev N_Bench_look_there : List Str := ["self", "words", "word", "names"]
abbrev s_Bench_look_there : Stmt := sBenchLookThere
theorem sc_Bench_look_there : FnScope N_Bench_look_there ["self", "words"] (defScope s_Bench_look_there) := ⟨rfl, rfl, rfl, by decide +kernel, rfl, by decide +kernel, by decide +kernel⟩
def sp_Bench_look_there (K : PySem.W.Frag) : Sp := fun vs H Q _ => ∃ (p a : Addr) (w0 : List Nat) (r : List (List Nat)) (k : Nat) (nm : List Nat) (G : Hp) (B : Bn), vs = [.ref p, .ref a] ∧ SqL K H a (wV (w0 :: r)) ∧ BR K G H p B ∧ (w0 = WT ∨ w0 = WS ∨ w0 = WM ∨ w0 = WD ∨ w0 = WA ∨ w0 = WH ∨ w0 = WR ∨ w0 = WO ∨ w0 = WU) ∧ (w0 = WM → r.length = 4) ∧ (w0 = WS → 2 ≤ r.length) ∧ ((w0 = WD ∨ w0 = WH) → ∃ x, r = [x] ∧ ((getE B.ts x).isSome = true ∨ (getE B.ss x).isSome = true)) ∧ (∀ n ∈ namesF (w0 :: r), (getE B.ts n).isSome = true) ∧ (∀ s ∈ signsF (w0 :: r), (getE B.ss s).isSome = true) ∧ ((twoF (w0 :: r)).length = k ∧ k ≤ 2 ∧ (namesF (w0 :: r)).length ≤ 5 ∧ (signsF (w0 :: r)).length ≤ 5 ∧ PyData.canLay0 (.str (SS nm)) = true ∧ ∀ s ∈ twoF (w0 :: r), ∃ e, getE B.ss s = some e ∧ e.2.1 = nm) ∧ ∀ H', Same H H' → Q .non H'
theorem ok_Bench_look_there (T : Tx w K mg) (c_names_of : Cal P w K mg base 1 "names_of" (sp_names_of K) []) (c_signs_of : Cal P w K mg base 2 "signs_of" (sp_signs_of K) []) (c_two_signs : Cal P w K mg base 1 "two_signs" (sp_two_signs K) []) : Met P w K mg base 3 (He.ga K "Bench") "look_there" (sp_Bench_look_there K) [] := by
  obtain ⟨fd, F, b⟩ := T.F_Bench_look_there
  refine ⟨_, fd, _, [], T.cl_Bench, T.me_Bench_look_there, F.ok sc_Bench_look_there (fun vs H Q E h => ?_) (fun cdv A outer s H vs Q E hr h => ?_), b, .nil⟩
  · obtain ⟨p, a, w0, r, k, nm, G, B, rfl, _⟩ := h
    rfl
  · obtain ⟨p, a, w0, r, k, nm, G, B, rfl, hx, hB, h0, hwm, hws, hdr, hns, hss, htw, k'⟩ := h
    have hu := hu_of hr
    have nd := sc_Bench_look_there.nd
    refine ⟨_, (C8.pss_cut (ps_if (PW.pt (pw_and (pt_cmpR op_in_seq (pe_ix ix_list (pv 1) pe_int (fun _ _ => rfl)) (pe_tup (pa_cons pe_str (pa_cons pe_str pa_nil))) rfl) (pw_and (pt_cmp (pc_dnotin hu (pe_ix ix_list (pv 1) pe_int (fun _ _ => rfl)) (pe_fld (pv 0) rfl)) rfl) (pw_and1 (pt_cmp (pc_dnotin hu (pe_ix ix_list (pv 1) pe_int (fun _ _ => rfl)) (pe_fld (pv 0) rfl)) rfl))))) (pss_one ps_never) pss_nil)
      (pss_cons (ps_for PassesOwn.never rfl (pi_list (pe_c c_names_of hr (by decide) rfl (pa_cons (pv 1) pa_nil))) (pg_name (i := 2) nd rfl (.inl rfl)) (pss_one (ps_if (pt_cmp (pc_dnotin hu (pv 2) (pe_fld (pv 0) rfl)) rfl) (pss_one ps_never) pss_nil)))
      (pss_cons (ps_for PassesOwn.never rfl (pi_list (pe_c c_signs_of hr (by decide) rfl (pa_cons (pv 1) pa_nil))) (pg_name (i := 2) nd rfl (.inl rfl)) (pss_one (ps_if (pt_cmp (pc_dnotin hu (pv 2) (pe_fld (pv 0) rfl)) rfl) (pss_one ps_never) pss_nil)))
      (pss_cons (ps_setLc (i := 3) (own := [("word", 2)]) (g := gName 2) rfl nd rfl rfl (sw_true rfl rfl rfl (by decide +kernel)) (pi_list (pe_c c_two_signs hr (by decide) rfl (pa_cons (pv 1) pa_nil))) (blkOk_by (own := [("word", 2)]) (N := N_Bench_look_there) (sc := defScope s_Bench_look_there) (by decide +kernel)) (fun _ _ _ _ _ => (pg_name (i := 2) nd rfl (.inl rfl))) (fun _ _ _ _ _ => pts_nil) (fun _ _ _ _ _ => (pe_ix (ix_tupK K) (pe_dget hu (pe_fldK K (pv 0) rfl) (pv 2) (fun _ _ => rfl)) pe_int (fun _ _ => rfl))))
      (pss_one (ps_if (pt_cmpR (op_neD hr.units) (pv 3) (pe_op op_rep (pe_slice sl_list (pv 3) po_none (po_some pe_int)) (pe_callB call_len_seq rfl T.m_len (by decide +kernel) (pa_cons (pv 3) pa_nil))) (nomark _)) (pss_one ps_never) pss_nil)))))), ?_⟩
    obtain ⟨dx, hi⟩ := hB.ins
    obtain ⟨_, kt, et, hkt⟩ := hB.dt
    obtain ⟨_, ks, es, hks⟩ := hB.ds
    obtain ⟨hk, hk2, hnl, hsl, hok, htw⟩ := htw
    refine ⟨fun σ' H' => Same H H' ∧ σ' = [some (.ref p), some (.ref a), none, none], ?_, ?_⟩
    · by_cases hq : w0 = WD ∨ w0 = WH
      · obtain ⟨x, rfl, hx2⟩ := hdr hq
        have e1 : inV (.str (SS w0)) [.str "drop", .str "show"] = true := by rcases hq with rfl | rfl <;> decide +kernel
        refine ⟨_, rfl, _, _, _, _, rfl, rfl, hx, at_get (i := 0) rfl, sz2, fun u1 hu1 => ⟨_, _, rfl, .inr (SqT.of upd_same), rfl, rfl, _, rfl, ifT (by rw [if_neg (by simp)]; exact e1) ?_⟩⟩
        have s1 := same_new (o := .tup [.str "drop", .str "show"]) hu1
        generalize upd H u1 _ = H1 at s1 ⊢
        have hx1 := s1.seq hx
        refine ⟨_, rfl, _, _, _, _, rfl, rfl, hx1, at_get (i := 1) rfl, _, rfl, p, _, dx, _, _, rfl, (s1 _ _ hi), T.cl_Bench, T.n_tables, bfl_tables, B.dt, _, rfl, dgetO (n := x) (.inl (s1 _ _ et)), _, rfl, ?_⟩
        cases ht : getE B.ts x with
        | some e =>
          obtain ⟨_, v, hv, _⟩ := valV_some tbE_key hkt ht
          exact ifF (by rw [hv]; rfl) ⟨s1, rfl⟩
        | none =>
          have hv := valV_none tbE_key hkt ht
          refine ifT (by rw [hv]; rfl) ?_
          rw [ht] at hx2
          have hs : (getE B.ss x).isSome = true := by simpa using hx2
          obtain ⟨e, he⟩ := Option.isSome_iff_exists.mp hs
          obtain ⟨_, v, hv2, _⟩ := valV_some smE_key hks he
          refine ⟨_, rfl, _, _, _, _, rfl, rfl, hx1, at_get (i := 1) rfl, _, rfl, p, _, dx, _, _, rfl, (s1 _ _ hi), T.cl_Bench, T.n_sums, bfl_sums, B.ds, _, rfl, dgetO (n := x) (.inl (s1 _ _ es)), _, rfl, ifF (by rw [hv2]; rfl) ⟨s1, rfl⟩⟩
      · have e1 : inV (.str (SS w0)) [.str "drop", .str "show"] = false := by rcases h0 with rfl | rfl | rfl | rfl | rfl | rfl | rfl | rfl | rfl <;> first | decide +kernel | exact absurd (Or.inl rfl) hq | exact absurd (Or.inr rfl) hq
        refine ⟨_, rfl, _, _, _, _, rfl, rfl, hx, at_get (i := 0) rfl, sz2, fun u1 hu1 => ⟨_, _, rfl, .inr (SqT.of upd_same), rfl, rfl, _, rfl, ifF (by rw [if_neg (by simp)]; exact e1) ?_⟩⟩
        exact ⟨same_new hu1, rfl⟩
    · rintro σ' H1 ⟨s1, rfl⟩
      refine ⟨_, rfl, a, w0, r, rfl, s1.seq hx, h0, hws, fun b H2 s2 hb => ?_⟩
      have s12 := s1.trans s2
      refine ⟨b, rfl, ⟨_, hb⟩, for_it (walk_list (xs := wV (namesF (w0 :: r)))) (fun i σ H' => Same H2 H' ∧ ∃ v2, σ = [some (.ref p), some (.ref a), v2, none]) ⟨Same.refl _, none, rfl⟩ (fun i σ H' _ e => e.1.seq hb) ?_ ?_⟩
      · rintro i x σ H' H'' hi2 ⟨s3, v2, rfl⟩ ⟨rfl, hxi⟩
        obtain ⟨n, hn, rfl⟩ : ∃ n, (namesF (w0 :: r))[i]? = some n ∧ x = .str (SS n) := by
          simp only [wV, List.getElem?_map, Option.map_eq_some_iff] at hxi
          obtain ⟨z, ⟨n, hn, rfl⟩, rfl⟩ := hxi
          exact ⟨n, hn, rfl⟩
        have s := s12.trans s3
        obtain ⟨e, he⟩ := Option.isSome_iff_exists.mp (hns n (List.mem_of_getElem? hn))
        obtain ⟨_, v, hv, _⟩ := valV_some tbE_key hkt he
        refine ⟨_, rfl, _, rfl, p, _, dx, _, _, rfl, s _ _ hi, T.cl_Bench, T.n_tables, bfl_tables, B.dt, _, rfl, dgetO (n := n) (.inl (s _ _ et)), _, rfl, ifF (by rw [hv]; rfl) ?_⟩
        exact ⟨s3, _, rfl⟩
      · rintro σ H3 ⟨s3, v2, rfl⟩
        have s13 := s12.trans s3
        refine ⟨_, rfl, a, w0, r, rfl, s13.seq hx, h0, hwm, fun b2 H4 s4 hb2 => ?_⟩
        have s14 := s13.trans s4
        refine ⟨b2, rfl, ⟨_, hb2⟩, for_it (walk_list (xs := wV (signsF (w0 :: r)))) (fun i σ H' => Same H4 H' ∧ ∃ v2, σ = [some (.ref p), some (.ref a), v2, none]) ⟨Same.refl _, v2, rfl⟩ (fun i σ H' _ e => e.1.seq hb2) ?_ ?_⟩
        · rintro i x σ H' H'' hi2 ⟨s5, v2, rfl⟩ ⟨rfl, hxi⟩
          obtain ⟨n, hn, rfl⟩ : ∃ n, (signsF (w0 :: r))[i]? = some n ∧ x = .str (SS n) := by
            simp only [wV, List.getElem?_map, Option.map_eq_some_iff] at hxi
            obtain ⟨z, ⟨n, hn, rfl⟩, rfl⟩ := hxi
            exact ⟨n, hn, rfl⟩
          have s := s14.trans s5
          obtain ⟨e, he⟩ := Option.isSome_iff_exists.mp (hss n (List.mem_of_getElem? hn))
          obtain ⟨_, v, hv, _⟩ := valV_some smE_key hks he
          refine ⟨_, rfl, _, rfl, p, _, dx, _, _, rfl, s _ _ hi, T.cl_Bench, T.n_sums, bfl_sums, B.ds, _, rfl, dgetO (n := n) (.inl (s _ _ es)), _, rfl, ifF (by rw [hv]; rfl) ?_⟩
          exact ⟨s5, _, rfl⟩
        · rintro σ H5 ⟨s5, v2, rfl⟩
          have s15 := s14.trans s5
          refine ⟨_, rfl, a, w0, r, rfl, s15.seq hx, h0, hwm, fun b3 H6 s6 hb3 => ?_⟩
          have s16 := s15.trans s6
          refine ⟨b3, rfl, ⟨_, hb3⟩, fun D hD => lc_rel (Rl := fun _ v (z : Str) => v = .str z) (fun _ _ _ _ _ q => q) (walk_list (xs := wV (twoF (w0 :: r)))) yat_same (fun _ e => e.seq hb3) hD (by rw [wV_len, hk]; omega) (fun _ => SS nm) ?_ ?_⟩
          · rintro i x H' H'' R Pn hi2 s7 ⟨rfl, hxi⟩ hR
            obtain ⟨n, hn, rfl⟩ : ∃ n, (twoF (w0 :: r))[i]? = some n ∧ x = .str (SS n) := by
              simp only [wV, List.getElem?_map, Option.map_eq_some_iff] at hxi
              obtain ⟨z, ⟨n, hn, rfl⟩, rfl⟩ := hxi
              exact ⟨n, hn, rfl⟩
            have s := s16.trans s7
            obtain ⟨e, he, hnm⟩ := htw n (List.mem_of_getElem? hn)
            obtain ⟨_, v, hv, _, _, y, c, ev, hy, _⟩ := valV_some smE_key hks he
            have ev : v = .ref y := ev
            subst ev
            refine ⟨rfl, yesR ?_⟩
            refine ⟨_, rfl, p, _, dx, _, _, rfl, s _ _ hi, T.cl_Bench, T.n_sums, bfl_sums, _, rfl, B.ds, _, rfl, dgetS (.inl (s _ _ es)) hv, _, _, _, _, rfl, rfl, Same.sqT (hB.sm.trans s) hy, rfl, hR _ _ (Same.refl _) ?_⟩
            rw [hnm]
          · intro H7 ys s7 h7 hq
            have eys : ys = List.replicate k (.str (SS nm)) := by
              have hlen := Paired.length hq
              rw [List.length_map, List.length_range, wV_len, hk] at hlen
              refine List.eq_replicate_iff.mpr ⟨hlen, fun y hy => ?_⟩
              obtain ⟨j, hj⟩ := List.getElem?_of_mem hy
              obtain ⟨z, hz, e⟩ := paired_get hq hj
              simp only [List.getElem?_map, Option.map_eq_some_iff] at hz
              obtain ⟨_, _, rfl⟩ := hz
              exact e
            subst eys
            have ec : cutV (List.replicate k (V.str (SS nm))) none (some 1) = (List.replicate k (V.str (SS nm))).take 1 := cutV_to _ 1
            refine ⟨_, rfl, _, rfl, _, rfl, D, _, rfl, SqL.of h7, fun q1 hq1 => ?_⟩
            rw [ec]
            have s8 := same_new (o := .lst ((List.replicate k (V.str (SS nm))).take 1)) hq1
            have h8 : (upd H7 q1 (.lst ((List.replicate k (V.str (SS nm))).take 1))) q1 = some (.lst ((List.replicate k (V.str (SS nm))).take 1)) := upd_same
            generalize upd H7 q1 (.lst ((List.replicate k (V.str (SS nm))).take 1)) = H8 at s8 h8 ⊢
            refine ⟨_, rfl, _, _, rfl, .inl (SqL.of (s8 _ _ h7)), q1, _, _, rfl, rfl, h8, by omega, by rw [List.length_replicate]; omega, szk ?_, fun q2 hq2 => ?_⟩
            · have h1 := List.length_take_le 1 (List.replicate k (V.str (SS nm)))
              simp only [List.length_replicate, Int.toNat_natCast]
              calc _ ≤ 1 * k := Nat.mul_le_mul_right k h1
                _ ≤ _ := by omega
            · have efl : (List.replicate ((List.replicate k (V.str (SS nm))).length : Int).toNat ((List.replicate k (V.str (SS nm))).take 1)).flatten = List.replicate k (V.str (SS nm)) := by
                rw [List.length_replicate, Int.toNat_natCast]
                match k, hk2 with
                | 0, _ => rfl
                | 1, _ => rfl
                | 2, _ => rfl
              rw [efl]
              have s9 := s8.trans (same_new (o := .lst (List.replicate k (V.str (SS nm)))) hq2)
              refine ⟨_, _, dp_reps (SqL.of (s9 _ _ h7)), dp_reps (SqL.of upd_same), shaped_rep hok hk2, shaped_rep hok hk2, _, rfl, ifF (by rw [eqv_rep hk2]; rfl) ?_⟩
              exact k' _ ((s16.trans s7).trans s9)
end
end Sw

/-! ## G17 -/
namespace Sw
open PySem PySem.Spec PyProof.Rows L2
open C8 (Cal Met Mak pe_c pe_mk pe_mt pe_mt0 pe_gc)
section
variable {P : Program} {w : World} {K : PySem.W.Frag} {mg : Str → Option Value} {base : Heap}
abbrev N_Bench_made : List Str := ["self", "words", "line", "table", "name", "one", "other", "number"]
abbrev s_Bench_made : Stmt := sBenchMade
theorem sc_Bench_made : FnScope N_Bench_made ["self", "words", "line"] (defScope s_Bench_made) := ⟨rfl, rfl, rfl, by decide +kernel, rfl, by decide +kernel, by decide +kernel⟩
def sp_Bench_made (K : PySem.W.Frag) : Sp := fun vs H Q _ => ∃ (p a : Addr) (ws : List (List Nat)) (L nm : List Nat) (t : Int) (o : Option Int) (G : Hp) (B : Bn), vs = [.ref p, .ref a, .str (SS L)] ∧ SqL K H a (wV ws) ∧ BR K G H p B ∧ SOk t o ∧ ((∃ sg parts c l, ws = WS :: sg :: nm :: parts ∧ L = (WS ++ [32] ++ sg ++ [32] ++ nm ++ [32]) ++ sumL t o ∧ L.length ≤ 1000 ∧ getE B.ts nm = some (nm, c, l)) ∨ ∃ sg one c l, ws = [WM, sg, one, [48], one] ∧ getE B.ss one = some (one, nm, t, o) ∧ getE B.ts nm = some (nm, c, l)) ∧ ∀ x y H', Same H H' → SqT K H' x [.str (SS nm), .ref y] → SuR K H' y (sumK t o) → H y = none → Q (.ref x) H'
theorem ok_Bench_made (T : Tx w K mg) (c_read_sum : Cal P w K mg base 4 "read_sum" (sp_read_sum K) []) (c_risen : Cal P w K mg base 5 "risen" (sp_risen K) []) (c_number_in : Cal P w K mg base 3 "number_in" (sp_number_in K) []) (c_mixed : Cal P w K mg base 5 "mixed" (sp_mixed K) []) : Met P w K mg base 6 (He.ga K "Bench") "made" (sp_Bench_made K) [] := by
  obtain ⟨fd, F, b⟩ := T.F_Bench_made
  refine ⟨_, fd, _, [], T.cl_Bench, T.me_Bench_made, F.ok sc_Bench_made (fun vs H Q E h => ?_) (fun cdv A outer s H vs Q E hr h => ?_), b, .nil⟩
  · obtain ⟨p, a, ws, L, nm, t, o, G, B, rfl, _⟩ := h
    rfl
  · obtain ⟨p, a, ws, L, nm, t, o, G, B, rfl, hx, hB, hO, hw, k⟩ := h
    have hu := hu_of hr
    have nd := sc_Bench_made.nd
    refine ⟨_, (pss_cons (ps_if (pt_cmpR op_eq (pe_ix ix_list (pv 1) pe_int (fun _ _ => rfl)) pe_str (nomark _)) (pss_cons (ps_set (i := 3) nd rfl (.inl rfl) (pe_dget hu (pe_fld (pv 0) rfl) (pe_ix ix_list (pv 1) pe_int (fun _ _ => rfl)) (fun _ _ => rfl)))
      (pss_one (ps_ret (pe_tup (pa_cons (pe_ix ix_list (pv 1) pe_int (fun _ _ => rfl)) (pa_cons (pe_c c_risen hr (by decide) rfl (pa_cons (pv 3) (pa_cons (pe_c c_read_sum hr (by decide) rfl (pa_cons (pe_slice C8.sl_txt (pv 2) (po_some (pe_op op_add (pe_op op_add pe_int (pe_callB call_len_str rfl T.m_len (by decide +kernel) (pa_cons (pe_ix ix_list (pv 1) pe_int (fun _ _ => rfl)) pa_nil))) (pe_callB call_len_str rfl T.m_len (by decide +kernel) (pa_cons (pe_ix ix_list (pv 1) pe_int (fun _ _ => rfl)) pa_nil)))) po_none) (pa_cons (pe_fld (pv 3) rfl) pa_nil))) pa_nil))) pa_nil)))))) pss_nil)
      (pss_cons (ps_asg (pe_dget hu (pe_fld (pv 0) rfl) (pe_ix ix_list (pv 1) pe_int (fun _ _ => rfl)) (fun _ _ => rfl)) (pg_tup rfl (pgs_cons (pg_name (i := 4) nd rfl (.inl rfl)) (pgs_cons (pg_name (i := 5) nd rfl (.inl rfl)) pgs_nil))))
      (pss_cons (ps_set (i := 3) nd rfl (.inl rfl) (pe_dget hu (pe_fld (pv 0) rfl) (pv 4) (fun _ _ => rfl)))
      (pss_cons (ps_if (pt_cmpR op_eq (pe_ix ix_list (pv 1) pe_int (fun _ _ => rfl)) pe_str (nomark _)) (pss_one ps_never) pss_nil)
      (pss_cons (ps_if (pt_cmpR op_eq (pe_ix ix_list (pv 1) pe_int (fun _ _ => rfl)) pe_str (nomark _)) (pss_one ps_never) pss_nil)
      (pss_cons (ps_if (pt_cmpR op_eq (pe_ix ix_list (pv 1) pe_int (fun _ _ => rfl)) pe_str (nomark _)) (pss_one ps_never) pss_nil)
      (pss_cons (ps_set (i := 6) nd rfl (.inl rfl) (pe_ix ix_tup (pe_dget hu (pe_fld (pv 0) rfl) (pe_ix ix_list (pv 1) (pe_un un_neg pe_int) (fun _ _ => rfl)) (fun _ _ => rfl)) pe_int (fun _ _ => rfl)))
      (pss_cons (ps_if (pt_cmpR op_eq (pe_ix ix_list (pv 1) pe_int (fun _ _ => rfl)) pe_str (nomark _)) (pss_one ps_never) pss_nil)
      (pss_cons (ps_if (pt_cmpR op_eq (pe_ix ix_list (pv 1) pe_int (fun _ _ => rfl)) pe_str (nomark _)) (pss_one ps_never) pss_nil)
      (pss_cons (ps_set (i := 7) nd rfl (.inl rfl) (pe_c c_number_in hr (by decide) rfl (pa_cons (pe_ix ix_list (pv 1) pe_int (fun _ _ => rfl)) pa_nil)))
      (pss_cons (ps_if (pt_cmpR op_isN (pv 7) pe_non (nomark _)) (pss_one ps_never) pss_nil)
      (pss_one (ps_ret (pe_tup (pa_cons (pv 4) (pa_cons (pe_c c_mixed hr (by decide) rfl (pa_cons (pv 5) (pa_cons (pv 7) (pa_cons (pv 6) pa_nil)))) pa_nil)))))))))))))))), ?_⟩
    obtain ⟨dx, hi⟩ := hB.ins
    obtain ⟨_, kt, et, hkt⟩ := hB.dt
    obtain ⟨_, ks, es, hks⟩ := hB.ds
    obtain ⟨ht1, ht2, hod⟩ := id hO
    rcases hw with ⟨sg, parts, c, l, rfl, rfl, hLl, hgt⟩ | ⟨sg, one, c, l, rfl, hgs, hgt⟩
    · obtain ⟨_, v, hv, _, hLO, tb, ev, hT⟩ := valV_some tbE_key hkt hgt
      have ev : v = .ref tb := ev
      subst ev
      have hT : TbF K H tb c l := TbF.same hT hB.sm
      obtain ⟨hc1, hc3, _⟩ : LOk c l := hLO
      obtain ⟨dxt, la, ra, hta, _⟩ := id hT
      have hsl : Txt.slice (SS ((WS ++ [32] ++ sg ++ [32] ++ nm ++ [32]) ++ sumL t o)) (some ((6 : Int) + (SS sg).length + (SS nm).length)) none = SS (sumL t o) := SX.from_app _ _ (by rw [len_S, len_S]; simp; omega)
      have hl1 : sg.length ≤ 1000 := by simp at hLl; omega
      have hl2 : nm.length ≤ 1000 := by simp at hLl; omega
      refine ⟨_, rfl, _, _, _, _, rfl, rfl, hx, at_get (i := 0) rfl, rfl, _, rfl, ifT (by decide +kernel) ?_⟩
      refine ⟨_, rfl, p, _, dx, _, _, rfl, hi, T.cl_Bench, T.n_tables, bfl_tables, _, rfl, _, _, _, _, rfl, rfl, hx, at_get (i := 2) rfl, _, _, rfl, dgetS (.inl et) hv, ?_⟩
      refine ⟨_, rfl, _, _, _, _, rfl, rfl, hx, at_get (i := 2) rfl, _, rfl, _, rfl, _, rfl, _, _, _, _, rfl, rfl, hx, at_get (i := 1) rfl, _, rfl, szk (by rw [len_S]; omega), _, _, rfl, rfl, _, rfl, _, _, _, _, rfl, rfl, hx, at_get (i := 2) rfl, _, rfl, szk (by rw [len_S]; omega), _, _, rfl, rfl, _, rfl, _, rfl, szk (by rw [len_S]; omega), _, rfl, tb, _, dxt, _, _, rfl, hta, T.cl_Table, T.n_count, tfl_count, c, t, o, (by rw [hsl]; rfl), hO, hc1, by omega, fun b H1 s1 hb hS => ?_⟩
      refine ⟨tb, b, c, l, t, o, rfl, hT.same s1, hS, by omega, (fun d e => by have := hod d e; omega), hc1, fun y H2 s2 hy hS2 => ?_⟩
      refine ⟨sz2, fun x hx2 => ?_⟩
      exact k x y _ ((s1.trans s2).trans (same_new hx2)) (SqT.of upd_same) (hS2.same (same_new hx2)) (s1.free hy)
    · obtain ⟨_, v, hv, _, hSO, x1, y1, ev, hX, hY⟩ := valV_some smE_key hks hgs
      have ev : v = .ref x1 := ev
      subst ev
      have hX : SqT K H x1 [.str (SS nm), .ref y1] := Same.sqT hB.sm hX
      have hY : SuR K H y1 (sumK t o) := hY.same hB.sm
      obtain ⟨_, v2, hv2, _⟩ := valV_some tbE_key hkt hgt
      refine ⟨_, rfl, _, _, _, _, rfl, rfl, hx, at_get (i := 0) rfl, rfl, _, rfl, ifF (by decide +kernel) ?_⟩
      refine ⟨_, rfl, p, _, dx, _, _, rfl, hi, T.cl_Bench, T.n_sums, bfl_sums, _, rfl, _, _, _, _, rfl, rfl, hx, at_get (i := 2) rfl, _, _, rfl, dgetS (.inl es) hv, x1, _, rfl, hX, rfl, _, _, rfl, _, _, rfl, rfl, ?_⟩
      refine ⟨_, rfl, p, _, dx, _, _, rfl, hi, T.cl_Bench, T.n_tables, bfl_tables, _, rfl, _, _, rfl, dgetS (.inl et) hv2, ?_⟩
      refine ⟨_, rfl, _, _, _, _, rfl, rfl, hx, at_get (i := 0) rfl, rfl, _, rfl, ifF (by decide +kernel) ?_⟩
      refine ⟨_, rfl, _, _, _, _, rfl, rfl, hx, at_get (i := 0) rfl, rfl, _, rfl, ifF (by decide +kernel) ?_⟩
      refine ⟨_, rfl, _, _, _, _, rfl, rfl, hx, at_get (i := 0) rfl, rfl, _, rfl, ifF (by decide +kernel) ?_⟩
      refine ⟨_, rfl, p, _, dx, _, _, rfl, hi, T.cl_Bench, T.n_sums, bfl_sums, _, rfl, _, rfl, _, _, _, _, rfl, rfl, hx, rfl, _, _, rfl, dgetS (.inl es) hv, _, _, _, _, rfl, rfl, hX, rfl, ?_⟩
      refine ⟨_, rfl, _, _, _, _, rfl, rfl, hx, at_get (i := 0) rfl, rfl, _, rfl, ifF (by decide +kernel) ?_⟩
      refine ⟨_, rfl, _, _, _, _, rfl, rfl, hx, at_get (i := 0) rfl, rfl, _, rfl, ifF (by decide +kernel) ?_⟩
      refine ⟨_, rfl, _, _, _, _, rfl, rfl, hx, at_get (i := 3) rfl, 0, (by rw [show numZ 0 = [48] by decide +kernel]; rfl), by decide, fun nv H1 s1 hN => ?_⟩
      obtain ⟨na, rfl, hna⟩ := id hN
      refine ⟨_, rfl, rfl, _, rfl, ifF rfl ?_⟩
      refine ⟨_, rfl, _, rfl, _, rfl, _, rfl, y1, y1, _, t, o, rfl, hY.same s1, hY.same s1, hN, hO, fun y H2 s2 hy hS2 => ?_⟩
      refine ⟨sz2, fun x hx2 => ?_⟩
      exact k x y _ ((s1.trans s2).trans (same_new hx2)) (SqT.of upd_same) (hS2.same (same_new hx2)) (s1.free hy)
abbrev N_Bench_answer : List Str := ["self", "words", "name", "one", "table"]
abbrev s_Bench_answer : Stmt := sBenchAnswer
theorem sc_Bench_answer : FnScope N_Bench_answer ["self", "words"] (defScope s_Bench_answer) := ⟨rfl, rfl, rfl, by decide +kernel, rfl, by decide +kernel, by decide +kernel⟩
def sp_Bench_answer (K : PySem.W.Frag) : Sp := fun vs H Q _ => ∃ (p a : Addr) (ws : List (List Nat)) (G : Hp) (B : Bn), vs = [.ref p, .ref a] ∧ SqL K H a (wV ws) ∧ BR K G H p B ∧ ((ws = [WA] ∧ B.ts.length < 64 ∧ B.ss.length < 64 ∧ (∀ e ∈ B.ts, e.1.length ≤ 8) ∧ (∀ e ∈ B.ss, e.1.length ≤ 8) ∧ ∀ ys zs H', Same H H' → ys.Perm (B.ts.map fun e => SS e.1) → sortedS ys = true → zs.Perm (B.ss.map fun e => SS e.1) → sortedS zs = true → Q (.str (Txt.join (SS [32]) (ys ++ zs))) H') ∨ (∃ n c l, ws = [WH, n] ∧ getE B.ts n = some (n, c, l) ∧ ∀ H', Same H H' → Q (.str (SS (tabL c l))) H') ∨ (∃ s nm t o, ws = [WH, s] ∧ getE B.ts s = none ∧ getE B.ss s = some (s, nm, t, o) ∧ ∀ H', Same H H' → Q (.str (SS (sumL t o))) H') ∨ (∃ n c l, ws = [WR, n] ∧ getE B.ts n = some (n, c, l) ∧ ∀ H', Same H H' → Q (.str (SS [107, 101, 101, 112, 115])) H') ∨ ∃ s nm t o, ws = [WO, s] ∧ getE B.ss s = some (s, nm, t, o) ∧ ∀ H', Same H H' → Q (.str (SS nm)) H')
theorem ok_Bench_answer (T : Tx w K mg) (c_table_text : Cal P w K mg base 3 "table_text" (sp_table_text K) []) (c_rule_text : Cal P w K mg base 2 "rule_text" (sp_rule_text K) []) (c_sum_text : Cal P w K mg base 2 "sum_text" (sp_sum_text K) []) : Met P w K mg base 4 (He.ga K "Bench") "answer" (sp_Bench_answer K) [] := by
  obtain ⟨fd, F, b⟩ := T.F_Bench_answer
  refine ⟨_, fd, _, [], T.cl_Bench, T.me_Bench_answer, F.ok sc_Bench_answer (fun vs H Q E h => ?_) (fun cdv A outer s H vs Q E hr h => ?_), b, .nil⟩
  · obtain ⟨p, a, ws, G, B, rfl, _⟩ := h
    rfl
  · obtain ⟨p, a, ws, G, B, rfl, hx, hB, hw⟩ := h
    have hu := hu_of hr
    have nd := sc_Bench_answer.nd
    refine ⟨_, (pss_cons (ps_if (pt_cmpR op_eq (pe_ix ix_list (pv 1) pe_int (fun _ _ => rfl)) pe_str (nomark _)) (pss_one (ps_ret (pe_join pe_str (pe_op op_cat (pe_callB cr_sortedS rfl T.m_sorted (by decide +kernel) (pa_cons (pe_callTy (call_listD rfl) rfl T.m_list (by decide +kernel) (pa_cons (pe_fld (pv 0) rfl) pa_nil)) pa_nil)) (pe_callB cr_sortedS rfl T.m_sorted (by decide +kernel) (pa_cons (pe_callTy (call_listD rfl) rfl T.m_list (by decide +kernel) (pa_cons (pe_fld (pv 0) rfl) pa_nil)) pa_nil)))))) pss_nil)
      (pss_cons (ps_if (PW.pt (pw_and (pt_cmpR op_eq (pe_ix ix_list (pv 1) pe_int (fun _ _ => rfl)) pe_str (nomark _)) (pw_and1 (pt_cmp (pc_din hu (pe_ix ix_list (pv 1) pe_int (fun _ _ => rfl)) (pe_fld (pv 0) rfl)) rfl)))) (pss_one (ps_ret (pe_c c_table_text hr (by decide) rfl (pa_cons (pe_dget hu (pe_fld (pv 0) rfl) (pe_ix ix_list (pv 1) pe_int (fun _ _ => rfl)) (fun _ _ => rfl)) pa_nil)))) pss_nil)
      (pss_cons (ps_if (pt_cmpR op_eq (pe_ix ix_list (pv 1) pe_int (fun _ _ => rfl)) pe_str (nomark _)) (pss_one (ps_ret (pe_c c_rule_text hr (by decide) rfl (pa_cons (pe_dget hu (pe_fld (pv 0) rfl) (pe_ix ix_list (pv 1) pe_int (fun _ _ => rfl)) (fun _ _ => rfl)) pa_nil)))) pss_nil)
      (pss_cons (ps_asg (pe_dget hu (pe_fld (pv 0) rfl) (pe_ix ix_list (pv 1) pe_int (fun _ _ => rfl)) (fun _ _ => rfl)) (pg_tup rfl (pgs_cons (pg_name (i := 2) nd rfl (.inl rfl)) (pgs_cons (pg_name (i := 3) nd rfl (.inl rfl)) pgs_nil))))
      (pss_cons (ps_if (pt_cmpR op_eq (pe_ix ix_list (pv 1) pe_int (fun _ _ => rfl)) pe_str (nomark _)) (pss_one (ps_ret (pe_c c_sum_text hr (by decide) rfl (pa_cons (pv 3) pa_nil)))) pss_nil)
      (pss_cons (ps_if (pt_cmpR op_eq (pe_ix ix_list (pv 1) pe_int (fun _ _ => rfl)) pe_str (nomark _)) (pss_one (ps_ret (pv 2))) pss_nil)
      (pss_cons ps_never
      (pss_cons ps_never
      (pss_one ps_never))))))))), ?_⟩
    obtain ⟨dx, hi⟩ := hB.ins
    obtain ⟨_, kt, et, hkt⟩ := hB.dt
    obtain ⟨_, ks, es, hks⟩ := hB.ds
    rcases hw with ⟨rfl, ht6, hs6, htl, hsl, k⟩ | ⟨n, c, l, rfl, hg, k⟩ | ⟨sg, nm, t, o, rfl, hg0, hg, k⟩ | ⟨n, c, l, rfl, hg, k⟩ | ⟨sg, nm, t, o, rfl, hg, k⟩
    · refine ⟨_, rfl, _, _, _, _, rfl, rfl, hx, at_get (i := 0) rfl, rfl, _, rfl, ifT (by decide +kernel) ?_⟩
      have ekt : kt.map (fun kv => kV kv.1) = (B.ts.map fun e => SS e.1).map V.str := by
        have e := congrArg (List.map kV) (keys_rel tbE_key hkt)
        rw [List.map_map, List.map_map, List.map_map] at e
        rw [List.map_map]
        exact e
      have eks : ks.map (fun kv => kV kv.1) = (B.ss.map fun e => SS e.1).map V.str := by
        have e := congrArg (List.map kV) (keys_rel smE_key hks)
        rw [List.map_map, List.map_map, List.map_map] at e
        rw [List.map_map]
        exact e
      refine ⟨⟨_, rfl⟩, _, rfl, p, _, dx, _, _, rfl, hi, T.cl_Bench, T.n_tables, bfl_tables, _, _, rfl, .inl et, fun p1 hp1 => ?_⟩
      rw [ekt]
      have s1 := same_new (o := .lst ((B.ts.map fun e => SS e.1).map V.str)) hp1
      refine ⟨p1, B.ts.map fun e => SS e.1, rfl, SqL.of upd_same, by rw [List.length_map]; exact ht6, fun ys p2 hy1 hy2 hp2 => ?_⟩
      have s2 := s1.trans (same_new (o := .lst (ys.map V.str)) hp2)
      have h2 : (upd (upd H p1 (.lst ((B.ts.map fun e => SS e.1).map V.str))) p2 (.lst (ys.map V.str))) p2 = some (.lst (ys.map V.str)) := upd_same
      generalize upd (upd H p1 (.lst ((B.ts.map fun e => SS e.1).map V.str))) p2 (.lst (ys.map V.str)) = H2 at s2 h2 ⊢
      refine ⟨_, rfl, p, _, dx, _, _, rfl, (s2 _ _ hi), T.cl_Bench, T.n_sums, bfl_sums, _, _, rfl, .inl (s2 _ _ es), fun p3 hp3 => ?_⟩
      rw [eks]
      have s3 := s2.trans (same_new (o := .lst ((B.ss.map fun e => SS e.1).map V.str)) hp3)
      have h3 := same_new (o := .lst ((B.ss.map fun e => SS e.1).map V.str)) hp3 _ _ h2
      refine ⟨p3, B.ss.map fun e => SS e.1, rfl, SqL.of upd_same, by rw [List.length_map]; exact hs6, fun zs p4 hz1 hz2 hp4 => ?_⟩
      have s4 := s3.trans (same_new (o := .lst (zs.map V.str)) hp4)
      have h4 := same_new (o := .lst (zs.map V.str)) hp4 _ _ h3
      have g4 : (upd (upd H2 p3 (.lst ((B.ss.map fun e => SS e.1).map V.str))) p4 (.lst (zs.map V.str))) p4 = some (.lst (zs.map V.str)) := upd_same
      generalize upd (upd H2 p3 (.lst ((B.ss.map fun e => SS e.1).map V.str))) p4 (.lst (zs.map V.str)) = H4 at s4 h4 g4 ⊢
      have ly : ys.length < 64 := by rw [hy1.length_eq, List.length_map]; exact ht6
      have lz : zs.length < 64 := by rw [hz1.length_eq, List.length_map]; exact hs6
      refine ⟨p2, p4, ys.map V.str, zs.map V.str, rfl, rfl, h4, g4, szk (by rw [List.length_map, List.length_map]; omega), fun p5 hp5 => ?_⟩
      rw [← List.map_append]
      refine ⟨_, p5, ys ++ zs, rfl, rfl, .inl (SqL.of upd_same), ?_, ?_⟩
      · have b1 := sum_short (ys := ys) (m := 8) fun y hy => by
          obtain ⟨e, he, rfl⟩ := List.mem_map.mp (hy1.mem_iff.mp hy)
          rw [len_S]
          exact htl e he
        have b2 := sum_short (ys := zs) (m := 8) fun y hy => by
          obtain ⟨e, he, rfl⟩ := List.mem_map.mp (hz1.mem_iff.mp hy)
          rw [len_S]
          exact hsl e he
        rw [List.map_append, List.sum_append, List.length_append, l_blank, len_S]
        simp only [List.length_cons, List.length_nil]
        omega
      · rw [l_blank]
        exact k ys zs _ (s4.trans (same_new hp5)) hy1 hy2 hz1 hz2
    · obtain ⟨_, v, hv, _, hLO, tb, ev, hT⟩ := valV_some tbE_key hkt hg
      have ev : v = .ref tb := ev
      subst ev
      refine ⟨_, rfl, _, _, _, _, rfl, rfl, hx, at_get (i := 0) rfl, rfl, _, rfl, ifF (by decide +kernel) ?_⟩
      refine ⟨_, rfl, _, _, _, _, rfl, rfl, hx, at_get (i := 0) rfl, rfl, _, rfl, ifT (by decide +kernel) ?_⟩
      refine ⟨_, rfl, _, _, _, _, rfl, rfl, hx, at_get (i := 1) rfl, _, rfl, p, _, dx, _, _, rfl, hi, T.cl_Bench, T.n_tables, bfl_tables, _, _, rfl, dgetO (n := n) (.inl et), _, rfl, ifT (by rw [hv]; rfl) ?_⟩
      exact ⟨_, rfl, p, _, dx, _, _, rfl, hi, T.cl_Bench, T.n_tables, bfl_tables, _, rfl, _, _, _, _, rfl, rfl, hx, at_get (i := 1) rfl, _, _, rfl, dgetS (.inl et) hv, tb, c, l, rfl, TbF.same hT hB.sm, hLO, k⟩
    · obtain ⟨_, v, hv, _, hSO, x1, y1, ev, hX, hY⟩ := valV_some smE_key hks hg
      have ev : v = .ref x1 := ev
      subst ev
      have hv0 := valV_none tbE_key hkt hg0
      refine ⟨_, rfl, _, _, _, _, rfl, rfl, hx, at_get (i := 0) rfl, rfl, _, rfl, ifF (by decide +kernel) ?_⟩
      refine ⟨_, rfl, _, _, _, _, rfl, rfl, hx, at_get (i := 0) rfl, rfl, _, rfl, ifT (by decide +kernel) ?_⟩
      refine ⟨_, rfl, _, _, _, _, rfl, rfl, hx, at_get (i := 1) rfl, _, rfl, p, _, dx, _, _, rfl, hi, T.cl_Bench, T.n_tables, bfl_tables, _, _, rfl, dgetO (n := sg) (.inl et), _, rfl, ifF (by rw [hv0]; rfl) ?_⟩
      refine ⟨_, rfl, _, _, _, _, rfl, rfl, hx, at_get (i := 0) rfl, rfl, _, rfl, ifF (by decide +kernel) ?_⟩
      refine ⟨_, rfl, p, _, dx, _, _, rfl, hi, T.cl_Bench, T.n_sums, bfl_sums, _, rfl, _, _, _, _, rfl, rfl, hx, at_get (i := 1) rfl, _, _, rfl, dgetS (.inl es) hv, x1, _, rfl, Same.sqT hB.sm hX, rfl, _, _, rfl, _, _, rfl, rfl, ?_⟩
      refine ⟨_, rfl, _, _, _, _, rfl, rfl, hx, at_get (i := 0) rfl, rfl, _, rfl, ifT (by decide +kernel) ?_⟩
      exact ⟨_, rfl, y1, t, o, rfl, SuR.same hY hB.sm, hSO, k⟩
    · obtain ⟨_, v, hv, _, hLO, tb, ev, hT⟩ := valV_some tbE_key hkt hg
      have ev : v = .ref tb := ev
      subst ev
      refine ⟨_, rfl, _, _, _, _, rfl, rfl, hx, at_get (i := 0) rfl, rfl, _, rfl, ifF (by decide +kernel) ?_⟩
      refine ⟨_, rfl, _, _, _, _, rfl, rfl, hx, at_get (i := 0) rfl, rfl, _, rfl, ifF (by decide +kernel) ?_⟩
      refine ⟨_, rfl, _, _, _, _, rfl, rfl, hx, at_get (i := 0) rfl, rfl, _, rfl, ifT (by decide +kernel) ?_⟩
      exact ⟨_, rfl, p, _, dx, _, _, rfl, hi, T.cl_Bench, T.n_tables, bfl_tables, _, rfl, _, _, _, _, rfl, rfl, hx, at_get (i := 1) rfl, _, _, rfl, dgetS (.inl et) hv, tb, c, l, rfl, TbF.same hT hB.sm, k _ (Same.refl _)⟩
    · obtain ⟨_, v, hv, _, hSO, x1, y1, ev, hX, hY⟩ := valV_some smE_key hks hg
      have ev : v = .ref x1 := ev
      subst ev
      refine ⟨_, rfl, _, _, _, _, rfl, rfl, hx, at_get (i := 0) rfl, rfl, _, rfl, ifF (by decide +kernel) ?_⟩
      refine ⟨_, rfl, _, _, _, _, rfl, rfl, hx, at_get (i := 0) rfl, rfl, _, rfl, ifF (by decide +kernel) ?_⟩
      refine ⟨_, rfl, _, _, _, _, rfl, rfl, hx, at_get (i := 0) rfl, rfl, _, rfl, ifF (by decide +kernel) ?_⟩
      refine ⟨_, rfl, p, _, dx, _, _, rfl, hi, T.cl_Bench, T.n_sums, bfl_sums, _, rfl, _, _, _, _, rfl, rfl, hx, at_get (i := 1) rfl, _, _, rfl, dgetS (.inl es) hv, x1, _, rfl, Same.sqT hB.sm hX, rfl, _, _, rfl, _, _, rfl, rfl, ?_⟩
      refine ⟨_, rfl, _, _, _, _, rfl, rfl, hx, at_get (i := 0) rfl, rfl, _, rfl, ifF (by decide +kernel) ?_⟩
      refine ⟨_, rfl, _, _, _, _, rfl, rfl, hx, at_get (i := 0) rfl, rfl, _, rfl, ifT (by decide +kernel) ?_⟩
      exact ⟨_, rfl, k _ (Same.refl _)⟩
end
end Sw

/-! ## Rep6 -/
/-! what is told to a bench -/
namespace Sw
open PySem PySem.Spec PyProof.Rows L2
inductive Cm where
  | tb (n : List Nat) (c : Nat) (l : Option Int)
  | sm (sg nm : List Nat) (t : Int) (o : Option Int)
  | mx (sg one : List Nat)
  | dr (x : List Nat)
  | al
  | sh (x : List Nat)
  | ru (n : List Nat)
  | ofs (s : List Nat)
  | un
def tabW (c : Nat) : Option Int → List (List Nat)
  | none => [TL.numL c]
  | some d => [TL.numL c, [48, 44, 49, 61] ++ (numZ d ++ [42, 101])]
theorem tabW_join (c : Nat) (l : Option Int) : TL.joinL [32] (tabW c l) = tabL c l := by
  cases l <;> simp [tabW, tabL, leafL, TL.joinL]
theorem sumW_join (t : Int) (o : Option Int) : TL.joinL [32] ((sumK t o).map termL) = sumL t o := (sumL_terms t o).symm
def wsOf : Cm → List (List Nat)
  | .tb n c l => WT :: n :: tabW c l
  | .sm sg nm t o => WS :: sg :: nm :: (sumK t o).map termL
  | .mx sg one => [WM, sg, one, [48], one]
  | .dr x => [WD, x]
  | .al => [WA]
  | .sh x => [WH, x]
  | .ru n => [WR, n]
  | .ofs s => [WO, s]
  | .un => [WU]
def lineOf (c : Cm) : List Nat := TL.joinL [32] (wsOf c)
theorem joinL_cons {a : List Nat} {r : List (List Nat)} (h : r ≠ []) : TL.joinL [32] (a :: r) = a ++ ([32] ++ TL.joinL [32] r) := by
  cases r with
  | nil => exact absurd rfl h
  | cons b t => rfl
theorem line_tb {n : List Nat} {c : Nat} {l : Option Int} : lineOf (.tb n c l) = (WT ++ [32] ++ n ++ [32]) ++ tabL c l := by
  have h : tabW c l ≠ [] := by cases l <;> simp [tabW]
  unfold lineOf wsOf
  dsimp only
  rw [joinL_cons (by simp), joinL_cons h, tabW_join]
  simp
theorem line_sm {sg nm : List Nat} {t : Int} {o : Option Int} : lineOf (.sm sg nm t o) = (WS ++ [32] ++ sg ++ [32] ++ nm ++ [32]) ++ sumL t o := by
  have h : (sumK t o).map termL ≠ [] := by cases o <;> simp [sumK]
  unfold lineOf wsOf
  dsimp only
  rw [joinL_cons (by simp), joinL_cons (by simp), joinL_cons h, sumW_join]
  simp
def CmOk (B : Bn) : Cm → Prop
  | .tb n c l => NameOk n ∧ LOk c l
  | .sm sg nm t o => SignOk sg ∧ NameOk nm ∧ SOk t o ∧ ∃ c l, getE B.ts nm = some (nm, c, l)
  | .mx sg one => SignOk sg ∧ SignOk one ∧ ∃ nm t o c l, getE B.ss one = some (one, nm, t, o) ∧ NameOk nm ∧ SOk t o ∧ getE B.ts nm = some (nm, c, l)
  | .dr x => (NameOk x ∨ SignOk x) ∧ ((getE B.ts x).isSome = true ∨ (getE B.ts x = none ∧ (getE B.ss x).isSome = true))
  | .al => True
  | .sh x => (NameOk x ∨ SignOk x) ∧ ((∃ c l, getE B.ts x = some (x, c, l)) ∨ (getE B.ts x = none ∧ ∃ nm t o, getE B.ss x = some (x, nm, t, o)))
  | .ru n => NameOk n ∧ ∃ c l, getE B.ts n = some (n, c, l)
  | .ofs s => SignOk s ∧ ∃ nm t o, getE B.ss s = some (s, nm, t, o)
  | .un => True
def Small (B : Bn) : Prop := B.past.length ≤ 400 ∧ B.ts.length < 64 ∧ B.ss.length < 64 ∧ (∀ e ∈ B.ts, e.1.length ≤ 8) ∧ (∀ e ∈ B.ss, e.1.length ≤ 8)
/-- what follows -/
def TellK (K : PySem.W.Frag) (p : Addr) (G H : Hp) (B : Bn) (Q : VK) (E : XK) : Cm → Prop
  | .tb n c l => ∀ G' H' B' dt' ds', Nx K p G H B G' H' B' → B'.ts = putE B.ts (n, c, l) → B'.ss = (B.ss.filter fun e => decide (e.2.1 ≠ n)) → B'.past = B.past ++ [(WT, dt', ds', B.ts, B.ss)] → Q (.str (SS n)) H'
  | .sm sg nm t o => ∀ G' H' B' dt' ds', Nx K p G H B G' H' B' → B'.ts = B.ts → B'.ss = putE B.ss (sg, nm, t, o) → B'.past = B.past ++ [(WS, dt', ds', B.ts, B.ss)] → Q (.str (SS sg)) H'
  | .mx sg one => ∀ nm t o G' H' B' dt' ds', getE B.ss one = some (one, nm, t, o) → Nx K p G H B G' H' B' → B'.ts = B.ts → B'.ss = putE B.ss (sg, nm, t, o) → B'.past = B.past ++ [(WM, dt', ds', B.ts, B.ss)] → Q (.str (SS sg)) H'
  | .dr x => ∀ G' H' B' dt' ds', Nx K p G H B G' H' B' → (((getE B.ts x).isSome = true ∧ B'.ts = dropE B.ts x ∧ B'.ss = (B.ss.filter fun e => decide (e.2.1 ≠ x))) ∨ (getE B.ts x = none ∧ B'.ts = B.ts ∧ B'.ss = dropE B.ss x)) → B'.past = B.past ++ [(WD, dt', ds', B.ts, B.ss)] → Q (.str (SS x)) H'
  | .al => ∀ ys zs H', Same H H' → ys.Perm (B.ts.map fun e => SS e.1) → sortedS ys = true → zs.Perm (B.ss.map fun e => SS e.1) → sortedS zs = true → Q (.str (Txt.join (SS [32]) (ys ++ zs))) H'
  | .sh x => (∀ c l H', getE B.ts x = some (x, c, l) → Same H H' → Q (.str (SS (tabL c l))) H') ∧ ∀ nm t o H', getE B.ts x = none → getE B.ss x = some (x, nm, t, o) → Same H H' → Q (.str (SS (sumL t o))) H'
  | .ru n => ∀ H', Same H H' → Q (.str (SS [107, 101, 101, 112, 115])) H'
  | .ofs s => ∀ nm t o H', getE B.ss s = some (s, nm, t, o) → Same H H' → Q (.str (SS nm)) H'
  | .un => (B.past = [] → ∀ H', Same H H' → E (.ref (He.ga K "NoDeed")) none H') ∧ ∀ es e, B.past = es ++ [e] → ∀ H', Nx K p G H B G H' { B with dt := e.2.1, ds := e.2.2.1, ts := e.2.2.2.1, ss := e.2.2.2.2, past := es } → Q (.str (SS e.1)) H'
theorem name_w {n : List Nat} (h : NameOk n ∨ SignOk n) : (32 : Nat) ∉ n ∧ n ≠ [] ∧ n.length ≤ 8 := by
  rcases h with ⟨h1, h2, h3⟩ | ⟨h1, h2, h3⟩
  · exact ⟨fun hm => by have := h3 _ hm; omega, fun e => by rw [e] at h1; simp at h1, h2⟩
  · exact ⟨fun hm => by have := h3 _ hm; omega, fun e => by rw [e] at h1; simp at h1, h2⟩
theorem name_str {n : List Nat} (h : NameOk n) : PyData.canLay0 (.str (SS n)) = true := by
  show (SS n).cps.all (· < 0x110000) = true
  rw [← Array.all_toList, List.all_eq_true]
  intro c hc
  have := h.2.2 c hc
  simp
  omega
theorem cat_w {a b : List Nat} (h : (32 : Nat) ∉ a) (h2 : (32 : Nat) ∉ b) : (32 : Nat) ∉ a ++ b := fun hm => (List.mem_append.mp hm).elim h h2
theorem tabW_w {c : Nat} {l : Option Int} : ∀ w ∈ tabW c l, (32 : Nat) ∉ w ∧ w ≠ [] := by
  intro w hw
  cases l with
  | none =>
    rw [List.mem_singleton.mp hw]
    exact ⟨TL.numL_free (by decide), TL.numL_ne c⟩
  | some d =>
    simp only [tabW, List.mem_cons, List.not_mem_nil, or_false] at hw
    rcases hw with rfl | rfl
    · exact ⟨TL.numL_free (by decide), TL.numL_ne c⟩
    · exact ⟨cat_w (by decide) (cat_w (numZ_free (by decide) (by decide)) (by decide)), by simp⟩
theorem ws_ok {B : Bn} {c : Cm} (h : CmOk B c) : ∀ w ∈ wsOf c, (32 : Nat) ∉ w ∧ w ≠ [] := by
  intro w hw
  have nz : ∀ {n : List Nat}, NameOk n ∨ SignOk n → (32 : Nat) ∉ n ∧ n ≠ [] := fun hn => ⟨(name_w hn).1, (name_w hn).2.1⟩
  cases c with
  | tb n c l =>
    simp only [wsOf, List.mem_cons] at hw
    rcases hw with rfl | rfl | hw
    · decide
    · exact nz (.inl h.1)
    · exact tabW_w w hw
  | sm sg nm t o =>
    simp only [wsOf, List.mem_cons] at hw
    rcases hw with rfl | rfl | rfl | hw
    · decide
    · exact nz (.inr h.1)
    · exact nz (.inl h.2.1)
    · obtain ⟨y, _, rfl⟩ := List.mem_map.mp hw
      exact ⟨termL_free, by simp [termL]⟩
  | mx sg one =>
    simp only [wsOf, List.mem_cons, List.not_mem_nil, or_false] at hw
    rcases hw with rfl | rfl | rfl | rfl | rfl
    · decide
    · exact nz (.inr h.1)
    · exact nz (.inr h.2.1)
    · decide
    · exact nz (.inr h.2.1)
  | dr x =>
    simp only [wsOf, List.mem_cons, List.not_mem_nil, or_false] at hw
    rcases hw with rfl | rfl
    · decide
    · exact nz h.1
  | al =>
    rw [List.mem_singleton.mp hw]
    decide
  | sh x =>
    simp only [wsOf, List.mem_cons, List.not_mem_nil, or_false] at hw
    rcases hw with rfl | rfl
    · decide
    · exact nz h.1
  | ru x =>
    simp only [wsOf, List.mem_cons, List.not_mem_nil, or_false] at hw
    rcases hw with rfl | rfl
    · decide
    · exact nz (.inl h.1)
  | ofs x =>
    simp only [wsOf, List.mem_cons, List.not_mem_nil, or_false] at hw
    rcases hw with rfl | rfl
    · decide
    · exact nz (.inr h.1)
  | un =>
    rw [List.mem_singleton.mp hw]
    decide
theorem ws_split {B : Bn} {c : Cm} (h : CmOk B c) : Txt.split (SS (lineOf c)) (SS [32]) = (wsOf c).map SS := by
  rw [SX.split_S (by simp) (by decide)]
  unfold lineOf
  rw [SX.spl_join (by cases c <;> simp [wsOf]) (fun w hw => (ws_ok h w hw).1)]
theorem tab_len {c : Nat} {l : Option Int} (h : LOk c l) : (tabL c l).length ≤ 60 := by
  obtain ⟨h1, h3, hd⟩ := h
  have hcz : (TL.numL c).length ≤ 9 := numL_short (by omega)
  unfold tabL
  cases l with
  | none => simp [leafL]; omega
  | some d =>
    have := hd d rfl
    have h3 := numZ_short (n := d) (by omega)
    simp [leafL]
    omega
theorem sum_len {t : Int} {o : Option Int} (h : SOk t o) : (sumL t o).length ≤ 60 := by
  obtain ⟨h1, h2, hod⟩ := h
  have h1 := numZ_short (n := t) (by omega)
  unfold sumL
  cases o with
  | none => simp [tailL]; omega
  | some d =>
    have := hod d rfl
    have h3 := numZ_short (n := d) (by omega)
    simp [tailL]
    omega
theorem line_len {B : Bn} {c : Cm} (h : CmOk B c) : (lineOf c).length ≤ 500 := by
  have nz : ∀ {n : List Nat}, NameOk n ∨ SignOk n → n.length ≤ 8 := fun hn => (name_w hn).2.2
  cases c with
  | tb n c l =>
    have h1 := nz (.inl h.1)
    have h2 := tab_len h.2
    rw [line_tb]
    simp
    omega
  | sm sg nm t o =>
    have h1 := nz (.inr h.1)
    have h2 := nz (.inl h.2.1)
    have h3 := sum_len h.2.2.1
    rw [line_sm]
    simp
    omega
  | mx sg one =>
    have h1 := nz (.inr h.1)
    have h2 := nz (.inr h.2.1)
    simp [lineOf, wsOf, TL.joinL]
    omega
  | dr x =>
    have h1 := nz h.1
    simp [lineOf, wsOf, TL.joinL]
    omega
  | al => simp [lineOf, wsOf, TL.joinL]
  | sh x =>
    have h1 := nz h.1
    simp [lineOf, wsOf, TL.joinL]
    omega
  | ru x =>
    have h1 := nz (.inl h.1)
    simp [lineOf, wsOf, TL.joinL]
    omega
  | ofs x =>
    have h1 := nz (.inr h.1)
    simp [lineOf, wsOf, TL.joinL]
    omega
  | un => simp [lineOf, wsOf, TL.joinL]
/-- what the doors ask -/
structure Doors (B : Bn) (w0 : List Nat) (r : List (List Nat)) : Prop where
  line : (∃ n x r2, w0 :: r = WT :: n :: x :: r2 ∧ n ≠ []) ∨ (∃ s n x r2, w0 :: r = WS :: s :: n :: x :: r2 ∧ s ≠ [] ∧ n ≠ []) ∨ ∃ w1 r2 q, w0 :: r = w1 :: r2 ∧ w1 ≠ WT ∧ w1 ≠ WS ∧ [] ∉ w0 :: r ∧ q ∈ cvals ∧ q.1 = SS w1 ∧ q.2 = .int ((w0 :: r).length : Int)
  new : (∃ n r2, w0 :: r = WT :: n :: r2 ∧ NameOk n) ∨ (∃ w1 s r2, w0 :: r = w1 :: s :: r2 ∧ (w1 = WS ∨ w1 = WM) ∧ SignOk s) ∨ ∃ w1 r2, w0 :: r = w1 :: r2 ∧ (w1 = WD ∨ w1 = WA ∨ w1 = WH ∨ w1 = WR ∨ w1 = WO ∨ w1 = WU)
  f0 : w0 = WT ∨ w0 = WS ∨ w0 = WM ∨ w0 = WD ∨ w0 = WA ∨ w0 = WH ∨ w0 = WR ∨ w0 = WO ∨ w0 = WU
  m4 : w0 = WM → r.length = 4
  s2 : w0 = WS → 2 ≤ r.length
  dh : (w0 = WD ∨ w0 = WH) → ∃ x, r = [x] ∧ ((getE B.ts x).isSome = true ∨ (getE B.ss x).isSome = true)
  ns : ∀ n ∈ namesF (w0 :: r), (getE B.ts n).isSome = true
  gs : ∀ s ∈ signsF (w0 :: r), (getE B.ss s).isSome = true
  tw : ∃ k nm, (twoF (w0 :: r)).length = k ∧ k ≤ 2 ∧ (namesF (w0 :: r)).length ≤ 5 ∧ (signsF (w0 :: r)).length ≤ 5 ∧ PyData.canLay0 (.str (SS nm)) = true ∧ ∀ s ∈ twoF (w0 :: r), ∃ e, getE B.ss s = some e ∧ e.2.1 = nm
theorem doors {B : Bn} {c : Cm} (h : CmOk B c) : ∃ w0 r, wsOf c = w0 :: r ∧ Doors B w0 r := by
  have hok := ws_ok h
  have noE : ([] : List Nat) ∉ wsOf c := fun hm => (hok _ hm).2 rfl
  cases c with
  | tb n c l =>
    have hn := (name_w (.inl h.1)).2.1
    refine ⟨WT, n :: tabW c l, rfl, ⟨.inl ?_, .inl ⟨n, _, rfl, h.1⟩, by simp, fun z => absurd z (by decide), fun z => absurd z (by decide), fun z => absurd z (by decide), ?_, ?_, ?_⟩⟩
    · cases l with
      | none => exact ⟨n, _, [], rfl, hn⟩
      | some d => exact ⟨n, _, _, rfl, hn⟩
    · simp [namesF]
    · simp [signsF]
    · exact ⟨0, [], by simp [twoF], by decide, by simp [namesF], by simp [signsF], by decide +kernel, by simp [twoF]⟩
  | sm sg nm t o =>
    obtain ⟨h1, h2, h3, c, l, h4⟩ := h
    refine ⟨WS, sg :: nm :: (sumK t o).map termL, rfl, ⟨.inr (.inl ?_), .inr (.inl ⟨WS, sg, _, rfl, .inl rfl, h1⟩), by simp, fun z => absurd z (by decide), fun z => by simp, fun z => absurd z (by decide), ?_, ?_, ?_⟩⟩
    · cases o with
      | none => exact ⟨sg, nm, _, [], rfl, (name_w (.inr h1)).2.1, (name_w (.inl h2)).2.1⟩
      | some d => exact ⟨sg, nm, _, _, rfl, (name_w (.inr h1)).2.1, (name_w (.inl h2)).2.1⟩
    · rw [namesF_sum]
      intro n hn
      rw [List.mem_singleton.mp hn, h4]
      rfl
    · simp [signsF]
    · exact ⟨0, [], by simp [twoF], by decide, by rw [namesF_sum]; simp, by simp [signsF], by decide +kernel, by simp [twoF]⟩
  | mx sg one =>
    obtain ⟨h1, h2, nm, t, o, c, l, h3, h4, h5, h6⟩ := h
    refine ⟨WM, [sg, one, [48], one], rfl, ⟨.inr (.inr ⟨WM, _, ("mix", .int 5), rfl, by decide, by decide, noE, by simp [cvals], by decide +kernel, rfl⟩), .inr (.inl ⟨WM, sg, _, rfl, .inr rfl, h1⟩), by simp, fun _ => rfl, fun z => absurd z (by decide), fun z => absurd z (by decide), ?_, ?_, ?_⟩⟩
    · simp [namesF]
    · intro s hs
      have : s = one := by simpa [signsF] using hs
      rw [this, h3]
      rfl
    · refine ⟨2, nm, by simp [twoF], by decide, by simp [namesF], by simp [signsF], name_str h4, fun s hs => ?_⟩
      have : s = one := by simpa [twoF] using hs
      exact ⟨_, by rw [this]; exact h3, rfl⟩
  | dr x =>
    refine ⟨WD, [x], rfl, ⟨.inr (.inr ⟨WD, _, ("drop", .int 2), rfl, by decide, by decide, noE, by simp [cvals], by decide +kernel, rfl⟩), .inr (.inr ⟨WD, _, rfl, by simp⟩), by simp, fun z => absurd z (by decide), fun z => absurd z (by decide), fun z => ⟨x, rfl, ?_⟩, by simp [namesF], by simp [signsF], 0, [], by simp [twoF], by decide, by simp [namesF], by simp [signsF], by decide +kernel, by simp [twoF]⟩⟩
    rcases h.2 with z | z
    · exact .inl z
    · exact .inr z.2
  | al => exact ⟨WA, [], rfl, ⟨.inr (.inr ⟨WA, _, ("all", .int 1), rfl, by decide, by decide, noE, by simp [cvals], by decide +kernel, rfl⟩), .inr (.inr ⟨WA, _, rfl, by simp⟩), by simp, fun z => absurd z (by decide), fun z => absurd z (by decide), fun z => absurd z (by decide), by simp [namesF], by simp [signsF], 0, [], by simp [twoF], by decide, by simp [namesF], by simp [signsF], by decide +kernel, by simp [twoF]⟩⟩
  | sh x =>
    refine ⟨WH, [x], rfl, ⟨.inr (.inr ⟨WH, _, ("show", .int 2), rfl, by decide, by decide, noE, by simp [cvals], by decide +kernel, rfl⟩), .inr (.inr ⟨WH, _, rfl, by simp⟩), by simp, fun z => absurd z (by decide), fun z => absurd z (by decide), fun z => ⟨x, rfl, ?_⟩, by simp [namesF], by simp [signsF], 0, [], by simp [twoF], by decide, by simp [namesF], by simp [signsF], by decide +kernel, by simp [twoF]⟩⟩
    rcases h.2 with ⟨c, l, z⟩ | ⟨_, nm, t, o, z⟩
    · exact .inl (by rw [z]; rfl)
    · exact .inr (by rw [z]; rfl)
  | ru n =>
    obtain ⟨h1, c, l, h2⟩ := h
    refine ⟨WR, [n], rfl, ⟨.inr (.inr ⟨WR, _, ("rule", .int 2), rfl, by decide, by decide, noE, by simp [cvals], by decide +kernel, rfl⟩), .inr (.inr ⟨WR, _, rfl, by simp⟩), by simp, fun z => absurd z (by decide), fun z => absurd z (by decide), fun z => absurd z (by decide), ?_, by simp [signsF], 0, [], by simp [twoF], by decide, by rw [namesF_rule]; simp, by simp [signsF], by decide +kernel, by simp [twoF]⟩⟩
    intro m hm
    rw [namesF_rule] at hm
    rw [List.mem_singleton.mp hm, h2]
    rfl
  | ofs s =>
    obtain ⟨h1, nm, t, o, h2⟩ := h
    refine ⟨WO, [s], rfl, ⟨.inr (.inr ⟨WO, _, ("of", .int 2), rfl, by decide, by decide, noE, by simp [cvals], by decide +kernel, rfl⟩), .inr (.inr ⟨WO, _, rfl, by simp⟩), by simp, fun z => absurd z (by decide), fun z => absurd z (by decide), fun z => absurd z (by decide), by simp [namesF], ?_, 0, [], by simp [twoF], by decide, by simp [namesF], by rw [signsF_of]; simp, by decide +kernel, by simp [twoF]⟩⟩
    intro m hm
    rw [signsF_of] at hm
    rw [List.mem_singleton.mp hm, h2]
    rfl
  | un => exact ⟨WU, [], rfl, ⟨.inr (.inr ⟨WU, _, ("undo", .int 1), rfl, by decide, by decide, noE, by simp [cvals], by decide +kernel, rfl⟩), .inr (.inr ⟨WU, _, rfl, by simp⟩), by simp, fun z => absurd z (by decide), fun z => absurd z (by decide), fun z => absurd z (by decide), by simp [namesF], by simp [signsF], 0, [], by simp [twoF], by decide, by simp [namesF], by simp [signsF], by decide +kernel, by simp [twoF]⟩⟩
end Sw

/-! ## G18 -/
namespace Sw
open PySem PySem.Spec PyProof.Rows L2
open C8 (Cal Met Mak pe_c pe_mk pe_mt pe_mt0 pe_gc)
section
variable {P : Program} {w : World} {K : PySem.W.Frag} {mg : Str → Option Value} {base : Heap}
abbrev N_Bench_tell : List Str := ["self", "line", "words"]
abbrev s_Bench_tell : Stmt := sBenchTell
theorem sc_Bench_tell : FnScope N_Bench_tell ["self", "line"] (defScope s_Bench_tell) := ⟨rfl, rfl, rfl, by decide +kernel, rfl, by decide +kernel, by decide +kernel⟩
def sp_Bench_tell (K : PySem.W.Frag) : Sp := fun vs H Q E => ∃ (p : Addr) (c : Cm) (G : Hp) (B : Bn), vs = [.ref p, .str (SS (lineOf c))] ∧ BR K G H p B ∧ Small B ∧ CmOk B c ∧ TellK K p G H B Q E c
theorem ok_Bench_tell (T : Tx w K mg) (c_is_line : Cal P w K mg base 1 "is_line" (sp_is_line K) []) (c_look_new : Cal P w K mg base 2 "look_new" (sp_look_new K) []) (c_Bench_look_there : Met P w K mg base 3 (He.ga K "Bench") "look_there" (sp_Bench_look_there K) []) (c_Bench_taken_back : MetX P w K mg base 1 (He.ga K "Bench") "taken_back" (sp_Bench_taken_back K)) (c_Bench_put_table : Met P w K mg base 2 (He.ga K "Bench") "put_table" (sp_Bench_put_table K) []) (c_read_table : Cal P w K mg base 8 "read_table" (sp_read_table K) []) (c_Bench_put_sum : Met P w K mg base 2 (He.ga K "Bench") "put_sum" (sp_Bench_put_sum K) []) (c_Bench_made : Met P w K mg base 6 (He.ga K "Bench") "made" (sp_Bench_made K) []) (c_Bench_dropped : Met P w K mg base 2 (He.ga K "Bench") "dropped" (sp_Bench_dropped K) []) (c_Bench_answer : Met P w K mg base 4 (He.ga K "Bench") "answer" (sp_Bench_answer K) []) : MetX P w K mg base 9 (He.ga K "Bench") "tell" (sp_Bench_tell K) := by
  obtain ⟨fd, F, b⟩ := T.F_Bench_tell
  refine ⟨_, fd, _, T.cl_Bench, T.me_Bench_tell, F.okX sc_Bench_tell (fun vs H Q E h => ?_) (fun cdv A outer s H vs Q E hr h => ?_), b⟩
  · obtain ⟨p, c, G, B, rfl, _⟩ := h
    rfl
  · obtain ⟨p, c, G, B, rfl, hB, hS, hC, hk⟩ := h
    have hu := hu_of hr
    have nd := sc_Bench_tell.nd
    refine ⟨_, (pss_cons (ps_set (i := 2) nd rfl (.inl rfl) (pe_split (pv 1) pe_str))
      (pss_cons (ps_if (pt_not (pt_val (pe_c c_is_line hr (by decide) rfl (pa_cons (pv 2) pa_nil)))) (pss_one ps_never) pss_nil)
      (pss_cons (ps_expr (pe_c c_look_new hr (by decide) rfl (pa_cons (pv 2) pa_nil)))
      (pss_cons (ps_expr (pe_mt c_Bench_look_there hr (by decide) (pv 0) (pa_cons (pv 2) pa_nil)))
      (pss_cons (ps_if (pt_cmpR op_eq (pe_ix ix_list (pv 2) pe_int (fun _ _ => rfl)) pe_str (nomark _)) (pss_one (ps_ret (pe_mtE0 c_Bench_taken_back hr (by decide) (passes_call (takes_of rfl rfl rfl rfl) fun _ _ _ _ h => h) (pv 0)))) pss_nil)
      (pss_cons (ps_if (pt_cmpR op_eq (pe_ix ix_list (pv 2) pe_int (fun _ _ => rfl)) pe_str (nomark _)) (pss_one (ps_ret (pe_mt c_Bench_put_table hr (by decide) (pv 0) (pa_cons (pe_ix ix_list (pv 2) pe_int (fun _ _ => rfl)) (pa_cons (pe_c c_read_table hr (by decide) rfl (pa_cons (pe_slice C8.sl_txt (pv 1) (po_some (pe_op op_add pe_int (pe_callB call_len_str rfl T.m_len (by decide +kernel) (pa_cons (pe_ix ix_list (pv 2) pe_int (fun _ _ => rfl)) pa_nil)))) po_none) pa_nil)) pa_nil))))) pss_nil)
      (pss_cons (ps_if (pt_cmpR op_in_seq (pe_ix ix_list (pv 2) pe_int (fun _ _ => rfl)) (pe_gc rfl T.c_MAKERS) rfl) (pss_one (ps_ret (pe_mt c_Bench_put_sum hr (by decide) (pv 0) (pa_cons (pv 2) (pa_cons (pe_mt c_Bench_made hr (by decide) (pv 0) (pa_cons (pv 2) (pa_cons (pv 1) pa_nil))) pa_nil))))) pss_nil)
      (pss_cons (ps_if (pt_cmpR op_eq (pe_ix ix_list (pv 2) pe_int (fun _ _ => rfl)) pe_str (nomark _)) (pss_one (ps_ret (pe_mt c_Bench_dropped hr (by decide) (pv 0) (pa_cons (pe_ix ix_list (pv 2) pe_int (fun _ _ => rfl)) pa_nil)))) pss_nil)
      (pss_one (ps_ret (pe_mt c_Bench_answer hr (by decide) (pv 0) (pa_cons (pv 2) pa_nil)))))))))))), ?_⟩
    obtain ⟨dx, hi0⟩ := hB.ins
    have hll := line_len hC
    refine ⟨_, rfl, ⟨_, rfl⟩, _, _, rfl, rfl, (by decide +kernel), szk (by rw [len_S]; omega), fun wa hwa => ?_⟩
    obtain ⟨w0, r, hws, hd⟩ := doors hC
    have esp : Txt.split (SS (lineOf c)) (Str.ofString " ") = (w0 :: r).map SS := by rw [l_blank, ws_split hC, hws]
    rw [esp]
    have s1 := same_new (o := .lst (((w0 :: r).map SS).map V.str)) hwa
    have hx1 : SqL K (upd H wa (.lst (((w0 :: r).map SS).map V.str))) wa (wV (w0 :: r)) := SqL.of upd_same
    show gName 2 _ _ (upd H wa (.lst (((w0 :: r).map SS).map V.str))) _
    generalize upd H wa (.lst (((w0 :: r).map SS).map V.str)) = H1 at s1 hx1 ⊢
    refine ⟨_, rfl, wa, w0 :: r, rfl, hx1, hd.line, _, rfl, ifF rfl ?_⟩
    refine ⟨_, rfl, wa, w0 :: r, rfl, hx1, hd.new, fun H2 s2 => ?_⟩
    obtain ⟨kk, nm0, htw⟩ := hd.tw
    refine ⟨_, rfl, p, dx, _, rfl, ((s1.trans s2) _ _ hi0), bfl_no (by decide +kernel) (by decide +kernel) (by decide +kernel), _, rfl, p, wa, w0, r, kk, nm0, G, B, rfl, s2.seq hx1, hB.same (s1.trans s2), hd.f0, hd.m4, hd.s2, hd.dh, hd.ns, hd.gs, htw, fun H3 s3 => ?_⟩
    have s03 := s1.trans (s2.trans s3)
    have hx := (s2.trans s3).seq hx1
    have hB3 := hB.same s03
    have hi := s03 _ _ hi0
    clear hx1
    obtain ⟨q1, q2, q3, q4, q5⟩ := hS
    cases c with
    | tb n c l =>
      injection hws with e1 e2
      subst e1 e2
      refine ⟨_, rfl, _, _, _, _, rfl, rfl, hx, at_get (i := 0) rfl, rfl, _, rfl, ifF (by decide +kernel) ?_⟩
      refine ⟨_, rfl, _, _, _, _, rfl, rfl, hx, at_get (i := 0) rfl, rfl, _, rfl, ifT (by decide +kernel) ?_⟩
      have hn8 := (name_w (.inl hC.1)).2.2
      have hsl : Txt.slice (SS (lineOf (.tb n c l))) (some ((7 : Int) + (SS n).length)) none = SS (tabL c l) := by
        rw [line_tb]
        exact SX.from_app _ _ (by rw [len_S]; simp; omega)
      refine ⟨_, rfl, p, dx, _, rfl, hi, bfl_no (by decide +kernel) (by decide +kernel) (by decide +kernel), _, rfl, _, _, _, _, rfl, rfl, hx, at_get (i := 1) rfl, _, rfl, _, rfl, _, _, _, _, rfl, rfl, hx, at_get (i := 1) rfl, _, rfl, szk (by rw [len_S]; omega), _, _, rfl, rfl, _, rfl, _, rfl, szk (by rw [len_S]; omega), c, l, (by rw [hsl]; rfl), hC.2, fun a H4 s4 ha hT => ?_⟩
      have s04 := s03.trans s4
      have nx0 := hB.ext s04
      exact ⟨p, n, a, c, l, _, B, rfl, nx0.2.1, by omega, by omega, by omega, (hT.old fun b hb => s03.free hb).ext s04 (s03.free ha), hC.2, fun G' H' B' dt' ds' nx e1 e2 e3 => hk G' H' B' dt' ds' (nx0.trans nx) e1 e2 e3⟩
    | sm sg nm t o =>
      injection hws with e1 e2
      subst e1 e2
      obtain ⟨c1, c2, c3, c, l, c4⟩ := id hC
      refine ⟨_, rfl, _, _, _, _, rfl, rfl, hx, at_get (i := 0) rfl, rfl, _, rfl, ifF (by decide +kernel) ?_⟩
      refine ⟨_, rfl, _, _, _, _, rfl, rfl, hx, at_get (i := 0) rfl, rfl, _, rfl, ifF (by decide +kernel) ?_⟩
      refine ⟨_, rfl, _, _, _, _, rfl, rfl, hx, at_get (i := 0) rfl, _, _, rfl, .inr (T.q_MAKERS _), rfl, rfl, _, rfl, ifT (by rw [if_neg (by simp), makers_in]; decide +kernel) ?_⟩
      refine ⟨_, rfl, p, dx, _, rfl, hi, bfl_no (by decide +kernel) (by decide +kernel) (by decide +kernel), _, rfl, _, rfl, p, dx, _, rfl, hi, bfl_no (by decide +kernel) (by decide +kernel) (by decide +kernel), _, rfl, _, rfl, p, wa, _, _, nm, t, o, G, B, rfl, hx, hB3, c3, .inl ⟨sg, _, c, l, rfl, line_sm, by omega, c4⟩, fun x y H4 s4 hX hY hy => ?_⟩
      have s04 := s03.trans s4
      have nx0 := hB.ext s04
      exact ⟨p, wa, x, y, WS, sg, nm, _, t, o, _, B, rfl, ext_l s04 hwa (s4.seq hx), nx0.2.1, by omega, by omega, sqT_t hX (ext_t s04), hY.ext s04 (s03.free hy), c3, fun G' H' B' dt' ds' nx e1 e2 e3 => hk G' H' B' dt' ds' (nx0.trans nx) e1 e2 e3⟩
    | mx sg one =>
      injection hws with e1 e2
      subst e1 e2
      obtain ⟨c1, c2, nm, t, o, c, l, c3, c4, c5, c6⟩ := id hC
      refine ⟨_, rfl, _, _, _, _, rfl, rfl, hx, at_get (i := 0) rfl, rfl, _, rfl, ifF (by decide +kernel) ?_⟩
      refine ⟨_, rfl, _, _, _, _, rfl, rfl, hx, at_get (i := 0) rfl, rfl, _, rfl, ifF (by decide +kernel) ?_⟩
      refine ⟨_, rfl, _, _, _, _, rfl, rfl, hx, at_get (i := 0) rfl, _, _, rfl, .inr (T.q_MAKERS _), rfl, rfl, _, rfl, ifT (by rw [if_neg (by simp), makers_in]; decide +kernel) ?_⟩
      refine ⟨_, rfl, p, dx, _, rfl, hi, bfl_no (by decide +kernel) (by decide +kernel) (by decide +kernel), _, rfl, _, rfl, p, dx, _, rfl, hi, bfl_no (by decide +kernel) (by decide +kernel) (by decide +kernel), _, rfl, _, rfl, p, wa, _, _, nm, t, o, G, B, rfl, hx, hB3, c5, .inr ⟨sg, one, c, l, rfl, c3, c6⟩, fun x y H4 s4 hX hY hy => ?_⟩
      have s04 := s03.trans s4
      have nx0 := hB.ext s04
      exact ⟨p, wa, x, y, WM, sg, nm, _, t, o, _, B, rfl, ext_l s04 hwa (s4.seq hx), nx0.2.1, by omega, by omega, sqT_t hX (ext_t s04), hY.ext s04 (s03.free hy), c5, fun G' H' B' dt' ds' nx e1 e2 e3 => hk nm t o G' H' B' dt' ds' c3 (nx0.trans nx) e1 e2 e3⟩
    | dr x =>
      injection hws with e1 e2
      subst e1 e2
      refine ⟨_, rfl, _, _, _, _, rfl, rfl, hx, at_get (i := 0) rfl, rfl, _, rfl, ifF (by decide +kernel) ?_⟩
      refine ⟨_, rfl, _, _, _, _, rfl, rfl, hx, at_get (i := 0) rfl, rfl, _, rfl, ifF (by decide +kernel) ?_⟩
      refine ⟨_, rfl, _, _, _, _, rfl, rfl, hx, at_get (i := 0) rfl, _, _, rfl, .inr (T.q_MAKERS _), rfl, rfl, _, rfl, ifF (by rw [if_neg (by simp), makers_in]; decide +kernel) ?_⟩
      refine ⟨_, rfl, _, _, _, _, rfl, rfl, hx, at_get (i := 0) rfl, rfl, _, rfl, ifT (by decide +kernel) ?_⟩
      exact ⟨_, rfl, p, dx, _, rfl, hi, bfl_no (by decide +kernel) (by decide +kernel) (by decide +kernel), _, rfl, _, _, _, _, rfl, rfl, hx, at_get (i := 1) rfl, p, x, G, B, rfl, hB3, by omega, by omega, hC.2, fun G' H' B' dt' ds' nx e1 e2 => hk G' H' B' dt' ds' ((Nx.same hB s03).trans nx) e1 e2⟩
    | al =>
      injection hws with e1 e2
      subst e1 e2
      refine ⟨_, rfl, _, _, _, _, rfl, rfl, hx, at_get (i := 0) rfl, rfl, _, rfl, ifF (by decide +kernel) ?_⟩
      refine ⟨_, rfl, _, _, _, _, rfl, rfl, hx, at_get (i := 0) rfl, rfl, _, rfl, ifF (by decide +kernel) ?_⟩
      refine ⟨_, rfl, _, _, _, _, rfl, rfl, hx, at_get (i := 0) rfl, _, _, rfl, .inr (T.q_MAKERS _), rfl, rfl, _, rfl, ifF (by rw [if_neg (by simp), makers_in]; decide +kernel) ?_⟩
      refine ⟨_, rfl, _, _, _, _, rfl, rfl, hx, at_get (i := 0) rfl, rfl, _, rfl, ifF (by decide +kernel) ?_⟩
      exact ⟨_, rfl, p, dx, _, rfl, hi, bfl_no (by decide +kernel) (by decide +kernel) (by decide +kernel), _, rfl, p, wa, _, G, B, rfl, hx, hB3, .inl ⟨rfl, q2, q3, q4, q5, fun ys zs H' s a1 a2 a3 a4 => hk ys zs H' (s03.trans s) a1 a2 a3 a4⟩⟩
    | sh x =>
      injection hws with e1 e2
      subst e1 e2
      refine ⟨_, rfl, _, _, _, _, rfl, rfl, hx, at_get (i := 0) rfl, rfl, _, rfl, ifF (by decide +kernel) ?_⟩
      refine ⟨_, rfl, _, _, _, _, rfl, rfl, hx, at_get (i := 0) rfl, rfl, _, rfl, ifF (by decide +kernel) ?_⟩
      refine ⟨_, rfl, _, _, _, _, rfl, rfl, hx, at_get (i := 0) rfl, _, _, rfl, .inr (T.q_MAKERS _), rfl, rfl, _, rfl, ifF (by rw [if_neg (by simp), makers_in]; decide +kernel) ?_⟩
      refine ⟨_, rfl, _, _, _, _, rfl, rfl, hx, at_get (i := 0) rfl, rfl, _, rfl, ifF (by decide +kernel) ?_⟩
      rcases hC.2 with ⟨c, l, z⟩ | ⟨z0, nm, t, o, z⟩
      · exact ⟨_, rfl, p, dx, _, rfl, hi, bfl_no (by decide +kernel) (by decide +kernel) (by decide +kernel), _, rfl, p, wa, _, G, B, rfl, hx, hB3, .inr (.inl ⟨x, c, l, rfl, z, fun H' s => hk.1 c l H' z (s03.trans s)⟩)⟩
      · exact ⟨_, rfl, p, dx, _, rfl, hi, bfl_no (by decide +kernel) (by decide +kernel) (by decide +kernel), _, rfl, p, wa, _, G, B, rfl, hx, hB3, .inr (.inr (.inl ⟨x, nm, t, o, rfl, z0, z, fun H' s => hk.2 nm t o H' z0 z (s03.trans s)⟩))⟩
    | ru n =>
      injection hws with e1 e2
      subst e1 e2
      obtain ⟨_, c, l, z⟩ := id hC
      refine ⟨_, rfl, _, _, _, _, rfl, rfl, hx, at_get (i := 0) rfl, rfl, _, rfl, ifF (by decide +kernel) ?_⟩
      refine ⟨_, rfl, _, _, _, _, rfl, rfl, hx, at_get (i := 0) rfl, rfl, _, rfl, ifF (by decide +kernel) ?_⟩
      refine ⟨_, rfl, _, _, _, _, rfl, rfl, hx, at_get (i := 0) rfl, _, _, rfl, .inr (T.q_MAKERS _), rfl, rfl, _, rfl, ifF (by rw [if_neg (by simp), makers_in]; decide +kernel) ?_⟩
      refine ⟨_, rfl, _, _, _, _, rfl, rfl, hx, at_get (i := 0) rfl, rfl, _, rfl, ifF (by decide +kernel) ?_⟩
      exact ⟨_, rfl, p, dx, _, rfl, hi, bfl_no (by decide +kernel) (by decide +kernel) (by decide +kernel), _, rfl, p, wa, _, G, B, rfl, hx, hB3, .inr (.inr (.inr (.inl ⟨n, c, l, rfl, z, fun H' s => hk H' (s03.trans s)⟩)))⟩
    | ofs sg =>
      injection hws with e1 e2
      subst e1 e2
      obtain ⟨_, nm, t, o, z⟩ := id hC
      refine ⟨_, rfl, _, _, _, _, rfl, rfl, hx, at_get (i := 0) rfl, rfl, _, rfl, ifF (by decide +kernel) ?_⟩
      refine ⟨_, rfl, _, _, _, _, rfl, rfl, hx, at_get (i := 0) rfl, rfl, _, rfl, ifF (by decide +kernel) ?_⟩
      refine ⟨_, rfl, _, _, _, _, rfl, rfl, hx, at_get (i := 0) rfl, _, _, rfl, .inr (T.q_MAKERS _), rfl, rfl, _, rfl, ifF (by rw [if_neg (by simp), makers_in]; decide +kernel) ?_⟩
      refine ⟨_, rfl, _, _, _, _, rfl, rfl, hx, at_get (i := 0) rfl, rfl, _, rfl, ifF (by decide +kernel) ?_⟩
      exact ⟨_, rfl, p, dx, _, rfl, hi, bfl_no (by decide +kernel) (by decide +kernel) (by decide +kernel), _, rfl, p, wa, _, G, B, rfl, hx, hB3, .inr (.inr (.inr (.inr ⟨sg, nm, t, o, rfl, z, fun H' s => hk nm t o H' z (s03.trans s)⟩)))⟩
    | un =>
      injection hws with e1 e2
      subst e1 e2
      refine ⟨_, rfl, _, _, _, _, rfl, rfl, hx, at_get (i := 0) rfl, rfl, _, rfl, ifT (by decide +kernel) ?_⟩
      exact ⟨_, rfl, p, dx, _, rfl, hi, bfl_no (by decide +kernel) (by decide +kernel) (by decide +kernel), p, G, B, rfl, hB3, fun h0 H' s => hk.1 h0 H' (s03.trans s), fun es e he H' nx => hk.2 es e he H' ((Nx.same hB s03).trans nx)⟩
end
end Sw

/-! ## Rep7 -/
/-! the law's own things -/
namespace Sw
open PySem PySem.Spec PyProof.Rows L2
/-- the purse: digits, how often it was filled, its seed -/
def PuR (H : Hp) (a : Addr) (m : Nat) : Prop := ∃ n c k : Int, H a = some (.lst [.int n, .int c, .int k]) ∧ 0 ≤ n ∧ 0 ≤ c ∧ c ≤ m ∧ 0 ≤ k ∧ k < 2 ^ 62
theorem PuR.mono {H : Hp} {a : Addr} {m m' : Nat} (h : PuR H a m) (e : m ≤ m') : PuR H a m' := by
  obtain ⟨n, c, k, h1, h2, h3, h4, h5⟩ := h
  exact ⟨n, c, k, h1, h2, h3, by omega, h5⟩
theorem PuR.same {H H' : Hp} {a : Addr} {m : Nat} (h : PuR H a m) (e : Same H H') : PuR H' a m := by
  obtain ⟨n, c, k, h1, h2⟩ := h
  exact ⟨n, c, k, e _ _ h1, h2⟩
theorem PuR.at {H : Hp} {a : Addr} {m : Nat} (h : PuR H a m) : ∃ o, H a = some o ∧ tf o = false := by
  obtain ⟨n, c, k, h1, _⟩ := h
  exact ⟨_, h1, rfl⟩
theorem nabs_lt {i : Int} {a : Nat} (h0 : 0 ≤ i) (h : i < 2 ^ a) : i.natAbs < 2 ^ a := by
  have e : (i.natAbs : Int) = i := Int.natAbs_of_nonneg h0
  have h2 : ((i.natAbs : Nat) : Int) < ((2 ^ a : Nat) : Int) := by
    rw [e]
    simpa using h
  exact Int.ofNat_lt.mp h2
theorem pow10 : (10 : Int) ^ (18 : Int).toNat = 1000000000000000000 := by decide
theorem pow60 : (10 : Int) ^ (60 : Int).toNat = 1000000000000000000000000000000000000000000000000000000000000 := by decide
theorem pow6 : (10 : Int) ^ (6 : Int).toNat = 1000000 := by decide
def alf (b : Nat) : List Nat := (List.range 26).map (b + ·)
def MkOk (b : Nat) (n : List Nat) : Prop := 1 ≤ n.length ∧ n.length ≤ 8 ∧ ∀ c ∈ n, b ≤ c ∧ c ≤ b + 25
theorem alf_at {b : Nat} {r : Nat} (h : r < 26) : (alf b)[r]? = some (b + r) := by simp [alf, h]
theorem alf_atI {b : Nat} {r : Int} (h0 : 0 ≤ r) (h : r < 26) : atI (SS (alf b)).cps.toList r = some (b + r.toNat) := by
  have e : r = ((r.toNat : Nat) : Int) := by omega
  rw [e]
  refine atI_nat ?_
  show (alf b)[r.toNat]? = _
  exact alf_at (by omega)
theorem alf_len {b : Nat} : (SS (alf b)).length ≤ sizeLine := szk (by rw [len_S]; simp [alf])
theorem alf_small : Str.ofString "abcdefghijklmnopqrstuvwxyz" = SS (alf 97) := by decide +kernel
theorem alf_capital : Str.ofString "ABCDEFGHIJKLMNOPQRSTUVWXYZ" = SS (alf 65) := by decide +kernel
theorem strS (c : Nat) : (⟨#[c]⟩ : Str) = SS [c] := rfl
theorem joinE : ∀ zs : List (List Nat), Txt.join (SS []) (zs.map SS) = SS zs.flatten := fun zs => by
  rw [SX.join_S]
  congr 1
  congr 1
  induction zs with
  | nil => rfl
  | cons a r ih =>
    cases r with
    | nil => simp [TL.joinL]
    | cons b t =>
      show a ++ ([] ++ TL.joinL [] (b :: t)) = _
      rw [ih]
      simp
theorem flat_one : ∀ cs : List Nat, (cs.map fun c => [c]).flatten = cs
  | [] => rfl
  | c :: r => by rw [List.map_cons, List.flatten_cons, flat_one r]; rfl
theorem keep_free {a b : Addr} {H H' : Hp} (e : Keep a H H') (ha : H' a ≠ none) (h : H' b = none) : H b = none := e.none (fun z => ha (z ▸ h)) h
theorem paired_strs : ∀ {ys : List V} {zs : List (List Nat)}, Paired (fun v (z : List Nat) => v = V.str (SS z)) ys zs → ys = wV zs
  | _, _, .nil => rfl
  | _, _, .cons r t => by rw [r, paired_strs t]; rfl
def LtE (p : Key × V) (e : Tb) : Prop := p.1 = .inr (SS e.1) ∧ p.2 = .str (SS (tabL e.2.1 e.2.2))
def LsE (K : PySem.W.Frag) (G : Hp) (p : Key × V) (e : Sm) : Prop := p.1 = .inr (SS e.1) ∧ ∃ x, p.2 = .ref x ∧ SqT K G x [.str (SS e.2.1), .str (SS (sumL e.2.2.1 e.2.2.2))]
theorem ltE_key : ∀ (p : Key × V) (e : Tb), LtE p e → p.1 = .inr (SS e.1) := fun _ _ h => h.1
theorem lsE_key {K : PySem.W.Frag} {G : Hp} : ∀ (p : Key × V) (e : Sm), LsE K G p e → p.1 = .inr (SS e.1) := fun _ _ h => h.1
/-- a state of the law: new against H0 -/
def LRn (K : PySem.W.Frag) (F : Addr → Prop) (H : Hp) (s : Addr) (lt : List Tb) (ls : List Sm) : Prop := ∃ dt ds kt ks, F s ∧ F dt ∧ F ds ∧ SqL K H s [.ref dt, .ref ds] ∧ H dt = some (.dK kt) ∧ Paired LtE kt lt ∧ H ds = some (.dK ks) ∧ Paired (LsE K H) ks ls ∧ (lt.map (·.1)).Nodup ∧ (ls.map (·.1)).Nodup
abbrev LR (K : PySem.W.Frag) (H : Hp) (s : Addr) (lt : List Tb) (ls : List Sm) : Prop := LRn K (fun _ => True) H s lt ls
section
variable {K : PySem.W.Frag} {G H H' : Hp} {F : Addr → Prop}
theorem LRn.all {s : Addr} {lt : List Tb} {ls : List Sm} (h : LRn K F H s lt ls) : LR K H s lt ls := by
  obtain ⟨dt, ds, kt, ks, _, _, _, h⟩ := h
  exact ⟨dt, ds, kt, ks, trivial, trivial, trivial, h⟩
theorem LRn.same {s : Addr} {lt : List Tb} {ls : List Sm} (h : LRn K F H s lt ls) (e : Same H H') : LRn K F H' s lt ls := by
  obtain ⟨dt, ds, kt, ks, f1, f2, f3, h1, h2, h3, h4, h5, h6⟩ := h
  exact ⟨dt, ds, kt, ks, f1, f2, f3, e.seq h1, e _ _ h2, h3, e _ _ h4, Paired.mapP h5 fun _ _ ⟨q, x, r1, r2⟩ => ⟨q, x, r1, Same.sqT e r2⟩, h6⟩
theorem sqL_keep {a b : Addr} {xs ys : List V} (h : SqL K H b xs) (ha : H a = some (.lst ys)) (d : xs ≠ ys) (e : Keep a H H') : SqL K H' b xs := by
  rcases h with (h | ⟨o, h⟩) | h
  · exact .inl (.inl (e _ _ h (ne_of h ha (fun z => d (by injection z)))))
  · exact .inl (.inr ⟨o, e _ _ h (ne_of h ha (fun z => nomatch z))⟩)
  · exact .inr h
theorem sqT_keep {a b : Addr} {xs ys : List V} (h : SqT K H b xs) (ha : H a = some (.lst ys)) (e : Keep a H H') : SqT K H' b xs := by
  rcases h with (h | ⟨o, h⟩) | h
  · exact .inl (.inl (e _ _ h (ne_of h ha (fun z => nomatch z))))
  · exact .inl (.inr ⟨o, e _ _ h (ne_of h ha (fun z => nomatch z))⟩)
  · exact .inr h
theorem LRn.keep {a s : Addr} {m : Nat} {lt : List Tb} {ls : List Sm} (h : LRn K F H s lt ls) (hP : PuR H a m) (e : Keep a H H') : LRn K F H' s lt ls := by
  obtain ⟨n, c, k, ha, _⟩ := hP
  obtain ⟨dt, ds, kt, ks, f1, f2, f3, h1, h2, h3, h4, h5, h6⟩ := h
  exact ⟨dt, ds, kt, ks, f1, f2, f3, sqL_keep h1 ha (by simp) e, e _ _ h2 (ne_of h2 ha (fun z => nomatch z)), h3, e _ _ h4 (ne_of h4 ha (fun z => nomatch z)), Paired.mapP h5 fun _ _ ⟨q, x, r1, r2⟩ => ⟨q, x, r1, sqT_keep r2 ha e⟩, h6⟩
def ansOf : Cm → List Nat
  | .tb n _ _ => n
  | .sm sg _ _ _ => sg
  | .mx sg _ => sg
  | .dr x => x
  | _ => []
def TdR (K : PySem.W.Frag) (H : Hp) (ls : List Sm) (v : V) : Cm → Prop
  | .tb _ c l => v = .str (SS (tabL c l))
  | .sm _ nm t o => ∃ x, v = .ref x ∧ SqT K H x [.str (SS nm), .str (SS (sumL t o))]
  | .mx _ one => ∃ nm t o x, getE ls one = some (one, nm, t, o) ∧ v = .ref x ∧ SqT K H x [.str (SS nm), .str (SS (sumL t o))]
  | .dr _ => v = .non
  | _ => False
def LcOk (lt : List Tb) (ls : List Sm) : Cm → Prop
  | .tb n c l => NameOk n ∧ LOk c l
  | .sm sg nm t o => SignOk sg ∧ NameOk nm ∧ SOk t o ∧ (getE lt nm).isSome = true
  | .mx sg one => SignOk sg ∧ SignOk one ∧ (getE ls one).isSome = true
  | .dr x => ((getE lt x).isSome = true ∧ NameOk x ∧ 1 < lt.length) ∨ ((getE ls x).isSome = true ∧ SignOk x)
  | _ => False
def LlR (K : PySem.W.Frag) (H : Hp) (d : Addr) (c : Cm) (lt : List Tb) (ls : List Sm) : Prop := ∃ v, H d = some (.lst [.str (SS (lineOf c)), .str (SS (ansOf c)), v]) ∧ TdR K H ls v c ∧ LcOk lt ls c
theorem ad_list {xs : List (List Nat)} {ys : List Str} (h : ys.Perm (xs.map SS)) : ∃ zs : List (List Nat), ys = zs.map SS ∧ zs.Perm xs := by
  refine ⟨ys.map TL.tl, ?_, ?_⟩
  · rw [List.map_map]
    have : ∀ y ∈ ys, (SS ∘ TL.tl) y = y := fun y _ => TL.mk_tl y
    rw [List.map_congr_left this]
    simp
  · have := h.map TL.tl
    rw [SX.map_S_tl] at this
    exact this
def ltB (lt : List Tb) : Cm → List Tb
  | .tb n c l => dropE lt n ++ [(n, c, l)]
  | .dr x => dropE lt x
  | _ => lt
def lsB (ls : List Sm) : Cm → List Sm
  | .tb n _ _ => ls.filter fun e => decide (e.1 ≠ n) && decide (e.2.1 ≠ n)
  | .dr x => ls.filter fun e => decide (e.1 ≠ x) && decide (e.2.1 ≠ x)
  | .sm sg nm t o => putE ls (sg, nm, t, o)
  | .mx sg one => match getE ls one with
    | some e => putE ls (sg, e.2)
    | none => ls
  | _ => ls
theorem wV_ints {ns : List (List Nat)} {n c k : Int} : wV ns ≠ [V.int n, V.int c, V.int k] := by
  intro h
  cases ns with
  | nil => cases h
  | cons a r => cases h
theorem sqL_pu {a b : Addr} {m : Nat} {ns : List (List Nat)} (h : SqL K H b (wV ns)) (hP : PuR H a m) (e : Keep a H H') : SqL K H' b (wV ns) := by
  obtain ⟨n, c, k, ha, _⟩ := hP
  exact sqL_keep h ha wV_ints e
theorem at_wV {ns : List (List Nat)} {r : Int} (h0 : 0 ≤ r) (h : r < ns.length) : ∃ n, n ∈ ns ∧ atI (wV ns) r = some (.str (SS n)) := by
  obtain ⟨k, rfl⟩ := Int.eq_ofNat_of_zero_le h0
  have hl : k < ns.length := by omega
  refine ⟨ns[k], List.getElem_mem hl, atI_nat ?_⟩
  simp [wV, hl]
theorem pu_ne {a : Addr} {m : Nat} (h : PuR H a m) : H a ≠ none := by
  obtain ⟨o, e, _⟩ := h.at
  rw [e]
  simp
theorem lc_len {lt : List Tb} {ls : List Sm} {c : Cm} (h : LcOk lt ls c) : (lineOf c).length ≤ 500 := by
  have nz : ∀ {n : List Nat}, NameOk n ∨ SignOk n → n.length ≤ 8 := fun hn => (name_w hn).2.2
  cases c with
  | tb n c l =>
    have h1 := nz (.inl h.1)
    have h2 := tab_len h.2
    rw [line_tb]
    simp
    omega
  | sm sg nm t o =>
    have h1 := nz (.inr h.1)
    have h2 := nz (.inl h.2.1)
    have h3 := sum_len h.2.2.1
    rw [line_sm]
    simp
    omega
  | mx sg one =>
    have h1 := nz (.inr h.1)
    have h2 := nz (.inr h.2.1)
    simp [lineOf, wsOf, TL.joinL]
    omega
  | dr x =>
    have h1 : x.length ≤ 8 := by
      rcases h with h | h
      · exact nz (.inl h.2.1)
      · exact nz (.inr h.2)
    simp [lineOf, wsOf, TL.joinL]
    omega
  | al => exact h.elim
  | sh x => exact h.elim
  | ru n => exact h.elim
  | ofs s => exact h.elim
  | un => exact h.elim
theorem lsE_t {p : Key × V} {e : Sm} (h : LsE K H p e) (s : SameT H H') : LsE K H' p e := by
  obtain ⟨q, x, r1, r2⟩ := h
  exact ⟨q, x, r1, sqT_t r2 s⟩
theorem drop_no {A : Type} {es : List (List Nat × A)} {n : List Nat} : n ∉ (dropE es n).map (·.1) := fun h => by
  obtain ⟨e, he, hn⟩ := List.mem_map.mp h
  have := (List.mem_filter.mp he).2
  exact of_decide_eq_true this hn
/-- .. its list tracked -/
def LRx (K : PySem.W.Frag) (F : Addr → Prop) (H : Hp) (s : Addr) (lt : List Tb) (ls : List Sm) : Prop := ∃ dt ds kt ks, F s ∧ F dt ∧ F ds ∧ H s = some (.lst [.ref dt, .ref ds]) ∧ H dt = some (.dK kt) ∧ Paired LtE kt lt ∧ H ds = some (.dK ks) ∧ Paired (LsE K H) ks ls ∧ (lt.map (·.1)).Nodup ∧ (ls.map (·.1)).Nodup
theorem LRx.n {s : Addr} {lt : List Tb} {ls : List Sm} (h : LRx K F H s lt ls) : LRn K F H s lt ls := by
  obtain ⟨dt, ds, kt, ks, f1, f2, f3, h1, h⟩ := h
  exact ⟨dt, ds, kt, ks, f1, f2, f3, SqL.of h1, h⟩
theorem LRx.mv {F' : Addr → Prop} {s : Addr} {lt : List Tb} {ls : List Sm} (h : LRx K F H s lt ls) (e : ∀ b o, F b → H b = some o → H' b = some o) (t : SameT H H') (f : ∀ b o, F b → H b = some o → F' b) : LRx K F' H' s lt ls := by
  obtain ⟨dt, ds, kt, ks, f1, f2, f3, h1, h2, h3, h4, h5, h6⟩ := h
  exact ⟨dt, ds, kt, ks, f _ _ f1 h1, f _ _ f2 h2, f _ _ f3 h4, e _ _ f1 h1, e _ _ f2 h2, h3, e _ _ f3 h4, Paired.mapP h5 fun _ _ ⟨q, x, r1, r2⟩ => ⟨q, x, r1, sqT_t r2 t⟩, h6⟩
end
end Sw

/-! ## G19 -/
namespace Sw
open PySem PySem.Spec PyProof.Rows L2
open C8 (Cal Met Mak pe_c pe_mk pe_mt pe_mt0 pe_gc)
section
variable {P : Program} {w : World} {K : PySem.W.Frag} {mg : Str → Option Value} {base : Heap}
abbrev N__law_mixed : List Str := ["_law_cell", "_law_k", "_law_number"]
abbrev s__law_mixed : Stmt := sLawMixed
theorem sc__law_mixed : FnScope N__law_mixed ["_law_cell", "_law_k"] (defScope s__law_mixed) := ⟨rfl, rfl, rfl, by decide +kernel, rfl, by decide +kernel, by decide +kernel⟩
def sp__law_mixed (K : PySem.W.Frag) : Sp := fun vs H Q _ => ∃ i k : Int, vs = [.int i, .int k] ∧ 0 ≤ k ∧ k < 2 ^ 40 ∧ ∀ r : Int, 0 ≤ r → r < 2 ^ 200 → Q (.int r) H
theorem ok__law_mixed (T : Tx w K mg) : Cal P w K mg base 1 "_law_mixed" (sp__law_mixed K) [] := by
  obtain ⟨fd, F, b⟩ := T.F__law_mixed
  refine ⟨_, fd, _, [], F.ok sc__law_mixed (fun vs H Q E h => ?_) (fun cdv A outer s H vs Q E hr h => ?_), T.g__law_mixed, F.kp, b, .nil⟩
  · obtain ⟨i, k, rfl, _⟩ := h
    rfl
  · obtain ⟨i, k, rfl, k0, k1, hk⟩ := h
    have hu := hu_of hr
    have nd := sc__law_mixed.nd
    refine ⟨_, (pss_cons (ps_set (i := 2) nd rfl (.inl rfl) (pe_op op_add (pe_op op_add (pe_op op_mul (pe_op op_add (pe_op op_mod (pv 0) (pe_op op_add (pe_op op_pow pe_int pe_int) pe_int)) (pe_op op_mul pe_int (pv 1))) pe_int) (pe_op op_mul pe_int (pv 1))) pe_int))
      (pss_cons (ps_set (i := 2) nd rfl (.inl rfl) (pe_op op_mod (pe_op op_mulW (pv 2) (pv 2)) (pe_op op_add (pe_op op_pow pe_int pe_int) pe_int)))
      (pss_one (ps_ret (pe_op op_mod (pe_op op_mulW (pe_op op_add (pv 2) pe_int) (pe_op op_add (pv 2) pe_int)) (pe_op op_add (pe_op op_pow pe_int pe_int) pe_int)))))), ?_⟩
    have m1 : 0 ≤ i % 1000000000000000009 := Int.emod_nonneg _ (by decide)
    have m2 : i % 1000000000000000009 < 1000000000000000009 := Int.emod_lt_of_pos _ (by decide)
    refine ⟨_, rfl, _, _, rfl, rfl, ⟨by decide, by decide, by decide⟩, _, _, rfl, rfl, _, _, rfl, rfl, (by rw [pow10]; show (0 : Int) < _; decide), ?_⟩
    rw [show (10 : Int) ^ (18 : Int).toNat + 9 = 1000000000000000009 by decide]
    refine ⟨_, rfl, _, _, rfl, rfl, .inl (by decide), _, _, rfl, rfl, _, _, rfl, rfl, .inl ⟨by omega, by omega⟩, _, rfl, _, _, rfl, rfl, .inl (by decide), _, _, rfl, rfl, _, _, rfl, rfl, ?_⟩
    have n0 : 0 ≤ (i % 1000000000000000009 + 7 * k) * 739108512309184756019283746561 + 7919 * k + 1 := by omega
    have n1 : (i % 1000000000000000009 + 7 * k) * 739108512309184756019283746561 + 7919 * k + 1 < 2 ^ 190 := by omega
    refine ⟨_, rfl, _, rfl, _, _, rfl, rfl, wide_mul (a := 190) (b := 190) (nabs_lt n0 n1) (nabs_lt n0 n1) (by decide) (by decide) (by decide), _, _, rfl, rfl, ⟨by decide, by decide, by decide⟩, _, _, rfl, rfl, _, _, rfl, rfl, (by rw [pow60]; show (0 : Int) < _; decide), ?_⟩
    rw [show (10 : Int) ^ (60 : Int).toNat + 7 = 1000000000000000000000000000000000000000000000000000000000007 by decide]
    have r1 : 0 ≤ ((i % 1000000000000000009 + 7 * k) * 739108512309184756019283746561 + 7919 * k + 1) * ((i % 1000000000000000009 + 7 * k) * 739108512309184756019283746561 + 7919 * k + 1) % 1000000000000000000000000000000000000000000000000000000000007 := Int.emod_nonneg _ (by decide)
    have r2 : ((i % 1000000000000000009 + 7 * k) * 739108512309184756019283746561 + 7919 * k + 1) * ((i % 1000000000000000009 + 7 * k) * 739108512309184756019283746561 + 7919 * k + 1) % 1000000000000000000000000000000000000000000000000000000000007 < 1000000000000000000000000000000000000000000000000000000000007 := Int.emod_lt_of_pos _ (by decide)
    refine ⟨_, rfl, _, _, rfl, rfl, _, rfl, _, _, rfl, rfl, _, _, rfl, rfl, wide_mul (a := 210) (b := 210) (nabs_lt (Int.add_nonneg r1 (by decide)) (Int.lt_trans (Int.add_lt_add_right r2 _) (by decide))) (nabs_lt (Int.add_nonneg r1 (by decide)) (Int.lt_trans (Int.add_lt_add_right r2 _) (by decide))) (by decide) (by decide) (by decide), _, _, rfl, rfl, ⟨by decide, by decide, by decide⟩, _, _, rfl, rfl, _, _, rfl, rfl, (by rw [pow60]; show (0 : Int) < _; decide), ?_⟩
    rw [show (10 : Int) ^ (60 : Int).toNat + 7 = 1000000000000000000000000000000000000000000000000000000000007 by decide]
    exact hk _ (Int.emod_nonneg _ (by decide)) (Int.lt_trans (Int.emod_lt_of_pos _ (by decide)) (by decide))
abbrev N__law_purse : List Str := ["_law_cell", "_law_k"]
abbrev s__law_purse : Stmt := sLawPurse
theorem sc__law_purse : FnScope N__law_purse ["_law_cell", "_law_k"] (defScope s__law_purse) := ⟨rfl, rfl, rfl, by decide +kernel, rfl, by decide +kernel, by decide +kernel⟩
def sp__law_purse (K : PySem.W.Frag) : Sp := fun vs H Q _ => ∃ i k : Int, vs = [.int i, .int k] ∧ 0 ≤ k ∧ k < 2 ^ 30 ∧ ∀ a H', Same H H' → H a = none → PuR H' a 0 → Q (.ref a) H'
theorem ok__law_purse (T : Tx w K mg) (c__law_mixed : Cal P w K mg base 1 "_law_mixed" (sp__law_mixed K) []) : Cal P w K mg base 2 "_law_purse" (sp__law_purse K) [] := by
  obtain ⟨fd, F, b⟩ := T.F__law_purse
  refine ⟨_, fd, _, [], F.ok sc__law_purse (fun vs H Q E h => ?_) (fun cdv A outer s H vs Q E hr h => ?_), T.g__law_purse, F.kp, b, .nil⟩
  · obtain ⟨i, k, rfl, _⟩ := h
    rfl
  · obtain ⟨i, k, rfl, k0, k1, hk⟩ := h
    have hu := hu_of hr
    have nd := sc__law_purse.nd
    refine ⟨_, (pss_cons (ps_if (pt_cmpR op_ge (pv 0) (pe_op op_pow pe_int pe_int) (nomark _)) (pss_one (ps_ret (pe_lst (pa_cons (pe_op op_sub (pv 0) (pe_op op_pow pe_int pe_int)) (pa_cons pe_int (pa_cons (pv 1) pa_nil)))))) pss_nil)
      (pss_one (ps_ret (pe_lst (pa_cons (pe_c c__law_mixed hr (by decide) rfl (pa_cons (pv 0) (pa_cons (pv 1) pa_nil))) (pa_cons pe_int (pa_cons (pe_op op_add (pe_op op_mod (pv 0) (pe_op op_add (pe_op op_pow pe_int pe_int) pe_int)) (pv 1)) pa_nil))))))), ?_⟩
    refine ⟨_, rfl, _, _, rfl, rfl, ⟨by decide, by decide, by decide⟩, _, _, rfl, rfl, _, rfl, ?_⟩
    rw [pow10]
    refine if2 (fun h => ?_) (fun h => ?_)
    · have h := of_decide_eq_true h
      refine ⟨_, rfl, _, _, rfl, rfl, ⟨by decide, by decide, by decide⟩, _, _, rfl, rfl, _, rfl, sz3, fun a ha => hk a _ (same_new ha) ha ⟨_, _, _, upd_same, ?_, by decide, by decide, k0, by omega⟩⟩
      rw [pow10]
      omega
    · have m1 : 0 ≤ i % 1000000000000000009 := Int.emod_nonneg _ (by decide)
      have m2 : i % 1000000000000000009 < 1000000000000000009 := Int.emod_lt_of_pos _ (by decide)
      refine ⟨_, rfl, _, rfl, i, k, rfl, k0, by omega, fun r r0 r1 => ?_⟩
      refine ⟨_, rfl, _, _, rfl, rfl, ⟨by decide, by decide, by decide⟩, _, _, rfl, rfl, _, _, rfl, rfl, (by rw [pow10]; show (0 : Int) < _; decide), _, rfl, _, _, rfl, rfl, sz3, fun a ha => hk a _ (same_new ha) ha ⟨_, _, _, upd_same, r0, by decide, by decide, ?_, ?_⟩⟩
      · rw [show (10 : Int) ^ (18 : Int).toNat + 9 = 1000000000000000009 by decide]
        omega
      · rw [show (10 : Int) ^ (18 : Int).toNat + 9 = 1000000000000000009 by decide]
        omega
abbrev N__law_take : List Str := ["_law_purse_here", "_law_many", "_law_got"]
abbrev s__law_take : Stmt := sLawTake
theorem sc__law_take : FnScope N__law_take ["_law_purse_here", "_law_many"] (defScope s__law_take) := ⟨rfl, rfl, rfl, by decide +kernel, rfl, by decide +kernel, by decide +kernel⟩
def sp__law_take (K : PySem.W.Frag) : Sp := fun vs H Q _ => ∃ (a : Addr) (b : Int) (m : Nat), vs = [.ref a, .int b] ∧ PuR H a m ∧ m ≤ 1000000 ∧ 0 < b ∧ b < 2 ^ 30 ∧ ∀ (r : Int) H', 0 ≤ r → r < b → Keep a H H' → PuR H' a (m + 1) → Q (.int r) H'
theorem ok__law_take (T : Tx w K mg) (c__law_mixed : Cal P w K mg base 1 "_law_mixed" (sp__law_mixed K) []) : Cal P w K mg base 2 "_law_take" (sp__law_take K) [] := by
  obtain ⟨fd, F, b⟩ := T.F__law_take
  refine ⟨_, fd, _, [], F.ok sc__law_take (fun vs H Q E h => ?_) (fun cdv A outer s H vs Q E hr h => ?_), T.g__law_take, F.kp, b, .nil⟩
  · obtain ⟨a, b, m, rfl, _⟩ := h
    rfl
  · obtain ⟨a, b, m, rfl, hP, hm, b0, b1, hk⟩ := h
    have hu := hu_of hr
    have nd := sc__law_take.nd
    refine ⟨_, (pss_cons (ps_if (pt_cmpR op_lt (pe_ix ix_list (pv 0) pe_int (fun _ _ => rfl)) (pv 1) (nomark _)) (pss_cons (ps_asg (pe_op op_add (pe_ix ix_list (pv 0) pe_int (fun _ _ => rfl)) pe_int) (pg_sub (pv 0) pe_int set_list))
      (pss_one (ps_asg (pe_op op_add (pe_ix ix_list (pv 0) pe_int (fun _ _ => rfl)) (pe_op op_mul (pv 1) (pe_c c__law_mixed hr (by decide) rfl (pa_cons (pe_ix ix_list (pv 0) pe_int (fun _ _ => rfl)) (pa_cons (pe_op op_add (pe_op op_mul pe_int (pe_ix ix_list (pv 0) pe_int (fun _ _ => rfl))) pe_int) pa_nil))))) (pg_sub (pv 0) pe_int set_list)))) pss_nil)
      (pss_cons (ps_set (i := 2) nd rfl (.inl rfl) (pe_op op_mod (pe_ix ix_list (pv 0) pe_int (fun _ _ => rfl)) (pv 1)))
      (pss_cons (ps_asg (pe_op op_fdiv (pe_ix ix_list (pv 0) pe_int (fun _ _ => rfl)) (pv 1)) (pg_sub (pv 0) pe_int set_list))
      (pss_one (ps_ret (pv 2)))))), ?_⟩
    obtain ⟨n, c, k, ha, n0, c0, c1, k0, k1⟩ := hP
    refine ⟨_, rfl, _, _, _, _, rfl, rfl, SqL.of ha, at_get (i := 0) rfl, _, rfl, _, _, rfl, rfl, _, rfl, ?_⟩
    have fin : ∀ (H1 : Hp) (n1 c2 : Int), Keep a H H1 → H1 a = some (.lst [.int n1, .int c2, .int k]) → 0 ≤ n1 → 0 ≤ c2 → c2 ≤ (m + 1 : Nat) → ∀ r : Int, r = n1 % b → PuR (upd H1 a (.lst [.int (n1 / b), .int c2, .int k])) a (m + 1) ∧ Keep a H (upd H1 a (.lst [.int (n1 / b), .int c2, .int k])) ∧ 0 ≤ r ∧ r < b := fun H1 n1 c2 kp h1 g1 g2 g3 r er => by
      refine ⟨⟨_, _, _, upd_same, Int.ediv_nonneg g1 (by omega), g2, g3, k0, k1⟩, Keep.at kp, ?_, ?_⟩
      · rw [er]
        exact Int.emod_nonneg _ (by omega)
      · rw [er]
        exact Int.emod_lt_of_pos _ b0
    refine if2 (fun h => ?_) (fun h => ?_)
    · refine ⟨_, rfl, _, _, _, _, rfl, rfl, SqL.of ha, at_get (i := 1) rfl, _, _, rfl, rfl, _, rfl, a, _, _, 1, rfl, rfl, ha, rfl, ?_⟩
      have h1 : (upd H a (.lst [.int n, .int (c + 1), .int k])) a = some (.lst [.int n, .int (c + 1), .int k]) := upd_same
      have kp1 : Keep a H (upd H a (.lst [.int n, .int (c + 1), .int k])) := Keep.at (Keep.of (Same.refl _))
      show tSeq _ _ _ _ (upd H a (.lst [.int n, .int (c + 1), .int k]))
      generalize upd H a (.lst [.int n, .int (c + 1), .int k]) = H1 at h1 kp1 ⊢
      refine ⟨_, rfl, _, _, _, _, rfl, rfl, SqL.of h1, at_get (i := 0) rfl, _, rfl, _, rfl, _, _, _, _, rfl, rfl, SqL.of h1, at_get (i := 2) rfl, _, rfl, _, _, _, _, rfl, rfl, SqL.of h1, at_get (i := 1) rfl, _, _, rfl, rfl, .inl (by decide), _, _, rfl, rfl, _, _, rfl, by omega, by omega, fun q q0 q1 => ?_⟩
      refine ⟨_, _, rfl, rfl, .inl ⟨by omega, by omega⟩, _, _, rfl, rfl, _, rfl, a, _, _, 0, rfl, rfl, h1, rfl, ?_⟩
      have h2 : (upd H1 a (.lst [.int (n + b * q), .int (c + 1), .int k])) a = some (.lst [.int (n + b * q), .int (c + 1), .int k]) := upd_same
      have kp2 : Keep a H (upd H1 a (.lst [.int (n + b * q), .int (c + 1), .int k])) := Keep.at kp1
      have bq : 0 ≤ b * q := Int.mul_nonneg (by omega) q0
      show tSeq _ _ _ _ (upd H1 a (.lst [.int (n + b * q), .int (c + 1), .int k]))
      generalize upd H1 a (.lst [.int (n + b * q), .int (c + 1), .int k]) = H2 at h2 kp2 ⊢
      refine ⟨_, rfl, _, _, _, _, rfl, rfl, SqL.of h2, at_get (i := 0) rfl, _, rfl, _, _, rfl, rfl, b0, ?_⟩
      refine ⟨_, rfl, _, _, _, _, rfl, rfl, SqL.of h2, at_get (i := 0) rfl, _, rfl, _, _, rfl, rfl, ⟨b0, by omega⟩, _, rfl, a, _, _, 0, rfl, rfl, h2, rfl, ?_⟩
      obtain ⟨f1, f2, f3, f4⟩ := fin H2 _ _ kp2 h2 (by omega) (by omega) (by omega) _ rfl
      exact ⟨_, rfl, hk _ _ f3 f4 f2 f1⟩
    · refine ⟨_, rfl, _, _, _, _, rfl, rfl, SqL.of ha, at_get (i := 0) rfl, _, rfl, _, _, rfl, rfl, b0, ?_⟩
      refine ⟨_, rfl, _, _, _, _, rfl, rfl, SqL.of ha, at_get (i := 0) rfl, _, rfl, _, _, rfl, rfl, ⟨b0, by omega⟩, _, rfl, a, _, _, 0, rfl, rfl, ha, rfl, ?_⟩
      obtain ⟨f1, f2, f3, f4⟩ := fin H _ _ (Keep.of (Same.refl _)) ha n0 c0 (by omega) _ rfl
      exact ⟨_, rfl, hk _ _ f3 f4 f2 f1⟩
end
end Sw

/-! ## G20 -/
namespace Sw
open PySem PySem.Spec PyProof.Rows L2
open C8 (Cal Met Mak pe_c pe_mk pe_mt pe_mt0 pe_gc)
section
variable {P : Program} {w : World} {K : PySem.W.Frag} {mg : Str → Option Value} {base : Heap}
abbrev N__law_at : List Str := ["_law_script", "_law_k"]
abbrev s__law_at : Stmt := sLawAt
theorem sc__law_at : FnScope N__law_at ["_law_script", "_law_k"] (defScope s__law_at) := ⟨rfl, rfl, rfl, by decide +kernel, rfl, by decide +kernel, by decide +kernel⟩
def sp__law_at (K : PySem.W.Frag) : Sp := fun vs H Q _ => ∃ (a : Addr) (ns : List Int) (k : Nat), vs = [.ref a, .int k] ∧ SqL K H a (ns.map V.int) ∧ ∀ i : Int, Q (.int i) H
theorem ok__law_at (T : Tx w K mg) : Cal P w K mg base 1 "_law_at" (sp__law_at K) [] := by
  obtain ⟨fd, F, b⟩ := T.F__law_at
  refine ⟨_, fd, _, [], F.ok sc__law_at (fun vs H Q E h => ?_) (fun cdv A outer s H vs Q E hr h => ?_), T.g__law_at, F.kp, b, .nil⟩
  · obtain ⟨a, ns, k, rfl, _⟩ := h
    rfl
  · obtain ⟨a, ns, k, rfl, hx, hk⟩ := h
    have hu := hu_of hr
    have nd := sc__law_at.nd
    refine ⟨_, (pss_cons (ps_if (pt_cmpR op_lt (pv 1) (pe_callB call_len_seq rfl T.m_len (by decide +kernel) (pa_cons (pv 0) pa_nil)) (nomark _)) (pss_one (ps_ret (pe_ix ix_list (pv 0) (pv 1) (fun _ _ => rfl)))) pss_nil)
      (pss_one (ps_ret (pe_op op_add (pe_op op_mul pe_int (pv 1)) pe_int)))), ?_⟩
    refine ⟨_, rfl, _, rfl, _, _, rfl, .inl hx, _, _, rfl, rfl, _, rfl, ?_⟩
    refine if2 (fun h => ?_) (fun h => ?_)
    · have h := of_decide_eq_true h
      have hl : k < ns.length := by
        rw [List.length_map] at h
        omega
      exact ⟨_, rfl, _, rfl, _, _, _, _, rfl, rfl, hx, at_get (i := k) (by rw [List.getElem?_map, List.getElem?_eq_getElem hl]; rfl), hk _⟩
    · exact ⟨_, rfl, _, _, rfl, rfl, .inl (by decide), _, _, rfl, rfl, hk _⟩
abbrev N__law_marks : List Str := ["_law_purse_here", "_law_letters", "_law_least", "_law_most", "_law_stem", "_law_part", "_law_first", "_law_found", "_law_k"]
abbrev s__law_marks : Stmt := sLawMarks
theorem sc__law_marks : FnScope N__law_marks ["_law_purse_here", "_law_letters", "_law_least", "_law_most"] (defScope s__law_marks) := ⟨rfl, rfl, rfl, by decide +kernel, rfl, by decide +kernel, by decide +kernel⟩
def sp__law_marks (K : PySem.W.Frag) : Sp := fun vs H Q _ => ∃ (a : Addr) (b lo hi m : Nat), vs = [.ref a, .str (SS (alf b)), .int lo, .int hi] ∧ PuR H a m ∧ m ≤ 100000 ∧ lo ≤ hi ∧ hi ≤ 51 ∧ ∀ d ns H', Keep a H H' → H d = none → H' d = some (.lst (wV ns)) → (∀ n ∈ ns, MkOk b n) → lo ≤ ns.length → ns.length ≤ hi → PuR H' a (m + 10) → Q (.ref d) H'
theorem ok__law_marks (T : Tx w K mg) (c__law_take : Cal P w K mg base 2 "_law_take" (sp__law_take K) []) : Cal P w K mg base 3 "_law_marks" (sp__law_marks K) [] := by
  obtain ⟨fd, F, b⟩ := T.F__law_marks
  refine ⟨_, fd, _, [], F.ok sc__law_marks (fun vs H Q E h => ?_) (fun cdv A outer s H vs Q E hr h => ?_), T.g__law_marks, F.kp, b, .nil⟩
  · obtain ⟨a, b, lo, hi, m, rfl, _⟩ := h
    rfl
  · obtain ⟨a, b, lo, hi, m, rfl, hP, hm, hlo, hhi, hk⟩ := h
    have hu := hu_of hr
    have nd := sc__law_marks.nd
    refine ⟨_, (pss_cons (ps_set (i := 4) nd rfl (.inr rfl) (pe_join pe_str (pe_lc (own := [("_law_part", 5)]) (g := gName 5) rfl nd (pi_range1 rfl T.m_range (pa_cons (pe_c c__law_take hr (by decide) rfl (pa_cons (pv 0) (pa_cons pe_int pa_nil))) pa_nil)) (blkOk_by (own := [("_law_part", 5)]) (N := N__law_marks) (sc := defScope s__law_marks) (by decide +kernel)) (fun _ _ _ _ _ => (pg_name (i := 5) nd rfl (.inl rfl))) (fun _ _ _ _ _ => pts_nil) (fun _ _ _ _ _ => (pe_ix ix_str (pv 1) (pe_c c__law_take hr (by decide) rfl (pa_cons (pv 0) (pa_cons pe_int pa_nil))) (fun _ _ => rfl))))))
      (pss_cons (ps_set (i := 6) nd rfl (.inr rfl) (pe_c c__law_take hr (by decide) rfl (pa_cons (pv 0) (pa_cons pe_int pa_nil))))
      (pss_cons (ps_setLc (i := 7) (own := [("_law_k", 8)]) (g := gName 8) rfl nd rfl rfl (sw_true rfl rfl rfl (by decide +kernel)) (pi_range1 rfl T.m_range (pa_cons pe_int pa_nil)) (blkOk_by (own := [("_law_k", 8)]) (N := N__law_marks) (sc := defScope s__law_marks) (by decide +kernel)) (fun _ _ _ _ _ => (pg_name (i := 8) nd rfl (.inl rfl))) (fun _ _ _ _ _ => pts_nil) (fun _ _ _ _ _ => (pe_op op_add_str (pe_op op_add_str (pv 4) (pe_ix ix_str (pv 1) (pe_op op_mod (pe_op op_add (pv 6) (pe_op op_mul pe_int (pv 8))) pe_int) (fun _ _ => rfl))) (pe_ix ix_str (pv 1) (pe_op op_fdiv (pv 8) pe_int) (fun _ _ => rfl)))))
      (pss_one (ps_ret (pe_slice sl_list (pv 7) po_none (po_some (pe_op op_add (pv 2) (pe_c c__law_take hr (by decide) rfl (pa_cons (pv 0) (pa_cons (pe_op op_sub (pe_op op_add (pv 3) pe_int) (pv 2)) pa_nil))))))))))), ?_⟩
    refine ⟨⟨_, rfl⟩, _, rfl, _, 7, m, rfl, hP, by omega, by decide, by decide, fun r H1 r0 r1 kp1 hP1 => ?_⟩
    refine ⟨r, rfl, by omega, by omega, fun D hD => ?_⟩
    have hDa : D ≠ a := fun z => by
      obtain ⟨o, e, _⟩ := hP1.at
      rw [← z, hD] at e
      cases e
    refine lc_it (walk_range (lo := 0) (n := r.toNat)) (fun i H' => Keep a H H' ∧ PuR H' a (m + 1 + i) ∧ ∃ cs : List Nat, cs.length = i ∧ (∀ c ∈ cs, b ≤ c ∧ c ≤ b + 25) ∧ H' D = some (.lst (cs.map fun c => V.str (SS [c])))) ⟨kp1.new hD, hP1.same (same_new hD), [], rfl, (fun c hc => nomatch hc), upd_same⟩ (fun _ _ _ _ => trivial) ?_ ?_
    · rintro i x H2 H3 hi2 ⟨kp2, hP2, cs, hcl, hcs, hD2⟩ ⟨rfl, rfl⟩
      refine ⟨rfl, yesR ?_⟩
      refine ⟨_, rfl, _, rfl, a, 26, m + 1 + i, rfl, hP2, by omega, by decide, by decide, fun q H4 q0 q1 kp4 hP4 => ?_⟩
      refine ⟨_, q, _, rfl, rfl, alf_len, alf_atI q0 q1, ?_⟩
      refine ⟨_, kp4 _ _ hD2 hDa, szl (by rw [List.length_map]; omega), ?_, ?_, cs ++ [b + q.toNat], by simp [hcl], ?_, ?_⟩
      · exact fun y o e n => by
          rw [upd_ne (fun z => by
            have := keep_free kp1 (by obtain ⟨o, e, _⟩ := hP1.at; rw [e]; simp) hD
            rw [z, this] at e
            cases e)]
          exact kp4 _ _ (kp2 _ _ e n) n
      · obtain ⟨n1, c1, k1, e1, e2⟩ := hP4
        exact ⟨n1, c1, k1, by rw [upd_ne hDa.symm]; exact e1, e2.1, e2.2.1, by omega, e2.2.2.2⟩
      · intro c hc
        rcases List.mem_append.mp hc with hc | hc
        · exact hcs c hc
        · rw [List.mem_singleton.mp hc]
          omega
      · rw [upd_same, List.map_append]
        rfl
    · rintro H2 ⟨kp2, hP2, cs, hcl, hcs, hD2⟩
      have hcl6 : cs.length ≤ 6 := by omega
      refine ⟨_, D, (cs.map fun c => [c]).map SS, rfl, rfl, .inl (SqL.of (by rw [hD2, List.map_map, List.map_map]; rfl)), ?_, ?_⟩
      · rw [l_none, len_S]
        have := sum_short (ys := (cs.map fun c => [c]).map SS) (m := 1) (fun y hy => by
          obtain ⟨z, hz, rfl⟩ := List.mem_map.mp hy
          obtain ⟨c, _, rfl⟩ := List.mem_map.mp hz
          rw [len_S]
          simp)
        simp only [List.length_map, List.length_nil] at this ⊢
        omega
      rw [l_none, joinE, flat_one]
      refine ⟨_, rfl, a, 26, m + 1 + r.toNat, rfl, hP2, by omega, by decide, by decide, fun f H3 f0 f1 kp3 hP3 => ?_⟩
      have kp23 : Keep a H H3 := kp2.trans kp3
      have hP3a : H3 a ≠ none := by
        obtain ⟨o, e, _⟩ := hP3.at
        rw [e]
        simp
      refine ⟨52, rfl, by decide, by decide, fun E hE => lc_rel (Rl := fun _ v (z : List Nat) => v = .str (SS z)) (fun _ _ _ _ _ q => q) (walk_range (lo := 0) (n := 52)) yfn_same (fun _ _ => trivial) hE (by decide) (fun i => cs ++ [b + ((f + 7 * (0 + (i : Int))) % 26).toNat] ++ [b + ((0 + (i : Int)) / 26).toNat]) ?_ ?_⟩
      · rintro i x H4 H5 R Pn hi2 s4 ⟨rfl, rfl⟩ hR
        have u1 := Int.emod_nonneg (f + 7 * (0 + (i : Int))) (show (26 : Int) ≠ 0 by decide)
        have u2 := Int.emod_lt_of_pos (f + 7 * (0 + (i : Int))) (show (0 : Int) < 26 by decide)
        refine ⟨rfl, yesR ?_⟩
        refine ⟨_, rfl, _, rfl, _, rfl, _, rfl, _, _, rfl, rfl, .inl (by decide), _, _, rfl, rfl, _, _, rfl, rfl, (by show (0 : Int) < 26; decide), _, _, _, rfl, rfl, alf_len, alf_atI u1 u2, _, _, rfl, rfl, ?_, ?_⟩
        · rw [strS, len_S, len_S]
          exact szk (by simp; omega)
        refine ⟨_, rfl, _, rfl, _, _, rfl, rfl, ⟨by decide, by decide⟩, _, _, _, rfl, rfl, alf_len, alf_atI (by omega) (by omega), _, _, rfl, rfl, ?_, hR _ _ (Same.refl _) ?_⟩
        · rw [strS, strS, cat_S, len_S, len_S]
          exact szk (by simp; omega)
        · rw [strS, strS, cat_S, cat_S]
      · intro H4 ys s4 h4 hq
        obtain ⟨zs, rfl, hzl, hzs⟩ : ∃ zs : List (List Nat), ys = wV zs ∧ zs.length = 52 ∧ ∀ n ∈ zs, MkOk b n := by
          refine ⟨_, paired_strs hq, by simp, fun n hn => ?_⟩
          obtain ⟨i, hi3, rfl⟩ := List.mem_map.mp hn
          have hi3 := List.mem_range.mp hi3
          have u1 := Int.emod_nonneg (f + 7 * (0 + (i : Int))) (show (26 : Int) ≠ 0 by decide)
          have u2 := Int.emod_lt_of_pos (f + 7 * (0 + (i : Int))) (show (0 : Int) < 26 by decide)
          refine ⟨by simp, by simp; omega, fun c hc => ?_⟩
          simp only [List.mem_append, List.mem_cons, List.not_mem_nil, or_false] at hc
          rcases hc with (hc | rfl) | rfl
          · exact hcs c hc
          · omega
          · omega
        refine ⟨_, rfl, _, rfl, _, rfl, _, rfl, _, _, rfl, rfl, _, rfl, _, _, rfl, rfl, a, _, m + 1 + r.toNat + 1, rfl, hP3.same s4, by omega, by omega, by omega, fun q H5 q0 q1 kp5 hP5 => ?_⟩
        have hEa : E ≠ a := fun z => by
          rw [z] at hE
          exact hP3a hE
        refine ⟨_, _, rfl, rfl, _, rfl, E, _, rfl, SqL.of (kp5 _ _ h4 hEa), fun d hd => ?_⟩
        have ecut : cutV (wV zs) none (some ((lo : Int) + q)) = wV (zs.take (lo + q.toNat)) := by
          have e : (lo : Int) + q = ((lo + q.toNat : Nat) : Int) := by omega
          rw [e, cutV_to, wV_take]
        rw [ecut]
        have kp6 : Keep a H H5 := (kp23.same s4).trans kp5
        have hP5a : H5 a ≠ none := by
          obtain ⟨o, e, _⟩ := hP5.at
          rw [e]
          simp
        refine hk d _ _ (kp6.new hd) (keep_free kp6 hP5a hd) upd_same (fun n hn => hzs n (List.mem_of_mem_take hn)) ?_ ?_ ((hP5.same (same_new hd)).mono (by omega))
        · rw [List.length_take]
          omega
        · rw [List.length_take]
          omega
end
end Sw

/-! ## G21 -/
namespace Sw
open PySem PySem.Spec PyProof.Rows L2
open C8 (Cal Met Mak pe_c pe_mk pe_mt pe_mt0 pe_gc)
section
variable {P : Program} {w : World} {K : PySem.W.Frag} {mg : Str → Option Value} {base : Heap}
theorem lt_table : Str.ofString "table " = SS [116, 97, 98, 108, 101, 32] := by decide +kernel
theorem lt_01 : Str.ofString " 0,1=" = SS [32, 48, 44, 49, 61] := by decide +kernel
theorem lt_e : Str.ofString "*e" = SS [42, 101] := by decide +kernel
theorem lt_ce : Str.ofString ":e" = SS [58, 101] := by decide +kernel
theorem lt_bd : Str.ofString " -" = SS [32, 45] := by decide +kernel
theorem lt_c0 : Str.ofString ":0" = SS [58, 48] := by decide +kernel
theorem lt_sum : Str.ofString "sum " = SS [115, 117, 109, 32] := by decide +kernel
theorem lt_mix : Str.ofString "mix " = SS [109, 105, 120, 32] := by decide +kernel
theorem lt_b0 : Str.ofString " 0 " = SS [32, 48, 32] := by decide +kernel
theorem lt_drop : Str.ofString "drop " = SS [100, 114, 111, 112, 32] := by decide +kernel
theorem numZ_nat {n : Int} (h : 0 ≤ n) : numZ n = TL.numL n.toNat := by
  unfold numZ
  rw [if_neg (by omega)]
  congr 1
  omega
theorem numZ_neg {n : Int} (h : 0 < n) : numZ (-n) = 45 :: numZ n := by
  unfold numZ
  rw [if_pos (by omega), if_neg (by omega), Int.natAbs_neg]
abbrev N__law_table_line : List Str := ["_law_purse_here", "_law_name", "_law_count", "_law_text"]
abbrev s__law_table_line : Stmt := sLawTableLine
theorem sc__law_table_line : FnScope N__law_table_line ["_law_purse_here", "_law_name"] (defScope s__law_table_line) := ⟨rfl, rfl, rfl, by decide +kernel, rfl, by decide +kernel, by decide +kernel⟩
def sp__law_table_line (K : PySem.W.Frag) : Sp := fun vs H Q _ => ∃ (a : Addr) (n : List Nat) (m : Nat) (lt : List Tb) (ls : List Sm), vs = [.ref a, .str (SS n)] ∧ PuR H a m ∧ m ≤ 100000 ∧ NameOk n ∧ ∀ d c l H', Keep a H H' → H d = none → LlR K H' d (.tb n c l) lt ls → PuR H' a (m + 3) → Q (.ref d) H'
theorem ok__law_table_line (T : Tx w K mg) (c__law_take : Cal P w K mg base 2 "_law_take" (sp__law_take K) []) : Cal P w K mg base 3 "_law_table_line" (sp__law_table_line K) [] := by
  obtain ⟨fd, F, b⟩ := T.F__law_table_line
  refine ⟨_, fd, _, [], F.ok sc__law_table_line (fun vs H Q E h => ?_) (fun cdv A outer s H vs Q E hr h => ?_), T.g__law_table_line, F.kp, b, .nil⟩
  · obtain ⟨a, n, m, lt, ls, rfl, _⟩ := h
    rfl
  · obtain ⟨a, n, m, lt, ls, rfl, hP, hm, hn, hk⟩ := h
    have hu := hu_of hr
    have nd := sc__law_table_line.nd
    refine ⟨_, (pss_cons (ps_set (i := 2) nd rfl (.inl rfl) (pe_op op_add pe_int (pe_c c__law_take hr (by decide) rfl (pa_cons (pv 0) (pa_cons pe_int pa_nil)))))
      (pss_cons (ps_set (i := 3) nd rfl (.inl rfl) (pe_callTy call_str_int rfl T.m_str (by decide +kernel) (pa_cons (pv 2) pa_nil)))
      (C8.pss_cut (ps_if (PW.pt (pw_and (pt_cmpR op_gt (pv 2) pe_int (nomark _)) (pw_and1 (pt_cmpR op_eq (pe_c c__law_take hr (by decide) rfl (pa_cons (pv 0) (pa_cons pe_int pa_nil))) pe_int (nomark _))))) (pss_one (ps_set (i := 3) nd rfl (.inl rfl) (pe_op op_add_str (pe_op op_add_str (pe_op op_add_str (pv 3) pe_str) (pe_callTy call_str_int rfl T.m_str (by decide +kernel) (pa_cons (pe_op op_add pe_int (pe_c c__law_take hr (by decide) rfl (pa_cons (pv 0) (pa_cons pe_int pa_nil)))) pa_nil))) pe_str))) pss_nil)
      (pss_one (ps_ret (pe_lst (pa_cons (pe_op op_add_str (pe_op op_add_str (pe_op op_add_str pe_str (pv 1)) pe_str) (pv 3)) (pa_cons (pv 1) (pa_cons (pv 3) pa_nil))))))))), ?_⟩
    refine ⟨_, rfl, a, 3, m, rfl, hP, by omega, by decide, by decide, fun r H1 r0 r1 kp1 hP1 => ?_⟩
    refine ⟨_, _, rfl, rfl, ?_⟩
    obtain ⟨c, hc, hc1, hc3⟩ : ∃ c : Nat, (1 : Int) + r = (c : Int) ∧ 1 ≤ c ∧ c ≤ 3 := ⟨(1 + r).toNat, by omega, by omega, by omega⟩
    show gName 2 (V.int (1 + r)) _ _ _
    rw [hc]
    have ec : Str.ofString (toString ((c : Nat) : Int)) = SS (TL.numL c) := SX.num_S c
    have hcz : (TL.numL c).length ≤ 9 := numL_short (by omega)
    refine ⟨_, rfl, _, rfl, log_ok (by omega), ?_⟩
    show gName 3 (.str (Str.ofString (toString ((c : Nat) : Int)))) _ _ _
    rw [ec]
    refine ⟨fun σ' H' => ∃ l, LOk c l ∧ σ' = [some (.ref a), some (.str (SS n)), some (.int c), some (.str (SS (tabL c l)))] ∧ Keep a H H' ∧ PuR H' a (m + 3), ?_, ?_⟩
    · have none_ok : ∀ {H2 : Hp} {k : Nat}, Keep a H H2 → PuR H2 a k → k ≤ m + 3 → ∃ l, LOk c l ∧ [some (V.ref a), some (.str (SS n)), some (.int c), some (.str (SS (TL.numL c)))] = [some (.ref a), some (.str (SS n)), some (.int c), some (.str (SS (tabL c l)))] ∧ Keep a H H2 ∧ PuR H2 a (m + 3) := fun {H2 k} kp hp hk2 => ⟨none, ⟨hc1, hc3, fun d e => nomatch e⟩, by simp [tabL, leafL], kp, hp.mono hk2⟩
      refine ⟨_, rfl, _, _, rfl, rfl, _, rfl, ?_⟩
      refine if2 (fun h => ?_) (fun h => none_ok kp1 hP1 (by omega))
      have hc2 : 2 ≤ c := by
        have h := of_decide_eq_true h
        omega
      refine ⟨_, rfl, a, 2, m + 1, rfl, hP1, by omega, by decide, by decide, fun q H2 q0 q1 kp2 hP2 => ?_⟩
      refine ⟨rfl, _, rfl, ?_⟩
      refine if2 (fun h2 => ?_) (fun h2 => none_ok (kp1.trans kp2) hP2 (by omega))
      refine ⟨_, rfl, _, _, rfl, rfl, ?_, _, rfl, a, 9, m + 1 + 1, rfl, hP2, by omega, by decide, by decide, fun u H3 u0 u1 kp3 hP3 => ?_⟩
      · rw [lt_01, len_S, len_S]
        exact szk (by simp; omega)
      have hz9 := numZ_short (n := 1 + u) (by omega)
      refine ⟨_, _, rfl, rfl, _, rfl, log_ok (by omega), _, _, rfl, rfl, ?_, _, _, rfl, rfl, ?_, ?_⟩
      · rw [lt_01, cat_S, numZ_S, len_S, len_S]
        exact szk (by simp; omega)
      · rw [lt_01, lt_e, cat_S, numZ_S, cat_S, len_S, len_S]
        exact szk (by simp; omega)
      · refine ⟨some (1 + u), ⟨hc1, hc3, fun d e => ?_⟩, ?_, (kp1.trans kp2).trans kp3, hP3.mono (by omega)⟩
        · have e := Option.some.inj e
          omega
        · rw [lt_01, lt_e, cat_S, numZ_S, cat_S, cat_S]
          simp [tabL, leafL]
          rfl
    · rintro σ' H2 ⟨l, hL, rfl, kp2, hP2⟩
      have h60 := tab_len hL
      have hn8 := (name_w (.inl hn)).2.2
      refine ⟨_, rfl, _, _, rfl, rfl, ?_, _, _, rfl, rfl, ?_, _, rfl, _, _, rfl, rfl, ?_, _, rfl, _, rfl, sz3, fun d hd => ?_⟩
      · rw [lt_table, len_S, len_S]
        exact szk (by simp; omega)
      · rw [lt_table, l_blank, cat_S, len_S, len_S]
        exact szk (by simp; omega)
      · rw [lt_table, l_blank, cat_S, cat_S, len_S, len_S]
        exact szk (by simp; omega)
      have hPa : H2 a ≠ none := by
        obtain ⟨o, e, _⟩ := hP2.at
        rw [e]
        simp
      refine hk d c l _ (kp2.new hd) (keep_free kp2 hPa hd) ⟨_, ?_, rfl, hn, hL⟩ (hP2.same (same_new hd))
      rw [lt_table, l_blank, cat_S, cat_S, cat_S, upd_same, line_tb]
      simp [ansOf]
abbrev N__law_sum_line : List Str := ["_law_purse_here", "_law_sign", "_law_names", "_law_state", "_law_name", "_law_text"]
abbrev s__law_sum_line : Stmt := sLawSumLine
theorem sc__law_sum_line : FnScope N__law_sum_line ["_law_purse_here", "_law_sign", "_law_names", "_law_state"] (defScope s__law_sum_line) := ⟨rfl, rfl, rfl, by decide +kernel, rfl, by decide +kernel, by decide +kernel⟩
def sp__law_sum_line (K : PySem.W.Frag) : Sp := fun vs H Q _ => ∃ (a s : Addr) (sg : List Nat) (v : V) (m : Nat) (lt : List Tb) (ls : List Sm), vs = [.ref a, .str (SS sg), v, .ref s] ∧ PuR H a m ∧ m ≤ 100000 ∧ SignOk sg ∧ LR K H s lt ls ∧ 0 < lt.length ∧ lt.length < 64 ∧ (∀ e ∈ lt, NameOk e.1) ∧ ∀ d c H', Keep a H H' → H d = none → LlR K H' d c lt ls → (∃ nm t o, c = .sm sg nm t o) → PuR H' a (m + 5) → Q (.ref d) H'
theorem ok__law_sum_line (T : Tx w K mg) (c__law_take : Cal P w K mg base 2 "_law_take" (sp__law_take K) []) : Cal P w K mg base 3 "_law_sum_line" (sp__law_sum_line K) [] := by
  obtain ⟨fd, F, b⟩ := T.F__law_sum_line
  refine ⟨_, fd, _, [], F.ok sc__law_sum_line (fun vs H Q E h => ?_) (fun cdv A outer s H vs Q E hr h => ?_), T.g__law_sum_line, F.kp, b, .nil⟩
  · obtain ⟨a, s, sg, v, m, lt, ls, rfl, _⟩ := h
    rfl
  · obtain ⟨a, s, sg, v, m, lt, ls, rfl, hP, hm, hsg, hL, hl0, hl6, hN, hk⟩ := h
    have hu := hu_of hr
    have nd := sc__law_sum_line.nd
    refine ⟨_, (pss_cons (ps_set (i := 4) nd rfl (.inl rfl) (pe_ix ix_list (pe_callB (call_sortedD rfl) rfl T.m_sorted (by decide +kernel) (pa_cons (pe_ix ix_list (pv 3) pe_int (fun _ _ => rfl)) pa_nil)) (pe_c c__law_take hr (by decide) rfl (pa_cons (pv 0) (pa_cons (pe_callB call_lenD rfl T.m_len (by decide +kernel) (pa_cons (pe_ix ix_list (pv 3) pe_int (fun _ _ => rfl)) pa_nil)) pa_nil))) (fun _ _ => rfl)))
      (pss_cons (ps_set (i := 5) nd rfl (.inl rfl) (pe_op op_add_str (pe_callTy call_str_int rfl T.m_str (by decide +kernel) (pa_cons (pe_op op_add pe_int (pe_c c__law_take hr (by decide) rfl (pa_cons (pv 0) (pa_cons (pe_op op_pow pe_int pe_int) pa_nil)))) pa_nil)) pe_str))
      (C8.pss_cut (ps_if (pt_cmpR op_eq (pe_c c__law_take hr (by decide) rfl (pa_cons (pv 0) (pa_cons pe_int pa_nil))) pe_int (nomark _)) (pss_one (ps_set (i := 5) nd rfl (.inl rfl) (pe_op op_add_str (pe_op op_add_str (pe_op op_add_str (pv 5) pe_str) (pe_callTy call_str_int rfl T.m_str (by decide +kernel) (pa_cons (pe_op op_add pe_int (pe_c c__law_take hr (by decide) rfl (pa_cons (pv 0) (pa_cons pe_int pa_nil)))) pa_nil))) pe_str))) pss_nil)
      (pss_one (ps_ret (pe_lst (pa_cons (pe_op op_add_str (pe_op op_add_str (pe_op op_add_str (pe_op op_add_str (pe_op op_add_str pe_str (pv 1)) pe_str) (pv 4)) pe_str) (pv 5)) (pa_cons (pv 1) (pa_cons (pe_tup (pa_cons (pv 4) (pa_cons (pv 5) pa_nil))) pa_nil))))))))), ?_⟩
    obtain ⟨dt, ds, kt, ks, _, _, _, hs, et, hkt, es, hks, hnt, hns⟩ := id hL
    have hkl : kt.length = lt.length := Paired.length hkt
    refine ⟨_, rfl, _, _, _, _, rfl, rfl, hs, at_get (i := 0) rfl, dt, kt, lt.map fun e => SS e.1, rfl, .inl et, ?_, by rw [List.length_map]; omega, fun ys p hy1 hy2 hp => ?_⟩
    · rw [keys_rel ltE_key hkt, List.map_map, List.map_map]
      rfl
    have s1 := same_new (o := .lst (ys.map V.str)) hp
    have p1 : (upd H p (.lst (ys.map V.str))) p = some (.lst (ys.map V.str)) := upd_same
    have hpa : p ≠ a := fun z => by
      obtain ⟨o, e, _⟩ := hP.at
      rw [← z, hp] at e
      cases e
    have hs1 := s1.seq hs
    have et1 := s1 _ _ et
    have hP1 := hP.same s1
    have hL1 := hL.same s1
    generalize upd H p (.lst (ys.map V.str)) = H1 at s1 p1 hs1 et1 hP1 hL1 ⊢
    refine ⟨_, rfl, _, rfl, _, _, _, _, rfl, rfl, hs1, at_get (i := 0) rfl, dt, kt, rfl, et1, a, _, m, rfl, hP1, by omega, by omega, by omega, fun r H2 r0 r1 kp2 hP2 => ?_⟩
    have hyl : ys.length = lt.length := by rw [hy1.length_eq, List.length_map]
    obtain ⟨nm, hnm, hmem⟩ : ∃ nm, ys[r.toNat]? = some (SS nm) ∧ ∃ e ∈ lt, e.1 = nm := by
      have hlt : r.toNat < ys.length := by omega
      have hm := hy1.mem_iff.mp (List.getElem_mem hlt)
      obtain ⟨e, he, heq⟩ := List.mem_map.mp hm
      exact ⟨e.1, by rw [List.getElem?_eq_getElem hlt, heq], e, he, rfl⟩
    have p2 := kp2 _ _ p1 hpa
    refine ⟨p, _, r, .str (SS nm), rfl, rfl, SqL.of p2, ?_, ?_⟩
    · have e : r = ((r.toNat : Nat) : Int) := by omega
      rw [e]
      refine atI_nat ?_
      rw [List.getElem?_map, hnm]
      rfl
    have kp02 : Keep a H H2 := (Keep.of s1).trans kp2
    refine ⟨_, rfl, _, _, rfl, rfl, ⟨by decide, by decide, by decide⟩, a, 1000000, m + 1, (by show [V.ref a, V.int ((10 : Int) ^ (6 : Int).toNat)] = _; rw [pow6]), hP2, by omega, by decide, by decide, fun q H3 q0 q1 kp3 hP3 => ?_⟩
    refine ⟨_, _, rfl, rfl, _, rfl, log_ok (by omega), _, _, rfl, rfl, ?_, ?_⟩
    · have := numZ_short (n := 1 + q) (by omega)
      rw [numZ_S, lt_ce, len_S, len_S]
      exact szk (by simp; omega)
    show gName 5 (.str (Str.ofString (toString ((1 : Int) + q)) ++ Str.ofString ":e")) _ _ _
    have hz9 := numZ_short (n := 1 + q) (by omega)
    rw [numZ_S, lt_ce, cat_S]
    have kp03 := kp02.trans kp3
    refine ⟨fun σ' H' => ∃ o, SOk (1 + q) o ∧ σ' = [some (.ref a), some (.str (SS sg)), some v, some (.ref s), some (.str (SS nm)), some (.str (SS (sumL (1 + q) o)))] ∧ Keep a H H' ∧ PuR H' a (m + 5), ?_, ?_⟩
    · refine ⟨_, rfl, a, 2, m + 1 + 1, rfl, hP3, by omega, by decide, by decide, fun u H4 u0 u1 kp4 hP4 => ?_⟩
      refine ⟨rfl, _, rfl, ?_⟩
      refine if2 (fun h2 => ?_) (fun h2 => ⟨none, ⟨by omega, by omega, fun d e => nomatch e⟩, by simp [sumL, tailL]; rfl, kp03.trans kp4, hP4.mono (by omega)⟩)
      refine ⟨_, rfl, _, _, rfl, rfl, ?_, _, rfl, a, 9, m + 1 + 1 + 1, rfl, hP4, by omega, by decide, by decide, fun x H5 x0 x1 kp5 hP5 => ?_⟩
      · rw [lt_bd, len_S, len_S]
        exact szk (by simp; omega)
      have hx9 := numZ_short (n := 1 + x) (by omega)
      refine ⟨_, _, rfl, rfl, _, rfl, log_ok (by omega), _, _, rfl, rfl, ?_, _, _, rfl, rfl, ?_, ?_⟩
      · rw [lt_bd, cat_S, numZ_S, len_S, len_S]
        exact szk (by simp; omega)
      · rw [lt_bd, lt_c0, cat_S, numZ_S, cat_S, len_S, len_S]
        exact szk (by simp; omega)
      · refine ⟨some (-(1 + x)), ⟨by omega, by omega, fun d e => ?_⟩, ?_, (kp03.trans kp4).trans kp5, hP5.mono (by omega)⟩
        · have e := Option.some.inj e
          omega
        · rw [lt_bd, lt_c0, cat_S, numZ_S, cat_S, cat_S]
          simp [sumL, tailL, numZ_neg (show (0 : Int) < 1 + x by omega)]
          rfl
    · rintro σ' H4 ⟨o, hO, rfl, kp4, hP4⟩
      have h60 := sum_len hO
      have hg8 := (name_w (.inr hsg)).2.2
      obtain ⟨e0, he0, hee⟩ := hmem
      have hnN : NameOk nm := hee ▸ hN e0 he0
      have hn8 := (name_w (.inl hnN)).2.2
      refine ⟨_, rfl, _, _, rfl, rfl, ?_, _, _, rfl, rfl, ?_, _, rfl, _, _, rfl, rfl, ?_, _, _, rfl, rfl, ?_, _, rfl, _, _, rfl, rfl, ?_, _, rfl, _, rfl, _, rfl, sz2, fun x hx => ?_⟩
      · rw [lt_sum, len_S, len_S]
        exact szk (by simp; omega)
      · rw [lt_sum, l_blank, cat_S, len_S, len_S]
        exact szk (by simp; omega)
      · rw [lt_sum, l_blank, cat_S, cat_S, len_S, len_S]
        exact szk (by simp; omega)
      · rw [lt_sum, l_blank, cat_S, cat_S, cat_S, len_S, len_S]
        exact szk (by simp; omega)
      · rw [lt_sum, l_blank, cat_S, cat_S, cat_S, cat_S, len_S, len_S]
        exact szk (by simp; omega)
      refine ⟨sz3, fun d hd => ?_⟩
      have hPa : H4 a ≠ none := by
        obtain ⟨o, e, _⟩ := hP4.at
        rw [e]
        simp
      have s5 := same_new (o := .tup [.str (SS nm), .str (SS (sumL (1 + q) o))]) hx
      have x5 : (upd H4 x (.tup [.str (SS nm), .str (SS (sumL (1 + q) o))])) x = some (.tup [.str (SS nm), .str (SS (sumL (1 + q) o))]) := upd_same
      have hPa5 : (upd H4 x (.tup [.str (SS nm), .str (SS (sumL (1 + q) o))])) a ≠ none := by
        obtain ⟨o, e, _⟩ := (hP4.same s5).at
        rw [e]
        simp
      have hP5 := hP4.same s5
      have kp5 := kp4.same s5
      generalize upd H4 x (.tup [.str (SS nm), .str (SS (sumL (1 + q) o))]) = H5 at s5 x5 hPa5 hP5 kp5 hd ⊢
      have hgt : (getE lt nm).isSome = true := by
        rw [← hee, getE_nd hnt he0]
        rfl
      refine hk d (.sm sg nm (1 + q) o) _ (kp5.new hd) (keep_free kp5 hPa5 hd) ⟨.ref x, ?_, ⟨x, rfl, SqT.of (same_new hd _ _ x5)⟩, hsg, hnN, hO, hgt⟩ ⟨nm, _, o, rfl⟩ (hP5.same (same_new hd))
      rw [lt_sum, l_blank, cat_S, cat_S, cat_S, cat_S, cat_S, upd_same, line_sm]
      simp [ansOf]
end
end Sw

/-! ## G22 -/
namespace Sw
open PySem PySem.Spec PyProof.Rows L2
open C8 (Cal Met Mak pe_c pe_mk pe_mt pe_mt0 pe_gc)
section
variable {P : Program} {w : World} {K : PySem.W.Frag} {mg : Str → Option Value} {base : Heap}
abbrev N__law_line : List Str := ["_law_purse_here", "_law_names", "_law_signs", "_law_state", "_law_way", "_law_stand", "_law_sign", "_law_one", "_law_name"]
abbrev s__law_line : Stmt := sLawLine
theorem sc__law_line : FnScope N__law_line ["_law_purse_here", "_law_names", "_law_signs", "_law_state"] (defScope s__law_line) := ⟨rfl, rfl, rfl, by decide +kernel, rfl, by decide +kernel, by decide +kernel⟩
def sp__law_line (K : PySem.W.Frag) : Sp := fun vs H Q _ => ∃ (a nb sb s : Addr) (m : Nat) (nn sn : List (List Nat)) (lt : List Tb) (ls : List Sm), vs = [.ref a, .ref nb, .ref sb, .ref s] ∧ PuR H a m ∧ m ≤ 1000 ∧ SqL K H nb (wV nn) ∧ SqL K H sb (wV sn) ∧ 0 < nn.length ∧ nn.length ≤ 100 ∧ 0 < sn.length ∧ sn.length ≤ 100 ∧ (∀ n ∈ nn, NameOk n) ∧ (∀ n ∈ sn, SignOk n) ∧ LR K H s lt ls ∧ 0 < lt.length ∧ lt.length < 64 ∧ ls.length < 64 ∧ (∀ e ∈ lt, NameOk e.1) ∧ (∀ e ∈ ls, SignOk e.1) ∧ ∀ d c H', Keep a H H' → H d = none → LlR K H' d c lt ls → Q (.ref d) H'
theorem ok__law_line (T : Tx w K mg) (c__law_take : Cal P w K mg base 2 "_law_take" (sp__law_take K) []) (c__law_table_line : Cal P w K mg base 3 "_law_table_line" (sp__law_table_line K) []) (c__law_sum_line : Cal P w K mg base 3 "_law_sum_line" (sp__law_sum_line K) []) : Cal P w K mg base 4 "_law_line" (sp__law_line K) [] := by
  obtain ⟨fd, F, b⟩ := T.F__law_line
  refine ⟨_, fd, _, [], F.ok sc__law_line (fun vs H Q E h => ?_) (fun cdv A outer s H vs Q E hr h => ?_), T.g__law_line, F.kp, b, .nil⟩
  · obtain ⟨a, nb, sb, s, m, nn, sn, lt, ls, rfl, _⟩ := h
    rfl
  · obtain ⟨a, nb, sb, s, m, nn, sn, lt, ls, rfl, hP, hm, hnn, hsn, hn0, hn1', hs0, hs1', hN, hS, hL, hl0, hl6, hls6, hLN, hG, hk⟩ := h
    have hu := hu_of hr
    have nd := sc__law_line.nd
    refine ⟨_, (pss_cons (ps_set (i := 4) nd rfl (.inl rfl) (pe_c c__law_take hr (by decide) rfl (pa_cons (pv 0) (pa_cons pe_int pa_nil))))
      (pss_cons (ps_set (i := 5) nd rfl (.inl rfl) (pe_callB (call_sortedD rfl) rfl T.m_sorted (by decide +kernel) (pa_cons (pe_ix ix_list (pv 3) pe_int (fun _ _ => rfl)) pa_nil)))
      (pss_cons (ps_set (i := 6) nd rfl (.inl rfl) (pe_ix ix_list (pv 2) (pe_c c__law_take hr (by decide) rfl (pa_cons (pv 0) (pa_cons (pe_callB call_len_seq rfl T.m_len (by decide +kernel) (pa_cons (pv 2) pa_nil)) pa_nil))) (fun _ _ => rfl)))
      (C8.pss_cut (ps_if (PW.pt (pw_and (pt_cmpR op_eq (pv 4) pe_int (nomark _)) (pw_and1 (pt_cmpR (op_neE hr.units) (pv 5) (pe_lst pa_nil) (nomark _))))) (pss_cons (ps_set (i := 7) nd rfl (.inl rfl) (pe_ix ix_list (pv 5) (pe_c c__law_take hr (by decide) rfl (pa_cons (pv 0) (pa_cons (pe_callB call_len_seq rfl T.m_len (by decide +kernel) (pa_cons (pv 5) pa_nil)) pa_nil))) (fun _ _ => rfl)))
      (pss_one (ps_ret (pe_lst (pa_cons (pe_op op_add_str (pe_op op_add_str (pe_op op_add_str (pe_op op_add_str (pe_op op_add_str pe_str (pv 6)) pe_str) (pv 7)) pe_str) (pv 7)) (pa_cons (pv 6) (pa_cons (pe_dget hu (pe_ix ix_list (pv 3) pe_int (fun _ _ => rfl)) (pv 7) (fun _ _ => rfl)) pa_nil))))))) pss_nil)
      (pss_cons (ps_if (pt_cmpR op_eq (pv 4) pe_int (nomark _)) (pss_one (ps_ret (pe_c c__law_table_line hr (by decide) rfl (pa_cons (pv 0) (pa_cons (pe_ix ix_list (pv 1) (pe_c c__law_take hr (by decide) rfl (pa_cons (pv 0) (pa_cons (pe_callB call_len_seq rfl T.m_len (by decide +kernel) (pa_cons (pv 1) pa_nil)) pa_nil))) (fun _ _ => rfl)) pa_nil))))) pss_nil)
      (C8.pss_cut (ps_if (PW.pt (pw_and (pt_cmpR op_eq (pv 4) pe_int (nomark _)) (pw_and1 (pt_cmpR op_gt (pe_callB call_lenD rfl T.m_len (by decide +kernel) (pa_cons (pe_ix ix_list (pv 3) pe_int (fun _ _ => rfl)) pa_nil)) pe_int (nomark _))))) (pss_cons (ps_set (i := 8) nd rfl (.inl rfl) (pe_ix ix_list (pe_callB (call_sortedD rfl) rfl T.m_sorted (by decide +kernel) (pa_cons (pe_ix ix_list (pv 3) pe_int (fun _ _ => rfl)) pa_nil)) (pe_c c__law_take hr (by decide) rfl (pa_cons (pv 0) (pa_cons (pe_callB call_lenD rfl T.m_len (by decide +kernel) (pa_cons (pe_ix ix_list (pv 3) pe_int (fun _ _ => rfl)) pa_nil)) pa_nil))) (fun _ _ => rfl)))
      (pss_one (ps_ret (pe_lst (pa_cons (pe_op op_add_str pe_str (pv 8)) (pa_cons (pv 8) (pa_cons pe_non pa_nil))))))) pss_nil)
      (C8.pss_cut (ps_if (PW.pt (pw_and (pt_cmpR op_eq (pv 4) pe_int (nomark _)) (pw_and1 (pt_cmpR (op_neE hr.units) (pv 5) (pe_lst pa_nil) (nomark _))))) (pss_cons (ps_set (i := 6) nd rfl (.inl rfl) (pe_ix ix_list (pv 5) (pe_c c__law_take hr (by decide) rfl (pa_cons (pv 0) (pa_cons (pe_callB call_len_seq rfl T.m_len (by decide +kernel) (pa_cons (pv 5) pa_nil)) pa_nil))) (fun _ _ => rfl)))
      (pss_one (ps_ret (pe_lst (pa_cons (pe_op op_add_str pe_str (pv 6)) (pa_cons (pv 6) (pa_cons pe_non pa_nil))))))) pss_nil)
      (pss_one (ps_ret (pe_c c__law_sum_line hr (by decide) rfl (pa_cons (pv 0) (pa_cons (pv 6) (pa_cons (pv 1) (pa_cons (pv 3) pa_nil)))))))))))))), ?_⟩
    refine ⟨_, rfl, a, 5, m, rfl, hP, by omega, by decide, by decide, fun r H1 r0 r1 kp1 hP1 => ?_⟩
    have hL1 := hL.keep hP kp1
    have hn1 := sqL_pu hnn hP kp1
    have hs1 := sqL_pu hsn hP kp1
    obtain ⟨dt, ds, kt, ks, _, _, _, hs, et, hkt, es, hks, hnt, hns⟩ := id hL1
    refine ⟨_, rfl, _, _, _, _, rfl, rfl, hs, at_get (i := 1) rfl, ds, ks, ls.map fun e => SS e.1, rfl, .inl es, ?_, by rw [List.length_map]; omega, fun ys p hy1 hy2 hp => ?_⟩
    · rw [keys_rel lsE_key hks, List.map_map, List.map_map]
      rfl
    have hyp : ys.Perm ((ls.map (·.1)).map SS) := by
      rw [List.map_map]
      exact hy1
    obtain ⟨ws, rfl, hwp⟩ := ad_list hyp
    have hwl : ws.length = ls.length := by rw [hwp.length_eq, List.length_map]
    have hwm : ∀ w ∈ ws, ∃ e, getE ls w = some e ∧ e.1 = w ∧ SignOk w := fun w hw => by
      obtain ⟨e, he, rfl⟩ := List.mem_map.mp (hwp.mem_iff.mp hw)
      exact ⟨e, getE_nd hns he, rfl, hG e he⟩
    have s1 := same_new (o := .lst (wV ws)) hp
    have p1 : (upd H1 p (.lst (wV ws))) p = some (.lst (wV ws)) := upd_same
    have hPu := hP1.same s1
    have hLu := hL1.same s1
    have hnu := s1.seq hn1
    have hsu := s1.seq hs1
    have kpu : Keep a H (upd H1 p (.lst (wV ws))) := kp1.same s1
    show gName 5 (.ref p) _ (upd H1 p (.lst (wV ws))) _
    generalize upd H1 p (.lst (wV ws)) = H2 at s1 p1 hPu hLu hnu hsu kpu ⊢
    refine ⟨_, rfl, _, rfl, _, rfl, _, _, rfl, .inl hsu, a, _, m + 1, rfl, hPu, by omega, by rw [wV_len]; omega, by rw [wV_len]; omega, fun r2 H3 g0 g1 kp3 hP3 => ?_⟩
    rw [wV_len] at g1
    obtain ⟨sg, hsg, hat⟩ := at_wV g0 g1
    have hn3 := sqL_pu hnu hPu kp3
    have hs3 := sqL_pu hsu hPu kp3
    have p3 : SqL K H3 p (wV ws) := sqL_pu (SqL.of p1) hPu kp3
    have hL3 := hLu.keep hPu kp3
    have kp03 := kpu.trans kp3
    have hsgO := hS sg hsg
    refine ⟨sb, _, r2, _, rfl, rfl, hs3, hat, ?_⟩
    refine ⟨fun σ' H' => Same H3 H' ∧ σ' = [some (.ref a), some (.ref nb), some (.ref sb), some (.ref s), some (.int r), some (.ref p), some (.str (SS sg)), none, none], ?_, ?_⟩
    · refine ⟨_, rfl, rfl, _, rfl, ?_⟩
      refine if2 (fun h => ?_) (fun h => ⟨Same.refl _, rfl⟩)
      refine ⟨_, rfl, sz0, fun e1 he1 => ?_⟩
      have s4 := same_new (o := .lst []) he1
      refine ⟨p, e1, wV ws, rfl, rfl, s4.seq p3, SqL.of upd_same, _, rfl, ?_⟩
      generalize upd H3 e1 (.lst []) = H4 at s4 ⊢
      refine if2 (fun h2 => ?_) (fun h2 => ⟨s4, rfl⟩)
      have hw0 : 0 < ws.length := by
        cases ws with
        | nil => simp [wV] at h2
        | cons x y => simp
      have hP4 := hP3.same s4
      refine ⟨_, rfl, _, rfl, _, rfl, _, _, rfl, .inl (s4.seq p3), a, _, m + 1 + 1, rfl, hP4, by omega, by rw [wV_len]; omega, by rw [wV_len]; omega, fun r3 H5 k0 k1 kp5 hP5 => ?_⟩
      rw [wV_len] at k1
      obtain ⟨one, hone, hat1⟩ := at_wV k0 k1
      refine ⟨p, _, r3, _, rfl, rfl, sqL_pu (s4.seq p3) hP4 kp5, hat1, ?_⟩
      obtain ⟨e, he, hee, hoO⟩ := hwm one hone
      have hL5 := (hL3.same s4).keep hP4 kp5
      obtain ⟨dt5, ds5, kt5, ks5, _, _, _, hs5, et5, hkt5, es5, hks5, _, _⟩ := hL5
      obtain ⟨_, v, hv, _, x, ev, hX⟩ := valV_some lsE_key hks5 he
      have ev : v = .ref x := ev
      subst ev
      have hg8 := (name_w (.inr hsgO)).2.2
      have ho8 := (name_w (.inr hoO)).2.2
      refine ⟨_, rfl, _, _, rfl, rfl, ?_, _, _, rfl, rfl, ?_, _, rfl, _, _, rfl, rfl, ?_, _, _, rfl, rfl, ?_, _, rfl, _, _, rfl, rfl, ?_, _, rfl, _, rfl, _, _, _, _, rfl, rfl, hs5, at_get (i := 1) rfl, _, rfl, _, _, rfl, dgetS (.inl es5) hv, sz3, fun d hd => ?_⟩
      · rw [lt_mix, len_S, len_S]
        exact szk (by simp; omega)
      · rw [lt_mix, l_blank, cat_S, len_S, len_S]
        exact szk (by simp; omega)
      · rw [lt_mix, l_blank, cat_S, cat_S, len_S, len_S]
        exact szk (by simp; omega)
      · rw [lt_mix, l_blank, lt_b0, cat_S, cat_S, cat_S, len_S, len_S]
        exact szk (by simp; omega)
      · rw [lt_mix, l_blank, lt_b0, cat_S, cat_S, cat_S, cat_S, len_S, len_S]
        exact szk (by simp; omega)
      have kp05 := (kp03.same s4).trans kp5
      refine hk d (.mx sg one) _ (kp05.new hd) (keep_free kp05 (pu_ne hP5) hd) ⟨.ref x, ?_, ⟨e.2.1, e.2.2.1, e.2.2.2, x, ?_, rfl, Same.sqT (same_new hd) hX⟩, hsgO, hoO, by rw [he]; rfl⟩
      · rw [lt_mix, l_blank, lt_b0, cat_S, cat_S, cat_S, cat_S, cat_S, upd_same]
        simp [lineOf, wsOf, TL.joinL, ansOf]
      · rw [he, ← hee]
    · rintro σ' H4 ⟨s4, rfl⟩
      have hP4 := hP3.same s4
      have hL4 := hL3.same s4
      have kp04 := kp03.same s4
      refine ⟨_, rfl, rfl, _, rfl, ?_⟩
      refine if2 (fun h => ?_) (fun h => ?_)
      · refine ⟨_, rfl, _, rfl, _, rfl, _, rfl, _, _, rfl, .inl (s4.seq hn3), a, _, m + 1 + 1, rfl, hP4, by omega, by rw [wV_len]; omega, by rw [wV_len]; omega, fun r3 H5 k0 k1 kp5 hP5 => ?_⟩
        rw [wV_len] at k1
        obtain ⟨n, hnm, hat1⟩ := at_wV k0 k1
        have kp05 := kp04.trans kp5
        exact ⟨nb, _, r3, _, rfl, rfl, sqL_pu (s4.seq hn3) hP4 kp5, hat1, a, n, _, lt, ls, rfl, hP5, by omega, hN n hnm, fun d c l H6 kp6 hd hl hP6 => hk d _ H6 (kp05.trans kp6) (keep_free kp05 (pu_ne hP5) hd) hl⟩
      refine ⟨fun σ' H' => Same H4 H' ∧ σ' = [some (.ref a), some (.ref nb), some (.ref sb), some (.ref s), some (.int r), some (.ref p), some (.str (SS sg)), none, none], ?_, ?_⟩
      · refine ⟨_, rfl, rfl, _, rfl, ?_⟩
        refine if2 (fun h => ?_) (fun h => ⟨Same.refl _, rfl⟩)
        obtain ⟨dt5, ds5, kt5, ks5, _, _, _, hs5, et5, hkt5, es5, hks5, hnt5, _⟩ := id hL4
        have hkl : kt5.length = lt.length := Paired.length hkt5
        refine ⟨_, rfl, _, _, _, _, rfl, rfl, hs5, at_get (i := 0) rfl, dt5, kt5, rfl, et5, _, _, rfl, rfl, _, rfl, ?_⟩
        refine if2 (fun h2 => ?_) (fun h2 => ⟨Same.refl _, rfl⟩)
        have h2 := of_decide_eq_true h2
        refine ⟨_, rfl, _, _, _, _, rfl, rfl, hs5, at_get (i := 0) rfl, dt5, kt5, lt.map fun e => SS e.1, rfl, .inl et5, ?_, by rw [List.length_map]; omega, fun ys2 p2 hy3 hy4 hp2 => ?_⟩
        · rw [keys_rel ltE_key hkt5, List.map_map, List.map_map]
          rfl
        have hyp2 : ys2.Perm ((lt.map (·.1)).map SS) := by
          rw [List.map_map]
          exact hy3
        obtain ⟨us, rfl, hup⟩ := ad_list hyp2
        have hul : us.length = lt.length := by rw [hup.length_eq, List.length_map]
        have s5 := same_new (o := .lst (wV us)) hp2
        have p5 : (upd H4 p2 (.lst (wV us))) p2 = some (.lst (wV us)) := upd_same
        show (_ : Prop)
        have hP5 := hP4.same s5
        have hs6 := s5.seq hs5
        have et6 := s5 _ _ et5
        refine ⟨_, rfl, _, rfl, _, _, _, _, rfl, rfl, hs6, at_get (i := 0) rfl, dt5, kt5, rfl, et6, a, _, m + 1 + 1, rfl, hP5, by omega, by omega, by omega, fun r3 H6 k0 k1 kp6 hP6 => ?_⟩
        obtain ⟨n, hnm, hat1⟩ := at_wV (ns := us) k0 (by omega)
        have hn8 : n.length ≤ 8 ∧ NameOk n ∧ (getE lt n).isSome = true := by
          obtain ⟨e, he, rfl⟩ := List.mem_map.mp (hup.mem_iff.mp hnm)
          exact ⟨(name_w (.inl (hLN e he))).2.2, hLN e he, by rw [getE_nd hnt5 he]; rfl⟩
        refine ⟨p2, _, r3, _, rfl, rfl, sqL_pu (SqL.of p5) hP5 kp6, hat1, ?_⟩
        refine ⟨_, rfl, _, _, rfl, rfl, ?_, _, rfl, sz3, fun d hd => ?_⟩
        · rw [lt_drop, len_S, len_S]
          exact szk (by simp; omega)
        have kp06 := (kp04.same s5).trans kp6
        refine hk d (.dr n) _ (kp06.new hd) (keep_free kp06 (pu_ne hP6) hd) ⟨.non, ?_, rfl, .inl ⟨hn8.2.2, hn8.2.1, by omega⟩⟩
        rw [lt_drop, cat_S, upd_same]
        simp [lineOf, wsOf, TL.joinL, ansOf]
      · rintro σ' H5 ⟨s5, rfl⟩
        have hP5 := hP4.same s5
        have hL5 := hL4.same s5
        have kp05 := kp04.same s5
        have p5 := (s4.trans s5).seq p3
        refine ⟨fun σ' H' => Same H5 H' ∧ σ' = [some (.ref a), some (.ref nb), some (.ref sb), some (.ref s), some (.int r), some (.ref p), some (.str (SS sg)), none, none], ?_, ?_⟩
        · refine ⟨_, rfl, rfl, _, rfl, ?_⟩
          refine if2 (fun h => ?_) (fun h => ⟨Same.refl _, rfl⟩)
          refine ⟨_, rfl, sz0, fun e1 he1 => ?_⟩
          have s6 := same_new (o := .lst []) he1
          refine ⟨p, e1, wV ws, rfl, rfl, s6.seq p5, SqL.of upd_same, _, rfl, ?_⟩
          generalize upd H5 e1 (.lst []) = H6 at s6 ⊢
          refine if2 (fun h2 => ?_) (fun h2 => ⟨s6, rfl⟩)
          have hw0 : 0 < ws.length := by
            cases ws with
            | nil => simp [wV] at h2
            | cons x y => simp
          have hP6 := hP5.same s6
          refine ⟨_, rfl, _, rfl, _, rfl, _, _, rfl, .inl (s6.seq p5), a, _, m + 1 + 1, rfl, hP6, by omega, by rw [wV_len]; omega, by rw [wV_len]; omega, fun r3 H7 k0 k1 kp7 hP7 => ?_⟩
          rw [wV_len] at k1
          obtain ⟨one, hone, hat1⟩ := at_wV k0 k1
          obtain ⟨e, he, hee, hoO⟩ := hwm one hone
          have ho8 := (name_w (.inr hoO)).2.2
          refine ⟨p, _, r3, _, rfl, rfl, sqL_pu (s6.seq p5) hP6 kp7, hat1, ?_⟩
          refine ⟨_, rfl, _, _, rfl, rfl, ?_, _, rfl, sz3, fun d hd => ?_⟩
          · rw [lt_drop, len_S, len_S]
            exact szk (by simp; omega)
          have kp07 := (kp05.same s6).trans kp7
          refine hk d (.dr one) _ (kp07.new hd) (keep_free kp07 (pu_ne hP7) hd) ⟨.non, ?_, rfl, .inr ⟨by rw [he]; rfl, hoO⟩⟩
          rw [lt_drop, cat_S, upd_same]
          simp [lineOf, wsOf, TL.joinL, ansOf]
        · rintro σ' H6 ⟨s6, rfl⟩
          have kp06 := kp05.same s6
          exact ⟨_, rfl, _, rfl, _, rfl, _, rfl, a, s, sg, _, _, lt, ls, rfl, hP5.same s6, by omega, hsgO, hL5.same s6, hl0, hl6, hLN, fun d c H7 kp7 hd hl _ hP7 => hk d c H7 (kp06.trans kp7) (keep_free kp06 (pu_ne (hP5.same s6)) hd) hl⟩
end
end Sw

/-! ## G23 -/
namespace Sw
open PySem PySem.Spec PyProof.Rows L2
open C8 (Cal Met Mak pe_c pe_mk pe_mt pe_mt0 pe_gc)
section
variable {P : Program} {w : World} {K : PySem.W.Frag} {mg : Str → Option Value} {base : Heap}
abbrev N__law_behind : List Str := ["_law_state", "_law_line_here", "_law_text", "_law_word", "_law_told", "_law_tables", "_law_sums", "_law_part", "_law_sign", "_law_name"]
abbrev s__law_behind : Stmt := sLawBehind
theorem sc__law_behind : FnScope N__law_behind ["_law_state", "_law_line_here"] (defScope s__law_behind) := ⟨rfl, rfl, rfl, by decide +kernel, rfl, by decide +kernel, by decide +kernel⟩
def sp__law_behind (K : PySem.W.Frag) : Sp := fun vs H Q _ => ∃ (s d : Addr) (c : Cm) (lt : List Tb) (ls : List Sm), vs = [.ref s, .ref d] ∧ LR K H s lt ls ∧ LlR K H d c lt ls ∧ lt.length ≤ 500 ∧ ls.length ≤ 500 ∧ ∀ s' H', Same H H' → LRx K (fun b => H b = none) H' s' (ltB lt c) (lsB ls c) → Q (.ref s') H'
theorem ok__law_behind (T : Tx w K mg) : Cal P w K mg base 1 "_law_behind" (sp__law_behind K) [] := by
  obtain ⟨fd, F, b⟩ := T.F__law_behind
  refine ⟨_, fd, _, [], F.ok sc__law_behind (fun vs H Q E h => ?_) (fun cdv A outer s H vs Q E hr h => ?_), T.g__law_behind, F.kp, b, .nil⟩
  · obtain ⟨s, d, c, lt, ls, rfl, _⟩ := h
    rfl
  · obtain ⟨s, d, c, lt, ls, rfl, hL, hLl, hl5, hls5, hk⟩ := h
    have hu := hu_of hr
    have nd := sc__law_behind.nd
    refine ⟨_, (pss_cons (ps_asg (pv 1) (pg_lst rfl (pgs_cons (pg_name (i := 2) nd rfl (.inl rfl)) (pgs_cons (pg_name (i := 3) nd rfl (.inr rfl)) (pgs_cons (pg_name (i := 4) nd rfl (.inl rfl)) pgs_nil)))))
      (pss_cons (ps_asg (pe_lc (own := [("_law_part", 7)]) (g := gName 7) rfl nd (pi_list (pv 0)) (blkOk_by (own := [("_law_part", 7)]) (N := N__law_behind) (sc := defScope s__law_behind) (by decide +kernel)) (fun _ _ _ _ _ => (pg_name (i := 7) nd rfl (.inl rfl))) (fun _ _ _ _ _ => pts_nil) (fun _ _ _ _ _ => (pe_callTy call_dictD rfl T.m_dict (by decide +kernel) (pa_cons (pv 7) pa_nil)))) (pg_lst rfl (pgs_cons (pg_name (i := 5) nd rfl (.inr rfl)) (pgs_cons (pg_name (i := 6) nd rfl (.inr rfl)) pgs_nil))))
      (pss_cons (ps_if (pt_cmpR op_in_seq (pe_slice C8.sl_txt (pv 2) po_none (po_some pe_int)) (pe_lst (pa_cons pe_str (pa_cons pe_str pa_nil))) rfl) (pss_cons (ps_dput hu (pv 6) (pv 3) (pv 4) rfl)
      (pss_one (ps_ret (pe_lst (pa_cons (pv 5) (pa_cons (pv 6) pa_nil)))))) pss_nil)
      (pss_cons (ps_set (i := 6) nd rfl (.inr rfl) (pe_callTy (call_dictP rfl) rfl T.m_dict (by decide +kernel) (pa_cons (pe_lock (pe_lc (own := [("_law_sign", 8)]) (g := gName 8) rfl nd (pi_keys (pv 6)) (blkOk_by (own := [("_law_sign", 8)]) (N := N__law_behind) (sc := defScope s__law_behind) (by decide +kernel)) (fun _ _ _ _ _ => (pg_name (i := 8) nd rfl (.inl rfl))) (fun _ _ _ _ _ => (pts_one (PW.pt (pw_and (pt_cmpR op_ne (pv 8) (pv 3) (nomark _)) (pw_and1 (pt_cmpR op_ne (pe_ix (ix_tupK K) (pe_dget hu (pv 6) (pv 8) (fun _ _ => rfl)) pe_int (fun _ _ => rfl)) (pv 3) (nomark _))))))) (fun _ _ _ _ _ => (pe_tup (pa_cons (pv 8) (pa_cons (pe_dget hu (pv 6) (pv 8) (fun _ _ => rfl)) pa_nil)))))) pa_nil)))
      (pss_cons (ps_set (i := 5) nd rfl (.inr rfl) (pe_callTy (call_dictP rfl) rfl T.m_dict (by decide +kernel) (pa_cons (pe_lock (pe_lc (own := [("_law_name", 9)]) (g := gName 9) rfl nd (pi_keys (pv 5)) (blkOk_by (own := [("_law_name", 9)]) (N := N__law_behind) (sc := defScope s__law_behind) (by decide +kernel)) (fun _ _ _ _ _ => (pg_name (i := 9) nd rfl (.inl rfl))) (fun _ _ _ _ _ => (pts_one (pt_cmpR op_ne (pv 9) (pv 3) (nomark _)))) (fun _ _ _ _ _ => (pe_tup (pa_cons (pv 9) (pa_cons (pe_dget hu (pv 5) (pv 9) (fun _ _ => rfl)) pa_nil)))))) pa_nil)))
      (pss_cons (ps_if (pt_cmpR op_notN (pv 4) pe_non (nomark _)) (pss_one (ps_dput hu (pv 5) (pv 3) (pv 4) rfl)) pss_nil)
      (pss_one (ps_ret (pe_lst (pa_cons (pv 5) (pa_cons (pv 6) pa_nil))))))))))), ?_⟩
    obtain ⟨dt, ds, kt, ks, _, _, _, hs, et, hkt, es, hks, hnt, hns⟩ := id hL
    obtain ⟨tv, hd, hT, hC⟩ := hLl
    have hktl : kt.length = lt.length := Paired.length hkt
    have hksl : ks.length = ls.length := Paired.length hks
    refine ⟨_, rfl, d, _, rfl, SqL.of hd, rfl, _, _, rfl, _, _, rfl, _, _, rfl, rfl, ?_⟩
    refine ⟨_, rfl, s, rfl, ⟨_, hs⟩, fun D hD => ?_⟩
    refine lc_it (walk_list (xs := [.ref dt, .ref ds])) (fun i H' => Same H H' ∧ (i = 0 → H' D = some (.lst [])) ∧ (i = 1 → ∃ d1, H d1 = none ∧ d1 ≠ D ∧ H' D = some (.lst [.ref d1]) ∧ H' d1 = some (.dK kt)) ∧ (i = 2 → ∃ d1 d2, H d1 = none ∧ H d2 = none ∧ d1 ≠ d2 ∧ H' D = some (.lst [.ref d1, .ref d2]) ∧ H' d1 = some (.dK kt) ∧ H' d2 = some (.dK ks))) ⟨same_new hD, fun _ => upd_same, fun z => absurd z (by decide), fun z => absurd z (by decide)⟩ (fun i H' _ e => e.1.seq hs) ?_ ?_
    · rintro i x H1 H2 hi ⟨s1, h0, h1, _⟩ ⟨rfl, hxi⟩
      have hi2 : i < 2 := hi
      by_cases hi0 : i = 0
      · subst hi0
        have ex : V.ref dt = x := Option.some.inj hxi
        subst ex
        have D1 := h0 rfl
        refine ⟨rfl, yesR ⟨_, rfl, dt, kt, rfl, .inl (s1 _ _ et), fun d1 hd1 => ?_⟩⟩
        have n1 : D ≠ d1 := ne_free D1 hd1
        have s2 := s1.trans (same_new (o := .dK kt) hd1)
        refine ⟨[], by rw [upd_ne n1]; exact D1, by decide, Same.mut s2 hD, fun z => absurd z (by decide), fun _ => ⟨d1, s1.free hd1, n1.symm, upd_same, ?_⟩, fun z => absurd z (by decide)⟩
        rw [upd_ne n1.symm]
        exact upd_same
      · have hi1 : i = 1 := by omega
        subst hi1
        have ex : V.ref ds = x := Option.some.inj hxi
        subst ex
        obtain ⟨d1, f1, n1, D1, k1⟩ := h1 rfl
        refine ⟨rfl, yesR ⟨_, rfl, ds, ks, rfl, .inl (s1 _ _ es), fun d2 hd2 => ?_⟩⟩
        have n2 : D ≠ d2 := ne_free D1 hd2
        have n12 : d1 ≠ d2 := ne_free k1 hd2
        have s2 := s1.trans (same_new (o := .dK ks) hd2)
        refine ⟨[.ref d1], by rw [upd_ne n2]; exact D1, szl (by simp), Same.mut s2 hD, fun z => absurd z (by decide), fun z => absurd z (by decide), fun _ => ⟨d1, d2, f1, s1.free hd2, n12, upd_same, ?_, ?_⟩⟩
        · rw [upd_ne n1, upd_ne n12]
          exact k1
        · rw [upd_ne n2.symm]
          exact upd_same
    · rintro H1 ⟨s1, _, _, h2⟩
      obtain ⟨d1, d2, f1, f2, n12, D1, k1, k2⟩ := h2 rfl
      refine ⟨D, _, rfl, SqL.of D1, rfl, _, _, rfl, _, _, rfl, rfl, ?_⟩
      have fin : ∀ (H2 : Hp) (lt' : List Tb) (ls' : List Sm) (kt' ks' : List (Key × V)) (t1 t2 : Addr), Same H H2 → H t1 = none → H t2 = none → H2 t1 = some (.dK kt') → Paired LtE kt' lt' → H2 t2 = some (.dK ks') → Paired (LsE K H2) ks' ls' → (lt'.map (·.1)).Nodup → (ls'.map (·.1)).Nodup → ∀ s', H2 s' = none → LRx K (fun b => H b = none) (upd H2 s' (.lst [.ref t1, .ref t2])) s' lt' ls' := fun H2 lt' ls' kt' ks' t1 t2 e a1 a2 a3 a4 a5 a6 a7 a8 s' hs' =>
        ⟨t1, t2, kt', ks', e.free hs', a1, a2, upd_same, same_new hs' _ _ a3, a4, same_new hs' _ _ a5, Paired.mapP a6 fun _ _ ⟨q, x, r1, r2⟩ => ⟨q, x, r1, Same.sqT (same_new hs') r2⟩, a7, a8⟩
      have hcut : Txt.slice (SS (lineOf c)) none (some 3) = SS ((lineOf c).take 3) := SX.slice_to (by decide)
      have hll := lc_len hC
      have hks1 : Paired (LsE K H1) ks ls := Paired.mapP hks fun _ _ ⟨q, x, r1, r2⟩ => ⟨q, x, r1, Same.sqT s1 r2⟩
      have nk1 : (kt.map (·.1)).Nodup := by
        rw [keys_rel ltE_key hkt]
        exact keys_nd hnt
      have nk2 : (ks.map (·.1)).Nodup := by
        rw [keys_rel lsE_key hks]
        exact keys_nd hns
      refine ⟨_, rfl, _, rfl, _, rfl, szk (by rw [len_S]; omega), sz2, fun e he => ?_⟩
      have s2 := s1.trans (same_new (o := .lst [.str (Str.ofString "sum"), .str (Str.ofString "mix")]) he)
      have k1' := same_new (o := .lst [.str (Str.ofString "sum"), .str (Str.ofString "mix")]) he _ _ k1
      have k2' := same_new (o := .lst [.str (Str.ofString "sum"), .str (Str.ofString "mix")]) he _ _ k2
      refine ⟨e, _, rfl, .inl (SqL.of upd_same), rfl, rfl, _, rfl, ?_⟩
      rw [if_neg (by simp), hcut]
      generalize upd H1 e (.lst [.str (Str.ofString "sum"), .str (Str.ofString "mix")]) = H2 at s2 k1' k2' ⊢
      have hks2 : Paired (LsE K H2) ks ls := Paired.mapP hks fun _ _ ⟨q, x, r1, r2⟩ => ⟨q, x, r1, Same.sqT s2 r2⟩
      have key : (inV (.str (SS ((lineOf c).take 3))) [.str (Str.ofString "sum"), .str (Str.ofString "mix")] = true ∧ ∃ nm t o x, lsB ls c = putE ls (ansOf c, nm, t, o) ∧ ltB lt c = lt ∧ tv = .ref x ∧ SqT K H x [.str (SS nm), .str (SS (sumL t o))]) ∨ (inV (.str (SS ((lineOf c).take 3))) [.str (Str.ofString "sum"), .str (Str.ofString "mix")] = false ∧ lsB ls c = (ls.filter fun e => decide (e.1 ≠ ansOf c) && decide (e.2.1 ≠ ansOf c)) ∧ ((∃ c' l, ltB lt c = dropE lt (ansOf c) ++ [(ansOf c, c', l)] ∧ tv = .str (SS (tabL c' l))) ∨ (ltB lt c = dropE lt (ansOf c) ∧ tv = .non))) := by
        cases c with
        | sm sg nm t o =>
          obtain ⟨x, e1, e2⟩ := hT
          refine .inl ⟨?_, nm, t, o, x, rfl, rfl, e1, e2⟩
          rw [line_sm]
          simp only [List.cons_append, List.take_succ_cons, List.take_zero]
          decide +kernel
        | mx sg one =>
          obtain ⟨nm, t, o, x, e0, e1, e2⟩ := hT
          refine .inl ⟨?_, nm, t, o, x, ?_, rfl, e1, e2⟩
          · simp only [lineOf, wsOf, TL.joinL, List.cons_append, List.take_succ_cons, List.take_zero]
            decide +kernel
          · show (match getE ls one with | some e => putE ls (sg, e.2) | none => ls) = _
            rw [e0]
            rfl
        | tb n c l =>
          refine .inr ⟨?_, rfl, .inl ⟨c, l, rfl, hT⟩⟩
          rw [line_tb]
          simp only [List.cons_append, List.take_succ_cons, List.take_zero]
          decide +kernel
        | dr x =>
          refine .inr ⟨?_, rfl, .inr ⟨rfl, hT⟩⟩
          simp only [lineOf, wsOf, TL.joinL, List.cons_append, List.take_succ_cons, List.take_zero]
          decide +kernel
        | al => exact hC.elim
        | sh x => exact hC.elim
        | ru n => exact hC.elim
        | ofs s => exact hC.elim
        | un => exact hC.elim
      generalize ansOf c = wd at key
      rcases key with ⟨hin, nm, t, o, x, e1, e2, rfl, hX⟩ | ⟨hin, e1, e2⟩
      · refine ifT hin ?_
        have ht : SameT H2 (upd H2 d2 (.dK (putK ks (.inr (SS wd)) (.ref x)))) := SameT.chg k2' rfl
        refine ⟨_, rfl, _, rfl, _, rfl, d2, _, rfl, DPut.k (k := .inr (SS wd)) k2' (szl (by omega)), ?_⟩
        refine ⟨_, rfl, _, rfl, sz2, fun s' hs' => ?_⟩
        have s3 : Same H (upd H2 d2 (.dK (putK ks (.inr (SS wd)) (.ref x)))) := Same.mut s2 f2
        refine hk s' _ (s3.trans (same_new hs')) ?_
        rw [e1, e2]
        refine fin _ _ _ kt (putK ks (.inr (SS wd)) (.ref x)) d1 d2 s3 f1 f2 (by rw [upd_ne n12]; exact k1') hkt upd_same ?_ hnt (nodup_put hns) s' hs'
        exact put_rel lsE_key (e := (wd, nm, t, o)) ⟨rfl, x, rfl, Same.sqT s3 hX⟩ (Paired.mapP hks2 fun _ _ q => lsE_t q ht)
      · refine ifF hin ?_
        refine ⟨d2, _, k2', trivial, fun od => ?_⟩
        have tL : SameT H2 (upd H2 d2 (.frz od (.dK ks))) := SameT.chg k2' rfl
        have k2F : (upd H2 d2 (.frz od (.dK ks))) d2 = some (.frz od (.dK ks)) := upd_same
        have back : ∀ H', Same (upd H2 d2 (.frz od (.dK ks))) H' → Same H2 (upd H' d2 (.dK ks)) := fun H' s => lock_back k2' s
        generalize upd H2 d2 (.frz od (.dK ks)) = HL at tL k2F back ⊢
        refine ⟨_, rfl, d2, od, rfl, .inl ⟨ks, k2F, fun E hE => ?_⟩⟩
        refine lc_it walk_keys (fun i H' => Same HL H' ∧ ∃ (ps : List Addr) (kvs : List (Key × V)), H' E = some (.lst (ps.map V.ref)) ∧ Paired (fun p kv => SqT K H' p [kV kv.1, kv.2]) ps kvs ∧ Paired (LsE K H2) kvs ((ls.take i).filter fun e => decide (e.1 ≠ wd) && decide (e.2.1 ≠ wd))) ⟨same_new hE, [], [], upd_same, .nil, .nil⟩ (fun i H' _ e => e.1 _ _ k2F) ?_ ?_
        · rintro i x H3 H4 hi2 ⟨s3, ps, kvs, hE3, hps, hkvs⟩ ⟨rfl, kk, vv, hkv, rfl⟩
          obtain ⟨e, he, hse⟩ := paired_get hks2 hkv
          obtain ⟨ek, y, ev, hy⟩ := id hse
          have ek : kk = .inr (SS e.1) := ek
          have ev : vv = .ref y := ev
          subst ek ev
          have hval : valV ks (.inr (SS e.1)) = some (.ref y) := valV_nd nk2 hkv
          have hpl : ps.length ≤ i := by
            have h1 := Paired.length hps
            have h2 := Paired.length hkvs
            have h3 := List.length_filter_le (fun e : Sm => decide (e.1 ≠ wd) && decide (e.2.1 ≠ wd)) (ls.take i)
            have h4 := List.length_take_le i ls
            omega
          have hi3 : i < ls.length := by rw [← hksl]; exact hi2
          have etk : ls.take (i + 1) = ls.take i ++ [e] := by rw [List.take_add_one, he]; rfl
          refine ⟨rfl, _, rfl, _, rfl, rfl, _, rfl, ?_⟩
          by_cases hw1 : e.1 = wd
          · refine ifF (by show (!decide (V.str (SS e.1) = V.str (SS wd))) = false; rw [hw1]; simp) ⟨s3, ps, kvs, hE3, hps, ?_⟩
            rw [etk, List.filter_append]
            simp only [List.filter_cons, List.filter_nil, hw1]
            simpa using hkvs
          refine ifT (by show (!decide (V.str (SS e.1) = V.str (SS wd))) = true; simp [str_ne hw1]) ?_
          refine ⟨_, rfl, _, rfl, _, _, rfl, dgetS (.inr ⟨od, s3 _ _ k2F⟩) hval, _, _, _, _, rfl, rfl, Same.sqT s3 (sqT_t hy tL), rfl, _, rfl, rfl, _, rfl, ?_⟩
          by_cases hw2 : e.2.1 = wd
          · refine ifF (by rw [hw2]; simp) ⟨s3, ps, kvs, hE3, hps, ?_⟩
            rw [etk, List.filter_append]
            simp only [List.filter_cons, List.filter_nil, hw2]
            simpa using hkvs
          refine ifT (by simp [str_ne hw2]) ?_
          refine ⟨_, rfl, _, rfl, _, rfl, _, _, rfl, dgetS (.inr ⟨od, s3 _ _ k2F⟩) hval, sz2, fun t ht => ?_⟩
          have s4 := s3.trans (same_new (o := .tup [.str (SS e.1), .ref y]) ht)
          refine ⟨ps.map V.ref, same_new ht _ _ hE3, szl (by rw [List.length_map]; omega), Same.mut s4 hE, ps ++ [t], kvs ++ [(.inr (SS e.1), .ref y)], (by rw [upd_same, List.map_append]; rfl), ?_, ?_⟩
          · refine Paired.snoc (Paired.mapP hps fun _ _ g => sqT_t (Same.sqT (same_new ht) g) (SameT.lst (same_new ht _ _ hE3))) ?_
            exact sqT_t (SqT.of upd_same) (SameT.lst (same_new ht _ _ hE3))
          · rw [etk, List.filter_append]
            have ef : [e].filter (fun e => decide (e.1 ≠ wd) && decide (e.2.1 ≠ wd)) = [e] := by simp [hw1, hw2]
            rw [ef]
            exact Paired.snoc hkvs hse
        · rintro H3 ⟨s3, ps, kvs, hE3, hps, hkvs⟩
          rw [hksl, List.take_length] at hkvs
          have hEn : E ≠ d2 := fun z => by
            rw [z, k2F] at hE
            cases hE
          have s4 := back H3 s3
          have E4 : (upd H3 d2 (.dK ks)) E = some (.lst (ps.map V.ref)) := by rw [upd_ne hEn]; exact hE3
          have ps4 : Paired (fun p kv => SqT K (upd H3 d2 (.dK ks)) p [kV kv.1, kv.2]) ps kvs := Paired.mapP hps fun a kv g => sqT_frz g (s3 _ _ k2F)
          refine ⟨s3 _ _ k2F, E, ps, kvs, rfl, SqL.of E4, ps4, fun d3 hd3 => ?_⟩
          have hnd3 : ((ls.filter fun e => decide (e.1 ≠ wd) && decide (e.2.1 ≠ wd)).map (·.1)).Nodup := nodup_filter hns
          rw [mergeK_nd kvs [] (by rw [List.nil_append, keys_rel lsE_key hkvs]; exact keys_nd hnd3), List.nil_append]
          have s5 := s4.trans (same_new (o := .dK kvs) hd3)
          have d35 : (upd (upd H3 d2 (.dK ks)) d3 (.dK kvs)) d3 = some (.dK kvs) := upd_same
          have f3 : H d3 = none := (s2.trans s4).free hd3
          show gName _ (.ref d3) _ (upd (upd H3 d2 (.dK ks)) d3 (.dK kvs)) _
          generalize upd (upd H3 d2 (.dK ks)) d3 (.dK kvs) = H5 at s5 d35 ⊢
          have hkvs5 : Paired (LsE K H5) kvs (ls.filter fun e => decide (e.1 ≠ wd) && decide (e.2.1 ≠ wd)) := Paired.mapP hkvs fun _ _ q => lsE_t q (Same.t s5)
          have s25 := s2.trans s5
          have k15 := s5 _ _ k1'
          -- the tables
          refine ⟨d1, _, k15, trivial, fun od2 => ?_⟩
          have k1F : (upd H5 d1 (.frz od2 (.dK kt))) d1 = some (.frz od2 (.dK kt)) := upd_same
          have back2 : ∀ H', Same (upd H5 d1 (.frz od2 (.dK kt))) H' → Same H5 (upd H' d1 (.dK kt)) := fun H' s => lock_back k15 s
          generalize upd H5 d1 (.frz od2 (.dK kt)) = HM at k1F back2 ⊢
          refine ⟨_, rfl, d1, od2, rfl, .inl ⟨kt, k1F, fun F hF => ?_⟩⟩
          refine lc_it walk_keys (fun i H' => Same HM H' ∧ ∃ (ps : List Addr) (kvs : List (Key × V)), H' F = some (.lst (ps.map V.ref)) ∧ Paired (fun p kv => SqT K H' p [kV kv.1, kv.2]) ps kvs ∧ Paired LtE kvs (dropE (lt.take i) wd)) ⟨same_new hF, [], [], upd_same, .nil, .nil⟩ (fun i H' _ e => e.1 _ _ k1F) ?_ ?_
          · rintro i x H6 H7 hi2 ⟨s6, qs, kws, hF6, hqs, hkws⟩ ⟨rfl, kk, vv, hkv, rfl⟩
            obtain ⟨e, he, hse⟩ := paired_get hkt hkv
            obtain ⟨ek, ev⟩ := id hse
            have ek : kk = .inr (SS e.1) := ek
            subst ek
            have hval : valV kt (.inr (SS e.1)) = some vv := valV_nd nk1 hkv
            have hpl : qs.length ≤ i := by
              have h1 := Paired.length hqs
              have h2 := Paired.length hkws
              have h3 : (dropE (lt.take i) wd).length ≤ (lt.take i).length := List.length_filter_le _ _
              have h4 := List.length_take_le i lt
              omega
            have hi3 : i < lt.length := by rw [← hktl]; exact hi2
            have etk : lt.take (i + 1) = lt.take i ++ [e] := by rw [List.take_add_one, he]; rfl
            refine ⟨rfl, _, rfl, _, rfl, rfl, _, rfl, ?_⟩
            by_cases hw1 : e.1 = wd
            · refine ifF (by show (!decide (V.str (SS e.1) = V.str (SS wd))) = false; rw [hw1]; simp) ⟨s6, qs, kws, hF6, hqs, ?_⟩
              rw [etk, dropE, List.filter_append]
              simp only [List.filter_cons, List.filter_nil, hw1]
              simpa [dropE] using hkws
            refine ifT (by show (!decide (V.str (SS e.1) = V.str (SS wd))) = true; simp [str_ne hw1]) ?_
            refine ⟨_, rfl, _, rfl, _, rfl, _, _, rfl, dgetS (.inr ⟨od2, s6 _ _ k1F⟩) hval, sz2, fun t ht => ?_⟩
            have s7 := s6.trans (same_new (o := .tup [.str (SS e.1), vv]) ht)
            refine ⟨qs.map V.ref, same_new ht _ _ hF6, szl (by rw [List.length_map]; omega), Same.mut s7 hF, qs ++ [t], kws ++ [(.inr (SS e.1), vv)], (by rw [upd_same, List.map_append]; rfl), ?_, ?_⟩
            · refine Paired.snoc (Paired.mapP hqs fun _ _ g => sqT_t (Same.sqT (same_new ht) g) (SameT.lst (same_new ht _ _ hF6))) ?_
              exact sqT_t (SqT.of upd_same) (SameT.lst (same_new ht _ _ hF6))
            · rw [etk, dropE, List.filter_append]
              have ef : [e].filter (fun e => decide (e.1 ≠ wd)) = [e] := by simp [hw1]
              rw [ef]
              exact Paired.snoc hkws hse
          · rintro H6 ⟨s6, qs, kws, hF6, hqs, hkws⟩
            rw [hktl, List.take_length] at hkws
            have hFn : F ≠ d1 := fun z => by
              rw [z, k1F] at hF
              cases hF
            have s7 := back2 H6 s6
            have F7 : (upd H6 d1 (.dK kt)) F = some (.lst (qs.map V.ref)) := by rw [upd_ne hFn]; exact hF6
            have qs7 : Paired (fun p kv => SqT K (upd H6 d1 (.dK kt)) p [kV kv.1, kv.2]) qs kws := Paired.mapP hqs fun a kv g => sqT_frz g (s6 _ _ k1F)
            refine ⟨s6 _ _ k1F, F, qs, kws, rfl, SqL.of F7, qs7, fun d4 hd4 => ?_⟩
            have hnd4 : ((dropE lt wd).map (·.1)).Nodup := nodup_filter hnt
            rw [mergeK_nd kws [] (by rw [List.nil_append, keys_rel ltE_key hkws]; exact keys_nd hnd4), List.nil_append]
            have s8 := s7.trans (same_new (o := .dK kws) hd4)
            have d48 : (upd (upd H6 d1 (.dK kt)) d4 (.dK kws)) d4 = some (.dK kws) := upd_same
            have f4 : H d4 = none := (s25.trans s7).free hd4
            show gName _ (.ref d4) _ (upd (upd H6 d1 (.dK kt)) d4 (.dK kws)) _
            generalize upd (upd H6 d1 (.dK kt)) d4 (.dK kws) = H8 at s8 d48 ⊢
            have s28 := s25.trans s8
            have d38 := s8 _ _ d35
            have hkvs8 : Paired (LsE K H8) kvs (ls.filter fun e => decide (e.1 ≠ wd) && decide (e.2.1 ≠ wd)) := Paired.mapP hkvs5 fun _ _ q => lsE_t q (Same.t s8)
            have n34 : d3 ≠ d4 := ne_free d35 (s7.free hd4)
            rcases e2 with ⟨c', l, e2, rfl⟩ | ⟨e2, rfl⟩
            · refine ⟨_, rfl, rfl, _, rfl, ifT rfl ?_⟩
              have hkl : kws.length ≤ lt.length := by
                rw [Paired.length hkws]
                exact List.length_filter_le _ _
              refine ⟨_, rfl, _, rfl, _, rfl, d4, _, rfl, DPut.k (k := .inr (SS wd)) d48 (szl (by omega)), ?_⟩
              have hno : valV kws (.inr (SS wd)) = none := valV_free (by
                rw [keys_rel ltE_key hkws]
                intro hm
                obtain ⟨z, hz, ez⟩ := List.mem_map.mp hm
                have : z = wd := SX.S_inj (by injection ez)
                rw [this] at hz
                exact drop_no hz)
              rw [Sw.putK_new hno]
              have s9 : Same H (upd H8 d4 (.dK (kws ++ [(.inr (SS wd), .str (SS (tabL c' l)))]))) := Same.mut s28 f4
              refine ⟨_, rfl, _, rfl, sz2, fun s' hs' => ?_⟩
              refine hk s' _ (s9.trans (same_new hs')) ?_
              rw [e1, e2]
              refine fin _ _ _ (kws ++ [(.inr (SS wd), .str (SS (tabL c' l)))]) kvs d4 d3 s9 f4 f3 upd_same (Paired.snoc hkws ⟨rfl, rfl⟩) (by rw [upd_ne n34]; exact d38) (Paired.mapP hkvs8 fun _ _ q => lsE_t q (SameT.chg d48 rfl)) ?_ (nodup_filter hns) s' hs'
              rw [List.map_append, List.nodup_append]
              refine ⟨hnd4, by simp, fun x hx y hy z => ?_⟩
              simp only [List.map_cons, List.map_nil, List.mem_singleton] at hy
              rw [z, hy] at hx
              exact drop_no hx
            · refine ⟨_, rfl, rfl, _, rfl, ifF rfl ?_⟩
              refine ⟨_, rfl, _, rfl, sz2, fun s' hs' => ?_⟩
              refine hk s' _ (s28.trans (same_new hs')) ?_
              rw [e1, e2]
              exact fin _ _ _ kws kvs d4 d3 s28 f4 f3 d48 hkws d38 hkvs8 hnd4 (nodup_filter hns) s' hs'
end
end Sw

/-! ## Rep8 -/
/-! the law's states against the bench's -/
namespace Sw
open PySem PySem.Spec PyProof.Rows L2
theorem rising_pw : ∀ (p : Str) (l : List Str), risingS p l = true → (p :: l).Pairwise (fun a b => a.cps.toList ≤ b.cps.toList)
  | p, [], _ => by simp
  | p, x :: r, h => by
    have h : (!ltCps x.cps.toList p.cps.toList && risingS x r) = true := h
    rw [Bool.and_eq_true, ltCps_eq] at h
    have h1 : p.cps.toList ≤ x.cps.toList := by
      have := h.1
      simpa using this
    have ih := rising_pw x r h.2
    refine List.pairwise_cons.mpr ⟨fun y hy => ?_, ih⟩
    rcases List.mem_cons.mp hy with rfl | hy
    · exact h1
    · exact List.le_trans h1 ((List.pairwise_cons.mp ih).1 y hy)
theorem sorted_pw : ∀ (l : List Str), sortedS l = true → l.Pairwise (fun a b => a.cps.toList ≤ b.cps.toList)
  | [], _ => .nil
  | x :: r, h => rising_pw x r h
theorem sorted_eq {a b : List Str} (h1 : sortedS a = true) (h2 : sortedS b = true) (hp : a.Perm b) : a = b :=
  List.Perm.eq_of_pairwise (fun x y _ _ h h' => TL.ext_tl (List.le_antisymm h h')) (sorted_pw a h1) (sorted_pw b h2) hp
section
variable {K : PySem.W.Frag} {G H H' : Hp}
theorem BR.lock {p d : Addr} {B : Bn} {o : HO} (h : BR K G H p B) (hd : d ∉ muts p B) (hg : G d = none) : BR K G (upd H d o) p B := by
  have ne : ∀ b ∈ muts p B, b ≠ d := fun b hb z => hd (z ▸ hb)
  obtain ⟨dx, hi⟩ := h.ins
  obtain ⟨xs, h1, h2⟩ := h.pa
  refine ⟨Same.mut h.sm hg, h.gn, h.nd, ⟨dx, ?_⟩, ⟨xs, ?_, h2⟩, h.dt.g (Same.refl _) (fun w q => ?_), h.ds.g (Same.refl _) (fun w q => ?_), fun e he => ⟨(h.ps e he).1.g (Same.refl _) (fun w q => ?_), (h.ps e he).2.g (Same.refl _) (fun w q => ?_)⟩⟩
  · rw [upd_ne (ne _ mem_p)]
    exact hi
  · rw [upd_ne (ne _ mem_pa)]
    exact h1
  · rw [upd_ne (ne _ mem_dt)]
    exact q
  · rw [upd_ne (ne _ mem_ds)]
    exact q
  · rw [upd_ne (ne _ (mem_e1 he))]
    exact q
  · rw [upd_ne (ne _ (mem_e2 he))]
    exact q
theorem getE_perm {A : Type} {es fs : List (List Nat × A)} (hp : es.Perm fs) (hn : (es.map (·.1)).Nodup) {e : List Nat × A} (he : e ∈ fs) : getE es e.1 = some e := getE_nd hn (hp.mem_iff.mpr he)
theorem name_sign {n : List Nat} (h1 : NameOk n) (h2 : SignOk n) : False := by
  cases n with
  | nil =>
    have := h1.1
    simp at this
  | cons c r =>
    have a := h1.2.2 c List.mem_cons_self
    have b := h2.2.2 c List.mem_cons_self
    omega
theorem no_table {ts : List Tb} (h : ∀ e ∈ ts, NameOk e.1) {s : List Nat} (hs : SignOk s) : getE ts s = none := by
  cases h0 : getE ts s with
  | none => rfl
  | some e =>
    obtain ⟨h1, h2⟩ := getE_mem h0
    exact (name_sign (h2 ▸ h e h1) hs).elim
theorem no_sum {ss : List Sm} (h : ∀ e ∈ ss, SignOk e.1) {n : List Nat} (hn : NameOk n) : getE ss n = none := by
  cases h0 : getE ss n with
  | none => rfl
  | some e =>
    obtain ⟨h1, h2⟩ := getE_mem h0
    exact (name_sign hn (h2 ▸ h e h1)).elim
/-- what a state is -/
structure Wf (ts : List Tb) (ss : List Sm) : Prop where
  tn : ∀ e ∈ ts, NameOk e.1 ∧ LOk e.2.1 e.2.2
  sn : ∀ e ∈ ss, SignOk e.1 ∧ NameOk e.2.1 ∧ SOk e.2.2.1 e.2.2.2 ∧ (getE ts e.2.1).isSome = true
theorem same_names {A : Type} {es fs : List (List Nat × A)} (hp : es.Perm fs) : (es.map fun e => SS e.1).Perm (fs.map fun e => SS e.1) := hp.map _
end
end Sw

/-! ## G24 -/
namespace Sw
open PySem PySem.Spec PyProof.Rows L2
open C8 (Cal Met Mak pe_c pe_mk pe_mt pe_mt0 pe_gc)
section
variable {P : Program} {w : World} {K : PySem.W.Frag} {mg : Str → Option Value} {base : Heap}
theorem lt_show : Str.ofString "show " = SS [115, 104, 111, 119, 32] := by decide +kernel
theorem lt_rule : Str.ofString "rule " = SS [114, 117, 108, 101, 32] := by decide +kernel
theorem lt_of : Str.ofString "of " = SS [111, 102, 32] := by decide +kernel
theorem lt_all : Str.ofString "all" = SS (lineOf .al) := by decide +kernel
theorem lt_undo : Str.ofString "undo" = SS (lineOf .un) := by decide +kernel
theorem lt_keeps : Str.ofString "keeps" = SS [107, 101, 101, 112, 115] := by decide +kernel
theorem cat_show {n : List Nat} : Str.ofString "show " ++ SS n = SS (lineOf (.sh n)) := by
  rw [lt_show, cat_S]
  simp [lineOf, wsOf, TL.joinL]
theorem cat_rule {n : List Nat} : Str.ofString "rule " ++ SS n = SS (lineOf (.ru n)) := by
  rw [lt_rule, cat_S]
  simp [lineOf, wsOf, TL.joinL]
theorem cat_of {n : List Nat} : Str.ofString "of " ++ SS n = SS (lineOf (.ofs n)) := by
  rw [lt_of, cat_S]
  simp [lineOf, wsOf, TL.joinL]
abbrev N__law_stands : List Str := ["_law_bench", "_law_state", "_law_tables", "_law_sums", "_law_name", "_law_sign"]
abbrev s__law_stands : Stmt := sLawStands
theorem sc__law_stands : FnScope N__law_stands ["_law_bench", "_law_state"] (defScope s__law_stands) := ⟨rfl, rfl, rfl, by decide +kernel, rfl, by decide +kernel, by decide +kernel⟩
def sp__law_stands (K : PySem.W.Frag) : Sp := fun vs H Q _ => ∃ (p s : Addr) (G : Hp) (B : Bn) (lt : List Tb) (ls : List Sm), vs = [.ref p, .ref s] ∧ BR K G H p B ∧ Small B ∧ LRn K (fun b => b ∉ muts p B ∧ G b = none) H s lt ls ∧ B.ts.Perm lt ∧ B.ss = ls ∧ Wf lt ls ∧ ∀ H', Same H H' → Q (.bl true) H'
theorem ok__law_stands (T : Tx w K mg) (c_Bench_tell : MetX P w K mg base 9 (He.ga K "Bench") "tell" (sp_Bench_tell K)) : Cal P w K mg base 10 "_law_stands" (sp__law_stands K) [] := by
  obtain ⟨fd, F, b⟩ := T.F__law_stands
  refine ⟨_, fd, _, [], F.ok sc__law_stands (fun vs H Q E h => ?_) (fun cdv A outer s H vs Q E hr h => ?_), T.g__law_stands, F.kp, b, .nil⟩
  · obtain ⟨p, s, G, B, lt, ls, rfl, _⟩ := h
    rfl
  · obtain ⟨p, s, G, B, lt, ls, rfl, hB, hSm, hL, hpe, hse, hW, hk⟩ := h
    have hu := hu_of hr
    have nd := sc__law_stands.nd
    refine ⟨_, (pss_cons (ps_asg (pv 1) (pg_lst rfl (pgs_cons (pg_name (i := 2) nd rfl (.inl rfl)) (pgs_cons (pg_name (i := 3) nd rfl (.inl rfl)) pgs_nil))))
      (pss_cons (ps_if (pt_cmpR op_ne (pe_mtX c_Bench_tell hr (by decide) (pv 0) (pa_cons pe_str pa_nil)) (pe_join pe_str (pe_op op_cat (pe_callB (call_sortedD rfl) rfl T.m_sorted (by decide +kernel) (pa_cons (pv 2) pa_nil)) (pe_callB (call_sortedD rfl) rfl T.m_sorted (by decide +kernel) (pa_cons (pv 3) pa_nil)))) (nomark _)) (pss_one (ps_ret pe_bl)) pss_nil)
      (pss_cons (ps_lock (ps_for PassesOwn.never rfl (pi_keys (pv 2)) (pg_name (i := 4) nd rfl (.inl rfl)) (pss_one (ps_if (PW.pt (pw_or (pt_cmpR op_ne (pe_mtX c_Bench_tell hr (by decide) (pv 0) (pa_cons (pe_op op_add_str pe_str (pv 4)) pa_nil)) (pe_dget hu (pv 2) (pv 4) (fun _ _ => rfl)) (nomark _)) (pw_or1 (pt_cmpR op_ne (pe_mtX c_Bench_tell hr (by decide) (pv 0) (pa_cons (pe_op op_add_str pe_str (pv 4)) pa_nil)) pe_str (nomark _))))) (pss_one (ps_ret pe_bl)) pss_nil))))
      (pss_cons (ps_lock (ps_for PassesOwn.never rfl (pi_keys (pv 3)) (pg_name (i := 5) nd rfl (.inl rfl)) (pss_one (ps_if (PW.pt (pw_or (pt_cmpR op_ne (pe_mtX c_Bench_tell hr (by decide) (pv 0) (pa_cons (pe_op op_add_str pe_str (pv 5)) pa_nil)) (pe_ix ix_tup (pe_dget hu (pv 3) (pv 5) (fun _ _ => rfl)) pe_int (fun _ _ => rfl)) (nomark _)) (pw_or1 (pt_cmpR op_ne (pe_mtX c_Bench_tell hr (by decide) (pv 0) (pa_cons (pe_op op_add_str pe_str (pv 5)) pa_nil)) (pe_ix ix_tup (pe_dget hu (pv 3) (pv 5) (fun _ _ => rfl)) pe_int (fun _ _ => rfl)) (nomark _))))) (pss_one (ps_ret pe_bl)) pss_nil))))
      (pss_one (ps_ret pe_bl)))))), ?_⟩
    obtain ⟨dt, ds, kt, ks, _, fdt, fds, hs, et, hkt, es, hks, hnt, hns⟩ := id hL
    obtain ⟨dx, hi⟩ := hB.ins
    obtain ⟨q1, q2, q3, q4, q5⟩ := id hSm
    have hntB := hB.dt.1
    have htl : B.ts.length = lt.length := hpe.length_eq
    have hsn : ∀ e ∈ B.ts, NameOk e.1 := fun e he => (hW.tn e (hpe.mem_iff.mp he)).1
    refine ⟨_, rfl, s, _, rfl, hs, rfl, _, _, rfl, _, _, rfl, rfl, ?_⟩
    refine ⟨_, rfl, p, dx, _, rfl, hi, bfl_no (by decide +kernel) (by decide +kernel) (by decide +kernel), p, .al, G, B, (by rw [lt_all]; rfl), hB, hSm, trivial, fun ys zs H1 s1 y1 y2 z1 z2 => ?_⟩
    refine ⟨⟨_, rfl⟩, _, rfl, dt, kt, lt.map fun e => SS e.1, rfl, .inl (s1 _ _ et), ?_, by rw [List.length_map]; omega, fun us p2 u1 u2 hp2 => ?_⟩
    · rw [keys_rel ltE_key hkt, List.map_map, List.map_map]
      rfl
    have s2 := s1.trans (same_new (o := .lst (us.map V.str)) hp2)
    have g2 : (upd H1 p2 (.lst (us.map V.str))) p2 = some (.lst (us.map V.str)) := upd_same
    generalize upd H1 p2 (.lst (us.map V.str)) = H2 at s2 g2 ⊢
    refine ⟨_, rfl, ds, ks, ls.map fun e => SS e.1, rfl, .inl (s2 _ _ es), ?_, by rw [List.length_map, ← hse]; omega, fun ws p3 w1 w2 hp3 => ?_⟩
    · rw [keys_rel lsE_key hks, List.map_map, List.map_map]
      rfl
    have s3 := s2.trans (same_new (o := .lst (ws.map V.str)) hp3)
    have g3 : (upd H2 p3 (.lst (ws.map V.str))) p3 = some (.lst (ws.map V.str)) := upd_same
    have g23 := same_new (o := .lst (ws.map V.str)) hp3 _ _ g2
    generalize upd H2 p3 (.lst (ws.map V.str)) = H3 at s3 g3 g23 ⊢
    have lu : us.length < 64 := by rw [u1.length_eq, List.length_map]; omega
    have lw : ws.length < 64 := by rw [w1.length_eq, List.length_map, ← hse]; omega
    have eu : ys = us := sorted_eq y2 u2 (y1.trans ((same_names hpe).trans u1.symm))
    have ew : zs = ws := sorted_eq z2 w2 (z1.trans (by rw [hse]; exact w1.symm))
    refine ⟨p2, p3, us.map V.str, ws.map V.str, rfl, rfl, g23, g3, szk (by rw [List.length_map, List.length_map]; omega), fun p4 hp4 => ?_⟩
    rw [← List.map_append]
    have s4 := s3.trans (same_new (o := .lst ((us ++ ws).map V.str)) hp4)
    refine ⟨_, p4, us ++ ws, rfl, rfl, .inl (SqL.of upd_same), ?_, ?_⟩
    · have b1 := sum_short (ys := us) (m := 8) fun y hy => by
        obtain ⟨e, he, rfl⟩ := List.mem_map.mp (u1.mem_iff.mp hy)
        rw [len_S]
        exact q4 e (hpe.mem_iff.mpr he)
      have b2 := sum_short (ys := ws) (m := 8) fun y hy => by
        obtain ⟨e, he, rfl⟩ := List.mem_map.mp (w1.mem_iff.mp hy)
        rw [len_S]
        exact q5 e (by rw [hse]; exact he)
      rw [List.map_append, List.sum_append, List.length_append, l_blank, len_S]
      simp only [List.length_cons, List.length_nil]
      omega
    generalize upd H3 p4 (.lst ((us ++ ws).map V.str)) = H4 at s4 ⊢
    refine ⟨rfl, _, rfl, ifF (by rw [l_blank, eu, ew]; simp) ?_⟩
    -- the tables
    have et4 := s4 _ _ et
    refine ⟨dt, _, et4, trivial, fun od => ?_⟩
    have hBL : BR K G (upd H4 dt (.frz od (.dK kt))) p B := (hB.same s4).lock fdt.1 fdt.2
    have etF : (upd H4 dt (.frz od (.dK kt))) dt = some (.frz od (.dK kt)) := upd_same
    have back : ∀ H', Same (upd H4 dt (.frz od (.dK kt))) H' → Same H4 (upd H' dt (.dK kt)) := fun H' s => lock_back et4 s
    generalize upd H4 dt (.frz od (.dK kt)) = HL at hBL etF back ⊢
    have nk1 : (kt.map (·.1)).Nodup := by
      rw [keys_rel ltE_key hkt]
      exact keys_nd hnt
    have nk2 : (ks.map (·.1)).Nodup := by
      rw [keys_rel lsE_key hks]
      exact keys_nd hns
    refine ⟨_, rfl, dt, od, rfl, .inl ⟨kt, etF, for_it (walk_keys (kvs := kt)) (fun i σ H' => Same HL H' ∧ ∃ v4 v5, σ = [some (.ref p), some (.ref s), some (.ref dt), some (.ref ds), v4, v5]) ⟨Same.refl _, none, none, rfl⟩ (fun i σ H' _ e => e.1 _ _ etF) ?_ ?_⟩⟩
    · rintro i x σ H5 H6 hi2 ⟨s5, v4, v5, rfl⟩ ⟨rfl, kk, vv, hkv, rfl⟩
      obtain ⟨e, he, hre⟩ := paired_get hkt hkv
      obtain ⟨n, c, l⟩ := e
      obtain ⟨ek, ev⟩ := id hre
      have ek : kk = .inr (SS n) := ek
      have ev : vv = .str (SS (tabL c l)) := ev
      subst ek ev
      have hval : valV kt (.inr (SS n)) = some (.str (SS (tabL c l))) := valV_nd nk1 hkv
      have hmem := List.mem_of_getElem? he
      obtain ⟨hn, hlo⟩ := hW.tn _ hmem
      have hn : NameOk n := hn
      have hgt : getE B.ts n = some (n, c, l) := getE_perm hpe hntB hmem
      have hn8 := (name_w (.inl hn)).2.2
      obtain ⟨dx5, hi5⟩ := (hBL.same s5).ins
      refine ⟨_, rfl, p, dx5, _, rfl, hi5, bfl_no (by decide +kernel) (by decide +kernel) (by decide +kernel), _, rfl, _, _, rfl, rfl, szk (by rw [lt_show, len_S, len_S]; simp; omega), p, .sh n, G, B, (by rw [cat_show]; rfl), hBL.same s5, hSm, ⟨.inl hn, .inl ⟨c, l, hgt⟩⟩, fun c2 l2 H7 hg7 s7 => ?_, fun _ _ _ _ h0 => by rw [hgt] at h0; cases h0⟩
      rw [hgt] at hg7
      injection Option.some.inj hg7 with _ hg8
      injection hg8 with hg9 hg10
      subst hg9 hg10
      have s57 := s5.trans s7
      refine ⟨_, rfl, _, rfl, _, _, rfl, dgetS (.inr ⟨od, s57 _ _ etF⟩) hval, rfl, _, rfl, ifF (by simp) ?_⟩
      obtain ⟨dx7, hi7⟩ := (hBL.same s57).ins
      refine ⟨_, rfl, p, dx7, _, rfl, hi7, bfl_no (by decide +kernel) (by decide +kernel) (by decide +kernel), _, rfl, _, _, rfl, rfl, szk (by rw [lt_rule, len_S, len_S]; simp; omega), p, .ru n, G, B, (by rw [cat_rule]; rfl), hBL.same s57, hSm, ⟨hn, c, l, hgt⟩, fun H8 s8 => ?_⟩
      refine ⟨rfl, _, rfl, ifF (by rw [lt_keeps]; simp) ?_⟩
      exact ⟨s57.trans s8, _, _, rfl⟩
    · rintro σ H5 ⟨s5, v4, v5, rfl⟩
      refine ⟨s5 _ _ etF, ?_⟩
      have s6 := s4.trans (back H5 s5)
      generalize upd H5 dt (.dK kt) = H6 at s6 ⊢
      have es6 := s6 _ _ es
      have hks6 : Paired (LsE K H6) ks ls := Paired.mapP hks fun _ _ q => lsE_t q (Same.t s6)
      refine ⟨ds, _, es6, trivial, fun od2 => ?_⟩
      have hBM : BR K G (upd H6 ds (.frz od2 (.dK ks))) p B := (hB.same s6).lock fds.1 fds.2
      have esF : (upd H6 ds (.frz od2 (.dK ks))) ds = some (.frz od2 (.dK ks)) := upd_same
      have hksF : Paired (LsE K (upd H6 ds (.frz od2 (.dK ks)))) ks ls := Paired.mapP hks6 fun _ _ q => lsE_t q (SameT.chg es6 rfl)
      have back2 : ∀ H', Same (upd H6 ds (.frz od2 (.dK ks))) H' → Same H6 (upd H' ds (.dK ks)) := fun H' s => lock_back es6 s
      generalize upd H6 ds (.frz od2 (.dK ks)) = HM at hBM esF hksF back2 ⊢
      refine ⟨_, rfl, ds, od2, rfl, .inl ⟨ks, esF, for_it (walk_keys (kvs := ks)) (fun i σ H' => Same HM H' ∧ ∃ v4 v5, σ = [some (.ref p), some (.ref s), some (.ref dt), some (.ref ds), v4, v5]) ⟨Same.refl _, _, _, rfl⟩ (fun i σ H' _ e => e.1 _ _ esF) ?_ ?_⟩⟩
      · rintro i x σ H7 H8 hi2 ⟨s7, v4, v5, rfl⟩ ⟨rfl, kk, vv, hkv, rfl⟩
        obtain ⟨e, he, hre⟩ := paired_get hksF hkv
        obtain ⟨sg, nm, t, o⟩ := e
        obtain ⟨ek, y, ev, hy⟩ := id hre
        have ek : kk = .inr (SS sg) := ek
        have ev : vv = .ref y := ev
        have hy : SqT K HM y [.str (SS nm), .str (SS (sumL t o))] := hy
        subst ek ev
        have hval : valV ks (.inr (SS sg)) = some (.ref y) := valV_nd nk2 hkv
        have hmem := List.mem_of_getElem? he
        obtain ⟨hg, hn, hso, _⟩ := hW.sn _ hmem
        have hg : SignOk sg := hg
        have hgs : getE B.ss sg = some (sg, nm, t, o) := by
          rw [hse]
          exact getE_nd hns hmem
        have hgn : getE B.ts sg = none := no_table hsn hg
        have hg8 := (name_w (.inr hg)).2.2
        obtain ⟨dx5, hi5⟩ := (hBM.same s7).ins
        refine ⟨_, rfl, p, dx5, _, rfl, hi5, bfl_no (by decide +kernel) (by decide +kernel) (by decide +kernel), _, rfl, _, _, rfl, rfl, szk (by rw [lt_show, len_S, len_S]; simp; omega), p, .sh sg, G, B, (by rw [cat_show]; rfl), hBM.same s7, hSm, ⟨.inr hg, .inr ⟨hgn, nm, t, o, hgs⟩⟩, fun _ _ _ h0 => by (rw [hgn] at h0; cases h0), fun nm2 t2 o2 H9 _ hg7 s9 => ?_⟩
        rw [hgs] at hg7
        injection Option.some.inj hg7 with _ hg8
        injection hg8 with hg9 hg10
        injection hg10 with hg11 hg12
        subst hg9 hg11 hg12
        have s79 := s7.trans s9
        refine ⟨_, rfl, _, rfl, _, _, rfl, dgetS (.inr ⟨od2, s79 _ _ esF⟩) hval, _, _, _, _, rfl, rfl, Same.sqT s79 hy, rfl, rfl, _, rfl, ifF (by simp) ?_⟩
        obtain ⟨dx7, hi7⟩ := (hBM.same s79).ins
        refine ⟨_, rfl, p, dx7, _, rfl, hi7, bfl_no (by decide +kernel) (by decide +kernel) (by decide +kernel), _, rfl, _, _, rfl, rfl, szk (by rw [lt_of, len_S, len_S]; simp; omega), p, .ofs sg, G, B, (by rw [cat_of]; rfl), hBM.same s79, hSm, ⟨hg, nm, t, o, hgs⟩, fun nm3 t3 o3 H10 hg7 s10 => ?_⟩
        rw [hgs] at hg7
        injection Option.some.inj hg7 with _ hg8
        injection hg8 with hg9 hg10
        injection hg10 with hg11 hg12
        subst hg9 hg11 hg12
        have s710 := s79.trans s10
        refine ⟨_, rfl, _, rfl, _, _, rfl, dgetS (.inr ⟨od2, s710 _ _ esF⟩) hval, _, _, _, _, rfl, rfl, Same.sqT s710 hy, rfl, rfl, _, rfl, ifF (by simp) ?_⟩
        exact ⟨s710, _, _, rfl⟩
      · rintro σ H7 ⟨s7, v4, v5, rfl⟩
        refine ⟨s7 _ _ esF, ?_⟩
        exact hk _ (s6.trans (back2 H7 s7))
end
end Sw

/-! ## G25 -/
namespace Sw
open PySem PySem.Spec PyProof.Rows L2
open C8 (Cal Met Mak pe_c pe_mk pe_mt pe_mt0 pe_gc)
section
variable {P : Program} {w : World} {K : PySem.W.Frag} {mg : Str → Option Value} {base : Heap}
abbrev N__law_none_left : List Str := ["_law_bench", "_law_refused"]
abbrev s__law_none_left : Stmt := sLawNoneLeft
theorem sc__law_none_left : FnScope N__law_none_left ["_law_bench"] (defScope s__law_none_left) := ⟨rfl, rfl, rfl, by decide +kernel, rfl, by decide +kernel, by decide +kernel⟩
def sp__law_none_left (K : PySem.W.Frag) : Sp := fun vs H Q _ => ∃ (p : Addr) (G : Hp) (B : Bn), vs = [.ref p] ∧ BR K G H p B ∧ Small B ∧ B.past = [] ∧ B.ts = [] ∧ B.ss = [] ∧ ∀ H', Same H H' → Q (.bl true) H'
theorem ok__law_none_left (T : Tx w K mg) (c_Bench_tell : MetX P w K mg base 9 (He.ga K "Bench") "tell" (sp_Bench_tell K)) : Cal P w K mg base 10 "_law_none_left" (sp__law_none_left K) [] := by
  obtain ⟨fd, F, b⟩ := T.F__law_none_left
  obtain ⟨fT, fdT, psT, hcT, hmT, FT, bT⟩ := c_Bench_tell.ex
  refine ⟨_, fd, _, [], F.ok sc__law_none_left (fun vs H Q E h => ?_) (fun cdv A outer s H vs Q E hr h => ?_), T.g__law_none_left, F.kp, b, .nil⟩
  · obtain ⟨p, G, B, rfl, _⟩ := h
    rfl
  · obtain ⟨p, G, B, rfl, hB, hSm, h0, ht, hs, hk⟩ := h
    have hu := hu_of hr
    have nd := sc__law_none_left.nd
    refine ⟨_, (pss_cons (ps_set (i := 1) nd rfl (.inl rfl) pe_bl)
      (pss_cons (ps_try_only (c := .ref (He.ga K "NoDeed")) (Wout := fun _ _ _ _ => False) rfl rfl ⟨rfl, by decide +kernel, .inl T.g_NoDeed⟩ takes0
      (fun W pn xe tk _ => pss_one (ps_expr (pe_methX (E := WE W) (pv 0) hcT hmT FT (hr.mono (by decide)) bT (fun σ => passAt tk σ) (pa_cons pe_str pa_nil))))
      (fun a oe cls d pn _ _ => pss_one (ps_set (i := 1) nd rfl (.inl rfl) pe_bl)))
      (pss_one (ps_ret (pe_and (pv 1) (pe_one (pe_cmpR op_eq (pe_mtX c_Bench_tell hr (by decide) (pv 0) (pa_cons pe_str pa_nil)) pe_str (nomark _)))))))), ?_⟩
    obtain ⟨dx, hi⟩ := hB.ins
    refine ⟨_, rfl, p, dx, _, rfl, hi, bfl_no (by decide +kernel) (by decide +kernel) (by decide +kernel), ?_⟩
    refine ⟨p, .un, G, B, (by rw [lt_undo]), hB, hSm, trivial, fun _ H1 s1 => ⟨true, T.e_NoDeed, fun _ a ha => ?_, fun z => nomatch z⟩, fun es e he => absurd (h0.symm.trans he) (by simp)⟩
    obtain ⟨dx1, hi1⟩ := (hB.same s1).ins
    refine ⟨_, rfl, _, rfl, ifT rfl ?_⟩
    refine ⟨_, rfl, p, dx1, _, rfl, hi1, bfl_no (by decide +kernel) (by decide +kernel) (by decide +kernel), p, .al, G, B, (by rw [lt_all]; rfl), hB.same s1, hSm, trivial, fun ys zs H2 s2 y1 y2 z1 z2 => ?_⟩
    rw [ht] at y1
    rw [hs] at z1
    have ey : ys = [] := List.perm_nil.mp y1
    have ez : zs = [] := List.perm_nil.mp z1
    subst ey ez
    refine ⟨rfl, ?_⟩
    have e : decide (V.str (Txt.join (SS [32]) ([] ++ [])) = V.str (Str.ofString "")) = true := by decide +kernel
    rw [e]
    exact hk _ (s1.trans s2)
end
end Sw

/-! ## Rep9 -/
/-! a line, told: the law's state and the bench's go together -/
namespace Sw
open PySem PySem.Spec PyProof.Rows L2
section
variable {K : PySem.W.Frag} {G H : Hp} {A : Type}
theorem getE_some {es : List (List Nat × A)} {n : List Nat} (h : (getE es n).isSome = true) : ∃ a, getE es n = some (n, a) := by
  obtain ⟨e, he⟩ := Option.isSome_iff_exists.mp h
  obtain ⟨_, h2⟩ := getE_mem he
  exact ⟨e.2, by rw [he, ← h2]⟩
theorem some_perm {es fs : List (List Nat × A)} (hp : es.Perm fs) (hn : (es.map (·.1)).Nodup) {n : List Nat} (h : (getE fs n).isSome = true) : ∃ a, getE es n = some (n, a) ∧ (n, a) ∈ fs := by
  obtain ⟨a, ha⟩ := getE_some h
  obtain ⟨h1, _⟩ := getE_mem ha
  exact ⟨a, getE_perm hp hn h1, h1⟩
theorem isSome_of {es : List (List Nat × A)} {n : List Nat} (h : ∃ e ∈ es, e.1 = n) : (getE es n).isSome = true := by
  obtain ⟨e, he, hn⟩ := h
  unfold getE
  rw [List.find?_isSome]
  exact ⟨e, he, decide_eq_true hn⟩
theorem drop_none {es : List (List Nat × A)} {n : List Nat} (h : getE es n = none) : dropE es n = es := by
  unfold dropE
  rw [List.filter_eq_self]
  intro e he
  refine decide_eq_true fun z => ?_
  have := isSome_of (es := es) (n := n) ⟨e, he, z⟩
  rw [h] at this
  cases this
theorem put_perm : ∀ {es fs : List (List Nat × A)} {e : List Nat × A}, es.Perm fs → (es.map (·.1)).Nodup → (putE es e).Perm (dropE fs e.1 ++ [e]) := fun {es fs e} hp hn => by
  have h1 : (dropE es e.1 ++ [e]).Perm (dropE fs e.1 ++ [e]) := (hp.filter _).append_right _
  refine List.Perm.trans ?_ h1
  clear h1 hp fs
  unfold putE
  split
  · rename_i ha
    induction es with
    | nil => simp at ha
    | cons x r ih =>
      rw [List.map_cons, List.nodup_cons] at hn
      by_cases hx : x.1 = e.1
      · have hr : ∀ y ∈ r, y.1 ≠ e.1 := fun y hy z => hn.1 (by rw [hx, ← z]; exact List.mem_map.mpr ⟨y, hy, rfl⟩)
        have e1 : (x :: r).map (fun y => if y.1 = e.1 then e else y) = e :: r := by
          rw [List.map_cons, if_pos hx]
          congr 1
          have : ∀ y ∈ r, (fun y => if y.1 = e.1 then e else y) y = id y := fun y hy => if_neg (hr y hy)
          rw [List.map_congr_left this, List.map_id]
        have e2 : dropE (x :: r) e.1 = r := by
          unfold dropE
          rw [List.filter_cons, if_neg (by simp [hx]), List.filter_eq_self]
          exact fun y hy => decide_eq_true (hr y hy)
        rw [e1, e2]
        exact (List.perm_append_singleton e r).symm
      · have ha2 : (r.any fun y => decide (y.1 = e.1)) = true := by
          rw [List.any_cons, decide_eq_false hx, Bool.false_or] at ha
          exact ha
        have e2 : dropE (x :: r) e.1 = x :: dropE r e.1 := by
          unfold dropE
          rw [List.filter_cons, if_pos (by simp [hx])]
        rw [List.map_cons, if_neg hx, e2, List.cons_append]
        exact (ih hn.2 ha2).cons x
  · rename_i ha
    have e2 : dropE es e.1 = es := by
      unfold dropE
      rw [List.filter_eq_self]
      intro y hy
      refine decide_eq_true fun z => ha ?_
      rw [List.any_eq_true]
      exact ⟨y, hy, decide_eq_true z⟩
    rw [e2]
theorem put_len {es : List (List Nat × A)} {e : List Nat × A} : (putE es e).length ≤ es.length + 1 := by
  unfold putE
  split
  · simp
  · simp
theorem drop_len {es : List (List Nat × A)} {n : List Nat} : (dropE es n).length ≤ es.length := List.length_filter_le _ _
theorem drop_one : ∀ {es : List (List Nat × A)} {n : List Nat}, (es.map (·.1)).Nodup → es.length ≤ (dropE es n).length + 1
  | [], n, _ => by simp
  | x :: r, n, hn => by
    rw [List.map_cons, List.nodup_cons] at hn
    by_cases hx : x.1 = n
    · have e2 : dropE (x :: r) n = r := by
        unfold dropE
        rw [List.filter_cons, if_neg (by simp [hx]), List.filter_eq_self]
        exact fun y hy => decide_eq_true fun z => hn.1 (by rw [hx, ← z]; exact List.mem_map.mpr ⟨y, hy, rfl⟩)
      rw [e2]
      simp
    · have e2 : dropE (x :: r) n = x :: dropE r n := by
        unfold dropE
        rw [List.filter_cons, if_pos (by simp [hx])]
      have := drop_one (n := n) hn.2
      rw [e2]
      simp
      omega
theorem mem_put {es : List (List Nat × A)} {e x : List Nat × A} (h : x ∈ putE es e) : x = e ∨ x ∈ es := by
  unfold putE at h
  split at h
  · obtain ⟨y, hy, rfl⟩ := List.mem_map.mp h
    split
    · exact .inl rfl
    · exact .inr hy
  · rcases List.mem_append.mp h with h | h
    · exact .inr h
    · exact .inl (List.mem_singleton.mp h)
def firstW : Cm → List Nat
  | .tb _ _ _ => WT
  | .sm _ _ _ _ => WS
  | .mx _ _ => WM
  | .dr _ => WD
  | _ => []
theorem cm_ok {B : Bn} {lt : List Tb} {ls : List Sm} {c : Cm} (hp : B.ts.Perm lt) (hs : B.ss = ls) (hn : (B.ts.map (·.1)).Nodup) (hW : Wf lt ls) (h : LcOk lt ls c) : CmOk B c := by
  have hnm : ∀ e ∈ B.ts, NameOk e.1 := fun e he => (hW.tn e (hp.mem_iff.mp he)).1
  cases c with
  | tb n c l => exact h
  | sm sg nm t o =>
    obtain ⟨h1, h2, h3, h4⟩ := h
    obtain ⟨⟨c, l⟩, h5, _⟩ := some_perm hp hn h4
    exact ⟨h1, h2, h3, c, l, h5⟩
  | mx sg one =>
    obtain ⟨h1, h2, h3⟩ := h
    obtain ⟨⟨nm, t, o⟩, h4⟩ := getE_some h3
    obtain ⟨h5, _⟩ := getE_mem h4
    obtain ⟨_, g2, g3, g4⟩ := hW.sn _ h5
    obtain ⟨⟨c, l⟩, h6, _⟩ := some_perm hp hn g4
    exact ⟨h1, h2, nm, t, o, c, l, by rw [hs]; exact h4, g2, g3, h6⟩
  | dr x =>
    rcases h with ⟨h1, h2, _⟩ | ⟨h1, h2⟩
    · obtain ⟨a, h3, _⟩ := some_perm hp hn h1
      exact ⟨.inl h2, .inl (by rw [h3]; rfl)⟩
    · exact ⟨.inr h2, .inr ⟨no_table hnm h2, by rw [hs]; exact h1⟩⟩
  | al => exact h.elim
  | sh x => exact h.elim
  | ru n => exact h.elim
  | ofs s => exact h.elim
  | un => exact h.elim
theorem filt_eq {lt : List Tb} {ls : List Sm} (hW : Wf lt ls) {n : List Nat} (hn : NameOk n) : (ls.filter fun e => decide (e.2.1 ≠ n)) = ls.filter fun e => decide (e.1 ≠ n) && decide (e.2.1 ≠ n) := by
  refine List.filter_congr fun e he => ?_
  have : e.1 ≠ n := fun z => name_sign hn (z ▸ (hW.sn e he).1)
  simp [this]
theorem filt_eq2 {lt : List Tb} {ls : List Sm} (hW : Wf lt ls) {x : List Nat} (hx : SignOk x) : dropE ls x = ls.filter fun e => decide (e.1 ≠ x) && decide (e.2.1 ≠ x) := by
  unfold dropE
  refine List.filter_congr fun e he => ?_
  have : e.2.1 ≠ x := fun z => name_sign (z ▸ (hW.sn e he).2.1) hx
  simp [this]
theorem tell_of {p : Addr} {B : Bn} {lt : List Tb} {ls : List Sm} {c : Cm} {Q : VK} {E : XK} (hp : B.ts.Perm lt) (hs : B.ss = ls) (hn : (B.ts.map (·.1)).Nodup) (hW : Wf lt ls) (h : LcOk lt ls c)
    (k : ∀ G' H' B' dt' ds', Nx K p G H B G' H' B' → B'.ts.Perm (ltB lt c) → B'.ss = lsB ls c → B'.past = B.past ++ [(firstW c, dt', ds', B.ts, B.ss)] → Q (.str (SS (ansOf c))) H') : TellK K p G H B Q E c := by
  have hnm : ∀ e ∈ lt, NameOk e.1 := fun e he => (hW.tn e he).1
  have hnB : ∀ e ∈ B.ts, NameOk e.1 := fun e he => hnm e (hp.mem_iff.mp he)
  cases c with
  | tb n c l =>
    intro G' H' B' dt' ds' nx e1 e2 e3
    refine k G' H' B' dt' ds' nx ?_ ?_ e3
    · rw [e1]
      exact put_perm (e := (n, c, l)) hp hn
    · rw [e2, hs]
      exact filt_eq hW h.1
  | sm sg nm t o =>
    intro G' H' B' dt' ds' nx e1 e2 e3
    exact k G' H' B' dt' ds' nx (by rw [e1]; exact hp) (by rw [e2, hs]; rfl) e3
  | mx sg one =>
    intro nm t o G' H' B' dt' ds' hg nx e1 e2 e3
    refine k G' H' B' dt' ds' nx (by rw [e1]; exact hp) ?_ e3
    rw [hs] at hg
    rw [e2, hs]
    show _ = (match getE ls one with | some e => putE ls (sg, e.2) | none => ls)
    rw [hg]
  | dr x =>
    intro G' H' B' dt' ds' nx e1 e3
    rcases h with ⟨h1, h2, _⟩ | ⟨h1, h2⟩
    · obtain ⟨a, h4, _⟩ := some_perm hp hn h1
      rcases e1 with ⟨_, e4, e5⟩ | ⟨e4, _⟩
      · refine k G' H' B' dt' ds' nx ?_ ?_ e3
        · rw [e4]
          exact hp.filter _
        · rw [e5, hs]
          exact filt_eq hW h2
      · rw [h4] at e4
        cases e4
    · have h0 := no_table hnB h2
      rcases e1 with ⟨e4, _⟩ | ⟨_, e4, e5⟩
      · rw [h0] at e4
        cases e4
      · refine k G' H' B' dt' ds' nx ?_ ?_ e3
        · rw [e4]
          show B.ts.Perm (dropE lt x)
          rw [drop_none (no_table hnm h2)]
          exact hp
        · rw [e5, hs]
          exact filt_eq2 hW h2
  | al => exact h.elim
  | sh x => exact h.elim
  | ru n => exact h.elim
  | ofs s => exact h.elim
  | un => exact h.elim
theorem some_drop {es : List (List Nat × A)} {n m : List Nat} (h : (getE es m).isSome = true) (hne : m ≠ n) : (getE (dropE es n) m).isSome = true := by
  obtain ⟨a, ha⟩ := getE_some h
  obtain ⟨h1, _⟩ := getE_mem ha
  exact isSome_of ⟨(m, a), List.mem_filter.mpr ⟨h1, decide_eq_true hne⟩, rfl⟩
theorem wf_next {lt : List Tb} {ls : List Sm} {c : Cm} (hW : Wf lt ls) (h : LcOk lt ls c) : Wf (ltB lt c) (lsB ls c) := by
  cases c with
  | tb n c l =>
    refine ⟨fun e he => ?_, fun e he => ?_⟩
    · rcases List.mem_append.mp he with he | he
      · exact hW.tn e (List.mem_filter.mp he).1
      · rw [List.mem_singleton.mp he]
        exact h
    · obtain ⟨h1, h2⟩ := List.mem_filter.mp he
      rw [Bool.and_eq_true] at h2
      have hne : e.2.1 ≠ n := of_decide_eq_true h2.2
      obtain ⟨g1, g2, g3, g4⟩ := hW.sn e h1
      refine ⟨g1, g2, g3, ?_⟩
      obtain ⟨x, hx, hx2⟩ : ∃ x ∈ dropE lt n, x.1 = e.2.1 := by
        obtain ⟨y, hy⟩ := Option.isSome_iff_exists.mp (some_drop (n := n) g4 hne)
        exact ⟨y, getE_mem hy⟩
      exact isSome_of ⟨x, List.mem_append_left _ hx, hx2⟩
  | sm sg nm t o =>
    obtain ⟨h1, h2, h3, h4⟩ := h
    refine ⟨hW.tn, fun e he => ?_⟩
    rcases mem_put he with rfl | he
    · exact ⟨h1, h2, h3, h4⟩
    · exact hW.sn e he
  | mx sg one =>
    obtain ⟨h1, h2, h3⟩ := h
    obtain ⟨a, h4⟩ := getE_some h3
    obtain ⟨h5, _⟩ := getE_mem h4
    obtain ⟨_, g2, g3, g4⟩ := hW.sn _ h5
    refine ⟨hW.tn, fun e he => ?_⟩
    have he : e ∈ (match getE ls one with | some e => putE ls (sg, e.2) | none => ls) := he
    rw [h4] at he
    rcases mem_put he with rfl | he
    · exact ⟨h1, g2, g3, g4⟩
    · exact hW.sn e he
  | dr x =>
    refine ⟨fun e he => hW.tn e (List.mem_filter.mp he).1, fun e he => ?_⟩
    obtain ⟨h1, h2⟩ := List.mem_filter.mp he
    rw [Bool.and_eq_true] at h2
    obtain ⟨g1, g2, g3, g4⟩ := hW.sn e h1
    exact ⟨g1, g2, g3, some_drop g4 (of_decide_eq_true h2.2)⟩
  | al => exact h.elim
  | sh x => exact h.elim
  | ru n => exact h.elim
  | ofs s => exact h.elim
  | un => exact h.elim
theorem ltB_len {lt : List Tb} {c : Cm} : (ltB lt c).length ≤ lt.length + 1 := by
  cases c with
  | tb n c l =>
    have := drop_len (es := lt) (n := n)
    simp [ltB]
    exact this
  | dr x => exact Nat.le_succ_of_le drop_len
  | _ => exact Nat.le_succ _
theorem lsB_len {ls : List Sm} {c : Cm} : (lsB ls c).length ≤ ls.length + 1 := by
  cases c with
  | tb n c l => exact Nat.le_succ_of_le (List.length_filter_le _ _)
  | dr x => exact Nat.le_succ_of_le (List.length_filter_le _ _)
  | sm sg nm t o => exact put_len
  | mx sg one =>
    show (match getE ls one with | some e => putE ls (sg, e.2) | none => ls).length ≤ _
    split
    · exact put_len
    · exact Nat.le_succ _
  | _ => exact Nat.le_succ _
theorem ltB_pos {lt : List Tb} {ls : List Sm} {c : Cm} (h : LcOk lt ls c) (hn : (lt.map (·.1)).Nodup) (h0 : 0 < lt.length ∨ ∃ n c' l, c = .tb n c' l) (hN : ∀ e ∈ lt, NameOk e.1) : 0 < (ltB lt c).length := by
  cases c with
  | tb n c l => simp [ltB]
  | dr x =>
    have h0 : 0 < lt.length := by
      rcases h0 with h0 | ⟨_, _, _, z⟩
      · exact h0
      · cases z
    rcases h with ⟨_, _, h1⟩ | ⟨_, h1⟩
    · have := drop_one (es := lt) (n := x) hn
      show 0 < (dropE lt x).length
      omega
    · show 0 < (dropE lt x).length
      rw [drop_none (no_table hN h1)]
      exact h0
  | sm sg nm t o =>
    rcases h0 with h0 | ⟨_, _, _, z⟩
    · exact h0
    · cases z
  | mx sg one =>
    rcases h0 with h0 | ⟨_, _, _, z⟩
    · exact h0
    · cases z
  | al => exact h.elim
  | sh x => exact h.elim
  | ru n => exact h.elim
  | ofs s => exact h.elim
  | un => exact h.elim
theorem first_ws {lt : List Tb} {ls : List Sm} {c : Cm} (h : LcOk lt ls c) : ∃ r, wsOf c = firstW c :: r := by
  cases c with
  | tb n c l => exact ⟨_, rfl⟩
  | sm sg nm t o => exact ⟨_, rfl⟩
  | mx sg one => exact ⟨_, rfl⟩
  | dr x => exact ⟨_, rfl⟩
  | al => exact h.elim
  | sh x => exact h.elim
  | ru n => exact h.elim
  | ofs s => exact h.elim
  | un => exact h.elim
end
end Sw

/-! ## Rep10 -/
/-! what holds between the lines -/
namespace Sw
open PySem PySem.Spec PyProof.Rows L2
abbrev St2 : Type := List Tb × List Sm
abbrev Hs : Type := List Nat × St2
section
variable {K : PySem.W.Frag} {G G' H H' H'' : Hp} {p a st wo nb sb : Addr} {nn sn : List (List Nat)} {B B' : Bn} {sl : List Addr} {hist : List Hs} {cur : St2} {m : Nat}
theorem BR.but {L : List Addr} (h : BR K G H p B) (e : ∀ b o, H b = some o → b ∉ L → H' b = some o) (hL : ∀ x ∈ L, x ∉ muts p B ∧ G x = none) : BR K G H' p B := by
  have ne : ∀ b ∈ muts p B, b ∉ L := fun b hb hl => (hL b hl).1 hb
  obtain ⟨dx, hi⟩ := h.ins
  obtain ⟨xs, h1, h2⟩ := h.pa
  refine ⟨fun b o q => e b o (h.sm _ _ q) (fun hl => ?_), h.gn, h.nd, ⟨dx, e _ _ hi (ne _ mem_p)⟩, ⟨xs, e _ _ h1 (ne _ mem_pa), h2⟩, h.dt.g (Same.refl _) (fun w q => e _ _ q (ne _ mem_dt)), h.ds.g (Same.refl _) (fun w q => e _ _ q (ne _ mem_ds)), fun x he => ⟨(h.ps x he).1.g (Same.refl _) (fun w q => e _ _ q (ne _ (mem_e1 he))), (h.ps x he).2.g (Same.refl _) (fun w q => e _ _ q (ne _ (mem_e2 he)))⟩⟩
  rw [(hL b hl).2] at q
  cases q
def Fx (p a st wo : Addr) (B : Bn) (G : Hp) (b : Addr) : Prop := b ∉ muts p B ∧ G b = none ∧ b ≠ a ∧ b ≠ st ∧ b ≠ wo
structure LI (K : PySem.W.Frag) (p a st wo nb sb : Addr) (nn sn : List (List Nat)) (G H : Hp) (B : Bn) (sl : List Addr) (hist : List Hs) (cur : St2) (m : Nat) : Prop where
  br : BR K G H p B
  ow : ∀ x ∈ [a, st, wo, nb, sb], x ∉ muts p B ∧ G x = none
  di : a ≠ st ∧ a ≠ wo ∧ st ≠ wo ∧ nb ≠ a ∧ nb ≠ st ∧ nb ≠ wo ∧ sb ≠ a ∧ sb ≠ st ∧ sb ≠ wo
  pu : PuR H a m
  hst : H st = some (.lst (sl.map V.ref))
  hwo : H wo = some (.lst (wV (hist.map (·.1))))
  hnb : H nb = some (.lst (wV nn))
  hsb : H sb = some (.lst (wV sn))
  stt : Paired (fun s (x : St2) => LRx K (Fx p a st wo B G) H s x.1 x.2) sl (hist.map (·.2) ++ [cur])
  pst : Paired (fun (e : Pst) (x : Hs) => e.1 = x.1 ∧ e.2.2.2.1.Perm x.2.1 ∧ e.2.2.2.2 = x.2.2) B.past hist
  tp : B.ts.Perm cur.1
  sq : B.ss = cur.2
  wf : ∀ x ∈ hist.map (·.2) ++ [cur], Wf x.1 x.2 ∧ x.1.length < 64 ∧ x.2.length < 64
  hd : (hist.map (·.2) ++ [cur]).head? = some ([], [])
theorem LI.cw (h : LI K p a st wo nb sb nn sn G H B sl hist cur m) : Wf cur.1 cur.2 ∧ cur.1.length < 64 ∧ cur.2.length < 64 := h.wf cur (by simp)
theorem LI.small (h : LI K p a st wo nb sb nn sn G H B sl hist cur m) (hl : hist.length ≤ 400) : Small B := by
  obtain ⟨hw, h1, h2⟩ := h.cw
  have hp := Paired.length h.pst
  refine ⟨by omega, by rw [h.tp.length_eq]; exact h1, by rw [h.sq]; exact h2, fun e he => ?_, fun e he => ?_⟩
  · exact (name_w (.inl (hw.tn e (h.tp.mem_iff.mp he)).1)).2.2
  · exact (name_w (.inr (hw.sn e (h.sq ▸ he)).1)).2.2
theorem LI.last (h : LI K p a st wo nb sb nn sn G H B sl hist cur m) : ∃ s, sl[sl.length - 1]? = some s ∧ sl.length = hist.length + 1 ∧ LRx K (Fx p a st wo B G) H s cur.1 cur.2 := by
  have hl := Paired.length h.stt
  rw [List.length_append, List.length_map] at hl
  simp only [List.length_cons, List.length_nil] at hl
  obtain ⟨s, h1, h2⟩ := tm_at h.stt (i := hist.length) (y := cur) (by simp)
  refine ⟨s, ?_, by omega, h2⟩
  rw [show sl.length - 1 = hist.length by omega]
  exact h1
/-- only the purse, or nothing, changes -/
theorem LI.keep {m' : Nat} (h : LI K p a st wo nb sb nn sn G H B sl hist cur m) (e : Keep a H H') (hp : PuR H' a m') : LI K p a st wo nb sb nn sn G H' B sl hist cur m' := by
  obtain ⟨n, c, k, ha, _⟩ := h.pu
  have t : SameT H H' := fun b o q f => e b o q (fun z => by
    rw [z, ha] at q
    rw [← Option.some.inj q] at f
    cases f)
  refine ⟨h.br.but (L := [a]) (fun b o q n => e b o q (by simpa using n)) (fun x hx => by rw [List.mem_singleton.mp hx]; exact h.ow a (by simp)), h.ow, h.di, hp, e _ _ h.hst h.di.1.symm, e _ _ h.hwo h.di.2.1.symm, e _ _ h.hnb h.di.2.2.2.1, e _ _ h.hsb h.di.2.2.2.2.2.2.1, ?_, h.pst, h.tp, h.sq, h.wf, h.hd⟩
  exact Paired.mapP h.stt fun s x q => q.mv (fun b o f hb => e b o hb f.2.2.1) t (fun b o f _ => f)
theorem LI.same (h : LI K p a st wo nb sb nn sn G H B sl hist cur m) (e : Same H H') : LI K p a st wo nb sb nn sn G H' B sl hist cur m := h.keep (Keep.of e) (h.pu.same e)
/-- a line, told -/
theorem LI.step {s' dt' ds' : Addr} {w : List Nat} {c2 : St2} (h : LI K p a st wo nb sb nn sn G H B sl hist cur m) (hs : LRx K (Fx p a st wo B G) H s' c2.1 c2.2) (e : ∀ b o, H b = some o → b ≠ st → b ≠ wo → H' b = some o)
    (h1 : H' st = some (.lst ((sl ++ [s']).map V.ref))) (h2 : H' wo = some (.lst (wV (hist.map (·.1) ++ [w])))) (nx : Nx K p G H' B G' H'' B') (e1 : B'.ts.Perm c2.1) (e2 : B'.ss = c2.2) (e3 : B'.past = B.past ++ [(w, dt', ds', B.ts, B.ss)])
    (hw : Wf c2.1 c2.2 ∧ c2.1.length < 64 ∧ c2.2.length < 64) : LI K p a st wo nb sb nn sn G' H'' B' (sl ++ [s']) (hist ++ [(w, cur)]) c2 m := by
  obtain ⟨mv, hB', sub⟩ := nx
  obtain ⟨d1, d2, d3, d4, d5, d6, d7, d8, d9⟩ := h.di
  have there : ∀ b o, H b = some o → b ∉ muts p B → b ≠ st → b ≠ wo → H'' b = some o := fun b o q n n1 n2 => mv.k b o (e b o q n1 n2) n
  have out : ∀ b o, H' b = some o → tf o = false → b ∉ muts p B → G b = none → b ∉ muts p B' ∧ G' b = none := fun b o q f n g => by
    refine ⟨fun z => ?_, by rw [mv.n b o q f]; exact g⟩
    rcases sub b z with z | z
    · exact n z
    · rw [z] at q
      cases q
  obtain ⟨n, c, k, ha, hr⟩ := h.pu
  have t : SameT H H'' := fun b o q f => by
    have n1 : b ≠ st := fun z => by
      rw [z, h.hst] at q
      rw [← Option.some.inj q] at f
      cases f
    have n2 : b ≠ wo := fun z => by
      rw [z, h.hwo] at q
      rw [← Option.some.inj q] at f
      cases f
    refine there b o q (fun z => ?_) n1 n2
    obtain ⟨o', e', f'⟩ := h.br.at z
    rw [q] at e'
    rw [← Option.some.inj e', f] at f'
    cases f'
  have fx : ∀ b o, Fx p a st wo B G b → H b = some o → tf o = false → Fx p a st wo B' G' b := fun b o f q ft => by
    obtain ⟨f1, f2, f3, f4, f5⟩ := f
    obtain ⟨g1, g2⟩ := out b o (e b o q f4 f5) ft f1 f2
    exact ⟨g1, g2, f3, f4, f5⟩
  have mvx : ∀ {s : Addr} {x : St2}, LRx K (Fx p a st wo B G) H s x.1 x.2 → LRx K (Fx p a st wo B' G') H'' s x.1 x.2 := fun {s x} q => by
    obtain ⟨dt, ds, kt, ks, f1, f2, f3, g1, g2, g3, g4, g5, g6⟩ := q
    exact ⟨dt, ds, kt, ks, fx _ _ f1 g1 rfl, fx _ _ f2 g2 rfl, fx _ _ f3 g4 rfl, there _ _ g1 f1.1 f1.2.2.2.1 f1.2.2.2.2, there _ _ g2 f2.1 f2.2.2.2.1 f2.2.2.2.2, g3, there _ _ g4 f3.1 f3.2.2.2.1 f3.2.2.2.2, Paired.mapP g5 fun _ _ ⟨q, x, r1, r2⟩ => ⟨q, x, r1, sqT_t r2 t⟩, g6⟩
  have hsto := h.ow st (by simp)
  have hwoo := h.ow wo (by simp)
  refine ⟨hB', fun x hx => ?_, h.di, ⟨n, c, k, there _ _ ha (h.ow a (by simp)).1 d1 d2, hr⟩, mv.k _ _ h1 hsto.1, ?_, there _ _ h.hnb (h.ow nb (by simp)).1 d5 d6, there _ _ h.hsb (h.ow sb (by simp)).1 d8 d9, ?_, ?_, e1, e2, ?_, ?_⟩
  · have ho := h.ow x hx
    simp only [List.mem_cons, List.not_mem_nil, or_false] at hx
    rcases hx with rfl | rfl | rfl | rfl | rfl
    · exact out _ _ (e _ _ ha d1 d2) rfl ho.1 ho.2
    · exact out _ _ h1 rfl ho.1 ho.2
    · exact out _ _ h2 rfl ho.1 ho.2
    · exact out _ _ (e _ _ h.hnb d5 d6) rfl ho.1 ho.2
    · exact out _ _ (e _ _ h.hsb d8 d9) rfl ho.1 ho.2
  · rw [List.map_append]
    exact mv.k _ _ h2 hwoo.1
  · rw [List.map_append]
    exact Paired.snoc (Paired.mapP h.stt fun s x q => mvx q) (mvx hs)
  · rw [e3]
    exact Paired.snoc h.pst ⟨rfl, h.tp, h.sq⟩
  · intro x hx
    rw [List.map_append] at hx
    rcases List.mem_append.mp hx with hx | hx
    · exact h.wf x hx
    · rw [List.mem_singleton.mp hx]
      exact hw
  · rw [List.map_append, List.head?_append, List.map_cons, List.map_nil, h.hd]
    rfl
/-- a line, taken back -/
theorem LI.back {w : List Nat} {prev : St2} {es : List Pst} {e : Pst} {H1 H2 : Hp} (h : LI K p a st wo nb sb nn sn G H B sl (hist ++ [(w, prev)]) cur m) (hp : B.past = es ++ [e]) (o1 : ∀ b o, H b = some o → b ≠ st → b ≠ wo → H1 b = some o) (hd1 : H1 st ≠ none ∧ H1 wo ≠ none)
    (nx : Nx K p G H1 B G H2 { B with dt := e.2.1, ds := e.2.2.1, ts := e.2.2.2.1, ss := e.2.2.2.2, past := es }) (o2 : ∀ b o, H2 b = some o → b ≠ st → b ≠ wo → H' b = some o) (h1 : H' st = some (.lst (sl.dropLast.map V.ref))) (h2 : H' wo = some (.lst (wV (hist.map (·.1))))) :
    e.1 = w ∧ LI K p a st wo nb sb nn sn G H' { B with dt := e.2.1, ds := e.2.2.1, ts := e.2.2.2.1, ss := e.2.2.2.2, past := es } sl.dropLast hist prev m := by
  obtain ⟨mv, hB', sub⟩ := nx
  obtain ⟨d1, d2, d3, d4, d5, d6, d7, d8, d9⟩ := h.di
  have hps := h.pst
  rw [hp] at hps
  have hpl : es.length = hist.length := by
    have := Paired.length hps
    simpa using this
  have hpd : Paired (fun (e : Pst) (x : Hs) => e.1 = x.1 ∧ e.2.2.2.1.Perm x.2.1 ∧ e.2.2.2.2 = x.2.2) es hist := by
    have := paired_dropLast hps
    simpa using this
  have hpe : e.1 = w ∧ e.2.2.2.1.Perm prev.1 ∧ e.2.2.2.2 = prev.2 := by
    obtain ⟨y, hy, hr⟩ := paired_get hps (i := es.length) (a := e) (by simp)
    rw [hpl] at hy
    simp at hy
    rw [← hy] at hr
    exact hr
  have there : ∀ b o, H b = some o → b ∉ muts p B → b ≠ st → b ≠ wo → H' b = some o := fun b o q n n1 n2 => o2 b o (mv.k b o (o1 b o q n1 n2) n) n1 n2
  have hsto := h.ow st (by simp)
  have hwoo := h.ow wo (by simp)
  have out : ∀ b, H1 b ≠ none → b ∉ muts p B → b ∉ muts p { B with dt := e.2.1, ds := e.2.2.1, ts := e.2.2.2.1, ss := e.2.2.2.2, past := es } := fun b q n z => by
    rcases sub b z with z | z
    · exact n z
    · exact q z
  obtain ⟨n, c, k, ha, hr⟩ := h.pu
  have t : SameT H H' := fun b o q f => by
    have n1 : b ≠ st := fun z => by
      rw [z, h.hst] at q
      rw [← Option.some.inj q] at f
      cases f
    have n2 : b ≠ wo := fun z => by
      rw [z, h.hwo] at q
      rw [← Option.some.inj q] at f
      cases f
    refine there b o q (fun z => ?_) n1 n2
    obtain ⟨o', e', f'⟩ := h.br.at z
    rw [q] at e'
    rw [← Option.some.inj e', f] at f'
    cases f'
  have ne1 : ∀ b o, H b = some o → b ≠ st → b ≠ wo → H1 b ≠ none := fun b o q n1 n2 => by
    rw [o1 b o q n1 n2]
    simp
  have fx : ∀ b o, Fx p a st wo B G b → H b = some o → Fx p a st wo { B with dt := e.2.1, ds := e.2.2.1, ts := e.2.2.2.1, ss := e.2.2.2.2, past := es } G b := fun b o f q => ⟨out b (ne1 b o q f.2.2.2.1 f.2.2.2.2) f.1, f.2⟩
  have mvx : ∀ {s : Addr} {x : St2}, LRx K (Fx p a st wo B G) H s x.1 x.2 → LRx K (Fx p a st wo { B with dt := e.2.1, ds := e.2.2.1, ts := e.2.2.2.1, ss := e.2.2.2.2, past := es } G) H' s x.1 x.2 := fun {s x} q => q.mv (fun b o f hb => there b o hb f.1 f.2.2.2.1 f.2.2.2.2) t fx
  refine ⟨hpe.1, hB'.but (L := [st, wo]) (fun b o q n => ?_) (fun x hx => ?_), fun x hx => ?_, h.di, ⟨n, c, k, there _ _ ha (h.ow a (by simp)).1 d1 d2, hr⟩, h1, h2, there _ _ h.hnb (h.ow nb (by simp)).1 d5 d6, there _ _ h.hsb (h.ow sb (by simp)).1 d8 d9, ?_, hpd, hpe.2.1, hpe.2.2, fun x hx => h.wf x ?_, ?_⟩
  · simp only [List.mem_cons, List.not_mem_nil, or_false, not_or] at n
    exact o2 b o q n.1 n.2
  · simp only [List.mem_cons, List.not_mem_nil, or_false] at hx
    rcases hx with rfl | rfl
    · exact ⟨out _ hd1.1 hsto.1, hsto.2⟩
    · exact ⟨out _ hd1.2 hwoo.1, hwoo.2⟩
  · have ho := h.ow x hx
    simp only [List.mem_cons, List.not_mem_nil, or_false] at hx
    rcases hx with rfl | rfl | rfl | rfl | rfl
    · exact ⟨out _ (ne1 _ _ ha d1 d2) ho.1, ho.2⟩
    · exact ⟨out _ hd1.1 ho.1, ho.2⟩
    · exact ⟨out _ hd1.2 ho.1, ho.2⟩
    · exact ⟨out _ (ne1 _ _ h.hnb d5 d6) ho.1, ho.2⟩
    · exact ⟨out _ (ne1 _ _ h.hsb d8 d9) ho.1, ho.2⟩
  · have := paired_dropLast h.stt
    rw [List.dropLast_concat, List.map_append] at this
    exact Paired.mapP this fun s x q => mvx q
  · rw [List.map_append]
    exact List.mem_append_left _ hx
  · have := h.hd
    rw [List.map_append, List.append_assoc] at this
    cases hist with
    | nil => simpa using this
    | cons x r => simpa using this
theorem last_at {A : Type} {xs : List A} {v : A} (h : xs[xs.length - 1]? = some v) : atI xs (-1) = some v := by
  have hl : 0 < xs.length := by
    cases xs with
    | nil => simp at h
    | cons a r => simp
  unfold atI ixN
  rw [if_neg (by decide), if_pos (by omega)]
  show xs[((-1 : Int) + xs.length).toNat]? = _
  rw [show ((-1 : Int) + xs.length).toNat = xs.length - 1 by omega]
  exact h
theorem LI.at (h : LI K p a st wo nb sb nn sn G H B sl hist cur m) : ∃ s, atI (sl.map V.ref) (-1) = some (.ref s) ∧ LRx K (Fx p a st wo B G) H s cur.1 cur.2 := by
  obtain ⟨s, h1, h2, h3⟩ := h.last
  refine ⟨s, last_at ?_, h3⟩
  rw [List.length_map, List.getElem?_map, h1]
  rfl
/-- the script's list, beside -/
def Sc (K : PySem.W.Frag) (xs : List V) (p a st wo : Addr) (B : Bn) (H : Hp) (sc : Addr) : Prop := (∀ H', SqL K H' sc xs) ∨ (SqL K H sc xs ∧ H sc ≠ none ∧ sc ∉ muts p B ∧ sc ≠ a ∧ sc ≠ st ∧ sc ≠ wo)
theorem Sc.q {xs : List V} {sc : Addr} (h : Sc K xs p a st wo B H sc) : SqL K H sc xs := by
  rcases h with h | h
  · exact h H
  · exact h.1
theorem Sc.mv {xs : List V} {sc : Addr} (h : Sc K xs p a st wo B H sc) (e : ∀ b o, H b = some o → b ∉ muts p B → b ≠ a → b ≠ st → b ≠ wo → H' b = some o) (sub : ∀ b ∈ muts p B', b ∈ muts p B ∨ H b = none) : Sc K xs p a st wo B' H' sc := by
  rcases h with h | ⟨h1, h2, h3, h4, h5, h6⟩
  · exact .inl h
  · have there : ∀ o, H sc = some o → H' sc = some o := fun o q => e _ _ q h3 h4 h5 h6
    refine .inr ⟨?_, ?_, fun z => ?_, h4, h5, h6⟩
    · rcases h1 with (h1 | ⟨o, h1⟩) | h1
      · exact .inl (.inl (there _ h1))
      · exact .inl (.inr ⟨o, there _ h1⟩)
      · exact .inr h1
    · cases q : H sc with
      | none => exact absurd q h2
      | some o =>
        rw [there o q]
        simp
    · rcases sub _ z with z | z
      · exact h3 z
      · exact h2 z
theorem sqL_cases {H : Hp} {a : Addr} {xs : List V} (h : SqL K H a xs) : (∀ H', SqL K H' a xs) ∨ H a ≠ none := by
  rcases h with (h | ⟨o, h⟩) | h
  · exact .inr (by rw [h]; simp)
  · exact .inr (by rw [h]; simp)
  · exact .inl fun _ => .inr h
def bT (nn sn i : Nat) : Nat := if i ≤ nn then i else nn + (i - (nn + sn))
def bS (nn i : Nat) : Nat := i - nn
theorem LI.init {B : Bn} {d1 d2 s0 : Addr} {H1 H2 H3 H4 : Hp} (hB : BR K (fun _ => none) H p B) (hp : B.past = []) (ht : B.ts = []) (hs : B.ss = []) (o : ∀ x ∈ [a, nb, sb], x ∉ muts p B) (nba : nb ≠ a) (sba : sb ≠ a) (pu : PuR H a m) (hnb : H nb = some (.lst (wV nn))) (hsb : H sb = some (.lst (wV sn)))
    (f1 : H d1 = none) (e1 : H1 = upd H d1 (.dK [])) (f2 : H1 d2 = none) (e2 : H2 = upd H1 d2 (.dK [])) (f3 : H2 s0 = none) (e3 : H3 = upd H2 s0 (.lst [.ref d1, .ref d2])) (f4 : H3 st = none) (e4 : H4 = upd H3 st (.lst [.ref s0])) (f5 : H4 wo = none) (e5 : H' = upd H4 wo (.lst [])) :
    LI K p a st wo nb sb nn sn (fun _ => none) H' B [s0] [] ([], []) m ∧ Same H H' := by
  have g1 : Same H H1 := e1 ▸ same_new f1
  have g2 : Same H1 H2 := e2 ▸ same_new f2
  have g3 : Same H2 H3 := e3 ▸ same_new f3
  have g4 : Same H3 H4 := e4 ▸ same_new f4
  have g5 : Same H4 H' := e5 ▸ same_new f5
  have g02 := g1.trans g2
  have g03 := g02.trans g3
  have g04 := g03.trans g4
  have g := g04.trans g5
  have k1 : H1 d1 = some (.dK []) := by rw [e1]; exact upd_same
  have k2 : H2 d2 = some (.dK []) := by rw [e2]; exact upd_same
  have k3 : H3 s0 = some (.lst [.ref d1, .ref d2]) := by rw [e3]; exact upd_same
  have k4 : H4 st = some (.lst [.ref s0]) := by rw [e4]; exact upd_same
  have k5 : H' wo = some (.lst []) := by rw [e5]; exact upd_same
  have far : ∀ {b : Addr}, H b = none → b ∉ muts p B := fun {b} hb hm => by
    obtain ⟨o, e, _⟩ := hB.at hm
    rw [hb] at e
    cases e
  obtain ⟨n, c, k, ha, hr⟩ := pu
  have nf : ∀ {b x : Addr} {o : HO} {J : Hp}, J b = some o → J x = none → b ≠ x := fun h h2 => ne_free h h2
  refine ⟨⟨hB.same g, fun x hx => ⟨?_, rfl⟩, ⟨nf (g03 _ _ ha) f4, nf (g04 _ _ ha) f5, nf k4 f5, nba, nf (g03 _ _ hnb) f4, nf (g04 _ _ hnb) f5, sba, nf (g03 _ _ hsb) f4, nf (g04 _ _ hsb) f5⟩, ⟨n, c, k, g _ _ ha, hr⟩, g5 _ _ k4, k5, g _ _ hnb, g _ _ hsb, .cons ?_ .nil, ?_, ?_, hs, ?_, rfl⟩, g⟩
  · simp only [List.mem_cons, List.not_mem_nil, or_false] at hx
    rcases hx with rfl | rfl | rfl | rfl | rfl
    · exact o _ (by simp)
    · exact far (g03.free f4)
    · exact far (g04.free f5)
    · exact o _ (by simp)
    · exact o _ (by simp)
  · refine ⟨d1, d2, [], [], ⟨far (g02.free f3), rfl, (nf (g02 _ _ ha) f3).symm, nf k3 f4, nf (g4 _ _ k3) f5⟩, ⟨far f1, rfl, (nf ha f1).symm, nf ((g2.trans g3) _ _ k1) f4, nf (((g2.trans g3).trans g4) _ _ k1) f5⟩, ⟨far (g1.free f2), rfl, (nf (g1 _ _ ha) f2).symm, nf (g3 _ _ k2) f4, nf ((g3.trans g4) _ _ k2) f5⟩, (g4.trans g5) _ _ k3, (((g2.trans g3).trans g4).trans g5) _ _ k1, .nil, ((g3.trans g4).trans g5) _ _ k2, .nil, .nil, .nil⟩
  · rw [hp]
    exact .nil
  · rw [ht]
  · intro x hx
    simp only [List.map_nil, List.nil_append, List.mem_singleton] at hx
    subst hx
    exact ⟨⟨(fun e he => nomatch he), (fun e he => nomatch he)⟩, by decide, by decide⟩
end
end Sw

/-! ## G26 -/
namespace Sw
open PySem PySem.Spec PyProof.Rows L2
open C8 (Cal Met Mak pe_c pe_mk pe_mt pe_mt0 pe_gc)
section
variable {P : Program} {w : World} {K : PySem.W.Frag} {mg : Str → Option Value} {base : Heap}
abbrev N_law : List Str := ["_law_script", "_law_purse_here", "_law_names", "_law_signs", "_law_bench", "_law_states", "_law_words", "_law_k", "_law_line_here"]
abbrev s_law : Stmt := sLaw
theorem sc_law : FnScope N_law ["_law_script"] (defScope s_law) := ⟨rfl, rfl, rfl, by decide +kernel, rfl, by decide +kernel, by decide +kernel⟩
def sp_law (K : PySem.W.Frag) : Sp := fun vs H Q _ => ∃ (sc : Addr) (ns : List Int), vs = [.ref sc] ∧ SqL K H sc (ns.map V.int) ∧ ∀ H', Q (.bl true) H'
theorem ok_law (T : Tx w K mg) {fd : FuncData} (F : Fun K "law" "law" sLaw (He.ga K "law") fd) (c__law_at : Cal P w K mg base 1 "_law_at" (sp__law_at K) []) (c__law_purse : Cal P w K mg base 2 "_law_purse" (sp__law_purse K) []) (c__law_marks : Cal P w K mg base 3 "_law_marks" (sp__law_marks K) []) (c_Bench : Mak P w K mg base 1 "Bench" (He.ga K "Bench") (sp_Bench___init__ K) []) (c__law_take : Cal P w K mg base 2 "_law_take" (sp__law_take K) []) (c__law_table_line : Cal P w K mg base 3 "_law_table_line" (sp__law_table_line K) []) (c__law_sum_line : Cal P w K mg base 3 "_law_sum_line" (sp__law_sum_line K) []) (c__law_line : Cal P w K mg base 4 "_law_line" (sp__law_line K) []) (c__law_behind : Cal P w K mg base 1 "_law_behind" (sp__law_behind K) []) (c_Bench_tell : MetX P w K mg base 9 (He.ga K "Bench") "tell" (sp_Bench_tell K)) (c__law_stands : Cal P w K mg base 10 "_law_stands" (sp__law_stands K) []) (c__law_none_left : Cal P w K mg base 10 "_law_none_left" (sp__law_none_left K) []) : FnOk P w K mg base C8.CX0 11 (He.ga K "law") fd ["_law_script"] (sp_law K) := by
  refine F.ok sc_law (fun vs H Q E h => ?_) (fun cdv A outer s H vs Q E hr h => ?_)
  · obtain ⟨sc, ns, rfl, _⟩ := h
    rfl
  · obtain ⟨sc, ns, rfl, hS, hk⟩ := h
    have hu := hu_of hr
    have nd := sc_law.nd
    refine ⟨_, (pss_cons (ps_set (i := 1) nd rfl (.inl rfl) (pe_c c__law_purse hr (by decide) rfl (pa_cons (pe_c c__law_at hr (by decide) rfl (pa_cons (pv 0) (pa_cons pe_int pa_nil))) (pa_cons pe_int pa_nil))))
      (pss_cons (ps_set (i := 2) nd rfl (.inl rfl) (pe_c c__law_marks hr (by decide) rfl (pa_cons (pv 1) (pa_cons pe_str (pa_cons pe_int (pa_cons pe_int pa_nil))))))
      (pss_cons (ps_set (i := 3) nd rfl (.inl rfl) (pe_c c__law_marks hr (by decide) rfl (pa_cons (pv 1) (pa_cons pe_str (pa_cons pe_int (pa_cons pe_int pa_nil))))))
      (pss_cons (ps_set (i := 4) nd rfl (.inl rfl) (pe_mk0 c_Bench hr (by decide) rfl))
      (pss_cons (ps_set (i := 5) nd rfl (.inl rfl) (pe_lst (pa_cons (pe_lst (pa_cons pe_dnewK (pa_cons pe_dnewK pa_nil))) pa_nil)))
      (pss_cons (ps_set (i := 6) nd rfl (.inl rfl) (pe_lst pa_nil))
      (pss_cons (ps_for PassesOwn.never rfl (pi_range1 rfl T.m_range (pa_cons (pe_op op_add (pe_op op_add (pe_callB call_len_seq rfl T.m_len (by decide +kernel) (pa_cons (pv 2) pa_nil)) (pe_callB call_len_seq rfl T.m_len (by decide +kernel) (pa_cons (pv 3) pa_nil))) (pe_c c__law_take hr (by decide) rfl (pa_cons (pv 1) (pa_cons pe_int pa_nil)))) pa_nil)) (pg_name (i := 7) nd rfl (.inl rfl)) (C8.pss_cut (ps_if (pt_cmpR op_lt (pv 7) (pe_callB call_len_seq rfl T.m_len (by decide +kernel) (pa_cons (pv 2) pa_nil)) (nomark _)) (pss_one (ps_set (i := 8) nd rfl (.inl rfl) (pe_c c__law_table_line hr (by decide) rfl (pa_cons (pv 1) (pa_cons (pe_ix ix_list (pv 2) (pv 7) (fun _ _ => rfl)) pa_nil))))) (pss_one (ps_if (pt_cmpR op_lt (pv 7) (pe_op op_add (pe_callB call_len_seq rfl T.m_len (by decide +kernel) (pa_cons (pv 2) pa_nil)) (pe_callB call_len_seq rfl T.m_len (by decide +kernel) (pa_cons (pv 3) pa_nil))) (nomark _)) (pss_one (ps_set (i := 8) nd rfl (.inl rfl) (pe_c c__law_sum_line hr (by decide) rfl (pa_cons (pv 1) (pa_cons (pe_ix ix_list (pv 3) (pe_op op_sub (pv 7) (pe_callB call_len_seq rfl T.m_len (by decide +kernel) (pa_cons (pv 2) pa_nil))) (fun _ _ => rfl)) (pa_cons (pv 2) (pa_cons (pe_ix ix_list (pv 5) (pe_un un_neg pe_int) (fun _ _ => rfl)) pa_nil))))))) (pss_one (ps_set (i := 8) nd rfl (.inl rfl) (pe_c c__law_line hr (by decide) rfl (pa_cons (pe_c c__law_purse hr (by decide) rfl (pa_cons (pe_c c__law_at hr (by decide) rfl (pa_cons (pv 0) (pa_cons (pe_op op_add pe_int (pe_op op_mod (pv 7) pe_int)) pa_nil))) (pa_cons (pv 7) pa_nil))) (pa_cons (pv 2) (pa_cons (pv 3) (pa_cons (pe_ix ix_list (pv 5) (pe_un un_neg pe_int) (fun _ _ => rfl)) pa_nil))))))))))
      (pss_cons (ps_expr (pe_bm PySem.F.plainAttrs_list PySem.F.slot_list_append PySem.F.type_list_append mt_append (pv 5) (pa_cons (pe_c c__law_behind hr (by decide) rfl (pa_cons (pe_ix ix_list (pv 5) (pe_un un_neg pe_int) (fun _ _ => rfl)) (pa_cons (pv 8) pa_nil))) pa_nil)))
      (pss_cons (ps_expr (pe_bm PySem.F.plainAttrs_list PySem.F.slot_list_append PySem.F.type_list_append mt_append (pv 6) (pa_cons (pe_ix ix_list (pe_split (pe_ix ix_list (pv 8) pe_int (fun _ _ => rfl)) pe_str) pe_int (fun _ _ => rfl)) pa_nil)))
      (pss_one (ps_if (pt_cmpR op_ne (pe_mtX c_Bench_tell hr (by decide) (pv 4) (pa_cons (pe_ix ix_list (pv 8) pe_int (fun _ _ => rfl)) pa_nil)) (pe_ix ix_list (pv 8) pe_int (fun _ _ => rfl)) (nomark _)) (pss_one (ps_ret pe_bl)) pss_nil))))))
      (pss_cons (ps_if (pt_not (pt_val (pe_c c__law_stands hr (by decide) rfl (pa_cons (pv 4) (pa_cons (pe_ix ix_list (pv 5) (pe_un un_neg pe_int) (fun _ _ => rfl)) pa_nil))))) (pss_one (ps_ret pe_bl)) pss_nil)
      (pss_cons (ps_while PassesOwn.never (pt_cmpR (op_neE hr.units) (pv 6) (pe_lst pa_nil) (nomark _)) (C8.pss_cut (ps_if (PW.pt (pw_and (pt_cmpR op_eq (pe_op op_mod (pe_callB call_len_seq rfl T.m_len (by decide +kernel) (pa_cons (pv 6) pa_nil)) pe_int) pe_int (nomark _)) (pw_and1 (pt_not (pt_val (pe_c c__law_stands hr (by decide) rfl (pa_cons (pv 4) (pa_cons (pe_ix ix_list (pv 5) (pe_un un_neg pe_int) (fun _ _ => rfl)) pa_nil)))))))) (pss_one (ps_ret pe_bl)) pss_nil)
      (pss_cons (ps_expr (pe_bm0 PySem.F.plainAttrs_list PySem.F.slot_list_pop PySem.F.type_list_pop mt_pop (pv 5)))
      (pss_one (ps_if (pt_cmpR op_ne (pe_mtX c_Bench_tell hr (by decide) (pv 4) (pa_cons pe_str pa_nil)) (pe_bm0 PySem.F.plainAttrs_list PySem.F.slot_list_pop PySem.F.type_list_pop mt_pop (pv 6)) (nomark _)) (pss_one (ps_ret pe_bl)) pss_nil)))))
      (pss_one (ps_ret (pe_c c__law_none_left hr (by decide) rfl (pa_cons (pv 4) pa_nil))))))))))))), ?_⟩
    refine ⟨_, rfl, sc, ns, 0, rfl, hS, fun i0 => ?_⟩
    refine ⟨i0, 87, rfl, by decide, by decide, fun a H1 s1 ha0 hP1 => ?_⟩
    refine ⟨_, rfl, a, 97, 12, 30, 0, (by rw [alf_small]; rfl), hP1, by decide, by decide, by decide, fun nb nn H2 kp2 hnb0 hnb2 hnO hn12 hn30 hP2 => ?_⟩
    refine ⟨_, rfl, a, 65, 20, 40, 0 + 10, (by rw [alf_capital]; rfl), hP2, by decide, by decide, by decide, fun sb sn H3 kp3 hsb0 hsb3 hsO hs20 hs40 hP3 => ?_⟩
    have hnN : ∀ n ∈ nn, NameOk n := fun n hn => ⟨(hnO n hn).1, (hnO n hn).2.1, fun c hc => by have := (hnO n hn).2.2 c hc; omega⟩
    have hsN : ∀ n ∈ sn, SignOk n := fun n hn => ⟨(hsO n hn).1, (hsO n hn).2.1, fun c hc => by have := (hsO n hn).2.2 c hc; omega⟩
    have nba : nb ≠ a := fun z => by
      rw [z] at hnb0
      exact (pu_ne hP1) hnb0
    have sba : sb ≠ a := fun z => by
      rw [z] at hsb0
      exact (pu_ne hP2) hsb0
    have hnb3 := kp3 _ _ hnb2 nba
    intro p dx hp0 hdx0 npdx
    have s34 : Same H3 (upd (upd H3 dx (.own p)) p (.ins (cB K) dx [])) := Same.new (same_new hdx0) (by rw [upd_ne npdx.symm]; exact hp0)
    refine ⟨p, dx, fun _ => none, rfl, upd_same, (fun b o q => nomatch q), rfl, fun dt ds pa H5 kp5 f1 f2 f3 hB5 => ⟨rfl, ?_⟩⟩
    have s35 : Same H3 H5 := fun b o q => kp5 b o (s34 b o q) (ne_free q hp0)
    have out3 : ∀ b, H3 b ≠ none → b ∉ muts p ⟨dt, ds, pa, [], [], []⟩ := fun b hb hm => by
      simp only [muts, List.flatMap_nil, List.mem_cons, List.not_mem_nil, or_false] at hm
      rcases hm with rfl | rfl | rfl | rfl
      · exact hb hp0
      · exact hb (s34.free f3)
      · exact hb (s34.free f1)
      · exact hb (s34.free f2)
    refine fun d1 h1 d2 h2 => ⟨sz2, fun s0 h0 => ⟨sz1, fun st hst => ⟨sz0, fun wo hwo => ?_⟩⟩⟩
    obtain ⟨hI, s5⟩ := LI.init (nn := nn) (sn := sn) hB5 rfl rfl rfl (fun x hx => out3 x (by
      simp only [List.mem_cons, List.not_mem_nil, or_false] at hx
      rcases hx with rfl | rfl | rfl
      · exact pu_ne hP3
      · rw [hnb3]
        simp
      · rw [hsb3]
        simp)) nba sba (hP3.same s35) (s35 _ _ hnb3) (s35 _ _ hsb3) h1 rfl h2 rfl h0 rfl hst rfl hwo rfl
    have hSc : Sc K (ns.map V.int) p a st wo ⟨dt, ds, pa, [], [], []⟩ (upd (upd (upd (upd (upd H5 d1 (.dK [])) d2 (.dK [])) s0 (.lst [.ref d1, .ref d2])) st (.lst [.ref s0])) wo (.lst [])) sc := by
      rcases sqL_cases hS with h | h
      · exact .inl h
      · have hsa : sc ≠ a := fun z => by
          rw [z, ha0] at h
          exact h rfl
        have there : ∀ o, H sc = some o → H3 sc = some o := fun o q => kp3 _ _ (kp2 _ _ (s1 _ _ q) hsa) hsa
        obtain ⟨w, hw⟩ : ∃ w, H sc = some w := by
          cases q : H sc with
          | none => exact absurd q h
          | some w => exact ⟨w, rfl⟩
        have h3 := there _ hw
        have hall := s5 _ _ (s35 _ _ h3)
        refine .inr ⟨?_, by rw [hall]; simp, out3 _ (by rw [h3]; simp), hsa, ?_, ?_⟩
        · rcases hS with (q | ⟨o, q⟩) | q
          · exact .inl (.inl (s5 _ _ (s35 _ _ (there _ q))))
          · exact .inl (.inr ⟨o, s5 _ _ (s35 _ _ (there _ q))⟩)
          · exact .inr q
        · exact ne_free (((same_new h1).trans ((same_new h2).trans (same_new h0))) _ _ (s35 _ _ h3)) hst
        · exact ne_free (((same_new h1).trans ((same_new h2).trans ((same_new h0).trans (same_new hst)))) _ _ (s35 _ _ h3)) hwo
    generalize upd (upd (upd (upd (upd H5 d1 (.dK [])) d2 (.dK [])) s0 (.lst [.ref d1, .ref d2])) st (.lst [.ref s0])) wo (.lst []) = HA at hI s5 hSc ⊢
    generalize (⟨dt, ds, pa, [], [], []⟩ : Bn) = B0 at hI hSc
    clear hB5
    refine ⟨_, rfl, _, _, rfl, .inl (SqL.of hI.hnb), _, rfl, _, _, rfl, .inl (SqL.of hI.hsb), _, _, rfl, rfl, _, rfl, a, 13, 0 + 10 + 10, rfl, hI.pu, by decide, by decide, by decide, fun r HB r0 r1 kpB hPB => ?_⟩
    have hIB := hI.keep (m' := 40) kpB (hPB.mono (by decide))
    have hScB : Sc K (ns.map V.int) p a st wo B0 HB sc := hSc.mv (fun b o q _ n _ _ => kpB b o q n) (fun b hb => .inl hb)
    refine ⟨_, _, rfl, rfl, _, rfl, ?_, ?_, for_it (walk_range (lo := 0) (n := (((wV nn).length : Int) + ((wV sn).length : Int) + r).toNat)) (fun i σ H' => ∃ G B sl hist cur, LI K p a st wo nb sb nn sn G H' B sl hist cur (40 + 6 * i) ∧ hist.length = i ∧ cur.1.length ≤ bT nn.length sn.length i ∧ cur.2.length ≤ bS nn.length i ∧ (0 < i → 0 < cur.1.length) ∧ Sc K (ns.map V.int) p a st wo B H' sc ∧ ∃ v7 v8, σ = [some (.ref sc), some (.ref a), some (.ref nb), some (.ref sb), some (.ref p), some (.ref st), some (.ref wo), v7, v8])
      ⟨_, B0, [s0], [], ([], []), hIB, rfl, Nat.zero_le _, Nat.zero_le _, fun z => absurd z (by decide), hScB, none, none, rfl⟩ (fun _ _ _ _ _ => trivial) ?_ ?_⟩
    · rw [wV_len, wV_len]
      omega
    · rw [wV_len, wV_len]
      omega
    · rintro i x σ HZ HY hi ⟨G, B, sl, hist, cur, hL, hh, hb1, hb2, hpos, hSC, v7, v8, rfl⟩ ⟨rfl, rfl⟩
      rw [wV_len, wV_len] at hi
      have hi90 : i < 90 := by omega
      obtain ⟨hw, hl1, hl2⟩ := hL.cw
      obtain ⟨sT, hsT, hLx⟩ := hL.at
      have hLr := hLx.n.all
      obtain ⟨dd1, dd2, dd3, dd4, dd5, dd6, dd7, dd8, dd9⟩ := hL.di
      refine ⟨fun σ' H' => ∃ d c, σ' = [some (.ref sc), some (.ref a), some (.ref nb), some (.ref sb), some (.ref p), some (.ref st), some (.ref wo), some (.int (0 + (i : Int))), some (.ref d)] ∧ Keep a HY H' ∧ PuR H' a (40 + 6 * i + 6) ∧ HY d = none ∧ LlR K H' d c cur.1 cur.2 ∧ (i < nn.length → ∃ n c' l, c = .tb n c' l) ∧ (nn.length ≤ i → i < nn.length + sn.length → ∃ sg nm t o, c = .sm sg nm t o), ?_, ?_⟩
      · refine ⟨_, rfl, _, rfl, _, _, rfl, .inl (SqL.of hL.hnb), _, _, rfl, rfl, _, rfl, ?_⟩
        rw [wV_len]
        refine if2 (fun h => ?_) (fun h => ?_)
        · have h := of_decide_eq_true h
          obtain ⟨n, hn, hat⟩ := at_wV (ns := nn) (r := 0 + (i : Int)) (by omega) (by omega)
          exact ⟨_, rfl, _, rfl, _, rfl, _, _, _, _, rfl, rfl, SqL.of hL.hnb, hat, a, n, _, cur.1, cur.2, rfl, hL.pu, by omega, hnN n hn, fun d c l H2 kp hd hl hP2 => ⟨d, .tb n c l, rfl, kp, hP2.mono (by omega), hd, hl, fun _ => ⟨_, _, _, rfl⟩, fun z => absurd z (by omega)⟩⟩
        · have h := of_decide_eq_false h
          have hpos := hpos (by omega)
          refine ⟨_, rfl, _, rfl, _, _, rfl, .inl (SqL.of hL.hnb), _, rfl, _, _, rfl, .inl (SqL.of hL.hsb), _, _, rfl, rfl, _, _, rfl, rfl, _, rfl, ?_⟩
          rw [wV_len, wV_len]
          refine if2 (fun h2 => ?_) (fun h2 => ?_)
          · have h2 := of_decide_eq_true h2
            obtain ⟨n, hn, hat⟩ := at_wV (ns := sn) (r := 0 + (i : Int) - (nn.length : Int)) (by omega) (by omega)
            refine ⟨_, rfl, _, rfl, _, rfl, _, rfl, _, _, rfl, .inl (SqL.of hL.hnb), _, _, rfl, rfl, ?_⟩
            rw [wV_len]
            exact ⟨_, _, _, _, rfl, rfl, SqL.of hL.hsb, hat, _, rfl, _, rfl, _, rfl, _, _, _, _, rfl, rfl, SqL.of hL.hst, hsT, a, sT, n, _, _, cur.1, cur.2, rfl, hL.pu, by omega, hsN n hn, hLr, hpos, hl1, fun e he => (hw.tn e he).1, fun d c H2 kp hd hl hc hP2 => ⟨d, c, rfl, kp, hP2.mono (by omega), hd, hl, fun z => absurd z (by omega), fun _ _ => ⟨_, hc⟩⟩⟩
          · have h2 := of_decide_eq_false h2
            have e9 : ((1 : Int) + (0 + (i : Int)) % 9) = ((1 + i % 9 : Nat) : Int) := by omega
            refine ⟨_, rfl, _, rfl, _, _, rfl, rfl, (by show (0 : Int) < 9; decide), _, _, rfl, rfl, sc, ns, 1 + i % 9, (by rw [← e9]; rfl), hSC.q, fun q => ?_⟩
            refine ⟨_, rfl, q, 0 + (i : Int), rfl, by omega, by omega, fun a2 H2 s2 ha2 hP2 => ?_⟩
            refine ⟨_, rfl, _, rfl, _, rfl, _, rfl, _, _, _, _, rfl, rfl, SqL.of (s2 _ _ hL.hst), hsT, a2, nb, sb, sT, 0, nn, sn, cur.1, cur.2, rfl, hP2, by decide, SqL.of (s2 _ _ hL.hnb), SqL.of (s2 _ _ hL.hsb), by omega, by omega, by omega, by omega, hnN, hsN, hLr.same s2, hpos, hl1, hl2, fun e he => (hw.tn e he).1, fun e he => (hw.sn e he).1, fun d c H3 kp hd hl => ?_⟩
            have s3 : Same HY H3 := fun b o q => kp b o (s2 _ _ q) (ne_free q ha2)
            exact ⟨d, c, rfl, Keep.of s3, (hL.pu.same s3).mono (by omega), s2.free hd, hl, fun z => absurd z (by omega), fun _ z => absurd z (by omega)⟩
      · rintro σ' HE ⟨d, c, rfl, kpE, hPE, hdE, hl, ph1, ph2⟩
        have hLE := hL.keep kpE hPE
        obtain ⟨sT2, hsT2, hLxE⟩ := hLE.at
        obtain ⟨tv, hd, hTd, hC⟩ := id hl
        obtain ⟨_, _, _, _, _, _, _, _, _, _, _, _, ntL, nsL⟩ := id hLxE
        refine ⟨_, rfl, .inl ⟨rfl, _, SqL.of hLE.hst⟩, _, rfl, _, rfl, _, _, _, _, rfl, rfl, SqL.of hLE.hst, hsT2, _, rfl, sT2, d, c, cur.1, cur.2, rfl, hLxE.n.all, hl, by omega, by omega, fun s' HF sF hX => ?_⟩
        have hsl : sl.length ≤ 100 := by
          obtain ⟨_, _, q, _⟩ := hL.last
          omega
        refine ⟨st, _, _, rfl, rfl, sF _ _ hLE.hst, szl (by rw [List.length_map]; omega), ?_⟩
        have there1 : ∀ b o, HE b = some o → b ≠ st → (upd HF st (.lst (sl.map V.ref ++ [.ref s']))) b = some o := fun b o q n => by
          rw [upd_ne n]
          exact sF _ _ q
        have hst1 : (upd HF st (.lst (sl.map V.ref ++ [.ref s']))) st = some (.lst (sl.map V.ref ++ [.ref s'])) := upd_same
        have keepF : ∀ b o, HF b = some o → b ≠ st → (upd HF st (.lst (sl.map V.ref ++ [.ref s']))) b = some o := fun b o q n => by
          rw [upd_ne n]
          exact q
        generalize upd HF st (.lst (sl.map V.ref ++ [.ref s'])) = HG at there1 hst1 keepF ⊢
        have dst : d ≠ st := fun z => by
          rw [z, hL.hst] at hdE
          cases hdE
        have dwo : d ≠ wo := fun z => by
          rw [z, hL.hwo] at hdE
          cases hdE
        have hdG := there1 _ _ hd dst
        have hwoG := there1 _ _ hLE.hwo dd3.symm
        have hll := lc_len hC
        have hcm := cm_ok hLE.tp hLE.sq hLE.br.dt.1 hw hC
        obtain ⟨rr, hws⟩ := first_ws hC
        refine ⟨_, rfl, .inl ⟨rfl, _, SqL.of hwoG⟩, _, rfl, _, _, _, _, rfl, rfl, SqL.of hdG, at_get (i := 0) rfl, ⟨_, rfl⟩, _, _, rfl, rfl, (by decide +kernel), szk (by rw [len_S]; omega), fun q hq => ?_⟩
        rw [show Txt.split (SS (lineOf c)) (Str.ofString " ") = (firstW c :: rr).map SS by rw [l_blank, ws_split hcm, hws]]
        have sH := same_new (o := .lst (((firstW c :: rr).map SS).map V.str)) hq
        have qH : (upd HG q (.lst (((firstW c :: rr).map SS).map V.str))) q = some (.lst (((firstW c :: rr).map SS).map V.str)) := upd_same
        generalize upd HG q (.lst (((firstW c :: rr).map SS).map V.str)) = HH at sH qH ⊢
        refine ⟨_, _, _, _, rfl, rfl, SqL.of qH, at_get (i := 0) rfl, wo, _, _, rfl, rfl, sH _ _ hwoG, szl (by rw [wV_len, List.length_map]; omega), ?_⟩
        have keepH : ∀ b o, HF b = some o → b ≠ st → b ≠ wo → (upd HH wo (.lst (wV (hist.map (·.1)) ++ [.str (SS (firstW c))]))) b = some o := fun b o z n n2 => by
          rw [upd_ne n2]
          exact sH _ _ (keepF _ _ z n)
        have hst7 : (upd HH wo (.lst (wV (hist.map (·.1)) ++ [.str (SS (firstW c))]))) st = some (.lst ((sl ++ [s']).map V.ref)) := by
          rw [upd_ne dd3, List.map_append]
          exact sH _ _ hst1
        have hwo7 : (upd HH wo (.lst (wV (hist.map (·.1)) ++ [.str (SS (firstW c))]))) wo = some (.lst (wV (hist.map (·.1) ++ [firstW c]))) := by
          rw [upd_same]
          simp [wV]
        have hd7 : (upd HH wo (.lst (wV (hist.map (·.1)) ++ [.str (SS (firstW c))]))) d = some (.lst [.str (SS (lineOf c)), .str (SS (ansOf c)), tv]) := by
          rw [upd_ne dwo]
          exact sH _ _ hdG
        generalize upd HH wo (.lst (wV (hist.map (·.1)) ++ [.str (SS (firstW c))])) = H7 at keepH hst7 hwo7 hd7 ⊢
        have hLF := hLE.same sF
        have hB7 : BR K G H7 p B := hLF.br.but (L := [st, wo]) (fun b o z n => by
          simp only [List.mem_cons, List.not_mem_nil, or_false, not_or] at n
          exact keepH b o z n.1 n.2) (fun x hx => hL.ow x (by
          simp only [List.mem_cons, List.not_mem_nil, or_false] at hx
          rcases hx with rfl | rfl <;> simp))
        obtain ⟨dx7, hi7⟩ := hB7.ins
        have dmu : d ∉ muts p B := fun z => by
          obtain ⟨o, e, _⟩ := hL.br.at z
          rw [hdE] at e
          cases e
        have hhl : hist.length ≤ 400 := by omega
        refine ⟨_, rfl, p, dx7, _, rfl, hi7, bfl_no (by decide +kernel) (by decide +kernel) (by decide +kernel), _, rfl, _, _, _, _, rfl, rfl, SqL.of hd7, at_get (i := 0) rfl, p, c, G, B, rfl, hB7, hL.small hhl, hcm, tell_of hLE.tp hLE.sq hB7.dt.1 hw hC fun G' H8 B' dt' ds' nx g1 g2 g3 => ?_⟩
        have hd8 := nx.1.k _ _ hd7 dmu
        refine ⟨_, rfl, _, _, _, _, rfl, rfl, SqL.of hd8, at_get (i := 1) rfl, rfl, _, rfl, ifF (by simp) ?_⟩
        have noE : ∀ {b : Addr} {o : HO}, HE b = some o → ∀ {x : Addr}, HE x = none → x ≠ b := fun {b o} q {x} hx z => by
          rw [z, q] at hx
          cases hx
        obtain ⟨pn, pc, pk, hpa, _⟩ := id hPE
        have noGE : ∀ {b : Addr}, HE b = none → G b = none := fun {b} f => by
          cases q : G b with
          | none => rfl
          | some o2 =>
            rw [hLE.br.sm _ _ q] at f
            cases f
        have noM : ∀ {b : Addr}, HE b = none → b ∉ muts p B := fun {b} f z => by
          obtain ⟨o2, e2, _⟩ := hLE.br.at z
          exact noE e2 f rfl
        have hXx : LRx K (Fx p a st wo B G) HF s' (ltB cur.1 c) (lsB cur.2 c) := hX.mv (fun b o _ q => q) (SameT.refl _) (fun b o f _ => ⟨noM f, noGE f, noE hpa f, noE hLE.hst f, noE hLE.hwo f⟩)
        have hwn := wf_next hw hC
        have lt1 := ltB_len (lt := cur.1) (c := c)
        have lt2 := lsB_len (ls := cur.2) (c := c)
        have hb3 : (ltB cur.1 c).length ≤ bT nn.length sn.length (i + 1) := by
          by_cases q1 : i < nn.length
          · unfold bT at hb1 ⊢
            rw [if_pos (by omega)] at hb1 ⊢
            omega
          · by_cases q2 : i < nn.length + sn.length
            · obtain ⟨sg, nm, t, o, rfl⟩ := ph2 (by omega) q2
              have e : ltB cur.1 (.sm sg nm t o) = cur.1 := rfl
              rw [e]
              unfold bT at hb1 ⊢
              rw [if_neg (by omega)]
              split at hb1 <;> omega
            · unfold bT at hb1 ⊢
              rw [if_neg (by omega)] at hb1 ⊢
              omega
        have hb4 : (lsB cur.2 c).length ≤ bS nn.length (i + 1) := by
          by_cases q1 : i < nn.length
          · obtain ⟨n, c', l, rfl⟩ := ph1 q1
            have e : (lsB cur.2 (.tb n c' l)).length ≤ cur.2.length := List.length_filter_le _ _
            unfold bS at hb2 ⊢
            omega
          · unfold bS at hb2 ⊢
            omega
        have hb5 : bT nn.length sn.length (i + 1) < 64 := by
          unfold bT
          split <;> omega
        have hb6 : bS nn.length (i + 1) < 64 := by
          unfold bS
          omega
        have hLI := hLF.step (w := firstW c) (c2 := (ltB cur.1 c, lsB cur.2 c)) hXx keepH hst7 hwo7 nx g1 g2 g3 ⟨hwn, by show (ltB cur.1 c).length < 64; omega, by show (lsB cur.2 c).length < 64; omega⟩
        refine ⟨G', B', _, _, _, hLI, by simp [hh], hb3, hb4, fun _ => ?_, ?_, _, _, rfl⟩
        · refine ltB_pos hC ntL ?_ (fun e he => (hw.tn e he).1)
          by_cases q1 : i < nn.length
          · exact .inr (ph1 q1)
          · exact .inl (hpos (by omega))
        · have there7 : ∀ b o, HY b = some o → b ∉ muts p B → b ≠ a → b ≠ st → b ≠ wo → H7 b = some o := fun b o q _ n1 n2 n3 => keepH b o (sF _ _ (kpE b o q n1)) n2 n3
          refine hSC.mv (fun b o q n0 n1 n2 n3 => nx.1.k b o (there7 b o q n0 n1 n2 n3) n0) (fun b hb => ?_)
          rcases nx.2.2 b hb with z | z
          · exact .inl z
          · refine .inr ?_
            cases q : HY b with
            | none => rfl
            | some o =>
              exfalso
              by_cases n0 : b ∈ muts p B
              · obtain ⟨o2, e2, _⟩ := hB7.at n0
                rw [z] at e2
                cases e2
              by_cases n2 : b = st
              · rw [n2, hst7] at z
                cases z
              by_cases n3 : b = wo
              · rw [n3, hwo7] at z
                cases z
              by_cases n1 : b = a
              · have := keepH a _ (sF _ _ hpa) dd1 dd2
                rw [n1, this] at z
                cases z
              · rw [there7 b o q n0 n1 n2 n3] at z
                cases z
    · rintro σ HZ ⟨G, B, sl, hist, cur, hL, hh, hb1, hb2, hpos, hSC, v7, v8, rfl⟩
      have hh2 : hist.length ≤ 100 := by
        rw [hh, wV_len, wV_len]
        omega
      generalize 40 + 6 * (((wV nn).length : Int) + ((wV sn).length : Int) + r).toNat = mm at hL
      clear hh hb1 hb2 hpos hSC
      have stands : ∀ {H1 : Hp} {G : Hp} {B : Bn} {sl : List Addr} {hist : List Hs} {cur : St2}, LI K p a st wo nb sb nn sn G H1 B sl hist cur mm → ∃ s, atI (sl.map V.ref) (-1) = some (V.ref s) ∧ LRn K (fun b => b ∉ muts p B ∧ G b = none) H1 s cur.1 cur.2 := fun {H1 G B sl hist cur} hL => by
        obtain ⟨s, h1, h2⟩ := hL.at
        exact ⟨s, h1, (h2.mv (F' := fun b => b ∉ muts p B ∧ G b = none) (fun b o _ q => q) (SameT.refl _) (fun b o f _ => ⟨f.1, f.2.1⟩)).n⟩
      obtain ⟨s9, h91, h92⟩ := stands hL
      refine ⟨_, rfl, _, rfl, _, rfl, _, _, _, _, rfl, rfl, SqL.of hL.hst, h91, p, s9, G, B, cur.1, cur.2, rfl, hL.br, hL.small (by omega), h92, hL.tp, hL.sq, hL.cw.1, fun H1 sH1 => ?_⟩
      refine ⟨_, rfl, ifF rfl ?_⟩
      have hL1 := hL.same sH1
      refine while_by (fun σ H' => ∃ B sl hist cur, LI K p a st wo nb sb nn sn G H' B sl hist cur mm ∧ hist.length ≤ 100 ∧ ∃ v7 v8, σ = [some (.ref sc), some (.ref a), some (.ref nb), some (.ref sb), some (.ref p), some (.ref st), some (.ref wo), v7, v8]) (fun _ H' => match H' wo with | some (.lst xs) => xs.length | _ => 0) ⟨B, sl, hist, cur, hL1, hh2, _, _, rfl⟩ ?_ ?_
      · clear hL hL1 h91 h92 hh2 sH1
        rintro σ HX ⟨B, sl, hist, cur, hL, hh, v7, v8, rfl⟩
        refine ⟨_, rfl, sz0, fun e he => ?_⟩
        have sX := same_new (o := .lst []) he
        refine ⟨wo, e, _, rfl, rfl, sX.seq (SqL.of hL.hwo), SqL.of upd_same, _, rfl, ?_⟩
        have hmu : (match HX wo with | some (.lst xs) => xs.length | _ => 0) = hist.length := by
          rw [hL.hwo]
          show (wV (hist.map (·.1))).length = _
          rw [wV_len, List.length_map]
        have hLX := hL.same sX
        generalize upd HX e (.lst []) = HW at sX hLX ⊢
        rw [if_pos rfl]
        refine if2 (fun hne => ?_) (fun hem => ?_)
        · obtain ⟨hist2, ⟨w9, prev⟩, rfl⟩ : ∃ h2 x, hist = h2 ++ [x] := by
            rcases List.eq_nil_or_concat hist with h | ⟨h2, x, h⟩
            · subst h
              simp [wV] at hne
            · exact ⟨h2, x, by rw [h]; simp⟩
          have hl2 : (hist2 ++ [(w9, prev)]).length = hist2.length + 1 := by simp
          refine ⟨fun σ' H' => Same HW H' ∧ σ' = [some (.ref sc), some (.ref a), some (.ref nb), some (.ref sb), some (.ref p), some (.ref st), some (.ref wo), v7, v8], ?_, ?_⟩
          · refine ⟨_, rfl, _, _, rfl, .inl (SqL.of hLX.hwo), _, _, rfl, rfl, (by show (0 : Int) < 6; decide), rfl, _, rfl, ?_⟩
            refine if2 (fun _ => ?_) (fun _ => ⟨Same.refl _, rfl⟩)
            obtain ⟨s9, h91, h92⟩ := stands hLX
            refine ⟨_, rfl, _, rfl, _, rfl, _, _, _, _, rfl, rfl, SqL.of hLX.hst, h91, p, s9, G, B, cur.1, cur.2, rfl, hLX.br, hLX.small (by omega), h92, hLX.tp, hLX.sq, hLX.cw.1, fun H1 sH1 => ?_⟩
            exact ⟨_, rfl, ifF rfl ⟨sH1, rfl⟩⟩
          · rintro σ' HV ⟨sV, rfl⟩
            have hLV := hLX.same sV
            obtain ⟨sl9, q1, q2, _⟩ := hLV.last
            obtain ⟨d1', d2', d3', d4', d5', d6', d7', d8', d9'⟩ := hLV.di
            refine ⟨_, rfl, .inl ⟨rfl, _, SqL.of hLV.hst⟩, st, _, .ref sl9, rfl, rfl, hLV.hst, (by rw [List.length_map, List.getElem?_map, q1]; rfl), ?_⟩
            have o1 : ∀ b o, HV b = some o → b ≠ st → b ≠ wo → (upd HV st (.lst (sl.map V.ref).dropLast)) b = some o := fun b o q n _ => by rw [upd_ne n]; exact q
            have st1 : (upd HV st (.lst (sl.map V.ref).dropLast)) st = some (.lst (sl.map V.ref).dropLast) := upd_same
            have wo1 : (upd HV st (.lst (sl.map V.ref).dropLast)) wo = some (.lst (wV ((hist2 ++ [(w9, prev)]).map (·.1)))) := by rw [upd_ne d3'.symm]; exact hLV.hwo
            have hB1 : BR K G (upd HV st (.lst (sl.map V.ref).dropLast)) p B := hLV.br.but (L := [st]) (fun b o q n => by rw [upd_ne (by simpa using n)]; exact q) (fun x hx => by rw [List.mem_singleton.mp hx]; exact hLV.ow st (by simp))
            generalize upd HV st (.lst (sl.map V.ref).dropLast) = HU at o1 st1 wo1 hB1 ⊢
            obtain ⟨dxU, hiU⟩ := hB1.ins
            have hpast : B.past ≠ [] := fun z => by
              have := Paired.length hLV.pst
              rw [z, hl2] at this
              simp at this
            refine ⟨_, rfl, p, dxU, _, rfl, hiU, bfl_no (by decide +kernel) (by decide +kernel) (by decide +kernel), p, .un, G, B, (by rw [lt_undo]; rfl), hB1, hLV.small (by omega), trivial, fun h0 => absurd h0 hpast, fun es e he HT nx => ?_⟩
            have hwoo := hLV.ow wo (by simp)
            have hsto := hLV.ow st (by simp)
            have woT := nx.1.k _ _ wo1 hwoo.1
            have stT := nx.1.k _ _ st1 hsto.1
            refine ⟨_, rfl, .inl ⟨rfl, _, SqL.of woT⟩, wo, _, .str (SS w9), rfl, rfl, woT, (by simp [wV]), ?_⟩
            obtain ⟨ew, hLI⟩ := hLV.back (H2 := HT) (H' := upd HT wo (.lst (wV ((hist2 ++ [(w9, prev)]).map (·.1))).dropLast)) he o1 ⟨by rw [st1]; simp, by rw [wo1]; simp⟩ nx (fun b o q _ n => by rw [upd_ne n]; exact q) (by rw [upd_ne d3', stT, List.map_dropLast]) (by rw [upd_same]; simp [wV])
            refine ⟨rfl, _, rfl, ifF (by rw [ew]; simp) ⟨⟨_, _, _, _, hLI, by omega, _, _, rfl⟩, ?_⟩⟩
            show _ < (match HX wo with | some (.lst xs) => xs.length | _ => 0)
            rw [hmu, hl2, hLI.hwo]
            show (wV (hist2.map (·.1))).length < _
            rw [wV_len, List.length_map]
            omega
        · have hn0 : hist = [] := by
            cases hist with
            | nil => rfl
            | cons x r => simp [wV] at hem
          subst hn0
          have hc : cur = ([], []) := by
            have := hLX.hd
            simpa using this
          subst hc
          refine ⟨_, rfl, p, G, B, rfl, hLX.br, hLX.small (by simp), ?_, ?_, hLX.sq, fun H' _ => hk H'⟩
          · exact List.length_eq_zero_iff.mp (by rw [Paired.length hLX.pst]; rfl)
          · exact List.perm_nil.mp hLX.tp
      · intro σ H Q Q' m h
        obtain ⟨v, h1, h2, h3⟩ := h
        refine ⟨v, h1, h2, fun p hp => ?_⟩
        obtain ⟨a, b, xs, e1, e2, e3, e4, b2, e5, e6⟩ := h3 p hp
        exact ⟨a, b, xs, e1, e2, e3, e4, b2, e5, m _ _ e6⟩
end
end Sw

/-! ## Fin -/
namespace Sw
open PySem PySem.Spec PyProof.Rows L2
theorem law_facts {P : Program} {w : World} {K : PySem.W.Frag} {h : Heap} {mg : Str → Option Value} {f : Addr} (X : K.In h) (G : h.Ns mainGlobals mg) (hfa : mg ("law" : Str) = some (.ref f)) (c : SaysS fas fns tabs exB w K) :
    ∃ fd : FuncData, (∀ (s : Shared) (v : Value), BindsTo s fd ⟨[v], []⟩ [("_law_script", v)]) ∧ ∀ base : Heap, FnOk P w K mg base C8.CX0 11 f fd ["_law_script"] (sp_law K) := by
  have T : Tx w K mg := Tx.of X G c
  obtain ⟨fd, F0⟩ := T.df 60 (d := DLaw)
  have F : Fun K "law" "law" sLaw (He.ga K "law") fd := He5.fun_of (st := sLaw) F0
  have b := FunD.bindsA (ps := ["_law_script"]) F0 fun _ _ _ _ _ _ us hl => match us, hl with | [_], _ => rfl
  have e := hfa.symm.trans T.g_law
  cases e
  refine ⟨fd, fun s v => ?_, fun base => ?_⟩
  · exact b s [v] rfl
  ·
    have c_is_whole := ok_is_whole (P := P) (base := base) T
    have c_divisor := ok_divisor (P := P) (base := base) T
    have c_is_number := ok_is_number (P := P) (base := base) T c_is_whole c_divisor
    have c_plus := ok_plus (P := P) (base := base) T
    have c_contrary := ok_contrary (P := P) (base := base) T
    have c_less := ok_less (P := P) (base := base) T c_contrary c_plus
    have c_times := ok_times (P := P) (base := base) T
    have c_is_row := ok_is_row (P := P) (base := base) T c_is_number
    have c_noughts_row := ok_noughts_row (P := P) (base := base) T
    have c_unit := ok_unit (P := P) (base := base) T c_noughts_row
    have c_is_nought := ok_is_nought (P := P) (base := base) T
    have c_scaled := ok_scaled (P := P) (base := base) T c_noughts_row c_times
    have c_added := ok_added (P := P) (base := base) T c_plus
    have c_are_ways := ok_are_ways (P := P) (base := base) T c_is_whole
    have c_Table_cross := ok_Table_cross (P := P) (base := base) T c_noughts_row c_times c_less c_scaled c_added
    have c_Table_of_ways := ok_Table_of_ways (P := P) (base := base) T c_noughts_row
    have c_Table_of_ways2 := ok_Table_of_ways2 (P := P) (base := base) T c_Table_of_ways c_contrary
    have c_round_sum := ok_round_sum (P := P) (base := base) T c_Table_cross c_unit c_Table_of_ways c_Table_of_ways2 c_added
    have c_first_fault := ok_first_fault (P := P) (base := base) T c_round_sum c_is_nought
    have c_need_law := ok_need_law (P := P) (base := base) T
    have c_Table_breaks := ok_Table_breaks (P := P) (base := base) T
    have c_Table := ok_Table___init__ (P := P) (base := base) T c_is_whole c_are_ways c_is_row c_is_nought c_first_fault
    have c_is_word := ok_is_word (P := P) (base := base) T c_is_whole
    have c_is_term := ok_is_term (P := P) (base := base) T c_is_number c_is_word
    have c_rank := ok_rank (P := P) (base := base) T
    have c_check_sum := ok_check_sum (P := P) (base := base) T c_is_term c_rank
    have c_gathered := ok_gathered (P := P) (base := base) T
    have c_told_sum := ok_told_sum (P := P) (base := base) T c_rank
    have c_put_to := ok_put_to (P := P) (base := base) T c_plus
    have c_climb := ok_climb (P := P) (base := base) T
    have c_risen := ok_risen (P := P) (base := base) T c_check_sum c_need_law c_gathered c_climb c_told_sum
    have c_number_text := ok_number_text (P := P) (base := base) T
    have c_row_text := ok_row_text (P := P) (base := base) T c_number_text
    have c_table_text := ok_table_text (P := P) (base := base) T c_row_text
    have c_word_text := ok_word_text (P := P) (base := base) T
    have c_sum_text := ok_sum_text (P := P) (base := base) T c_number_text c_word_text
    have c_figures_in := ok_figures_in (P := P) (base := base) T
    have c_whole_in := ok_whole_in (P := P) (base := base) T c_figures_in
    have c_number_in := ok_number_in (P := P) (base := base) T c_whole_in c_is_number
    have c_way_in := ok_way_in (P := P) (base := base) T c_figures_in
    have c_place_in := ok_place_in (P := P) (base := base) T
    have c_word_in := ok_word_in (P := P) (base := base) T c_way_in
    have c_row_in := ok_row_in (P := P) (base := base) T c_noughts_row c_number_in c_place_in
    have c_leaving_in := ok_leaving_in (P := P) (base := base) T c_way_in c_row_in
    have c_read_table := ok_read_table (P := P) (base := base) T c_figures_in c_leaving_in c_Table
    have c_read_sum := ok_read_sum (P := P) (base := base) T c_number_in c_word_in c_rank
    have c_made_of := ok_made_of (P := P) (base := base) T
    have c_is_line := ok_is_line (P := P) (base := base) T
    have c_look_new := ok_look_new (P := P) (base := base) T c_made_of
    have c_two_signs := ok_two_signs (P := P) (base := base) T
    have c_signs_of := ok_signs_of (P := P) (base := base) T c_two_signs
    have c_names_of := ok_names_of (P := P) (base := base) T
    have c_rule_text := ok_rule_text (P := P) (base := base) T c_Table_breaks
    have c_mixed := ok_mixed (P := P) (base := base) T c_gathered c_times c_put_to c_told_sum
    have c_Bench := ok_Bench___init__ (P := P) (base := base) T
    have c_Bench_keep := ok_Bench_keep (P := P) (base := base) T
    have c_Bench_taken_back := ok_Bench_taken_back (P := P) (base := base) T
    have c_Bench_without := ok_Bench_without (P := P) (base := base) T
    have c_Bench_put_table := ok_Bench_put_table (P := P) (base := base) T c_Bench_keep c_Bench_without
    have c_Bench_put_sum := ok_Bench_put_sum (P := P) (base := base) T c_Bench_keep
    have c_Bench_dropped := ok_Bench_dropped (P := P) (base := base) T c_Bench_keep c_Bench_without
    have c_Bench_look_there := ok_Bench_look_there (P := P) (base := base) T c_names_of c_signs_of c_two_signs
    have c_Bench_made := ok_Bench_made (P := P) (base := base) T c_read_sum c_risen c_number_in c_mixed
    have c_Bench_answer := ok_Bench_answer (P := P) (base := base) T c_table_text c_rule_text c_sum_text
    have c_Bench_tell := ok_Bench_tell (P := P) (base := base) T c_is_line c_look_new c_Bench_look_there c_Bench_taken_back c_Bench_put_table c_read_table c_Bench_put_sum c_Bench_made c_Bench_dropped c_Bench_answer
    have c__law_mixed := ok__law_mixed (P := P) (base := base) T
    have c__law_purse := ok__law_purse (P := P) (base := base) T c__law_mixed
    have c__law_take := ok__law_take (P := P) (base := base) T c__law_mixed
    have c__law_at := ok__law_at (P := P) (base := base) T
    have c__law_marks := ok__law_marks (P := P) (base := base) T c__law_take
    have c__law_table_line := ok__law_table_line (P := P) (base := base) T c__law_take
    have c__law_sum_line := ok__law_sum_line (P := P) (base := base) T c__law_take
    have c__law_line := ok__law_line (P := P) (base := base) T c__law_take c__law_table_line c__law_sum_line
    have c__law_behind := ok__law_behind (P := P) (base := base) T
    have c__law_stands := ok__law_stands (P := P) (base := base) T c_Bench_tell
    have c__law_none_left := ok__law_none_left (P := P) (base := base) T c_Bench_tell
    exact ok_law (P := P) (base := base) T F c__law_at c__law_purse c__law_marks c_Bench c__law_take c__law_table_line c__law_sum_line c__law_line c__law_behind c_Bench_tell c__law_stands c__law_none_left
end Sw
open PySem PySem.W PySem.Calls PyProof.Rows
theorem PySem.Challenge.cw_swaprest_k87_whole_many_on_a_bench_holds : PySem.Challenge.rw_swaprest_k87_whole_many_on_a_bench.Holds := by
  w_on; o_law
  refine HandSHeadRun.head_any (r := OpenLaw.row PySem.Challenge.rw_swaprest_k87_whole_many_on_a_bench) (q := Sw.qv) (H := Sw.hkX) (ob := Sw.ob) (M := 20000) (loose := Sw.looseN) (d := HandSHeadRun.topDef (OpenLaw.row PySem.Challenge.rw_swaprest_k87_whole_many_on_a_bench).prog 116) (kwd := []) Sw.ob_eq
    (by kernel_rfl) (fun s => by kernel_rfl) Sw.run (by kernel_rfl) (by kernel_rfl) (by kernel_rfl) (by rfl) (by first | assumption | decide +kernel) (by decide +kernel) ⟨rfl, rfl, rfl, rfl, rfl, by decide +kernel⟩ ?hw ?hc
  case hw => w_witness2
  case hc =>
    refine L2.walk_ofE (l := PySem.Challenge.rw_swaprest_k87_whole_many_on_a_bench) (n := 63) (k := 11) (x := "_law_script") (CX := C8.CX0) rfl (by decide) (by kernel_rfl) ⟨rfl, by decide, by decide⟩ ?F (fun _ _ _ _ z => z)
    intro w mg fa h Y G hmg0
    obtain ⟨K, KX, c⟩ := Y
    have hmg : mg ("law" : PySem.Str) = some (.ref fa) := by
      have e : (HandSHeadRun.topDef (OpenLaw.row PySem.Challenge.rw_swaprest_k87_whole_many_on_a_bench).prog 116).name = ("law" : PySem.Str) := by kernel_rfl
      rw [← e]
      exact hmg0
    obtain ⟨fd, hb, hF⟩ := Sw.law_facts (P := (PySem.Challenge.rw_swaprest_k87_whole_many_on_a_bench).prog) (w := w) KX G hmg c
    exact ⟨K, fd, Sw.sp_law K, KX, hb, fun H a ns hl _ hS => ⟨a, ns, rfl, hS, fun _ => rfl⟩, fun base _ _ => hF base⟩
