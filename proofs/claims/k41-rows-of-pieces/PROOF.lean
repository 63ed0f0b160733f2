import PyProof.Rows.All
import Wide.All
import OpenK.AllK
import Wide.FinOn
import HandS.ForMost
import HandS.ForExc
import HandS.Defaults
import HandS.HeadHook2
import HandS.Head0
import HandS.ExcIs
import KE.KStateDown
import Lean
import HandS.Head1
import HandS.Head2
import HandS.HeadEnd
import HandS.HeadHook1
import KE.GoesEnumKw
import PyProof.Draws
import HandS.More
import HandS.IsInst
import HandS.Codes
import HandS.DictComp
import PySem.Challenge.RW_rowblade_k41_rows_of_pieces
set_option Elab.async false
set_option linter.all false
set_option maxRecDepth 100000
set_option maxHeartbeats 0
/-! Rowblade, the law k41: the defs by place, their scopes, the facts that the head tells (written by gen_text.py). -/
namespace Rb
open PySem PySem.Spec PyProof.Rows L2
def top (i : Nat) : Stmt := PySem.Challenge.pw_rowblade_k41_rows_of_pieces.main.body.getD i (.Pass ⟨0, 0, 0, 0⟩)

abbrev sPrInit : Stmt := inClass (top 46) 0
abbrev sSpInit : Stmt := inClass (top 58) 0
abbrev sTrInit : Stmt := inClass (top 63) 0
abbrev sTold : Stmt := inClass (top 63) 2
abbrev sPcInit : Stmt := inClass (top 65) 0
abbrev sWhole : Stmt := inClass (top 65) 1
abbrev sLastR : Stmt := inClass (top 65) 2
abbrev sHdInit : Stmt := inClass (top 72) 0
abbrev sHdTake : Stmt := inClass (top 72) 1
abbrev sLetGo : Stmt := inClass (top 72) 3
abbrev sHdKept : Stmt := inClass (top 72) 9
abbrev sTnInit : Stmt := inClass (top 74) 0
abbrev sGive : Stmt := inClass (top 74) 1
abbrev sWant : Stmt := inClass (top 74) 2
abbrev sEndTurn : Stmt := inClass (top 74) 3
abbrev sTnTake : Stmt := inClass (top 74) 4
abbrev sTnNone : Stmt := inClass (top 74) 5
abbrev sGoOn : Stmt := inClass (top 74) 7
abbrev sAhead : Stmt := top 77
abbrev sBlInit : Stmt := inClass (top 78) 0
abbrev sNeedOpen : Stmt := inClass (top 78) 1
abbrev sTakeFirst : Stmt := inClass (top 78) 2
abbrev sRowsGiven : Stmt := inClass (top 78) 3
abbrev sFeed : Stmt := inClass (top 78) 4
abbrev sFinish : Stmt := inClass (top 78) 5
abbrev sBoxes : Stmt := inClass (top 78) 6
abbrev sFaults : Stmt := inClass (top 78) 7
abbrev sBlKept : Stmt := inClass (top 78) 8
abbrev sMarks : Stmt := top 102
abbrev sRead : Stmt := top 103
abbrev sLWhole : Stmt := top 105
abbrev sLSign : Stmt := top 106
abbrev sLPiece : Stmt := top 107
abbrev sLCut : Stmt := top 108
abbrev sLRows : Stmt := top 109
abbrev sLRefused : Stmt := top 110
abbrev sLNamed : Stmt := top 111
abbrev sLaw : Stmt := top 112
theorem scPrInit : FnScope ["self", "lines"] ["self", "lines"] (defScope sPrInit) := ⟨rfl, rfl, rfl, by decide +kernel, rfl, by decide +kernel, by decide +kernel⟩
theorem scSpInit : FnScope ["self", "number", "row", "last", "behind"] ["self", "number", "row", "last", "behind"] (defScope sSpInit) := ⟨rfl, rfl, rfl, by decide +kernel, rfl, by decide +kernel, by decide +kernel⟩
theorem scTrInit : FnScope ["self", "program", "line"] ["self", "program"] (defScope sTrInit) := ⟨rfl, rfl, rfl, by decide +kernel, rfl, by decide +kernel, by decide +kernel⟩
theorem scTold : FnScope ["self", "spot", "truths", "at", "cond"] ["self", "spot"] (defScope sTold) := ⟨rfl, rfl, rfl, by decide +kernel, rfl, by decide +kernel, by decide +kernel⟩
theorem scPcInit : FnScope ["self"] ["self"] (defScope sPcInit) := ⟨rfl, rfl, rfl, by decide +kernel, rfl, by decide +kernel, by decide +kernel⟩
theorem scWhole : FnScope ["self", "piece", "parts"] ["self", "piece"] (defScope sWhole) := ⟨rfl, rfl, rfl, by decide +kernel, rfl, by decide +kernel, by decide +kernel⟩
theorem scLastR : FnScope ["self", "left"] ["self"] (defScope sLastR) := ⟨rfl, rfl, rfl, by decide +kernel, rfl, by decide +kernel, by decide +kernel⟩
theorem scHdInit : FnScope ["self"] ["self"] (defScope sHdInit) := ⟨rfl, rfl, rfl, by decide +kernel, rfl, by decide +kernel, by decide +kernel⟩
theorem scHdTake : FnScope ["self", "row"] ["self", "row"] (defScope sHdTake) := ⟨rfl, rfl, rfl, by decide +kernel, rfl, by decide +kernel, by decide +kernel⟩
theorem scLetGo : FnScope ["self"] ["self"] (defScope sLetGo) := ⟨rfl, rfl, rfl, by decide +kernel, rfl, by decide +kernel, by decide +kernel⟩
theorem scHdKept : FnScope ["self", "total", "things", "thing"] ["self"] (defScope sHdKept) := ⟨rfl, rfl, rfl, by decide +kernel, rfl, by decide +kernel, by decide +kernel⟩
theorem scTnInit : FnScope ["self", "program"] ["self", "program"] (defScope sTnInit) := ⟨rfl, rfl, rfl, by decide +kernel, rfl, by decide +kernel, by decide +kernel⟩
theorem scGive : FnScope ["self", "row"] ["self", "row"] (defScope sGive) := ⟨rfl, rfl, rfl, by decide +kernel, rfl, by decide +kernel, by decide +kernel⟩
theorem scWant : FnScope ["self", "place"] ["self", "place"] (defScope sWant) := ⟨rfl, rfl, rfl, by decide +kernel, rfl, by decide +kernel, by decide +kernel⟩
theorem scEndTurn : FnScope ["self", "gives"] ["self", "gives"] (defScope sEndTurn) := ⟨rfl, rfl, rfl, by decide +kernel, rfl, by decide +kernel, by decide +kernel⟩
theorem scTnTake : FnScope ["self", "row", "last", "behind"] ["self", "row", "last", "behind"] (defScope sTnTake) := ⟨rfl, rfl, rfl, by decide +kernel, rfl, by decide +kernel, by decide +kernel⟩
theorem scTnNone : FnScope ["self", "line"] ["self"] (defScope sTnNone) := ⟨rfl, rfl, rfl, by decide +kernel, rfl, by decide +kernel, by decide +kernel⟩
theorem scGoOn : FnScope ["self", "at"] ["self", "at"] (defScope sGoOn) := ⟨rfl, rfl, rfl, by decide +kernel, rfl, by decide +kernel, by decide +kernel⟩
theorem scAhead : FnScope ["program", "most", "line", "cond"] ["program"] (defScope sAhead) := ⟨rfl, rfl, rfl, by decide +kernel, rfl, by decide +kernel, by decide +kernel⟩
theorem scBlInit : FnScope ["self", "program"] ["self", "program"] (defScope sBlInit) := ⟨rfl, rfl, rfl, by decide +kernel, rfl, by decide +kernel, by decide +kernel⟩
theorem scNeedOpen : FnScope ["self"] ["self"] (defScope sNeedOpen) := ⟨rfl, rfl, rfl, by decide +kernel, rfl, by decide +kernel, by decide +kernel⟩
theorem scTakeFirst : FnScope ["self", "last", "row"] ["self", "last"] (defScope sTakeFirst) := ⟨rfl, rfl, rfl, by decide +kernel, rfl, by decide +kernel, by decide +kernel⟩
theorem scRowsGiven : FnScope ["self", "turns", "rows"] ["self"] (defScope sRowsGiven) := ⟨rfl, rfl, rfl, by decide +kernel, rfl, by decide +kernel, by decide +kernel⟩
theorem scFeed : FnScope ["self", "piece", "row"] ["self", "piece"] (defScope sFeed) := ⟨rfl, rfl, rfl, by decide +kernel, rfl, by decide +kernel, by decide +kernel⟩
theorem scFinish : FnScope ["self"] ["self"] (defScope sFinish) := ⟨rfl, rfl, rfl, by decide +kernel, rfl, by decide +kernel, by decide +kernel⟩
theorem scBoxes : FnScope ["self"] ["self"] (defScope sBoxes) := ⟨rfl, rfl, rfl, by decide +kernel, rfl, by decide +kernel, by decide +kernel⟩
theorem scFaults : FnScope ["self"] ["self"] (defScope sFaults) := ⟨rfl, rfl, rfl, by decide +kernel, rfl, by decide +kernel, by decide +kernel⟩
theorem scBlKept : FnScope ["self"] ["self"] (defScope sBlKept) := ⟨rfl, rfl, rfl, by decide +kernel, rfl, by decide +kernel, by decide +kernel⟩
theorem scMarks : FnScope ["lines", "marks", "at", "line"] ["lines"] (defScope sMarks) := ⟨rfl, rfl, rfl, by decide +kernel, rfl, by decide +kernel, by decide +kernel⟩
theorem scRead : FnScope ["text", "rows", "lines", "at", "row", "line"] ["text"] (defScope sRead) := ⟨rfl, rfl, rfl, by decide +kernel, rfl, by decide +kernel, by decide +kernel⟩
theorem scLWhole : FnScope ["_law_answer"] ["_law_answer"] (defScope sLWhole) := ⟨rfl, rfl, rfl, by decide +kernel, rfl, by decide +kernel, by decide +kernel⟩
theorem scLSign : FnScope ["_law_number", "_law_some", "_law_spot"] ["_law_number"] (defScope sLSign) := ⟨rfl, rfl, rfl, by decide +kernel, rfl, by decide +kernel, by decide +kernel⟩
theorem scLPiece : FnScope ["_law_cell", "_law_room", "_law_many", "_law_number", "_law_signs", "_law_k"] ["_law_cell", "_law_room"] (defScope sLPiece) := ⟨rfl, rfl, rfl, by decide +kernel, rfl, by decide +kernel, by decide +kernel⟩
theorem scLCut : FnScope ["_law_left", "_law_piece_here", "_law_rows_here", "_law_sign_here"] ["_law_left", "_law_piece_here"] (defScope sLCut) := ⟨rfl, rfl, rfl, by decide +kernel, rfl, by decide +kernel, by decide +kernel⟩
theorem scLRows : FnScope ["_law_answer", "_law_due", "_law_row"] ["_law_answer", "_law_due"] (defScope sLRows) := ⟨rfl, rfl, rfl, by decide +kernel, rfl, by decide +kernel, by decide +kernel⟩
theorem scLRefused : FnScope ["_law_blade", "_law_way", "_law_sorts", "e"] ["_law_blade", "_law_way"] (defScope sLRefused) := ⟨rfl, rfl, rfl, by decide +kernel, rfl, by decide +kernel, by decide +kernel⟩
theorem scLNamed : FnScope ["_law_blade", "_law_refused_here"] ["_law_blade"] (defScope sLNamed) := ⟨rfl, rfl, rfl, by decide +kernel, rfl, by decide +kernel, by decide +kernel⟩
theorem scLaw : FnScope ["_law_script", "_law_blade", "_law_room", "_law_left", "_law_held", "_law_cell", "_law_piece_here", "_law_due", "_law_answer", "_law_many", "_law_last", "_law_kept", "_law_row"] ["_law_script"] (defScope sLaw) := ⟨rfl, rfl, rfl, by decide +kernel, rfl, by decide +kernel, by decide +kernel⟩
def dPrInit : He.DefD := ⟨("Program", some "__init__"), "__init__", "Program.__init__", defArgs sPrInit, defBody sPrInit, defScope sPrInit, [], []⟩
def dSpInit : He.DefD := ⟨("Spot", some "__init__"), "__init__", "Spot.__init__", defArgs sSpInit, defBody sSpInit, defScope sSpInit, [], []⟩
def dTrInit : He.DefD := ⟨("Truths", some "__init__"), "__init__", "Truths.__init__", defArgs sTrInit, defBody sTrInit, defScope sTrInit, [], []⟩
def dTold : He.DefD := ⟨("Truths", some "told"), "told", "Truths.told", defArgs sTold, defBody sTold, defScope sTold, [], []⟩
def dPcInit : He.DefD := ⟨("Pieces", some "__init__"), "__init__", "Pieces.__init__", defArgs sPcInit, defBody sPcInit, defScope sPcInit, [], []⟩
def dWhole : He.DefD := ⟨("Pieces", some "whole_rows"), "whole_rows", "Pieces.whole_rows", defArgs sWhole, defBody sWhole, defScope sWhole, [], []⟩
def dLastR : He.DefD := ⟨("Pieces", some "last_rows"), "last_rows", "Pieces.last_rows", defArgs sLastR, defBody sLastR, defScope sLastR, [], []⟩
def dHdInit : He.DefD := ⟨("Hands", some "__init__"), "__init__", "Hands.__init__", defArgs sHdInit, defBody sHdInit, defScope sHdInit, [], []⟩
def dHdTake : He.DefD := ⟨("Hands", some "take"), "take", "Hands.take", defArgs sHdTake, defBody sHdTake, defScope sHdTake, [], []⟩
def dLetGo : He.DefD := ⟨("Hands", some "let_go"), "let_go", "Hands.let_go", defArgs sLetGo, defBody sLetGo, defScope sLetGo, [], []⟩
def dHdKept : He.DefD := ⟨("Hands", some "kept"), "kept", "Hands.kept", defArgs sHdKept, defBody sHdKept, defScope sHdKept, [], []⟩
def dTnInit : He.DefD := ⟨("Turns", some "__init__"), "__init__", "Turns.__init__", defArgs sTnInit, defBody sTnInit, defScope sTnInit, [], []⟩
def dGive : He.DefD := ⟨("Turns", some "give"), "give", "Turns.give", defArgs sGive, defBody sGive, defScope sGive, [], []⟩
def dWant : He.DefD := ⟨("Turns", some "want"), "want", "Turns.want", defArgs sWant, defBody sWant, defScope sWant, [], []⟩
def dEndTurn : He.DefD := ⟨("Turns", some "end_turn"), "end_turn", "Turns.end_turn", defArgs sEndTurn, defBody sEndTurn, defScope sEndTurn, [], []⟩
def dTnTake : He.DefD := ⟨("Turns", some "take"), "take", "Turns.take", defArgs sTnTake, defBody sTnTake, defScope sTnTake, [], []⟩
def dTnNone : He.DefD := ⟨("Turns", some "none"), "none", "Turns.none", defArgs sTnNone, defBody sTnNone, defScope sTnNone, [], []⟩
def dGoOn : He.DefD := ⟨("Turns", some "go_on"), "go_on", "Turns.go_on", defArgs sGoOn, defBody sGoOn, defScope sGoOn, [], []⟩
def dAhead : He.DefD := ⟨("ahead", none), "ahead", "ahead", defArgs sAhead, defBody sAhead, defScope sAhead, [], []⟩
def dBlInit : He.DefD := ⟨("Blade", some "__init__"), "__init__", "Blade.__init__", defArgs sBlInit, defBody sBlInit, defScope sBlInit, [], []⟩
def dNeedOpen : He.DefD := ⟨("Blade", some "need_open"), "need_open", "Blade.need_open", defArgs sNeedOpen, defBody sNeedOpen, defScope sNeedOpen, [], []⟩
def dTakeFirst : He.DefD := ⟨("Blade", some "take_first"), "take_first", "Blade.take_first", defArgs sTakeFirst, defBody sTakeFirst, defScope sTakeFirst, [], []⟩
def dRowsGiven : He.DefD := ⟨("Blade", some "rows_given"), "rows_given", "Blade.rows_given", defArgs sRowsGiven, defBody sRowsGiven, defScope sRowsGiven, [], []⟩
def dFeed : He.DefD := ⟨("Blade", some "feed"), "feed", "Blade.feed", defArgs sFeed, defBody sFeed, defScope sFeed, [], []⟩
def dFinish : He.DefD := ⟨("Blade", some "finish"), "finish", "Blade.finish", defArgs sFinish, defBody sFinish, defScope sFinish, [], []⟩
def dBoxes : He.DefD := ⟨("Blade", some "boxes"), "boxes", "Blade.boxes", defArgs sBoxes, defBody sBoxes, defScope sBoxes, [], []⟩
def dFaults : He.DefD := ⟨("Blade", some "faults"), "faults", "Blade.faults", defArgs sFaults, defBody sFaults, defScope sFaults, [], []⟩
def dBlKept : He.DefD := ⟨("Blade", some "kept"), "kept", "Blade.kept", defArgs sBlKept, defBody sBlKept, defScope sBlKept, [], []⟩
def dMarks : He.DefD := ⟨("look_at_marks", none), "look_at_marks", "look_at_marks", defArgs sMarks, defBody sMarks, defScope sMarks, [], []⟩
def dRead : He.DefD := ⟨("read", none), "read", "read", defArgs sRead, defBody sRead, defScope sRead, [], []⟩
def dLWhole : He.DefD := ⟨("_law_whole", none), "_law_whole", "_law_whole", defArgs sLWhole, defBody sLWhole, defScope sLWhole, [], []⟩
def dLSign : He.DefD := ⟨("_law_sign", none), "_law_sign", "_law_sign", defArgs sLSign, defBody sLSign, defScope sLSign, [], []⟩
def dLPiece : He.DefD := ⟨("_law_piece", none), "_law_piece", "_law_piece", defArgs sLPiece, defBody sLPiece, defScope sLPiece, [], []⟩
def dLCut : He.DefD := ⟨("_law_cut", none), "_law_cut", "_law_cut", defArgs sLCut, defBody sLCut, defScope sLCut, [], []⟩
def dLRows : He.DefD := ⟨("_law_rows", none), "_law_rows", "_law_rows", defArgs sLRows, defBody sLRows, defScope sLRows, [], []⟩
def dLRefused : He.DefD := ⟨("_law_refused", none), "_law_refused", "_law_refused", defArgs sLRefused, defBody sLRefused, defScope sLRefused, [], []⟩
def dLNamed : He.DefD := ⟨("_law_named", none), "_law_named", "_law_named", defArgs sLNamed, defBody sLNamed, defScope sLNamed, [], []⟩
def dLaw : He.DefD := ⟨("law", none), "law", "law", defArgs sLaw, defBody sLaw, defScope sLaw, [], []⟩
def fn : List He.DefD := [dPrInit, dSpInit, dTrInit, dTold, dPcInit, dWhole, dLastR, dHdInit, dHdTake, dLetGo, dHdKept, dTnInit, dGive, dWant, dEndTurn, dTnTake, dTnNone, dGoOn, dAhead, dBlInit, dNeedOpen, dTakeFirst, dRowsGiven, dFeed, dFinish, dBoxes, dFaults, dBlKept, dMarks, dRead, dLWhole, dLSign, dLPiece, dLCut, dLRows, dLRefused, dLNamed, dLaw]
def fa0 : List He.Fa := [.glo "ahead", .glo "look_at_marks", .glo "read", .glo "_law_whole", .glo "_law_sign", .glo "_law_piece", .glo "_law_cut", .glo "_law_rows", .glo "_law_refused", .glo "_law_named", .glo "law", .glo "Program", .glo "Spot", .glo "Truths", .glo "Pieces", .glo "Hands", .glo "Turns", .glo "Blade", .glo "BladeError", .glo "Finished", .glo "NoPattern", .glo "NotThat", .glo "NotWoven", .glo "NoLine", .glo "TwoMarks", .glo "NoMark", .glo "Endless", .free "enumerate", .free "isinstance", .free "len"]
def fa1 : List He.Fa := [.free "list", .free "dict", .free "min", .free "range", .free "all", .free "int", .free "bool", .free "str", .free "ValueError", .int "MOST_BEHIND" 3, .cls "Program", .mkr "Program", .noat "Program" "lines", .cls "Spot", .mkr "Spot", .noat "Spot" "number", .noat "Spot" "row", .noat "Spot" "last", .noat "Spot" "behind", .cls "Truths", .mkr "Truths", .noat "Truths" "conds", .noat "Truths" "flags", .cls "Pieces", .mkr "Pieces", .noat "Pieces" "rest", .cls "Hands", .mkr "Hands", .noat "Hands" "hand", .noat "Hands" "made"]
def fa2 : List He.Fa := [.noat "Hands" "shelves", .noat "Hands" "totals", .noat "Hands" "noted", .cls "Turns", .mkr "Turns", .noat "Turns" "lines", .noat "Turns" "flags", .noat "Turns" "hands", .noat "Turns" "truths", .noat "Turns" "met", .noat "Turns" "number", .noat "Turns" "waits", .noat "Turns" "over", .noat "Turns" "given", .noat "Turns" "log", .cls "Blade", .mkr "Blade", .noat "Blade" "sight", .noat "Blade" "pieces", .noat "Blade" "turns", .noat "Blade" "waiting", .noat "Blade" "closed", .meth "Truths" "told", .meth "Pieces" "whole_rows", .meth "Pieces" "last_rows", .meth "Hands" "take", .meth "Hands" "let_go", .meth "Hands" "kept", .meth "Turns" "give", .meth "Turns" "want"]
def fa3 : List He.Fa := [.meth "Turns" "end_turn", .meth "Turns" "take", .meth "Turns" "none", .meth "Turns" "go_on", .meth "Blade" "need_open", .meth "Blade" "take_first", .meth "Blade" "rows_given", .meth "Blade" "feed", .meth "Blade" "finish", .meth "Blade" "boxes", .meth "Blade" "faults", .meth "Blade" "kept", .exc "Finished", .exm "Finished" "Finished" true, .exm "Finished" "BladeError" true]
def fa : List He.Fa := fa0 ++ (fa1 ++ (fa2 ++ (fa3)))
/-- a def of the row, as it stands behind the top -/
abbrev DefAt (K : PySem.W.Frag) (d : He.DefD) : Prop := ∃ fd, FunD K d.name d.qual d.params d.body d.scope [] [] (He.fAd K d.at_) fd
/-- what the head tells of the text -/
structure Tx (K : PySem.W.Frag) (mg : Str → Option Value) : Prop where
  g_ahead : mg "ahead" = some (.ref (He.ga K "ahead"))
  g_look_at_marks : mg "look_at_marks" = some (.ref (He.ga K "look_at_marks"))
  g_read : mg "read" = some (.ref (He.ga K "read"))
  g__law_whole : mg "_law_whole" = some (.ref (He.ga K "_law_whole"))
  g__law_sign : mg "_law_sign" = some (.ref (He.ga K "_law_sign"))
  g__law_piece : mg "_law_piece" = some (.ref (He.ga K "_law_piece"))
  g__law_cut : mg "_law_cut" = some (.ref (He.ga K "_law_cut"))
  g__law_rows : mg "_law_rows" = some (.ref (He.ga K "_law_rows"))
  g__law_refused : mg "_law_refused" = some (.ref (He.ga K "_law_refused"))
  g__law_named : mg "_law_named" = some (.ref (He.ga K "_law_named"))
  g_law : mg "law" = some (.ref (He.ga K "law"))
  g_Program : mg "Program" = some (.ref (He.ga K "Program"))
  g_Spot : mg "Spot" = some (.ref (He.ga K "Spot"))
  g_Truths : mg "Truths" = some (.ref (He.ga K "Truths"))
  g_Pieces : mg "Pieces" = some (.ref (He.ga K "Pieces"))
  g_Hands : mg "Hands" = some (.ref (He.ga K "Hands"))
  g_Turns : mg "Turns" = some (.ref (He.ga K "Turns"))
  g_Blade : mg "Blade" = some (.ref (He.ga K "Blade"))
  g_BladeError : mg "BladeError" = some (.ref (He.ga K "BladeError"))
  g_Finished : mg "Finished" = some (.ref (He.ga K "Finished"))
  g_NoPattern : mg "NoPattern" = some (.ref (He.ga K "NoPattern"))
  g_NotThat : mg "NotThat" = some (.ref (He.ga K "NotThat"))
  g_NotWoven : mg "NotWoven" = some (.ref (He.ga K "NotWoven"))
  g_NoLine : mg "NoLine" = some (.ref (He.ga K "NoLine"))
  g_TwoMarks : mg "TwoMarks" = some (.ref (He.ga K "TwoMarks"))
  g_NoMark : mg "NoMark" = some (.ref (He.ga K "NoMark"))
  g_Endless : mg "Endless" = some (.ref (He.ga K "Endless"))
  f_enumerate : mg "enumerate" = none
  f_isinstance : mg "isinstance" = none
  f_len : mg "len" = none
  f_list : mg "list" = none
  f_dict : mg "dict" = none
  f_min : mg "min" = none
  f_range : mg "range" = none
  f_all : mg "all" = none
  f_int : mg "int" = none
  f_bool : mg "bool" = none
  f_str : mg "str" = none
  f_ValueError : mg "ValueError" = none
  i_MOST_BEHIND : ∃ t, mg "MOST_BEHIND" = some (.int 3 t)
  cl_Program : Cls K (He.ga K "Program")
  mk_Program : Mk K (He.ga K "Program") (He.fAd K ("Program", some "__init__"))
  n_Program_lines : NoAttr K (He.ga K "Program") "lines"
  cl_Spot : Cls K (He.ga K "Spot")
  mk_Spot : Mk K (He.ga K "Spot") (He.fAd K ("Spot", some "__init__"))
  n_Spot_number : NoAttr K (He.ga K "Spot") "number"
  n_Spot_row : NoAttr K (He.ga K "Spot") "row"
  n_Spot_last : NoAttr K (He.ga K "Spot") "last"
  n_Spot_behind : NoAttr K (He.ga K "Spot") "behind"
  cl_Truths : Cls K (He.ga K "Truths")
  mk_Truths : Mk K (He.ga K "Truths") (He.fAd K ("Truths", some "__init__"))
  n_Truths_conds : NoAttr K (He.ga K "Truths") "conds"
  n_Truths_flags : NoAttr K (He.ga K "Truths") "flags"
  cl_Pieces : Cls K (He.ga K "Pieces")
  mk_Pieces : Mk K (He.ga K "Pieces") (He.fAd K ("Pieces", some "__init__"))
  n_Pieces_rest : NoAttr K (He.ga K "Pieces") "rest"
  cl_Hands : Cls K (He.ga K "Hands")
  mk_Hands : Mk K (He.ga K "Hands") (He.fAd K ("Hands", some "__init__"))
  n_Hands_hand : NoAttr K (He.ga K "Hands") "hand"
  n_Hands_made : NoAttr K (He.ga K "Hands") "made"
  n_Hands_shelves : NoAttr K (He.ga K "Hands") "shelves"
  n_Hands_totals : NoAttr K (He.ga K "Hands") "totals"
  n_Hands_noted : NoAttr K (He.ga K "Hands") "noted"
  cl_Turns : Cls K (He.ga K "Turns")
  mk_Turns : Mk K (He.ga K "Turns") (He.fAd K ("Turns", some "__init__"))
  n_Turns_lines : NoAttr K (He.ga K "Turns") "lines"
  n_Turns_flags : NoAttr K (He.ga K "Turns") "flags"
  n_Turns_hands : NoAttr K (He.ga K "Turns") "hands"
  n_Turns_truths : NoAttr K (He.ga K "Turns") "truths"
  n_Turns_met : NoAttr K (He.ga K "Turns") "met"
  n_Turns_number : NoAttr K (He.ga K "Turns") "number"
  n_Turns_waits : NoAttr K (He.ga K "Turns") "waits"
  n_Turns_over : NoAttr K (He.ga K "Turns") "over"
  n_Turns_given : NoAttr K (He.ga K "Turns") "given"
  n_Turns_log : NoAttr K (He.ga K "Turns") "log"
  cl_Blade : Cls K (He.ga K "Blade")
  mk_Blade : Mk K (He.ga K "Blade") (He.fAd K ("Blade", some "__init__"))
  n_Blade_sight : NoAttr K (He.ga K "Blade") "sight"
  n_Blade_pieces : NoAttr K (He.ga K "Blade") "pieces"
  n_Blade_turns : NoAttr K (He.ga K "Blade") "turns"
  n_Blade_waiting : NoAttr K (He.ga K "Blade") "waiting"
  n_Blade_closed : NoAttr K (He.ga K "Blade") "closed"
  m_Truths_told : Meth K (He.ga K "Truths") "told" (He.fAd K ("Truths", some "told"))
  m_Pieces_whole_rows : Meth K (He.ga K "Pieces") "whole_rows" (He.fAd K ("Pieces", some "whole_rows"))
  m_Pieces_last_rows : Meth K (He.ga K "Pieces") "last_rows" (He.fAd K ("Pieces", some "last_rows"))
  m_Hands_take : Meth K (He.ga K "Hands") "take" (He.fAd K ("Hands", some "take"))
  m_Hands_let_go : Meth K (He.ga K "Hands") "let_go" (He.fAd K ("Hands", some "let_go"))
  m_Hands_kept : Meth K (He.ga K "Hands") "kept" (He.fAd K ("Hands", some "kept"))
  m_Turns_give : Meth K (He.ga K "Turns") "give" (He.fAd K ("Turns", some "give"))
  m_Turns_want : Meth K (He.ga K "Turns") "want" (He.fAd K ("Turns", some "want"))
  m_Turns_end_turn : Meth K (He.ga K "Turns") "end_turn" (He.fAd K ("Turns", some "end_turn"))
  m_Turns_take : Meth K (He.ga K "Turns") "take" (He.fAd K ("Turns", some "take"))
  m_Turns_none : Meth K (He.ga K "Turns") "none" (He.fAd K ("Turns", some "none"))
  m_Turns_go_on : Meth K (He.ga K "Turns") "go_on" (He.fAd K ("Turns", some "go_on"))
  m_Blade_need_open : Meth K (He.ga K "Blade") "need_open" (He.fAd K ("Blade", some "need_open"))
  m_Blade_take_first : Meth K (He.ga K "Blade") "take_first" (He.fAd K ("Blade", some "take_first"))
  m_Blade_rows_given : Meth K (He.ga K "Blade") "rows_given" (He.fAd K ("Blade", some "rows_given"))
  m_Blade_feed : Meth K (He.ga K "Blade") "feed" (He.fAd K ("Blade", some "feed"))
  m_Blade_finish : Meth K (He.ga K "Blade") "finish" (He.fAd K ("Blade", some "finish"))
  m_Blade_boxes : Meth K (He.ga K "Blade") "boxes" (He.fAd K ("Blade", some "boxes"))
  m_Blade_faults : Meth K (He.ga K "Blade") "faults" (He.fAd K ("Blade", some "faults"))
  m_Blade_kept : Meth K (He.ga K "Blade") "kept" (He.fAd K ("Blade", some "kept"))
  x_Finished : PySem.W.excIn K (He.ga K "Finished") He.veBase "ValueError.__new__" = true ∧ PySem.W.keepIn K (.ref (He.ga K "Finished")) = true ∧ PySem.W.subIn K (.ref (He.ga K "Finished")) (.type "BaseException") = some true ∧ PySem.W.typeIn K (.ref (He.ga K "Finished")) = some (.type "type")
  e_Finished_Finished : PySem.W.exmOne K (.ref (He.ga K "Finished")) (.ref (He.ga K "Finished")) = some true
  e_Finished_BladeError : PySem.W.exmOne K (.ref (He.ga K "Finished")) (.ref (He.ga K "BladeError")) = some true
  d_PrInit : DefAt K dPrInit
  d_SpInit : DefAt K dSpInit
  d_TrInit : DefAt K dTrInit
  d_Told : DefAt K dTold
  d_PcInit : DefAt K dPcInit
  d_Whole : DefAt K dWhole
  d_LastR : DefAt K dLastR
  d_HdInit : DefAt K dHdInit
  d_HdTake : DefAt K dHdTake
  d_LetGo : DefAt K dLetGo
  d_HdKept : DefAt K dHdKept
  d_TnInit : DefAt K dTnInit
  d_Give : DefAt K dGive
  d_Want : DefAt K dWant
  d_EndTurn : DefAt K dEndTurn
  d_TnTake : DefAt K dTnTake
  d_TnNone : DefAt K dTnNone
  d_GoOn : DefAt K dGoOn
  d_Ahead : DefAt K dAhead
  d_BlInit : DefAt K dBlInit
  d_NeedOpen : DefAt K dNeedOpen
  d_TakeFirst : DefAt K dTakeFirst
  d_RowsGiven : DefAt K dRowsGiven
  d_Feed : DefAt K dFeed
  d_Finish : DefAt K dFinish
  d_Boxes : DefAt K dBoxes
  d_Faults : DefAt K dFaults
  d_BlKept : DefAt K dBlKept
  d_Marks : DefAt K dMarks
  d_Read : DefAt K dRead
  d_LWhole : DefAt K dLWhole
  d_LSign : DefAt K dLSign
  d_LPiece : DefAt K dLPiece
  d_LCut : DefAt K dLCut
  d_LRows : DefAt K dLRows
  d_LRefused : DefAt K dLRefused
  d_LNamed : DefAt K dLNamed
  d_Law : DefAt K dLaw
theorem tx_of {K : PySem.W.Frag} {h : Heap} {mg : Str → Option Value} (X : K.In h) (G : h.Ns mainGlobals mg) (c : He.SaysD fa fn K) : Tx K mg where
  g_ahead := He.glo_ok X G (c.fact 0 (f := .glo "ahead") rfl)
  g_look_at_marks := He.glo_ok X G (c.fact 1 (f := .glo "look_at_marks") rfl)
  g_read := He.glo_ok X G (c.fact 2 (f := .glo "read") rfl)
  g__law_whole := He.glo_ok X G (c.fact 3 (f := .glo "_law_whole") rfl)
  g__law_sign := He.glo_ok X G (c.fact 4 (f := .glo "_law_sign") rfl)
  g__law_piece := He.glo_ok X G (c.fact 5 (f := .glo "_law_piece") rfl)
  g__law_cut := He.glo_ok X G (c.fact 6 (f := .glo "_law_cut") rfl)
  g__law_rows := He.glo_ok X G (c.fact 7 (f := .glo "_law_rows") rfl)
  g__law_refused := He.glo_ok X G (c.fact 8 (f := .glo "_law_refused") rfl)
  g__law_named := He.glo_ok X G (c.fact 9 (f := .glo "_law_named") rfl)
  g_law := He.glo_ok X G (c.fact 10 (f := .glo "law") rfl)
  g_Program := He.glo_ok X G (c.fact 11 (f := .glo "Program") rfl)
  g_Spot := He.glo_ok X G (c.fact 12 (f := .glo "Spot") rfl)
  g_Truths := He.glo_ok X G (c.fact 13 (f := .glo "Truths") rfl)
  g_Pieces := He.glo_ok X G (c.fact 14 (f := .glo "Pieces") rfl)
  g_Hands := He.glo_ok X G (c.fact 15 (f := .glo "Hands") rfl)
  g_Turns := He.glo_ok X G (c.fact 16 (f := .glo "Turns") rfl)
  g_Blade := He.glo_ok X G (c.fact 17 (f := .glo "Blade") rfl)
  g_BladeError := He.glo_ok X G (c.fact 18 (f := .glo "BladeError") rfl)
  g_Finished := He.glo_ok X G (c.fact 19 (f := .glo "Finished") rfl)
  g_NoPattern := He.glo_ok X G (c.fact 20 (f := .glo "NoPattern") rfl)
  g_NotThat := He.glo_ok X G (c.fact 21 (f := .glo "NotThat") rfl)
  g_NotWoven := He.glo_ok X G (c.fact 22 (f := .glo "NotWoven") rfl)
  g_NoLine := He.glo_ok X G (c.fact 23 (f := .glo "NoLine") rfl)
  g_TwoMarks := He.glo_ok X G (c.fact 24 (f := .glo "TwoMarks") rfl)
  g_NoMark := He.glo_ok X G (c.fact 25 (f := .glo "NoMark") rfl)
  g_Endless := He.glo_ok X G (c.fact 26 (f := .glo "Endless") rfl)
  f_enumerate := He.free_ok X G (c.fact 27 (f := .free "enumerate") rfl)
  f_isinstance := He.free_ok X G (c.fact 28 (f := .free "isinstance") rfl)
  f_len := He.free_ok X G (c.fact 29 (f := .free "len") rfl)
  f_list := He.free_ok X G (c.fact 30 (f := .free "list") rfl)
  f_dict := He.free_ok X G (c.fact 31 (f := .free "dict") rfl)
  f_min := He.free_ok X G (c.fact 32 (f := .free "min") rfl)
  f_range := He.free_ok X G (c.fact 33 (f := .free "range") rfl)
  f_all := He.free_ok X G (c.fact 34 (f := .free "all") rfl)
  f_int := He.free_ok X G (c.fact 35 (f := .free "int") rfl)
  f_bool := He.free_ok X G (c.fact 36 (f := .free "bool") rfl)
  f_str := He.free_ok X G (c.fact 37 (f := .free "str") rfl)
  f_ValueError := He.free_ok X G (c.fact 38 (f := .free "ValueError") rfl)
  i_MOST_BEHIND := He.int_ok X G (c.fact 39 (f := .int "MOST_BEHIND" 3) rfl)
  cl_Program := He.cls_ok (c.fact 40 (f := .cls "Program") rfl)
  mk_Program := He.mkr_ok (c.fact 41 (f := .mkr "Program") rfl)
  n_Program_lines := He.noat_ok (c.fact 42 (f := .noat "Program" "lines") rfl)
  cl_Spot := He.cls_ok (c.fact 43 (f := .cls "Spot") rfl)
  mk_Spot := He.mkr_ok (c.fact 44 (f := .mkr "Spot") rfl)
  n_Spot_number := He.noat_ok (c.fact 45 (f := .noat "Spot" "number") rfl)
  n_Spot_row := He.noat_ok (c.fact 46 (f := .noat "Spot" "row") rfl)
  n_Spot_last := He.noat_ok (c.fact 47 (f := .noat "Spot" "last") rfl)
  n_Spot_behind := He.noat_ok (c.fact 48 (f := .noat "Spot" "behind") rfl)
  cl_Truths := He.cls_ok (c.fact 49 (f := .cls "Truths") rfl)
  mk_Truths := He.mkr_ok (c.fact 50 (f := .mkr "Truths") rfl)
  n_Truths_conds := He.noat_ok (c.fact 51 (f := .noat "Truths" "conds") rfl)
  n_Truths_flags := He.noat_ok (c.fact 52 (f := .noat "Truths" "flags") rfl)
  cl_Pieces := He.cls_ok (c.fact 53 (f := .cls "Pieces") rfl)
  mk_Pieces := He.mkr_ok (c.fact 54 (f := .mkr "Pieces") rfl)
  n_Pieces_rest := He.noat_ok (c.fact 55 (f := .noat "Pieces" "rest") rfl)
  cl_Hands := He.cls_ok (c.fact 56 (f := .cls "Hands") rfl)
  mk_Hands := He.mkr_ok (c.fact 57 (f := .mkr "Hands") rfl)
  n_Hands_hand := He.noat_ok (c.fact 58 (f := .noat "Hands" "hand") rfl)
  n_Hands_made := He.noat_ok (c.fact 59 (f := .noat "Hands" "made") rfl)
  n_Hands_shelves := He.noat_ok (c.fact 60 (f := .noat "Hands" "shelves") rfl)
  n_Hands_totals := He.noat_ok (c.fact 61 (f := .noat "Hands" "totals") rfl)
  n_Hands_noted := He.noat_ok (c.fact 62 (f := .noat "Hands" "noted") rfl)
  cl_Turns := He.cls_ok (c.fact 63 (f := .cls "Turns") rfl)
  mk_Turns := He.mkr_ok (c.fact 64 (f := .mkr "Turns") rfl)
  n_Turns_lines := He.noat_ok (c.fact 65 (f := .noat "Turns" "lines") rfl)
  n_Turns_flags := He.noat_ok (c.fact 66 (f := .noat "Turns" "flags") rfl)
  n_Turns_hands := He.noat_ok (c.fact 67 (f := .noat "Turns" "hands") rfl)
  n_Turns_truths := He.noat_ok (c.fact 68 (f := .noat "Turns" "truths") rfl)
  n_Turns_met := He.noat_ok (c.fact 69 (f := .noat "Turns" "met") rfl)
  n_Turns_number := He.noat_ok (c.fact 70 (f := .noat "Turns" "number") rfl)
  n_Turns_waits := He.noat_ok (c.fact 71 (f := .noat "Turns" "waits") rfl)
  n_Turns_over := He.noat_ok (c.fact 72 (f := .noat "Turns" "over") rfl)
  n_Turns_given := He.noat_ok (c.fact 73 (f := .noat "Turns" "given") rfl)
  n_Turns_log := He.noat_ok (c.fact 74 (f := .noat "Turns" "log") rfl)
  cl_Blade := He.cls_ok (c.fact 75 (f := .cls "Blade") rfl)
  mk_Blade := He.mkr_ok (c.fact 76 (f := .mkr "Blade") rfl)
  n_Blade_sight := He.noat_ok (c.fact 77 (f := .noat "Blade" "sight") rfl)
  n_Blade_pieces := He.noat_ok (c.fact 78 (f := .noat "Blade" "pieces") rfl)
  n_Blade_turns := He.noat_ok (c.fact 79 (f := .noat "Blade" "turns") rfl)
  n_Blade_waiting := He.noat_ok (c.fact 80 (f := .noat "Blade" "waiting") rfl)
  n_Blade_closed := He.noat_ok (c.fact 81 (f := .noat "Blade" "closed") rfl)
  m_Truths_told := He.meth_ok (c.fact 82 (f := .meth "Truths" "told") rfl)
  m_Pieces_whole_rows := He.meth_ok (c.fact 83 (f := .meth "Pieces" "whole_rows") rfl)
  m_Pieces_last_rows := He.meth_ok (c.fact 84 (f := .meth "Pieces" "last_rows") rfl)
  m_Hands_take := He.meth_ok (c.fact 85 (f := .meth "Hands" "take") rfl)
  m_Hands_let_go := He.meth_ok (c.fact 86 (f := .meth "Hands" "let_go") rfl)
  m_Hands_kept := He.meth_ok (c.fact 87 (f := .meth "Hands" "kept") rfl)
  m_Turns_give := He.meth_ok (c.fact 88 (f := .meth "Turns" "give") rfl)
  m_Turns_want := He.meth_ok (c.fact 89 (f := .meth "Turns" "want") rfl)
  m_Turns_end_turn := He.meth_ok (c.fact 90 (f := .meth "Turns" "end_turn") rfl)
  m_Turns_take := He.meth_ok (c.fact 91 (f := .meth "Turns" "take") rfl)
  m_Turns_none := He.meth_ok (c.fact 92 (f := .meth "Turns" "none") rfl)
  m_Turns_go_on := He.meth_ok (c.fact 93 (f := .meth "Turns" "go_on") rfl)
  m_Blade_need_open := He.meth_ok (c.fact 94 (f := .meth "Blade" "need_open") rfl)
  m_Blade_take_first := He.meth_ok (c.fact 95 (f := .meth "Blade" "take_first") rfl)
  m_Blade_rows_given := He.meth_ok (c.fact 96 (f := .meth "Blade" "rows_given") rfl)
  m_Blade_feed := He.meth_ok (c.fact 97 (f := .meth "Blade" "feed") rfl)
  m_Blade_finish := He.meth_ok (c.fact 98 (f := .meth "Blade" "finish") rfl)
  m_Blade_boxes := He.meth_ok (c.fact 99 (f := .meth "Blade" "boxes") rfl)
  m_Blade_faults := He.meth_ok (c.fact 100 (f := .meth "Blade" "faults") rfl)
  m_Blade_kept := He.meth_ok (c.fact 101 (f := .meth "Blade" "kept") rfl)
  x_Finished := He.exc_ok (c.fact 102 (f := .exc "Finished") rfl)
  e_Finished_Finished := He.exm_ok (c.fact 103 (f := .exm "Finished" "Finished" true) rfl)
  e_Finished_BladeError := He.exm_ok (c.fact 104 (f := .exm "Finished" "BladeError" true) rfl)
  d_PrInit := c.def_ 0 (d := dPrInit) rfl
  d_SpInit := c.def_ 1 (d := dSpInit) rfl
  d_TrInit := c.def_ 2 (d := dTrInit) rfl
  d_Told := c.def_ 3 (d := dTold) rfl
  d_PcInit := c.def_ 4 (d := dPcInit) rfl
  d_Whole := c.def_ 5 (d := dWhole) rfl
  d_LastR := c.def_ 6 (d := dLastR) rfl
  d_HdInit := c.def_ 7 (d := dHdInit) rfl
  d_HdTake := c.def_ 8 (d := dHdTake) rfl
  d_LetGo := c.def_ 9 (d := dLetGo) rfl
  d_HdKept := c.def_ 10 (d := dHdKept) rfl
  d_TnInit := c.def_ 11 (d := dTnInit) rfl
  d_Give := c.def_ 12 (d := dGive) rfl
  d_Want := c.def_ 13 (d := dWant) rfl
  d_EndTurn := c.def_ 14 (d := dEndTurn) rfl
  d_TnTake := c.def_ 15 (d := dTnTake) rfl
  d_TnNone := c.def_ 16 (d := dTnNone) rfl
  d_GoOn := c.def_ 17 (d := dGoOn) rfl
  d_Ahead := c.def_ 18 (d := dAhead) rfl
  d_BlInit := c.def_ 19 (d := dBlInit) rfl
  d_NeedOpen := c.def_ 20 (d := dNeedOpen) rfl
  d_TakeFirst := c.def_ 21 (d := dTakeFirst) rfl
  d_RowsGiven := c.def_ 22 (d := dRowsGiven) rfl
  d_Feed := c.def_ 23 (d := dFeed) rfl
  d_Finish := c.def_ 24 (d := dFinish) rfl
  d_Boxes := c.def_ 25 (d := dBoxes) rfl
  d_Faults := c.def_ 26 (d := dFaults) rfl
  d_BlKept := c.def_ 27 (d := dBlKept) rfl
  d_Marks := c.def_ 28 (d := dMarks) rfl
  d_Read := c.def_ 29 (d := dRead) rfl
  d_LWhole := c.def_ 30 (d := dLWhole) rfl
  d_LSign := c.def_ 31 (d := dLSign) rfl
  d_LPiece := c.def_ 32 (d := dLPiece) rfl
  d_LCut := c.def_ 33 (d := dLCut) rfl
  d_LRows := c.def_ 34 (d := dLRows) rfl
  d_LRefused := c.def_ 35 (d := dLRefused) rfl
  d_LNamed := c.def_ 36 (d := dLNamed) rfl
  d_Law := c.def_ 37 (d := dLaw) rfl
end Rb
/-! The Hook: the facts of R1_Text and what isinstance asks of the class Finished. -/
namespace Rb
open PySem PySem.Spec PyProof.Rows L2
def excCB (K : PySem.W.Frag) (D : Addr) : Bool :=
  He.eqO (PySem.W.findIn K (.ref D) "__getattribute__") (some (some (.builtin "BaseException.__getattribute__"))) &&
  (He.eqO (PySem.W.findIn K (.ref D) "__getattr__") (some none) &&
  (decide (PySem.W.subIn K (.ref D) (.type "BaseException") = some true) &&
  (PySem.W.hasDictIn K D &&
  (He.eqO (PySem.W.findIn K (.ref D) "__class__") (some (some (.builtin "object.__class__"))) &&
  (He.eqO (PySem.W.specialIn K (.builtin "object.__class__") "__get__") (some (some (.builtin "getset_descriptor.__get__"))) &&
  (decide (PySem.W.takesIn K (.builtin "object.__class__") = some true) &&
  decide (PySem.W.mroIn K D (.type "object") = some true)))))))
theorem excCB_ok {K : PySem.W.Frag} {D : Addr} (h : excCB K D = true) : ExcC K D := by
  obtain ⟨h1, h⟩ := He.ba h
  obtain ⟨h2, h⟩ := He.ba h
  obtain ⟨h3, h⟩ := He.ba h
  obtain ⟨h4, h⟩ := He.ba h
  obtain ⟨h5, h⟩ := He.ba h
  obtain ⟨h6, h⟩ := He.ba h
  obtain ⟨h7, h8⟩ := He.ba h
  exact ⟨He.eqO_ok h1, He.eqO_ok h2, of_decide_eq_true h3, h4, He.eqO_ok h5, He.eqO_ok h6, of_decide_eq_true h7, of_decide_eq_true h8⟩
/-- what isinstance(a Finished, x) says -/
def kits : List (Str × Bool) := [("Finished", true), ("NoPattern", false), ("NotThat", false), ("NotWoven", false), ("NoLine", false), ("TwoMarks", false), ("NoMark", false), ("Endless", false)]
abbrev cFin (K : PySem.W.Frag) : Addr := He.ga K "Finished"
def ex (K : PySem.W.Frag) : Bool := excCB K (cFin K) && (decide (PySem.W.kitOne K (.ref (cFin K)) (.type "ValueError") = some true) && kits.all fun q => decide (PySem.W.kitOne K (.ref (cFin K)) (.ref (He.ga K q.1)) = some q.2))
structure Tk (K : PySem.W.Frag) : Prop where
  xc : ExcC K (cFin K)
  kv : PySem.W.kitOne K (.ref (cFin K)) (.type "ValueError") = some true
  ki : ∀ q ∈ kits, PySem.W.kitOne K (.ref (cFin K)) (.ref (He.ga K q.1)) = some q.2
theorem tk_of {K : PySem.W.Frag} (h : ex K = true) : Tk K := by
  obtain ⟨h1, h⟩ := He.ba h
  obtain ⟨h2, h3⟩ := He.ba h
  exact ⟨excCB_ok h1, of_decide_eq_true h2, fun q hq => of_decide_eq_true (List.all_eq_true.mp h3 q hq)⟩
abbrev AlZ : Type := Bool × He.AlD
def obsZ (K : PySem.W.Frag) : AlZ := (ex K, He.obsD fa fn K)
def valZ : AlZ := (true, He.valD fn)
structure SaysZ (K : PySem.W.Frag) : Prop where
  d : He.SaysD fa fn K
  k : Tk K
theorem saysZ_of {K : PySem.W.Frag} (e : obsZ K = valZ) : SaysZ K := ⟨congrArg (fun z : AlZ => z.2) e, tk_of (congrArg (fun z : AlZ => z.1) e)⟩
/-! ### the part of the heap that is looked at: the module's names that we need, their classes' names, the methods, the codes -/
def frL {α : Type} : List Nat → (List Nat → α) → α
  | [], k => k []
  | a :: r, k => HandSHeadRun.frNat a fun a => frL r fun r => k (a :: r)
theorem frL_eq {α : Type} : ∀ (l : List Nat) (k : List Nat → α), frL l k = k l
  | [], _ => rfl
  | a :: r, k => by
    show HandSHeadRun.frNat a (fun a => frL r fun r => k (a :: r)) = _
    rw [HandSHeadRun.frNat_eq, frL_eq r]
def glos (fa : List He.Fa) : List Str := fa.filterMap fun f => match f with
  | .glo x => some x
  | _ => none
/-- a class's namespace, a function's code -/
def ofO (g : Addr → Option Obj) (a : Addr) : List Addr := match g a with
  | some ⟨_, _, .cls cd, _⟩ => [cd.ns]
  | some ⟨_, _, .func fd, _⟩ => He.refV fd.code
  | _ => []
def obsZG (g : Addr → Option Obj) : AlZ :=
  frL ((glos fa).map fun x => He.ga (He.frG g [mainGlobals]) x) fun a1 =>
  frL (a1.flatMap (ofO g)) fun a2 =>
  frL (fn.flatMap fun d => match d.at_.2 with
    | none => []
    | some m => [He.fAd (He.frG g (mainGlobals :: (a1 ++ a2))) d.at_]) fun a3 =>
  frL (a3.flatMap (ofO g)) fun a4 => obsZ (He.frG g (mainGlobals :: (a1 ++ (a2 ++ (a3 ++ a4)))))
theorem obsZG_of {g : Addr → Option Obj} (e : obsZG g = valZ) : ∃ as, obsZ (He.frG g as) = valZ := by
  unfold obsZG at e
  simp only [frL_eq] at e
  exact ⟨_, e⟩
def hookZ : PySem.W.Hook where
  α := AlZ
  obs := fun s => obsZG s.heap.get?
  val := fun _ => valZ
  says := fun _ h => ∃ K : PySem.W.Frag, K.In h ∧ SaysZ K
  of := fun _ _ e => let ⟨_, e'⟩ := obsZG_of e; ⟨_, He.frG_in, saysZ_of e'⟩
  keeps := fun _ _ _ said kept => let ⟨K, inK, z⟩ := said; ⟨K, PySem.W.Frag.In.keeps inK kept, z⟩
theorem obsZG_eq {g : Addr → Option Obj} {s : Shared} (h : ∀ a, g a = s.heap.get? a) : obsZG g = hookZ.obs s := by
  rw [show g = s.heap.get? from funext h]
  rfl
end Rb
namespace Rb
open PySem PySem.W PySem.Calls PyProof.Rows
abbrev R : PySem.W.OpenRow := PySem.W.OpenLaw.row PySem.Challenge.rw_rowblade_k41_rows_of_pieces
def ob (s : PySem.W.SharedT) : AlZ := obsZG (HandSHeadRun.getT s)
def names0 : List PySem.Str := ["_wall", "BladeError", "NoPattern", "NotThat", "NotWoven", "Finished", "NoLine", "TwoMarks", "NoMark", "Endless", "ALL_SIGNS", "NOT_PLAIN", "MOST_ITEMS", "MOST_SIGNS_patterns", "is_plain"]
def names1 : List PySem.Str := ["set_at", "item_at", "pattern", "least_length", "may_be_empty", "Cond", "Always", "RowIs", "Last", "Like", "Soon", "FromTo", "Not", "End", "Deed"]
def names2 : List PySem.Str := ["Mark", "Drop", "Print", "Done", "Say", "Swap", "Join", "Pile", "Bring", "Go", "Add", "Tell", "Line", "Program", "holds"]
def names3 : List PySem.Str := ["holds_stretches", "let_by", "first_places", "stepped", "is_done", "last_end", "stretch", "found", "Spot", "holds_flags", "stays_up", "inner_cond", "Truths", "Pieces", "FIGURES_holding"]
def names4 : List PySem.Str := ["number_of", "words_of", "words_of_holding", "swapped", "Hands", "Turns", "MOST_BEHIND", "ahead", "Blade", "LETTERS", "FIGURES_reading", "MOST_LINES", "MOST_SIGNS_reading", "number_ahead", "number_alone"]
def names5 : List PySem.Str := ["is_name", "pattern_ahead", "edge_ahead", "soon_ahead", "from_ahead", "plain_ahead", "cond_ahead", "words_of_reading", "swap_of", "pile_of", "add_of", "bare_of", "deed_of", "line_by", "line_of"]
def names6 : List PySem.Str := ["look_at_marks", "read", "_law_whole", "_law_sign", "_law_piece", "_law_cut", "_law_rows", "_law_refused", "_law_named"]
def names : List PySem.Str := names0 ++ (names1 ++ (names2 ++ (names3 ++ (names4 ++ (names5 ++ (names6))))))
abbrev qv : Program := PySem.W.view R.prog [112]
/-- the state behind the top -/
noncomputable abbrev endOf (w : World) (os : OsState) : Option PySem.W.SharedT := HandSHeadRun.endF (HandSHeadRun.stepQ (HandSHeadRun.denQ HandSHeadRun.tabQ) R.prog w) 20000 R.prog w os
/-- the top's run in the kernel, and the looks that every head asks -/
theorem run_seen (w : World) (os : OsState) : (endOf w os).map (fun s => (HandSHeadRun.looksF R.prog (boot_heap w.params) s.abs, HandSHeadRun.seenQ qv names (importedModules R.prog.main.body) (fun s => PySem.W.xlAt qv [] s && PySem.W.recOk R.toRowW.records s) s.abs)) = some (true, PySem.W.openGood qv names) := by
  kernel_rfl
/-- the same run, and our own facts (a declaration of its own: less memory at a time) -/
theorem run_obs (w : World) (os : OsState) : (endOf w os).map (fun s => ob s) = some valZ := by
  kernel_rfl
theorem ob_eq (s : PySem.W.SharedT) : ob s = hookZ.obs s.abs := obsZG_eq (HandSHeadRun.getT_eq s)
theorem both {α β γ δ : Type} {r : Option α} {f : α → β} {g : α → γ} {h : α → δ} {x : β} {y : γ} {z : δ} (a : r.map (fun s => (f s, g s)) = some (x, y)) (b : r.map (fun s => h s) = some z) : r.map (fun s => (f s, g s, h s)) = some (x, y, z) := by
  cases r with
  | none => cases a
  | some s =>
    have e1 : (f s, g s) = (x, y) := Option.some.inj a
    have e2 : h s = z := Option.some.inj b
    obtain ⟨e3, e4⟩ := Prod.mk.inj e1
    show some (f s, g s, h s) = _
    rw [e2, e3, e4]
theorem run (w : World) : HandSHeadRun.RunEq R qv hookZ ob 20000 names w := fun os => both (run_seen w os) (run_obs w os)
end Rb
/-! Rules of our own: for .. in enumerate(an empty list, start=k); o.m(..) within a try. -/
namespace Rb
open PySem PySem.Spec PyProof.Rows L2

/-! ### for x, y in enumerate(e, start=k), e an empty list: no turn -/
/-- a built-in class is called with values and one keyword -/
theorem cw_start {M : Model} {A : Around} {E : Value → Shared → Prop} {s : Shared} {pos : Pos} {T : String} {x : Sem Value} {as : List (Bool × Sem Value)} {n : Str} {u : Sem Value} {Q : Value → Shared → Prop} (plain : ((false, x) :: as).any (·.1) = false)
    (go : wpAny M A (spliced ((false, x) :: as)) (fun vs s1 => wpAny M A u (fun k s2 => wpAny M A (call (.type T) vs [(n, k)]) Q E s2) E s1) E s) : wpAny M A (callWith pos (.type T) [] ((false, x) :: as) [(some n, u)]) Q E s := by
  have step : wpAny M A (evalArgs (.type T) true ((false, x) :: as) [(some n, u)]) (fun r s3 => wpAny M A (call (.type T) r.pos r.kw) Q E s3) E s :=
    evalArgs_kwB rfl (thn go fun vs s1 q1 => evalAll_cons (thn q1 fun k s2 q2 => evalAll_nil q2))
  unfold callWith
  apply wpAny_bind
  apply wpAny_holding
  refine thn step fun r s3 q3 => ?_
  apply wpAny_bind
  apply wpAny_standAt
  rw [plain]
  apply wpAny_bind
  refine wpAny_pure (wpAny_bind (thn q3 fun v s4 q4 => ?_))
  exact wpAny_bind (wpAny_holding (wpAny_point (wpAny_pure q4)))
/-- an enumerate over the empty list at a: it stops at once -/
def ItE (K : PySem.W.Frag) (a : Addr) : It := ⟨fun _ _ => False, fun _ _ _ _ => False, fun i H => i = 0 ∧ SqL K H a []⟩
/-- its two records: the enumerate at e, the list's iterator at it, at the list's beginning -/
structure EnumE (a e it : Addr) (h : Heap) : Prop where
  en : ∃ c old, IsEnum h e it c old
  li : h.IsListIter it a 0
  ne : e ≠ it
  na : a ≠ it
theorem two_of {b e it : Addr} (h : b ∈ [e, it]) : b = e ∨ b = it := by simpa using h
theorem turn_enumE {P : Program} {w : World} {K : PySem.W.Frag} {tg : Expr} (a e it : Addr) : Turn P w K tg (ItE K a) [e, it] e (fun _ h => EnumE a e it h) where
  mem := List.mem_cons_self
  obj := fun _ h st b hb => by
    obtain ⟨⟨c, old, z1⟩, ⟨o, z2, _, z3⟩, _, _⟩ := st
    rcases two_of hb with rfl | rfl
    · exact ⟨_, z1, fun v q => by cases q⟩
    · exact ⟨o, z2, fun v q => by rw [z3] at q; cases q⟩
  keep := fun _ h h' st k => by
    obtain ⟨⟨c, old, z1⟩, z2, z3, z4⟩ := st
    exact ⟨⟨c, old, k e List.mem_cons_self _ z1⟩, z2.at fun o q => k it (List.mem_cons_of_mem _ List.mem_cons_self) o q, z3, z4⟩
  item := fun _ _ _ _ _ _ _ _ _ _ _ _ _ _ no => no.elim
  done := fun X eP ew eK calm i pins s σ H E I free st stop => by
    subst eP ew eK
    obtain ⟨its, rv, pl, _⟩ := I.list stop.2
    obtain ⟨n1, n2, n3, n4, n5, n6⟩ := free it (List.mem_cons_of_mem _ List.mem_cons_self)
    obtain ⟨c, old, z1⟩ := st.en
    cases rv
    exact wpAny_pyNext_enum_endD (Draws.list (A := X.A.in1) (I.ok.hd calm) it a st.na #[]) z1 ⟨st.li, pl.isList⟩ fun h' but => ⟨rfl, I.turned (t' := s.toks) (fun b o ne q => but b o ne q) n1 n2 n4 n5 n6⟩
  self := fun A _ s Q E st h => by
    obtain ⟨_, _, z1⟩ := st.en
    exact wpAny_pyIter_enum z1 h
def iEnumE (K : PySem.W.Frag) (ta : TA) : TI := fun σ H R => ta σ H fun vs H1 => ∃ a, vs = [.ref a] ∧ SqL K H1 a [] ∧ R (ItE K a) H1
theorem pi_enumE {X : Cx} {e : Expr} {ta : TA} {p pos tpos p2 kp : Pos} {elts : List Expr} {kk j : Nat} {k : Int} (hg : Gl X "enumerate") (hm : X.mg "enumerate" = none) (h0 : -(2 ^ 63) ≤ k) (h1 : k < 2 ^ 63) (ha : PA X [e] ta)
    (first : backTo pos (starEach [e] X.env) = (false, eval e X.env) :: backTo pos (starEach [] X.env) := by rfl) (plain : ((false, eval e X.env) :: backTo pos (starEach [] X.env)).any (·.1) = false := by rfl) :
    PI X (.Tuple elts kk tpos) (.Call (.Name "enumerate" p) [e] [⟨some "start", .Constant (.int k) j p2, kp⟩] pos) (iEnumE X.K ta) := by
  constructor
  intro pins s σ H R I h
  have run := ha.run pos pins s σ H _ I h
  rw [first] at run
  refine wpAny_Call_Name_kw (ld_blt I hg hm boot_enumerate ?_)
  rw [first]
  refine cw_start (u := (do let v ← eval (.Constant (.int k) j p2) X.env; standAt pos; pure v)) plain (thn run fun us s1 got => ?_)
  obtain ⟨vs, H1, I1, r1, a, rfl, hq, q⟩ := got
  refine wpAny_bind (wpAny_Constant_int (wpAny_bind (wpAny_standAt (wpAny_pure ?_))))
  cases r1 with
  | cons r rr =>
    cases rr
    cases r
    obtain ⟨its, rv, pl, _⟩ := I1.list hq
    show wpAny _ _ (call (.type "enumerate") [.ref a] [(Str.ofString "start", .int k s1.toks)]) _ _ _
    refine enum_begins_start (begins_list a its.toArray) pl.isList h0 h1 fun h' z1 z2 _ z3 => wpAny_pyIter_enum z1 ?_
    have less : a < s1.heap.objs.size := by
      obtain ⟨o, z4, _⟩ := pl.isList
      exact Heap.lt_size z4
    have I2 : Inv X pins σ H1 { s1 with heap := h', toks := s1.toks + 1 } := I1.kept (t' := s1.toks + 1) z3
    have st : EnumE a (s1.heap.objs.size + 1) s1.heap.objs.size h' := ⟨⟨_, .none, z1⟩, ⟨_, z2, rfl, rfl⟩, Nat.succ_ne_self _, Nat.ne_of_lt less⟩
    refine ⟨_, [s1.heap.objs.size + 1, s1.heap.objs.size], _, _, H1, rfl, I2, turn_enumE a (s1.heap.objs.size + 1) s1.heap.objs.size, st, fun b hb => ?_, q⟩
    have le : s1.heap.objs.size ≤ b := by
      rcases two_of hb with rfl | rfl
      · exact Nat.le_succ _
      · exact Nat.le_refl _
    exact I1.fpOk le (I1.hok.fresh le)
/-! ### o.m(e, ..) within a try: what it raises is wished for at the slots as they stand -/
def tMethS (C : Addr) (m : Str) (sp : Sp) (E : L2.St → XK) (ta : TE) (t : TA) : TE := fun σ H Q => ta σ H fun x H1 => ∃ a dx fs, x = .ref a ∧ H1 a = some (.ins C dx fs) ∧ fs.lookup m = none ∧ t σ H1 fun vs H2 => sp (x :: vs) H2 Q (E σ)
theorem pe_methS {X : Cx} {CX : CXT} {k : Nat} {f C : Addr} {fd : FuncData} {ps : List Str} {sp : Sp} {E : L2.St → XK} {m : Str} {pos apos : Pos} {e o : Expr} {es : List Expr} {ta : TE} {t : TA} {pl : Sem Bool} (he : PE X o ta) (c : Cls X.K C) (hm : Meth X.K C m f)
    (F : FnOk X.prog X.w X.K X.mg X.base CX k f fd ps sp) (hr : Room k X.A) (hb : Binds X.K fd ps []) (hx : ∀ σ, PassesAt CX X σ (E σ)) (ha : PA X (e :: es) t)
    (hst : starEach (e :: es) X.env = (false, eval e X.env) :: starEach es X.env := by rfl) (hpl : (backTo pos (starEach es X.env)).any (·.1) = false := by rfl)
    (ht : eval (.Call (.Attribute o m apos) (e :: es) [] pos) X.env = (do
      let ov ← eval o X.env
      standAt apos.atName
      let (f, first) ← holding [ov] (getMethod ov m pl)
      callWith pos f first (backTo pos (starEach (e :: es) X.env)) (backToKw pos (keywordEach [] X.env))) := by rfl) :
    PE X (.Call (.Attribute o m apos) (e :: es) [] pos) (tMethS C m sp E ta t) := by
  refine ⟨fun pins s σ H Q I h => ?_⟩
  refine PySem.W.methodCall_KW (pl := pl) (thn (he.run pins s σ H _ I h) fun u s1 ⟨x, H1, I1, rx, a, dx, fs, ex, ea, l, q⟩ => ?_) ht
  subst ex
  obtain rfl : u = Value.ref a := rx
  refine getmeth_ok I1 ea c hm l ?_
  refine PySem.W.callWith_K (first := [.ref a]) (h₀ := X.base) I.ok.mod.kin hm.kp (thn (ha.run pos pins s1 σ H1 _ I1 q) fun us s2 ⟨vs, H2, I2, r, q2⟩ => ⟨I2.kIn, ?_⟩) hst hpl
  exact run_fnS (us := .ref a :: us) (vs := .ref a :: vs) F hr hb (hx σ) I2 (.cons rfl r) q2
theorem pe_methS0 {X : Cx} {CX : CXT} {k : Nat} {f C : Addr} {fd : FuncData} {ps : List Str} {sp : Sp} {E : L2.St → XK} {m : Str} {pos apos : Pos} {o : Expr} {ta : TE} {pl : Sem Bool} (he : PE X o ta) (c : Cls X.K C) (hm : Meth X.K C m f)
    (F : FnOk X.prog X.w X.K X.mg X.base CX k f fd ps sp) (hr : Room k X.A) (hb : Binds X.K fd ps []) (hx : ∀ σ, PassesAt CX X σ (E σ))
    (ht : eval (.Call (.Attribute o m apos) [] [] pos) X.env = (do
      let ov ← eval o X.env
      standAt apos.atName
      let (f, first) ← holding [ov] (getMethod ov m pl)
      callWith pos f first (backTo pos (starEach [] X.env)) (backToKw pos (keywordEach [] X.env))) := by rfl) :
    PE X (.Call (.Attribute o m apos) [] [] pos) (tMethS C m sp E ta tNil) := by
  refine ⟨fun pins s σ H Q I h => ?_⟩
  refine PySem.W.methodCall_KW (pl := pl) (thn (he.run pins s σ H _ I h) fun u s1 ⟨x, H1, I1, rx, a, dx, fs, ex, ea, l, q⟩ => ?_) ht
  subst ex
  obtain rfl : u = Value.ref a := rx
  refine getmeth_ok I1 ea c hm l ?_
  exact PySem.W.callWith_K0 (first := [.ref a]) I1.kIn hm.kp (run_fnS (us := [.ref a]) (vs := [.ref a]) F hr hb (hx σ) I1 (.cons rfl .nil) q)
end Rb
/-! Cells: a list of (address, object), no address twice; frames; a blade's state (written by gen_state.py). -/
namespace Rb
open PySem PySem.Spec PyProof.Rows L2
/-! ### cells -/
def At (H : Hp) (l : List (Addr × HO)) : Prop := (l.map Prod.fst).Nodup ∧ ∀ p ∈ l, H p.1 = some p.2
/-- what was tracked and is none of as is as it was -/
def Fr (as : List Addr) (H H' : Hp) : Prop := ∀ x o, H x = some o → x ∉ as → H' x = some o
theorem At.get {H : Hp} {l : List (Addr × HO)} (A : At H l) (i : Nat) {a : Addr} {o : HO} (h : l[i]? = some (a, o)) : H a = some o := A.2 (a, o) (List.mem_of_getElem? h)
theorem At.ne {H : Hp} {l : List (Addr × HO)} (A : At H l) (i j : Nat) {a b : Addr} {o u : HO} (h : l[i]? = some (a, o)) (h' : l[j]? = some (b, u)) (ne : i ≠ j) : a ≠ b := by
  intro e
  subst e
  have h1 : (l.map Prod.fst)[i]? = some a := by rw [List.getElem?_map, h]; rfl
  have h2 : (l.map Prod.fst)[j]? = some a := by rw [List.getElem?_map, h']; rfl
  exact ne (nd_ix A.1 h1 h2)
theorem At.nil (H : Hp) : At H [] := ⟨List.nodup_nil, fun _ h => nomatch h⟩
theorem At.one {H : Hp} {a : Addr} {o : HO} (h : H a = some o) : At H [(a, o)] := ⟨by simp, fun p hp => by
  have e : p = (a, o) := by simpa using hp
  rw [e]; exact h⟩
theorem At.out {H : Hp} {l : List (Addr × HO)} (A : At H l) {p : Addr} (hp : H p = none) : p ∉ l.map Prod.fst := fun h => by
  obtain ⟨q, hq, e⟩ := List.mem_map.mp h
  have h2 := A.2 q hq
  rw [e, hp] at h2
  cases h2
theorem At.new {H : Hp} {l : List (Addr × HO)} (A : At H l) {p : Addr} (hp : H p = none) (o : HO) : At (upd H p o) ((p, o) :: l) := by
  refine ⟨List.nodup_cons.mpr ⟨A.out hp, A.1⟩, fun q hq => ?_⟩
  rcases List.mem_cons.mp hq with e | h
  · rw [e]; exact upd_same
  · rw [upd_ne (fun e => A.out hp (List.mem_map.mpr ⟨q, h, e⟩))]; exact A.2 q h
/-- an address that is no cell is written -/
theorem At.other {H : Hp} {l : List (Addr × HO)} (A : At H l) {p : Addr} (hp : p ∉ l.map Prod.fst) (o : HO) : At (upd H p o) l :=
  ⟨A.1, fun q hq => by rw [upd_ne (fun e => hp (List.mem_map.mpr ⟨q, hq, e⟩))]; exact A.2 q hq⟩
theorem At.put {H : Hp} {l : List (Addr × HO)} (A : At H l) (i : Nat) {a : Addr} {o : HO} (h : l[i]? = some (a, o)) (o' : HO) : At (upd H a o') (l.set i (a, o')) := by
  have hm : (l.set i (a, o')).map Prod.fst = l.map Prod.fst := by
    refine List.ext_getElem? fun j => ?_
    rw [List.getElem?_map, List.getElem?_map]
    by_cases e : i = j
    · subst e
      obtain ⟨hl, _⟩ := List.getElem?_eq_some_iff.mp h
      rw [List.getElem?_set_self hl, h]
      rfl
    · rw [List.getElem?_set_ne e]
  refine ⟨by rw [hm]; exact A.1, fun q hq => ?_⟩
  obtain ⟨j, hj⟩ := List.mem_iff_getElem?.mp hq
  by_cases e : i = j
  · subst e
    obtain ⟨hl, _⟩ := List.getElem?_eq_some_iff.mp h
    rw [List.getElem?_set_self hl] at hj
    cases hj
    exact upd_same
  · rw [List.getElem?_set_ne e] at hj
    have hne : q.1 ≠ a := A.ne j i (a := q.1) (b := a) (o := q.2) (u := o) hj h (fun z => e z.symm)
    rw [upd_ne hne]
    exact A.2 q (List.mem_of_getElem? hj)
theorem At.perm {H : Hp} {l l' : List (Addr × HO)} (A : At H l) (p : l.Perm l') : At H l' := ⟨(p.map Prod.fst).nodup A.1, fun q hq => A.2 q (p.mem_iff.mpr hq)⟩
theorem At.front {H : Hp} {l1 l2 : List (Addr × HO)} {q : Addr × HO} (A : At H (l1 ++ q :: l2)) : At H (q :: (l1 ++ l2)) := A.perm List.perm_middle
/-- some of the cells, in any order -/
theorem At.pick {H : Hp} {l l' : List (Addr × HO)} (A : At H l) (is : List Nat) (hn : is.Nodup) (e : is.filterMap (fun i => l[i]?) = l') : At H l' := by
  subst e
  refine ⟨?_, fun q hq => ?_⟩
  · induction is with
    | nil => simp
    | cons i r ih =>
      obtain ⟨h1, h2⟩ := List.nodup_cons.mp hn
      cases hi : l[i]? with
      | none => rw [List.filterMap_cons, hi]; exact ih h2
      | some p =>
        rw [List.filterMap_cons, hi]
        refine List.nodup_cons.mpr ⟨fun hm => ?_, ih h2⟩
        obtain ⟨q, hq, eq⟩ := List.mem_map.mp hm
        obtain ⟨j, hj, ej⟩ := List.mem_filterMap.mp hq
        refine A.ne i j (a := p.1) (b := q.1) (o := p.2) (u := q.2) hi ej (fun z => h1 (by rw [z]; exact hj)) eq.symm
  · obtain ⟨j, _, ej⟩ := List.mem_filterMap.mp hq
    exact A.2 q (List.mem_of_getElem? ej)
theorem At.fr {as : List Addr} {H H' : Hp} {l : List (Addr × HO)} (A : At H l) (f : Fr as H H') (h : ∀ p ∈ l, p.1 ∉ as) : At H' l := ⟨A.1, fun q hq => f _ _ (A.2 q hq) (h q hq)⟩
theorem At.same {H H' : Hp} {l : List (Addr × HO)} (A : At H l) (f : Same H H') : At H' l := ⟨A.1, fun q hq => f _ _ (A.2 q hq)⟩
theorem Fr.refl (as : List Addr) (H : Hp) : Fr as H H := fun _ _ h _ => h
theorem Fr.trans {as : List Addr} {H H1 H2 : Hp} (a : Fr as H H1) (b : Fr as H1 H2) : Fr as H H2 := fun x o h n => b x o (a x o h n) n
theorem Fr.mono {as bs : List Addr} {H H1 : Hp} (a : Fr as H H1) (h : ∀ x ∈ as, x ∈ bs) : Fr bs H H1 := fun x o e n => a x o e fun z => n (h x z)
theorem Fr.trans' {as bs : List Addr} {H H1 H2 : Hp} (a : Fr as H H1) (b : Fr bs H1 H2) (h : ∀ x ∈ bs, x ∈ as ∨ H x = none) : Fr as H H2 := fun x o e n => b x o (a x o e n) fun z => by
  rcases h x z with q | q
  · exact n q
  · rw [e] at q; cases q
theorem Fr.upd {as : List Addr} {H : Hp} {a : Addr} {o : HO} (h : a ∈ as) : Fr as H (L2.upd H a o) := fun x u e n => by
  rw [upd_ne (fun z => n (by rw [z]; exact h))]; exact e
theorem Fr.new {as : List Addr} {H : Hp} {a : Addr} {o : HO} (h : H a = none) : Fr as H (L2.upd H a o) := fun x u e _ => by
  rw [upd_ne (ne_of_none e h)]; exact e
theorem Fr.of_same {as : List Addr} {H H1 : Hp} (a : Same H H1) : Fr as H H1 := fun x o e _ => a x o e
theorem Same.new {H : Hp} {a : Addr} {o : HO} (h : H a = none) : Same H (L2.upd H a o) := fun x u e => by
  rw [upd_ne (ne_of_none e h)]; exact e
theorem Same.fr {as : List Addr} {H0 H H1 : Hp} (a : Same H0 H) (b : Fr as H H1) (h : ∀ x ∈ as, H0 x = none) : Same H0 H1 := fun x o e => b x o (a x o e) fun z => by
  rw [h x z] at e; cases e

/-! ### building: the object at p changes from o to o', the cells nw are new -/
structure Step (p : Addr) (o : HO) (H H' : Hp) (o' : HO) (nw : List (Addr × HO)) : Prop where
  at_ : ∀ l0, At H ((p, o) :: l0) → At H' ((p, o') :: (nw ++ l0))
  fr : Fr [p] H H'
  free : ∀ q ∈ nw, H q.1 = none
theorem Step.refl {p : Addr} {o : HO} (H : Hp) : Step p o H H o [] := ⟨fun _ A => A, Fr.refl _ _, fun _ h => nomatch h⟩
theorem Step.put {p : Addr} {o o1 : HO} {H H1 : Hp} {nw : List (Addr × HO)} (S : Step p o H H1 o1 nw) (o2 : HO) : Step p o H (upd H1 p o2) o2 nw :=
  ⟨fun l0 A => (S.at_ l0 A).put 0 rfl o2, S.fr.trans (Fr.upd (by simp)), S.free⟩
theorem Step.new {p q : Addr} {o o1 : HO} {H H1 : Hp} {nw : List (Addr × HO)} (S : Step p o H H1 o1 nw) (hp : H p = some o) (h : H1 q = none) (u : HO) : Step p o H (upd H1 q u) o1 ((q, u) :: nw) := by
  refine ⟨fun l0 A => ?_, S.fr.trans (Fr.new h), fun r hr => ?_⟩
  · have A1 := (S.at_ l0 A).new h u
    exact At.front (l1 := [(q, u)]) A1
  · rcases List.mem_cons.mp hr with e | z
    · rw [e]
      cases hq : H q with
      | none => rfl
      | some v =>
        by_cases e2 : q = p
        · have A1 := (S.at_ [] (At.one hp)).get 0 rfl
          rw [e2, A1] at h
          cases h
        · have := S.fr q v hq (by simpa using e2)
          rw [h] at this
          cases this
    · exact S.free r z
theorem Step.at1 {p : Addr} {o o1 : HO} {H H1 : Hp} {nw : List (Addr × HO)} (S : Step p o H H1 o1 nw) (hp : H p = some o) : H1 p = some o1 := (S.at_ [] (At.one hp)).get 0 rfl
/-- what is free behind a building was free ahead of it -/
theorem Step.was_free {p q : Addr} {o o1 : HO} {H H1 : Hp} {nw : List (Addr × HO)} (S : Step p o H H1 o1 nw) (hp : H p = some o) (h : H1 q = none) : H q = none := by
  cases hq : H q with
  | none => rfl
  | some v =>
    by_cases e2 : q = p
    · have A1 := S.at1 hp
      rw [e2, A1] at h
      cases h
    · have := S.fr q v hq (by simpa using e2)
      rw [h] at this
      cases this
/-- an instance of its own is built within -/
theorem Step.made {p x dx C : Addr} {o o1 ox : HO} {H H1 H2 : Hp} {nw nx : List (Addr × HO)} (S : Step p o H H1 o1 nw) (hp : H p = some o) (hx : H1 x = none) (hdx : H1 dx = none) (hne : dx ≠ x)
    (T : Step x (.ins C dx []) (upd (upd H1 dx (.own x)) x (.ins C dx [])) H2 ox nx) : Step p o H H2 o1 ((x, ox) :: (nx ++ nw)) := by
  have hx' : (upd H1 dx (.own x)) x = none := by rw [upd_ne (fun e => hne e.symm)]; exact hx
  have sm : Same H1 (upd (upd H1 dx (.own x)) x (.ins C dx [])) := (Same.new hdx).trans (Same.new hx')
  refine ⟨fun l0 A => ?_, fun a u e n => ?_, fun r hr => ?_⟩
  · have A1 := S.at_ l0 A
    have A2 := (A1.other (p := dx) (A1.out hdx) (.own x)).new hx' (.ins C dx [])
    have A3 := T.at_ _ A2
    have A4 := At.front (l1 := (x, ox) :: nx) (q := (p, o1)) (l2 := nw ++ l0) A3
    have e : ((x, ox) :: nx) ++ (nw ++ l0) = ((x, ox) :: (nx ++ nw)) ++ l0 := by simp
    rw [e] at A4
    exact A4
  · have e1 := S.fr a u e n
    exact T.fr a u (sm a u e1) (by simpa using ne_of_none e1 hx)
  · rcases List.mem_cons.mp hr with e | z
    · rw [e]; exact S.was_free hp hx
    · rcases List.mem_append.mp z with z | z
      · have h1 := T.free r z
        have h2 : H1 r.1 = none := sm.free h1
        exact S.was_free hp h2
      · exact S.free r z
theorem Step.same {p : Addr} {o o1 : HO} {H H1 : Hp} {nw : List (Addr × HO)} (S : Step p o H H1 o1 nw) {q : Addr} {u : HO} (h : H q = some u) (ne : q ≠ p) : H1 q = some u := S.fr q u h (by simpa using ne)
/-- a new instance and what its __init__ builds: all that was tracked is as it was -/
theorem made_same {x dx C : Addr} {ox : HO} {H1 H2 : Hp} {nx : List (Addr × HO)} (hx : H1 x = none) (hdx : H1 dx = none) (hne : dx ≠ x)
    (T : Step x (.ins C dx []) (upd (upd H1 dx (.own x)) x (.ins C dx [])) H2 ox nx) : Same H1 H2 := fun a u e => by
  have hx' : (upd H1 dx (.own x)) x = none := by rw [upd_ne (fun e => hne e.symm)]; exact hx
  exact T.fr a u (((Same.new hdx).trans (Same.new hx')) a u e) (by simpa using ne_of_none e hx)
theorem made_at {x dx C : Addr} {ox : HO} {H1 H2 : Hp} {nx l : List (Addr × HO)} (A : At H1 l) (hx : H1 x = none) (hdx : H1 dx = none) (hne : dx ≠ x)
    (T : Step x (.ins C dx []) (upd (upd H1 dx (.own x)) x (.ins C dx [])) H2 ox nx) : At H2 ((x, ox) :: (nx ++ l)) := by
  have hx' : (upd H1 dx (.own x)) x = none := by rw [upd_ne (fun e => hne e.symm)]; exact hx
  exact T.at_ _ ((A.other (p := dx) (A.out hdx) (.own x)).new hx' (.ins C dx []))
theorem made_free {x dx C : Addr} {ox : HO} {H1 H2 : Hp} {nx : List (Addr × HO)} (hx : H1 x = none) (hdx : H1 dx = none) (hne : dx ≠ x)
    (T : Step x (.ins C dx []) (upd (upd H1 dx (.own x)) x (.ins C dx [])) H2 ox nx) : ∀ q ∈ (x, ox) :: nx, H1 q.1 = none := fun r hr => by
  have hx' : (upd H1 dx (.own x)) x = none := by rw [upd_ne (fun e => hne e.symm)]; exact hx
  rcases List.mem_cons.mp hr with e | z
  · rw [e]; exact hx
  · exact ((Same.new hdx).trans (Same.new hx')).free (T.free r z)

/-! ### the state of a blade of the program of no lines -/
structure S where
  b : Addr
  pc : Addr
  t : Addr
  hd : Addr
  fl : Addr
  dB : Addr
  dP : Addr
  dT : Addr
  dH : Addr
  dF : Addr
  w : Addr
  g : Addr
  lg : Addr
  ln : Addr
  cd : Addr
  no : Addr
  sh : Addr
  to : Addr
  rest : Str
  hand : Str
  made : Int
  num : Int
  over : Bool
  closed : Bool
  wv : List V
  gv : List V
  lv : List V
  trV : V
  metV : V
  flgV : V

abbrev cB (K : PySem.W.Frag) : Addr := He.ga K "Blade"
def fB (s : S) : List (Str × V) := [("sight", .int 0), ("pieces", .ref s.pc), ("turns", .ref s.t), ("waiting", .ref s.w), ("closed", .bl s.closed)]
abbrev cP (K : PySem.W.Frag) : Addr := He.ga K "Pieces"
def fP (s : S) : List (Str × V) := [("rest", .str s.rest)]
abbrev cT (K : PySem.W.Frag) : Addr := He.ga K "Turns"
def fT (s : S) : List (Str × V) := [("lines", .ref s.ln), ("flags", .ref s.fl), ("hands", .ref s.hd), ("truths", s.trV), ("met", s.metV), ("number", .int s.num), ("waits", .non), ("over", .bl s.over), ("given", .ref s.g), ("log", .ref s.lg)]
abbrev cH (K : PySem.W.Frag) : Addr := He.ga K "Hands"
def fH (s : S) : List (Str × V) := [("hand", .str s.hand), ("made", .int s.made), ("shelves", .ref s.sh), ("totals", .ref s.to), ("noted", .ref s.no)]
abbrev cF (K : PySem.W.Frag) : Addr := He.ga K "Truths"
def fF (s : S) : List (Str × V) := [("conds", .ref s.cd), ("flags", s.flgV)]
def cells (K : PySem.W.Frag) (s : S) : List (Addr × HO) := [(s.b, .ins (cB K) s.dB (fB s)), (s.pc, .ins (cP K) s.dP (fP s)), (s.t, .ins (cT K) s.dT (fT s)), (s.hd, .ins (cH K) s.dH (fH s)), (s.fl, .ins (cF K) s.dF (fF s)),
  (s.w, .lst s.wv), (s.g, .lst s.gv), (s.lg, .lst s.lv), (s.ln, .lst []), (s.cd, .lst []), (s.no, .lst []), (s.sh, .dK []), (s.to, .dK [])]
/-- the addresses of the cells -/
def ads (s : S) : List Addr := [s.b, s.pc, s.t, s.hd, s.fl, s.w, s.g, s.lg, s.ln, s.cd, s.no, s.sh, s.to]
theorem ads_eq (K : PySem.W.Frag) (s : S) : (cells K s).map Prod.fst = ads s := rfl
section
variable {K : PySem.W.Frag} {mg : Str → Option Value} {H : Hp} {s : S}

theorem lB_sight (s : S) : (fB s).lookup ("sight" : Str) = some (.int 0) := by kernel_rfl
theorem lB_pieces (s : S) : (fB s).lookup ("pieces" : Str) = some (.ref s.pc) := by kernel_rfl
theorem lB_turns (s : S) : (fB s).lookup ("turns" : Str) = some (.ref s.t) := by kernel_rfl
theorem lB_waiting (s : S) : (fB s).lookup ("waiting" : Str) = some (.ref s.w) := by kernel_rfl
theorem lB_closed (s : S) : (fB s).lookup ("closed" : Str) = some (.bl s.closed) := by kernel_rfl
theorem lB_need_open (s : S) : (fB s).lookup ("need_open" : Str) = none := by kernel_rfl
theorem lB_take_first (s : S) : (fB s).lookup ("take_first" : Str) = none := by kernel_rfl
theorem lB_rows_given (s : S) : (fB s).lookup ("rows_given" : Str) = none := by kernel_rfl
theorem lB_feed (s : S) : (fB s).lookup ("feed" : Str) = none := by kernel_rfl
theorem lB_finish (s : S) : (fB s).lookup ("finish" : Str) = none := by kernel_rfl
theorem lB_boxes (s : S) : (fB s).lookup ("boxes" : Str) = none := by kernel_rfl
theorem lB_faults (s : S) : (fB s).lookup ("faults" : Str) = none := by kernel_rfl
theorem lB_kept (s : S) : (fB s).lookup ("kept" : Str) = none := by kernel_rfl
/-- a field is read -/
theorem rB (T : Tx K mg) (A : At H (cells K s)) {f : Str} {v : V} {Q : V → Hp → Prop} (hn : NoAttr K (cB K) f) (hl : (fB s).lookup f = some v) (q : Q v H) :
    ∃ a C dx fs u, V.ref s.b = V.ref a ∧ H a = some (.ins C dx fs) ∧ Cls K C ∧ NoAttr K C f ∧ fs.lookup f = some u ∧ Q u H := ⟨_, _, _, _, _, rfl, A.get 0 rfl, T.cl_Blade, hn, hl, q⟩
/-- a field is stored -/
theorem wB (T : Tx K mg) (A : At H (cells K s)) {f : Str} {v : V} {N : Hp → Prop} (hn : NoAttr K (cB K) f) (s' : S) (e : putF f v (fB s) = fB s') (ec : (cells K s).set 0 (s.b, .ins (cB K) s.dB (fB s')) = cells K s')
    (q : ∀ H', At H' (cells K s') → Fr (ads s) H H' → N H') : ∃ a C dx fs, V.ref s.b = V.ref a ∧ H a = some (.ins C dx fs) ∧ Cls K C ∧ NoAttr K C f ∧ fs.length < 1000 ∧ N (upd H a (.ins C dx (putF f v fs))) := by
  refine ⟨_, _, _, _, rfl, A.get 0 rfl, T.cl_Blade, hn, ?_, ?_⟩
  · show 5 < 1000
    decide
  · rw [e]
    have A1 := A.put 0 rfl (.ins (cB K) s.dB (fB s'))
    rw [ec] at A1
    exact q _ A1 (Fr.upd (by simp [ads]))
/-- a method is called: the receiver -/
theorem mB (A : At H (cells K s)) {m : Str} {Q : V → Hp → Prop} {R : Addr → Prop} (hl : (fB s).lookup m = none) (q : R s.b) : ∃ a dx fs, V.ref s.b = V.ref a ∧ H a = some (.ins (cB K) dx fs) ∧ fs.lookup m = none ∧ R a := ⟨_, _, _, rfl, A.get 0 rfl, hl, q⟩
theorem lP_rest (s : S) : (fP s).lookup ("rest" : Str) = some (.str s.rest) := by kernel_rfl
theorem lP_whole_rows (s : S) : (fP s).lookup ("whole_rows" : Str) = none := by kernel_rfl
theorem lP_last_rows (s : S) : (fP s).lookup ("last_rows" : Str) = none := by kernel_rfl
/-- a field is read -/
theorem rP (T : Tx K mg) (A : At H (cells K s)) {f : Str} {v : V} {Q : V → Hp → Prop} (hn : NoAttr K (cP K) f) (hl : (fP s).lookup f = some v) (q : Q v H) :
    ∃ a C dx fs u, V.ref s.pc = V.ref a ∧ H a = some (.ins C dx fs) ∧ Cls K C ∧ NoAttr K C f ∧ fs.lookup f = some u ∧ Q u H := ⟨_, _, _, _, _, rfl, A.get 1 rfl, T.cl_Pieces, hn, hl, q⟩
/-- a field is stored -/
theorem wP (T : Tx K mg) (A : At H (cells K s)) {f : Str} {v : V} {N : Hp → Prop} (hn : NoAttr K (cP K) f) (s' : S) (e : putF f v (fP s) = fP s') (ec : (cells K s).set 1 (s.pc, .ins (cP K) s.dP (fP s')) = cells K s')
    (q : ∀ H', At H' (cells K s') → Fr (ads s) H H' → N H') : ∃ a C dx fs, V.ref s.pc = V.ref a ∧ H a = some (.ins C dx fs) ∧ Cls K C ∧ NoAttr K C f ∧ fs.length < 1000 ∧ N (upd H a (.ins C dx (putF f v fs))) := by
  refine ⟨_, _, _, _, rfl, A.get 1 rfl, T.cl_Pieces, hn, ?_, ?_⟩
  · show 1 < 1000
    decide
  · rw [e]
    have A1 := A.put 1 rfl (.ins (cP K) s.dP (fP s'))
    rw [ec] at A1
    exact q _ A1 (Fr.upd (by simp [ads]))
/-- a method is called: the receiver -/
theorem mP (A : At H (cells K s)) {m : Str} {Q : V → Hp → Prop} {R : Addr → Prop} (hl : (fP s).lookup m = none) (q : R s.pc) : ∃ a dx fs, V.ref s.pc = V.ref a ∧ H a = some (.ins (cP K) dx fs) ∧ fs.lookup m = none ∧ R a := ⟨_, _, _, rfl, A.get 1 rfl, hl, q⟩
theorem lT_lines (s : S) : (fT s).lookup ("lines" : Str) = some (.ref s.ln) := by kernel_rfl
theorem lT_flags (s : S) : (fT s).lookup ("flags" : Str) = some (.ref s.fl) := by kernel_rfl
theorem lT_hands (s : S) : (fT s).lookup ("hands" : Str) = some (.ref s.hd) := by kernel_rfl
theorem lT_truths (s : S) : (fT s).lookup ("truths" : Str) = some (s.trV) := by kernel_rfl
theorem lT_met (s : S) : (fT s).lookup ("met" : Str) = some (s.metV) := by kernel_rfl
theorem lT_number (s : S) : (fT s).lookup ("number" : Str) = some (.int s.num) := by kernel_rfl
theorem lT_waits (s : S) : (fT s).lookup ("waits" : Str) = some (.non) := by kernel_rfl
theorem lT_over (s : S) : (fT s).lookup ("over" : Str) = some (.bl s.over) := by kernel_rfl
theorem lT_given (s : S) : (fT s).lookup ("given" : Str) = some (.ref s.g) := by kernel_rfl
theorem lT_log (s : S) : (fT s).lookup ("log" : Str) = some (.ref s.lg) := by kernel_rfl
theorem lT_give (s : S) : (fT s).lookup ("give" : Str) = none := by kernel_rfl
theorem lT_want (s : S) : (fT s).lookup ("want" : Str) = none := by kernel_rfl
theorem lT_end_turn (s : S) : (fT s).lookup ("end_turn" : Str) = none := by kernel_rfl
theorem lT_take (s : S) : (fT s).lookup ("take" : Str) = none := by kernel_rfl
theorem lT_none (s : S) : (fT s).lookup ("none" : Str) = none := by kernel_rfl
theorem lT_go_on (s : S) : (fT s).lookup ("go_on" : Str) = none := by kernel_rfl
/-- a field is read -/
theorem rT (T : Tx K mg) (A : At H (cells K s)) {f : Str} {v : V} {Q : V → Hp → Prop} (hn : NoAttr K (cT K) f) (hl : (fT s).lookup f = some v) (q : Q v H) :
    ∃ a C dx fs u, V.ref s.t = V.ref a ∧ H a = some (.ins C dx fs) ∧ Cls K C ∧ NoAttr K C f ∧ fs.lookup f = some u ∧ Q u H := ⟨_, _, _, _, _, rfl, A.get 2 rfl, T.cl_Turns, hn, hl, q⟩
/-- a field is stored -/
theorem wT (T : Tx K mg) (A : At H (cells K s)) {f : Str} {v : V} {N : Hp → Prop} (hn : NoAttr K (cT K) f) (s' : S) (e : putF f v (fT s) = fT s') (ec : (cells K s).set 2 (s.t, .ins (cT K) s.dT (fT s')) = cells K s')
    (q : ∀ H', At H' (cells K s') → Fr (ads s) H H' → N H') : ∃ a C dx fs, V.ref s.t = V.ref a ∧ H a = some (.ins C dx fs) ∧ Cls K C ∧ NoAttr K C f ∧ fs.length < 1000 ∧ N (upd H a (.ins C dx (putF f v fs))) := by
  refine ⟨_, _, _, _, rfl, A.get 2 rfl, T.cl_Turns, hn, ?_, ?_⟩
  · show 10 < 1000
    decide
  · rw [e]
    have A1 := A.put 2 rfl (.ins (cT K) s.dT (fT s'))
    rw [ec] at A1
    exact q _ A1 (Fr.upd (by simp [ads]))
/-- a method is called: the receiver -/
theorem mT (A : At H (cells K s)) {m : Str} {Q : V → Hp → Prop} {R : Addr → Prop} (hl : (fT s).lookup m = none) (q : R s.t) : ∃ a dx fs, V.ref s.t = V.ref a ∧ H a = some (.ins (cT K) dx fs) ∧ fs.lookup m = none ∧ R a := ⟨_, _, _, rfl, A.get 2 rfl, hl, q⟩
theorem lH_hand (s : S) : (fH s).lookup ("hand" : Str) = some (.str s.hand) := by kernel_rfl
theorem lH_made (s : S) : (fH s).lookup ("made" : Str) = some (.int s.made) := by kernel_rfl
theorem lH_shelves (s : S) : (fH s).lookup ("shelves" : Str) = some (.ref s.sh) := by kernel_rfl
theorem lH_totals (s : S) : (fH s).lookup ("totals" : Str) = some (.ref s.to) := by kernel_rfl
theorem lH_noted (s : S) : (fH s).lookup ("noted" : Str) = some (.ref s.no) := by kernel_rfl
theorem lH_take (s : S) : (fH s).lookup ("take" : Str) = none := by kernel_rfl
theorem lH_let_go (s : S) : (fH s).lookup ("let_go" : Str) = none := by kernel_rfl
theorem lH_kept (s : S) : (fH s).lookup ("kept" : Str) = none := by kernel_rfl
/-- a field is read -/
theorem rH (T : Tx K mg) (A : At H (cells K s)) {f : Str} {v : V} {Q : V → Hp → Prop} (hn : NoAttr K (cH K) f) (hl : (fH s).lookup f = some v) (q : Q v H) :
    ∃ a C dx fs u, V.ref s.hd = V.ref a ∧ H a = some (.ins C dx fs) ∧ Cls K C ∧ NoAttr K C f ∧ fs.lookup f = some u ∧ Q u H := ⟨_, _, _, _, _, rfl, A.get 3 rfl, T.cl_Hands, hn, hl, q⟩
/-- a field is stored -/
theorem wH (T : Tx K mg) (A : At H (cells K s)) {f : Str} {v : V} {N : Hp → Prop} (hn : NoAttr K (cH K) f) (s' : S) (e : putF f v (fH s) = fH s') (ec : (cells K s).set 3 (s.hd, .ins (cH K) s.dH (fH s')) = cells K s')
    (q : ∀ H', At H' (cells K s') → Fr (ads s) H H' → N H') : ∃ a C dx fs, V.ref s.hd = V.ref a ∧ H a = some (.ins C dx fs) ∧ Cls K C ∧ NoAttr K C f ∧ fs.length < 1000 ∧ N (upd H a (.ins C dx (putF f v fs))) := by
  refine ⟨_, _, _, _, rfl, A.get 3 rfl, T.cl_Hands, hn, ?_, ?_⟩
  · show 5 < 1000
    decide
  · rw [e]
    have A1 := A.put 3 rfl (.ins (cH K) s.dH (fH s'))
    rw [ec] at A1
    exact q _ A1 (Fr.upd (by simp [ads]))
/-- a method is called: the receiver -/
theorem mH (A : At H (cells K s)) {m : Str} {Q : V → Hp → Prop} {R : Addr → Prop} (hl : (fH s).lookup m = none) (q : R s.hd) : ∃ a dx fs, V.ref s.hd = V.ref a ∧ H a = some (.ins (cH K) dx fs) ∧ fs.lookup m = none ∧ R a := ⟨_, _, _, rfl, A.get 3 rfl, hl, q⟩
theorem lF_conds (s : S) : (fF s).lookup ("conds" : Str) = some (.ref s.cd) := by kernel_rfl
theorem lF_flags (s : S) : (fF s).lookup ("flags" : Str) = some (s.flgV) := by kernel_rfl
theorem lF_told (s : S) : (fF s).lookup ("told" : Str) = none := by kernel_rfl
/-- a field is read -/
theorem rF (T : Tx K mg) (A : At H (cells K s)) {f : Str} {v : V} {Q : V → Hp → Prop} (hn : NoAttr K (cF K) f) (hl : (fF s).lookup f = some v) (q : Q v H) :
    ∃ a C dx fs u, V.ref s.fl = V.ref a ∧ H a = some (.ins C dx fs) ∧ Cls K C ∧ NoAttr K C f ∧ fs.lookup f = some u ∧ Q u H := ⟨_, _, _, _, _, rfl, A.get 4 rfl, T.cl_Truths, hn, hl, q⟩
/-- a field is stored -/
theorem wF (T : Tx K mg) (A : At H (cells K s)) {f : Str} {v : V} {N : Hp → Prop} (hn : NoAttr K (cF K) f) (s' : S) (e : putF f v (fF s) = fF s') (ec : (cells K s).set 4 (s.fl, .ins (cF K) s.dF (fF s')) = cells K s')
    (q : ∀ H', At H' (cells K s') → Fr (ads s) H H' → N H') : ∃ a C dx fs, V.ref s.fl = V.ref a ∧ H a = some (.ins C dx fs) ∧ Cls K C ∧ NoAttr K C f ∧ fs.length < 1000 ∧ N (upd H a (.ins C dx (putF f v fs))) := by
  refine ⟨_, _, _, _, rfl, A.get 4 rfl, T.cl_Truths, hn, ?_, ?_⟩
  · show 2 < 1000
    decide
  · rw [e]
    have A1 := A.put 4 rfl (.ins (cF K) s.dF (fF s'))
    rw [ec] at A1
    exact q _ A1 (Fr.upd (by simp [ads]))
/-- a method is called: the receiver -/
theorem mF (A : At H (cells K s)) {m : Str} {Q : V → Hp → Prop} {R : Addr → Prop} (hl : (fF s).lookup m = none) (q : R s.fl) : ∃ a dx fs, V.ref s.fl = V.ref a ∧ H a = some (.ins (cF K) dx fs) ∧ fs.lookup m = none ∧ R a := ⟨_, _, _, rfl, A.get 4 rfl, hl, q⟩
theorem pB_closed (s : S) (x : Bool) : putF "closed" (.bl x) (fB s) = fB { s with closed := x } := by kernel_rfl
theorem pP_rest (s : S) (x : Str) : putF "rest" (.str x) (fP s) = fP { s with rest := x } := by kernel_rfl
theorem pT_truths (s : S) (x : V) : putF "truths" (x) (fT s) = fT { s with trV := x } := by kernel_rfl
theorem pT_met (s : S) (x : V) : putF "met" (x) (fT s) = fT { s with metV := x } := by kernel_rfl
theorem pT_number (s : S) (x : Int) : putF "number" (.int x) (fT s) = fT { s with num := x } := by kernel_rfl
theorem pT_over (s : S) (x : Bool) : putF "over" (.bl x) (fT s) = fT { s with over := x } := by kernel_rfl
theorem pT_given (s : S) (x : Addr) : putF "given" (.ref x) (fT s) = fT { s with g := x } := by kernel_rfl
theorem pT_log (s : S) (x : Addr) : putF "log" (.ref x) (fT s) = fT { s with lg := x } := by kernel_rfl
theorem pH_hand (s : S) (x : Str) : putF "hand" (.str x) (fH s) = fH { s with hand := x } := by kernel_rfl
theorem pH_made (s : S) (x : Int) : putF "made" (.int x) (fH s) = fH { s with made := x } := by kernel_rfl
theorem pT_waits (s : S) : putF "waits" .non (fT s) = fT s := by kernel_rfl
end
end Rb
/-! The plain law: a text cut sign by sign, and cut by split, are one. -/
namespace Rb
open PySem PySem.Spec PyProof.Rows L2
/-- one sign as a text -/
abbrev sg (c : Nat) : Str := ⟨#[c]⟩
/-- one turn of the law's own cutting -/
def cutF (p : List Str × Str) (c : Nat) : List Str × Str := if c = 10 then (p.1 ++ [p.2], "") else (p.1, p.2 ++ sg c)
def cutAll (left : Str) (l : List Nat) : List Str × Str := l.foldl cutF ([], left)
theorem tl_nl : TL.tl (("\n" : Str)) = [10] := by decide +kernel
theorem tl_empty : TL.tl ("" : Str) = [] := by decide +kernel
theorem tl_sg (c : Nat) : TL.tl (sg c) = [c] := rfl
theorem pre1 (c : Nat) (r : List Nat) : TL.pre [10] (c :: r) = decide (c = 10) := by
  show (([c] : List Nat) == [10]) = _
  by_cases h : c = 10
  · rw [h]; rfl
  · rw [decide_eq_false h]
    exact beq_eq_false_iff_ne.mpr fun e => h (List.cons.inj e).1
theorem spl_cut : ∀ (l : List Nat) (rows : List Str) (left : Str), rows.map TL.tl ++ TL.spl [10] 0 (TL.tl left) l = ((l.foldl cutF (rows, left)).1 ++ [(l.foldl cutF (rows, left)).2]).map TL.tl
  | [], rows, left => by
    rw [TL.spl_nil]
    show _ = (rows ++ [left]).map TL.tl
    rw [List.map_append]
    rfl
  | c :: r, rows, left => by
    by_cases h : c = 10
    · have h1 : TL.pre [10] (c :: r) = true := by rw [pre1, decide_eq_true h]
      have ih := spl_cut r (rows ++ [left]) ""
      have e : cutF (rows, left) c = (rows ++ [left], ("" : Str)) := if_pos h
      rw [TL.spl_hit h1, List.foldl_cons, e, ← ih, List.map_append, tl_empty, List.append_assoc]
      rfl
    · have h1 : TL.pre [10] (c :: r) = false := by rw [pre1, decide_eq_false h]
      have ih := spl_cut r rows (left ++ sg c)
      have e : cutF (rows, left) c = (rows, left ++ sg c) := if_neg h
      rw [TL.spl_miss h1, List.foldl_cons, e, ← ih, TL.tl_append, tl_sg]
theorem spl_pre : ∀ (l1 l2 acc : List Nat), 10 ∉ l1 → TL.spl [10] 0 acc (l1 ++ l2) = TL.spl [10] 0 (acc ++ l1) l2
  | [], l2, acc, _ => by rw [List.append_nil]; rfl
  | c :: r, l2, acc, h => by
    have hc : ¬ c = 10 := fun e => h (by rw [e]; exact List.mem_cons_self)
    have h1 : TL.pre [10] (c :: (r ++ l2)) = false := by rw [pre1, decide_eq_false hc]
    have ih := spl_pre r l2 (acc ++ [c]) fun hm => h (List.mem_cons_of_mem _ hm)
    show TL.spl [10] 0 acc (c :: (r ++ l2)) = _
    rw [TL.spl_miss h1, ih, List.append_assoc]
    rfl
/-- THE LAW: split of what was left and a piece is what the cutting of the piece gives, behind what was left -/
theorem split_cut (left z : Str) (h : 10 ∉ TL.tl left) : Txt.split (left ++ z) "\n" = (cutAll left (TL.tl z)).1 ++ [(cutAll left (TL.tl z)).2] := by
  refine TL.map_tl_inj ?_
  rw [TL.split_spl _ _ (by rw [tl_nl]; simp) (TL.kind_ok (by decide +kernel)), tl_nl, TL.tl_append, spl_pre _ _ _ h, List.nil_append]
  exact spl_cut (TL.tl z) [] left
/-- plain signs: what the law's texts are made of -/
def Pl (x : Str) : Prop := ∀ c ∈ TL.tl x, c < 128
theorem Pl.ok {x : Str} (h : Pl x) : PyData.strOk x = true := by
  show x.cps.all (· < 0x110000) = true
  rw [← Array.all_toList, List.all_eq_true]
  intro c hc
  have := h c hc
  exact decide_eq_true (by omega)
theorem Pl.empty : Pl "" := fun c hc => by rw [tl_empty] at hc; cases hc
theorem Pl.app {x : Str} (h : Pl x) {c : Nat} (hc : c < 128) : Pl (x ++ sg c) := fun d hd => by
  rw [TL.tl_append] at hd
  rcases List.mem_append.mp hd with q | q
  · exact h d q
  · rw [List.mem_singleton.mp q]; exact hc
/-- what the cutting leaves: plain rows, a plain rest without a line feed, no longer than what went in -/
structure CutOk (rs : List Str) (lf : Str) (n : Nat) : Prop where
  rows : ∀ r ∈ rs, Pl r
  left : Pl lf
  nof : 10 ∉ TL.tl lf
  len : lf.length + rs.length ≤ n
theorem cut_ok : ∀ (l : List Nat) (rows : List Str) (left : Str) (n : Nat), (∀ c ∈ l, c < 128) → CutOk rows left n → CutOk (l.foldl cutF (rows, left)).1 (l.foldl cutF (rows, left)).2 (n + l.length)
  | [], rows, left, n, _, h => h
  | c :: r, rows, left, n, hl, h => by
    have hc := hl c List.mem_cons_self
    have hr : ∀ d ∈ r, d < 128 := fun d hd => hl d (List.mem_cons_of_mem _ hd)
    rw [List.foldl_cons, List.length_cons]
    by_cases e : c = 10
    · have e1 : cutF (rows, left) c = (rows ++ [left], ("" : Str)) := if_pos e
      rw [e1]
      have q := cut_ok r (rows ++ [left]) "" (n + 1) hr ⟨fun x hx => ?_, Pl.empty, by rw [tl_empty]; simp, ?_⟩
      · rw [show n + (r.length + 1) = n + 1 + r.length by omega]
        exact q
      · rcases List.mem_append.mp hx with z | z
        · exact h.rows x z
        · rw [List.mem_singleton.mp z]; exact h.left
      · have := h.len
        rw [List.length_append, List.length_singleton]
        have e0 : ("" : Str).length = 0 := by decide +kernel
        omega
    · have e1 : cutF (rows, left) c = (rows, left ++ sg c) := if_neg e
      rw [e1]
      have q := cut_ok r rows (left ++ sg c) (n + 1) hr ⟨h.rows, h.left.app hc, fun hm => ?_, ?_⟩
      · rw [show n + (r.length + 1) = n + 1 + r.length by omega]
        exact q
      · rw [TL.tl_append] at hm
        rcases List.mem_append.mp hm with z | z
        · exact h.nof z
        · exact e (List.mem_singleton.mp z).symm
      · have := h.len
        rw [PySem.Str.length_append]
        have e0 : (sg c).length = 1 := rfl
        omega
theorem cutAll_ok {left : Str} {l : List Nat} (hl : ∀ c ∈ l, c < 128) (h1 : Pl left) (h2 : 10 ∉ TL.tl left) : CutOk (cutAll left l).1 (cutAll left l).2 (left.length + l.length) :=
  cut_ok l [] left left.length hl ⟨(fun _ h => nomatch h), h1, h2, Nat.le_refl _⟩
end Rb
/-! The lower defs: makers, pieces, hands, truths. -/
namespace Rb
open PySem PySem.Spec PyProof.Rows L2
/-- a def of the row keeps a promise -/
abbrev OkF (P : Program) (w : World) (K : PySem.W.Frag) (mg : Str → Option Value) (base : Heap) (CX : CXT) (k : Nat) (d : He.DefD) (ps : List Str) (sp : Sp) : Prop :=
  ∃ fd, FnOk P w K mg base CX k (He.fAd K d.at_) fd ps sp ∧ Binds K fd ps []
abbrev cPr (K : PySem.W.Frag) : Addr := He.ga K "Program"
abbrev cS (K : PySem.W.Frag) : Addr := He.ga K "Spot"
section
variable {P : Program} {w : World} {K : PySem.W.Frag} {mg : Str → Option Value} {base : Heap}
/-- what is never reached -/
theorem pe_never {X : Cx} {e : Expr} : PE X e (fun _ _ _ => False) := ⟨fun _ _ _ _ _ _ h => h.elim⟩
theorem lt1000_of {n : Nat} (h : Nat.blt n 1000 = true) : n < 1000 := Nat.le_of_ble_eq_true h
/-- a field of what is being built is stored -/
theorem bw {p C dx : Addr} {f : Str} {v : V} {H H1 : Hp} {fs : List (Str × V)} {nw : List (Addr × HO)} {N : Hp → Prop} (S : Step p (.ins C dx []) H H1 (.ins C dx fs) nw) (hp : H p = some (.ins C dx [])) (c : Cls K C) (n : NoAttr K C f)
    (hl : Nat.blt fs.length 1000 = true) (q : ∀ H', Step p (.ins C dx []) H H' (.ins C dx (putF f v fs)) nw → N H') :
    ∃ a C' dx' fs', V.ref p = V.ref a ∧ H1 a = some (.ins C' dx' fs') ∧ Cls K C' ∧ NoAttr K C' f ∧ fs'.length < 1000 ∧ N (upd H1 a (.ins C' dx' (putF f v fs'))) :=
  ⟨p, C, dx, fs, rfl, S.at1 hp, c, n, lt1000_of hl, q _ (S.put _)⟩
theorem Step.to {p : Addr} {o o1 o2 : HO} {H H1 : Hp} {nw : List (Addr × HO)} (S : Step p o H H1 o1 nw) (e : o1 = o2) : Step p o H H1 o2 nw := by rw [← e]; exact S

/-! ### Program(lines) -/
def oPr (K : PySem.W.Frag) (dx ln : Addr) : HO := .ins (cPr K) dx [("lines", .ref ln)]
theorem lPr_lines (ln : Addr) : ([(("lines" : Str), V.ref ln)]).lookup ("lines" : Str) = some (.ref ln) := by kernel_rfl
def spPrInit (K : PySem.W.Frag) : Sp := fun vs H Q _ => ∃ (p dx ln : Addr), vs = [.ref p, .ref ln] ∧ H p = some (.ins (cPr K) dx []) ∧ ∀ H', Step p (.ins (cPr K) dx []) H H' (oPr K dx ln) [] → Q .non H'
theorem ok_PrInit (T : Tx K mg) : OkF P w K mg base CX0 1 dPrInit ["self", "lines"] (spPrInit K) := by
  obtain ⟨fd, F⟩ := T.d_PrInit
  refine ⟨fd, F.ok scPrInit (fun vs H Q E h => ?_) (fun cdv A outer s H vs Q E hr h => ?_), F.bindsN fun _ _ _ _ _ _ us hl => match us, hl with | [_, _], _ => rfl⟩
  · obtain ⟨p, dx, ln, rfl, _⟩ := h
    rfl
  · obtain ⟨p, dx, ln, rfl, hp, k⟩ := h
    refine ⟨_, PSs.nox (pss_one (ps_fld (pv 0) (pv 1) rfl)), ?_⟩
    refine ⟨_, rfl, _, rfl, bw (Step.refl H) hp T.cl_Program T.n_Program_lines rfl fun H' S => k H' S⟩

/-! ### Spot(number, row, last, behind) -/
def spSpInit (K : PySem.W.Frag) : Sp := fun vs H Q _ => ∃ (p dx : Addr) (a b c d : V), vs = [.ref p, a, b, c, d] ∧ H p = some (.ins (cS K) dx []) ∧ ∀ H' o, Step p (.ins (cS K) dx []) H H' o [] → Q .non H'
theorem ok_SpInit (T : Tx K mg) : OkF P w K mg base CX0 1 dSpInit ["self", "number", "row", "last", "behind"] (spSpInit K) := by
  obtain ⟨fd, F⟩ := T.d_SpInit
  refine ⟨fd, F.ok scSpInit (fun vs H Q E h => ?_) (fun cdv A outer s H vs Q E hr h => ?_), F.bindsN fun _ _ _ _ _ _ us hl => match us, hl with | [_, _, _, _, _], _ => rfl⟩
  · obtain ⟨p, dx, a, b, c, d, rfl, _⟩ := h
    rfl
  · obtain ⟨p, dx, a, b, c, d, rfl, hp, k⟩ := h
    refine ⟨_, PSs.nox (pss_cons (ps_fld (pv 0) (pv 1) rfl) (pss_cons (ps_fld (pv 0) (pv 2) rfl) (pss_cons (ps_fld (pv 0) (pv 3) rfl) (pss_one (ps_fld (pv 0) (pv 4) rfl))))), ?_⟩
    refine ⟨_, rfl, _, rfl, bw (Step.refl H) hp T.cl_Spot T.n_Spot_number rfl fun H1 S1 => ?_⟩
    refine ⟨_, rfl, _, rfl, bw S1 hp T.cl_Spot T.n_Spot_row (by kernel_rfl) fun H2 S2 => ?_⟩
    refine ⟨_, rfl, _, rfl, bw S2 hp T.cl_Spot T.n_Spot_last (by kernel_rfl) fun H3 S3 => ?_⟩
    exact ⟨_, rfl, _, rfl, bw S3 hp T.cl_Spot T.n_Spot_behind (by kernel_rfl) fun H4 S4 => k H4 _ S4⟩

/-! ### Pieces -/
def spPcInit (K : PySem.W.Frag) : Sp := fun vs H Q _ => ∃ (p dx : Addr), vs = [.ref p] ∧ H p = some (.ins (cP K) dx []) ∧ ∀ H', Step p (.ins (cP K) dx []) H H' (.ins (cP K) dx [("rest", .str "")]) [] → Q .non H'
theorem ok_PcInit (T : Tx K mg) : OkF P w K mg base CX0 1 dPcInit ["self"] (spPcInit K) := by
  obtain ⟨fd, F⟩ := T.d_PcInit
  refine ⟨fd, F.ok scPcInit (fun vs H Q E h => ?_) (fun cdv A outer s H vs Q E hr h => ?_), F.bindsN fun _ _ _ _ _ _ us hl => match us, hl with | [_], _ => rfl⟩
  · obtain ⟨p, dx, rfl, _⟩ := h
    rfl
  · obtain ⟨p, dx, rfl, hp, k⟩ := h
    refine ⟨_, PSs.nox (pss_one (ps_fld (pv 0) pe_str rfl)), ?_⟩
    exact ⟨_, rfl, bw (Step.refl H) hp T.cl_Pieces T.n_Pieces_rest rfl fun H' S => k H' S⟩
/-- how a text is cut at the line feeds -/
abbrev nl : Str := "\n"
def spWhole (K : PySem.W.Frag) : Sp := fun vs H Q _ => ∃ (s : S) (z left : Str) (rows : List Str), vs = [.ref s.pc, .str z] ∧ At H (cells K s) ∧ Txt.split (s.rest ++ z) nl = rows ++ [left] ∧ s.rest.length + z.length + 2 ≤ sizeLine ∧
  ∀ (p : Addr) (H' : Hp), H p = none → H' p = some (.lst (rows.map V.str)) → At H' (cells K { s with rest := left }) → Fr (ads s) H H' → Q (.ref p) H'
theorem last_map (rows : List Str) (left : Str) : ((rows ++ [left]).map V.str)[((rows ++ [left]).map V.str).length - 1]? = some (.str left) := by
  rw [List.map_append, List.length_append, List.length_map]
  show ((rows.map V.str) ++ [V.str left])[rows.length + 1 - 1]? = _
  rw [Nat.add_sub_cancel, List.getElem?_append_right (by rw [List.length_map]; exact Nat.le_refl _), List.length_map, Nat.sub_self]
  rfl
theorem drop_map (rows : List Str) (left : Str) : ((rows ++ [left]).map V.str).dropLast = rows.map V.str := by
  rw [List.map_append]
  exact List.dropLast_concat
theorem ok_Whole (T : Tx K mg) : OkF P w K mg base CX0 1 dWhole ["self", "piece"] (spWhole K) := by
  obtain ⟨fd, F⟩ := T.d_Whole
  refine ⟨fd, F.ok scWhole (fun vs H Q E h => ?_) (fun cdv A outer s H vs Q E hr h => ?_), F.bindsN fun _ _ _ _ _ _ us hl => match us, hl with | [_, _], _ => rfl⟩
  · obtain ⟨s, z, left, rows, rfl, _⟩ := h
    rfl
  · obtain ⟨s, z, left, rows, rfl, A, hcut, hlen, k⟩ := h
    refine ⟨_, PSs.nox (pss_cons (ps_set (i := 2) scWhole.nd rfl (Or.inl rfl) (pe_split (pe_op op_add_str (pe_fld (pv 0) rfl) (pv 1)) pe_str))
      (pss_cons (ps_fld (pv 0) (pe_bm0 PySem.F.plainAttrs_list PySem.F.slot_list_pop PySem.F.type_list_pop mt_pop (pv 2)) rfl) (pss_one (ps_ret (pv 2))))), ?_⟩
    refine ⟨_, rfl, _, _, _, _, _, rfl, A.get 1 rfl, T.cl_Pieces, T.n_Pieces_rest, lP_rest _, ?_⟩
    refine ⟨_, rfl, _, _, rfl, rfl, Nat.le_trans (Nat.le_add_right _ 2) hlen, ⟨_, rfl⟩, _, _, rfl, rfl, by decide +kernel, ?_, fun p hp => ?_⟩
    · rw [PySem.Str.length_append]
      exact hlen
    · rw [hcut]
      refine ⟨_, rfl, .inl ⟨rfl, _, SqL.of upd_same⟩, p, _, _, rfl, rfl, upd_same, last_map rows left, ?_⟩
      rw [drop_map, upd_upd]
      have A2 : At (upd H p (.lst (rows.map V.str))) (cells K s) := A.other (A.out hp) _
      refine ⟨_, rfl, wP T A2 T.n_Pieces_rest { s with rest := left } (pP_rest s left) rfl fun H' A' f => ⟨_, rfl, k p H' hp ?_ A' ((Fr.new hp).trans f)⟩⟩
      exact f p _ upd_same (A.out hp)
def lastOf (rest : Str) : List Str := if rest = "" then [] else [rest]
def spLastR (K : PySem.W.Frag) : Sp := fun vs H Q _ => ∃ (s : S), vs = [.ref s.pc] ∧ At H (cells K s) ∧
  ∀ (p : Addr) (H' : Hp), H p = none → H' p = some (.lst ((lastOf s.rest).map V.str)) → At H' (cells K { s with rest := "" }) → Fr (ads s) H H' → Q (.ref p) H'
theorem str_dec (a b : Str) : decide (V.str a = V.str b) = decide (a = b) := by
  by_cases h : a = b
  · rw [h, decide_eq_true rfl, decide_eq_true rfl]
  · rw [decide_eq_false h, decide_eq_false (fun e => h (V.str.inj e))]
theorem ok_LastR (T : Tx K mg) : OkF P w K mg base CX0 1 dLastR ["self"] (spLastR K) := by
  obtain ⟨fd, F⟩ := T.d_LastR
  refine ⟨fd, F.ok scLastR (fun vs H Q E h => ?_) (fun cdv A outer s H vs Q E hr h => ?_), F.bindsN fun _ _ _ _ _ _ us hl => match us, hl with | [_], _ => rfl⟩
  · obtain ⟨s, rfl, _⟩ := h
    rfl
  · obtain ⟨s, rfl, A, k⟩ := h
    refine ⟨_, PSs.nox (pss_cons (ps_if (pt_cmpR op_eq (pe_fld (pv 0) rfl) pe_str (nomark _)) (pss_one (ps_ret (pe_lst pa_nil))) pss_nil)
      (pss_cons (ps_set (i := 1) scLastR.nd rfl (Or.inl rfl) (pe_lst (pa_cons (pe_fld (pv 0) rfl) pa_nil))) (pss_cons (ps_fld (pv 0) pe_str rfl) (pss_one (ps_ret (pv 1)))))), ?_⟩
    refine ⟨_, rfl, _, _, _, _, _, rfl, A.get 1 rfl, T.cl_Pieces, T.n_Pieces_rest, lP_rest _, ?_⟩
    refine ⟨rfl, _, rfl, ?_⟩
    rw [str_dec]
    unfold lastOf at k
    refine ite2 (fun hc => ?_) (fun hc => ?_)
    · have e : s.rest = "" := of_decide_eq_true hc
      rw [if_pos e] at k
      refine ⟨by show 0 ≤ sizeLine; exact Nat.zero_le _, fun p hp => k p _ hp upd_same ?_ (Fr.new hp)⟩
      have e2 : ({ s with rest := "" } : S) = s := by rw [← e]
      rw [e2]
      exact A.other (A.out hp) _
    · have e : ¬ s.rest = "" := fun z => hc (decide_eq_true z)
      rw [if_neg e] at k
      refine ⟨_, rfl, _, _, _, _, _, rfl, A.get 1 rfl, T.cl_Pieces, T.n_Pieces_rest, lP_rest _, ?_⟩
      refine ⟨by show 1 ≤ sizeLine; decide, fun p hp => ?_⟩
      have A2 : At (upd H p (.lst [V.str s.rest])) (cells K s) := A.other (A.out hp) _
      refine ⟨_, rfl, wP T A2 T.n_Pieces_rest { s with rest := "" } (pP_rest s "") rfl fun H' A' f => ⟨_, rfl, k p H' hp ?_ A' ((Fr.new hp).trans f)⟩⟩
      exact f p _ upd_same (A.out hp)

/-! ### Hands -/
def spHdInit (K : PySem.W.Frag) : Sp := fun vs H Q _ => ∃ (p dx : Addr), vs = [.ref p] ∧ H p = some (.ins (cH K) dx []) ∧
  ∀ H' sh to no, Step p (.ins (cH K) dx []) H H' (.ins (cH K) dx [("hand", .str ""), ("made", .int 0), ("shelves", .ref sh), ("totals", .ref to), ("noted", .ref no)]) [(no, .lst []), (to, .dK []), (sh, .dK [])] → Q .non H'
theorem eH5 (sh to no : Addr) : putF "noted" (.ref no) (putF "totals" (.ref to) (putF "shelves" (.ref sh) (putF "made" (.int 0) (putF "hand" (.str "") [])))) = ([("hand", .str ""), ("made", .int 0), ("shelves", .ref sh), ("totals", .ref to), ("noted", .ref no)] : List (Str × V)) := by kernel_rfl
theorem ok_HdInit (T : Tx K mg) : OkF P w K mg base CX0 1 dHdInit ["self"] (spHdInit K) := by
  obtain ⟨fd, F⟩ := T.d_HdInit
  refine ⟨fd, F.ok scHdInit (fun vs H Q E h => ?_) (fun cdv A outer s H vs Q E hr h => ?_), F.bindsN fun _ _ _ _ _ _ us hl => match us, hl with | [_], _ => rfl⟩
  · obtain ⟨p, dx, rfl, _⟩ := h
    rfl
  · obtain ⟨p, dx, rfl, hp, k⟩ := h
    refine ⟨_, PSs.nox (pss_cons (ps_fld (pv 0) pe_str rfl) (pss_cons (ps_fld (pv 0) pe_int rfl) (pss_cons (ps_fld (pv 0) pe_dnewK rfl) (pss_cons (ps_fld (pv 0) pe_dnewK rfl) (pss_one (ps_fld (pv 0) (pe_lst pa_nil) rfl)))))), ?_⟩
    refine ⟨_, rfl, bw (Step.refl H) hp T.cl_Hands T.n_Hands_hand rfl fun H1 S1 => ?_⟩
    refine ⟨_, rfl, bw S1 hp T.cl_Hands T.n_Hands_made (by kernel_rfl) fun H2 S2 => ?_⟩
    intro sh hsh
    refine ⟨_, rfl, bw (S2.new hp hsh _) hp T.cl_Hands T.n_Hands_shelves (by kernel_rfl) fun H3 S3 => ?_⟩
    intro to hto
    refine ⟨_, rfl, bw (S3.new hp hto _) hp T.cl_Hands T.n_Hands_totals (by kernel_rfl) fun H4 S4 => ?_⟩
    refine ⟨Nat.zero_le _, fun no hno => ?_⟩
    refine ⟨_, rfl, bw (S4.new hp hno _) hp T.cl_Hands T.n_Hands_noted (by kernel_rfl) fun H5 S5 => ?_⟩
    exact k H5 sh to no (S5.to (by rw [eH5]))
def spHdTake (K : PySem.W.Frag) : Sp := fun vs H Q _ => ∃ (s : S) (z : Str), vs = [.ref s.hd, .str z] ∧ At H (cells K s) ∧ ∀ H', At H' (cells K { s with hand := z, made := 1 }) → Fr (ads s) H H' → Q .non H'
theorem ok_HdTake (T : Tx K mg) : OkF P w K mg base CX0 1 dHdTake ["self", "row"] (spHdTake K) := by
  obtain ⟨fd, F⟩ := T.d_HdTake
  refine ⟨fd, F.ok scHdTake (fun vs H Q E h => ?_) (fun cdv A outer s H vs Q E hr h => ?_), F.bindsN fun _ _ _ _ _ _ us hl => match us, hl with | [_, _], _ => rfl⟩
  · obtain ⟨s, z, rfl, _⟩ := h
    rfl
  · obtain ⟨s, z, rfl, A, k⟩ := h
    refine ⟨_, PSs.nox (pss_cons (ps_fld (pv 0) (pv 1) rfl) (pss_one (ps_fld (pv 0) pe_int rfl))), ?_⟩
    refine ⟨_, rfl, _, rfl, wH T A T.n_Hands_hand { s with hand := z } (pH_hand s z) rfl fun H1 A1 f1 => ?_⟩
    exact ⟨_, rfl, wH T A1 T.n_Hands_made { s with hand := z, made := 1 } (pH_made _ 1) rfl fun H2 A2 f2 => k H2 A2 (f1.trans f2)⟩
def spLetGo (K : PySem.W.Frag) : Sp := fun vs H Q _ => ∃ (s : S), vs = [.ref s.hd] ∧ At H (cells K s) ∧ ∀ H', At H' (cells K { s with hand := "", made := 0 }) → Fr (ads s) H H' → Q .non H'
theorem ok_LetGo (T : Tx K mg) : OkF P w K mg base CX0 1 dLetGo ["self"] (spLetGo K) := by
  obtain ⟨fd, F⟩ := T.d_LetGo
  refine ⟨fd, F.ok scLetGo (fun vs H Q E h => ?_) (fun cdv A outer s H vs Q E hr h => ?_), F.bindsN fun _ _ _ _ _ _ us hl => match us, hl with | [_], _ => rfl⟩
  · obtain ⟨s, rfl, _⟩ := h
    rfl
  · obtain ⟨s, rfl, A, k⟩ := h
    refine ⟨_, PSs.nox (pss_cons (ps_fld (pv 0) pe_str rfl) (pss_one (ps_fld (pv 0) pe_int rfl))), ?_⟩
    refine ⟨_, rfl, wH T A T.n_Hands_hand { s with hand := "" } (pH_hand s "") rfl fun H1 A1 f1 => ?_⟩
    exact ⟨_, rfl, wH T A1 T.n_Hands_made { s with hand := "", made := 0 } (pH_made _ 0) rfl fun H2 A2 f2 => k H2 A2 (f1.trans f2)⟩
theorem upd_back {H : Hp} {a : Addr} {o : HO} (there : H a = some o) : upd H a o = H := by
  funext x
  by_cases e : x = a
  · rw [e, upd_same, there]
  · rw [upd_ne e]
def spHdKept (K : PySem.W.Frag) : Sp := fun vs H Q _ => ∃ (s : S), vs = [.ref s.hd] ∧ At H (cells K s) ∧ Q (.int s.made) H
theorem ok_HdKept (T : Tx K mg) : OkF P w K mg base CX0 1 dHdKept ["self"] (spHdKept K) := by
  obtain ⟨fd, F⟩ := T.d_HdKept
  refine ⟨fd, F.ok scHdKept (fun vs H Q E h => ?_) (fun cdv A outer s H vs Q E hr h => ?_), F.bindsN fun _ _ _ _ _ _ us hl => match us, hl with | [_], _ => rfl⟩
  · obtain ⟨s, rfl, _⟩ := h
    rfl
  · obtain ⟨s, rfl, A, k⟩ := h
    refine ⟨_, PSs.nox (pss_cons (ps_set (i := 1) scHdKept.nd rfl (Or.inl rfl) (pe_fld (pv 0) rfl))
      (pss_cons (ps_lock (ps_for PassesOwn.never rfl (pi_values (pe_fld (pv 0) rfl)) (pg_name (i := 2) scHdKept.nd rfl (Or.inl rfl)) pss_never)) (pss_one (ps_ret (pv 1))))), ?_⟩
    refine ⟨_, rfl, _, _, _, _, _, rfl, A.get 3 rfl, T.cl_Hands, T.n_Hands_made, lH_made _, ?_⟩
    have hsh : H s.sh = some (.dK []) := A.get 11 rfl
    refine ⟨s.sh, _, hsh, trivial, fun od => ?_⟩
    have A2 := A.put 11 rfl (.frz od (.dK []))
    refine ⟨_, rfl, _, _, _, _, _, rfl, A2.get 3 rfl, T.cl_Hands, T.n_Hands_shelves, lH_shelves s, s.sh, od, [], rfl, upd_same, ?_⟩
    refine ⟨fun i _ σ' H' => i = 0 ∧ σ' = _ ∧ H' = upd H s.sh (.frz od (.dK [])), ⟨0, rfl, rfl, rfl⟩, ?_⟩
    rintro i m σ' H' ⟨rfl, rfl, rfl⟩
    refine .inl ⟨⟨upd_same, Nat.le_refl _⟩, upd_same, ?_⟩
    rw [upd_upd, upd_back hsh]
    exact ⟨_, rfl, k⟩

/-! ### Truths -/
def spTrInit (K : PySem.W.Frag) : Sp := fun vs H Q _ => ∃ (p dx pr dpr ln : Addr), vs = [.ref p, .ref pr] ∧ H p = some (.ins (cF K) dx []) ∧ H pr = some (oPr K dpr ln) ∧ H ln = some (.lst []) ∧
  ∀ H' cd fg, Step p (.ins (cF K) dx []) H H' (.ins (cF K) dx [("conds", .ref cd), ("flags", .ref fg)]) [(fg, .lst []), (cd, .lst [])] → Q .non H'
theorem eF2 (cd fg : Addr) : putF "flags" (.ref fg) (putF "conds" (.ref cd) []) = ([("conds", .ref cd), ("flags", .ref fg)] : List (Str × V)) := by kernel_rfl
theorem nd_oPr {K : PySem.W.Frag} {H : Hp} {p dx C pr dpr ln : Addr} (hp : H p = some (.ins C dx [])) (hpr : H pr = some (oPr K dpr ln)) : pr ≠ p := ne_of hpr hp (by intro q; cases q)
theorem nd_ln {H : Hp} {p dx C ln : Addr} {fs : List (Str × V)} (hp : H p = some (.ins C dx fs)) (hl : H ln = some (.lst [])) : ln ≠ p := ne_of hl hp (by intro q; cases q)
theorem ok_TrInit (T : Tx K mg) : OkF P w K mg base CX0 1 dTrInit ["self", "program"] (spTrInit K) := by
  obtain ⟨fd, F⟩ := T.d_TrInit
  refine ⟨fd, F.ok scTrInit (fun vs H Q E h => ?_) (fun cdv A outer s H vs Q E hr h => ?_), F.bindsN fun _ _ _ _ _ _ us hl => match us, hl with | [_, _], _ => rfl⟩
  · obtain ⟨p, dx, pr, dpr, ln, rfl, _⟩ := h
    rfl
  · obtain ⟨p, dx, pr, dpr, ln, rfl, hp, hpr, hln, k⟩ := h
    refine ⟨_, PSs.nox (pss_cons (ps_fld (pv 0) (pe_lc (own := [("line", 2)]) (g := gName 2) (tt := tYes) rfl scTrInit.nd (pi_list (pe_fld (pv 1) rfl)) (blkOk_by (N := ["self", "program", "line"]) (sc := defScope sTrInit) (by decide +kernel))
        (fun _ _ _ _ _ => pg_name (i := 2) scTrInit.nd rfl (Or.inl rfl)) (fun _ _ _ _ _ => pts_nil) (fun _ _ _ _ _ => pe_never)) rfl)
      (pss_one (ps_fld (pv 0) (pe_lc (own := [("line", 2)]) (g := gName 2) (tt := tYes) rfl scTrInit.nd (pi_list (pe_fld (pv 1) rfl)) (blkOk_by (N := ["self", "program", "line"]) (sc := defScope sTrInit) (by decide +kernel))
        (fun _ _ _ _ _ => pg_name (i := 2) scTrInit.nd rfl (Or.inl rfl)) (fun _ _ _ _ _ => pts_nil) (fun _ _ _ _ _ => pe_never)) rfl))), ?_⟩
    refine ⟨_, rfl, pr, _, _, _, _, rfl, hpr, T.cl_Program, T.n_Program_lines, lPr_lines ln, ln, rfl, ⟨_, SqL.of hln⟩, fun cd hcd => ?_⟩
    refine ⟨fun i _ H' => i = 0 ∧ H' = upd H cd (.lst []), ⟨0, rfl, rfl⟩, ?_⟩
    rintro i m H' ⟨rfl, rfl⟩
    refine .inl ⟨⟨[], SqL.of (by rw [upd_ne (ne_of_none hln hcd)]; exact hln), Nat.le_refl _⟩, ?_⟩
    refine ⟨_, rfl, bw ((Step.refl H).new hp hcd _) hp T.cl_Truths T.n_Truths_conds rfl fun H1 S1 => ?_⟩
    have hpr1 := S1.same hpr (nd_oPr hp hpr)
    have hln1 := S1.same hln (nd_ln hp hln)
    refine ⟨_, rfl, pr, _, _, _, _, rfl, hpr1, T.cl_Program, T.n_Program_lines, lPr_lines ln, ln, rfl, ⟨_, SqL.of hln1⟩, fun fg hfg => ?_⟩
    refine ⟨fun i _ H' => i = 0 ∧ H' = upd H1 fg (.lst []), ⟨0, rfl, rfl⟩, ?_⟩
    rintro i m H' ⟨rfl, rfl⟩
    refine .inl ⟨⟨[], SqL.of (by rw [upd_ne (ne_of_none hln1 hfg)]; exact hln1), Nat.le_refl _⟩, ?_⟩
    refine ⟨_, rfl, bw (S1.new hp hfg _) hp T.cl_Truths T.n_Truths_flags (by kernel_rfl) fun H2 S2 => ?_⟩
    exact k H2 cd fg (S2.to (by rw [eF2]))
def spTold (K : PySem.W.Frag) : Sp := fun vs H Q _ => ∃ (s : S) (v : V), vs = [.ref s.fl, v] ∧ At H (cells K s) ∧ ∀ p, H p = none → Q (.ref p) (upd H p (.lst []))
theorem ok_Told (T : Tx K mg) : OkF P w K mg base CX0 1 dTold ["self", "spot"] (spTold K) := by
  obtain ⟨fd, F⟩ := T.d_Told
  refine ⟨fd, F.ok scTold (fun vs H Q E h => ?_) (fun cdv A outer s H vs Q E hr h => ?_), F.bindsN fun _ _ _ _ _ _ us hl => match us, hl with | [_, _], _ => rfl⟩
  · obtain ⟨s, v, rfl, _⟩ := h
    rfl
  · obtain ⟨s, v, rfl, A, k⟩ := h
    refine ⟨_, PSs.nox (pss_cons (ps_set (i := 2) scTold.nd rfl (Or.inl rfl) (pe_lst pa_nil))
      (pss_cons (ps_for PassesOwn.never rfl (pi_enum (by rfl) T.f_enumerate (pa_cons (pe_fld (pv 0) rfl) pa_nil)) (pg_tup rfl (pgs_cons (pg_name (i := 3) scTold.nd rfl (Or.inl rfl)) (pgs_cons (pg_name (i := 4) scTold.nd rfl (Or.inl rfl)) pgs_nil))) pss_never)
      (pss_one (ps_ret (pv 2))))), ?_⟩
    refine ⟨Nat.zero_le _, fun p hp => ?_⟩
    have A2 : At (upd H p (.lst [])) (cells K s) := A.other (A.out hp) _
    refine ⟨_, rfl, _, _, _, _, _, rfl, A2.get 4 rfl, T.cl_Truths, T.n_Truths_conds, lF_conds _, ?_⟩
    refine ⟨s.cd, [], rfl, SqL.of (A2.get 9 rfl), ?_⟩
    refine ⟨fun i _ σ' H' => i = 0 ∧ σ' = _ ∧ H' = upd H p (.lst []), ⟨0, rfl, rfl, rfl⟩, ?_⟩
    rintro i m σ' H' ⟨rfl, rfl, rfl⟩
    exact .inl ⟨⟨[], SqL.of (A2.get 9 rfl), Nat.le_refl _⟩, _, rfl, k p hp⟩
end
end Rb
/-! Turns. -/
namespace Rb
open PySem PySem.Spec PyProof.Rows L2
section
variable {P : Program} {w : World} {K : PySem.W.Frag} {mg : Str → Option Value} {base : Heap} {H : Hp} {s : S}
/-- the state that is held -/
abbrev stOf {H : Hp} {s : S} (_ : At H (cells K s)) : S := s
theorem same_made {H : Hp} {x dx C : Addr} (hx : H x = none) (hdx : H dx = none) (hne : dx ≠ x) : Same H (upd (upd H dx (.own x)) x (.ins C dx [])) :=
  (Same.new hdx).trans (Same.new (by rw [upd_ne (fun e => hne e.symm)]; exact hx))
/-! ### Turns(program) -/
def spTnInit (K : PySem.W.Frag) : Sp := fun vs H Q _ => ∃ (p dx pr dpr ln : Addr), vs = [.ref p, .ref pr] ∧ H p = some (.ins (cT K) dx []) ∧ H pr = some (oPr K dpr ln) ∧ H ln = some (.lst []) ∧
  ∀ H' fl dF cd fg hd dH sh to no tr mt g tp lg, Step p (.ins (cT K) dx []) H H' (.ins (cT K) dx [("lines", .ref ln), ("flags", .ref fl), ("hands", .ref hd), ("truths", .ref tr), ("met", .ref mt), ("number", .int 0), ("waits", .non), ("over", .bl false), ("given", .ref g), ("log", .ref lg)])
    [(lg, .lst [.ref tp]), (tp, .tup [.str "want", .int 1]), (g, .lst []), (mt, .dK []), (tr, .lst []),
      (hd, .ins (cH K) dH [("hand", .str ""), ("made", .int 0), ("shelves", .ref sh), ("totals", .ref to), ("noted", .ref no)]), (no, .lst []), (to, .dK []), (sh, .dK []),
      (fl, .ins (cF K) dF [("conds", .ref cd), ("flags", .ref fg)]), (fg, .lst []), (cd, .lst [])] → Q .non H'
theorem eT10 (ln fl hd tr mt g lg : Addr) : putF "log" (.ref lg) (putF "given" (.ref g) (putF "over" (.bl false) (putF "waits" .non (putF "number" (.int 0) (putF "met" (.ref mt) (putF "truths" (.ref tr) (putF "hands" (.ref hd) (putF "flags" (.ref fl) (putF "lines" (.ref ln) []))))))))) =
    ([("lines", .ref ln), ("flags", .ref fl), ("hands", .ref hd), ("truths", .ref tr), ("met", .ref mt), ("number", .int 0), ("waits", .non), ("over", .bl false), ("given", .ref g), ("log", .ref lg)] : List (Str × V)) := by kernel_rfl
theorem ok_TnInit (T : Tx K mg) : OkF P w K mg base CX0 3 dTnInit ["self", "program"] (spTnInit K) := by
  obtain ⟨fd, F⟩ := T.d_TnInit
  obtain ⟨fdF, GF, bF⟩ := ok_TrInit (P := P) (w := w) (base := base) T
  obtain ⟨fdH, GH, bH⟩ := ok_HdInit (P := P) (w := w) (base := base) T
  refine ⟨fd, F.ok scTnInit (fun vs H Q E h => ?_) (fun cdv A outer s H vs Q E hr h => ?_), F.bindsN fun _ _ _ _ _ _ us hl => match us, hl with | [_, _], _ => rfl⟩
  · obtain ⟨p, dx, pr, dpr, ln, rfl, _⟩ := h
    rfl
  · obtain ⟨p, dx, pr, dpr, ln, rfl, hp, hpr, hln, k⟩ := h
    refine ⟨_, PSs.nox (pss_cons (ps_fld (pv 0) (pe_fld (pv 1) rfl) rfl) (pss_cons (ps_fld (pv 0) (pe_make T.mk_Truths GF hr rfl T.g_Truths bF .nil pass0 (pa_cons (pv 1) pa_nil)) rfl) (pss_cons (ps_fld (pv 0) (pe_make0 T.mk_Hands GH hr rfl T.g_Hands bH .nil pass0) rfl) (pss_cons (ps_fld (pv 0) (pe_lst pa_nil) rfl) (pss_cons (ps_fld (pv 0) pe_dnewK rfl) (pss_cons (ps_fld (pv 0) pe_int rfl) (pss_cons (ps_fld (pv 0) pe_non rfl) (pss_cons (ps_fld (pv 0) pe_bl rfl) (pss_cons (ps_fld (pv 0) (pe_lst pa_nil) rfl) (pss_one (ps_fld (pv 0) (pe_lst (pa_cons (pe_tup (pa_cons pe_str (pa_cons pe_int pa_nil))) pa_nil)) rfl))))))))))), ?_⟩
    -- self.lines = program.lines
    refine ⟨_, rfl, pr, _, _, _, _, rfl, hpr, T.cl_Program, T.n_Program_lines, lPr_lines ln, _, rfl, bw (Step.refl H) hp T.cl_Turns T.n_Turns_lines rfl fun H1 S1 => ?_⟩
    have hpr1 := S1.same hpr (nd_oPr hp hpr)
    have hln1 := S1.same hln (nd_ln hp hln)
    -- self.flags = Truths(program)
    refine ⟨_, rfl, ?_⟩
    intro x dX hx hdx hne
    have sm := same_made (C := cF K) hx hdx hne
    refine ⟨x, dX, pr, dpr, ln, rfl, upd_same, sm _ _ hpr1, sm _ _ hln1, fun H2 cd fg S2 => ⟨rfl, ?_⟩⟩
    refine ⟨_, rfl, bw (S1.made hp hx hdx hne S2) hp T.cl_Turns T.n_Turns_flags (by kernel_rfl) fun H3 S3 => ?_⟩
    -- self.hands = Hands()
    intro y dY hy hdy hney
    refine ⟨y, dY, rfl, upd_same, fun H4 sh to no S4 => ⟨rfl, ?_⟩⟩
    refine ⟨_, rfl, bw (S3.made hp hy hdy hney S4) hp T.cl_Turns T.n_Turns_hands (by kernel_rfl) fun H5 S5 => ?_⟩
    -- self.truths = []
    refine ⟨Nat.zero_le _, fun tr htr => ?_⟩
    refine ⟨_, rfl, bw (S5.new hp htr _) hp T.cl_Turns T.n_Turns_truths (by kernel_rfl) fun H6 S6 => ?_⟩
    intro mt hmt
    refine ⟨_, rfl, bw (S6.new hp hmt _) hp T.cl_Turns T.n_Turns_met (by kernel_rfl) fun H7 S7 => ?_⟩
    refine ⟨_, rfl, bw S7 hp T.cl_Turns T.n_Turns_number (by kernel_rfl) fun H8 S8 => ?_⟩
    refine ⟨_, rfl, bw S8 hp T.cl_Turns T.n_Turns_waits (by kernel_rfl) fun H9 S9 => ?_⟩
    refine ⟨_, rfl, bw S9 hp T.cl_Turns T.n_Turns_over (by kernel_rfl) fun H10 S10 => ?_⟩
    refine ⟨Nat.zero_le _, fun g hg => ?_⟩
    refine ⟨_, rfl, bw (S10.new hp hg _) hp T.cl_Turns T.n_Turns_given (by kernel_rfl) fun H11 S11 => ?_⟩
    refine ⟨by show 2 ≤ sizeLine; decide, fun tp htp => ⟨by show 1 ≤ sizeLine; decide, fun lg hlg => ?_⟩⟩
    refine ⟨_, rfl, bw ((S11.new hp htp _).new hp hlg _) hp T.cl_Turns T.n_Turns_log (by kernel_rfl) fun H12 S12 => ?_⟩
    exact k H12 x dX cd fg y dY sh to no tr mt g tp lg (S12.to (by rw [eT10]))
/-! ### give, want, end_turn -/
def spGive (K : PySem.W.Frag) : Sp := fun vs H Q _ => ∃ (s : S) (v : V), vs = [.ref s.t, v] ∧ At H (cells K s) ∧ s.gv.length < sizeLine ∧ s.lv.length < sizeLine ∧
  ∀ H' x, At H' (cells K { s with gv := s.gv ++ [v], lv := s.lv ++ [x] }) → Fr (ads s) H H' → Q .non H'
theorem ok_Give (T : Tx K mg) : OkF P w K mg base CX0 1 dGive ["self", "row"] (spGive K) := by
  obtain ⟨fd, F⟩ := T.d_Give
  refine ⟨fd, F.ok scGive (fun vs H Q E h => ?_) (fun cdv A outer s H vs Q E hr h => ?_), F.bindsN fun _ _ _ _ _ _ us hl => match us, hl with | [_, _], _ => rfl⟩
  · obtain ⟨s, v, rfl, _⟩ := h
    rfl
  · obtain ⟨s, v, rfl, A, hg, hl, k⟩ := h
    refine ⟨_, PSs.nox (pss_cons (ps_expr (pe_bm PySem.F.plainAttrs_list PySem.F.slot_list_append PySem.F.type_list_append mt_append (pe_fld (pv 0) rfl) (pa_cons (pv 1) pa_nil))) (pss_one (ps_expr (pe_bm PySem.F.plainAttrs_list PySem.F.slot_list_append PySem.F.type_list_append mt_append (pe_fld (pv 0) rfl) (pa_cons (pe_tup (pa_cons pe_str (pa_cons (pv 1) pa_nil))) pa_nil))))), ?_⟩
    refine ⟨_, rfl, _, _, _, _, _, rfl, A.get 2 rfl, T.cl_Turns, T.n_Turns_given, lT_given _, .inl ⟨rfl, _, SqL.of (A.get 6 rfl)⟩, _, rfl, s.g, _, _, rfl, rfl, A.get 6 rfl, hg, ?_⟩
    have A1 : At (upd H s.g (.lst (s.gv ++ [v]))) (cells K { s with gv := s.gv ++ [v] }) := A.put 6 rfl _
    have f1 : Fr (ads s) H (upd H s.g (.lst (s.gv ++ [v]))) := Fr.upd (by simp [ads])
    generalize upd H s.g (.lst (s.gv ++ [v])) = H1 at A1 f1
    refine ⟨_, rfl, _, _, _, _, _, rfl, A1.get 2 rfl, T.cl_Turns, T.n_Turns_log, lT_log _, .inl ⟨rfl, _, SqL.of (A1.get 7 rfl)⟩, _, rfl, by show 2 ≤ sizeLine; decide, fun tp htp => ?_⟩
    have A2 : At (upd H1 tp (.tup [V.str "give", v])) (cells K { s with gv := s.gv ++ [v] }) := A1.other (A1.out htp) _
    refine ⟨s.lg, _, _, rfl, rfl, A2.get 7 rfl, hl, ?_⟩
    exact k _ (.ref tp) (A2.put 7 rfl _) ((f1.trans (Fr.new htp)).trans (Fr.upd (by simp [ads])))
def spWant (K : PySem.W.Frag) : Sp := fun vs H Q _ => ∃ (s : S), vs = [.ref s.t, .non] ∧ At H (cells K s) ∧ s.lv.length < sizeLine ∧
  ∀ H' x, At H' (cells K { s with lv := s.lv ++ [x] }) → Fr (ads s) H H' → Q .non H'
theorem ok_Want (T : Tx K mg) : OkF P w K mg base CX0 1 dWant ["self", "place"] (spWant K) := by
  obtain ⟨fd, F⟩ := T.d_Want
  refine ⟨fd, F.ok scWant (fun vs H Q E h => ?_) (fun cdv A outer s H vs Q E hr h => ?_), F.bindsN fun _ _ _ _ _ _ us hl => match us, hl with | [_, _], _ => rfl⟩
  · obtain ⟨s, rfl, _⟩ := h
    rfl
  · obtain ⟨s, rfl, A, hl, k⟩ := h
    refine ⟨_, PSs.nox (pss_cons (ps_fld (pv 0) (pv 1) rfl) (pss_one (ps_expr (pe_bm PySem.F.plainAttrs_list PySem.F.slot_list_append PySem.F.type_list_append mt_append (pe_fld (pv 0) rfl) (pa_cons (pe_tup (pa_cons pe_str (pa_cons (pe_op op_add (pe_fld (pv 0) rfl) pe_int) pa_nil))) pa_nil))))), ?_⟩
    refine ⟨_, rfl, _, rfl, wT T A T.n_Turns_waits s (pT_waits s) rfl fun H1 A1 f1 => ?_⟩
    refine ⟨_, rfl, _, _, _, _, _, rfl, A1.get 2 rfl, T.cl_Turns, T.n_Turns_log, lT_log _, .inl ⟨rfl, _, SqL.of (A1.get 7 rfl)⟩, _, rfl, _, _, _, _, _, rfl, A1.get 2 rfl, T.cl_Turns, T.n_Turns_number, lT_number _, _, _, rfl, rfl, by show 2 ≤ sizeLine; decide, fun tp htp => ?_⟩
    have A2 : At (upd H1 tp (.tup [V.str "want", .int (s.num + 1)])) (cells K s) := A1.other (A1.out htp) _
    refine ⟨s.lg, _, _, rfl, rfl, A2.get 7 rfl, hl, ?_⟩
    exact k _ (.ref tp) (A2.put 7 rfl _) ((f1.trans (Fr.new htp)).trans (Fr.upd (by simp [ads])))
theorem if_true_of {c : Bool} {A B : Prop} (hc : c = true) (h : A) : if c = true then A else B := by
  rw [if_pos hc]
  exact h
theorem if_false_of {c : Bool} {A B : Prop} (hc : c = false) (h : B) : if c = true then A else B := by
  rw [hc, if_neg Bool.false_ne_true]
  exact h
def spEndTurn (K : PySem.W.Frag) : Sp := fun vs H Q _ => ∃ (s : S), vs = [.ref s.t, .bl true] ∧ At H (cells K s) ∧ s.gv.length < sizeLine ∧ s.lv.length + 3 ≤ sizeLine ∧
  ∀ H' lv', lv'.length = s.lv.length + 3 → At H' (cells K { s with gv := s.gv ++ [.str s.hand], lv := lv', hand := "", made := 0 }) → Fr (ads s) H H' → Q .non H'
theorem ok_EndTurn (T : Tx K mg) : OkF P w K mg base CX0 2 dEndTurn ["self", "gives"] (spEndTurn K) := by
  obtain ⟨fd, F⟩ := T.d_EndTurn
  obtain ⟨fd1, G1, b1⟩ := ok_Give (P := P) (w := w) (base := base) T
  obtain ⟨fd2, G2, b2⟩ := ok_LetGo (P := P) (w := w) (base := base) T
  obtain ⟨fd3, G3, b3⟩ := ok_Want (P := P) (w := w) (base := base) T
  refine ⟨fd, F.ok scEndTurn (fun vs H Q E h => ?_) (fun cdv A outer s H vs Q E hr h => ?_), F.bindsN fun _ _ _ _ _ _ us hl => match us, hl with | [_, _], _ => rfl⟩
  · obtain ⟨s, rfl, _⟩ := h
    rfl
  · obtain ⟨s, rfl, A, hg, hl, k⟩ := h
    refine ⟨_, PSs.nox (pss_cons (ps_if (pt_val (pv 1)) (pss_one (ps_expr (pe_meth (pv 0) T.cl_Turns T.m_Turns_give G1 hr b1 .nil pass0 (pa_cons (pe_fld (pe_fld (pv 0) rfl) rfl) pa_nil)))) pss_nil) (pss_cons (ps_expr (pe_bm PySem.F.plainAttrs_list PySem.F.slot_list_append PySem.F.type_list_append mt_append (pe_fld (pv 0) rfl) (pa_cons (pe_tup (pa_cons pe_str pa_nil)) pa_nil))) (pss_cons (ps_expr (pe_meth0 (pe_fld (pv 0) rfl) T.cl_Hands T.m_Hands_let_go G2 hr b2 .nil pass0)) (pss_one (ps_expr (pe_meth (pv 0) T.cl_Turns T.m_Turns_want G3 hr b3 .nil pass0 (pa_cons pe_non pa_nil))))))), ?_⟩
    refine ⟨_, rfl, _, rfl, if_true_of rfl ?_⟩
    refine ⟨_, rfl, _, _, _, rfl, A.get 2 rfl, lT_give _, _, rfl, _, _, _, _, _, rfl, A.get 2 rfl, T.cl_Turns, T.n_Turns_hands, lT_hands _, _, _, _, _, _, rfl, A.get 3 rfl, T.cl_Hands, T.n_Hands_hand, lH_hand _, ?_⟩
    refine ⟨s, _, rfl, A, hg, by omega, fun H1 x1 A1 f1 => ?_⟩
    refine ⟨_, rfl, _, _, _, _, _, rfl, A1.get 2 rfl, T.cl_Turns, T.n_Turns_log, lT_log _, .inl ⟨rfl, _, SqL.of (A1.get 7 rfl)⟩, by show 1 ≤ sizeLine; decide, fun tp htp => ?_⟩
    have A2 := A1.other (A1.out htp) (.tup [V.str "over"])
    refine ⟨s.lg, _, _, rfl, rfl, A2.get 7 rfl, by show (s.lv ++ [x1]).length < sizeLine; rw [List.length_append]; show s.lv.length + 1 < sizeLine; omega, ?_⟩
    have A3 : At (upd (upd H1 tp (.tup [V.str "over"])) s.lg (.lst (s.lv ++ [x1] ++ [.ref tp]))) (cells K { s with gv := s.gv ++ [.str s.hand], lv := s.lv ++ [x1] ++ [.ref tp] }) := A2.put 7 rfl _
    have f3 : Fr (ads s) H1 (upd (upd H1 tp (.tup [V.str "over"])) s.lg (.lst (s.lv ++ [x1] ++ [.ref tp]))) := (Fr.new htp).trans (Fr.upd (by simp [ads]))
    generalize upd (upd H1 tp (.tup [V.str "over"])) s.lg (.lst (s.lv ++ [x1] ++ [.ref tp])) = H3 at A3 f3
    refine ⟨_, rfl, _, _, _, _, _, rfl, A3.get 2 rfl, T.cl_Turns, T.n_Turns_hands, lT_hands _, _, _, _, rfl, A3.get 3 rfl, lH_let_go _, ?_⟩
    refine ⟨stOf A3, rfl, A3, fun H4 A4 f4 => ?_⟩
    have A4 : At H4 (cells K { s with gv := s.gv ++ [.str s.hand], lv := s.lv ++ [x1] ++ [.ref tp], hand := "", made := 0 }) := A4
    refine ⟨_, rfl, _, _, _, rfl, A4.get 2 rfl, lT_want _, ?_⟩
    refine ⟨stOf A4, rfl, A4, by show (s.lv ++ [x1] ++ [V.ref tp]).length < sizeLine; simp only [List.length_append, List.length_singleton]; omega, fun H5 x5 A5 f5 => ?_⟩
    exact k H5 _ (by show (s.lv ++ [x1] ++ [V.ref tp] ++ [x5]).length = _; simp only [List.length_append, List.length_singleton]) A5 (((f1.trans f3).trans f4).trans f5)
def spGoOn (K : PySem.W.Frag) : Sp := fun vs H Q _ => ∃ (s : S), vs = [.ref s.t, .int 0] ∧ At H (cells K s) ∧ s.gv.length < sizeLine ∧ s.lv.length + 3 ≤ sizeLine ∧
  ∀ H' lv', lv'.length = s.lv.length + 3 → At H' (cells K { s with gv := s.gv ++ [.str s.hand], lv := lv', hand := "", made := 0 }) → Fr (ads s) H H' → Q .non H'
theorem ok_GoOn (T : Tx K mg) : OkF P w K mg base CX0 3 dGoOn ["self", "at"] (spGoOn K) := by
  obtain ⟨fd, F⟩ := T.d_GoOn
  obtain ⟨fd1, G1, b1⟩ := ok_EndTurn (P := P) (w := w) (base := base) T
  refine ⟨fd, F.ok scGoOn (fun vs H Q E h => ?_) (fun cdv A outer s H vs Q E hr h => ?_), F.bindsN fun _ _ _ _ _ _ us hl => match us, hl with | [_, _], _ => rfl⟩
  · obtain ⟨s, rfl, _⟩ := h
    rfl
  · obtain ⟨s, rfl, A, hg, hl, k⟩ := h
    refine ⟨_, PSs.nox (pss_one (ps_while PassesOwn.never (pt_cmp (pc_notN (pv 1)))
      (pss_cons (ps_if (pt_cmpR op_eq (pv 1) (pe_callB call_len_seq (by rfl) T.f_len boot_len (pa_cons (pe_fld (pv 0) rfl) pa_nil)) (nomark _))
        (pss_cons (ps_expr (pe_meth (pv 0) T.cl_Turns T.m_Turns_end_turn G1 hr b1 .nil pass0 (pa_cons pe_bl pa_nil))) (pss_one (ps_break))) pss_nil) pss_never))), ?_⟩
    refine ⟨fun _ σ' H' => σ' = _ ∧ H' = H, ⟨0, rfl, rfl⟩, ?_⟩
    rintro m σ' H' ⟨rfl, rfl⟩
    refine ⟨_, rfl, _, rfl, if_true_of rfl ⟨fun _ _ => False, fun _ _ z => z.elim, ?_⟩⟩
    refine ⟨_, rfl, _, rfl, _, _, _, _, _, rfl, A.get 2 rfl, T.cl_Turns, T.n_Turns_lines, lT_lines _, s.ln, [], rfl, .inl (SqL.of (A.get 8 rfl)), rfl, _, rfl, if_true_of (decide_eq_true rfl) ?_⟩
    refine ⟨_, rfl, _, _, _, rfl, A.get 2 rfl, lT_end_turn _, ?_⟩
    exact ⟨s, rfl, A, hg, hl, fun H1 lv1 e1 A1 f1 => k H1 lv1 e1 A1 f1⟩
theorem wTa (A : At H (cells K s)) {f : Str} {v : V} {N : Hp → Prop} (s' : S) (e : putF f v (fT s) = fT s') (ec : (cells K s).set 2 (s.t, .ins (cT K) s.dT (fT s')) = cells K s')
    (q : ∀ H', At H' (cells K s') → Fr (ads s) H H' → N H') : ∃ dx fs, H s.t = some (.ins (cT K) dx fs) ∧ fs.length < 1000 ∧ N (upd H s.t (.ins (cT K) dx (putF f v fs))) := by
  refine ⟨_, _, A.get 2 rfl, by show 10 < 1000; decide, ?_⟩
  rw [e]
  have A1 := A.put 2 rfl (.ins (cT K) s.dT (fT s'))
  rw [ec] at A1
  exact q _ A1 (Fr.upd (by simp [ads]))
def spTnTake (K : PySem.W.Frag) : Sp := fun vs H Q _ => ∃ (s : S) (z : Str) (l bh : V), vs = [.ref s.t, .str z, l, bh] ∧ At H (cells K s) ∧ s.gv.length < sizeLine ∧ s.lv.length + 4 ≤ sizeLine ∧
  ∀ H' lv' tr mt, lv'.length = s.lv.length + 4 → At H' (cells K { s with num := s.num + 1, trV := tr, metV := mt, gv := s.gv ++ [.str z], lv := lv', hand := "", made := 0 }) → Fr (ads s) H H' → Q .non H'
theorem ok_TnTake (T : Tx K mg) : OkF P w K mg base CX0 4 dTnTake ["self", "row", "last", "behind"] (spTnTake K) := by
  obtain ⟨fd, F⟩ := T.d_TnTake
  obtain ⟨fd1, G1, b1⟩ := ok_SpInit (P := P) (w := w) (base := base) T
  obtain ⟨fd2, G2, b2⟩ := ok_Told (P := P) (w := w) (base := base) T
  obtain ⟨fd3, G3, b3⟩ := ok_HdTake (P := P) (w := w) (base := base) T
  obtain ⟨fd4, G4, b4⟩ := ok_GoOn (P := P) (w := w) (base := base) T
  refine ⟨fd, F.ok scTnTake (fun vs H Q E h => ?_) (fun cdv A outer s H vs Q E hr h => ?_), F.bindsN fun _ _ _ _ _ _ us hl => match us, hl with | [_, _, _, _], _ => rfl⟩
  · obtain ⟨s, z, l, bh, rfl, _⟩ := h
    rfl
  · obtain ⟨s, z, l, bh, rfl, A, hg, hl, k⟩ := h
    have hr1 : Room 1 _ := hr.mono (by decide)
    have hr2 : Room 2 _ := hr.mono (by decide)
    refine ⟨_, PSs.nox (pss_cons (ps_fldaug (pv 0) pe_int in_add) (pss_cons (ps_expr (pe_bm PySem.F.plainAttrs_list PySem.F.slot_list_append PySem.F.type_list_append mt_append (pe_fld (pv 0) rfl) (pa_cons (pe_tup (pa_cons pe_str (pa_cons (pe_fld (pv 0) rfl) pa_nil))) pa_nil))) (pss_cons (ps_fld (pv 0) (pe_meth (pe_fld (pv 0) rfl) T.cl_Truths T.m_Truths_told G2 hr1 b2 .nil pass0 (pa_cons (pe_make T.mk_Spot G1 hr2 rfl T.g_Spot b1 .nil pass0 (pa_cons (pe_fld (pv 0) rfl) (pa_cons (pv 1) (pa_cons (pv 2) (pa_cons (pv 3) pa_nil))))) pa_nil)) rfl) (pss_cons (ps_fld (pv 0) pe_dnewK rfl) (pss_one (ps_if (pt_cmp (pc_isN (pe_fld (pv 0) rfl)))
        (pss_cons (ps_expr (pe_meth (pe_fld (pv 0) rfl) T.cl_Hands T.m_Hands_take G3 hr1 b3 .nil pass0 (pa_cons (pv 1) pa_nil))) (pss_one (ps_expr (pe_meth (pv 0) T.cl_Turns T.m_Turns_go_on G4 hr b4 .nil pass0 (pa_cons pe_int pa_nil))))) pss_never)))))), ?_⟩
    -- self.number += 1
    refine ⟨_, rfl, _, _, _, _, _, rfl, A.get 2 rfl, T.cl_Turns, T.n_Turns_number, lT_number _, _, _, rfl, rfl, wTa A { s with num := s.num + 1 } (pT_number s (s.num + 1)) rfl fun H1 A1 f1 => ?_⟩
    -- self.log.append(("take", self.number))
    refine ⟨_, rfl, _, _, _, _, _, rfl, A1.get 2 rfl, T.cl_Turns, T.n_Turns_log, lT_log _, .inl ⟨rfl, _, SqL.of (A1.get 7 rfl)⟩, _, rfl, _, _, _, _, _, rfl, A1.get 2 rfl, T.cl_Turns, T.n_Turns_number, lT_number _, by show 2 ≤ sizeLine; decide, fun tp htp => ?_⟩
    have A2 := A1.other (A1.out htp) (.tup [V.str "take", .int (s.num + 1)])
    refine ⟨s.lg, _, _, rfl, rfl, A2.get 7 rfl, by show s.lv.length < sizeLine; omega, ?_⟩
    have A3 : At (upd (upd H1 tp (.tup [V.str "take", .int (s.num + 1)])) s.lg (.lst (s.lv ++ [.ref tp]))) (cells K { s with num := s.num + 1, lv := s.lv ++ [.ref tp] }) := A2.put 7 rfl _
    have f3 : Fr (ads s) H1 (upd (upd H1 tp (.tup [V.str "take", .int (s.num + 1)])) s.lg (.lst (s.lv ++ [.ref tp]))) := (Fr.new htp).trans (Fr.upd (by simp [ads]))
    generalize upd (upd H1 tp (.tup [V.str "take", .int (s.num + 1)])) s.lg (.lst (s.lv ++ [.ref tp])) = H3 at A3 f3
    -- self.truths = self.flags.told(Spot(..))
    refine ⟨_, rfl, _, _, _, _, _, rfl, A3.get 2 rfl, T.cl_Turns, T.n_Turns_flags, lT_flags _, _, _, _, rfl, A3.get 4 rfl, lF_told _, _, rfl, _, _, _, _, _, rfl, A3.get 2 rfl, T.cl_Turns, T.n_Turns_number, lT_number _, _, rfl, _, rfl, _, rfl, ?_⟩
    intro x dx hx hdx hne
    refine ⟨x, dx, _, _, _, _, rfl, upd_same, fun H4 o4 S4 => ⟨rfl, ?_⟩⟩
    have s4 := made_same hx hdx hne S4
    have A4 := A3.same s4
    refine ⟨stOf A4, _, rfl, A4, fun tr htr => ?_⟩
    have A5 := A4.other (A4.out htr) (.lst [])
    refine ⟨_, rfl, wT T A5 T.n_Turns_truths { s with num := s.num + 1, lv := s.lv ++ [.ref tp], trV := .ref tr } (pT_truths _ _) rfl fun H6 A6 f6 => ?_⟩
    -- self.met = {}
    intro mt hmt
    have A7 := A6.other (A6.out hmt) (.dK [])
    refine ⟨_, rfl, wT T A7 T.n_Turns_met { s with num := s.num + 1, lv := s.lv ++ [.ref tp], trV := .ref tr, metV := .ref mt } (pT_met _ _) rfl fun H8 A8 f8 => ?_⟩
    refine ⟨_, rfl, _, _, _, _, _, rfl, A8.get 2 rfl, T.cl_Turns, T.n_Turns_waits, lT_waits _, _, rfl, if_true_of rfl ?_⟩
    refine ⟨_, rfl, _, _, _, _, _, rfl, A8.get 2 rfl, T.cl_Turns, T.n_Turns_hands, lT_hands _, _, _, _, rfl, A8.get 3 rfl, lH_take _, _, rfl, ?_⟩
    refine ⟨stOf A8, z, rfl, A8, fun H9 A9 f9 => ?_⟩
    have A9 : At H9 (cells K { s with num := s.num + 1, lv := s.lv ++ [.ref tp], trV := .ref tr, metV := .ref mt, hand := z, made := 1 }) := A9
    refine ⟨_, rfl, _, _, _, rfl, A9.get 2 rfl, lT_go_on _, ?_⟩
    refine ⟨stOf A9, rfl, A9, hg, by show (s.lv ++ [V.ref tp]).length + 3 ≤ sizeLine; simp only [List.length_append, List.length_singleton]; omega, fun H10 lv e10 A10 f10 => ?_⟩
    have e11 : lv.length = s.lv.length + 4 := by
      rw [e10]
      show (s.lv ++ [V.ref tp]).length + 3 = _
      simp only [List.length_append, List.length_singleton]
    exact k H10 lv (.ref tr) (.ref mt) e11 A10 ((((((((f1.trans f3).trans (Fr.of_same s4)).trans (Fr.new htr)).trans f6).trans (Fr.new hmt)).trans f8).trans f9).trans f10)
def spTnNone (K : PySem.W.Frag) : Sp := fun vs H Q _ => ∃ (s : S), vs = [.ref s.t] ∧ At H (cells K s) ∧ s.lv.length + 2 ≤ sizeLine ∧
  ∀ H' lv', lv'.length = s.lv.length + 2 → At H' (cells K { s with lv := lv', over := true }) → Fr (ads s) H H' → Q .non H'
theorem ok_TnNone (T : Tx K mg) : OkF P w K mg base CX0 1 dTnNone ["self"] (spTnNone K) := by
  obtain ⟨fd, F⟩ := T.d_TnNone
  refine ⟨fd, F.ok scTnNone (fun vs H Q E h => ?_) (fun cdv A outer s H vs Q E hr h => ?_), F.bindsN fun _ _ _ _ _ _ us hl => match us, hl with | [_], _ => rfl⟩
  · obtain ⟨s, rfl, _⟩ := h
    rfl
  · obtain ⟨s, rfl, A, hl, k⟩ := h
    refine ⟨_, PSs.nox (pss_cons (ps_expr (pe_bm PySem.F.plainAttrs_list PySem.F.slot_list_append PySem.F.type_list_append mt_append (pe_fld (pv 0) rfl) (pa_cons (pe_tup (pa_cons pe_str (pa_cons (pe_op op_add (pe_fld (pv 0) rfl) pe_int) pa_nil))) pa_nil))) (pss_one (ps_if (pt_cmp (pc_notN (pe_fld (pv 0) rfl))) pss_never
        (pss_cons (ps_expr (pe_bm PySem.F.plainAttrs_list PySem.F.slot_list_append PySem.F.type_list_append mt_append (pe_fld (pv 0) rfl) (pa_cons (pe_tup (pa_cons pe_str pa_nil)) pa_nil))) (pss_cons (ps_fld (pv 0) pe_bl rfl) (pss_one (ps_for PassesOwn.never rfl (pi_list (pe_fld (pv 0) rfl)) (pg_name (i := 1) scTnNone.nd rfl (Or.inl rfl)) pss_never))))))), ?_⟩
    refine ⟨_, rfl, _, _, _, _, _, rfl, A.get 2 rfl, T.cl_Turns, T.n_Turns_log, lT_log _, .inl ⟨rfl, _, SqL.of (A.get 7 rfl)⟩, _, rfl, _, _, _, _, _, rfl, A.get 2 rfl, T.cl_Turns, T.n_Turns_number, lT_number _, _, _, rfl, rfl, by show 2 ≤ sizeLine; decide, fun tp htp => ?_⟩
    have A2 := A.other (A.out htp) (.tup [V.str "none", .int (s.num + 1)])
    refine ⟨s.lg, _, _, rfl, rfl, A2.get 7 rfl, by show s.lv.length < sizeLine; omega, ?_⟩
    have A3 : At (upd (upd H tp (.tup [V.str "none", .int (s.num + 1)])) s.lg (.lst (s.lv ++ [.ref tp]))) (cells K { s with lv := s.lv ++ [.ref tp] }) := A2.put 7 rfl _
    have f3 : Fr (ads s) H (upd (upd H tp (.tup [V.str "none", .int (s.num + 1)])) s.lg (.lst (s.lv ++ [.ref tp]))) := (Fr.new htp).trans (Fr.upd (by simp [ads]))
    generalize upd (upd H tp (.tup [V.str "none", .int (s.num + 1)])) s.lg (.lst (s.lv ++ [.ref tp])) = H3 at A3 f3
    refine ⟨_, rfl, _, _, _, _, _, rfl, A3.get 2 rfl, T.cl_Turns, T.n_Turns_waits, lT_waits _, _, rfl, if_false_of rfl ?_⟩
    refine ⟨_, rfl, _, _, _, _, _, rfl, A3.get 2 rfl, T.cl_Turns, T.n_Turns_log, lT_log _, .inl ⟨rfl, _, SqL.of (A3.get 7 rfl)⟩, by show 1 ≤ sizeLine; decide, fun tq htq => ?_⟩
    have A4 := A3.other (A3.out htq) (.tup [V.str "end"])
    refine ⟨s.lg, _, _, rfl, rfl, A4.get 7 rfl, by show (s.lv ++ [V.ref tp]).length < sizeLine; simp only [List.length_append, List.length_singleton]; omega, ?_⟩
    have A5 : At (upd (upd H3 tq (.tup [V.str "end"])) s.lg (.lst (s.lv ++ [.ref tp] ++ [.ref tq]))) (cells K { s with lv := s.lv ++ [.ref tp] ++ [.ref tq] }) := A4.put 7 rfl _
    have f5 : Fr (ads s) H3 (upd (upd H3 tq (.tup [V.str "end"])) s.lg (.lst (s.lv ++ [.ref tp] ++ [.ref tq]))) := (Fr.new htq).trans (Fr.upd (by simp [ads]))
    generalize upd (upd H3 tq (.tup [V.str "end"])) s.lg (.lst (s.lv ++ [.ref tp] ++ [.ref tq])) = H5 at A5 f5
    refine ⟨_, rfl, wT T A5 T.n_Turns_over { s with lv := s.lv ++ [.ref tp] ++ [.ref tq], over := true } (pT_over _ true) rfl fun H6 A6 f6 => ?_⟩
    refine ⟨_, rfl, _, _, _, _, _, rfl, A6.get 2 rfl, T.cl_Turns, T.n_Turns_lines, lT_lines _, s.ln, rfl, ⟨_, SqL.of (A6.get 8 rfl)⟩, ?_⟩
    refine ⟨fun i _ σ' H' => i = 0 ∧ σ' = _ ∧ H' = H6, ⟨0, rfl, rfl, rfl⟩, ?_⟩
    rintro i m σ' H' ⟨rfl, rfl, rfl⟩
    exact .inl ⟨⟨[], SqL.of (A6.get 8 rfl), Nat.le_refl _⟩, k _ _ (by show (s.lv ++ [V.ref tp] ++ [V.ref tq]).length = _; simp only [List.length_append, List.length_singleton]) A6 ((f3.trans f5).trans f6)⟩
end
end Rb
/-! The blade, and read. -/
namespace Rb
open PySem PySem.Spec PyProof.Rows L2
section
variable {P : Program} {w : World} {K : PySem.W.Frag} {mg : Str → Option Value} {base : Heap} {H : Hp} {s : S}
/-! ### read("") -/
def spMarks : Sp := fun vs H Q _ => ∃ (ln : Addr), vs = [.ref ln] ∧ H ln = some (.lst []) ∧ ∀ p, H p = none → Q .non (upd H p (.dK []))
theorem ok_Marks (T : Tx K mg) : OkF P w K mg base CX0 1 dMarks ["lines"] spMarks := by
  obtain ⟨fd, F⟩ := T.d_Marks
  refine ⟨fd, F.ok scMarks (fun vs H Q E h => ?_) (fun cdv A outer s H vs Q E hr h => ?_), F.bindsN fun _ _ _ _ _ _ us hl => match us, hl with | [_], _ => rfl⟩
  · obtain ⟨ln, rfl, _⟩ := h
    rfl
  · obtain ⟨ln, rfl, hln, k⟩ := h
    refine ⟨_, PSs.nox (pss_cons (ps_set (i := 1) scMarks.nd rfl (Or.inl rfl) pe_dnewK) (pss_cons (ps_for PassesOwn.never rfl (pi_enumE (by rfl) T.f_enumerate (by decide) (by decide) (pa_cons (pv 0) pa_nil)) (pg_tup rfl (pgs_cons (pg_name (i := 2) scMarks.nd rfl (Or.inl rfl)) (pgs_cons (pg_name (i := 3) scMarks.nd rfl (Or.inl rfl)) pgs_nil))) pss_never) (pss_one (ps_for PassesOwn.never rfl (pi_enumE (by rfl) T.f_enumerate (by decide) (by decide) (pa_cons (pv 0) pa_nil)) (pg_tup rfl (pgs_cons (pg_name (i := 2) scMarks.nd rfl (Or.inl rfl)) (pgs_cons (pg_name (i := 3) scMarks.nd rfl (Or.inl rfl)) pgs_nil))) pss_never)))), ?_⟩
    intro p hp
    have hln1 : upd H p (.dK []) ln = some (.lst []) := by rw [upd_ne (ne_of_none hln hp)]; exact hln
    refine ⟨_, rfl, ln, rfl, SqL.of hln1, ?_⟩
    refine ⟨fun i _ σ' H' => i = 0 ∧ σ' = _ ∧ H' = upd H p (.dK []), ⟨0, rfl, rfl, rfl⟩, ?_⟩
    rintro i m σ' H' ⟨rfl, rfl, rfl⟩
    refine .inl ⟨⟨rfl, SqL.of hln1⟩, ?_⟩
    refine ⟨_, rfl, ln, rfl, SqL.of hln1, ?_⟩
    refine ⟨fun i _ σ' H' => i = 0 ∧ σ' = _ ∧ H' = upd H p (.dK []), ⟨0, rfl, rfl, rfl⟩, ?_⟩
    rintro i m σ' H' ⟨rfl, rfl, rfl⟩
    exact .inl ⟨⟨rfl, SqL.of hln1⟩, k p hp⟩
theorem split_none : Txt.split "" nl = [("" : Str)] := by decide +kernel
def spRead (K : PySem.W.Frag) : Sp := fun vs H Q _ => vs = [.str ""] ∧ ∀ H' pr dpr ln, H ln = none → (∀ l0, At H l0 → At H' ((pr, oPr K dpr ln) :: (ln, .lst []) :: l0)) → Same H H' → Q (.ref pr) H'
theorem ok_Read (T : Tx K mg) : OkF P w K mg base CX0 3 dRead ["text"] (spRead K) := by
  obtain ⟨fd, F⟩ := T.d_Read
  obtain ⟨fd1, G1, b1⟩ := ok_Marks (P := P) (w := w) (base := base) T
  obtain ⟨fd2, G2, b2⟩ := ok_PrInit (P := P) (w := w) (base := base) T
  obtain ⟨_, F1⟩ := T.d_Marks
  refine ⟨fd, F.ok scRead (fun vs H Q E h => ?_) (fun cdv A outer s H vs Q E hr h => ?_), F.bindsN fun _ _ _ _ _ _ us hl => match us, hl with | [_], _ => rfl⟩
  · obtain ⟨rfl, _⟩ := h
    rfl
  · obtain ⟨rfl, k⟩ := h
    have hr1 : Room 1 _ := hr.mono (by decide)
    refine ⟨_, PSs.nox (pss_cons (ps_set (i := 1) scRead.nd rfl (Or.inl rfl) (pe_split (pv 0) pe_str)) (pss_cons (ps_if (pt_cmpR op_eq (pe_ix ix_list (pv 1) (pe_un un_neg pe_int) (fun _ _ => rfl)) pe_str (nomark _)) (pss_one (ps_expr (pe_bm0 PySem.F.plainAttrs_list PySem.F.slot_list_pop PySem.F.type_list_pop mt_pop (pv 1)))) pss_nil) (pss_cons (ps_set (i := 2) scRead.nd rfl (Or.inl rfl) (pe_lst pa_nil)) (pss_cons (ps_for PassesOwn.never rfl (pi_enumE (by rfl) T.f_enumerate (by decide) (by decide) (pa_cons (pv 1) pa_nil)) (pg_tup rfl (pgs_cons (pg_name (i := 3) scRead.nd rfl (Or.inl rfl)) (pgs_cons (pg_name (i := 4) scRead.nd rfl (Or.inl rfl)) pgs_nil))) pss_never) (pss_cons (ps_expr (pe_call G1 hr1 rfl T.g_look_at_marks F1.kp b1 .nil pass0 (pa_cons (pv 2) pa_nil))) (pss_one (ps_ret (pe_make T.mk_Program G2 hr rfl T.g_Program b2 .nil pass0 (pa_cons (pv 2) pa_nil))))))))), ?_⟩
    -- rows = text.split("\n")
    refine ⟨_, rfl, ⟨_, rfl⟩, _, _, rfl, rfl, by decide +kernel, by decide +kernel, fun p hp => ?_⟩
    rw [split_none]
    refine ⟨_, rfl, _, rfl, p, _, _, V.str "", rfl, rfl, SqL.of upd_same, by rfl, rfl, _, rfl, if_true_of (decide_eq_true rfl) ?_⟩
    refine ⟨_, rfl, .inl ⟨rfl, _, SqL.of upd_same⟩, p, _, _, rfl, rfl, upd_same, rfl, ?_⟩
    rw [upd_upd]
    -- lines = []
    refine ⟨Nat.zero_le _, fun ln hln => ?_⟩
    have np : ln ≠ p := fun e => by rw [e, upd_same] at hln; cases hln
    have hl : H ln = none := by rw [upd_ne np] at hln; exact hln
    have hp2 : (upd (upd H p (.lst [])) ln (.lst [])) p = some (.lst []) := by rw [upd_ne (fun e => np e.symm)]; exact upd_same
    refine ⟨_, rfl, p, rfl, SqL.of hp2, ?_⟩
    refine ⟨fun i _ σ' H' => i = 0 ∧ σ' = _ ∧ H' = upd (upd H p (.lst [])) ln (.lst []), ⟨0, rfl, rfl, rfl⟩, ?_⟩
    rintro i m σ' H' ⟨rfl, rfl, rfl⟩
    refine .inl ⟨⟨rfl, SqL.of hp2⟩, ?_⟩
    -- look_at_marks(lines)
    refine ⟨_, rfl, ln, rfl, upd_same, fun q hq => ?_⟩
    -- Program(lines)
    refine ⟨_, rfl, ?_⟩
    intro x dx hx hdx hne
    refine ⟨x, dx, ln, rfl, upd_same, fun H2 S2 => ⟨rfl, ?_⟩⟩
    refine k H2 x dx ln hl (fun l0 A0 => ?_) ?_
    · have A1 := A0.other (A0.out hp) (.lst [])
      have A2 := A1.new hln (.lst [])
      have A3 := A2.other (A2.out hq) (.dK [])
      exact made_at A3 hx hdx hne S2
    · exact (((Same.new hp).trans (Same.new hln)).trans (Same.new hq)).trans (made_same hx hdx hne S2)
/-! ### ahead, Blade(program) -/
def spAhead (K : PySem.W.Frag) : Sp := fun vs H Q _ => ∃ (pr dpr ln : Addr), vs = [.ref pr] ∧ H pr = some (oPr K dpr ln) ∧ H ln = some (.lst []) ∧ Q (.int 0) H
theorem ok_Ahead (T : Tx K mg) : OkF P w K mg base CX0 1 dAhead ["program"] (spAhead K) := by
  obtain ⟨fd, F⟩ := T.d_Ahead
  refine ⟨fd, F.ok scAhead (fun vs H Q E h => ?_) (fun cdv A outer s H vs Q E hr h => ?_), F.bindsN fun _ _ _ _ _ _ us hl => match us, hl with | [_], _ => rfl⟩
  · obtain ⟨pr, dpr, ln, rfl, _⟩ := h
    rfl
  · obtain ⟨pr, dpr, ln, rfl, hpr, hln, k⟩ := h
    refine ⟨_, PSs.nox (pss_cons (ps_set (i := 1) scAhead.nd rfl (Or.inl rfl) pe_int) (pss_cons (ps_for PassesOwn.never rfl (pi_list (pe_fld (pv 0) rfl)) (pg_name (i := 2) scAhead.nd rfl (Or.inl rfl)) pss_never) (pss_one (ps_ret (pv 1))))), ?_⟩
    refine ⟨_, rfl, pr, _, _, _, _, rfl, hpr, T.cl_Program, T.n_Program_lines, lPr_lines ln, ln, rfl, ⟨_, SqL.of hln⟩, ?_⟩
    refine ⟨fun i _ σ' H' => i = 0 ∧ σ' = _ ∧ H' = H, ⟨0, rfl, rfl, rfl⟩, ?_⟩
    rintro i m σ' H' ⟨rfl, rfl, rfl⟩
    exact .inl ⟨⟨[], SqL.of hln, Nat.le_refl _⟩, _, rfl, k⟩
/-- a new blade -/
structure Fresh (s : S) : Prop where
  rest : s.rest = ""
  gv : s.gv = []
  wv : s.wv = []
  lv : s.lv.length ≤ 1
  closed : s.closed = false
  over : s.over = false
  made : s.made = 0
def spBlInit (K : PySem.W.Frag) : Sp := fun vs H Q _ => ∃ (p dx pr dpr ln : Addr), vs = [.ref p, .ref pr] ∧ H p = some (.ins (cB K) dx []) ∧ H pr = some (oPr K dpr ln) ∧ H ln = some (.lst []) ∧
  ∀ H' (s : S), s.b = p → Fresh s → At H' (cells K s) → Fr [p] H H' → (∀ x ∈ ads s, x = p ∨ x = ln ∨ H x = none) → Q .non H'
theorem eB5 (pc t wl : Addr) : putF "closed" (.bl false) (putF "waiting" (.ref wl) (putF "turns" (.ref t) (putF "pieces" (.ref pc) (putF "sight" (.int 0) [])))) =
    ([("sight", .int 0), ("pieces", .ref pc), ("turns", .ref t), ("waiting", .ref wl), ("closed", .bl false)] : List (Str × V)) := by kernel_rfl
theorem ok_BlInit (T : Tx K mg) : OkF P w K mg base CX0 5 dBlInit ["self", "program"] (spBlInit K) := by
  obtain ⟨fd, F⟩ := T.d_BlInit
  obtain ⟨fd1, G1, b1⟩ := ok_Ahead (P := P) (w := w) (base := base) T
  obtain ⟨fd2, G2, b2⟩ := ok_PcInit (P := P) (w := w) (base := base) T
  obtain ⟨fd3, G3, b3⟩ := ok_TnInit (P := P) (w := w) (base := base) T
  obtain ⟨_, F1⟩ := T.d_Ahead
  refine ⟨fd, F.ok scBlInit (fun vs H Q E h => ?_) (fun cdv A outer s H vs Q E hr h => ?_), F.bindsN fun _ _ _ _ _ _ us hl => match us, hl with | [_, _], _ => rfl⟩
  · obtain ⟨p, dx, pr, dpr, ln, rfl, _⟩ := h
    rfl
  · obtain ⟨p, dx, pr, dpr, ln, rfl, hp, hpr, hln, k⟩ := h
    have hr1 : Room 1 _ := hr.mono (by decide)
    have hr2 : Room 2 _ := hr.mono (by decide)
    refine ⟨_, PSs.nox (pss_cons (ps_fld (pv 0) (pe_call G1 hr1 rfl T.g_ahead F1.kp b1 .nil pass0 (pa_cons (pv 1) pa_nil)) rfl) (pss_cons (ps_fld (pv 0) (pe_make0 T.mk_Pieces G2 hr2 rfl T.g_Pieces b2 .nil pass0) rfl) (pss_cons (ps_fld (pv 0) (pe_make T.mk_Turns G3 hr rfl T.g_Turns b3 .nil pass0 (pa_cons (pv 1) pa_nil)) rfl) (pss_cons (ps_fld (pv 0) (pe_lst pa_nil) rfl) (pss_one (ps_fld (pv 0) pe_bl rfl)))))), ?_⟩
    refine ⟨_, rfl, pr, dpr, ln, rfl, hpr, hln, ?_⟩
    refine ⟨_, rfl, bw (Step.refl H) hp T.cl_Blade T.n_Blade_sight rfl fun H1 S1 => ?_⟩
    intro pc dP hpc hdP hne1
    refine ⟨pc, dP, rfl, upd_same, fun H2 S2 => ⟨rfl, ?_⟩⟩
    refine ⟨_, rfl, bw (S1.made hp hpc hdP hne1 S2) hp T.cl_Blade T.n_Blade_pieces (by kernel_rfl) fun H3 S3 => ?_⟩
    have hpr3 := S3.same hpr (nd_oPr hp hpr)
    have hln3 := S3.same hln (nd_ln hp hln)
    refine ⟨_, rfl, ?_⟩
    intro t dT ht hdT hne2
    have sm := same_made (C := cT K) ht hdT hne2
    refine ⟨t, dT, pr, dpr, ln, rfl, upd_same, sm _ _ hpr3, sm _ _ hln3, fun H4 fl dF cd fg hd dH sh to no tr mt g tp lg S4 => ⟨rfl, ?_⟩⟩
    refine ⟨_, rfl, bw (S3.made hp ht hdT hne2 S4) hp T.cl_Blade T.n_Blade_turns (by kernel_rfl) fun H5 S5 => ?_⟩
    refine ⟨Nat.zero_le _, fun wl hwl => ?_⟩
    refine ⟨_, rfl, bw (S5.new hp hwl _) hp T.cl_Blade T.n_Blade_waiting (by kernel_rfl) fun H6 S6 => ?_⟩
    refine ⟨_, rfl, bw S6 hp T.cl_Blade T.n_Blade_closed (by kernel_rfl) fun H7 S7 => ?_⟩
    have S8 := S7.to (o2 := .ins (cB K) dx [("sight", .int 0), ("pieces", .ref pc), ("turns", .ref t), ("waiting", .ref wl), ("closed", .bl false)]) (by rw [eB5])
    have A0 : At H [(p, .ins (cB K) dx []), (ln, .lst [])] := ⟨by simp [(nd_ln hp hln).symm], fun q hq => by
      have e : q = (p, .ins (cB K) dx []) ∨ q = (ln, .lst []) := by simpa using hq
      rcases e with e | e
      · rw [e]; exact hp
      · rw [e]; exact hln⟩
    have A8 := S8.at_ [(ln, .lst [])] A0
    refine k H7 { b := p, pc := pc, t := t, hd := hd, fl := fl, dB := dx, dP := dP, dT := dT, dH := dH, dF := dF, w := wl, g := g, lg := lg, ln := ln, cd := cd, no := no, sh := sh, to := to, rest := "", hand := "", made := 0, num := 0, over := false, closed := false, wv := [], gv := [], lv := [.ref tp], trV := .ref tr, metV := .ref mt, flgV := .ref fg } rfl
      ⟨rfl, rfl, rfl, Nat.le_refl _, rfl, rfl, rfl⟩ (A8.pick [0, 15, 2, 8, 12, 1, 5, 3, 16, 14, 9, 11, 10] (by decide) rfl) S8.fr ?_
    have fr : ∀ x, x ∈ ([wl, t, lg, g, hd, no, to, sh, fl, cd, pc] : List Addr) → H x = none := fun x hx => by
      simp only [List.mem_cons, List.not_mem_nil, or_false] at hx
      rcases hx with h | h | h | h | h | h | h | h | h | h | h <;> subst h
      · exact S8.free (_, .lst []) (by simp)
      · exact S8.free (_, .ins (cT K) dT _) (List.mem_cons_of_mem _ List.mem_cons_self)
      · exact S8.free (_, .lst [.ref tp]) (by simp)
      · exact S8.free (_, .lst []) (by simp)
      · exact S8.free (_, .ins (cH K) dH [("hand", .str ""), ("made", .int 0), ("shelves", .ref sh), ("totals", .ref to), ("noted", .ref no)]) (by simp)
      · exact S8.free (_, .lst []) (by simp)
      · exact S8.free (_, .dK []) (by simp)
      · exact S8.free (_, .dK []) (by simp)
      · exact S8.free (_, .ins (cF K) dF [("conds", .ref cd), ("flags", .ref fg)]) (by simp)
      · exact S8.free (_, .lst []) (by simp)
      · exact S8.free (_, .ins (cP K) dP [("rest", .str "")]) (by simp)
    intro x hx
    have hx' : x = p ∨ x = pc ∨ x = t ∨ x = hd ∨ x = fl ∨ x = wl ∨ x = g ∨ x = lg ∨ x = ln ∨ x = cd ∨ x = no ∨ x = sh ∨ x = to := by simpa [ads] using hx
    rcases hx' with h | h | h | h | h | h | h | h | h | h | h | h | h <;> first | exact .inl h | exact .inr (.inl h) | (refine .inr (.inr (fr x ?_)); rw [h]; simp)
end
end Rb
/-! The blade's methods. -/
namespace Rb
open PySem PySem.Spec PyProof.Rows L2
section
variable {P : Program} {w : World} {K : PySem.W.Frag} {mg : Str → Option Value} {base : Heap} {H : Hp} {s : S}
/-- the class's facts for its raise -/
abbrev fin_raise {X : Cx} {x : Str} (h : x = x) : Prop := True
def spNeedOpen (K : PySem.W.Frag) : Sp := fun vs H Q E => ∃ (s : S), vs = [.ref s.b] ∧ At H (cells K s) ∧ (s.closed = false → Q .non H) ∧ (s.closed = true → E (.ref (cFin K)) none H)
theorem ok_NeedOpen (T : Tx K mg) : OkF P w K mg base (L2.CX P w) 1 dNeedOpen ["self"] (spNeedOpen K) := by
  obtain ⟨fd, F⟩ := T.d_NeedOpen
  obtain ⟨x1, x2, x3, x4⟩ := T.x_Finished
  refine ⟨fd, F.ok scNeedOpen (fun vs H Q E h => ?_) (fun cdv A outer s H vs Q E hr h => ?_), F.bindsN fun _ _ _ _ _ _ us hl => match us, hl with | [_], _ => rfl⟩
  · obtain ⟨s, rfl, _⟩ := h
    rfl
  · obtain ⟨s, rfl, A, k1, k2⟩ := h
    refine ⟨_, pss_one (ps_if (pt_val (pe_fld (pv 0) rfl)) (pss_one (ps_raise rfl (takes_of rfl rfl rfl rfl) (pmk_own PySem.F.excBase_ValueError x1 T.g_Finished x2 (raises_own x3 x4) (by exact rfl)))) pss_nil), ?_⟩
    refine ⟨_, rfl, _, _, _, _, _, rfl, A.get 0 rfl, T.cl_Blade, T.n_Blade_closed, lB_closed _, _, rfl, ?_⟩
    cases hc : s.closed with
    | true => exact if_true_of rfl (k2 hc)
    | false => exact if_false_of rfl (k1 hc)
def spTakeFirst (K : PySem.W.Frag) : Sp := fun vs H Q _ => ∃ (s : S) (z : Str) (l : V), vs = [.ref s.b, l] ∧ At H (cells K s) ∧ s.wv = [.str z] ∧ s.gv.length < sizeLine ∧ s.lv.length + 4 ≤ sizeLine ∧
  ∀ H' lv' tr mt, lv'.length = s.lv.length + 4 → At H' (cells K { s with wv := [], num := s.num + 1, trV := tr, metV := mt, gv := s.gv ++ [.str z], lv := lv', hand := "", made := 0 }) → Fr (ads s) H H' → Q .non H'
theorem ok_TakeFirst (T : Tx K mg) : OkF P w K mg base CX0 5 dTakeFirst ["self", "last"] (spTakeFirst K) := by
  obtain ⟨fd, F⟩ := T.d_TakeFirst
  obtain ⟨fd1, G1, b1⟩ := ok_TnTake (P := P) (w := w) (base := base) T
  obtain ⟨tk, iM⟩ := T.i_MOST_BEHIND
  refine ⟨fd, F.ok scTakeFirst (fun vs H Q E h => ?_) (fun cdv A outer s H vs Q E hr h => ?_), F.bindsN fun _ _ _ _ _ _ us hl => match us, hl with | [_, _], _ => rfl⟩
  · obtain ⟨s, z, l, rfl, _⟩ := h
    rfl
  · obtain ⟨s, z, l, rfl, A, hw, hg, hl, k⟩ := h
    refine ⟨_, PSs.nox (pss_cons (ps_set (i := 2) scTakeFirst.nd rfl (Or.inl rfl) (pe_bm PySem.F.plainAttrs_list PySem.F.slot_list_pop PySem.F.type_list_pop mt_popAt (pe_fld (pv 0) rfl) (pa_cons pe_int pa_nil))) (pss_one (ps_expr (pe_meth (pe_fld (pv 0) rfl) T.cl_Turns T.m_Turns_take G1 hr b1 .nil pass0 (pa_cons (pv 2) (pa_cons (pv 1) (pa_cons (pe_slice sl_list (pe_fld (pv 0) rfl) po_none (po_some (pe_glob (v := .int 3) rfl iM ⟨_, rfl⟩))) pa_nil))))))), ?_⟩
    refine ⟨_, rfl, _, _, _, _, _, rfl, A.get 0 rfl, T.cl_Blade, T.n_Blade_waiting, lB_waiting _, .inl ⟨rfl, _, SqL.of (A.get 5 rfl)⟩, s.w, s.wv, 0, 0, .str z, rfl, rfl, A.get 5 rfl, by decide, by decide, by rw [hw]; rfl, by rw [hw]; rfl, ?_⟩
    have A1 : At (upd H s.w (.lst (s.wv.eraseIdx 0))) (cells K { s with wv := [] }) := by
      rw [hw]
      exact A.put 5 rfl _
    have f1 : Fr (ads s) H (upd H s.w (.lst (s.wv.eraseIdx 0))) := Fr.upd (by simp [ads])
    generalize upd H s.w (.lst (s.wv.eraseIdx 0)) = H1 at A1 f1
    refine ⟨_, rfl, _, _, _, _, _, rfl, A1.get 0 rfl, T.cl_Blade, T.n_Blade_turns, lB_turns _, _, _, _, rfl, A1.get 2 rfl, lT_take _, _, rfl, _, rfl, _, rfl, _, _, _, _, _, rfl, A1.get 0 rfl, T.cl_Blade, T.n_Blade_waiting, lB_waiting _, 3, rfl, s.w, _, rfl, SqL.of (A1.get 5 rfl), fun p hp => ?_⟩
    have A2 := A1.other (A1.out hp) (.lst (cutV ([] : List V) none (some 3)))
    exact ⟨stOf A2, z, l, _, rfl, A2, hg, hl, fun H3 lv tr mt e A3 f3 => k H3 lv tr mt e A3 ((f1.trans (Fr.new hp)).trans f3)⟩
/-- what is new behind: its addresses are old cells or were free -/
def spRowsGiven (K : PySem.W.Frag) : Sp := fun vs H Q _ => ∃ (s : S), vs = [.ref s.b] ∧ At H (cells K s) ∧
  ∀ H' g' lg', H g' = none → H lg' = none → At H' ((s.g, .lst s.gv) :: cells K { s with g := g', gv := [], lg := lg', lv := [] }) → Fr (ads s) H H' → Q (.ref s.g) H'
theorem ok_RowsGiven (T : Tx K mg) : OkF P w K mg base CX0 1 dRowsGiven ["self"] (spRowsGiven K) := by
  obtain ⟨fd, F⟩ := T.d_RowsGiven
  refine ⟨fd, F.ok scRowsGiven (fun vs H Q E h => ?_) (fun cdv A outer s H vs Q E hr h => ?_), F.bindsN fun _ _ _ _ _ _ us hl => match us, hl with | [_], _ => rfl⟩
  · obtain ⟨s, rfl, _⟩ := h
    rfl
  · obtain ⟨s, rfl, A, k⟩ := h
    refine ⟨_, PSs.nox (pss_cons (ps_set (i := 1) scRowsGiven.nd rfl (Or.inl rfl) (pe_fld (pv 0) rfl)) (pss_cons (ps_set (i := 2) scRowsGiven.nd rfl (Or.inl rfl) (pe_fld (pv 1) rfl)) (pss_cons (ps_fld (pv 1) (pe_lst pa_nil) rfl) (pss_cons (ps_fld (pv 1) (pe_lst pa_nil) rfl) (pss_one (ps_ret (pv 2))))))), ?_⟩
    refine ⟨_, rfl, _, _, _, _, _, rfl, A.get 0 rfl, T.cl_Blade, T.n_Blade_turns, lB_turns _, ?_⟩
    refine ⟨_, rfl, _, _, _, _, _, rfl, A.get 2 rfl, T.cl_Turns, T.n_Turns_given, lT_given _, ?_⟩
    -- turns.given = []
    refine ⟨Nat.zero_le _, fun g' hg' => ?_⟩
    have A1 := A.new hg' (.lst [])
    refine ⟨_, rfl, s.t, cT K, s.dT, fT s, rfl, A1.get 3 rfl, T.cl_Turns, T.n_Turns_given, by show 10 < 1000; decide, ?_⟩
    rw [pT_given]
    have A2 := A1.put 3 rfl (.ins (cT K) s.dT (fT { s with g := g' }))
    have f2 : Fr (ads s) H (upd (upd H g' (.lst [])) s.t (.ins (cT K) s.dT (fT { s with g := g' }))) := (Fr.new hg').trans (Fr.upd (by simp [ads]))
    generalize upd (upd H g' (.lst [])) s.t (.ins (cT K) s.dT (fT { s with g := g' })) = H2 at A2 f2
    -- turns.log = []
    refine ⟨Nat.zero_le _, fun lg' hlg' => ?_⟩
    have A3 := A2.new hlg' (.lst [])
    refine ⟨_, rfl, s.t, cT K, s.dT, fT { s with g := g' }, rfl, A3.get 4 rfl, T.cl_Turns, T.n_Turns_log, by show 10 < 1000; decide, ?_⟩
    rw [pT_log]
    have A4 := A3.put 4 rfl (.ins (cT K) s.dT (fT { s with g := g', lg := lg' }))
    have f4 : Fr (ads s) H2 (upd (upd H2 lg' (.lst [])) s.t (.ins (cT K) s.dT (fT { s with g := g', lg := lg' }))) := (Fr.new hlg').trans (Fr.upd (by simp [ads]))
    have hl0 : H lg' = none := by
      cases e : H lg' with
      | none => rfl
      | some o =>
        exfalso
        by_cases hm : lg' ∈ ads s
        · have hm' : lg' ∈ ((((g', HO.lst []) :: cells K s).set 3 (s.t, .ins (cT K) s.dT (fT { s with g := g' }))).map Prod.fst) := List.mem_cons_of_mem _ hm
          exact A2.out hlg' hm'
        · rw [f2 lg' o e hm] at hlg'
          cases hlg'
    refine ⟨_, rfl, k _ g' lg' hg' hl0 ?_ (f2.trans f4)⟩
    exact A4.pick [8, 2, 3, 4, 5, 6, 7, 1, 0, 10, 11, 12, 13, 14] (by decide) rfl
end
end Rb
/-! feed, finish, boxes, faults, kept. -/
namespace Rb
open PySem PySem.Spec PyProof.Rows L2
section
variable {P : Program} {w : World} {K : PySem.W.Frag} {mg : Str → Option Value} {base : Heap} {H : Hp} {s : S}
/-- between two calls -/
structure Rest (s : S) : Prop where
  gv : s.gv = []
  wv : s.wv = []
  made : s.made = 0
  over : s.over = false
theorem free_back {H1 : Hp} {si : S} {x : Addr} (f : Fr (ads s) H H1) (A : At H1 (cells K si)) (e : ads si = ads s) (h : H1 x = none) : H x = none := by
  cases q : H x with
  | none => rfl
  | some o =>
    exfalso
    by_cases hm : x ∈ ads s
    · exact A.out h (show x ∈ ads si by rw [e]; exact hm)
    · rw [f x o q hm] at h
      cases h
theorem take_more {α : Type} : ∀ {l : List α} {i : Nat} {x : α}, l[i]? = some x → l.take (i + 1) = l.take i ++ [x]
  | [], i, x, h => by simp at h
  | a :: l, 0, x, h => by
    have e : a = x := Option.some.inj h
    subst e
    rfl
  | a :: l, i + 1, x, h => by
    have ih := take_more (l := l) (i := i) (x := x) h
    show a :: l.take (i + 1) = a :: l.take i ++ [x]
    rw [ih]
    rfl
theorem str_of {rows : List Str} {i : Nat} {y : V} (hi : (rows.map V.str)[i]? = some y) : ∃ z, rows[i]? = some z ∧ y = V.str z := by
  rw [List.getElem?_map] at hi
  cases e : rows[i]? with
  | none =>
    rw [e] at hi
    cases hi
  | some z =>
    rw [e] at hi
    exact ⟨z, rfl, (Option.some.inj hi).symm⟩
/-- the addresses behind a call: old ones, or new -/
theorem ads_new {H1 : Hp} {si s' : S} {g' lg' : Addr} (f : Fr (ads s) H H1) (A : At H1 (cells K si)) (e : ads si = ads s) (hg : H1 g' = none) (hl : H1 lg' = none)
    (e' : ads s' = [si.b, si.pc, si.t, si.hd, si.fl, si.w, g', lg', si.ln, si.cd, si.no, si.sh, si.to]) : ∀ x ∈ ads s', x ∈ ads s ∨ H x = none := fun x hx => by
  rw [e'] at hx
  have hx' : x = si.b ∨ x = si.pc ∨ x = si.t ∨ x = si.hd ∨ x = si.fl ∨ x = si.w ∨ x = g' ∨ x = lg' ∨ x = si.ln ∨ x = si.cd ∨ x = si.no ∨ x = si.sh ∨ x = si.to := by simpa using hx
  rw [← e]
  rcases hx' with h | h | h | h | h | h | h | h | h | h | h | h | h
  case inr.inr.inr.inr.inr.inr.inl => rw [h]; exact .inr (free_back f A e hg)
  case inr.inr.inr.inr.inr.inr.inr.inl => rw [h]; exact .inr (free_back f A e hl)
  all_goals exact .inl (by rw [h]; simp [ads])
def spFeed (K : PySem.W.Frag) : Sp := fun vs H Q E => ∃ (s : S) (z : Str), vs = [.ref s.b, .str z] ∧ At H (cells K s) ∧ (s.closed = true → E (.ref (cFin K)) none H) ∧
  (s.closed = false → ∃ (left : Str) (rows : List Str), Txt.split (s.rest ++ z) nl = rows ++ [left] ∧ Rest s ∧ s.rest.length + z.length + 2 ≤ sizeLine ∧ s.lv.length + 4 * rows.length + 4 ≤ sizeLine ∧
    ∀ H' s', Rest s' → s'.rest = left → s'.closed = false → s'.lv = [] → s'.b = s.b → At H' ((s.g, .lst (rows.map V.str)) :: cells K s') → Fr (ads s) H H' → (∀ x ∈ ads s', x ∈ ads s ∨ H x = none) → Q (.ref s.g) H')
theorem ok_Feed (T : Tx K mg) : OkF P w K mg base (L2.CX P w) 6 dFeed ["self", "piece"] (spFeed K) := by
  obtain ⟨fd, F⟩ := T.d_Feed
  obtain ⟨fd1, G1, b1⟩ := ok_NeedOpen (P := P) (w := w) (base := base) T
  obtain ⟨fd2, G2, b2⟩ := ok_Whole (P := P) (w := w) (base := base) T
  obtain ⟨fd3, G3, b3⟩ := ok_TakeFirst (P := P) (w := w) (base := base) T
  obtain ⟨fd4, G4, b4⟩ := ok_RowsGiven (P := P) (w := w) (base := base) T
  refine ⟨fd, F.ok scFeed (fun vs H Q E h => ?_) (fun cdv A outer s H vs Q E hr h => ?_), F.bindsN fun _ _ _ _ _ _ us hl => match us, hl with | [_, _], _ => rfl⟩
  · obtain ⟨s, z, rfl, _⟩ := h
    rfl
  · obtain ⟨s, z, rfl, A, k1, k2⟩ := h
    have hr1 : Room 1 _ := hr.mono (by decide)
    refine ⟨_, pss_cons (ps_expr (pe_meth0 (pv 0) T.cl_Blade T.m_Blade_need_open G1 hr1 b1 .nil (passes_call (takes_of rfl rfl rfl rfl) (fun _ _ _ _ h => h)))) (PSs.nox
      (pss_cons (ps_for PassesOwn.never rfl (pi_list (pe_meth (pe_fld (pv 0) rfl) T.cl_Pieces T.m_Pieces_whole_rows G2 hr1 b2 .nil pass0 (pa_cons (pv 1) pa_nil))) (pg_name (i := 2) scFeed.nd rfl (Or.inl rfl))
          (pss_cons (ps_expr (pe_bm PySem.F.plainAttrs_list PySem.F.slot_list_append PySem.F.type_list_append mt_append (pe_fld (pv 0) rfl) (pa_cons (pv 2) pa_nil))) (pss_one (ps_if (pt_cmpR op_gt (pe_callB call_len_seq (by rfl) T.f_len boot_len (pa_cons (pe_fld (pv 0) rfl) pa_nil)) (pe_fld (pv 0) rfl) (nomark _))
              (pss_one (ps_expr (pe_meth (pv 0) T.cl_Blade T.m_Blade_take_first G3 hr b3 .nil pass0 (pa_cons pe_bl pa_nil)))) pss_nil)))) (pss_one (ps_ret (pe_meth0 (pv 0) T.cl_Blade T.m_Blade_rows_given G4 hr1 b4 .nil pass0))))), ?_⟩
    refine ⟨_, rfl, _, _, _, rfl, A.get 0 rfl, lB_need_open _, s, rfl, A, fun hc => ?_, k1⟩
    obtain ⟨left, rows, hcut, R, hz, hlv, k⟩ := k2 hc
    refine ⟨_, rfl, _, _, _, _, _, rfl, A.get 0 rfl, T.cl_Blade, T.n_Blade_pieces, lB_pieces _, _, _, _, rfl, A.get 1 rfl, lP_whole_rows _, _, rfl, ?_⟩
    refine ⟨s, z, left, rows, rfl, A, hcut, hz, fun p H1 hp hp1 A1 f1 => ?_⟩
    have np : p ∉ ads s := fun hm => A.out hp hm
    refine ⟨p, rfl, ⟨_, SqL.of hp1⟩, for_list (K := K) (a := p) (xs := rows.map V.str) (fun i σ H' => ∃ (v : Option V) (num : Int) (tr mt : V) (lv : List V) (hand : Str), σ = [some (.ref s.b), some (.str z), v] ∧
      At H' (cells K { s with rest := left, num := num, trV := tr, metV := mt, gv := (rows.take i).map V.str, lv := lv, hand := hand, made := 0, wv := [] }) ∧ H' p = some (.lst (rows.map V.str)) ∧ Fr (ads s) H H' ∧ lv.length ≤ s.lv.length + 4 * i)
      ⟨none, s.num, s.trV, s.metV, s.lv, s.hand, rfl, ?_, hp1, f1, Nat.le_add_right _ _⟩ (fun i σ H' _ ⟨_, _, _, _, _, _, _, _, h, _⟩ => SqL.of h) ?_ ?_⟩
    · have e : ({ s with rest := left, num := s.num, trV := s.trV, metV := s.metV, gv := (rows.take 0).map V.str, lv := s.lv, hand := s.hand, made := 0, wv := [] } : S) = { s with rest := left } := by
        rw [← R.made, ← R.wv]
        show _ = ({ s with rest := left, gv := s.gv } : S)
        rw [R.gv]
        rfl
      rw [e]
      exact A1
    · rintro i y σ H2 hi ⟨v, num, tr, mt, lv, hand, rfl, A2, hp2, f2, hl2⟩
      obtain ⟨r, hr', rfl⟩ := str_of hi
      have hilt : i < rows.length := (List.getElem?_eq_some_iff.mp hr').1
      -- self.waiting.append(row)
      refine ⟨_, rfl, _, _, _, _, _, rfl, A2.get 0 rfl, T.cl_Blade, T.n_Blade_waiting, lB_waiting _, .inl ⟨rfl, _, SqL.of (A2.get 5 rfl)⟩, _, rfl, s.w, _, _, rfl, rfl, A2.get 5 rfl, by show 0 < sizeLine; decide, ?_⟩
      have A3 : At (upd H2 s.w (.lst ([] ++ [V.str r]))) (cells K { s with rest := left, num := num, trV := tr, metV := mt, gv := (rows.take i).map V.str, lv := lv, hand := hand, made := 0, wv := [.str r] }) := A2.put 5 rfl _
      have f3 : Fr (ads s) H2 (upd H2 s.w (.lst ([] ++ [V.str r]))) := Fr.upd (by simp [ads])
      generalize upd H2 s.w (.lst ([] ++ [V.str r])) = H3 at A3 f3
      refine ⟨_, rfl, _, _, _, _, _, rfl, A3.get 0 rfl, T.cl_Blade, T.n_Blade_waiting, lB_waiting _, s.w, _, rfl, .inl (SqL.of (A3.get 5 rfl)), _, rfl, _, _, _, _, _, rfl, A3.get 0 rfl, T.cl_Blade, T.n_Blade_sight, lB_sight _, _, _, rfl, rfl, _, rfl, if_true_of (decide_eq_true (by show (0 : Int) < ((1 : Nat) : Int); decide)) ?_⟩
      refine ⟨_, rfl, _, _, _, rfl, A3.get 0 rfl, lB_take_first _, ?_⟩
      refine ⟨stOf A3, r, .bl false, rfl, A3, rfl, ?_, ?_, fun H4 lv' tr' mt' e4 A4 f4 => ?_⟩
      · show ((rows.take i).map V.str).length < sizeLine
        rw [List.length_map, List.length_take]
        omega
      · show lv.length + 4 ≤ sizeLine
        omega
      · have e4' : lv'.length = lv.length + 4 := e4
        refine ⟨some (.str r), num + 1, tr', mt', lv', "", rfl, ?_, f4 p _ (f3 p _ hp2 np) np, (f2.trans f3).trans f4, by omega⟩
        have et : (rows.take (i + 1)).map V.str = (rows.take i).map V.str ++ [.str r] := by
          rw [take_more hr', List.map_append]
          rfl
        rw [et]
        exact A4
    · rintro σ H2 ⟨v, num, tr, mt, lv, hand, rfl, A2, hp2, f2, hl2⟩
      rw [List.length_map, List.take_length] at A2
      refine ⟨_, rfl, _, _, _, rfl, A2.get 0 rfl, lB_rows_given _, ?_⟩
      refine ⟨stOf A2, rfl, A2, fun H3 g' lg' hg' hlg' A3 f3 => ?_⟩
      exact k H3 { s with rest := left, num := num, trV := tr, metV := mt, gv := [], lv := [], hand := hand, made := 0, wv := [], g := g', lg := lg' } ⟨rfl, rfl, rfl, R.over⟩ rfl hc rfl rfl A3 (f2.trans f3) (ads_new f2 A2 rfl hg' hlg' rfl)
theorem last_le (r : Str) : (lastOf r).length ≤ 1 := by
  unfold lastOf
  split
  · exact Nat.zero_le _
  · exact Nat.le_refl _
theorem dp_strs {a : Addr} {K : PySem.W.Frag} {H : Hp} : ∀ (rs : List Str), DpAll K H (rs.map V.str) (rs.map PyData.str)
  | [] => .nil
  | r :: rs => .cons (.str r) (dp_strs (a := a) rs)
theorem canLay_strs : ∀ (rs : List Str), (∀ r ∈ rs, PyData.strOk r = true) → PyData.canLayAll0 (rs.map PyData.str) = true
  | [], _ => rfl
  | r :: rs, h => by
    show (PyData.canLay0 (.str r) && PyData.canLayAll0 (rs.map PyData.str)) = true
    rw [canLay_strs rs fun x hx => h x (List.mem_cons_of_mem _ hx), Bool.and_true]
    exact h r List.mem_cons_self
theorem depth_strs : ∀ (rs : List Str), PyData.depthAll (rs.map PyData.str) = 0
  | [] => rfl
  | r :: rs => by
    show max (PyData.depth (.str r)) (PyData.depthAll (rs.map PyData.str)) = 0
    rw [depth_strs rs]
    rfl
theorem shaped_strs (rs : List Str) (h : ∀ r ∈ rs, PyData.strOk r = true) : SeqAt.shaped (.list (rs.map PyData.str)) = true := by
  show (PyData.canLayAll0 (rs.map PyData.str) && decide (PyData.depthAll (rs.map PyData.str) + 1 ≤ 64)) = true
  rw [canLay_strs rs h, depth_strs rs]
  rfl
def spFinish (K : PySem.W.Frag) : Sp := fun vs H Q E => ∃ (s : S), vs = [.ref s.b] ∧ At H (cells K s) ∧ (s.closed = true → E (.ref (cFin K)) none H) ∧
  (s.closed = false → Rest s ∧ PyData.strOk s.rest = true ∧ s.lv.length + 10 ≤ sizeLine ∧
    ∀ H' s', s'.closed = true → s'.b = s.b → At H' ((s.g, .lst ((lastOf s.rest).map V.str)) :: cells K s') → Fr (ads s) H H' → (∀ x ∈ ads s', x ∈ ads s ∨ H x = none) → Q (.ref s.g) H')
theorem ok_Finish (T : Tx K mg) : OkF P w K mg base (L2.CX P w) 6 dFinish ["self"] (spFinish K) := by
  obtain ⟨fd, F⟩ := T.d_Finish
  obtain ⟨fd1, G1, b1⟩ := ok_NeedOpen (P := P) (w := w) (base := base) T
  obtain ⟨fd2, G2, b2⟩ := ok_LastR (P := P) (w := w) (base := base) T
  obtain ⟨fd3, G3, b3⟩ := ok_TakeFirst (P := P) (w := w) (base := base) T
  obtain ⟨fd4, G4, b4⟩ := ok_TnNone (P := P) (w := w) (base := base) T
  obtain ⟨fd5, G5, b5⟩ := ok_RowsGiven (P := P) (w := w) (base := base) T
  refine ⟨fd, F.ok scFinish (fun vs H Q E h => ?_) (fun cdv A outer s H vs Q E hr h => ?_), F.bindsN fun _ _ _ _ _ _ us hl => match us, hl with | [_], _ => rfl⟩
  · obtain ⟨s, rfl, _⟩ := h
    rfl
  · obtain ⟨s, rfl, A, k1, k2⟩ := h
    have hr1 : Room 1 _ := hr.mono (by decide)
    refine ⟨_, pss_cons (ps_expr (pe_meth0 (pv 0) T.cl_Blade T.m_Blade_need_open G1 hr1 b1 .nil (passes_call (takes_of rfl rfl rfl rfl) (fun _ _ _ _ h => h)))) (PSs.nox
      (pss_cons (ps_fld (pv 0) pe_bl rfl) (pss_cons (ps_expr (pe_bm PySem.F.plainAttrs_list PySem.F.slot_list_extend PySem.F.type_list_extend mt_extend (pe_fld (pv 0) rfl) (pa_cons (pe_meth0 (pe_fld (pv 0) rfl) T.cl_Pieces T.m_Pieces_last_rows G2 hr1 b2 .nil pass0) pa_nil))) (pss_cons (ps_while PassesOwn.never (pt_cmpR (op_neD hr.units) (pe_fld (pv 0) rfl) (pe_lst pa_nil) (nomark _))
          (pss_one (ps_expr (pe_meth (pv 0) T.cl_Blade T.m_Blade_take_first G3 hr b3 .nil pass0 (pa_cons (pe_cmpR op_eq (pe_callB call_len_seq (by rfl) T.f_len boot_len (pa_cons (pe_fld (pv 0) rfl) pa_nil)) pe_int (nomark _)) pa_nil))))) (pss_cons (ps_while PassesOwn.never (pt_not (pt_val (pe_fld (pe_fld (pv 0) rfl) rfl))) (pss_one (ps_expr (pe_meth0 (pe_fld (pv 0) rfl) T.cl_Turns T.m_Turns_none G4 hr1 b4 .nil pass0)))) (pss_one (ps_ret (pe_meth0 (pv 0) T.cl_Blade T.m_Blade_rows_given G5 hr1 b5 .nil pass0)))))))), ?_⟩
    refine ⟨_, rfl, _, _, _, rfl, A.get 0 rfl, lB_need_open _, s, rfl, A, fun hc => ?_, k1⟩
    obtain ⟨R, hok, hlv, k⟩ := k2 hc
    -- self.closed = True
    refine ⟨_, rfl, wB T A T.n_Blade_closed { s with closed := true } (pB_closed s true) rfl fun H1 A1 f1 => ?_⟩
    -- self.waiting.extend(self.pieces.last_rows())
    refine ⟨_, rfl, _, _, _, _, _, rfl, A1.get 0 rfl, T.cl_Blade, T.n_Blade_waiting, lB_waiting _, .inl ⟨rfl, _, SqL.of (A1.get 5 rfl)⟩, _, rfl, _, _, _, _, _, rfl, A1.get 0 rfl, T.cl_Blade, T.n_Blade_pieces, lB_pieces _, _, _, _, rfl, A1.get 1 rfl, lP_last_rows _, ?_⟩
    refine ⟨stOf A1, rfl, A1, fun p H2 hp hp2 A2 f2 => ?_⟩
    have A2 : At H2 (cells K { s with closed := true, rest := "" }) := A2
    have hp2 : H2 p = some (.lst ((lastOf s.rest).map V.str)) := hp2
    refine ⟨s.w, p, s.wv, _, rfl, rfl, A2.get 5 rfl, hp2, ?_, ?_⟩
    · rw [R.wv, List.length_map]
      have := last_le s.rest
      show 0 + _ ≤ sizeLine
      omega
    have A3 : At (upd H2 s.w (.lst (s.wv ++ (lastOf s.rest).map V.str))) (cells K { s with closed := true, rest := "", wv := s.wv ++ (lastOf s.rest).map V.str }) := A2.put 5 rfl _
    have f3 : Fr (ads s) H (upd H2 s.w (.lst (s.wv ++ (lastOf s.rest).map V.str))) := (f1.trans f2).trans (Fr.upd (by simp [ads]))
    generalize upd H2 s.w (.lst (s.wv ++ (lastOf s.rest).map V.str)) = H3 at A3 f3
    rw [R.wv, List.nil_append] at A3
    -- while self.waiting != []
    refine ⟨fun m σ' H' => ∃ (gs ws : List Str) (num : Int) (tr mt : V) (lv : List V) (hand : Str), σ' = _ ∧ At H' (cells K { s with closed := true, rest := "", num := num, trV := tr, metV := mt, gv := gs.map V.str, lv := lv, hand := hand, made := 0, wv := ws.map V.str }) ∧
      Fr (ads s) H H' ∧ gs ++ ws = lastOf s.rest ∧ ws.length = m ∧ lv.length + 4 * ws.length ≤ s.lv.length + 4, ⟨_, [], lastOf s.rest, s.num, s.trV, s.metV, s.lv, s.hand, rfl, ?_, f3, rfl, rfl, ?_⟩, ?_⟩
    · have e : ({ s with closed := true, rest := "", num := s.num, trV := s.trV, metV := s.metV, gv := ([] : List Str).map V.str, lv := s.lv, hand := s.hand, made := 0, wv := (lastOf s.rest).map V.str } : S) = { s with closed := true, rest := "", wv := (lastOf s.rest).map V.str } := by
        rw [← R.made]
        show _ = ({ s with closed := true, rest := "", wv := (lastOf s.rest).map V.str, gv := s.gv } : S)
        rw [R.gv]
        rfl
      rw [e]
      exact A3
    · have := last_le s.rest
      omega
    rintro m σ' H4 ⟨gs, ws, num, tr, mt, lv, hand, rfl, A4, f4, egs, rfl, hl4⟩
    refine ⟨_, rfl, _, _, _, _, _, rfl, A4.get 0 rfl, T.cl_Blade, T.n_Blade_waiting, lB_waiting _, Nat.zero_le _, fun q hq => ?_⟩
    have A5 := A4.other (A4.out hq) (.lst [])
    have f5 : Fr (ads s) H (upd H4 q (.lst [])) := f4.trans (Fr.new hq)
    refine ⟨.list (ws.map PyData.str), .list [], .lst (SqL.of (A5.get 5 rfl)) (dp_strs (a := q) ws), .lst (SqL.of upd_same) .nil, ?_, by rfl, ?_⟩
    · refine shaped_strs ws fun r hr => ?_
      have hm : r ∈ lastOf s.rest := by rw [← egs]; exact List.mem_append_right _ hr
      unfold lastOf at hm
      split at hm
      · cases hm
      · rw [List.mem_singleton.mp hm]
        exact hok
    match ws, A5, hl4, egs with
    | [], A5, hl4, egs =>
      refine ⟨_, rfl, if_false_of (by rfl) ?_⟩
      -- while not self.turns.over
      generalize upd H4 q (.lst []) = H5 at A5 f5
      rw [List.append_nil] at egs
      subst egs
      refine ⟨fun m σ' H' => ∃ (lv' : List V) (ov : Bool), σ' = _ ∧ At H' (cells K { s with closed := true, rest := "", num := num, trV := tr, metV := mt, gv := (lastOf s.rest).map V.str, lv := lv', hand := hand, made := 0, wv := [], over := ov }) ∧
        Fr (ads s) H H' ∧ ((ov = false ∧ m = 1 ∧ lv'.length = lv.length) ∨ (ov = true ∧ m = 0)), ⟨1, lv, false, rfl, ?_, f5, .inl ⟨rfl, rfl, rfl⟩⟩, ?_⟩
      · rw [← R.over]
        exact A5
      rintro m σ' H6 ⟨lv', ov, rfl, A6, f6, hov⟩
      refine ⟨_, rfl, _, _, _, _, _, rfl, A6.get 0 rfl, T.cl_Blade, T.n_Blade_turns, lB_turns _, _, _, _, _, _, rfl, A6.get 2 rfl, T.cl_Turns, T.n_Turns_over, lT_over _, _, rfl, ?_⟩
      rcases hov with ⟨rfl, rfl, el⟩ | ⟨rfl, rfl⟩
      · refine if_true_of rfl ⟨fun σ' H' => ∃ (lv' : List V), σ' = _ ∧ At H' (cells K { s with closed := true, rest := "", num := num, trV := tr, metV := mt, gv := (lastOf s.rest).map V.str, lv := lv', hand := hand, made := 0, wv := [], over := true }) ∧ Fr (ads s) H H',
          fun σ' H' ⟨lv2, e, A7, f7⟩ => ⟨0, Nat.zero_lt_one, lv2, true, e, A7, f7, .inr ⟨rfl, rfl⟩⟩, ?_⟩
        refine ⟨_, rfl, _, _, _, _, _, rfl, A6.get 0 rfl, T.cl_Blade, T.n_Blade_turns, lB_turns _, _, _, _, rfl, A6.get 2 rfl, lT_none _, ?_⟩
        exact ⟨stOf A6, rfl, A6, by show lv'.length + 2 ≤ sizeLine; simp at hl4; omega, fun H7 lv2 _ A7 f7 => ⟨lv2, rfl, A7, f6.trans f7⟩⟩
      · refine if_false_of rfl ?_
        refine ⟨_, rfl, _, _, _, rfl, A6.get 0 rfl, lB_rows_given _, ?_⟩
        refine ⟨stOf A6, rfl, A6, fun H7 g' lg' hg' hlg' A7 f7 => ?_⟩
        exact k H7 { s with closed := true, rest := "", num := num, trV := tr, metV := mt, gv := [], lv := [], hand := hand, made := 0, wv := [], over := true, g := g', lg := lg' } rfl rfl A7 (f6.trans f7) (ads_new f6 A6 rfl hg' hlg' rfl)
    | [x], A5, hl4, egs =>
      refine ⟨_, rfl, if_true_of (by rfl) ⟨fun σ' H' => ∃ (gs ws : List Str) (num : Int) (tr mt : V) (lv : List V) (hand : Str), σ' = _ ∧ At H' (cells K { s with closed := true, rest := "", num := num, trV := tr, metV := mt, gv := gs.map V.str, lv := lv, hand := hand, made := 0, wv := ws.map V.str }) ∧
        Fr (ads s) H H' ∧ gs ++ ws = lastOf s.rest ∧ ws.length = 0 ∧ lv.length + 4 * ws.length ≤ s.lv.length + 4, fun σ' H' h => ⟨0, Nat.zero_lt_one, h⟩, ?_⟩⟩
      generalize upd H4 q (.lst []) = H5 at A5 f5
      refine ⟨_, rfl, _, _, _, rfl, A5.get 0 rfl, lB_take_first _, _, rfl, _, _, _, _, _, rfl, A5.get 0 rfl, T.cl_Blade, T.n_Blade_waiting, lB_waiting _, s.w, _, rfl, .inl (SqL.of (A5.get 5 rfl)), rfl, ?_⟩
      refine ⟨stOf A5, x, _, rfl, A5, rfl, ?_, ?_, fun H6 lv' tr' mt' e6 A6 f6 => ?_⟩
      · have h := last_le s.rest
        rw [← egs, List.length_append] at h
        show (gs.map V.str).length < sizeLine
        rw [List.length_map]
        simp at h
        rw [h]
        decide
      · show lv.length + 4 ≤ sizeLine
        simp at hl4
        omega
      · have e6' : lv'.length = lv.length + 4 := e6
        refine ⟨gs ++ [x], [], num + 1, tr', mt', lv', "", rfl, ?_, f5.trans f6, by rw [List.append_nil]; exact egs, rfl, ?_⟩
        · rw [List.map_append]
          exact A6
        · simp at hl4 ⊢
          omega
    | x :: y :: r, _, _, egs =>
      exfalso
      have h := last_le s.rest
      rw [← egs, List.length_append] at h
      simp at h
      omega
/-! ### boxes, faults, kept -/
def spBoxes (K : PySem.W.Frag) : Sp := fun vs H Q _ => ∃ (s : S), vs = [.ref s.b] ∧ At H (cells K s) ∧ ∀ p, H p = none → Q (.ref p) (upd H p (.dK []))
theorem ok_Boxes (T : Tx K mg) : OkF P w K mg base CX0 1 dBoxes ["self"] (spBoxes K) := by
  obtain ⟨fd, F⟩ := T.d_Boxes
  refine ⟨fd, F.ok scBoxes (fun vs H Q E h => ?_) (fun cdv A outer s H vs Q E hr h => ?_), F.bindsN fun _ _ _ _ _ _ us hl => match us, hl with | [_], _ => rfl⟩
  · obtain ⟨s, rfl, _⟩ := h
    rfl
  · obtain ⟨s, rfl, A, k⟩ := h
    refine ⟨_, PSs.nox (pss_one (ps_ret (pe_callTy call_dictD (by rfl) T.f_dict (by decide +kernel) (pa_cons (pe_fld (pe_fld (pe_fld (pv 0) rfl) rfl) rfl) pa_nil)))), ?_⟩
    exact ⟨_, rfl, _, _, _, _, _, rfl, A.get 0 rfl, T.cl_Blade, T.n_Blade_turns, lB_turns _, _, _, _, _, _, rfl, A.get 2 rfl, T.cl_Turns, T.n_Turns_hands, lT_hands _, _, _, _, _, _, rfl, A.get 3 rfl, T.cl_Hands, T.n_Hands_totals, lH_totals _, s.to, [], rfl, Rd.of (A.get 12 rfl), fun p hp => k p hp⟩
def spFaults (K : PySem.W.Frag) : Sp := fun vs H Q _ => ∃ (s : S), vs = [.ref s.b] ∧ At H (cells K s) ∧ ∀ p, H p = none → Q (.ref p) (upd H p (.lst []))
theorem ok_Faults (T : Tx K mg) : OkF P w K mg base CX0 1 dFaults ["self"] (spFaults K) := by
  obtain ⟨fd, F⟩ := T.d_Faults
  refine ⟨fd, F.ok scFaults (fun vs H Q E h => ?_) (fun cdv A outer s H vs Q E hr h => ?_), F.bindsN fun _ _ _ _ _ _ us hl => match us, hl with | [_], _ => rfl⟩
  · obtain ⟨s, rfl, _⟩ := h
    rfl
  · obtain ⟨s, rfl, A, k⟩ := h
    refine ⟨_, PSs.nox (pss_one (ps_ret (pe_callTy call_list_of (by rfl) T.f_list (by decide +kernel) (pa_cons (pe_fld (pe_fld (pe_fld (pv 0) rfl) rfl) rfl) pa_nil)))), ?_⟩
    exact ⟨_, rfl, _, _, _, _, _, rfl, A.get 0 rfl, T.cl_Blade, T.n_Blade_turns, lB_turns _, _, _, _, _, _, rfl, A.get 2 rfl, T.cl_Turns, T.n_Turns_hands, lT_hands _, _, _, _, _, _, rfl, A.get 3 rfl, T.cl_Hands, T.n_Hands_noted, lH_noted _, s.no, [], rfl, .inl (SqL.of (A.get 10 rfl)), fun p hp => k p hp⟩
def spBlKept (K : PySem.W.Frag) : Sp := fun vs H Q _ => ∃ (s : S), vs = [.ref s.b] ∧ At H (cells K s) ∧ Q (.int ((s.wv.length : Int) + s.made)) H
theorem ok_BlKept (T : Tx K mg) : OkF P w K mg base CX0 2 dBlKept ["self"] (spBlKept K) := by
  obtain ⟨fd, F⟩ := T.d_BlKept
  obtain ⟨fd1, G1, b1⟩ := ok_HdKept (P := P) (w := w) (base := base) T
  refine ⟨fd, F.ok scBlKept (fun vs H Q E h => ?_) (fun cdv A outer s H vs Q E hr h => ?_), F.bindsN fun _ _ _ _ _ _ us hl => match us, hl with | [_], _ => rfl⟩
  · obtain ⟨s, rfl, _⟩ := h
    rfl
  · obtain ⟨s, rfl, A, k⟩ := h
    refine ⟨_, PSs.nox (pss_one (ps_ret (pe_op op_add (pe_callB call_len_seq (by rfl) T.f_len boot_len (pa_cons (pe_fld (pv 0) rfl) pa_nil))
      (pe_meth0 (pe_fld (pe_fld (pv 0) rfl) rfl) T.cl_Hands T.m_Hands_kept G1 hr b1 .nil pass0)))), ?_⟩
    refine ⟨_, rfl, _, _, _, _, _, rfl, A.get 0 rfl, T.cl_Blade, T.n_Blade_waiting, lB_waiting _, s.w, _, rfl, .inl (SqL.of (A.get 5 rfl)), _, rfl, _, _, _, _, _, rfl, A.get 0 rfl, T.cl_Blade, T.n_Blade_turns, lB_turns _, _, _, _, _, _, rfl, A.get 2 rfl, T.cl_Turns, T.n_Turns_hands, lT_hands _, _, _, _, rfl, A.get 3 rfl, lH_kept _, ?_⟩
    exact ⟨s, rfl, A, _, _, rfl, rfl, k⟩
end
end Rb
/-! The law's own small defs. -/
namespace Rb
open PySem PySem.Spec PyProof.Rows L2
section
variable {P : Program} {w : World} {K : PySem.W.Frag} {mg : Str → Option Value} {base : Heap} {H : Hp} {s : S}
/-! ### _law_whole -/
def spLWhole : Sp := fun vs H Q _ => ∃ (n : Int), vs = [.int n] ∧ Q (.bl true) H
theorem ok_LWhole (T : Tx K mg) : OkF P w K mg base CX0 1 dLWhole ["_law_answer"] spLWhole := by
  obtain ⟨fd, F⟩ := T.d_LWhole
  refine ⟨fd, F.ok scLWhole (fun vs H Q E h => ?_) (fun cdv A outer s H vs Q E hr h => ?_), F.bindsN fun _ _ _ _ _ _ us hl => match us, hl with | [_], _ => rfl⟩
  · obtain ⟨n, rfl, _⟩ := h
    rfl
  · obtain ⟨n, rfl, k⟩ := h
    refine ⟨_, PSs.nox (pss_one (ps_ret (pe_and (pe_callB call_isi (by rfl) T.f_isinstance boot_isinstance (pa_cons (pv 0) (pa_cons (pe_bltn (v := .ty "int") (by rfl) T.f_int PyProof.Rows.boot_int rfl) pa_nil)))
      (pe_one (pe_not (pe_callB call_isi (by rfl) T.f_isinstance boot_isinstance (pa_cons (pv 0) (pa_cons (pe_bltn (v := .ty "bool") (by rfl) T.f_bool PyProof.Rows.boot_bool rfl) pa_nil)))))))), ?_⟩
    refine ⟨_, rfl, .int n, .ty "int", .type "int", .type "int", true, rfl, .ty _, .base (.int n), kit_ty (by decide +kernel), true, rfl, if_true_of rfl ?_⟩
    exact ⟨_, rfl, .int n, .ty "bool", .type "int", .type "bool", false, rfl, .ty _, .base (.int n), kit_ty (by decide +kernel), false, rfl, k⟩
/-! ### _law_sign -/
/-- the signs, as the law has them -/
def someS : Str := match defBody sLSign with
  | .Assign _ (.Constant (.str x) _ _) _ :: _ => x
  | _ => ""
theorem someS_len : someS.length = 94 := by decide +kernel
theorem someS_pl : (someS.cps.toList.all fun c => decide (c < 128)) = true := by decide +kernel
theorem nl_sg : ("\n" : Str) = sg 10 := TL.ext_tl tl_nl
def spLSign : Sp := fun vs H Q _ => ∃ (n : Int), vs = [.int n] ∧ ∀ c : Nat, c < 128 → Q (.str (sg c)) H
theorem ok_LSign (T : Tx K mg) : OkF P w K mg base CX0 1 dLSign ["_law_number"] spLSign := by
  obtain ⟨fd, F⟩ := T.d_LSign
  refine ⟨fd, F.ok scLSign (fun vs H Q E h => ?_) (fun cdv A outer s H vs Q E hr h => ?_), F.bindsN fun _ _ _ _ _ _ us hl => match us, hl with | [_], _ => rfl⟩
  · obtain ⟨n, rfl, _⟩ := h
    rfl
  · obtain ⟨n, rfl, k⟩ := h
    refine ⟨_, PSs.nox (pss_cons (ps_set (i := 1) scLSign.nd rfl (Or.inl rfl) pe_str) (pss_cons (ps_set (i := 2) scLSign.nd rfl (Or.inl rfl) (pe_op op_mod (pv 0) pe_int)) (pss_cons (ps_if (pt_cmpR op_lt (pv 2) (pe_callB call_len_str (by rfl) T.f_len boot_len (pa_cons (pv 1) pa_nil)) (nomark _)) (pss_one (ps_ret (pe_item_str (pv 1) (pv 2) (fun _ _ => rfl)))) pss_nil) (pss_one (ps_ret pe_str))))), ?_⟩
    refine ⟨_, rfl, _, _, rfl, rfl, by show (0 : Int) < 120; decide, ?_⟩
    have h0 : 0 ≤ n % 120 := Int.emod_nonneg _ (by decide)
    refine ⟨_, rfl, _, rfl, someS, rfl, by rw [someS_len]; decide, _, _, rfl, rfl, _, rfl, ?_⟩
    refine ite2 (fun hc => ?_) (fun hc => ?_)
    · have hlt : n % 120 < (someS.length : Int) := of_decide_eq_true hc
      have hlt2 : (n % 120).toNat < someS.cps.toList.length := by
        have e : someS.length = someS.cps.toList.length := TL.len_tl someS
        omega
      have hg : someS.cps[(n % 120).toNat]? = some (someS.cps.toList[(n % 120).toNat]) := by
        rw [← Array.getElem?_toList]
        exact List.getElem?_eq_getElem hlt2
      refine ⟨_, rfl, _, rfl, someS, n % 120, _, rfl, rfl, h0, ?_, hlt, hg, k _ ?_⟩
      · rw [someS_len] at hlt
        omega
      · exact of_decide_eq_true (List.all_eq_true.mp someS_pl _ (List.getElem_mem hlt2))
    · show Q (V.str "\n") H
      rw [nl_sg]
      exact k 10 (by decide)
/-! ### _law_piece -/
def spLPiece : Sp := fun vs H Q _ => ∃ (c r : Int), vs = [.int c, .int r] ∧ 0 ≤ r ∧ r ≤ 190 ∧ ∀ z : Str, (z.length : Int) ≤ r → Pl z → Q (.str z) H
theorem ok_LPiece (T : Tx K mg) : OkF P w K mg base CX0 2 dLPiece ["_law_cell", "_law_room"] spLPiece := by
  obtain ⟨fd, F⟩ := T.d_LPiece
  obtain ⟨fd1, G1, b1⟩ := ok_LSign (P := P) (w := w) (base := base) T
  obtain ⟨_, F1⟩ := T.d_LSign
  refine ⟨fd, F.ok scLPiece (fun vs H Q E h => ?_) (fun cdv A outer s H vs Q E hr h => ?_), F.bindsN fun _ _ _ _ _ _ us hl => match us, hl with | [_, _], _ => rfl⟩
  · obtain ⟨c, r, rfl, _⟩ := h
    rfl
  · obtain ⟨c, r, rfl, hr0, hr1, k⟩ := h
    refine ⟨_, PSs.nox (pss_cons (ps_set (i := 2) scLPiece.nd rfl (Or.inl rfl) (pe_op op_mod (pv 0) pe_int))
      (C8.pss_cut (ps_if (pt_cmpR op_eq (pe_op op_mod (pe_op op_fdiv (pv 0) pe_int) pe_int) pe_int (nomark _)) (pss_one (ps_set (i := 2) scLPiece.nd rfl (Or.inl rfl) (pe_op op_mod (pe_op op_fdiv (pv 0) pe_int) pe_int))) pss_nil)
      (pss_cons (ps_set (i := 3) scLPiece.nd rfl (Or.inl rfl) (pe_op op_mod (pe_op op_fdiv (pv 0) pe_int) (pe_op op_pow pe_int pe_int))) (pss_cons (ps_set (i := 4) scLPiece.nd rfl (Or.inl rfl) pe_str) (pss_cons (ps_for PassesOwn.never rfl (pi_range1 rfl T.f_range (pa_cons (pe_callB (call_min2 rfl) (by rfl) T.f_min boot_min (pa_cons (pv 2) (pa_cons (pv 1) pa_nil))) pa_nil)) (pg_name (i := 5) scLPiece.nd rfl (Or.inl rfl))
        (pss_cons (ps_set (i := 4) scLPiece.nd rfl (Or.inl rfl) (pe_op op_add_str (pv 4) (pe_call G1 hr rfl T.g__law_sign F1.kp b1 .nil pass0 (pa_cons (pe_op op_add (pv 3) (pe_op op_mul (pv 5) (pv 5))) pa_nil)))) (pss_one (ps_set (i := 3) scLPiece.nd rfl (Or.inl rfl) (pe_op op_fdiv (pv 3) pe_int))))) (pss_one (ps_ret (pv 4)))))))), ?_⟩
    refine ⟨_, rfl, _, _, rfl, rfl, by show (0 : Int) < 4; decide, ?_⟩
    refine ⟨fun σ' H' => ∃ m : Int, 0 ≤ m ∧ m ≤ 30 ∧ σ' = [some (.int c), some (.int r), some (.int m), none, none, none] ∧ H' = H, ?_, ?_⟩
    · refine ⟨_, rfl, _, _, rfl, rfl, ⟨by decide, by decide⟩, _, _, rfl, rfl, by show (0 : Int) < 9; decide, rfl, _, rfl, ?_⟩
      refine ite2 (fun _ => ?_) (fun _ => ?_)
      · refine ⟨_, rfl, _, _, rfl, rfl, ⟨by decide, by decide⟩, _, _, rfl, rfl, by show (0 : Int) < 31; decide, ?_⟩
        have hm0 : 0 ≤ c / 36 % 31 := Int.emod_nonneg _ (by decide)
        have hm1 : c / 36 % 31 < 31 := Int.emod_lt_of_pos _ (by decide)
        exact ⟨c / 36 % 31, hm0, by omega, rfl, rfl⟩
      · have hm0 : 0 ≤ c % 4 := Int.emod_nonneg _ (by decide)
        have hm1 : c % 4 < 4 := Int.emod_lt_of_pos _ (by decide)
        exact ⟨c % 4, hm0, by omega, rfl, rfl⟩
    · rintro σ' H1 ⟨m, hm0, hm1, rfl, eH⟩
      rw [eH]
      clear eH H1
      -- number = cell // 36 % 10 ** 60
      refine ⟨_, rfl, _, _, rfl, rfl, ⟨by decide, by decide⟩, _, _, rfl, rfl, ⟨by decide, by decide, by decide⟩, _, _, rfl, rfl, by show (0 : Int) < 10 ^ 60; decide +kernel, ?_⟩
      -- for k in range(min(many, room))
      refine ⟨_, rfl, _, rfl, _, _, rfl, ?_⟩
      obtain ⟨t, ht0, ht1, ht2, et⟩ : ∃ t : Int, 0 ≤ t ∧ t ≤ 30 ∧ t ≤ r ∧ (if r < m then r else m) = t := by
        by_cases h : r < m
        · exact ⟨r, hr0, by omega, Int.le_refl _, if_pos h⟩
        · exact ⟨m, hm0, hm1, by omega, if_neg h⟩
      refine ⟨t, congrArg (fun q => [V.int q]) et, by omega, by omega, ?_⟩
      refine for_range (lo := 0) (n := t.toNat) (fun i σ H' => ∃ (nu : Int) (z : Str) (v : Option V), σ = [some (.int c), some (.int r), some (.int m), some (.int nu), some (.str z), v] ∧ H' = H ∧ z.length = i ∧ Pl z)
        ⟨_, "", none, rfl, rfl, by decide +kernel, Pl.empty⟩ ?_ ?_
      · rintro i σ H' hi ⟨nu, z, v, rfl, rfl, hz, hp⟩
        have hi2 : (i : Int) < t := by omega
        refine ⟨_, rfl, _, rfl, _, rfl, _, rfl, _, _, rfl, rfl, .inl ⟨by omega, by omega⟩, _, _, rfl, rfl, nu + (0 + (i : Int)) * (0 + (i : Int)), rfl, fun d hd => ?_⟩
        refine ⟨z, sg d, rfl, rfl, ?_, ?_⟩
        · show z.length + 1 ≤ sizeLine
          rw [hz]
          have : i < 31 := by omega
          have e : 32 ≤ sizeLine := by decide
          omega
        · refine ⟨_, rfl, _, _, rfl, rfl, ⟨by decide, by decide⟩, ?_⟩
          refine ⟨_, z ++ sg d, _, rfl, rfl, ?_, hp.app hd⟩
          rw [PySem.Str.length_append, hz]
          rfl
      · rintro σ H' ⟨nu, z, v, rfl, rfl, hz, hp⟩
        refine ⟨_, rfl, k z ?_ hp⟩
        rw [hz]
        omega
/-! ### _law_cut -/
theorem for_str {x : Str} {g : TG} {tb : TS} {D : Ends} {σ : L2.St} {H : Hp} (Pv : Nat → L2.St → Hp → Prop) (h0 : Pv 0 σ H)
    (hs : ∀ i c σ H, x.cps[i]? = some c → Pv i σ H → g (.str ⟨#[c]⟩) σ H fun σ2 H2 => tb { D with nx := Pv (i + 1), ct := Pv (i + 1), bk := D.nx } σ2 H2) (hd : ∀ σ H, Pv x.cps.size σ H → D.nx σ H) :
    ∃ W : Nat → Nat → L2.St → Hp → Prop, (∃ m, W 0 m σ H) ∧ ∀ i m σ H, W i m σ H →
      ((Its x).stop i H ∧ D.nx σ H) ∨ ((Its x).go i H ∧ ∃ N : L2.St → Hp → Prop, (∀ σ' H', N σ' H' → ∃ m', m' < m ∧ W (i + 1) m' σ' H') ∧ ∀ y H', (Its x).yld i H y H' → g y σ H' fun σ2 H2 => tb { D with nx := N, ct := N, bk := D.nx } σ2 H2) := by
  refine ⟨fun i m σ H => m = x.cps.size - i ∧ i ≤ x.cps.size ∧ Pv i σ H, ⟨x.cps.size, by simp, Nat.zero_le _, h0⟩, ?_⟩
  rintro i m σ H ⟨rfl, hi, p⟩
  by_cases hlt : i < x.cps.size
  · refine .inr ⟨hlt, Pv (i + 1), fun σ' H' p' => ⟨x.cps.size - (i + 1), by omega, rfl, hlt, p'⟩, fun y H' q => ?_⟩
    obtain ⟨e, c, hc, ey⟩ := q
    subst e ey
    exact hs i c σ _ hc p
  · have e : i = x.cps.size := by omega
    subst e
    exact .inl ⟨Nat.le_refl _, hd σ H p⟩
theorem cut_more {left : Str} {l : List Nat} {i c : Nat} (h : l[i]? = some c) : cutAll left (l.take (i + 1)) = cutF (cutAll left (l.take i)) c := by
  unfold cutAll
  rw [take_more h, List.foldl_append]
  rfl
def spLCut : Sp := fun vs H Q _ => ∃ (left z : Str), vs = [.str left, .str z] ∧ Pl left ∧ Pl z ∧ 10 ∉ TL.tl left ∧ left.length + z.length + 2 ≤ sizeLine ∧
  ∀ (H' : Hp) (p t : Addr), Same H H' → H p = none → H' p = some (.lst ((cutAll left (TL.tl z)).1.map V.str)) → H' t = some (.tup [.ref p, .str (cutAll left (TL.tl z)).2]) → Q (.ref t) H'
theorem ok_LCut (T : Tx K mg) : OkF P w K mg base CX0 1 dLCut ["_law_left", "_law_piece_here"] spLCut := by
  obtain ⟨fd, F⟩ := T.d_LCut
  refine ⟨fd, F.ok scLCut (fun vs H Q E h => ?_) (fun cdv A outer s H vs Q E hr h => ?_), F.bindsN fun _ _ _ _ _ _ us hl => match us, hl with | [_, _], _ => rfl⟩
  · obtain ⟨left, z, rfl, _⟩ := h
    rfl
  · obtain ⟨left, z, rfl, hl, hz, h10, hlen, k⟩ := h
    refine ⟨_, PSs.nox (pss_cons (ps_set (i := 2) scLCut.nd rfl (Or.inl rfl) (pe_lst pa_nil)) (pss_cons (ps_for PassesOwn.never rfl (pi_str (pv 1)) (pg_name (i := 3) scLCut.nd rfl (Or.inl rfl))
        (pss_one (ps_if (pt_cmpR op_eq (pv 3) pe_str (nomark _)) (pss_cons (ps_expr (pe_bm PySem.F.plainAttrs_list PySem.F.slot_list_append PySem.F.type_list_append mt_append (pv 2) (pa_cons (pv 0) pa_nil))) (pss_one (ps_set (i := 0) scLCut.nd rfl (Or.inl rfl) pe_str))) (pss_one (ps_set (i := 0) scLCut.nd rfl (Or.inl rfl) (pe_op op_add_str (pv 0) (pv 3))))))) (pss_one (ps_ret (pe_tup (pa_cons (pv 2) (pa_cons (pv 0) pa_nil))))))), ?_⟩
    refine ⟨Nat.zero_le _, fun p hp => ?_⟩
    have hsz : z.cps.size = (TL.tl z).length := TL.len_tl z
    have hzl : z.length = (TL.tl z).length := TL.len_tl z
    have bound : ∀ i, i ≤ (TL.tl z).length → CutOk (cutAll left ((TL.tl z).take i)).1 (cutAll left ((TL.tl z).take i)).2 (left.length + i) := fun i hi => by
      have q := cutAll_ok (left := left) (l := (TL.tl z).take i) (fun c hc => hz c (List.mem_of_mem_take hc)) hl h10
      rw [List.length_take, Nat.min_eq_left hi] at q
      exact q
    refine ⟨_, rfl, z, rfl, for_str (x := z) (fun i σ H' => ∃ v : Option V, σ = [some (.str (cutAll left ((TL.tl z).take i)).2), some (.str z), some (.ref p), v] ∧ H' = upd H p (.lst ((cutAll left ((TL.tl z).take i)).1.map V.str)))
      ⟨none, rfl, rfl⟩ ?_ ?_⟩
    · rintro i c σ H' hc ⟨v, rfl, rfl⟩
      have hc' : (TL.tl z)[i]? = some c := by rw [← hc, ← Array.getElem?_toList]
      have hi : i < (TL.tl z).length := (List.getElem?_eq_some_iff.mp hc').1
      have b := (bound i (Nat.le_of_lt hi)).len
      have more := cut_more (left := left) hc'
      refine ⟨_, rfl, rfl, _, rfl, ?_⟩
      refine ite2 (fun he => ?_) (fun he => ?_)
      · have e1 : sg c = "\n" := V.str.inj (of_decide_eq_true he)
        have e10 : c = 10 := by
          rw [nl_sg] at e1
          have e2 := congrArg TL.tl e1
          exact (List.cons.inj e2).1
        have em : cutAll left ((TL.tl z).take (i + 1)) = ((cutAll left ((TL.tl z).take i)).1 ++ [(cutAll left ((TL.tl z).take i)).2], ("" : Str)) := by
          rw [more]
          exact if_pos e10
        refine ⟨_, rfl, .inl ⟨rfl, _, SqL.of upd_same⟩, _, rfl, p, _, _, rfl, rfl, upd_same, ?_, ?_⟩
        · rw [List.length_map]
          omega
        · rw [upd_upd]
          refine ⟨some (.str (sg c)), ?_, ?_⟩
          · rw [em]
            rfl
          · rw [em, List.map_append]
            rfl
      · have e10 : ¬ c = 10 := fun e => he (decide_eq_true (by
          rw [nl_sg, e]))
        have em : cutAll left ((TL.tl z).take (i + 1)) = ((cutAll left ((TL.tl z).take i)).1, (cutAll left ((TL.tl z).take i)).2 ++ sg c) := by
          rw [more]
          exact if_neg e10
        refine ⟨_, rfl, _, rfl, _, _, rfl, rfl, ?_, ?_⟩
        · show _ + 1 ≤ sizeLine
          omega
        · refine ⟨some (.str (sg c)), ?_, ?_⟩
          · rw [em]
            rfl
          · rw [em]
    · rintro σ H' ⟨v, rfl, rfl⟩
      rw [hsz, List.take_length]
      refine ⟨_, rfl, _, rfl, by show 2 ≤ sizeLine; decide, fun t ht => ?_⟩
      have hp1 : (upd H p (.lst ((cutAll left (TL.tl z)).1.map V.str))) p = some (.lst ((cutAll left (TL.tl z)).1.map V.str)) := upd_same
      refine k _ p t ((Same.new hp).trans (Same.new ht)) hp ?_ upd_same
      rw [upd_ne (ne_of_none hp1 ht)]
      exact hp1
end
end Rb
/-! _law_rows, _law_refused, _law_named. -/
namespace Rb
open PySem PySem.Spec PyProof.Rows L2
section
variable {P : Program} {w : World} {K : PySem.W.Frag} {mg : Str → Option Value} {base : Heap} {H : Hp} {s : S}
theorem Same.ne_new {H H' : Hp} (h : Same H H') {a b : Addr} {o : HO} (ha : H a = some o) (hb : H' b = none) : a ≠ b := ne_of_none (h _ _ ha) hb
theorem eqv_strs : ∀ (rs : List Str), PyData.eqvAll (rs.map PyData.str) (rs.map PyData.str) = true
  | [] => rfl
  | r :: rs => by
    show (PyData.eqv (.str r) (.str r) && PyData.eqvAll (rs.map PyData.str) (rs.map PyData.str)) = true
    rw [eqv_strs rs, Bool.and_true]
    show (r == r) = true
    exact beq_self_eq_true r
theorem all_true (n : Nat) : (List.replicate n true).all id = true := by
  induction n with
  | zero => rfl
  | succ n ih => rw [List.replicate_succ, List.all_cons, ih]; rfl
/-! ### _law_rows -/
def spLRows : Sp := fun vs H Q _ => ∃ (a d : Addr) (rs : List Str), vs = [.ref a, .ref d] ∧ H a = some (.lst (rs.map V.str)) ∧ H d = some (.lst (rs.map V.str)) ∧ (∀ r ∈ rs, PyData.strOk r = true) ∧ rs.length < sizeLine ∧
  ∀ H', Same H H' → Q (.bl true) H'
theorem ok_LRows (T : Tx K mg) : OkF P w K mg base CX0 1 dLRows ["_law_answer", "_law_due"] spLRows := by
  obtain ⟨fd, F⟩ := T.d_LRows
  refine ⟨fd, F.ok scLRows (fun vs H Q E h => ?_) (fun cdv A outer s H vs Q E hr h => ?_), F.bindsN fun _ _ _ _ _ _ us hl => match us, hl with | [_, _], _ => rfl⟩
  · obtain ⟨a, d, rs, rfl, _⟩ := h
    rfl
  · obtain ⟨a, d, rs, rfl, ha, hd, hok, hlen, k⟩ := h
    refine ⟨_, PSs.nox (pss_one (ps_ret (pe_and (pe_callB call_isi (by rfl) T.f_isinstance boot_isinstance (pa_cons (pv 0) (pa_cons (pe_bltn (v := .ty "list") (by rfl) T.f_list PyProof.Rows.boot_list rfl) pa_nil)))
      (pe_and (pe_callB (cr_all rfl) (by rfl) T.f_all boot_all (pa_cons (pe_lc (own := [("_law_row", 2)]) (g := gName 2) (tt := tYes) (te := tCB (rIsi K) (tCons (tVar 2) (tCons (tC (.ty "str")) tNil))) rfl scLRows.nd (pi_list (pv 0)) (blkOk_by (N := ["_law_answer", "_law_due", "_law_row"]) (sc := defScope sLRows) (by decide +kernel))
          (fun _ _ _ _ _ => pg_name (i := 2) scLRows.nd rfl (Or.inl rfl)) (fun _ _ _ _ _ => pts_nil)
          (fun _ _ _ _ _ => pe_callB call_isi (by rfl) T.f_isinstance boot_isinstance (pa_cons (pv 2) (pa_cons (pe_bltn (v := .ty "str") (by rfl) T.f_str PyProof.Rows.boot_str rfl) pa_nil)))) pa_nil))
        (pe_one (pe_cmpR (op_eqD hr.units) (pv 0) (pv 1) (nomark _))))))), ?_⟩
    refine ⟨_, rfl, .ref a, .ty "list", .type "list", .type "list", true, rfl, .ty _, .base (.lst ha), kit_ty (by decide +kernel), true, rfl, if_true_of rfl ?_⟩
    -- all([isinstance(row, str) for row in answer])
    refine ⟨_, rfl, a, rfl, ⟨_, SqL.of ha⟩, fun D hD => ?_⟩
    refine lc_list (K := K) (a := a) (xs := rs.map V.str) (fun i H' => Same H H' ∧ H' D = some (.lst ((List.replicate i true).map V.bl))) ⟨Same.new hD, upd_same⟩ (fun i H' _ ⟨sm, _⟩ => SqL.of (sm _ _ ha)) ?_ ?_
    · rintro i y H' hi ⟨sm, hDi⟩
      obtain ⟨r, hr', rfl⟩ := str_of hi
      have hil : i < rs.length := (List.getElem?_eq_some_iff.mp hr').1
      refine ⟨rfl, ?_⟩
      dsimp only [tYes]
      rw [if_pos rfl]
      refine ⟨_, rfl, .str r, .ty "str", .type "str", .type "str", true, rfl, .ty _, .base (.str r), kit_ty (by decide +kernel), _, hDi, ?_, ?_, ?_⟩
      · rw [List.length_map, List.length_replicate]
        omega
      · exact fun b o e => by rw [upd_ne (fun z => by rw [z] at e; rw [hD] at e; cases e)]; exact sm b o e
      · rw [List.replicate_succ', List.map_append]
        exact upd_same
    · rintro H' ⟨sm, hDi⟩
      refine ⟨D, _, rfl, SqL.of hDi, true, congrArg V.bl (all_true _), if_true_of rfl ?_⟩
      refine ⟨_, rfl, _, rfl, .list (rs.map PyData.str), .list (rs.map PyData.str), .lst (SqL.of (sm _ _ ha)) (dp_strs (a := a) rs), .lst (SqL.of (sm _ _ hd)) (dp_strs (a := d) rs), shaped_strs rs hok, shaped_strs rs hok, ?_⟩
      have e : PyData.eqv (.list (rs.map PyData.str)) (.list (rs.map PyData.str)) = true := eqv_strs rs
      rw [e]
      exact k H' sm
theorem bootVE : bootBuiltins ("ValueError" : Str) = some (Value.type "ValueError") := by decide +kernel
/-! ### a try whose body is a call that is refused with Finished -/
/-- a block under a premise -/
theorem pss_when {X : Cx} {p : Prop} {sts : List Stmt} {t : TS} (h : p → PSs X sts t) : PSs X sts (fun D σ H => p ∧ t D σ H) := ⟨fun pins s σ H D I ⟨hp, q⟩ => (h hp).run pins s σ H D I q⟩
def tTryR (K : PySem.W.Frag) (W : WX) : TS := tIfS (tB (tVar 1)) (tDrop (tMethS (cB K) "feed" (spFeed K) (WE W) (tVar 0) (tCons (tC (.str "a\n")) tNil))) (tDrop (tMethS (cB K) "finish" (spFinish K) (WE W) (tVar 0) tNil))
theorem tryR_of {W : WX} {D : Ends} {σ : L2.St} {b : Bool} (A : At H (cells K s)) (hc : s.closed = true) (h0 : σ[0]? = some (some (.ref s.b))) (h1 : σ[1]? = some (some (.bl b))) (q : W (.ref (cFin K)) none σ H) : tTryR K W D σ H := by
  refine ⟨_, h1, b, rfl, ?_⟩
  cases b with
  | true =>
    refine if_true_of rfl ?_
    refine ⟨_, h0, _, _, _, rfl, A.get 0 rfl, lB_feed _, s, _, rfl, A, fun _ => q, fun h => ?_⟩
    rw [hc] at h
    cases h
  | false =>
    refine if_false_of rfl ?_
    refine ⟨_, h0, _, _, _, rfl, A.get 0 rfl, lB_finish _, s, rfl, A, fun _ => q, fun h => ?_⟩
    rw [hc] at h
    cases h
/-- isinstance(e, x) of the error at a, slot 3 -/
abbrev tIs (K : PySem.W.Frag) (a : Addr) (x : V) : TE := tCB (rIsE K (cFin K) a) (tCons (tVar 3) (tCons (tC x) tNil))
def tSuiteR (K : PySem.W.Frag) (a : Addr) : TS :=
  tSeq (tAsg (tLst (tCons (tIs K a (.ref (He.ga K "Finished"))) (tCons (tIs K a (.ty "ValueError")) (tCons (tIs K a (.ref (He.ga K "NoPattern"))) (tCons (tIs K a (.ref (He.ga K "NotThat"))) tNil))))) (gName 2))
  (tSeq (tAsg (tOp rCat (tVar 2) (tLst (tCons (tIs K a (.ref (He.ga K "NotWoven"))) (tCons (tIs K a (.ref (He.ga K "NoLine"))) (tCons (tIs K a (.ref (He.ga K "TwoMarks"))) tNil))))) (gName 2))
    (tAsg (tOp rCat (tVar 2) (tLst (tCons (tIs K a (.ref (He.ga K "NoMark"))) (tCons (tIs K a (.ref (He.ga K "Endless"))) tNil)))) (gName 2)))
def spLRefused (K : PySem.W.Frag) : Sp := fun vs H Q _ => ∃ (s : S) (b : Bool), vs = [.ref s.b, .bl b] ∧ At H (cells K s) ∧ s.closed = true ∧ ∀ H', Same H H' → Q (.bl true) H'
theorem ok_LRefused (T : Tx K mg) (TK : Tk K) : OkF P w K mg base CX0 7 dLRefused ["_law_blade", "_law_way"] (spLRefused K) := by
  obtain ⟨fd, F⟩ := T.d_LRefused
  obtain ⟨fd1, G1, b1⟩ := ok_Feed (P := P) (w := w) (base := base) T
  obtain ⟨fd2, G2, b2⟩ := ok_Finish (P := P) (w := w) (base := base) T
  refine ⟨fd, F.ok scLRefused (fun vs H Q E h => ?_) (fun cdv A outer s H vs Q E hr h => ?_), F.bindsN fun _ _ _ _ _ _ us hl => match us, hl with | [_, _], _ => rfl⟩
  · obtain ⟨s, b, rfl, _⟩ := h
    rfl
  · obtain ⟨s, b, rfl, A, hc, k⟩ := h
    refine ⟨_, PSs.nox (pss_cons (ps_set (i := 2) scLRefused.nd rfl (Or.inl rfl) (pe_lst pa_nil)) (pss_cons (ps_try_as (i := 3) (tb := tTryR K) (ts := fun a cls d => fun D σ H => (cls = .ref (cFin K) ∧ d = none) ∧ tSuiteR K a D σ H) (Wout := fun _ _ _ _ => False) rfl rfl scLRefused.nd rfl rfl ⟨rfl, by decide, Or.inl T.g_BladeError⟩ takes0
        (fun W pn xe tk _ => pss_one (ps_if (pt_val (pv 1)) (pss_one (ps_expr (pe_methS (pv 0) T.cl_Blade T.m_Blade_feed G1 hr b1 (fun σ => passAt tk σ) (by exact (pa_cons pe_str pa_nil)))))
          (pss_one (ps_expr (pe_methS0 (pv 0) T.cl_Blade T.m_Blade_finish G2 hr b2 (fun σ => passAt tk σ))))))
        (fun a oe cls d pn hz hf => pss_when fun hcd => by
          obtain ⟨rfl, rfl⟩ := hcd
          exact (pss_cons (ps_set (i := 2) scLRefused.nd rfl (Or.inl rfl) (pe_lst (pa_cons (pe_callB (call_isE TK.xc hz hf) (by rfl) T.f_isinstance boot_isinstance (pa_cons (pv 3) (pa_cons (pe_glob (v := .ref (He.ga K "Finished")) (by rfl) T.g_Finished rfl) pa_nil))) (pa_cons (pe_callB (call_isE TK.xc hz hf) (by rfl) T.f_isinstance boot_isinstance (pa_cons (pv 3) (pa_cons (pe_bltn (v := .ty "ValueError") (by rfl) T.f_ValueError bootVE rfl) pa_nil))) (pa_cons (pe_callB (call_isE TK.xc hz hf) (by rfl) T.f_isinstance boot_isinstance (pa_cons (pv 3) (pa_cons (pe_glob (v := .ref (He.ga K "NoPattern")) (by rfl) T.g_NoPattern rfl) pa_nil))) (pa_cons (pe_callB (call_isE TK.xc hz hf) (by rfl) T.f_isinstance boot_isinstance (pa_cons (pv 3) (pa_cons (pe_glob (v := .ref (He.ga K "NotThat")) (by rfl) T.g_NotThat rfl) pa_nil))) pa_nil)))))) (pss_cons (ps_set (i := 2) scLRefused.nd rfl (Or.inl rfl) (pe_op op_cat (pv 2) (pe_lst (pa_cons (pe_callB (call_isE TK.xc hz hf) (by rfl) T.f_isinstance boot_isinstance (pa_cons (pv 3) (pa_cons (pe_glob (v := .ref (He.ga K "NotWoven")) (by rfl) T.g_NotWoven rfl) pa_nil))) (pa_cons (pe_callB (call_isE TK.xc hz hf) (by rfl) T.f_isinstance boot_isinstance (pa_cons (pv 3) (pa_cons (pe_glob (v := .ref (He.ga K "NoLine")) (by rfl) T.g_NoLine rfl) pa_nil))) (pa_cons (pe_callB (call_isE TK.xc hz hf) (by rfl) T.f_isinstance boot_isinstance (pa_cons (pv 3) (pa_cons (pe_glob (v := .ref (He.ga K "TwoMarks")) (by rfl) T.g_TwoMarks rfl) pa_nil))) pa_nil)))))) (pss_one (ps_set (i := 2) scLRefused.nd rfl (Or.inl rfl) (pe_op op_cat (pv 2) (pe_lst (pa_cons (pe_callB (call_isE TK.xc hz hf) (by rfl) T.f_isinstance boot_isinstance (pa_cons (pv 3) (pa_cons (pe_glob (v := .ref (He.ga K "NoMark")) (by rfl) T.g_NoMark rfl) pa_nil))) (pa_cons (pe_callB (call_isE TK.xc hz hf) (by rfl) T.f_isinstance boot_isinstance (pa_cons (pv 3) (pa_cons (pe_glob (v := .ref (He.ga K "Endless")) (by rfl) T.g_Endless rfl) pa_nil))) pa_nil)))))))))) (pss_one (ps_ret (pe_cmpR (op_eqD hr.units) (pv 2) (pe_lst (pa_cons pe_bl (pa_cons pe_bl (pa_cons pe_bl (pa_cons pe_bl (pa_cons pe_bl (pa_cons pe_bl (pa_cons pe_bl (pa_cons pe_bl (pa_cons pe_bl pa_nil)))))))))) (nomark _)))))), ?_⟩
    refine ⟨Nat.zero_le _, fun p hp => ?_⟩
    have A1 := A.other (A.out hp) (.lst [])
    refine tryR_of A1 hc rfl rfl ?_
    refine ⟨true, T.e_Finished_BladeError, fun _ a ha => ⟨⟨rfl, rfl⟩, ?_⟩, fun q => Bool.noConfusion q⟩
    refine ⟨_, rfl, .ref (He.ga K "Finished"), .ref (He.ga K "Finished"), true, rfl, (fun u h => h), TK.ki _ (List.mem_of_getElem? (l := kits) (i := 0) rfl), _, rfl, .ty "ValueError", .type "ValueError", true, rfl, (fun u h => h), TK.kv, _, rfl, .ref (He.ga K "NoPattern"), .ref (He.ga K "NoPattern"), false, rfl, (fun u h => h), TK.ki _ (List.mem_of_getElem? (l := kits) (i := 1) rfl), _, rfl, .ref (He.ga K "NotThat"), .ref (He.ga K "NotThat"), false, rfl, (fun u h => h), TK.ki _ (List.mem_of_getElem? (l := kits) (i := 2) rfl), by show 4 ≤ sizeLine; decide, fun q1 h1 => ?_⟩
    refine ⟨_, rfl, _, rfl, .ref (He.ga K "NotWoven"), .ref (He.ga K "NotWoven"), false, rfl, (fun u h => h), TK.ki _ (List.mem_of_getElem? (l := kits) (i := 3) rfl), _, rfl, .ref (He.ga K "NoLine"), .ref (He.ga K "NoLine"), false, rfl, (fun u h => h), TK.ki _ (List.mem_of_getElem? (l := kits) (i := 4) rfl), _, rfl, .ref (He.ga K "TwoMarks"), .ref (He.ga K "TwoMarks"), false, rfl, (fun u h => h), TK.ki _ (List.mem_of_getElem? (l := kits) (i := 5) rfl), by show 3 ≤ sizeLine; decide, fun q2 h2 => ?_⟩
    have n12 : q1 ≠ q2 := ne_of_none upd_same h2
    refine ⟨q1, q2, _, _, rfl, rfl, by rw [upd_ne n12]; exact upd_same, upd_same, by show 7 ≤ sizeLine; decide, fun q3 h3 => ?_⟩
    refine ⟨_, rfl, _, rfl, .ref (He.ga K "NoMark"), .ref (He.ga K "NoMark"), false, rfl, (fun u h => h), TK.ki _ (List.mem_of_getElem? (l := kits) (i := 6) rfl), _, rfl, .ref (He.ga K "Endless"), .ref (He.ga K "Endless"), false, rfl, (fun u h => h), TK.ki _ (List.mem_of_getElem? (l := kits) (i := 7) rfl), by show 2 ≤ sizeLine; decide, fun q4 h4 => ?_⟩
    have n34 : q3 ≠ q4 := ne_of_none upd_same h4
    refine ⟨q3, q4, _, _, rfl, rfl, by rw [upd_ne n34]; exact upd_same, upd_same, by show 9 ≤ sizeLine; decide, fun q5 h5 => ?_⟩
    refine ⟨_, rfl, by show 9 ≤ sizeLine; decide, fun q6 h6 => ?_⟩
    have n56 : q5 ≠ q6 := ne_of_none upd_same h6
    refine ⟨.list [.bool true, .bool true, .bool false, .bool false, .bool false, .bool false, .bool false, .bool false, .bool false], .list [.bool true, .bool true, .bool false, .bool false, .bool false, .bool false, .bool false, .bool false, .bool false],
      .lst (SqL.of (by rw [upd_ne n56]; exact upd_same)) (.cons (.bl _) (.cons (.bl _) (.cons (.bl _) (.cons (.bl _) (.cons (.bl _) (.cons (.bl _) (.cons (.bl _) (.cons (.bl _) (.cons (.bl _) .nil))))))))),
      .lst (SqL.of upd_same) (.cons (.bl _) (.cons (.bl _) (.cons (.bl _) (.cons (.bl _) (.cons (.bl _) (.cons (.bl _) (.cons (.bl _) (.cons (.bl _) (.cons (.bl _) .nil))))))))), by rfl, by rfl, ?_⟩
    exact k _ ((((((Same.new hp).trans (Same.new h1)).trans (Same.new h2)).trans (Same.new h3)).trans (Same.new h4)).trans ((Same.new h5).trans (Same.new h6)))
def spLNamed (K : PySem.W.Frag) : Sp := fun vs H Q _ => ∃ (s : S), vs = [.ref s.b] ∧ At H (cells K s) ∧ s.closed = true ∧ Q (.bl true) H
theorem ok_LNamed (T : Tx K mg) : OkF P w K mg base CX0 7 dLNamed ["_law_blade"] (spLNamed K) := by
  obtain ⟨fd, F⟩ := T.d_LNamed
  obtain ⟨fd1, G1, b1⟩ := ok_Feed (P := P) (w := w) (base := base) T
  refine ⟨fd, F.ok scLNamed (fun vs H Q E h => ?_) (fun cdv A outer s H vs Q E hr h => ?_), F.bindsN fun _ _ _ _ _ _ us hl => match us, hl with | [_], _ => rfl⟩
  · obtain ⟨s, rfl, _⟩ := h
    rfl
  · obtain ⟨s, rfl, A, hc, k⟩ := h
    refine ⟨_, PSs.nox (pss_cons (ps_set (i := 1) scLNamed.nd rfl (Or.inl rfl) pe_bl) (pss_cons (ps_try_only (tb := fun W => tDrop (tMethS (cB K) "feed" (spFeed K) (WE W) (tVar 0) (tCons (tC (.str "")) tNil))) (ts := fun _ _ _ => tAsg (tC (.bl true)) (gName 1)) (Wout := fun _ _ _ _ => False) rfl rfl ⟨rfl, by decide, Or.inl T.g_Finished⟩ takes0
        (fun W pn xe tk _ => pss_one (ps_expr (pe_methS (pv 0) T.cl_Blade T.m_Blade_feed G1 hr b1 (fun σ => passAt tk σ) (by exact (pa_cons pe_str pa_nil)))))
        (fun a oe cls d pn hz hf => pss_one (ps_set (i := 1) scLNamed.nd rfl (Or.inl rfl) pe_bl))) (pss_one (ps_ret (pv 1))))), ?_⟩
    refine ⟨_, rfl, _, _, _, rfl, A.get 0 rfl, lB_feed _, s, _, rfl, A, fun _ => ?_, fun h => ?_⟩
    · exact ⟨true, T.e_Finished_Finished, fun _ a ha => ⟨_, rfl, k⟩, fun q => Bool.noConfusion q⟩
    · rw [hc] at h
      cases h
end
end Rb
/-! The law. -/
namespace Rb
open PySem PySem.Spec PyProof.Rows L2
section
variable {P : Program} {w : World} {K : PySem.W.Frag} {mg : Str → Option Value} {base : Heap} {H H0 H' : Hp} {s s' : S} {hl : Addr} {qs : List Addr}
theorem At.tail {p : Addr × HO} {l : List (Addr × HO)} (A : At H (p :: l)) : At H l := ⟨(List.nodup_cons.mp A.1).2, fun q hq => A.2 q (List.mem_cons_of_mem _ hq)⟩
theorem At.head_out {a : Addr} {o : HO} {l : List (Addr × HO)} (A : At H ((a, o) :: l)) : a ∉ l.map Prod.fst := (List.nodup_cons.mp A.1).1
/-- a pair that is held: an answer and its copy, alike, none of the cells -/
def Good (H : Hp) (fp : List Addr) (q : Addr) : Prop := ∃ (a c : Addr) (rs : List Str), H q = some (.tup [.ref a, .ref c]) ∧ H a = some (.lst (rs.map V.str)) ∧ H c = some (.lst (rs.map V.str)) ∧ (∀ r ∈ rs, PyData.strOk r = true) ∧ q ∉ fp ∧ a ∉ fp ∧ c ∉ fp
/-- what stands between two turns of the law's loop: the blade, the list of what is held -/
structure LI (K : PySem.W.Frag) (H0 H : Hp) (hl : Addr) (qs : List Addr) (s : S) : Prop where
  at_ : At H ((hl, .lst (qs.map V.ref)) :: cells K s)
  same : Same H0 H
  new : ∀ x ∈ hl :: ads s, H0 x = none
  good : ∀ q ∈ qs, Good H (hl :: ads s) q
theorem Good.same {fp : List Addr} {q : Addr} (g : Good H fp q) (sm : Same H H') : Good H' fp q := by
  obtain ⟨a, c, rs, h1, h2, h3, h4, h5⟩ := g
  exact ⟨a, c, rs, sm _ _ h1, sm _ _ h2, sm _ _ h3, h4, h5⟩
theorem Good.mono {fp fp' : List Addr} {q : Addr} (g : Good H fp q) (h : ∀ x ∈ fp', x ∈ fp) : Good H fp' q := by
  obtain ⟨a, c, rs, h1, h2, h3, h4, h5, h6, h7⟩ := g
  exact ⟨a, c, rs, h1, h2, h3, h4, fun z => h5 (h _ z), fun z => h6 (h _ z), fun z => h7 (h _ z)⟩
theorem Good.put {fp : List Addr} {q x : Addr} {o : HO} (g : Good H fp q) (h : x ∈ fp) : Good (upd H x o) fp q := by
  obtain ⟨a, c, rs, h1, h2, h3, h4, h5, h6, h7⟩ := g
  exact ⟨a, c, rs, by rw [upd_ne (fun e => h5 (by rw [e]; exact h))]; exact h1, by rw [upd_ne (fun e => h6 (by rw [e]; exact h))]; exact h2, by rw [upd_ne (fun e => h7 (by rw [e]; exact h))]; exact h3, h4, h5, h6, h7⟩
theorem LI.cells (L : LI K H0 H hl qs s) : At H (Rb.cells K s) := L.at_.tail
theorem LI.grow (L : LI K H0 H hl qs s) (sm : Same H H') : LI K H0 H' hl qs s := ⟨L.at_.same sm, L.same.trans sm, L.new, fun q hq => (L.good q hq).same sm⟩
/-- a call of the blade that answers with its old list of rows -/
structure Called (K : PySem.W.Frag) (H0 H' : Hp) (hl : Addr) (qs : List Addr) (s' : S) (a0 : Addr) (rows : List V) : Prop where
  li : LI K H0 H' hl qs s'
  ans : H' a0 = some (.lst rows)
  out : a0 ∉ hl :: ads s'
  good : ∀ q ∈ qs, Good H' (a0 :: hl :: ads s') q
  new : H0 a0 = none
theorem LI.call (L : LI K H0 H hl qs s) {rows : List V} (A' : At H' ((s.g, .lst rows) :: Rb.cells K s')) (f : Fr (ads s) H H') (hn : ∀ x ∈ ads s', x ∈ ads s ∨ H x = none) : Called K H0 H' hl qs s' s.g rows := by
  have hlo : hl ∉ ads s := L.at_.head_out
  have hgm : s.g ∈ ads s := by simp [ads]
  have hlv : H hl = some (.lst (qs.map V.ref)) := L.at_.get 0 rfl
  have keep : ∀ x o, H x = some o → x ∉ ads s → x ∉ ads s' := fun x o e h hm => by
    rcases hn x hm with z | z
    · exact h z
    · rw [e] at z; cases z
  have hgo : s.g ∉ ads s' := A'.head_out
  have hlo' : hl ∉ ads s' := keep hl _ hlv hlo
  have hne : s.g ≠ hl := fun e => hlo (by rw [← e]; exact hgm)
  have good : ∀ q ∈ qs, Good H' (s.g :: hl :: ads s') q := fun q hq => by
    obtain ⟨a, c, rs, h1, h2, h3, h4, h5, h6, h7⟩ := L.good q hq
    have one : ∀ x o, H x = some o → x ∉ hl :: ads s → x ∉ s.g :: hl :: ads s' := fun x o e h hm => by
      rcases List.mem_cons.mp hm with z | z
      · exact h (List.mem_cons_of_mem _ (by rw [z]; exact hgm))
      · rcases List.mem_cons.mp z with z | z
        · exact h (by rw [z]; exact List.mem_cons_self)
        · exact keep x o e (fun m => h (List.mem_cons_of_mem _ m)) z
    exact ⟨a, c, rs, f _ _ h1 (fun m => h5 (List.mem_cons_of_mem _ m)), f _ _ h2 (fun m => h6 (List.mem_cons_of_mem _ m)), f _ _ h3 (fun m => h7 (List.mem_cons_of_mem _ m)), h4, one _ _ h1 h5, one _ _ h2 h6, one _ _ h3 h7⟩
  refine ⟨⟨⟨List.nodup_cons.mpr ⟨hlo', A'.tail.1⟩, fun q hq => ?_⟩, ?_, fun x hx => ?_, fun q hq => (good q hq).mono fun x hx => List.mem_cons_of_mem _ hx⟩, A'.get 0 rfl, ?_, good, L.new _ (List.mem_cons_of_mem _ hgm)⟩
  · rcases List.mem_cons.mp hq with e | z
    · rw [e]; exact f _ _ hlv hlo
    · exact A'.tail.2 q z
  · exact Same.fr L.same f fun x hx => L.new x (List.mem_cons_of_mem _ hx)
  · rcases List.mem_cons.mp hx with e | z
    · rw [e]; exact L.new _ List.mem_cons_self
    · rcases hn x z with q | q
      · exact L.new x (List.mem_cons_of_mem _ q)
      · exact L.same.free q
  · intro hm
    rcases List.mem_cons.mp hm with z | z
    · exact hne z
    · exact hgo z
theorem Called.grow {a0 : Addr} {rows : List V} (C : Called K H0 H hl qs s a0 rows) (sm : Same H H') : Called K H0 H' hl qs s a0 rows := ⟨C.li.grow sm, sm _ _ C.ans, C.out, fun q hq => (C.good q hq).same sm, C.new⟩
/-- the answer is changed: none of what is held changes -/
theorem Called.put {a0 : Addr} {rows rows' : List V} (C : Called K H0 H hl qs s a0 rows) : Called K H0 (upd H a0 (.lst rows')) hl qs s a0 rows' :=
  ⟨⟨C.li.at_.other C.out _, fun b o e => by rw [upd_ne (ne_of_none e C.new)]; exact C.li.same b o e, C.li.new, fun q hq => ((C.good q hq).put List.mem_cons_self).mono fun x hx => List.mem_cons_of_mem _ hx⟩, upd_same, C.out, fun q hq => (C.good q hq).put List.mem_cons_self, C.new⟩
/-- a pair more is held -/
theorem LI.push (L : LI K H0 H hl qs s) {q0 a0 c0 : Addr} {rs : List Str} (h1 : H q0 = some (.tup [.ref a0, .ref c0])) (h2 : H a0 = some (.lst (rs.map V.str))) (h3 : H c0 = some (.lst (rs.map V.str))) (h4 : ∀ r ∈ rs, PyData.strOk r = true)
    (n1 : q0 ∉ hl :: ads s) (n2 : a0 ∉ hl :: ads s) (n3 : c0 ∉ hl :: ads s) : LI K H0 (upd H hl (.lst (qs.map V.ref ++ [.ref q0]))) hl (qs ++ [q0]) s := by
  have m : hl ∈ hl :: ads s := List.mem_cons_self
  refine ⟨?_, fun b o e => ?_, L.new, fun q hq => ?_⟩
  · have A := L.at_.put 0 rfl (.lst (qs.map V.ref ++ [.ref q0]))
    rw [List.map_append]
    exact A
  · rw [upd_ne (ne_of_none e (L.new hl m))]; exact L.same b o e
  · rcases List.mem_append.mp hq with z | z
    · exact (L.good q z).put m
    · rw [List.mem_singleton.mp z]
      exact Good.put ⟨a0, c0, rs, h1, h2, h3, h4, n1, n2, n3⟩ m
/-! ### the law -/
def spLaw (K : PySem.W.Frag) : Sp := fun vs H Q _ => ∃ (a : Addr) (ns : List Int), vs = [.ref a] ∧ SqL K H a (ns.map V.int) ∧ ns.length ≤ 63 ∧ ∀ H', Q (.bl true) H'
theorem int_of {ns : List Int} {i : Nat} {y : V} (hi : (ns.map V.int)[i]? = some y) : ∃ z, y = V.int z := by
  rw [List.getElem?_map] at hi
  cases e : ns[i]? with
  | none =>
    rw [e] at hi
    cases hi
  | some z =>
    rw [e] at hi
    exact ⟨z, (Option.some.inj hi).symm⟩
theorem more_ok : PyData.strOk "a row more" = true := by decide +kernel
theorem sub_len {z : Str} {r : Int} (h : (z.length : Int) ≤ r) : 0 ≤ r - (z.length : Int) := by omega
/-- behind a turn, ahead of the next -/
structure Bt (s : S) (room : Int) (left : Str) : Prop where
  rs : Rest s
  op : s.closed = false
  lf : s.rest = left
  lv : s.lv.length ≤ 1
  pl : Pl left
  nof : 10 ∉ TL.tl left
  room0 : 0 ≤ room
  room1 : (left.length : Int) + room ≤ 190
theorem ok_Law (T : Tx K mg) (TK : Tk K) {fd : FuncData} (F : FunD K dLaw.name dLaw.qual dLaw.params dLaw.body dLaw.scope [] [] (He.fAd K dLaw.at_) fd) : FnOk P w K mg base CX0 8 (He.fAd K dLaw.at_) fd ["_law_script"] (spLaw K) := by
  obtain ⟨fdBl, GBl, bBl⟩ := ok_BlInit (P := P) (w := w) (base := base) T
  obtain ⟨fdRd, GRd, bRd⟩ := ok_Read (P := P) (w := w) (base := base) T
  obtain ⟨_, FRd⟩ := T.d_Read
  obtain ⟨fdPi, GPi, bPi⟩ := ok_LPiece (P := P) (w := w) (base := base) T
  obtain ⟨_, FPi⟩ := T.d_LPiece
  obtain ⟨fdCu, GCu, bCu⟩ := ok_LCut (P := P) (w := w) (base := base) T
  obtain ⟨_, FCu⟩ := T.d_LCut
  obtain ⟨fdFe, GFe, bFe⟩ := ok_Feed (P := P) (w := w) (base := base) T
  obtain ⟨fdFi, GFi, bFi⟩ := ok_Finish (P := P) (w := w) (base := base) T
  obtain ⟨fdRo, GRo, bRo⟩ := ok_LRows (P := P) (w := w) (base := base) T
  obtain ⟨_, FRo⟩ := T.d_LRows
  obtain ⟨fdKe, GKe, bKe⟩ := ok_BlKept (P := P) (w := w) (base := base) T
  obtain ⟨fdWh, GWh, bWh⟩ := ok_LWhole (P := P) (w := w) (base := base) T
  obtain ⟨_, FWh⟩ := T.d_LWhole
  obtain ⟨fdBo, GBo, bBo⟩ := ok_Boxes (P := P) (w := w) (base := base) T
  obtain ⟨fdFa, GFa, bFa⟩ := ok_Faults (P := P) (w := w) (base := base) T
  obtain ⟨fdRf, GRf, bRf⟩ := ok_LRefused (P := P) (w := w) (base := base) T TK
  obtain ⟨_, FRf⟩ := T.d_LRefused
  obtain ⟨fdNa, GNa, bNa⟩ := ok_LNamed (P := P) (w := w) (base := base) T
  obtain ⟨_, FNa⟩ := T.d_LNamed
  refine F.ok scLaw (fun vs H Q E h => ?_) (fun cdv A outer s H vs Q E hr h => ?_)
  · obtain ⟨a, ns, rfl, _⟩ := h
    rfl
  · obtain ⟨a, ns, rfl, hS, hlen, k⟩ := h
    have hr1 : Room 1 _ := hr.mono (by decide)
    have hr2 : Room 2 _ := hr.mono (by decide)
    have hr3 : Room 3 _ := hr.mono (by decide)
    have hr6 : Room 6 _ := hr.mono (by decide)
    refine ⟨_, PSs.nox (pss_cons (ps_set (i := 1) scLaw.nd rfl (Or.inl rfl) (pe_make T.mk_Blade GBl hr6 rfl T.g_Blade bBl .nil pass0 (pa_cons (pe_call GRd hr3 rfl T.g_read FRd.kp bRd .nil pass0 (pa_cons pe_str pa_nil)) pa_nil))) (pss_cons (ps_set (i := 2) scLaw.nd rfl (Or.inl rfl) pe_int) (pss_cons (ps_set (i := 3) scLaw.nd rfl (Or.inl rfl) pe_str) (pss_cons (ps_set (i := 4) scLaw.nd rfl (Or.inl rfl) (pe_lst pa_nil)) (pss_cons (ps_for PassesOwn.never rfl (pi_list (pv 0)) (pg_name (i := 5) scLaw.nd rfl (Or.inl rfl))
        (pss_cons (ps_set (i := 6) scLaw.nd rfl (Or.inl rfl) (pe_call GPi hr2 rfl T.g__law_piece FPi.kp bPi .nil pass0 (pa_cons (pv 5) (pa_cons (pv 2) pa_nil))))
        (pss_cons (ps_set (i := 2) scLaw.nd rfl (Or.inl rfl) (pe_op op_sub (pv 2) (pe_callB call_len_str (by rfl) T.f_len boot_len (pa_cons (pv 6) pa_nil))))
        (pss_cons (ps_asg (pe_call GCu hr1 rfl T.g__law_cut FCu.kp bCu .nil pass0 (pa_cons (pv 3) (pa_cons (pv 6) pa_nil))) (pg_tup rfl (pgs_cons (pg_name (i := 7) scLaw.nd rfl (Or.inl rfl)) (pgs_cons (pg_name (i := 3) scLaw.nd rfl (Or.inl rfl)) pgs_nil))))
        (pss_cons (ps_set (i := 8) scLaw.nd rfl (Or.inl rfl) (pe_meth (pv 1) T.cl_Blade T.m_Blade_feed GFe hr6 bFe .nil passL (pa_cons (pv 6) pa_nil)))
        (pss_cons (ps_if (pt_not (pt_val (pe_call GRo hr1 rfl T.g__law_rows FRo.kp bRo .nil pass0 (pa_cons (pv 8) (pa_cons (pv 7) pa_nil))))) (pss_one (ps_ret pe_bl)) pss_nil)
        (pss_cons (ps_set (i := 9) scLaw.nd rfl (Or.inl rfl) (pe_meth0 (pv 1) T.cl_Blade T.m_Blade_kept GKe hr2 bKe .nil pass0))
        (pss_cons (ps_if (PW.pt (pw_or (pt_not (pt_val (pe_call GWh hr1 rfl T.g__law_whole FWh.kp bWh .nil pass0 (pa_cons (pv 9) pa_nil)))) (pw_or (pt_cmpR op_ne (pv 9) pe_int (nomark _))
            (pw_or (pt_cmpR (op_ne_dictA hr.units0) (pe_meth0 (pv 1) T.cl_Blade T.m_Blade_boxes GBo hr1 bBo .nil pass0) pe_dnewK (nomark _))
              (pw_or1 (pt_cmpR (op_neD hr.units) (pe_meth0 (pv 1) T.cl_Blade T.m_Blade_faults GFa hr1 bFa .nil pass0) (pe_lst pa_nil) (nomark _))))))) (pss_one (ps_ret pe_bl)) pss_nil)
        (C8.pss_cut (ps_if (pt_cmpR op_eq (pe_op op_mod (pv 5) pe_int) pe_int (nomark _)) (pss_one (ps_expr (pe_bm PySem.F.plainAttrs_list PySem.F.slot_list_append PySem.F.type_list_append mt_append (pv 8) (pa_cons (pe_str) pa_nil)))) pss_nil)
        (pss_one (ps_expr (pe_bm PySem.F.plainAttrs_list PySem.F.slot_list_append PySem.F.type_list_append mt_append (pv 4) (pa_cons (pe_tup (pa_cons (pv 8) (pa_cons (pe_callTy call_list_of (by rfl) T.f_list PyProof.Rows.boot_list (pa_cons (pv 8) pa_nil)) pa_nil))) pa_nil))))))))))))) (pss_cons (ps_set (i := 10) scLaw.nd rfl (Or.inl rfl) (pe_meth0 (pv 1) T.cl_Blade T.m_Blade_finish GFi hr6 bFi .nil passL)) (pss_cons (ps_if (pt_not (pt_val (pe_call GRo hr1 rfl T.g__law_rows FRo.kp bRo .nil pass0 (pa_cons (pv 10) (pa_cons
        (pe_lc (own := [("_law_row", 12)]) (g := gName 12) (tt := tTest (tOp rNe (tVar 12) (tC (.str "")))) (te := tVar 12) rfl scLaw.nd (pi_list (pe_lst (pa_cons (pv 3) pa_nil))) (blkOk_by (N := ["_law_script", "_law_blade", "_law_room", "_law_left", "_law_held", "_law_cell", "_law_piece_here", "_law_due", "_law_answer", "_law_many", "_law_last", "_law_kept", "_law_row"]) (sc := defScope sLaw) (by decide +kernel))
          (fun _ _ _ _ _ => pg_name (i := 12) scLaw.nd rfl (Or.inl rfl)) (fun _ _ _ _ _ => pts_one (pt_cmpR op_ne (pv 12) pe_str (nomark _))) (fun _ _ _ _ _ => pv 12)) pa_nil))))) (pss_one (ps_ret pe_bl)) pss_nil) (pss_cons (ps_if (PW.pt (pw_or (pt_not (pt_val (pe_call GRf hr rfl T.g__law_refused FRf.kp bRf .nil pass0 (pa_cons (pv 1) (pa_cons pe_bl pa_nil)))))
        (pw_or (pt_not (pt_val (pe_call GRf hr rfl T.g__law_refused FRf.kp bRf .nil pass0 (pa_cons (pv 1) (pa_cons pe_bl pa_nil)))))
          (pw_or1 (pt_not (pt_val (pe_call GNa hr rfl T.g__law_named FNa.kp bNa .nil pass0 (pa_cons (pv 1) pa_nil)))))))) (pss_one (ps_ret pe_bl)) pss_nil) (pss_cons (ps_for PassesOwn.never rfl (pi_list (pv 4)) (pg_tup rfl (pgs_cons (pg_name (i := 8) scLaw.nd rfl (Or.inl rfl)) (pgs_cons (pg_name (i := 11) scLaw.nd rfl (Or.inl rfl)) pgs_nil)))
        (pss_one (ps_if (pt_cmpR (op_neD hr.units) (pv 8) (pv 11) (nomark _)) (pss_one (ps_ret pe_bl)) pss_nil))) (pss_one (ps_ret (pe_and (pe_cmpR (op_eq_dictA hr.units0) (pe_meth0 (pv 1) T.cl_Blade T.m_Blade_boxes GBo hr1 bBo .nil pass0) pe_dnewK (nomark _)) (pe_one (pe_cmpR (op_eqD hr.units) (pe_meth0 (pv 1) T.cl_Blade T.m_Blade_faults GFa hr1 bFa .nil pass0) (pe_lst pa_nil) (nomark _))))))))))))))), ?_⟩
    -- blade = Blade(read(""))
    refine ⟨rfl, fun H1 pr dpr ln hln0 atp sm1 => ?_⟩
    have at1 := atp [] (At.nil H)
    have hpr1 : H1 pr = some (oPr K dpr ln) := at1.get 0 rfl
    have hln1 : H1 ln = some (.lst []) := at1.get 1 rfl
    intro b dB hb hdb hne
    have sm := same_made (C := cB K) hb hdb hne
    refine ⟨b, dB, pr, dpr, ln, rfl, upd_same, sm _ _ hpr1, sm _ _ hln1, fun H2 s0 eb fresh A2 f2 hn => ⟨rfl, ?_⟩⟩
    have sm2 : Same H1 H2 := fun x o e => f2 x o (sm x o e) (by simpa using ne_of_none e hb)
    -- room = 190; left = ""; held = []
    refine ⟨Nat.zero_le _, fun hl hhl => ?_⟩
    have L0 : LI K H (upd H2 hl (.lst [])) hl [] s0 := by
      refine ⟨A2.new hhl (.lst []), (sm1.trans sm2).trans (Same.new hhl), fun x hx => ?_, fun q hq => nomatch hq⟩
      rcases List.mem_cons.mp hx with e | z
      · rw [e]; exact (sm1.trans sm2).free hhl
      · rcases hn x z with e | e | e
        · rw [e]; exact sm1.free hb
        · rw [e]; exact hln0
        · exact (sm1.trans sm).free e
    subst eb
    have B0 : Bt s0 190 "" := ⟨⟨fresh.gv, fresh.wv, fresh.made, fresh.over⟩, fresh.closed, fresh.rest, fresh.lv, Pl.empty, by rw [tl_empty]; simp, by decide, by decide +kernel⟩
    -- the loop over the script
    refine ⟨_, rfl, a, rfl, ⟨_, L0.same.seq hS⟩, for_list (K := K) (a := a) (xs := ns.map V.int) (fun i σ H' => ∃ (s : S) (room : Int) (left : Str) (qs : List Addr) (v5 v6 v7 v8 v9 : Option V),
      σ = [some (.ref a), some (.ref s.b), some (.int room), some (.str left), some (.ref hl), v5, v6, v7, v8, v9, none, none, none] ∧ LI K H H' hl qs s ∧ Bt s room left ∧ qs.length ≤ i)
      ⟨s0, 190, "", [], none, none, none, none, none, rfl, L0, B0, Nat.le_refl _⟩ (fun i σ H' _ ⟨_, _, _, _, _, _, _, _, _, _, L, _⟩ => L.same.seq hS) ?_ ?_⟩
    · rintro i y σ H4 hi ⟨s, room, left, qs, v5, v6, v7, v8, v9, rfl, L, B, hq⟩
      have hi63 : i < 63 := by
        have h := (List.getElem?_eq_some_iff.mp hi).1
        rw [List.length_map] at h
        omega
      obtain ⟨z, rfl⟩ := int_of hi
      have r1 := B.room1
      have big : 100000 ≤ sizeLine := by decide
      -- piece = _law_piece(cell, room)
      refine ⟨_, rfl, _, rfl, z, room, rfl, B.room0, by omega, fun pz hz1 hz2 => ?_⟩
      have hz190 : pz.length ≤ 190 := by omega
      have hl190 : left.length ≤ 190 := by have := B.room0; omega
      -- room = room - len(piece)
      refine ⟨_, rfl, _, rfl, pz, rfl, by omega, _, _, rfl, rfl, ?_⟩
      -- due, left = _law_cut(left, piece)
      refine ⟨_, rfl, _, rfl, left, pz, rfl, B.pl, hz2, B.nof, by omega, fun H5 p t sm5 hp hp5 ht5 => ?_⟩
      have cok := cutAll_ok (left := left) (l := TL.tl pz) hz2 B.pl B.nof
      have hcut := split_cut left pz B.nof
      have hpl : (TL.tl pz).length = pz.length := (TL.len_tl pz).symm
      generalize cutAll left (TL.tl pz) = cu at hp5 ht5 cok hcut
      obtain ⟨rows, left'⟩ := cu
      have clen : left'.length + rows.length ≤ left.length + pz.length := by
        have h := cok.len
        rw [hpl] at h
        exact h
      refine ⟨t, _, rfl, SqT.of ht5, rfl, _, _, rfl, _, _, rfl, rfl, ?_⟩
      have L5 := L.grow sm5
      have A5 := L5.cells
      -- answer = blade.feed(piece)
      refine ⟨_, rfl, _, _, _, rfl, A5.get 0 rfl, lB_feed _, _, rfl, s, pz, rfl, A5, fun h => ?_, fun _ => ⟨left', rows, ?_, B.rs, ?_, ?_, fun H6 s' R' er ec elv eb A6 f6 hn6 => ?_⟩⟩
      · rw [B.op] at h
        cases h
      · rw [B.lf]
        exact hcut
      · rw [B.lf]
        omega
      · have := B.lv
        omega
      have C6 := L5.call A6 f6 hn6
      have hp6 : H6 p = some (.lst (rows.map V.str)) := f6 p _ hp5 (L.cells.out hp)
      rw [← eb]
      -- if not _law_rows(answer, due)
      refine ⟨_, rfl, _, rfl, s.g, p, rows, rfl, C6.ans, hp6, fun r hr => (cok.rows r hr).ok, by omega, fun H7 sm7 => ⟨true, rfl, if_false_of rfl ?_⟩⟩
      have C7 := C6.grow sm7
      -- many = blade.kept()
      refine ⟨_, rfl, _, _, _, rfl, C7.li.cells.get 0 rfl, lB_kept _, s', rfl, C7.li.cells, ?_⟩
      rw [R'.wv, R'.made]
      -- if not _law_whole(many) or many != 0 or blade.boxes() != {} or blade.faults() != []
      refine ⟨_, rfl, _, rfl, true, rfl, if_false_of rfl ?_⟩
      refine ⟨_, rfl, rfl, _, rfl, if_false_of (by rfl) ?_⟩
      refine ⟨_, rfl, _, _, _, rfl, C7.li.cells.get 0 rfl, lB_boxes _, s', rfl, C7.li.cells, fun p1 hp1 => ?_⟩
      intro p2 hp2
      have n12 := ne_of_none upd_same hp2
      refine ⟨p1, p2, [], [], rfl, rfl, by rw [upd_ne n12]; exact upd_same, upd_same, rfl, (fun _ h => nomatch h), _, rfl, if_false_of rfl ?_⟩
      have C9 := (C7.grow (Same.new (o := .dK []) hp1)).grow (Same.new (o := .dK []) hp2)
      refine ⟨_, rfl, _, _, _, rfl, C9.li.cells.get 0 rfl, lB_faults _, s', rfl, C9.li.cells, fun p3 hp3 => ?_⟩
      refine ⟨Nat.zero_le _, fun p4 hp4 => ?_⟩
      have n34 := ne_of_none upd_same hp4
      refine ⟨.list [], .list [], .lst (SqL.of (by rw [upd_ne n34]; exact upd_same)) .nil, .lst (SqL.of upd_same) .nil, rfl, rfl, _, rfl, if_false_of rfl ?_⟩
      have C11 := (C9.grow (Same.new (o := .lst []) hp3)).grow (Same.new (o := .lst []) hp4)
      generalize upd (upd (upd (upd H7 p1 (.dK [])) p2 (.dK [])) p3 (.lst [])) p4 (.lst []) = H11 at C11 ⊢
      -- if cell % 5 == 1: answer.append("a row more")
      refine ⟨fun σ' H' => ∃ rs : List Str, σ' = [some (.ref a), some (.ref s'.b), some (.int (room - (pz.length : Int))), some (.str left'), some (.ref hl), some (.int z), some (.str pz), some (.ref p), some (.ref s.g), some (.int ((([] : List V).length : Int) + 0)), none, none, none] ∧ Called K H H' hl qs s' s.g (rs.map V.str) ∧ (∀ r ∈ rs, PyData.strOk r = true) ∧ rs.length ≤ 400, ?_, ?_⟩
      · refine ⟨_, rfl, _, _, rfl, rfl, by show (0 : Int) < 5; decide, rfl, _, rfl, ?_⟩
        refine ite2 (fun _ => ?_) (fun _ => ?_)
        · refine ⟨_, rfl, .inl ⟨rfl, _, SqL.of C11.ans⟩, s.g, _, _, rfl, rfl, C11.ans, by rw [List.length_map]; omega, ?_⟩
          refine ⟨rows ++ [("a row more" : Str)], rfl, ?_, fun r hr => ?_, by rw [List.length_append]; show rows.length + 1 ≤ 400; omega⟩
          · rw [List.map_append]
            exact C11.put
          · rcases List.mem_append.mp hr with h | h
            · exact (cok.rows r h).ok
            · rw [List.mem_singleton.mp h]; exact more_ok
        · exact ⟨rows, rfl, C11, fun r hr => (cok.rows r hr).ok, by omega⟩
      · rintro σ' H12 ⟨rs, rfl, C12, ok12, len12⟩
        -- held.append((answer, list(answer)))
        refine ⟨_, rfl, .inl ⟨rfl, _, SqL.of (C12.li.at_.get 0 rfl)⟩, _, rfl, _, rfl, s.g, _, rfl, .inl (SqL.of C12.ans), fun c0 hc0 => ⟨by show 2 ≤ sizeLine; decide, fun q0 hq0 => ?_⟩⟩
        have C13 := C12.grow (Same.new (o := .lst (rs.map V.str)) hc0)
        have C14 := C13.grow (Same.new (o := .tup [.ref s.g, .ref c0]) hq0)
        have ncq := ne_of_none upd_same hq0
        refine ⟨hl, _, _, rfl, rfl, C14.li.at_.get 0 rfl, by rw [List.length_map]; omega, ?_⟩
        refine ⟨s', room - (pz.length : Int), left', qs ++ [q0], _, _, _, _, _, rfl, C14.li.push upd_same C14.ans (by rw [upd_ne ncq]; exact upd_same) ok12 (C13.li.at_.out hq0) C14.out (C12.li.at_.out hc0),
          ⟨R', ec, er, by rw [elv]; exact Nat.zero_le _, cok.left, cok.nof, by omega, by omega⟩, by rw [List.length_append]; show qs.length + 1 ≤ i + 1; omega⟩
    · rintro σ H5 ⟨s, room, left, qs, v5, v6, v7, v8, v9, rfl, L, B, hq⟩
      have hl190 : left.length ≤ 190 := by have := B.room0; have := B.room1; omega
      -- last = blade.finish()
      refine ⟨_, rfl, _, _, _, rfl, L.cells.get 0 rfl, lB_finish _, s, rfl, L.cells, fun h => ?_, fun _ => ⟨B.rs, ?_, ?_, fun H6 s' ec eb A6 f6 hn6 => ?_⟩⟩
      · rw [B.op] at h
        cases h
      · rw [B.lf]
        exact B.pl.ok
      · have := B.lv
        have : 100000 ≤ sizeLine := by decide
        omega
      have C6 := L.call A6 f6 hn6
      rw [B.lf] at C6
      rw [← eb]
      have hlok : ∀ r ∈ lastOf left, PyData.strOk r = true := fun r hr => by
        unfold lastOf at hr
        split at hr
        · cases hr
        · rw [List.mem_singleton.mp hr]
          exact B.pl.ok
      -- if not _law_rows(last, [row for row in [left] if row != ""])
      refine ⟨_, rfl, _, rfl, by show 1 ≤ sizeLine; decide, fun lp hlp => ⟨lp, rfl, ⟨_, SqL.of upd_same⟩, fun D hD => ?_⟩⟩
      refine lc_list (K := K) (a := lp) (xs := [V.str left]) (fun i H' => Same (upd H6 lp (.lst [V.str left])) H' ∧ H' D = some (.lst ((if i = 0 then [] else lastOf left).map V.str))) ⟨Same.new hD, upd_same⟩ (fun i H' _ ⟨sm, _⟩ => SqL.of (sm _ _ upd_same)) ?_ ?_
      · rintro i y H' hi ⟨sm, hDi⟩
        match i, hi, hDi with
        | 0, hi, hDi =>
          have ey : y = V.str left := (Option.some.inj hi).symm
          subst ey
          refine ⟨rfl, ?_⟩
          refine ⟨_, rfl, rfl, _, rfl, ?_⟩
          by_cases e : left = ""
          · refine if_false_of (by rw [e]; rfl) ⟨sm, ?_⟩
            have e1 : lastOf left = [] := if_pos e
            show H' D = some (.lst ((lastOf left).map V.str))
            rw [e1]
            exact hDi
          · have e1 : lastOf left = [left] := if_neg e
            refine if_true_of (by rw [str_dec, decide_eq_false e]; rfl) ⟨_, rfl, _, hDi, by show 0 < sizeLine; decide, fun x o h => ?_, ?_⟩
            · rw [upd_ne (fun q => by rw [q, hD] at h; cases h)]
              exact sm x o h
            · show (upd H' D (.lst ([] ++ [V.str left]))) D = some (.lst ((lastOf left).map V.str))
              rw [e1]
              exact upd_same
        | i + 1, hi, _ =>
          simp at hi
      · rintro H7 ⟨sm7, hD7⟩
        have C7 := (C6.grow (Same.new (o := .lst [V.str left]) hlp)).grow sm7
        refine ⟨s.g, D, lastOf left, rfl, C7.ans, hD7, hlok, Nat.lt_of_le_of_lt (last_le left) (by decide), fun H8 sm8 => ⟨true, rfl, if_false_of rfl ?_⟩⟩
        have C8 := C7.grow sm8
        -- the refusals
        refine ⟨_, rfl, s', true, rfl, C8.li.cells, ec, fun H9 sm9 => ⟨true, rfl, if_false_of rfl ?_⟩⟩
        have C9 := C8.grow sm9
        refine ⟨_, rfl, s', false, rfl, C9.li.cells, ec, fun H10 sm10 => ⟨true, rfl, if_false_of rfl ?_⟩⟩
        have C10 := C9.grow sm10
        refine ⟨_, rfl, s', rfl, C10.li.cells, ec, true, rfl, if_false_of rfl ?_⟩
        -- for answer, kept in held
        refine ⟨_, rfl, hl, rfl, ⟨_, SqL.of (C10.li.at_.get 0 rfl)⟩, for_list (K := K) (a := hl) (xs := qs.map V.ref) (fun i σ H' => H' = H10 ∧ ∃ (v8 v11 : Option V), σ = [some (.ref a), some (.ref s'.b), some (.int room), some (.str left), some (.ref hl), v5, v6, v7, v8, v9, some (.ref s.g), v11, none])
          ⟨rfl, _, _, rfl⟩ (fun i σ H' _ ⟨e, _⟩ => by rw [e]; exact SqL.of (C10.li.at_.get 0 rfl)) ?_ ?_⟩
        · rintro i y σ H' hi ⟨rfl, v8, v11, rfl⟩
          obtain ⟨q, hqm, rfl⟩ : ∃ q, q ∈ qs ∧ y = V.ref q := by
            rw [List.getElem?_map] at hi
            cases e : qs[i]? with
            | none =>
              rw [e] at hi
              cases hi
            | some q =>
              rw [e] at hi
              exact ⟨q, List.mem_of_getElem? e, (Option.some.inj hi).symm⟩
          obtain ⟨ga, gc, rs, h1, h2, h3, h4, _⟩ := C10.li.good q hqm
          refine ⟨q, _, rfl, SqT.of h1, rfl, _, _, rfl, _, _, rfl, rfl, ?_⟩
          refine ⟨_, rfl, _, rfl, .list (rs.map PyData.str), .list (rs.map PyData.str), .lst (SqL.of h2) (dp_strs (a := ga) rs), .lst (SqL.of h3) (dp_strs (a := gc) rs), shaped_strs rs h4, shaped_strs rs h4, _, rfl, ?_⟩
          have e : PyData.eqv (.list (rs.map PyData.str)) (.list (rs.map PyData.str)) = true := eqv_strs rs
          refine if_false_of (by rw [e]; rfl) ?_
          exact ⟨rfl, _, _, rfl⟩
        · rintro σ H' ⟨rfl, v8, v11, rfl⟩
          -- return blade.boxes() == {} and blade.faults() == []
          refine ⟨_, rfl, _, _, _, rfl, C10.li.cells.get 0 rfl, lB_boxes _, s', rfl, C10.li.cells, fun p1 hp1 => ?_⟩
          intro p2 hp2
          have n12 := ne_of_none upd_same hp2
          refine ⟨p1, p2, [], [], rfl, rfl, by rw [upd_ne n12]; exact upd_same, upd_same, rfl, (fun _ h => nomatch h), true, rfl, if_true_of rfl ?_⟩
          have C12 := (C10.grow (Same.new (o := .dK []) hp1)).grow (Same.new (o := .dK []) hp2)
          refine ⟨_, rfl, _, _, _, rfl, C12.li.cells.get 0 rfl, lB_faults _, s', rfl, C12.li.cells, fun p3 hp3 => ?_⟩
          refine ⟨Nat.zero_le _, fun p4 hp4 => ?_⟩
          have n34 := ne_of_none upd_same hp4
          exact ⟨.list [], .list [], .lst (SqL.of (by rw [upd_ne n34]; exact upd_same)) .nil, .lst (SqL.of upd_same) .nil, rfl, rfl, k _⟩
end
end Rb
namespace Rb
open PySem PySem.Spec PyProof.Rows L2
theorem facts {P : Program} {w : World} {K : PySem.W.Frag} {h : Heap} {mg : Str → Option Value} {f : Addr} (X : K.In h) (G : h.Ns mainGlobals mg) (hfa : mg ("law" : Str) = some (.ref f)) (c : SaysZ K) :
    ∃ fd : FuncData, (∀ (s : Shared) (v : Value), BindsTo s fd ⟨[v], []⟩ [("_law_script", v)]) ∧ ∀ base : Heap, K.In base → base.Ns mainGlobals mg → FnOk P w K mg base CX0 8 f fd ["_law_script"] (spLaw K) := by
  have T : Tx K mg := tx_of X G c.d
  have e := hfa.symm.trans T.g_law
  cases e
  obtain ⟨fd, F⟩ := T.d_Law
  have b := FunD.bindsA (ps := ["_law_script"]) F fun _ _ _ _ _ _ us hl => match us, hl with | [_], _ => rfl
  exact ⟨fd, fun s v => b s [v] rfl, fun base _ _ => ok_Law (P := P) (w := w) (base := base) T c.k F⟩
end Rb
open PySem PySem.W PySem.Calls PyProof.Rows
theorem PySem.Challenge.cw_rowblade_k41_rows_of_pieces_holds : PySem.Challenge.rw_rowblade_k41_rows_of_pieces.Holds := by
  w_on; o_law
  refine HandSHeadRun.head_any (r := OpenLaw.row PySem.Challenge.rw_rowblade_k41_rows_of_pieces) (q := Rb.qv) (H := Rb.hookZ) (ob := Rb.ob) (M := 20000) (loose := Rb.names) (d := HandSHeadRun.topDef (OpenLaw.row PySem.Challenge.rw_rowblade_k41_rows_of_pieces).prog 112) (kwd := []) Rb.ob_eq
    (by kernel_rfl) (fun s => by kernel_rfl) Rb.run (by kernel_rfl) (by kernel_rfl) (by kernel_rfl) (by rfl) (by first | assumption | decide +kernel) (by decide +kernel) ⟨rfl, rfl, rfl, rfl, rfl, by decide +kernel⟩ ?hw ?hc
  case hw => w_witness2
  case hc =>
    refine L2.walk_ofE (l := PySem.Challenge.rw_rowblade_k41_rows_of_pieces) (n := 63) (k := 8) (x := "_law_script") (CX := L2.CX0) rfl (by decide) (by kernel_rfl) ⟨rfl, by decide, by decide⟩ ?F (fun _ _ _ _ z => z)
    intro w mg fa h Y G hmg0
    obtain ⟨K, KX, c⟩ := Y
    have hmg : mg ("law" : PySem.Str) = some (.ref fa) := by
      have e : (HandSHeadRun.topDef (OpenLaw.row PySem.Challenge.rw_rowblade_k41_rows_of_pieces).prog 112).name = ("law" : PySem.Str) := by kernel_rfl
      rw [← e]
      exact hmg0
    obtain ⟨fd, hb, hF⟩ := Rb.facts (P := (PySem.Challenge.rw_rowblade_k41_rows_of_pieces).prog) (w := w) KX G hmg c
    exact ⟨K, fd, Rb.spLaw K, KX, hb, fun H a ns hl _ hS => ⟨a, ns, rfl, hS, hl, fun _ => rfl⟩, hF⟩
