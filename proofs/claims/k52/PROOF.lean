import PyProof.Rows.All
import Wide.All
import OpenK.AllK
import Wide.FinOn
import KE.KStateDown
import HandS.Base
import HandS.Call
import HandS.Ends
import HandS.More
import HandS.Words
import HandS.WordsExc
import HandS.Defaults
import HandS.ExcInit
import HandS.ExcField
import HandS.Lambda
import HandS.Head0
import HandS.Head1
import HandS.Head2
import HandS.HeadEnd
import HandS.HeadHook1
import HandS.HeadHook2
import HandS.HeadHook3
import HandS.HeadHook4
import PySem.Challenge.RW_burinleaf_k52_whole_many_deeds_as_one
import HandS.ForMost
import HandS.ForExc
import HandS.TryMany
import HandS.Codes
import HandS.TupAny
import HandS.TupMul
import HandS.IsInst
import HandS.OwnEq
import HandS.Conv
import KE.GoesRaise
import HandS.ClsMeth
import KE.KExcInit
import HandS.Zip0
import PyProof.InstNe
import OpenK.KOps
import PyProof.Rows.Range3
import HandS.DictSub
import HandS.Finally
import HandS.WrittenGet
import PyProof.P3Eq
import KE.SortData
import HandS.TupLe
import HandS.MakeKwOnly
import HandS.DictComp
import HandS.Walk
import HandS.Iter
import HandS.SetFor
import HandS.FStr
import HandS.Style
import KE.KSortedM
import PyProof.DictUpdate
import HandS.HeadWalk
set_option Elab.async false
set_option linter.all false
set_option maxRecDepth 100000
set_option maxHeartbeats 4000000
/-! The text by places; the facts of the head by names; the Hook. Printed by gen_text.py. -/
namespace Bu
open PySem PySem.Spec PyProof.Rows L2
abbrev RL := PySem.Challenge.rw_burinleaf_k52_whole_many_deeds_as_one
abbrev R : PySem.W.OpenRow := PySem.W.OpenLaw.row RL
def top (i : Nat) : Stmt := PySem.Challenge.pw_burinleaf_k52_whole_many_deeds_as_one.main.body.getD i (.Pass ⟨0, 0, 0, 0⟩)

abbrev s_BurinError_init : Stmt := inClass (top 1) 0
abbrev s_Missing_init : Stmt := inClass (top 2) 0
abbrev s_BadPaper_init : Stmt := inClass (top 4) 0
abbrev s_BadPlace_init : Stmt := inClass (top 6) 0
abbrev s_BadStaff_init : Stmt := inClass (top 7) 0
abbrev s_BadSpan_init : Stmt := inClass (top 8) 0
abbrev s_BadThick_init : Stmt := inClass (top 9) 0
abbrev s_BadWord_init : Stmt := inClass (top 10) 0
abbrev s_Same_init : Stmt := inClass (top 11) 0
abbrev s_Full_init : Stmt := inClass (top 12) 0
abbrev s_BadDeed_init : Stmt := inClass (top 13) 0
abbrev s_BadBar_init : Stmt := inClass (top 15) 0
abbrev s_NoBreak_init : Stmt := inClass (top 17) 0
abbrev s_NoBar_init : Stmt := inClass (top 18) 0
abbrev s_NoMoment_init : Stmt := inClass (top 19) 0
abbrev s_NoMark_init : Stmt := inClass (top 20) 0
abbrev s_good_head : Stmt := top 54
abbrev s_good_moment : Stmt := top 55
abbrev s_bar_fault : Stmt := top 56
abbrev s_paper : Stmt := top 100
abbrev s_need_music : Stmt := top 119
abbrev s_put_bar : Stmt := top 120
abbrev s_put_change : Stmt := top 121
abbrev s_put_cut : Stmt := top 122
abbrev s_put_move : Stmt := top 123
abbrev s_put_mark : Stmt := top 124
abbrev s_put_wipe : Stmt := top 125
abbrev s_put_end : Stmt := top 126
abbrev s_put_paper : Stmt := top 127
abbrev s_put_many : Stmt := top 128
abbrev s_need_form : Stmt := top 131
abbrev s_need_deed : Stmt := top 132
abbrev s_done : Stmt := top 133
abbrev s_law_bag : Stmt := top 137
abbrev s_law_model : Stmt := top 138
abbrev s_law_pull : Stmt := top 139
abbrev s_law_number : Stmt := top 140
abbrev s_law_heads : Stmt := top 141
abbrev s_law_moment : Stmt := top 142
abbrev s_law_quick_bar : Stmt := top 143
abbrev s_law_bar : Stmt := top 144
abbrev s_law_any_bar : Stmt := top 145
abbrev s_law_tip : Stmt := top 146
abbrev s_law_spot : Stmt := top 147
abbrev s_law_sheet : Stmt := top 148
abbrev s_law_deed : Stmt := top 149
abbrev s_law_same : Stmt := top 150
abbrev s_law_tried : Stmt := top 151
abbrev s_law_formless : Stmt := top 152
abbrev s_law_mark_bad : Stmt := top 153
abbrev s_law_fault : Stmt := top 154
abbrev s_law_bar_bad : Stmt := top 155
abbrev s_law_bad : Stmt := top 156
abbrev s_law_sweep : Stmt := top 157
abbrev s_law_put : Stmt := top 158
abbrev s_law_copy : Stmt := top 159
abbrev s_law_apply : Stmt := top 160
abbrev s_law_one_by_one : Stmt := top 161
abbrev s_law_look : Stmt := top 162
abbrev s_law_stands : Stmt := top 163
abbrev s_law : Stmt := top 164
abbrev s_Stand_init : Stmt := inClass (top 118) 0
abbrev s_Stand_like : Stmt := inClass (top 118) 1
abbrev s_Stand_told : Stmt := inClass (top 118) 2
abbrev s_Stand_need_bar : Stmt := inClass (top 118) 3
abbrev s_Stand_spot : Stmt := inClass (top 118) 4
abbrev s_Stand_lies : Stmt := inClass (top 118) 5
abbrev s_Stand_sweep : Stmt := inClass (top 118) 6
abbrev s_Shop_init : Stmt := inClass (top 135) 0
abbrev s_Shop_eq : Stmt := inClass (top 135) 1
abbrev s_Shop_len : Stmt := inClass (top 135) 2
abbrev s_Shop_repr : Stmt := inClass (top 135) 3
abbrev s_Shop_do : Stmt := inClass (top 135) 4
abbrev s_Shop_undo : Stmt := inClass (top 135) 5
abbrev s_Shop_redo : Stmt := inClass (top 135) 6
abbrev s_Shop_deeds : Stmt := inClass (top 135) 7
abbrev s_Shop_undone : Stmt := inClass (top 135) 8
abbrev s_Shop_twin : Stmt := inClass (top 135) 9
abbrev s_Shop_bars : Stmt := inClass (top 135) 10
abbrev s_Shop_marks : Stmt := inClass (top 135) 11
abbrev s_Shop_bar : Stmt := inClass (top 135) 12
abbrev s_Shop_word : Stmt := inClass (top 135) 13
abbrev s_Shop_mark : Stmt := inClass (top 135) 14
abbrev s_Shop_paper : Stmt := inClass (top 135) 15
abbrev s_Shop_coming : Stmt := inClass (top 135) 16
abbrev s_Shop_piece : Stmt := inClass (top 135) 17
abbrev s_Shop_ends : Stmt := inClass (top 135) 18
/-- which of the module's names are looked at, from the last one bound -/
def mask : List Bool := [true, true, true, true, true, true, true, true, true, true, true, true, true, true, true, true, true, true, true, true, true, true, true, true, true, true, true, true, true, true, true, true, true, true, true, true, true, true, true, true, true, true, true, true, true, false, false, false, false, false, false, false, false, false, false, false, false, false, false, false, true, false, true, false, false, false, false, false, false, false, false, false, false, false, false, false, false, false, false, false, false, false, false, false, false, false, false, false, false, false, false, false, false, false, false, false, false, false, false, false, true, true, true, false, false, false, true, false, false, false, false, false, false, false, false, false, false, false, false, false, false, false, false, false, false, false, false, false, false, false, false, false, false, true, true, true, true, false, true, false, true, true, true, true, true, true, true, true, false, true, false, true, true]
def d_BurinError_init : He.DefD := ⟨("BurinError", some "__init__"), "__init__", "BurinError.__init__", defArgs s_BurinError_init, defBody s_BurinError_init, defScope s_BurinError_init, [.str "refused"], []⟩
def d_Missing_init : He.DefD := ⟨("Missing", some "__init__"), "__init__", "Missing.__init__", defArgs s_Missing_init, defBody s_Missing_init, defScope s_Missing_init, [.str "missing"], []⟩
def d_BadPaper_init : He.DefD := ⟨("BadPaper", some "__init__"), "__init__", "BadPaper.__init__", defArgs s_BadPaper_init, defBody s_BadPaper_init, defScope s_BadPaper_init, [], []⟩
def d_BadPlace_init : He.DefD := ⟨("BadPlace", some "__init__"), "__init__", "BadPlace.__init__", defArgs s_BadPlace_init, defBody s_BadPlace_init, defScope s_BadPlace_init, [], []⟩
def d_BadStaff_init : He.DefD := ⟨("BadStaff", some "__init__"), "__init__", "BadStaff.__init__", defArgs s_BadStaff_init, defBody s_BadStaff_init, defScope s_BadStaff_init, [], []⟩
def d_BadSpan_init : He.DefD := ⟨("BadSpan", some "__init__"), "__init__", "BadSpan.__init__", defArgs s_BadSpan_init, defBody s_BadSpan_init, defScope s_BadSpan_init, [], []⟩
def d_BadThick_init : He.DefD := ⟨("BadThick", some "__init__"), "__init__", "BadThick.__init__", defArgs s_BadThick_init, defBody s_BadThick_init, defScope s_BadThick_init, [], []⟩
def d_BadWord_init : He.DefD := ⟨("BadWord", some "__init__"), "__init__", "BadWord.__init__", defArgs s_BadWord_init, defBody s_BadWord_init, defScope s_BadWord_init, [], []⟩
def d_Same_init : He.DefD := ⟨("Same", some "__init__"), "__init__", "Same.__init__", defArgs s_Same_init, defBody s_Same_init, defScope s_Same_init, [], []⟩
def d_Full_init : He.DefD := ⟨("Full", some "__init__"), "__init__", "Full.__init__", defArgs s_Full_init, defBody s_Full_init, defScope s_Full_init, [], []⟩
def d_BadDeed_init : He.DefD := ⟨("BadDeed", some "__init__"), "__init__", "BadDeed.__init__", defArgs s_BadDeed_init, defBody s_BadDeed_init, defScope s_BadDeed_init, [], []⟩
def d_BadBar_init : He.DefD := ⟨("BadBar", some "__init__"), "__init__", "BadBar.__init__", defArgs s_BadBar_init, defBody s_BadBar_init, defScope s_BadBar_init, [], []⟩
def d_NoBreak_init : He.DefD := ⟨("NoBreak", some "__init__"), "__init__", "NoBreak.__init__", defArgs s_NoBreak_init, defBody s_NoBreak_init, defScope s_NoBreak_init, [], []⟩
def d_NoBar_init : He.DefD := ⟨("NoBar", some "__init__"), "__init__", "NoBar.__init__", defArgs s_NoBar_init, defBody s_NoBar_init, defScope s_NoBar_init, [], []⟩
def d_NoMoment_init : He.DefD := ⟨("NoMoment", some "__init__"), "__init__", "NoMoment.__init__", defArgs s_NoMoment_init, defBody s_NoMoment_init, defScope s_NoMoment_init, [], []⟩
def d_NoMark_init : He.DefD := ⟨("NoMark", some "__init__"), "__init__", "NoMark.__init__", defArgs s_NoMark_init, defBody s_NoMark_init, defScope s_NoMark_init, [], []⟩
def d_good_head : He.DefD := ⟨("good_head", none), "good_head", "good_head", defArgs s_good_head, defBody s_good_head, defScope s_good_head, [], []⟩
def d_good_moment : He.DefD := ⟨("good_moment", none), "good_moment", "good_moment", defArgs s_good_moment, defBody s_good_moment, defScope s_good_moment, [], []⟩
def d_bar_fault : He.DefD := ⟨("bar_fault", none), "bar_fault", "bar_fault", defArgs s_bar_fault, defBody s_bar_fault, defScope s_bar_fault, [], []⟩
def d_paper : He.DefD := ⟨("paper_pager", none), "paper", "paper", defArgs s_paper, defBody s_paper, defScope s_paper, [], [("width", .int 120), ("lines", .int 4), ("fee", .int 10), ("turn", .int 50), ("gap", .int 5)]⟩
def d_need_music : He.DefD := ⟨("need_music", none), "need_music", "need_music", defArgs s_need_music, defBody s_need_music, defScope s_need_music, [], []⟩
def d_put_bar : He.DefD := ⟨("put_bar", none), "put_bar", "put_bar", defArgs s_put_bar, defBody s_put_bar, defScope s_put_bar, [], []⟩
def d_put_change : He.DefD := ⟨("put_change", none), "put_change", "put_change", defArgs s_put_change, defBody s_put_change, defScope s_put_change, [], []⟩
def d_put_cut : He.DefD := ⟨("put_cut", none), "put_cut", "put_cut", defArgs s_put_cut, defBody s_put_cut, defScope s_put_cut, [], []⟩
def d_put_move : He.DefD := ⟨("put_move", none), "put_move", "put_move", defArgs s_put_move, defBody s_put_move, defScope s_put_move, [], []⟩
def d_put_mark : He.DefD := ⟨("put_mark", none), "put_mark", "put_mark", defArgs s_put_mark, defBody s_put_mark, defScope s_put_mark, [], []⟩
def d_put_wipe : He.DefD := ⟨("put_wipe", none), "put_wipe", "put_wipe", defArgs s_put_wipe, defBody s_put_wipe, defScope s_put_wipe, [], []⟩
def d_put_end : He.DefD := ⟨("put_end", none), "put_end", "put_end", defArgs s_put_end, defBody s_put_end, defScope s_put_end, [], []⟩
def d_put_paper : He.DefD := ⟨("put_paper", none), "put_paper", "put_paper", defArgs s_put_paper, defBody s_put_paper, defScope s_put_paper, [], []⟩
def d_put_many : He.DefD := ⟨("put_many", none), "put_many", "put_many", defArgs s_put_many, defBody s_put_many, defScope s_put_many, [], []⟩
def d_need_form : He.DefD := ⟨("need_form", none), "need_form", "need_form", defArgs s_need_form, defBody s_need_form, defScope s_need_form, [], []⟩
def d_need_deed : He.DefD := ⟨("need_deed", none), "need_deed", "need_deed", defArgs s_need_deed, defBody s_need_deed, defScope s_need_deed, [], []⟩
def d_done : He.DefD := ⟨("done", none), "done", "done", defArgs s_done, defBody s_done, defScope s_done, [], []⟩
def d_law_bag : He.DefD := ⟨("_law_bag", none), "_law_bag", "_law_bag", defArgs s_law_bag, defBody s_law_bag, defScope s_law_bag, [], []⟩
def d_law_model : He.DefD := ⟨("_law_model", none), "_law_model", "_law_model", defArgs s_law_model, defBody s_law_model, defScope s_law_model, [], []⟩
def d_law_pull : He.DefD := ⟨("_law_pull", none), "_law_pull", "_law_pull", defArgs s_law_pull, defBody s_law_pull, defScope s_law_pull, [], []⟩
def d_law_number : He.DefD := ⟨("_law_number", none), "_law_number", "_law_number", defArgs s_law_number, defBody s_law_number, defScope s_law_number, [], []⟩
def d_law_heads : He.DefD := ⟨("_law_heads", none), "_law_heads", "_law_heads", defArgs s_law_heads, defBody s_law_heads, defScope s_law_heads, [], []⟩
def d_law_moment : He.DefD := ⟨("_law_moment", none), "_law_moment", "_law_moment", defArgs s_law_moment, defBody s_law_moment, defScope s_law_moment, [], []⟩
def d_law_quick_bar : He.DefD := ⟨("_law_quick_bar", none), "_law_quick_bar", "_law_quick_bar", defArgs s_law_quick_bar, defBody s_law_quick_bar, defScope s_law_quick_bar, [], []⟩
def d_law_bar : He.DefD := ⟨("_law_bar", none), "_law_bar", "_law_bar", defArgs s_law_bar, defBody s_law_bar, defScope s_law_bar, [], []⟩
def d_law_any_bar : He.DefD := ⟨("_law_any_bar", none), "_law_any_bar", "_law_any_bar", defArgs s_law_any_bar, defBody s_law_any_bar, defScope s_law_any_bar, [], []⟩
def d_law_tip : He.DefD := ⟨("_law_tip", none), "_law_tip", "_law_tip", defArgs s_law_tip, defBody s_law_tip, defScope s_law_tip, [], []⟩
def d_law_spot : He.DefD := ⟨("_law_spot", none), "_law_spot", "_law_spot", defArgs s_law_spot, defBody s_law_spot, defScope s_law_spot, [], []⟩
def d_law_sheet : He.DefD := ⟨("_law_sheet", none), "_law_sheet", "_law_sheet", defArgs s_law_sheet, defBody s_law_sheet, defScope s_law_sheet, [], []⟩
def d_law_deed : He.DefD := ⟨("_law_deed", none), "_law_deed", "_law_deed", defArgs s_law_deed, defBody s_law_deed, defScope s_law_deed, [], []⟩
def d_law_same : He.DefD := ⟨("_law_same", none), "_law_same", "_law_same", defArgs s_law_same, defBody s_law_same, defScope s_law_same, [], []⟩
def d_law_tried : He.DefD := ⟨("_law_tried", none), "_law_tried", "_law_tried", defArgs s_law_tried, defBody s_law_tried, defScope s_law_tried, [], []⟩
def d_law_formless : He.DefD := ⟨("_law_formless", none), "_law_formless", "_law_formless", defArgs s_law_formless, defBody s_law_formless, defScope s_law_formless, [], []⟩
def d_law_mark_bad : He.DefD := ⟨("_law_mark_bad", none), "_law_mark_bad", "_law_mark_bad", defArgs s_law_mark_bad, defBody s_law_mark_bad, defScope s_law_mark_bad, [], []⟩
def d_law_fault : He.DefD := ⟨("_law_fault", none), "_law_fault", "_law_fault", defArgs s_law_fault, defBody s_law_fault, defScope s_law_fault, [], []⟩
def d_law_bar_bad : He.DefD := ⟨("_law_bar_bad", none), "_law_bar_bad", "_law_bar_bad", defArgs s_law_bar_bad, defBody s_law_bar_bad, defScope s_law_bar_bad, [], []⟩
def d_law_bad : He.DefD := ⟨("_law_bad", none), "_law_bad", "_law_bad", defArgs s_law_bad, defBody s_law_bad, defScope s_law_bad, [], []⟩
def d_law_sweep : He.DefD := ⟨("_law_sweep", none), "_law_sweep", "_law_sweep", defArgs s_law_sweep, defBody s_law_sweep, defScope s_law_sweep, [], []⟩
def d_law_put : He.DefD := ⟨("_law_put", none), "_law_put", "_law_put", defArgs s_law_put, defBody s_law_put, defScope s_law_put, [], []⟩
def d_law_copy : He.DefD := ⟨("_law_copy", none), "_law_copy", "_law_copy", defArgs s_law_copy, defBody s_law_copy, defScope s_law_copy, [], []⟩
def d_law_apply : He.DefD := ⟨("_law_apply", none), "_law_apply", "_law_apply", defArgs s_law_apply, defBody s_law_apply, defScope s_law_apply, [], []⟩
def d_law_one_by_one : He.DefD := ⟨("_law_one_by_one", none), "_law_one_by_one", "_law_one_by_one", defArgs s_law_one_by_one, defBody s_law_one_by_one, defScope s_law_one_by_one, [], []⟩
def d_law_look : He.DefD := ⟨("_law_look", none), "_law_look", "_law_look", defArgs s_law_look, defBody s_law_look, defScope s_law_look, [], []⟩
def d_law_stands : He.DefD := ⟨("_law_stands", none), "_law_stands", "_law_stands", defArgs s_law_stands, defBody s_law_stands, defScope s_law_stands, [], []⟩
def d_law : He.DefD := ⟨("law", none), "law", "law", defArgs s_law, defBody s_law, defScope s_law, [], []⟩
def d_Stand_init : He.DefD := ⟨("Stand", some "__init__"), "__init__", "Stand.__init__", defArgs s_Stand_init, defBody s_Stand_init, defScope s_Stand_init, [], []⟩
def d_Stand_like : He.DefD := ⟨("Stand", some "like"), "like", "Stand.like", defArgs s_Stand_like, defBody s_Stand_like, defScope s_Stand_like, [], []⟩
def d_Stand_told : He.DefD := ⟨("Stand", some "told"), "told", "Stand.told", defArgs s_Stand_told, defBody s_Stand_told, defScope s_Stand_told, [], []⟩
def d_Stand_need_bar : He.DefD := ⟨("Stand", some "need_bar"), "need_bar", "Stand.need_bar", defArgs s_Stand_need_bar, defBody s_Stand_need_bar, defScope s_Stand_need_bar, [], []⟩
def d_Stand_spot : He.DefD := ⟨("Stand", some "spot"), "spot", "Stand.spot", defArgs s_Stand_spot, defBody s_Stand_spot, defScope s_Stand_spot, [], []⟩
def d_Stand_lies : He.DefD := ⟨("Stand", some "lies"), "lies", "Stand.lies", defArgs s_Stand_lies, defBody s_Stand_lies, defScope s_Stand_lies, [], []⟩
def d_Stand_sweep : He.DefD := ⟨("Stand", some "sweep"), "sweep", "Stand.sweep", defArgs s_Stand_sweep, defBody s_Stand_sweep, defScope s_Stand_sweep, [], []⟩
def d_Shop_init : He.DefD := ⟨("Shop", some "__init__"), "__init__", "Shop.__init__", defArgs s_Shop_init, defBody s_Shop_init, defScope s_Shop_init, [], [("width", .int 120), ("lines", .int 4), ("fee", .int 10), ("turn", .int 50), ("gap", .int 5)]⟩
def d_Shop_eq : He.DefD := ⟨("Shop", some "__eq__"), "__eq__", "Shop.__eq__", defArgs s_Shop_eq, defBody s_Shop_eq, defScope s_Shop_eq, [], []⟩
def d_Shop_len : He.DefD := ⟨("Shop", some "__len__"), "__len__", "Shop.__len__", defArgs s_Shop_len, defBody s_Shop_len, defScope s_Shop_len, [], []⟩
def d_Shop_repr : He.DefD := ⟨("Shop", some "__repr__"), "__repr__", "Shop.__repr__", defArgs s_Shop_repr, defBody s_Shop_repr, defScope s_Shop_repr, [], []⟩
def d_Shop_do : He.DefD := ⟨("Shop", some "do"), "do", "Shop.do", defArgs s_Shop_do, defBody s_Shop_do, defScope s_Shop_do, [], []⟩
def d_Shop_undo : He.DefD := ⟨("Shop", some "undo"), "undo", "Shop.undo", defArgs s_Shop_undo, defBody s_Shop_undo, defScope s_Shop_undo, [], []⟩
def d_Shop_redo : He.DefD := ⟨("Shop", some "redo"), "redo", "Shop.redo", defArgs s_Shop_redo, defBody s_Shop_redo, defScope s_Shop_redo, [], []⟩
def d_Shop_deeds : He.DefD := ⟨("Shop", some "deeds"), "deeds", "Shop.deeds", defArgs s_Shop_deeds, defBody s_Shop_deeds, defScope s_Shop_deeds, [], []⟩
def d_Shop_undone : He.DefD := ⟨("Shop", some "undone"), "undone", "Shop.undone", defArgs s_Shop_undone, defBody s_Shop_undone, defScope s_Shop_undone, [], []⟩
def d_Shop_twin : He.DefD := ⟨("Shop", some "twin"), "twin", "Shop.twin", defArgs s_Shop_twin, defBody s_Shop_twin, defScope s_Shop_twin, [], []⟩
def d_Shop_bars : He.DefD := ⟨("Shop", some "bars"), "bars", "Shop.bars", defArgs s_Shop_bars, defBody s_Shop_bars, defScope s_Shop_bars, [], []⟩
def d_Shop_marks : He.DefD := ⟨("Shop", some "marks"), "marks", "Shop.marks", defArgs s_Shop_marks, defBody s_Shop_marks, defScope s_Shop_marks, [], []⟩
def d_Shop_bar : He.DefD := ⟨("Shop", some "bar"), "bar", "Shop.bar", defArgs s_Shop_bar, defBody s_Shop_bar, defScope s_Shop_bar, [], []⟩
def d_Shop_word : He.DefD := ⟨("Shop", some "word"), "word", "Shop.word", defArgs s_Shop_word, defBody s_Shop_word, defScope s_Shop_word, [], []⟩
def d_Shop_mark : He.DefD := ⟨("Shop", some "mark"), "mark", "Shop.mark", defArgs s_Shop_mark, defBody s_Shop_mark, defScope s_Shop_mark, [], []⟩
def d_Shop_paper : He.DefD := ⟨("Shop", some "paper"), "paper", "Shop.paper", defArgs s_Shop_paper, defBody s_Shop_paper, defScope s_Shop_paper, [], []⟩
def d_Shop_coming : He.DefD := ⟨("Shop", some "coming"), "coming", "Shop.coming", defArgs s_Shop_coming, defBody s_Shop_coming, defScope s_Shop_coming, [], []⟩
def d_Shop_piece : He.DefD := ⟨("Shop", some "piece"), "piece", "Shop.piece", defArgs s_Shop_piece, defBody s_Shop_piece, defScope s_Shop_piece, [], []⟩
def d_Shop_ends : He.DefD := ⟨("Shop", some "ends"), "ends", "Shop.ends", defArgs s_Shop_ends, defBody s_Shop_ends, defScope s_Shop_ends, [], []⟩
def fn : List He.DefD := [d_BurinError_init, d_Missing_init, d_BadPaper_init, d_BadPlace_init, d_BadStaff_init, d_BadSpan_init, d_BadThick_init, d_BadWord_init, d_Same_init, d_Full_init, d_BadDeed_init, d_BadBar_init, d_NoBreak_init, d_NoBar_init, d_NoMoment_init, d_NoMark_init, d_good_head, d_good_moment, d_bar_fault, d_paper, d_need_music, d_put_bar, d_put_change, d_put_cut, d_put_move, d_put_mark, d_put_wipe, d_put_end, d_put_paper, d_put_many, d_need_form, d_need_deed, d_done, d_law_bag, d_law_model, d_law_pull, d_law_number, d_law_heads, d_law_moment, d_law_quick_bar, d_law_bar, d_law_any_bar, d_law_tip, d_law_spot, d_law_sheet, d_law_deed, d_law_same, d_law_tried, d_law_formless, d_law_mark_bad, d_law_fault, d_law_bar_bad, d_law_bad, d_law_sweep, d_law_put, d_law_copy, d_law_apply, d_law_one_by_one, d_law_look, d_law_stands, d_law, d_Stand_init, d_Stand_like, d_Stand_told, d_Stand_need_bar, d_Stand_spot, d_Stand_lies, d_Stand_sweep, d_Shop_init, d_Shop_eq, d_Shop_len, d_Shop_repr, d_Shop_do, d_Shop_undo, d_Shop_redo, d_Shop_deeds, d_Shop_undone, d_Shop_twin, d_Shop_bars, d_Shop_marks, d_Shop_bar, d_Shop_word, d_Shop_mark, d_Shop_paper, d_Shop_coming, d_Shop_piece, d_Shop_ends]
def fa0 : List He.Fa := [.glo "BurinError", .glo "Missing", .glo "BadPaper", .glo "BadPlace", .glo "BadStaff", .glo "BadSpan", .glo "BadThick", .glo "BadWord", .glo "Same", .glo "Full", .glo "BadDeed", .glo "BadBar", .glo "NoBreak", .glo "NoBar", .glo "NoMoment", .glo "NoMark", .glo "good_head", .glo "good_moment", .glo "bar_fault", .glo "need_music"]
def fa1 : List He.Fa := [.glo "put_bar", .glo "put_change", .glo "put_cut", .glo "put_move", .glo "put_mark", .glo "put_wipe", .glo "put_end", .glo "put_paper", .glo "put_many", .glo "need_form", .glo "need_deed", .glo "done", .glo "paper_pager", .glo "_law_bag", .glo "_law_model", .glo "_law_pull", .glo "_law_number", .glo "_law_heads", .glo "_law_moment", .glo "_law_quick_bar"]
def fa2 : List He.Fa := [.glo "_law_bar", .glo "_law_any_bar", .glo "_law_tip", .glo "_law_spot", .glo "_law_sheet", .glo "_law_deed", .glo "_law_same", .glo "_law_tried", .glo "_law_formless", .glo "_law_mark_bad", .glo "_law_fault", .glo "_law_bar_bad", .glo "_law_bad", .glo "_law_sweep", .glo "_law_put", .glo "_law_copy", .glo "_law_apply", .glo "_law_one_by_one", .glo "_law_look", .glo "_law_stands"]
def fa3 : List He.Fa := [.glo "law", .glo "Stand", .glo "Shop", .glo "SIGNS", .glo "BOUND", .glo "DEEDS", .glo "SIZES", .free "len", .free "range", .free "list", .free "dict", .free "tuple", .free "sorted", .free "isinstance", .free "abs", .free "all", .free "min", .free "str", .free "repr", .free "bool"]
def fa4 : List He.Fa := [.free "enumerate", .free "int", .int "MOST_MOMENTS" 6, .int "MOST_BEATS" 32, .int "MOST_HEADS" 8, .int "MOST_WORD" 40, .int "LAST_STAFF" 3, .int "HIGHEST" 12, .int "NARROWEST" 20, .int "WIDEST" 400, .int "MOST_LINES" 6, .int "MOST_COST" 999, .int "MOST_BARS" 12, .int "MOST_MARKS" 20, .int "MOST_THICK" 9, .str "FREE" "free", .cls "Stand", .cls "Shop", .noat "Stand" "sheet", .noat "Stand" "order"]
def fa5 : List He.Fa := [.noat "Stand" "music", .noat "Stand" "spans", .noat "Stand" "bound", .noat "Stand" "fresh", .noat "Shop" "now", .noat "Shop" "past", .noat "Shop" "gone", .meth "Stand" "like", .meth "Stand" "told", .meth "Stand" "need_bar", .meth "Stand" "spot", .meth "Stand" "lies", .meth "Stand" "sweep", .meth "Shop" "__eq__", .meth "Shop" "__len__", .meth "Shop" "__repr__", .meth "Shop" "do", .meth "Shop" "undo", .meth "Shop" "redo", .meth "Shop" "deeds"]
def fa6 : List He.Fa := [.meth "Shop" "undone", .meth "Shop" "twin", .meth "Shop" "bars", .meth "Shop" "marks", .meth "Shop" "bar", .meth "Shop" "word", .meth "Shop" "mark", .meth "Shop" "paper", .meth "Shop" "coming", .meth "Shop" "piece", .meth "Shop" "ends", .mkr "Stand", .mkr "Shop", .exm "BadPaper" "BadBar" false, .exm "BadPaper" "NoBreak" false, .exm "BadPaper" "BurinError" true, .exm "BadPaper" "Missing" false, .exm "BadPlace" "BadBar" false, .exm "BadPlace" "NoBreak" false, .exm "BadPlace" "BurinError" true]
def fa7 : List He.Fa := [.exm "BadPlace" "Missing" false, .exm "BadStaff" "BadBar" false, .exm "BadStaff" "NoBreak" false, .exm "BadStaff" "BurinError" true, .exm "BadStaff" "Missing" false, .exm "BadSpan" "BadBar" false, .exm "BadSpan" "NoBreak" false, .exm "BadSpan" "BurinError" true, .exm "BadSpan" "Missing" false, .exm "BadThick" "BadBar" false, .exm "BadThick" "NoBreak" false, .exm "BadThick" "BurinError" true, .exm "BadThick" "Missing" false, .exm "BadWord" "BadBar" false, .exm "BadWord" "NoBreak" false, .exm "BadWord" "BurinError" true, .exm "BadWord" "Missing" false, .exm "Same" "BadBar" false, .exm "Same" "NoBreak" false, .exm "Same" "BurinError" true]
def fa8 : List He.Fa := [.exm "Same" "Missing" false, .exm "Full" "BadBar" false, .exm "Full" "NoBreak" false, .exm "Full" "BurinError" true, .exm "Full" "Missing" false, .exm "BadDeed" "BadBar" false, .exm "BadDeed" "NoBreak" false, .exm "BadDeed" "BurinError" true, .exm "BadDeed" "Missing" false, .exm "BadBar" "BadBar" true, .exm "BadBar" "NoBreak" false, .exm "BadBar" "BurinError" true, .exm "BadBar" "Missing" false, .exm "NoBar" "BadBar" false, .exm "NoBar" "NoBreak" false, .exm "NoBar" "BurinError" false, .exm "NoBar" "Missing" true, .exm "NoMoment" "BadBar" false, .exm "NoMoment" "NoBreak" false, .exm "NoMoment" "BurinError" false]
def fa9 : List He.Fa := [.exm "NoMoment" "Missing" true, .exm "NoMark" "BadBar" false, .exm "NoMark" "NoBreak" false, .exm "NoMark" "BurinError" false, .exm "NoMark" "Missing" true]
def fa : List He.Fa := fa0 ++ (fa1 ++ (fa2 ++ (fa3 ++ (fa4 ++ (fa5 ++ (fa6 ++ (fa7 ++ (fa8 ++ (fa9)))))))))
def dks : List Str := [Str.ofString "bar", Str.ofString "change", Str.ofString "cut", Str.ofString "move", Str.ofString "mark", Str.ofString "wipe", Str.ofString "end", Str.ofString "paper", Str.ofString "many"]
def ts : List He.Tab := [(fun K => He.ga K "DEEDS", dks), (fun K => He.ga K "SIZES", dks)]
def tf : List He.Defn := [("law", none), ("_law_one_by_one", none)]
def dvD : List (Str × He.Dv) := [(Str.ofString "bar", .glo "put_bar"), (Str.ofString "change", .glo "put_change"), (Str.ofString "cut", .glo "put_cut"), (Str.ofString "move", .glo "put_move"), (Str.ofString "mark", .glo "put_mark"), (Str.ofString "wipe", .glo "put_wipe"), (Str.ofString "end", .glo "put_end"), (Str.ofString "paper", .glo "put_paper"), (Str.ofString "many", .glo "put_many")]
def dvS : List (Str × He.Dv) := [(Str.ofString "bar", .int 3), (Str.ofString "change", .int 3), (Str.ofString "cut", .int 2), (Str.ofString "move", .int 3), (Str.ofString "mark", .int 5), (Str.ofString "wipe", .int 2), (Str.ofString "end", .int 3), (Str.ofString "paper", .int 6), (Str.ofString "many", .int 2)]
def exNames : List Str := [Str.ofString "BadPaper", Str.ofString "BadPlace", Str.ofString "BadStaff", Str.ofString "BadSpan", Str.ofString "BadThick", Str.ofString "BadWord", Str.ofString "Same", Str.ofString "Full", Str.ofString "BadDeed", Str.ofString "BadBar", Str.ofString "NoBar", Str.ofString "NoMoment", Str.ofString "NoMark"]

/-! ### the fragment -/
def behind (g : Addr → Option Obj) (a : Addr) : List Addr := match g a with
  | some ⟨_, _, .func fd, _⟩ => He.refV fd.code ++ (He.refV fd.defaults ++ He.refV fd.kwdefaults)
  | _ => []
def entries (g : Addr → Option Obj) (a : Addr) : List Value := match g a with
  | some ⟨_, _, .dict es _, _⟩ => es.toList.map (·.val)
  | _ => []
def nsOfCls (g : Addr → Option Obj) (a : Addr) : List Addr := match g a with
  | some ⟨_, _, .cls cd, _⟩ => cd.ns :: ((entries g cd.ns).flatMap He.refV ++ ((entries g cd.ns).flatMap He.refV).flatMap (behind g))
  | _ => []
def picked : List Bool → List Value → List Addr
  | true :: bs, v :: vs => He.refV v ++ picked bs vs
  | false :: bs, _ :: vs => picked bs vs
  | _, _ => []
def asB (g : Addr → Option Obj) : List Addr :=
  mainGlobals :: cStatics :: (picked mask (entries g mainGlobals).reverse ++ ((picked mask (entries g mainGlobals).reverse).flatMap (behind g) ++ (picked mask (entries g mainGlobals).reverse).flatMap (nsOfCls g)))
def Kf (g : Addr → Option Obj) : PySem.W.Frag := He.frG g (asB g)
/-! ### more facts -/
/-- an exception class as it is made: its bases end by one of the two -/
def excShape (K : PySem.W.Frag) (C : Addr) : Option (List Value × String) := match K.lookup C with
  | some ⟨.type t, _, .cls cd, sl⟩ => (match decide (t = "type") && (cd.hasDict && !cd.hasDel), cd.mro, sl.toList with
    | true, .ref C' :: bm, [_, _, _, _, some (.builtin n), _] => (match decide (C' = C) with
      | true => some (bm, n)
      | false => none)
    | _, _, _ => none)
  | _ => none
def burinTail (K : PySem.W.Frag) : List Value := [.ref (He.ga K "BurinError"), .type "ValueError", .type "Exception", .type "BaseException", .type "object"]
def missTail (K : PySem.W.Frag) : List Value := [.ref (He.ga K "Missing"), .type "LookupError", .type "Exception", .type "BaseException", .type "object"]
def exc1 (K : PySem.W.Frag) (x : Str) : Bool :=
  (decide (excShape K (He.ga K x) = some (burinTail K, "ValueError.__new__")) || decide (excShape K (He.ga K x) = some (missTail K, "LookupError.__new__"))) &&
  (PySem.W.keepIn K (.ref (He.ga K x)) && (decide (PySem.W.subIn K (.ref (He.ga K x)) (.type "BaseException") = some true) && (decide (PySem.W.typeIn K (.ref (He.ga K x)) = some (.type "type")) &&
  (decide (PySem.W.findIn K (.ref (He.ga K x)) "__setattr__" = some (some (.builtin "object.__setattr__"))) && (decide (PySem.W.findIn K (.ref (He.ga K x)) "__init__" = some (some (.ref (He.ma K (He.ga K x) "__init__")))) &&
  (decide (PySem.W.typeIn K (.ref (He.ma K (He.ga K x) "__init__")) = some (.type "function")) && (decide (PySem.W.findIn K (.ref (He.ga K x)) "says" = some none) && (decide (PySem.W.findIn K (.ref (He.ga K x)) "place" = some none) &&
  (decide (PySem.W.findIn K (.ref (He.ga K x)) "number" = some none) && xfB K (He.ga K x))))))))))
/-- a def read off a class -/
def inC1 (K : PySem.W.Frag) (x : Str) : Bool :=
  PySem.W.readsIn K (He.ga K x) (.type "type") && (decide (PySem.W.specialIn K (.ref (He.ga K x)) "__getattribute__" = some (some (.builtin "type.__getattribute__"))) &&
  (match PySem.W.findCls K (.ref (He.ga K x)) (.type "type") "__init__" with | some (.val (.ref f)) => decide (f = He.ma K (He.ga K x) "__init__") | _ => false))
/-- what isinstance asks of the shop's class -/
def insB (K : PySem.W.Frag) : Bool := decide (PySem.W.findIn K (.ref (He.ga K "Shop")) "__class__" = some (some (.builtin "object.__class__"))) && (decide (PySem.W.specialIn K (.builtin "object.__class__") "__get__" = some (some (.builtin "getset_descriptor.__get__"))) && (decide (PySem.W.takesIn K (.builtin "object.__class__") = some true) && decide (PySem.W.kitOne K (.ref (He.ga K "Shop")) (.ref (He.ga K "Shop")) = some true)))
def tabNe (K : PySem.W.Frag) : Bool := decide ((He.cT K ("law", none)).2 ≠ (He.cT K ("_law_one_by_one", none)).2)
def exB (K : PySem.W.Frag) : Bool :=
  (inC1 K "BurinError" && inC1 K "Missing") && ((exNames.all (exc1 K)) && ((decide (excShape K (He.ga K "BadBar") = some (burinTail K, "ValueError.__new__")) && decide (excShape K (He.ga K "NoBar") = some (missTail K, "LookupError.__new__"))) && (He.tupB K "SIGNS" [.str "", .str "s", .str "f", .str "n"] && (He.tupB K "BOUND" [.str "must", .str "never"] && (He.valsB K (He.ga K "DEEDS") dvD && (He.valsB K (He.ga K "SIZES") dvS && (decide (PySem.W.nsIn K (He.ga K "SIZES") "strike" = some none) && (decide (PySem.W.findIn K (.ref (He.ga K "Shop")) "__bool__" = some none) && (decide (PySem.W.findIn K (.ref (He.ga K "Shop")) "__ne__" = some (some (.builtin "object.__ne__"))) && (decide (PySem.W.mroIn K (He.ga K "Shop") (.type "object") = some true) && (insB K && tabNe K)))))))))))
/-! ### the Hook -/
def tabs (g : Addr → Option Obj) (K : PySem.W.Frag) : Bool := tf.all fun p => PySem.W.codeHdIn K (He.cT K p).1 (He.cT K p).2 && ((K.lookup (He.cT K p).2).isNone && (match g (He.cT K p).2 with
  | some o => He.emptyTab o
  | none => false))
def obsB (g : Addr → Option Obj) : He.AlX := (He.obsT fa fn ts (Kf g), exB (Kf g) && tabs g (Kf g))
def valB (w : World) : He.AlX := (He.valT fn ts w, true)
abbrev SaysB (w : World) (h : Heap) (K : PySem.W.Frag) : Prop := He.SaysX fa fn ts tf exB w h K
theorem saysB_of {w : World} {h : Heap} (e : obsB h.get? = valB w) : SaysB w h (Kf h.get?) := by
  have e1 : He.obsT fa fn ts (Kf h.get?) = He.valT fn ts w := congrArg Prod.fst e
  have e2 : (exB (Kf h.get?) && tabs h.get? (Kf h.get?)) = true := congrArg Prod.snd e
  obtain ⟨h1, h2⟩ := He.ba e2
  have h3 := List.all_eq_true.mp h2
  refine ⟨e1, h1, fun p hp => (He.ba (h3 p hp)).1, fun p hp => Option.isNone_iff_eq_none.mp (He.ba (He.ba (h3 p hp)).2).1, fun p hp => ?_⟩
  have q := (He.ba (He.ba (h3 p hp)).2).2
  cases z : h.get? (He.cT (Kf h.get?) p).2 with
  | none => rw [z] at q; cases q
  | some o => rw [z] at q; rw [He.emptyTab_eq q]
def hkB : PySem.W.Hook where
  α := He.AlX
  obs := fun s => obsB s.heap.get?
  val := valB
  says := fun w h => ∃ K : PySem.W.Frag, K.In h ∧ SaysB w h K
  of := fun _ _ e => ⟨_, He.frG_in, saysB_of e⟩
  keeps := fun _ _ _ ⟨K, hK, c⟩ k => ⟨K, PySem.W.Frag.In.keeps hK k, ⟨c.t, c.more, c.hd, c.out, fun p hp => k _ _ (c.empty p hp)⟩⟩
def ob (s : PySem.W.SharedT) : He.AlX := obsB (HandSHeadRun.getT s)
theorem ob_eq (s : PySem.W.SharedT) : ob s = hkB.obs s.abs := by
  have e : HandSHeadRun.getT s = s.abs.heap.get? := funext (HandSHeadRun.getT_eq s)
  show obsB (HandSHeadRun.getT s) = obsB s.abs.heap.get?
  rw [e]
/-! ### the names that the view does not hold -/
def nm0 : List Str := [Str.ofString "__name__", Str.ofString "BurinError", Str.ofString "Missing", Str.ofString "BadPart", Str.ofString "BadPaper", Str.ofString "BadEnds", Str.ofString "BadPlace", Str.ofString "BadStaff", Str.ofString "BadSpan", Str.ofString "BadThick", Str.ofString "BadWord", Str.ofString "Same", Str.ofString "Full", Str.ofString "BadDeed", Str.ofString "Nothing", Str.ofString "BadBar", Str.ofString "TooTight", Str.ofString "NoBreak", Str.ofString "NoBar", Str.ofString "NoMoment"]
def nm1 : List Str := [Str.ofString "NoMark", Str.ofString "NoLine", Str.ofString "NOUGHT", Str.ofString "ONE", Str.ofString "common", Str.ofString "part", Str.ofString "plus", Str.ofString "less", Str.ofString "times", Str.ofString "over", Str.ofString "over_parts", Str.ofString "below", Str.ofString "ceiling_of", Str.ofString "total", Str.ofString "under_all", Str.ofString "needed", Str.ofString "solved", Str.ofString "Balance", Str.ofString "settled", Str.ofString "standing"]
def nm2 : List Str := [Str.ofString "energy", Str.ofString "MOST_MOMENTS", Str.ofString "MOST_BEATS", Str.ofString "MOST_HEADS", Str.ofString "MOST_WORD", Str.ofString "LAST_STAFF", Str.ofString "HIGHEST", Str.ofString "SIGNS", Str.ofString "WORDS", Str.ofString "CLEAR_bars", Str.ofString "GAP", Str.ofString "good_head", Str.ofString "good_moment", Str.ofString "bar_fault", Str.ofString "shifted", Str.ofString "columns", Str.ofString "reach", Str.ofString "things", Str.ofString "rods", Str.ofString "springs"]
def nm3 : List Str := [Str.ofString "line_rods", Str.ofString "line_springs", Str.ofString "BEAT", Str.ofString "STEM", Str.ofString "SLANT", Str.ofString "STEEPEST", Str.ofString "heads_on", Str.ofString "groups", Str.ofString "stems_up", Str.ofString "Slope", Str.ofString "beam", Str.ofString "FLOOR", Str.ofString "CLEAR_boxes", Str.ofString "LEAST", Str.ofString "over_boxes", Str.ofString "in_turn", Str.ofString "laid", Str.ofString "apart", Str.ofString "STAVES", Str.ofString "Line"]
def nm4 : List Str := [Str.ofString "drawn", Str.ofString "WIDTH", Str.ofString "LINES", Str.ofString "FEE", Str.ofString "TURN", Str.ofString "SPARE", Str.ofString "NARROWEST", Str.ofString "WIDEST", Str.ofString "MOST_LINES", Str.ofString "MOST_COST", Str.ofString "HAND", Str.ofString "BOUND", Str.ofString "paper", Str.ofString "paper_pager", Str.ofString "hand_free", Str.ofString "line_cost", Str.ofString "told_ends", Str.ofString "line_let", Str.ofString "Table", Str.ofString "Layout"]
def nm5 : List Str := [Str.ofString "layout", Str.ofString "layout_pager", Str.ofString "good_pages", Str.ofString "cost", Str.ofString "cost_pager", Str.ofString "MOST_BARS", Str.ofString "MOST_MARKS", Str.ofString "MOST_THICK", Str.ofString "FREE", Str.ofString "Stand", Str.ofString "need_music", Str.ofString "put_bar", Str.ofString "put_change", Str.ofString "put_cut", Str.ofString "put_move", Str.ofString "put_mark", Str.ofString "put_wipe", Str.ofString "put_end", Str.ofString "put_paper", Str.ofString "put_many"]
def nm6 : List Str := [Str.ofString "DEEDS", Str.ofString "SIZES", Str.ofString "need_form", Str.ofString "need_deed", Str.ofString "done", Str.ofString "Shop", Str.ofString "_law_bag", Str.ofString "_law_model", Str.ofString "_law_pull", Str.ofString "_law_number", Str.ofString "_law_heads", Str.ofString "_law_moment", Str.ofString "_law_quick_bar", Str.ofString "_law_bar", Str.ofString "_law_any_bar", Str.ofString "_law_tip", Str.ofString "_law_spot", Str.ofString "_law_sheet", Str.ofString "_law_deed", Str.ofString "_law_same"]
def nm7 : List Str := [Str.ofString "_law_tried", Str.ofString "_law_formless", Str.ofString "_law_mark_bad", Str.ofString "_law_fault", Str.ofString "_law_bar_bad", Str.ofString "_law_bad", Str.ofString "_law_sweep", Str.ofString "_law_put", Str.ofString "_law_copy", Str.ofString "_law_apply", Str.ofString "_law_one_by_one", Str.ofString "_law_look", Str.ofString "_law_stands"]
def names : List Str := nm0 ++ (nm1 ++ (nm2 ++ (nm3 ++ (nm4 ++ (nm5 ++ (nm6 ++ (nm7)))))))
abbrev qv : Program := PySem.W.view R.prog [164]
end Bu
set_option Elab.async false
set_option linter.all false
set_option maxRecDepth 100000
set_option maxHeartbeats 0
/-! The top's run, one look behind it. -/
namespace Bu
open PySem PySem.W PySem.Spec PyProof.Rows L2 HandSHeadRun
def run1 (w : World) : Prop := ∀ os : OsState, (endF (stepQ (denQ tabQ) R.prog w) 12000 R.prog w os).map (fun s => looksF R.prog (boot_heap w.params) s.abs) = some (true)
theorem run1_f (w : World) : run1 (w.withFollow "special-get-raises" false) := by
  intro os
  kernel_rfl
theorem run1_t (w : World) : run1 (w.withFollow "special-get-raises" true) := by
  intro os
  kernel_rfl
end Bu
set_option Elab.async false
set_option linter.all false
set_option maxRecDepth 100000
set_option maxHeartbeats 0
/-! The top's run, one look behind it. -/
namespace Bu
open PySem PySem.W PySem.Spec PyProof.Rows L2 HandSHeadRun
def run2 (w : World) : Prop := ∀ os : OsState, (endF (stepQ (denQ tabQ) R.prog w) 12000 R.prog w os).map (fun s => seenQ qv names (importedModules R.prog.main.body) (fun s => xlAt qv [] s && recOk R.toRowW.records s) s.abs) = some (openGood qv names)
theorem run2_f (w : World) : run2 (w.withFollow "special-get-raises" false) := by
  intro os
  kernel_rfl
theorem run2_t (w : World) : run2 (w.withFollow "special-get-raises" true) := by
  intro os
  kernel_rfl
end Bu
set_option Elab.async false
set_option linter.all false
set_option maxRecDepth 100000
set_option maxHeartbeats 0
/-! The top's run, one look behind it. -/
namespace Bu
open PySem PySem.W PySem.Spec PyProof.Rows L2 HandSHeadRun
def run3 (w : World) : Prop := ∀ os : OsState, (endF (stepQ (denQ tabQ) R.prog w) 12000 R.prog w os).map (fun s => ((fn.take 44).all fun d => d.ok (Kf (getT s))) && ((fa4 ++ (fa5 ++ fa6)).all fun f => f.ok (Kf (getT s)))) = some (true)
theorem run3_f (w : World) : run3 (w.withFollow "special-get-raises" false) := by
  intro os
  kernel_rfl
theorem run3_t (w : World) : run3 (w.withFollow "special-get-raises" true) := by
  intro os
  kernel_rfl
end Bu
set_option Elab.async false
set_option linter.all false
set_option maxRecDepth 100000
set_option maxHeartbeats 0
/-! The top's run, one look behind it. -/
namespace Bu
open PySem PySem.W PySem.Spec PyProof.Rows L2 HandSHeadRun
def run4 (w : World) : Prop := ∀ os : OsState, (endF (stepQ (denQ tabQ) R.prog w) 12000 R.prog w os).map (fun s => ((fn.drop 44).all fun d => d.ok (Kf (getT s))) && ((fa0 ++ fa1).all fun f => f.ok (Kf (getT s)))) = some (true)
theorem run4_f (w : World) : run4 (w.withFollow "special-get-raises" false) := by
  intro os
  kernel_rfl
theorem run4_t (w : World) : run4 (w.withFollow "special-get-raises" true) := by
  intro os
  kernel_rfl
end Bu
set_option Elab.async false
set_option linter.all false
set_option maxRecDepth 100000
set_option maxHeartbeats 0
/-! The top's run, one look behind it. -/
namespace Bu
open PySem PySem.W PySem.Spec PyProof.Rows L2 HandSHeadRun
def run5 (w : World) : Prop := ∀ os : OsState, (endF (stepQ (denQ tabQ) R.prog w) 12000 R.prog w os).map (fun s => fn.map fun d => He.fnW (Kf (getT s)) d.at_) = some (fn.map He.DefD.val)
theorem run5_f (w : World) : run5 (w.withFollow "special-get-raises" false) := by
  intro os
  kernel_rfl
theorem run5_t (w : World) : run5 (w.withFollow "special-get-raises" true) := by
  intro os
  kernel_rfl
end Bu
set_option Elab.async false
set_option linter.all false
set_option maxRecDepth 100000
set_option maxHeartbeats 0
/-! The top's run, one look behind it. -/
namespace Bu
open PySem PySem.W PySem.Spec PyProof.Rows L2 HandSHeadRun
def run6 (w : World) : Prop := ∀ os : OsState, (endF (stepQ (denQ tabQ) R.prog w) 12000 R.prog w os).map (fun s => (((exB (Kf (getT s)) && tabs (getT s) (Kf (getT s))) && ((fa2 ++ (fa3 ++ (fa7 ++ (fa8 ++ fa9)))).all fun f => f.ok (Kf (getT s)))), (ts.map fun t => He.dicW (Kf (getT s)) (t.1 (Kf (getT s)))))) = some ((true, ts.map fun t => some (He.keysIn w.params t.2)))
theorem run6_f (w : World) : run6 (w.withFollow "special-get-raises" false) := by
  intro os
  kernel_rfl
theorem run6_t (w : World) : run6 (w.withFollow "special-get-raises" true) := by
  intro os
  kernel_rfl
end Bu
set_option Elab.async false
set_option linter.all false
set_option maxRecDepth 100000
set_option maxHeartbeats 4000000
/-! What the defs lean on: the facts of the text, callees by name. -/
namespace Bu
open PySem PySem.Spec PyProof.Rows L2

/-- what the head leaves, as the defs' proofs lean on it -/
structure Cn (w : World) (K : PySem.W.Frag) (mg : Str → Option Value) : Prop where
  says : He.SaysT fa fn ts w K
  more : exB K = true
  mgs : ∀ (x : Str) (o : Option Value), PySem.W.nsIn K mainGlobals x = some o → mg x = o
section
variable {w : World} {K : PySem.W.Frag} {mg : Str → Option Value}
theorem Cn.of {h : Heap} (X : K.In h) (G : h.Ns mainGlobals mg) (s : SaysB w h K) : Cn w K mg :=
  ⟨s.t, s.more, fun x o e => by
    cases o with
    | none => exact PySem.W.mg_none_of X G e
    | some v => exact PySem.W.mg_of X G e⟩
theorem Cn.fact (C : Cn w K mg) {i : Nat} {f : He.Fa} (h : fa[i]? = some f) : f.ok K = true := C.says.d.fact i h
theorem Cn.glo (C : Cn w K mg) (i : Nat) {x : Str} (h : fa[i]? = some (.glo x) := by rfl) : mg x = some (.ref (He.ga K x)) := C.mgs _ _ (He.eqO_ok (C.fact h))
theorem Cn.free (C : Cn w K mg) (i : Nat) {x : Str} (h : fa[i]? = some (.free x) := by rfl) : mg x = none := C.mgs _ _ (He.eqO_ok (C.fact h))
theorem Cn.int (C : Cn w K mg) (i : Nat) {x : Str} {n : Int} (h : fa[i]? = some (.int x n) := by rfl) : ∃ u, mg x = some u ∧ RelV (.int n) u := by
  have c : (match PySem.W.nsIn K mainGlobals x with | some (some (.int j _)) => decide (j = n) | _ => false) = true := C.fact h
  cases e : PySem.W.nsIn K mainGlobals x with
  | none => rw [e] at c; cases c
  | some o =>
    rw [e] at c
    cases o with
    | none => cases c
    | some v =>
      cases v with
      | int j t =>
        have ej : j = n := of_decide_eq_true c
        exact ⟨_, C.mgs _ _ e, t, by rw [ej]⟩
      | _ => cases c
theorem Cn.str (C : Cn w K mg) (i : Nat) {x z : Str} (h : fa[i]? = some (.str x z) := by rfl) : ∃ u, mg x = some u ∧ RelV (.str z) u := by
  have c : (match PySem.W.nsIn K mainGlobals x with | some (some (.str y _)) => decide (y = z) | _ => false) = true := C.fact h
  cases e : PySem.W.nsIn K mainGlobals x with
  | none => rw [e] at c; cases c
  | some o =>
    rw [e] at c
    cases o with
    | none => cases c
    | some v =>
      cases v with
      | str y t =>
        have ej : y = z := of_decide_eq_true c
        exact ⟨_, C.mgs _ _ e, t, by rw [ej]⟩
      | _ => cases c
theorem Cn.cls (C : Cn w K mg) (i : Nat) {x : Str} (h : fa[i]? = some (.cls x) := by rfl) : Cls K (He.ga K x) := He.cls_ok (C.fact h)
theorem Cn.noat (C : Cn w K mg) (i : Nat) {x f : Str} (h : fa[i]? = some (.noat x f) := by rfl) : NoAttr K (He.ga K x) f := He.noat_ok (C.fact h)
theorem Cn.meth (C : Cn w K mg) (i : Nat) {x m : Str} (h : fa[i]? = some (.meth x m) := by rfl) : Meth K (He.ga K x) m (He.ma K (He.ga K x) m) := He.meth_ok (C.fact h)
theorem Cn.mkr (C : Cn w K mg) (i : Nat) {x : Str} (h : fa[i]? = some (.mkr x) := by rfl) : Mk K (He.ga K x) (He.ma K (He.ga K x) "__init__") := He.mkr_ok (C.fact h)
theorem Cn.exm (C : Cn w K mg) (i : Nat) {x y : Str} {b : Bool} (h : fa[i]? = some (.exm x y b) := by rfl) : PySem.W.exmOne K (.ref (He.ga K x)) (.ref (He.ga K y)) = some b := He.exm_ok (C.fact h)
theorem Cn.def_ (C : Cn w K mg) (i : Nat) {d : He.DefD} (h : fn[i]? = some d) : ∃ fd, FunD K d.name d.qual d.params d.body d.scope (d.dvs K) (d.kws K) (He.fAd K d.at_) fd := C.says.d.def_ i h
end

/-! ### callees -/
/-- a def of the module, by its name -/
structure Cal (P : Program) (w : World) (K : PySem.W.Frag) (mg : Str → Option Value) (base : Heap) (CX : CXT) (k : Nat) (x : Str) (sp : Sp) : Prop where
  ex : ∃ (f : Addr) (fd : FuncData) (ps : List Str), FnOk P w K mg base CX k f fd ps sp ∧ mg x = some (.ref f) ∧ PySem.W.keepIn K (.ref f) = true ∧ L2.Binds K fd ps []
/-- a method of a class of the module -/
structure Met (P : Program) (w : World) (K : PySem.W.Frag) (mg : Str → Option Value) (base : Heap) (CX : CXT) (k : Nat) (x m : Str) (sp : Sp) : Prop where
  ex : ∃ (f : Addr) (fd : FuncData) (ps : List Str), Cls K (He.ga K x) ∧ Meth K (He.ga K x) m f ∧ FnOk P w K mg base CX k f fd ps sp ∧ L2.Binds K fd ps []
abbrev BindF (d : He.DefD) (ps : List Str) : Prop := ∀ (kV doc pm : Value) (an : Option Addr) (cdv ct : Value) (us : List Value), us.length = ps.length →
  bindArgs (PySem.W.fnOf d.name d.qual d.params d.body d.scope .none kV doc pm an cdv ct) ⟨us, []⟩ = pure (ps.zip us)
abbrev BodyOf (P : Program) (w : World) (K : PySem.W.Frag) (mg : Str → Option Value) (base : Heap) (CX : CXT) (k : Nat) (d : He.DefD) (N : List Str) (sp : Sp) : Prop :=
  ∀ (f : Addr) (cdv : Value) (A : Around) (outer : List Env) (s : Shared) (H : Hp) (vs : List V) (Q : VK) (E : XK), Room k (A.deeper (envOfC d.qual d.scope s.heap.objs.size f cdv)) → sp vs H Q E →
    ∃ t, PSs (cxOf CX P w K mg base N d.qual d.scope f cdv A outer s H E) d.body t ∧ t { nx := fun _ H' => Q .non H', rt := Q } (L2.start N vs) H
section
variable {P : Program} {w : World} {K : PySem.W.Frag} {mg : Str → Option Value} {base : Heap} {CX : CXT}
theorem Cn.fnok (C : Cn w K mg) {k : Nat} {sp : Sp} {N ps : List Str} (i : Nat) (d : He.DefD) (hd : fn[i]? = some d) (e1 : d.dfl = []) (e2 : d.kwd = []) (S : FnScope N ps d.scope) (hb : BindF d ps)
    (len : ∀ vs H Q E, sp vs H Q E → vs.length = ps.length) (body : BodyOf P w K mg base CX k d N sp) : ∃ fd, FnOk P w K mg base CX (k + 1) (He.fAd K d.at_) fd ps sp ∧ PySem.W.keepIn K (.ref (He.fAd K d.at_)) = true ∧ L2.Binds K fd ps [] := by
  obtain ⟨fd, F⟩ := C.def_ i hd
  have F0 : FunD K d.name d.qual d.params d.body d.scope [] (d.kws K) (He.fAd K d.at_) fd := by
    have e : d.dvs K = [] := by unfold He.DefD.dvs; rw [e1]; rfl
    rw [e] at F
    exact F
  exact ⟨fd, F.ok S len (body (He.fAd K d.at_)), F.kp, F0.bindsN hb⟩
/-- a def keeps its promise: by its body -/
theorem Cn.cal (C : Cn w K mg) {k : Nat} {sp : Sp} {N ps : List Str} (i j : Nat) {x : Str} (d : He.DefD) (S : FnScope N ps d.scope) (hb : BindF d ps)
    (len : ∀ vs H Q E, sp vs H Q E → vs.length = ps.length) (body : BodyOf P w K mg base CX k d N sp) (hd : fn[i]? = some d := by rfl) (hx : d.at_ = (x, none) := by rfl) (hf : fa[j]? = some (.glo x) := by rfl) (e1 : d.dfl = [] := by rfl) (e2 : d.kwd = [] := by rfl) :
    Cal P w K mg base CX (k + 1) x sp := by
  obtain ⟨fd, h1, h2, h3⟩ := C.fnok i d hd e1 e2 S hb len body
  refine ⟨_, fd, ps, h1, ?_, h2, h3⟩
  rw [C.glo j hf, hx]
  rfl
theorem Cn.met (C : Cn w K mg) {k : Nat} {sp : Sp} {N ps : List Str} (i j l : Nat) {x m : Str} (d : He.DefD) (S : FnScope N ps d.scope) (hb : BindF d ps)
    (len : ∀ vs H Q E, sp vs H Q E → vs.length = ps.length) (body : BodyOf P w K mg base CX k d N sp) (hd : fn[i]? = some d := by rfl) (hx : d.at_ = (x, some m) := by rfl) (hf : fa[j]? = some (.meth x m) := by rfl) (hc : fa[l]? = some (.cls x) := by rfl)
    (e1 : d.dfl = [] := by rfl) (e2 : d.kwd = [] := by rfl) : Met P w K mg base CX (k + 1) x m sp := by
  obtain ⟨fd, h1, _, h3⟩ := C.fnok i d hd e1 e2 S hb len body
  refine ⟨_, fd, ps, C.cls l hc, ?_, h1, h3⟩
  rw [hx]
  exact C.meth j hf
end
section
variable {X : Cx} {CX : CXT} {k j : Nat} {x m : Str} {sp : Sp} {p pos apos : Pos} {e o : Expr} {es : List Expr} {ta : TE} {t : TA} {W : WX}
theorem pe_gi {v : V} (h : ∃ u, X.mg x = some u ∧ RelV v u) (hg : Gl X x := by rfl) (hd : (x == ("__debug__" : Str)) = false := by decide) : PE X (.Name x pos) (tC v) := by
  obtain ⟨u, e, r⟩ := h
  exact pe_glob hg e r hd
/-- f(e, ..), f lets nothing out -/
theorem pe_c (c : Cal X.prog X.w X.K X.mg X.base CX0 k x sp) (hr : Room j X.A) (ha : PA X (e :: es) t) (hk : k ≤ j := by decide) (hg : Gl X x := by rfl) (hdb : (x == ("__debug__" : Str)) = false := by decide)
    (he : starEach (e :: es) X.env = (false, eval e X.env) :: starEach es X.env := by rfl) (hpl : (backTo pos (starEach es X.env)).any (·.1) = false := by rfl) :
    PE X (.Call (.Name x p) (e :: es) [] pos) (tCall sp [] E0 t) := by
  obtain ⟨f, fd, ps, F, hm, kp, b⟩ := c.ex
  exact pe_call (F.mono hk) hr hg hm kp b .nil L2.pass0 ha hdb he hpl
/-- f(e, ..), what f raises is wished for -/
theorem pe_cx (c : Cal X.prog X.w X.K X.mg X.base (L2.CX X.prog X.w) k x sp) (hr : Room j X.A) (tk : Takes X W) (ha : PA X (e :: es) t) (hk : k ≤ j := by decide) (hg : Gl X x := by rfl) (hdb : (x == ("__debug__" : Str)) = false := by decide)
    (he : starEach (e :: es) X.env = (false, eval e X.env) :: starEach es X.env := by rfl) (hpl : (backTo pos (starEach es X.env)).any (·.1) = false := by rfl) :
    PE X (.Call (.Name x p) (e :: es) [] pos) (tCallS sp (WE W) t) := by
  obtain ⟨f, fd, ps, F, hm, kp, b⟩ := c.ex
  exact pe_callS (F.mono hk) hr hg hm kp b (fun σ => passAt tk σ) ha hdb he hpl
theorem pe_m (c : Met X.prog X.w X.K X.mg X.base CX0 k x m sp) (hr : Room j X.A) (ho : PE X o ta) (ha : PA X (e :: es) t) {pl : Sem Bool} (hk : k ≤ j := by decide)
    (hst : starEach (e :: es) X.env = (false, eval e X.env) :: starEach es X.env := by rfl) (hpl : (backTo pos (starEach es X.env)).any (·.1) = false := by rfl)
    (ht : eval (.Call (.Attribute o m apos) (e :: es) [] pos) X.env = (do
      let ov ← eval o X.env; standAt apos.atName; let (f, first) ← holding [ov] (getMethod ov m pl); callWith pos f first (backTo pos (starEach (e :: es) X.env)) (backToKw pos (keywordEach [] X.env))) := by rfl) :
    PE X (.Call (.Attribute o m apos) (e :: es) [] pos) (tMeth (He.ga X.K x) m sp [] E0 ta t) := by
  obtain ⟨f, fd, ps, cl, me, F, b⟩ := c.ex
  exact pe_meth ho cl me (F.mono hk) hr b .nil L2.pass0 ha hst hpl ht
theorem pe_m0 (c : Met X.prog X.w X.K X.mg X.base CX0 k x m sp) (hr : Room j X.A) (ho : PE X o ta) {pl : Sem Bool} (hk : k ≤ j := by decide)
    (ht : eval (.Call (.Attribute o m apos) [] [] pos) X.env = (do
      let ov ← eval o X.env; standAt apos.atName; let (f, first) ← holding [ov] (getMethod ov m pl); callWith pos f first (backTo pos (starEach [] X.env)) (backToKw pos (keywordEach [] X.env))) := by rfl) :
    PE X (.Call (.Attribute o m apos) [] [] pos) (tMeth (He.ga X.K x) m sp [] E0 ta tNil) := by
  obtain ⟨f, fd, ps, cl, me, F, b⟩ := c.ex
  exact pe_meth0 ho cl me (F.mono hk) hr b .nil L2.pass0 ht
end
end Bu
set_option Elab.async false
set_option linter.all false
set_option maxRecDepth 100000
set_option maxHeartbeats 4000000
/-! Heaps that change at a few places; data made of tuples; the mirror's types. -/
namespace Bu
open PySem PySem.Spec PyProof.Rows L2

/-! ### all but M stays -/
structure But (M : List Addr) (H H' : Hp) : Prop where
  keep : ∀ a o, H a = some o → a ∉ M → H' a = some o
  nt : ∀ a ∈ M, ∀ xs, ¬ Rd H a (.tup xs)
  dom : ∀ a, H' a = none → H a = none
section
variable {M M' : List Addr} {H H1 H2 : Hp} {p : Addr} {o : HO} {K : PySem.W.Frag}
theorem But.refl : But [] H H := ⟨fun _ _ h _ => h, fun _ h => absurd h (by simp), fun _ h => h⟩
theorem But.trans (a : But M H H1) (b : But M H1 H2) : But M H H2 := ⟨fun x u h n => b.keep x u (a.keep x u h n) n, a.nt, fun x h => a.dom x (b.dom x h)⟩
theorem But.mono (a : But M H H1) (h : ∀ x ∈ M, x ∈ M') (nt : ∀ x ∈ M', ∀ xs, ¬ Rd H x (.tup xs)) : But M' H H1 := ⟨fun x u q n => a.keep x u q fun z => n (h x z), nt, a.dom⟩
theorem But.same (a : But [] H H1) : Same H H1 := fun x u h => a.keep x u h (by simp)
theorem But.of_same (a : Same H H1) : But [] H H1 := ⟨fun x u h _ => a x u h, fun _ h => absurd h (by simp), fun x h => by
  cases e : H x with
  | none => rfl
  | some u => rw [a x u e] at h; cases h⟩
theorem But.free (a : But M H H1) (h : H1 p = none) : H p = none := a.dom p h
theorem But.upd (a : But M H H1) (h : p ∈ M ∨ H p = none ∨ H1 p = none) : But M H (upd H1 p o) := by
  refine ⟨fun x u q n => ?_, a.nt, fun x q => ?_⟩
  · have np : x ≠ p := by
      rintro rfl
      rcases h with h | h | h
      · exact n h
      · rw [q] at h; cases h
      · rw [a.keep x u q n] at h; cases h
    rw [upd_ne np]
    exact a.keep x u q n
  · by_cases np : x = p
    · rw [np, upd_same] at q; cases q
    · rw [upd_ne np] at q; exact a.dom x q
theorem But.new (a : But M H H1) (h : H1 p = none) : But M H (L2.upd H1 p o) := a.upd (.inr (.inr h))
theorem But.old (a : But M H H1) (h : p ∈ M) : But M H (L2.upd H1 p o) := a.upd (.inl h)
theorem But.young (a : But M H H1) (h : H p = none) : But M H (L2.upd H1 p o) := a.upd (.inr (.inl h))
theorem nt_lst {xs : List V} (h : H p = some (.lst xs)) : ∀ ys, ¬ Rd H p (.tup ys) := fun ys r => by
  rcases r with r | ⟨u, r⟩ <;> rw [h] at r <;> cases r
theorem nt_dk {xs : List (Key × V)} (h : H p = some (.dK xs)) : ∀ ys, ¬ Rd H p (.tup ys) := fun ys r => by
  rcases r with r | ⟨u, r⟩ <;> rw [h] at r <;> cases r
theorem nt_dt {xs : List (List Key × V)} (h : H p = some (.dT xs)) : ∀ ys, ¬ Rd H p (.tup ys) := fun ys r => by
  rcases r with r | ⟨u, r⟩ <;> rw [h] at r <;> cases r
theorem nt_ins {C dx : Addr} {fs : List (Str × V)} (h : H p = some (.ins C dx fs)) : ∀ ys, ¬ Rd H p (.tup ys) := fun ys r => by
  rcases r with r | ⟨u, r⟩ <;> rw [h] at r <;> cases r
theorem But.one (h : ∀ ys, ¬ Rd H p (.tup ys)) : But [p] H (L2.upd H p o) :=
  ⟨fun x u q n => (upd_ne (by simpa using n)).trans q, fun x hx => (show x = p by simpa using hx) ▸ h, fun x q => by
    by_cases np : x = p
    · rw [np, upd_same] at q; cases q
    · rw [upd_ne np] at q; exact q⟩
theorem But.nil (M : List Addr) (h : ∀ x ∈ M, ∀ xs, ¬ Rd H x (.tup xs)) : But M H H := But.refl.mono (fun _ z => absurd z (by simp)) h
theorem But.step (a : But M H H1) (b : But [] H1 H2) : But M H H2 := ⟨fun x u q n => b.keep x u (a.keep x u q n) (by simp), a.nt, fun x q => a.dom x (b.dom x q)⟩
/-- a change at M1, which lies in M or is new -/
theorem But.thn {M1 : List Addr} (a : But M H H1) (b : But M1 H1 H2) (h : ∀ x ∈ M1, x ∈ M ∨ H x = none) : But M H H2 := by
  refine ⟨fun x u q n => b.keep x u (a.keep x u q n) fun z => ?_, a.nt, fun x q => a.dom x (b.dom x q)⟩
  rcases h x z with h | h
  · exact n h
  · rw [q] at h; cases h
theorem But.rd {xs : List V} (a : But M H H1) (h : Rd H p (.tup xs)) : Rd H1 p (.tup xs) := by
  have n : p ∉ M := fun z => a.nt p z xs h
  rcases h with h | ⟨u, h⟩
  · exact .inl (a.keep p _ h n)
  · exact .inr ⟨u, a.keep p _ h n⟩
theorem But.sqT {xs : List V} (a : But M H H1) (h : SqT K H p xs) : SqT K H1 p xs := by
  rcases h with h | h
  · exact .inl (a.rd h)
  · exact .inr h
theorem But.sqL {xs : List V} (a : But M H H1) (h : SqL K H p xs) (n : p ∉ M) : SqL K H1 p xs := by
  rcases h with (h | ⟨u, h⟩) | h
  · exact .inl (.inl (a.keep p _ h n))
  · exact .inl (.inr ⟨u, a.keep p _ h n⟩)
  · exact .inr h
end

/-! ### data made of tuples -/
mutual
def tupD : PyData → Bool
  | .none | .bool _ | .int _ | .str _ => true
  | .tuple xs => tupDs xs
  | .list _ | .dict _ => false
def tupDs : List PyData → Bool
  | [] => true
  | x :: xs => tupD x && tupDs xs
end
mutual
theorem dp_but {K : PySem.W.Frag} {M : List Addr} {H H1 : Hp} (b : But M H H1) : ∀ (d : PyData) (v : V), tupD d = true → Dp K H v d → Dp K H1 v d
  | .none, _, _, .non => .non
  | .bool _, _, _, .bl _ => .bl _
  | .int _, _, _, .int _ => .int _
  | .str _, _, _, .str _ => .str _
  | .tuple ds, _, h, .tup s a => .tup (b.sqT s) (dps_but b ds _ (by unfold tupD at h; exact h) a)
  | .list _, _, h, _ => by unfold tupD at h; cases h
  | .dict _, _, h, _ => by unfold tupD at h; cases h
theorem dps_but {K : PySem.W.Frag} {M : List Addr} {H H1 : Hp} (b : But M H H1) : ∀ (ds : List PyData) (vs : List V), tupDs ds = true → DpAll K H vs ds → DpAll K H1 vs ds
  | [], _, _, .nil => .nil
  | d :: ds, _, h, .cons p q => by
    unfold tupDs at h
    rw [Bool.and_eq_true] at h
    exact .cons (dp_but b d _ h.1 p) (dps_but b ds _ h.2 q)
end
theorem dpa_length {K : PySem.W.Frag} {H : Hp} : ∀ {vs : List V} {ds : List PyData}, DpAll K H vs ds → vs.length = ds.length
  | _, _, .nil => rfl
  | _, _, .cons _ q => congrArg Nat.succ (dpa_length q)
theorem dpa_get {K : PySem.W.Frag} {H : Hp} : ∀ {vs : List V} {ds : List PyData} {i : Nat} {v : V}, DpAll K H vs ds → vs[i]? = some v → ∃ d, ds[i]? = some d ∧ Dp K H v d
  | _, _, _, _, .nil, e => by simp at e
  | _, _, 0, _, .cons p _, e => by simp at e; subst e; exact ⟨_, rfl, p⟩
  | _, _, i + 1, v, .cons _ q, e => by
    obtain ⟨d, h1, h2⟩ := dpa_get (i := i) (v := v) q (by simpa using e)
    exact ⟨d, by simpa using h1, h2⟩
theorem dpa_getD {K : PySem.W.Frag} {H : Hp} : ∀ {vs : List V} {ds : List PyData} {i : Nat} {d : PyData}, DpAll K H vs ds → ds[i]? = some d → ∃ v, vs[i]? = some v ∧ Dp K H v d
  | _, _, _, _, .nil, e => by simp at e
  | _, _, 0, _, .cons p _, e => by simp at e; subst e; exact ⟨_, rfl, p⟩
  | _, _, i + 1, d, .cons _ q, e => by
    obtain ⟨v, h1, h2⟩ := dpa_getD (i := i) (d := d) q (by simpa using e)
    exact ⟨v, by simpa using h1, h2⟩
theorem dpa_app {K : PySem.W.Frag} {H : Hp} : ∀ {vs ws : List V} {ds es : List PyData}, DpAll K H vs ds → DpAll K H ws es → DpAll K H (vs ++ ws) (ds ++ es)
  | _, _, _, _, .nil, q => q
  | _, _, _, _, .cons p r, q => .cons p (dpa_app r q)
theorem dpa_take {K : PySem.W.Frag} {H : Hp} : ∀ {vs : List V} {ds : List PyData} (n : Nat), DpAll K H vs ds → DpAll K H (vs.take n) (ds.take n)
  | _, _, 0, _ => by simp; exact .nil
  | _, _, n + 1, .nil => by simp; exact .nil
  | _, _, n + 1, .cons p r => by simp; exact .cons p (dpa_take n r)
theorem dpa_drop {K : PySem.W.Frag} {H : Hp} : ∀ {vs : List V} {ds : List PyData} (n : Nat), DpAll K H vs ds → DpAll K H (vs.drop n) (ds.drop n)
  | _, _, 0, h => by simpa using h
  | _, _, n + 1, .nil => by simp; exact .nil
  | _, _, n + 1, .cons _ r => by simpa using dpa_drop n r
theorem dpa_ints {K : PySem.W.Frag} {H : Hp} : ∀ (ns : List Int), DpAll K H (ns.map V.int) (ns.map PyData.int)
  | [] => .nil
  | n :: r => .cons (.int n) (dpa_ints r)
theorem dp_int {K : PySem.W.Frag} {H : Hp} {v : V} {i : Int} (h : Dp K H v (.int i)) : v = .int i := by cases h; rfl
theorem dp_str {K : PySem.W.Frag} {H : Hp} {v : V} {x : Str} (h : Dp K H v (.str x)) : v = .str x := by cases h; rfl
theorem dp_tup {K : PySem.W.Frag} {H : Hp} {v : V} {ds : List PyData} (h : Dp K H v (.tuple ds)) : ∃ a vs, v = .ref a ∧ SqT K H a vs ∧ DpAll K H vs ds := by
  cases h with | tup s a => exact ⟨_, _, rfl, s, a⟩
theorem dp_lst {K : PySem.W.Frag} {H : Hp} {v : V} {ds : List PyData} (h : Dp K H v (.list ds)) : ∃ a vs, v = .ref a ∧ SqL K H a vs ∧ DpAll K H vs ds := by
  cases h with | lst s a => exact ⟨_, _, rfl, s, a⟩
theorem dpa_cons {K : PySem.W.Frag} {H : Hp} {vs : List V} {d : PyData} {ds : List PyData} (h : DpAll K H vs (d :: ds)) : ∃ v ws, vs = v :: ws ∧ Dp K H v d ∧ DpAll K H ws ds := by
  cases h with | cons p q => exact ⟨_, _, rfl, p, q⟩
theorem dpa_nil {K : PySem.W.Frag} {H : Hp} {vs : List V} (h : DpAll K H vs []) : vs = [] := by cases h; rfl

/-! ### what is told in data -/
abbrev Hd := Int × Int × Str
abbrev Mo := Int × List Hd × Int
abbrev Br := List Mo
abbrev Tip := Int × Int
abbrev Span := Int × Tip × Tip × Int
abbrev Sheet := List Int
def hdD (h : Hd) : PyData := .tuple [.int h.1, .int h.2.1, .str h.2.2]
def moD (m : Mo) : PyData := .tuple [.int m.1, .tuple (m.2.1.map hdD), .int m.2.2]
def brD (b : Br) : PyData := .tuple (b.map moD)
def tipD (t : Tip) : PyData := .tuple [.int t.1, .int t.2]
def spanD (s : Span) : PyData := .tuple [.int s.1, tipD s.2.1, tipD s.2.2.1, .int s.2.2.2]
def sheetD (s : Sheet) : PyData := .tuple (s.map .int)
/-- deeds -/
inductive De where
  | bar (at_ : Int) (m : Br) | change (n : Int) (m : Br) | cut (n : Int) | move (n at_ : Int) | mark (s : Span) | wipe (n : Int) | fin (n : Int) (x : Str) | paper (s : Sheet)
  | odd (ds : List PyData) | many (l : List De)
mutual
def De.toD : De → PyData
  | .bar a m => .tuple [.str "bar", .int a, brD m]
  | .change n m => .tuple [.str "change", .int n, brD m]
  | .cut n => .tuple [.str "cut", .int n]
  | .move n a => .tuple [.str "move", .int n, .int a]
  | .mark s => .tuple [.str "mark", .int s.1, tipD s.2.1, tipD s.2.2.1, .int s.2.2.2]
  | .wipe n => .tuple [.str "wipe", .int n]
  | .fin n x => .tuple [.str "end", .int n, .str x]
  | .paper s => .tuple (.str "paper" :: s.map .int)
  | .odd ds => .tuple ds
  | .many l => .tuple [.str "many", .tuple (De.toDs l)]
def De.toDs : List De → List PyData
  | [] => []
  | d :: r => De.toD d :: De.toDs r
end
theorem toDs_eq : ∀ l : List De, De.toDs l = l.map De.toD
  | [] => rfl
  | d :: r => by show De.toD d :: De.toDs r = _; rw [toDs_eq r]; rfl
/-- the texts that stand in data -/
def signs : List Str := ["", "s", "f", "n"]
def Hd.ok (h : Hd) : Prop := h.2.2 ∈ signs
def Mo.ok (m : Mo) : Prop := m.2.1.length ≤ 8 ∧ ∀ h ∈ m.2.1, Hd.ok h
def Br.ok (b : Br) : Prop := ∀ m ∈ b, Mo.ok m
end Bu
set_option Elab.async false
set_option linter.all false
set_option maxRecDepth 100000
set_option maxHeartbeats 4000000
/-! A list comprehension whose element may raise (by a call). -/
namespace Bu
open PySem PySem.Spec PyProof.Rows L2

/-- the ground of a flight made smaller -/
theorem frames_less {B B' h : Heap} (k : ∀ b, B.get? b = none → B'.get? b = none) : ∀ {l : List Env}, h.FunFrames B l → h.FunFrames B' l
  | [], _ => trivial
  | _ :: _, ⟨hk, ⟨L, o, hf, hn, ho, hd⟩, hr⟩ => ⟨hk, ⟨L, o, hf, k _ hn, ho, hd⟩, frames_less k hr⟩
theorem held_let {B h h' : Heap} {l : List Env} {e C L : Addr} {Z : Obj → Prop} {m : Str → Option Value} {oC : Obj} (x : HandSPX.HeldZ B l e Z L h) (hC : B.get? C = some oC) (hn : h'.Ns C m) (hs : Heap.SameBut C h h') :
    HandSPX.HeldZ (PySem.W.hideAll B [C]) l e Z L h' := by
  obtain ⟨x1, x2, x3, oe, vs, T, oT, ts, a1, a2, a3, a4, a5, a6, a7, a8, a9⟩ := x
  have less : ∀ b, B.get? b = none → (PySem.W.hideAll B [C]).get? b = none := fun b e => by
    cases q : (PySem.W.hideAll B [C]).get? b with
    | none => rfl
    | some o => rw [PySem.W.of_hideAll _ q] at e; cases e
  have ne : ∀ b, B.get? b = none → b ≠ C := fun b e z => by rw [z, hC] at e; cases e
  refine ⟨fun b o q => ?_, less _ x2, frames_less less (Heap.FunFrames.sameBut hs hn x3), oe, vs, T, oT, ts, (hs.2 e (ne e x2)).trans a1, a2, a3, a4, less _ a5, a6, (hs.2 T (ne T a5)).trans a7, a8, a9⟩
  have nb : b ≠ C := fun z => by rw [z, PySem.W.hideAll_none [C] (by simp)] at q; cases q
  exact (hs.2 b nb).trans (x1 b o (PySem.W.of_hideAll _ q))

section
variable {X : Cx}
/-- what came out of a call within the block goes on in the def's own air -/
theorem block_fails {W : WX} {pins pins' : List (Addr × Obj)} {σ σ5 : L2.St} {H3 H5 : Hp} {s3 s s' : Shared} {scope : Scope} {cl : List (Str × Addr)} {fp : List Addr} {use : Option (Value → Sem Unit)} {Qf : Value → Shared → Prop} {D : Value} {xe : Value → Shared → Prop} {e : Value}
    (hs : X.stack = X.env :: X.outer) (hf : X.env.frame = some X.env.locals) (tk : Takes X W) (I3 : Inv X pins σ H3 s3) (f3 : ∀ b ∈ fp, FpOk X pins H3 b)
    (J : Inv ((X.blk s3 H3 scope (compEnvC scope cl s3.heap.objs.size X.env) fp).wish xe) pins' σ5 H5 s)
    (c : L2.CX X.prog X.w X.stack H5 s (fun k d H' => W k d σ H') e s') :
    notedBy (model X.prog X.w) X.A (compEnvC scope cl s3.heap.objs.size X.env) (fun e s'' => compEnds (model X.prog X.w) X.A X.xe use Qf D (compEnvC scope cl s3.heap.objs.size X.env) (.error e) s'') e s' := by
  obtain ⟨a, B, H', k, d, rfl, fl, hok, ub, na, os, ag, hE⟩ := c
  have hfr : X.A.frames = some (X.env :: X.outer) := by rw [I3.ok.frames, hs]
  obtain ⟨m, hn, _⟩ := J.loc
  have hn : s.heap.Ns s3.heap.objs.size m := hn
  have U : Un (frs X.stack) fp H3 H5 s3.heap s.heap := J.base
  have nC5 : H5 s3.heap.objs.size = none := J.free
  have cStk : s3.heap.objs.size ∉ frs X.stack := fun z => by
    rcases List.mem_cons.mp (I3.stkSub _ z) with q | q
    · exact absurd I3.lt (by rw [← q]; exact Nat.lt_irrefl _)
    · exact I3.nofs (Nat.le_refl _) q
  obtain ⟨oC, es, ep, hoC, hdC, rC⟩ := hn
  have hBC : B.get? s3.heap.objs.size = some oC := ub.keep _ _ hoC nC5 cStk
  have st : B.StaysIn s'.heap := fl.1
  have nC : H' s3.heap.objs.size = none := ub.free _ _ hoC nC5
  have hnS : s'.heap.Ns s3.heap.objs.size m := ⟨oC, es, ep, st _ _ hBC, hdC, rC⟩
  -- the state without the exception and without the block's names
  obtain ⟨G, g1, g2⟩ := restrict s'.heap fun b => ((B.get? b).isSome && decide (b ≠ s3.heap.objs.size)) || decide (b ∈ frs X.stack)
  have gB : ∀ b o, B.get? b = some o → b ≠ s3.heap.objs.size → G.get? b = some o := fun b o q n => by
    rw [g1 b (by simp [q, n])]
    exact st b o q
  have gF : ∀ b, b ∈ frs X.stack → G.get? b = s'.heap.get? b := fun b hb => g1 b (by simp [hb])
  have og : ∀ b o, G.get? b = some o → s'.heap.get? b = some o ∧ (((B.get? b).isSome = true ∧ b ≠ s3.heap.objs.size) ∨ b ∈ frs X.stack) := fun b o q => by
    cases z : (((B.get? b).isSome && decide (b ≠ s3.heap.objs.size)) || decide (b ∈ frs X.stack)) with
    | false => rw [g2 b z] at q; cases q
    | true =>
      rw [g1 b z] at q
      exact ⟨q, by simpa [Bool.or_eq_true, Bool.and_eq_true] using z⟩
  have young : ∀ b o, s3.heap.get? b = some o → b ≠ s3.heap.objs.size := fun b o q => Nat.ne_of_lt (Heap.lt_size q)
  have hokG : HOk X.prog X.w H' G := fun b o q => (hok b o q).stay (fun c u hc r => gB c u r fun z => by
      subst z
      rcases hc with hc | hc
      · rw [← hc, nC] at q; cases q
      · rw [nC] at hc; cases hc) (fun _ r => r) fun _ _ r => r
  have osS : s'.os = s3.os := os.trans J.os
  have IG : Inv X pins σ H' { s' with heap := G } := by
    refine I3.call' (ch := fp) osS ⟨fun b o q n hb hx => ?_, fun b o q n hb hx => ?_, fun b o q n hx => ?_, fun b o q hx => ?_, fun b xs q => ub.tups b xs (U.tups b xs q), fun b o xs q => ub.frzs b o xs (U.frzs b o xs q), fun b ps q => ?_⟩ hokG ag
      fun b hb => ⟨(f3 b hb).2.2.2.1, (f3 b hb).2.1, (f3 b hb).2.2.2.2.1, (f3 b hb).2.2.2.2.2⟩
    · exact gB b o (ub.keep b o (U.keep b o q n hb hx) (U.free b o q n hx) hb) (young b o q)
    · obtain ⟨sl, q1⟩ := U.slot b o q n hb hx
      obtain ⟨sl2, q2⟩ := ub.slot b _ q1 hb
      exact ⟨sl2, by rw [gF b hb]; exact q2⟩
    · obtain ⟨o1, q1⟩ := U.there b o q hx
      exact ub.free b o1 q1 (U.free b o q n hx)
    · obtain ⟨o1, q1⟩ := U.there b o q hx
      by_cases hb : b ∈ frs X.stack
      · obtain ⟨sl2, q2⟩ := ub.slot b _ q1 hb
        exact ⟨_, by rw [gF b hb]; exact q2⟩
      · obtain ⟨o2, q2⟩ := ub.there b o1 q1 hb
        exact ⟨o2, gB b o2 q2 (young b o q)⟩
    · obtain ⟨m1, q1⟩ := U.tbls b ps q
      obtain ⟨m2, q2⟩ := ub.tbls b _ q1
      exact ⟨m1 ++ m2, by rw [q2, Array.append_assoc]⟩
  -- noted, let go, handed on
  show wpAny (model X.prog X.w) X.A (noteFrame (.ref a) (compEnvC scope cl s3.heap.objs.size X.env)) _ _ s'
  rw [noteFrame_env (cenv := compEnvC scope cl s3.heap.objs.size X.env) (env := X.env) _ rfl]
  have fl' : HandSPX.FlyingZ B (X.env :: X.outer) a (Zc k d) s'.heap := by rw [← hs]; exact fl
  refine HandSPX.looks_onZ Zc.steady hfr hf fl' fun h3 hh up3 => ?_
  show CompFails (model X.prog X.w) X.A X.xe (compEnvC scope cl s3.heap.objs.size X.env) (.ref a) { s' with heap := h3 }
  refine ⟨m, Heap.Ns.upToSlots hnS up3, fun h4 m4 hn4 sb => ?_⟩
  have hh4 := held_let hh hBC hn4 sb
  obtain ⟨_, _, _, oe, vs, T, oT, ts, he, hz, hd, h1, _⟩ := id hh4
  unfold PySem.passOn
  refine wpAny_bind (wpAny_field he hd h1 ?_)
  rw [if_neg (show ¬ ((Value.ref T == Value.none) = true) from by simp)]
  rw [show (compEnvC scope cl s3.heap.objs.size X.env).frame = some X.env.locals from hf]
  refine wpAny_bind (HandSPX.setFlight_onZ hh4 fun h5 hh5 up5 => wpAny_throw (tk _ _ ?_))
  refine ⟨a, PySem.W.hideAll B [s3.heap.objs.size], { s' with heap := G }, pins, σ, H', k, d, rfl, IG, fun b o q hb => ?_, fun b o q hnf => ?_, .inr (.inr (by rw [hs]; exact hh5)), na, rfl, ag, hE⟩
  · obtain ⟨q1, q2⟩ := og b o q
    rcases q2 with ⟨q2, q3⟩ | q2
    · obtain ⟨o', q4⟩ := Option.isSome_iff_exists.mp q2
      have z := st b o' q4
      rw [q1] at z; cases z
      exact PySem.W.hideAll_get _ q4 (by simpa using q3)
    · exact absurd q2 hb
  · obtain ⟨q1, q2⟩ := og b o q
    have nb : b ≠ s3.heap.objs.size := fun z => by
      rcases q2 with ⟨_, q2⟩ | q2
      · exact q2 z
      · exact cStk (z ▸ q2)
    obtain ⟨sl, r1⟩ := up3 b o q1 hnf
    have r2 : h4.get? b = some { o with slots := sl } := (sb.2 b nb).trans r1
    obtain ⟨sl2, r3⟩ := up5 b _ r2 hnf
    exact ⟨sl2, r3⟩

/-- as tLc, the element with a wish for what a call of it lets out -/
def tLcX (W : WX) (wi : TI) (g : TG) (tt : TT) (te : XK → TE) (vs : List Nat) : TE := fun σ => tLc wi g tt (te fun k d H' => W k d σ H') vs σ
theorem pe_lcX {W : WX} {elt tg iter : Expr} {ifs : List Expr} {scope : Scope} {own : List (Str × Nat)} {pos : Pos} {wi : TI} {g : TG} {tt : TT} {te : XK → TE} (hc : X.calm = true) (hst : X.stack = X.env :: X.outer) (hfr : X.env.frame = some X.env.locals) (tk : Takes X W) (hN : X.N.Nodup) (hi : PI X tg iter wi) (ok : BlkOk X.N X.env.scope scope own)
    (hg : ∀ (s : Shared) (H : Hp) (C : Addr) (cl : List (Str × Addr)) (fp : List Addr), PG (X.blk s H scope (compEnvC scope cl C X.env) fp) tg g) (ht : ∀ (s : Shared) (H : Hp) (C : Addr) (cl : List (Str × Addr)) (fp : List Addr), PTs (X.blk s H scope (compEnvC scope cl C X.env) fp) ifs tt)
    (he : ∀ (s : Shared) (H : Hp) (C : Addr) (cl : List (Str × Addr)) (fp : List Addr) (xe : Value → Shared → Prop) (E : XK), (∀ σ, PassesAt (L2.CX X.prog X.w) ((X.blk s H scope (compEnvC scope cl C X.env) fp).wish xe) σ E) → PE ((X.blk s H scope (compEnvC scope cl C X.env) fp).wish xe) elt (te E))
    (hs : ∀ x, foldedSetIterable iter X.env x = pure x := by intro _; rfl) :
    PE X (.ListComp elt [⟨tg, iter, ifs, 0⟩] scope pos) (tLcX W wi g tt te (own.map (·.2))) := by
  refine ⟨fun pins s σ H Q I h => ?_⟩
  rw [eval_ListComp]
  have hfree : ∀ y ∈ scope.names, y.2 = .free → ∃ c, X.env.cells.lookup y.1 = some c := fun y hy z => (ok.free y hy z).elim (fun q => I.ok.has _ (.inl q)) fun q => I.ok.has _ (.inr q)
  refine comprehension_at (use := none) rfl hs (closure_ok hfree) ok.kind (fun y hy z => by rw [ok.uniq y hy, z]) (thn (hi.run pins s σ H _ I h) fun xv s1 hx => thn hx fun itv s2 h2 => ?_)
  obtain ⟨it, fp, tn, J, H2, rfl, I2, T, st2, f2, q⟩ := h2
  refine wpAny_newObj_type (newEnv_comp ?_) (by show 0 ≤ sizeLine; decide)
  generalize hD : s2.heap.objs.size = D
  have hDn : H2 D = none := I2.hok.fresh (Nat.le_of_eq hD)
  obtain ⟨Wi, ⟨m0, w0⟩, turn⟩ := q D hDn
  generalize hs3 : ({ s2 with heap := s2.heap.push { cls := .type "list", data := .seq ([] : List Value).toArray } } : Shared) = s3
  have h3 : s3.heap = s2.heap.push { cls := .type "list", data := .seq ([] : List Value).toArray } := by rw [← hs3]
  have I3 : Inv X pins σ (upd H2 D (.lst [])) s3 := by
    rw [← hs3]; refine I2.laid (t' := s2.toks) (fun b o r => Heap.get?_push_of_some _ r) (Nat.le_of_eq hD) ⟨Nat.zero_le _, [], 0, .nil, ?_⟩
    rw [← hD]; exact Heap.get?_push_size _ rfl
  have f3 : ∀ b ∈ fp, FpOk X pins (upd H2 D (.lst [])) b ∧ b < s3.heap.objs.size := fun b hb => by
    obtain ⟨ob, r, _⟩ := T.obj _ _ st2 b hb
    have lt := Heap.lt_size r
    refine ⟨⟨?_, (f2 b hb).2⟩, by rw [h3, Heap.size_push]; exact Nat.lt_succ_of_lt lt⟩
    rw [upd_ne (by rw [← hD]; exact Nat.ne_of_lt lt)]; exact (f2 b hb).1
  have st3 : tn 0 s3.heap := T.keep _ _ _ st2 fun b _ o r => by rw [h3]; exact Heap.get?_push_of_some _ r
  have I4 := block_start I3 ok hN f3
  have pg := hg s3 (upd H2 D (.lst [])) s3.heap.objs.size (cellsFrom (s3.heap.objs.size + 1) scope.names (cloFrom X.env.cells scope.names [])) fp
  have pt := ht s3 (upd H2 D (.lst [])) s3.heap.objs.size (cellsFrom (s3.heap.objs.size + 1) scope.names (cloFrom X.env.cells scope.names [])) fp
  have pe := he s3 (upd H2 D (.lst [])) s3.heap.objs.size (cellsFrom (s3.heap.objs.size + 1) scope.names (cloFrom X.env.cells scope.names [])) fp
  show codeAny _ _ (.compStart (.ListComp elt [⟨tg, iter, ifs, 0⟩] scope pos) 0 (.ref it) (.ref D) (compEnvC scope (cellsFrom (s3.heap.objs.size + 1) scope.names (cloFrom X.env.cells scope.names [])) s3.heap.objs.size X.env))
    (compEnds (model X.prog X.w) X.A X.xe none (EP X pins σ Q) (.ref D) (compEnvC scope (cellsFrom (s3.heap.objs.size + 1) scope.names (cloFrom X.env.cells scope.names [])) s3.heap.objs.size X.env)) { s3 with heap := pushCells (s3.heap.push { cls := .type "dict", data := .dict #[] }) scope.names }
  have nfp : ∀ b ∈ fp, (upd H2 D (.lst [])) b = none := fun b hb => (f3 b hb).1.1
  generalize hcl : cellsFrom (s3.heap.objs.size + 1) scope.names (cloFrom X.env.cells scope.names []) = cl at I4 pg pt pe ⊢
  generalize hH3 : upd H2 D (.lst []) = H3 at I3 I4 pg pt pe w0 nfp f3
  generalize hs4 : ({ s3 with heap := pushCells (s3.heap.push { cls := .type "dict", data := .dict #[] }) scope.names } : Shared) = s4 at I4 ⊢
  have st4 : tn 0 s4.heap := T.keep _ _ _ st3 fun b _ o r => by rw [← hs4]; exact pushCells_keeps _ _ _ _ (Heap.get?_push_of_some _ r)
  have stat : ∀ {σ' : L2.St} {H' : Hp} {s' : Shared}, Inv (X.blk s3 H3 scope (compEnvC scope cl s3.heap.objs.size X.env) fp) [] σ' H' s' → (∀ b ∈ fp, H' b = none) → ∀ b ∈ fp, FpOk (X.blk s3 H3 scope (compEnvC scope cl s3.heap.objs.size X.env) fp) [] H' b := fun {σ' H' s'} I' hn b hb =>
    ⟨hn b hb, (I'.ok.exf b hb).1, I'.ok.exfs b hb, .inl hb, fun x c z => (I'.ok.exf b hb).2 x c z, fun p hp => absurd (show p ∈ ([] : List (Addr × Obj)) ++ [] from hp) (by simp)⟩
  have loop : codeAny (model X.prog X.w) X.A (.compLoop (.ListComp elt [⟨tg, iter, ifs, 0⟩] scope pos) 0 (.ref it) (.ref D) (compEnvC scope cl s3.heap.objs.size X.env)) (compEnds (model X.prog X.w) X.A X.xe none (EP X pins σ Q) (.ref D) (compEnvC scope cl s3.heap.objs.size X.env)) s4 := by
    refine compLoop_any (fun n s' => ∃ i H', Inv (X.blk s3 H3 scope (compEnvC scope cl s3.heap.objs.size X.env) fp) [] (wipe σ (own.map (·.2))) H' s' ∧ tn i s'.heap ∧ (∀ b ∈ fp, H' b = none) ∧ Wi i n H') ?_ m0 ⟨0, H3, I4, st4, nfp, w0⟩
    rintro n s5 ⟨i, H5, I5, st5, n5, w5⟩
    rcases turn i n H5 w5 with ⟨stop, qq⟩ | ⟨go, Nx, hNx, step⟩
    · refine thnF (T.done (X.blk s3 H3 scope (compEnvC scope cl s3.heap.objs.size X.env) fp) rfl rfl rfl hc i [] s5 _ H5 (fun _ _ => False) I5 (stat I5 n5) st5 stop) fun r s6 ⟨hr, I6⟩ => ?_
      subst hr
      have I7 : Inv X pins σ H5 s6 := I3.call' (ch := fp) I6.os I6.base I6.hok I6.bare fun b hb => ⟨(f3 b hb).1.2.2.2.1, (f3 b hb).1.2.1, (f3 b hb).1.2.2.2.2.1, (f3 b hb).1.2.2.2.2.2⟩
      have nC : H5 s3.heap.objs.size = none := I6.free
      obtain ⟨m, hn, _⟩ := I6.loc
      obtain ⟨g0, g1, g2, g3, g4, g5⟩ := I3.fpOk (H' := H5) (Nat.le_refl _) nC
      exact ⟨m, hn, fun h'' sb => ⟨.ref D, H5, I7.turned (t' := s6.toks) (fun b o hb r => (sb.2 b hb).trans r) g0 g1 g3 g4 g5, rfl, qq⟩⟩
    · refine thnF (T.item (X.blk s3 H3 scope (compEnvC scope cl s3.heap.objs.size X.env) fp) rfl rfl rfl hc i [] s5 _ H5 (fun _ _ => False) I5 (stat I5 n5) st5 go) fun r s6 ⟨u, hr, h6⟩ => ?_
      subst hr
      refine thnF h6 fun _ s7 ⟨x, H7, I7, r7, y7, st7, n7⟩ => ?_
      have I7' := I7.pinned (stat I7 n7) (T.obj _ _ st7)
      refine thnF (pg.run _ s7 _ H7 x u _ I7' r7 (step x H7 y7)) fun _ s8 ⟨σ8, H8, I8, hw8, q8⟩ => ?_
      refine thnF (pt.run _ s8 σ8 H8 _ I8 q8) fun b s9 ⟨H9, I9, q9⟩ => ?_
      have fin : ∀ {s' : Shared} {H' : Hp}, Inv (X.blk s3 H3 scope (compEnvC scope cl s3.heap.objs.size X.env) fp) ([] ++ pinsAt fp s7.heap) σ8 H' s' → Nx H' → ∃ m, m < n ∧ ∃ i H', Inv (X.blk s3 H3 scope (compEnvC scope cl s3.heap.objs.size X.env) fp) [] (wipe σ (own.map (·.2))) H' s' ∧ tn i s'.heap ∧ (∀ b ∈ fp, H' b = none) ∧ Wi i m H' := fun {s' H'} I' nx => by
        obtain ⟨m', hm, w'⟩ := hNx H' nx
        have pin' : ∀ b ∈ fp, ∀ o, s7.heap.get? b = some o → s'.heap.get? b = some o ∧ H' b = none := fun b hb o r => ⟨(I'.pin (b, o) (List.mem_append_right _ (List.mem_append_right _ (mem_pinsAt hb r)))).1, (I'.pin (b, o) (List.mem_append_right _ (List.mem_append_right _ (mem_pinsAt hb r)))).2.1⟩
        refine ⟨m', hm, i + 1, H', (I'.unpinned (pins := [])).weak (by rw [← hw8, wipe_length]) (fun j v r => by rw [← hw8] at r; exact (wipe_some r).1), T.keep _ _ _ st7 fun b hb o r => (pin' b hb o r).1, fun b hb => ?_, w'⟩
        obtain ⟨o, r, _⟩ := T.obj _ _ st7 b hb
        exact (pin' b hb o r).2
      cases b with
      | false =>
        simp only [Bool.false_eq_true, if_false] at q9 ⊢
        exact fin I9 q9
      | true =>
        simp only [if_true] at q9 ⊢
        refine wpAny_mono ((pe (notedBy (model X.prog X.w) X.A (compEnvC scope cl s3.heap.objs.size X.env) fun e s'' => compEnds (model X.prog X.w) X.A X.xe none (EP X pins σ Q) (.ref D) (compEnvC scope cl s3.heap.objs.size X.env) (.error e) s'') _
          (fun σ5 pins5 H5' s5' e s5'' J5 c5 => block_fails hst hfr tk I3 (fun b hb => (f3 b hb).1) J5 c5)).run _ s9 σ8 H9 _ (I9.wish _) q9) (fun z s10 h10 => ?_) (fun _ _ z => z)
        obtain ⟨yv, H10, I10, r10, acc, hD10, hz10, nx⟩ := h10
        have I10' : Inv (X.blk s3 H3 scope (compEnvC scope cl s3.heap.objs.size X.env) fp) ([] ++ pinsAt fp s7.heap) σ8 H10 s10 := I10.unwish
        exact app_ok (X := X.blk s3 H3 scope (compEnvC scope cl s3.heap.objs.size X.env) fp) I10' hD10 hz10 r10 fun s11 I11 => fin I11 nx
  exact codeAny_compStart_list loop (T.self X.A 0 _ _ _ st4 loop)
/-- a call in the element -/
theorem pe_cxE {CX : CXT} {k j : Nat} {x : Str} {sp : Sp} {p pos : Pos} {e : Expr} {es : List Expr} {t : TA} {E : XK} (c : Cal X.prog X.w X.K X.mg X.base (L2.CX X.prog X.w) k x sp) (hr : Room j X.A) (hx : ∀ σ, PassesAt (L2.CX X.prog X.w) X σ E) (ha : PA X (e :: es) t) (hk : k ≤ j := by decide) (hg : Gl X x := by rfl) (hdb : (x == ("__debug__" : Str)) = false := by decide)
    (he : starEach (e :: es) X.env = (false, eval e X.env) :: starEach es X.env := by rfl) (hpl : (backTo pos (starEach es X.env)).any (·.1) = false := by rfl) :
    PE X (.Call (.Name x p) (e :: es) [] pos) (tCallS sp (fun _ => E) t) := by
  obtain ⟨f, fd, ps, F, hm, kp, b⟩ := c.ex
  exact pe_callS (F.mono hk) hr hg hm kp b hx ha hdb he hpl
end
end Bu
set_option Elab.async false
set_option linter.all false
set_option maxRecDepth 100000
set_option maxHeartbeats 4000000
/-! Exceptions of own classes over ValueError or LookupError whose __init__ calls the base's. -/
namespace Bu
open PySem PySem.Spec PyProof.Rows L2
/-- the classes above let stores pass -/
structure MroOk (l : List Value) : Prop where
  pass : ∀ self, refuseLoop self "__setattr__" l = pure ()
  obj : l.contains (.type "object") = true
theorem MroOk.ne {l : List Value} (h : MroOk l) : l.isEmpty = false := by
  cases l with
  | nil => exact absurd h.obj (by decide)
  | cons _ _ => rfl
theorem MroOk.ref {l : List Value} (h : MroOk l) (C : Addr) : MroOk (.ref C :: l) :=
  ⟨fun self => by rw [refuseLoop_ref]; exact h.pass self, by rw [List.contains_cons, h.obj, Bool.or_true]⟩
theorem mroVE : MroOk [.type "ValueError", .type "Exception", .type "BaseException", .type "object"] := ⟨F.store_ValueError.passes, by decide +kernel⟩
theorem mroLE : MroOk [.type "LookupError", .type "Exception", .type "BaseException", .type "object"] := ⟨F.store_LookupError.passes, by decide +kernel⟩
/-- what the written part says of the class -/
structure Oex (K : PySem.W.Frag) (C : Addr) : Prop where
  cls : ∃ nm q N bs bm sn sub ab col dd k0 k1 k2 k3 k5 B ni ii bmB, K.lookup C = some (excClassObj nm q C N bs bm true sn sub ab col dd k0 k1 k2 k3 k5 ni) ∧ ExcBaseFacts B ni ii bmB ∧ (∀ X : String, bm.contains (.type X) = bmB.contains (.type X)) ∧ MroOk bm
  sa : PySem.W.findIn K (.ref C) "__setattr__" = some (some (.builtin "object.__setattr__"))
  exC : PySem.W.subIn K (.ref C) (.type "BaseException") = some true
  tyC : PySem.W.typeIn K (.ref C) = some (.type "type")
  kC : PySem.W.keepIn K (.ref C) = true
theorem Oex.data {K : PySem.W.Frag} {C : Addr} (T : Oex K C) : ∃ cd : ClassData, PySem.W.clsIn K C = some cd ∧ MroOk cd.mro ∧ cd.hasDict = true ∧ cd.hasDel = false := by
  obtain ⟨nm, q, N, bs, bm, sn, sub, ab, col, dd, k0, k1, k2, k3, k5, B, ni, ii, bmB, hC, _, _, hm⟩ := T.cls
  exact ⟨{ name := nm, bases := bs, mro := .ref C :: bm, ns := N, qualname := q, hasDict := true, slotNames := sn, subclasses := sub, abstract := ab, collection := col, hasDel := false }, by unfold PySem.W.clsIn; rw [hC] <;> rfl, hm.ref C, rfl, rfl⟩
section
open Builtin Builtin.ObjectAttr PySem.W
variable {prog : Program} {w : World} {A : Around} {E : Value → Shared → Prop} {R : Result → Shared → Prop} {hp : Heap} {g : Array GenState} {d : Drawn} {t : Nat} {os : OsState}

theorem osaN {K : Frag} {f : Str} {tk : Tok} {v : Value} {x C : Addr} {fv : Array Value} {cd : ClassData} (X : K.In hp) (hx : hp.get? x = some { cls := .ref C, data := .fields fv }) (hcd : clsIn K C = some cd) (hm : MroOk cd.mro) (hh : cd.hasDict = true) (hl : cd.hasDel = false) (ha : findIn K (.ref C) f = some none)
    (hq : ∀ h' tk' dx, (∀ b o, b ≠ x → hp.get? b = some o → h'.get? b = some o) → hp.objs.size ≤ dx → dx ≠ x → h'.get? x = some { cls := .ref C, dict := some dx, data := .fields fv } → h'.Ns1 dx (fun y => if y = f then some v else none) → R (.ok (.ret .none)) ⟨h', g, d, tk', os⟩) :
    codeAny (model prog w) A (.call (.builtin "object.__setattr__") ⟨[.ref x, .str f tk, v], []⟩) R ⟨hp, g, d, t, os⟩ := by
  have I : InstAt hp x { cls := .ref C, data := .fields fv } C none := ⟨hx, rfl, rfl, trivial⟩
  have SF := F.store_object
  have hxs : x ≠ hp.objs.size := Nat.ne_of_lt (Heap.lt_size hx)
  have sub : Looks (model prog w) hp (isInstance (.ref x) (.type "object")) true := I.type.andThen (looks_mroIn X (by unfold mroIn; rw [hcd, Option.bind_some, if_neg (by rw [hm.ne]; decide), hm.obj]))
  refine codeAny_call_builtin SF.slot.plain SF.entry (@check_slot (model prog w) _ _ ⟨hp, g, d, t, os⟩ "object.__setattr__" "object" "__setattr__" (.ref x) [.str f tk, v] [] _ SF.kind SF.split sub (SF.args (.ref x) (.str f tk) v) ?_)
  have mr : Looks (model prog w) hp (mroOf (.ref C)) cd.mro := (looks_clsIn X hcd).andThen .now
  have L3 : Looks (model prog w) hp (storeTaker? none) none := .now
  have lc : Looks (model prog w) hp (classData C) cd := looks_clsIn X hcd
  rw [osa_eq, refuse_eq]
  refine wpAny_bind (wpAny_bind (I.type.at (wpAny_bind (mr.at ?_)))); rw [hm.pass]
  refine wpAny_pure (wpAny_bind (I.type.at (wpAny_bind ((looks_findIn X ha).at (wpAny_bind (L3.at ?_))))))
  show wpAny _ _ (storeInOwnDict (.ref x) (.ref C) (.str f tk) f v false) _ _ _
  obtain ⟨nm, bs, mro, ns, qn, hd, sn, sb, ab, col, del⟩ := cd
  dsimp only at hh hl; subst hh hl
  unfold storeInOwnDict ownDictForStores
  repeat (first | with_reducible refine HandSPX.store_in_new ?_ ?_ | with_reducible refine wpAny_loadPart_at hx ?_ | with_reducible refine lc.at ?_ | wp_step)
  · exact ⟨_, #[], _, (Heap.get?_update_ne _ _ _ _ hxs.symm).trans (Heap.get?_push_at rfl rfl), rfl, fun e he => absurd he (by simp), fun _ => rfl⟩
  · intro h' tk' hn' hs
    refine hq h' tk' hp.objs.size (fun b o hb ho => (hs.2 b (Nat.ne_of_lt (Heap.lt_size ho))).trans ((Heap.get?_update_ne _ _ _ _ hb).trans (Heap.get?_push_of_some _ ho))) (Nat.le_refl _) hxs.symm ?_ hn'
    exact (hs.2 x hxs).trans (Heap.get?_update_self _ (Heap.get?_push_of_some _ hx) rfl)
theorem osaO {K : Frag} {f : Str} {tk : Tok} {v : Value} {x C dx : Addr} {fv : Array Value} {cd : ClassData} {m0 : Str → Option Value} {nl : List Str} (X : K.In hp) (hx : hp.get? x = some { cls := .ref C, dict := some dx, data := .fields fv }) (hns : hp.Ns1 dx m0) (hw : Within m0 nl) (hz : nl.length ≤ 1000)
    (hcd : clsIn K C = some cd) (hm : MroOk cd.mro) (hh : cd.hasDict = true) (hl : cd.hasDel = false) (ha : findIn K (.ref C) f = some none)
    (hq : ∀ h' tk', (∀ b o, b ≠ dx → hp.get? b = some o → h'.get? b = some o) → h'.Ns1 dx (fun y => if y = f then some v else m0 y) → R (.ok (.ret .none)) ⟨h', g, d, tk', os⟩) :
    codeAny (model prog w) A (.call (.builtin "object.__setattr__") ⟨[.ref x, .str f tk, v], []⟩) R ⟨hp, g, d, t, os⟩ := by
  obtain ⟨oD, _, _, hoD, _, _⟩ := hns.count hw
  have I : InstAt hp x { cls := .ref C, dict := some dx, data := .fields fv } C (some oD) := ⟨hx, rfl, rfl, hoD⟩
  have SF := F.store_object
  have sub : Looks (model prog w) hp (isInstance (.ref x) (.type "object")) true := I.type.andThen (looks_mroIn X (by unfold mroIn; rw [hcd, Option.bind_some, if_neg (by rw [hm.ne]; decide), hm.obj]))
  refine codeAny_call_builtin SF.slot.plain SF.entry (@check_slot (model prog w) _ _ ⟨hp, g, d, t, os⟩ "object.__setattr__" "object" "__setattr__" (.ref x) [.str f tk, v] [] _ SF.kind SF.split sub (SF.args (.ref x) (.str f tk) v) ?_)
  have mr : Looks (model prog w) hp (mroOf (.ref C)) cd.mro := (looks_clsIn X hcd).andThen .now
  have L3 : Looks (model prog w) hp (storeTaker? none) none := .now
  have lc : Looks (model prog w) hp (classData C) cd := looks_clsIn X hcd
  rw [osa_eq, refuse_eq]
  refine wpAny_bind (wpAny_bind (I.type.at (wpAny_bind (mr.at ?_)))); rw [hm.pass]
  refine wpAny_pure (wpAny_bind (I.type.at (wpAny_bind ((looks_findIn X ha).at (wpAny_bind (L3.at ?_))))))
  show wpAny _ _ (storeInOwnDict (.ref x) (.ref C) (.str f tk) f v false) _ _ _
  obtain ⟨nm, bs, mro, ns, qn, hd, sn, sb, ab, col, del⟩ := cd
  dsimp only at hh hl; subst hh hl
  unfold storeInOwnDict ownDictForStores
  repeat (first | with_reducible refine OEX.store_in_old hns hw hz ?_ | with_reducible refine wpAny_loadPart_at hx ?_ | with_reducible refine lc.at ?_ | wp_step)
  intro h' tk' hn' hs; exact hq h' tk' (fun b o hb ho => (hs.2 b hb).trans ho) hn'
end
section
variable {X : Cx} {pins : List (Addr × Obj)} {σ : L2.St} {H : Hp} {s : Shared} {a C dx : Addr} {f : Str} {y : V} {u : Value} {fs : List (Str × V)} {Q : Unit → Shared → Prop} {E : Value → Shared → Prop} {A : Around}
/-- self.f = y, the first one -/
theorem stN (T : Oex X.K C) (I : Inv X pins σ H s) (e : H a = some (exo a C none)) (hno : PySem.W.findIn X.K (.ref C) f = some none) (ry : RelV y u)
    (h : ∀ dx s', H dx = none → dx ≠ a → Inv X pins σ (upd (upd H dx (exd dx [(f, y)])) a (exo a C (some dx))) s' → Q () s') : wpAny (model X.prog X.w) A (setAttr (.ref a) f u) Q E s := by
  obtain ⟨cd, hcd, hm, hh, hl⟩ := T.data
  obtain ⟨t1, ho⟩ := exo_at I.hok e
  obtain ⟨hp, g, d, t, os⟩ := s
  refine PySem.W.set_plain I.kIn (ox := { cls := .ref C, dict := none, data := .fields #[.ref t1, .none, .none, .none, .bool false, .none] }) (od := none) ⟨ho, rfl, rfl, trivial⟩ T.sa ?_
  refine osaN I.kIn ho hcd hm hh hl hno (fun h' tk' dx k dn dne hx hn => ?_)
  have hnd : H dx = none := I.hok.fresh dn
  have nd : ∀ {b : Addr} {o : Obj}, hp.get? b = some o → b ≠ dx := fun {b o} q => Nat.ne_of_lt (Nat.lt_of_lt_of_le (Heap.lt_size q) dn)
  have na : ∀ {b : Addr}, H b = none → b ≠ a := fun {b} n z => by rw [z, e] at n; cases n
  refine h dx _ hnd dne (I.un (t' := tk') ⟨fun b o q n _ _ => k b o (na n) q, fun b o q n _ _ => ⟨o.slots, k b o (na n) q⟩, fun b o q n _ => by rw [upd_ne (na n), upd_ne (nd q)]; exact n, fun b o q _ => ?_,
    fun b xs q => by rw [upd_ne (at_ne e q exo_tup), upd_ne (ne_of_none q hnd)]; exact q, fun b o v q => by rw [upd_ne (at_ne e q exo_frz), upd_ne (ne_of_none q hnd)]; exact q, fun b ps q => ⟨#[], by rw [upd_ne (at_ne e q exo_tbl), upd_ne (ne_of_none q hnd), q]; simp⟩⟩ fun b o q => ?_)
  · by_cases hb : b = a
    · exact ⟨_, by rw [hb]; exact hx⟩
    · exact ⟨o, k b o hb q⟩
  · by_cases hb : b = a
    · subst hb; rw [upd_same] at q; cases q; exact exo_ok hx
    · rw [upd_ne hb] at q
      by_cases hd : b = dx
      · subst hd; rw [upd_same] at q; cases q; exact exd_ok hn (relO_put (fs := []) ry fun g => True.intro)
      · rw [upd_ne hd] at q
        exact (I.hok b o q).stay (fun c v hc z => k c v (by
            rcases hc with hc | hc
            · rw [hc]; exact hb
            · exact at_ne e hc exo_own) z)
          (fun c hc => by rw [upd_ne (at_ne e hc exo_own), upd_ne (ne_of_none hc hnd)]; exact hc) (fun c xs hc => by rw [upd_ne (at_ne e hc exo_tup), upd_ne (ne_of_none hc hnd)]; exact hc)
/-- .. a further one -/
theorem stO (T : Oex X.K C) (I : Inv X pins σ H s) (e : H a = some (exo a C (some dx))) (ed : H dx = some (exd dx fs)) (hz : fs.length ≤ 900) (hno : PySem.W.findIn X.K (.ref C) f = some none) (ry : RelV y u)
    (h : ∀ s', Inv X pins σ (upd H dx (exd dx ((f, y) :: fs))) s' → Q () s') : wpAny (model X.prog X.w) A (setAttr (.ref a) f u) Q E s := by
  obtain ⟨cd, hcd, hm, hh, hl⟩ := T.data
  obtain ⟨t1, ho⟩ := exo_at I.hok e
  obtain ⟨mA, hns, rel⟩ := exd_at I.hok ed
  have hw := within_of rel
  obtain ⟨hp, g, d, t, os⟩ := s
  obtain ⟨oD, _, _, hoD, _, _⟩ := hns.count hw
  refine PySem.W.set_plain I.kIn (ox := { cls := .ref C, dict := some dx, data := .fields #[.ref t1, .none, .none, .none, .bool false, .none] }) (od := some oD) ⟨ho, rfl, rfl, hoD⟩ T.sa ?_
  refine osaO I.kIn ho hns hw (by rw [List.length_map]; omega) hcd hm hh hl hno (fun h' tk' k hn => ?_)
  have hd : ∃ o, h'.get? dx = some o := by
    obtain ⟨o, _, _, e', _⟩ := hn; exact ⟨o, e'⟩
  exact h _ (I.write (t' := tk') (x := dx) (e := dx) (o := exd dx ((f, y) :: fs)) (by rw [ed]; exact True.intro) (.inl rfl) k hd (exd_ok hn (relO_put ry rel)))
end
/-- self.f = e -/
def tXst (K : PySem.W.Frag) (f : Str) (to te : TE) : TS := fun D σ H => te σ H fun y H1 => to σ H1 fun x H2 => ∃ a C : Addr, x = .ref a ∧ Oex K C ∧ PySem.W.findIn K (.ref C) f = some none ∧
  ((H2 a = some (exo a C none) ∧ ∀ dx, H2 dx = none → dx ≠ a → D.nx σ (upd (upd H2 dx (exd dx [(f, y)])) a (exo a C (some dx)))) ∨
    ∃ (dx : Addr) (fs : List (Str × V)), H2 a = some (exo a C (some dx)) ∧ H2 dx = some (exd dx fs) ∧ fs.length ≤ 900 ∧ D.nx σ (upd H2 dx (exd dx ((f, y) :: fs))))
section
variable {X : Cx} {o e : Expr} {es : List Expr} {to te : TE} {ta : TA} {f x : Str} {p p' p1 p2 pos : Pos}
theorem ps_xst (ho : PE X o to) (he : PE X e te) (hs : swapsWith e (some (.Attribute o f p')) pos.line X.env = pure false := by rfl) : PS X (.Assign [.Attribute o f p'] e pos) (tXst X.K f to te) := by
  refine ⟨fun pins s σ H D I h => ?_⟩
  refine plainObj_wpAny_Assign_Attribute (thn (he.run pins s σ H _ I h) fun v s1 ⟨y, H1, I1, r1, q1⟩ => thn (ho.run pins s1 σ H1 _ I1 q1) fun u s2 ⟨x, H2, I2, r2, a, C, ex, T, hno, q⟩ => ?_) hs
  subst ex
  obtain rfl : u = Value.ref a := r2
  rcases q with ⟨ea, q⟩ | ⟨dx, fs, ea, ed, hl, q⟩
  · exact stN T I2 ea hno r1 fun dx s' n ne J => ⟨σ, _, J, q dx n ne⟩
  · exact stO T I2 ea ed hl hno r1 fun s' J => ⟨σ, _, J, q⟩
/-- a def read off a class -/
structure InC (K : PySem.W.Frag) (C : Addr) (m : Str) (f : Addr) : Prop where
  rd : ClX.CRead K C (.type "type")
  at_ : PySem.W.findCls K (.ref C) (.type "type") m = some (.val (.ref f))
/-- C.m(e, ..), C a class of the module, m a def of it -/
theorem pe_cm {CX : CXT} {k : Nat} {C fA : Addr} {m : Str} {fd : FuncData} {ps : List Str} {sp : Sp} {E : XK} {pl : Sem Bool} (hg : Gl X x) (hm : X.mg x = some (.ref C)) (r : InC X.K C m fA) (F1 : FnOk X.prog X.w X.K X.mg X.base CX k fA fd ps sp) (hk : PySem.W.keepIn X.K (.ref fA) = true) (hr : Room k X.A) (hb : L2.Binds X.K fd ps [])
    (hx : Passes CX X E) (ha : PA X (e :: es) ta)
    (hc : eval (.Call (.Attribute (.Name x p1) m p2) (e :: es) [] pos) X.env = (do
      let ov ← eval (.Name x p1) X.env; standAt p2.atName; let (f, first) ← holding [ov] (getMethod ov m pl); callWith pos f first (backTo pos (starEach (e :: es) X.env)) (backToKw pos (keywordEach [] X.env))) := by rfl)
    (hdb : (x == ("__debug__" : Str)) = false := by decide) (he : starEach (e :: es) X.env = (false, eval e X.env) :: starEach es X.env := by rfl) (hpl : (backTo pos (starEach es X.env)).any (·.1) = false := by rfl) :
    PE X (.Call (.Attribute (.Name x p1) m p2) (e :: es) [] pos) (tCall sp [] E ta) := by
  refine ⟨fun pins s σ H Q I h => ?_⟩
  refine PySem.W.methodCall_KW (pl := pl) (ld_glob I hg hm ?_ hdb) hc
  refine PySem.W.method_cls I.kIn r.rd.ga (ClX.getcval_ok (v := .ref fA) I r.rd ⟨r.at_, rfl⟩ fun s2 I2 => ?_)
  refine PySem.W.callWith_K (h₀ := X.base) (first := []) I.ok.mod.kin hk (thn (ha.run pos pins s2 σ H _ I2 h) fun us s3 ⟨vs, H1, I3, rv, q⟩ => ⟨I3.kIn, ?_⟩) he hpl
  exact run_fn F1 hr hb .nil hx I3 rv q
end
end Bu
set_option Elab.async false
set_option linter.all false
set_option maxRecDepth 100000
set_option maxHeartbeats 4000000
/-! Exceptions made and raised. -/
namespace Bu
open PySem PySem.Spec PyProof.Rows L2
/-- the names that no such class has as its own -/
def xNames : List Str := ["says", "place", "number"]
def NoX (K : PySem.W.Frag) (C : Addr) : Prop := ∀ f ∈ xNames, PySem.W.findIn K (.ref C) f = some none
/-- an __init__ that leaves the fields l for its arguments -/
def spIni (K : PySem.W.Frag) (fs : List V → Option (List (Str × V))) : Sp := fun vs H Q _ => ∃ (a C : Addr) (ws : List V) (l : List (Str × V)), vs = .ref a :: ws ∧ fs ws = some l ∧ Oex K C ∧ NoX K C ∧ H a = some (exo a C none) ∧
  ∀ dx, H dx = none → dx ≠ a → Q .non (upd (upd H dx (exd dx l)) a (exo a C (some dx)))
/-- C(..), C at C -/
def tMkX (C : Addr) (fs : List V → Option (List (Str × V))) (ta : TA) : L2.St → Hp → XK → Prop := fun σ H Q => ta σ H fun vs H1 => vs.length ≤ 1000 ∧ ∃ l, fs vs = some l ∧ ∀ d, H1 d = none → Q (.ref C) (some d) (upd H1 d (.xd l))
/-- a class of exceptions and its __init__ -/
structure Exn (P : Program) (w : World) (K : PySem.W.Frag) (mg : Str → Option Value) (base : Heap) (k : Nat) (x : Str) (fs : List V → Option (List (Str × V))) : Prop where
  ex : ∃ (fI : Addr) (fd : FuncData) (ps : List Str), Oex K (He.ga K x) ∧ NoX K (He.ga K x) ∧ mg x = some (.ref (He.ga K x)) ∧ PySem.W.findIn K (.ref (He.ga K x)) "__init__" = some (some (.ref fI)) ∧ PySem.W.typeIn K (.ref fI) = some (.type "function") ∧
    FnOk P w K mg base CX0 k fI fd ps (spIni K fs) ∧ L2.Binds K fd ps []
section
variable {X : Cx} {o e : Expr} {es : List Expr} {ta : TA} {x : Str} {p pos : Pos} {k j : Nat} {fs : List V → Option (List (Str × V))}
theorem upd_gone {H : Hp} {a d : Addr} {o1 o2 o3 u : HO} (n : H a = none) (ne : d ≠ a) : upd (del (upd (upd (upd H a o1) d o2) a o3) a) d u = upd H d u := by
  funext b
  by_cases hd : b = d
  · rw [hd, upd_same, upd_same]
  · rw [upd_ne hd, upd_ne hd]
    by_cases ha : b = a
    · rw [ha, del_same, n]
    · rw [del_ne ha, upd_ne ha, upd_ne hd, upd_ne ha]
theorem mk_run {pins : List (Addr × Obj)} {σ : L2.St} {H1 : Hp} {s1 : Shared} {Q : XK} {us : List Value} {vs : List V} {l : List (Str × V)} (c : Exn X.prog X.w X.K X.mg X.base k x fs) (hr : Room (k + 1) X.A) (I1 : Inv X pins σ H1 s1) (r1 : Vals vs us) (hz : vs.length ≤ 1000) (hl : fs vs = some l)
    (hq : ∀ d, H1 d = none → Q (.ref (He.ga X.K x)) (some d) (upd H1 d (.xd l))) : wpAny (model X.prog X.w) X.A (call (.ref (He.ga X.K x)) us) (MkP X pins σ Q) X.xe s1 := by
  obtain ⟨fI, fd, ps, T, nx, hm, iC, tI, F1, hb⟩ := c.ex
  generalize He.ga X.K x = C at *
  obtain ⟨nm, q, N, bs, bm, sn, sub, ab, col, dd, k0, k1, k2, k3, k5, B, ni, ii, bmB, hC, FB, hT, hM⟩ := T.cls
  obtain ⟨hp, g, dr, tk, os⟩ := s1
  have hsz : hp.objs.size ≤ hp.objs.size + 1 := Nat.le_succ _
  have hn : H1 (hp.objs.size + 1) = none := I1.hok.fresh hsz
  have kk : ∀ b o, hp.get? b = some o → ((hp.push (PySem.W.kdv_tup us)).push (PySem.HandSPX.excO C hp.objs.size)).get? b = some o := fun b o r => Heap.get?_push_of_some _ (Heap.get?_push_of_some _ r)
  have hget : ((hp.push (PySem.W.kdv_tup us)).push (PySem.HandSPX.excO C hp.objs.size)).get? (hp.objs.size + 1) = some (PySem.HandSPX.excO C hp.objs.size) := by heap_get
  have I2 : Inv X pins σ (upd H1 (hp.objs.size + 1) (exo (hp.objs.size + 1) C none)) ⟨(hp.push (PySem.W.kdv_tup us)).push (PySem.HandSPX.excO C hp.objs.size), g, dr, tk, os⟩ :=
    I1.laid (t' := tk) (a := hp.objs.size + 1) (o := exo (hp.objs.size + 1) C none) kk hsz (exo_ok hget)
  have r2 : Vals (V.ref (hp.objs.size + 1) :: vs) (Value.ref (hp.objs.size + 1) :: us) := .cons rfl r1
  have hsp : spIni X.K fs (V.ref (hp.objs.size + 1) :: vs) (upd H1 (hp.objs.size + 1) (exo (hp.objs.size + 1) C none))
      (fun v H2 => v = .non ∧ ∃ (d : Addr) (fs : List (Str × V)), H2 (hp.objs.size + 1) = some (exo (hp.objs.size + 1) C (some d)) ∧ H2 d = some (exd d fs) ∧ H1 d = none ∧ Q (.ref C) (some d) (upd (del H2 (hp.objs.size + 1)) d (.xd fs))) (fun _ _ _ => False) := by
    refine ⟨_, C, vs, l, rfl, hl, T, nx, upd_same, fun dx nd ne => ⟨rfl, dx, l, upd_same, ?_, ?_, ?_⟩⟩
    · rw [upd_ne ne, upd_same]
    · rw [upd_ne ne] at nd; exact nd
    · rw [upd_gone hn ne]
      rw [upd_ne ne] at nd
      exact hq dx nd
  have hln : (Value.ref (hp.objs.size + 1) :: us).length = ps.length := by rw [← r2.length]; exact F1.len _ _ _ _ hsp
  have hus : us.length ≤ sizeLine := by rw [← Paired.length r1, sizeLine_eq]; omega
  have bn := hb _ (Value.ref (hp.objs.size + 1) :: us) I2.kIn (by rw [List.append_nil]; exact hln)
  rw [List.append_nil] at bn
  refine wpAny_call (PySem.HandSPX.call_own FB hT (I1.kIn _ _ hC) (PySem.W.looks_findIn I1.kIn iC) (fun self => PySem.W.bind_fn I1.kIn self tI) hus
    (codeAny_mono (F1.run _ X.stack _ _ ⟨Value.ref (hp.objs.size + 1) :: us, []⟩ (Value.ref (hp.objs.size + 1) :: us) _ _ (fun _ _ _ => False) (hr.make C us []) (I2.env0.make C us []) bn r2 hsp) fun r s' hq' => ?_))
  cases r with
  | error er => exact hq'.elim
  | ok fl =>
    cases fl with
    | ret u =>
      obtain ⟨v, H2, os2, bare2, un2, hok2, rv, ev, d, fs', ea, ed, hd1, q2⟩ := hq'
      subst ev
      obtain ⟨h2, g2, d2, t2, os'⟩ := s'
      exact ⟨rv, mk_end (raises_own T.exC T.tyC) I1 hsz kk un2 hok2 os2 bare2 ea ed hd1 q2⟩
    | next => exact False.elim hq'
    | brk => exact False.elim hq'
    | cont => exact False.elim hq'
theorem pmk_x (c : Exn X.prog X.w X.K X.mg X.base k x fs) (hr : Room j X.A) (ha : PA X (e :: es) ta) (hk : k + 1 ≤ j := by decide) (hg : Gl X x := by rfl) (hdb : (x == ("__debug__" : Str)) = false := by decide)
    (he : starEach (e :: es) X.env = (false, eval e X.env) :: starEach es X.env := by rfl) (hpl : (backTo pos (starEach es X.env)).any (·.1) = false := by rfl) : PMk X (.Call (.Name x p) (e :: es) [] pos) (tMkX (He.ga X.K x) fs ta) := by
  intro pins s σ H Q I h
  obtain ⟨fI, fd, ps, T, nx, hm, iC, tI, F1, hb⟩ := id c.ex
  refine wpAny_Call_Name_kw (ld_glob I hg hm ?_ hdb)
  exact PySem.W.callWith_K (h₀ := X.base) I.ok.mod.kin T.kC (thn (ha.run pos pins s σ H _ I h) fun us s1 ⟨vs, H1, I1, r1, hz, l, hl, q1⟩ => ⟨I1.kIn, mk_run c (hr.mono hk) I1 r1 hz hl q1⟩) he hpl
theorem pmk_x0 (c : Exn X.prog X.w X.K X.mg X.base k x fs) (hr : Room j X.A) (hk : k + 1 ≤ j := by decide) (hg : Gl X x := by rfl) (hdb : (x == ("__debug__" : Str)) = false := by decide) : PMk X (.Call (.Name x p) [] [] pos) (tMkX (He.ga X.K x) fs tNil) := by
  intro pins s σ H Q I h
  obtain ⟨fI, fd, ps, T, nx, hm, iC, tI, F1, hb⟩ := id c.ex
  obtain ⟨hz, l, hl, q1⟩ := h
  refine wpAny_Call_Name_kw (ld_glob I hg hm ?_ hdb)
  exact PySem.W.callWith_K0 I.kIn T.kC (mk_run c (hr.mono hk) I .nil hz hl q1)
/-- raise C(..) -/
theorem ps_rx {W : WX} {pos' : Pos} (hc : X.calm = true) (tk : Takes X W) (c : Exn X.prog X.w X.K X.mg X.base k x fs) (hr : Room j X.A) (ha : PA X (e :: es) ta) (hk : k + 1 ≤ j := by decide) (hg : Gl X x := by rfl) (hdb : (x == ("__debug__" : Str)) = false := by decide)
    (he : starEach (e :: es) X.env = (false, eval e X.env) :: starEach es X.env := by rfl) (hpl : (backTo pos (starEach es X.env)).any (·.1) = false := by rfl) :
    PS X (.Raise (some (.Call (.Name x p) (e :: es) [] pos)) none pos') (fun _ σ H => tMkX (He.ga X.K x) fs ta σ H fun cls d H' => W cls d σ H') := ps_raise hc tk (pmk_x c hr ha hk hg hdb he hpl)
theorem ps_rx0 {W : WX} {pos' : Pos} (hc : X.calm = true) (tk : Takes X W) (c : Exn X.prog X.w X.K X.mg X.base k x fs) (hr : Room j X.A) (hk : k + 1 ≤ j := by decide) (hg : Gl X x := by rfl) (hdb : (x == ("__debug__" : Str)) = false := by decide) :
    PS X (.Raise (some (.Call (.Name x p) [] [] pos)) none pos') (fun _ σ H => tMkX (He.ga X.K x) fs tNil σ H fun cls d H' => W cls d σ H') := ps_raise hc tk (pmk_x0 c hr hk hg hdb)
end
end Bu
set_option Elab.async false
set_option linter.all false
set_option maxRecDepth 100000
set_option maxHeartbeats 4000000
/-! try: .. with several clauses 'except C as e', one name. -/
namespace Bu
open PySem PySem.Spec PyProof.Rows L2
/-- behind such a suite the name is gone -/
def goneD (i : Nat) (D : Ends) : Ends := { nx := fun σ H => D.nx (σ.set i none) H, rt := D.rt, bk := fun σ H => D.bk (σ.set i none) H, ct := fun σ H => D.ct (σ.set i none) H }
def wAsM (K : PySem.W.Frag) (i : Nat) (Wout : WX) (D : Ends) : List (Value × (Addr → Value → Option Addr → TS)) → WX
  | [] => Wout
  | (c, ts) :: r => fun cls d σ H => ∃ b, PySem.W.exmOne K cls c = some b ∧ (b = true → ∀ a, H a = none → ts a cls d (goneD i D) (σ.set i (some (.ref a))) H) ∧ (b = false → wAsM K i Wout D r cls d σ H)
inductive HdsAs (X : Cx) (n : Str) : List ExceptHandler → List (Value × (Addr → Value → Option Addr → TS)) → Prop
  | nil : HdsAs X n [] []
  | cons {x : Str} {c : Value} {ts : Addr → Value → Option Addr → TS} {b₀ : Stmt} {suite : List Stmt} {np pos' : Pos} {hds : List ExceptHandler} {l : List (Value × (Addr → Value → Option Addr → TS))} (hc : Names X x c)
      (hsu : ∀ (a : Addr) (oe : Obj) (cls : Value) (d : Option Addr) (pn : List (Addr × Obj)), Zc cls d oe → (∃ vs, oe.data = .fields vs) → PSs (X.suite a ((a, oe) :: pn)) (b₀ :: suite) (ts a cls d)) (r : HdsAs X n hds l) :
      HdsAs X n (.ExceptHandler (some (.Name x np)) (some n) (b₀ :: suite) pos' :: hds) ((c, ts) :: l)
section
variable {X : Cx} {body : List Stmt} {h₀ : ExceptHandler} {hds : List ExceptHandler} {l : List (Value × (Addr → Value → Option Addr → TS))} {pos : Pos} {tb : WX → TS} {Wout : WX} {n : Str} {i : Nat}
theorem ps_try_asM (hs : X.stack = X.env :: X.outer) (hf : X.env.frame = some X.env.locals) (hN : X.N.Nodup) (hi : X.N[i]? = some n) (hln : X.env.kindOf n = some .local) (tk : Takes X Wout)
    (hb : ∀ (W : WX) (pn : List (Addr × Obj)) (xe : Value → Shared → Prop), Takes (X.tr pn xe) W → PassesOwn (model X.prog X.w) X.A X.env xe → PSs (X.tr pn xe) body (tb W))
    (hh : HdsAs X n (h₀ :: hds) l) : PS X (.Try body (h₀ :: hds) [] [] pos) (fun D σ H => tb (wAsM X.K i Wout D l) D σ H) := by
  refine ⟨fun pins s σ H D I h => ?_⟩
  have ok := I.ok
  have hloc : Loc X.env.scope n := .inl hln
  have hfr : X.A.frames = some (X.env :: X.outer) := by rw [ok.frames, hs]
  refine wpAny_Try_except ?_
  refine wpAny_mono ((hb (wAsM X.K i Wout D l) (X.pn ++ pins) (fun e s₁ => wpAny (model X.prog X.w) X.A (noteFrame e X.env) (fun _ s₂ => wpAny (model X.prog X.w) X.A (setFlight e none) (fun _ s₃ => wpAny (model X.prog X.w) X.A (handleBy e X.env (h₀ :: hds)) (SP X pins D) X.xe s₃) X.xe s₂) X.xe s₁)
    (fun u s' xx => ?_) PassesOwn.looking).run [] s σ H D (I.toTry _) h) (fun f s1 hsp => ?_) (fun e s1 he => he)
  · obtain ⟨a, B, sI, pins', σ', H', cls, d, rfl, J', nb, up, sky, na, os, ag, w⟩ := xx
    have J : Inv X pins σ' H' sI := J'.ofTry ok
    show wpAny (model X.prog X.w) X.A (noteFrame (.ref a) X.env) _ _ _
    refine Sky.land Zc.steady hfr hf (show Sky B (X.env :: X.outer) a (Zc cls d) X.env.locals s'.heap by rw [← hs]; exact sky) fun h3 fl3 up3 => ?_
    have J3 : Inv X pins σ' H' { s' with heap := h3 } := J.landed nb fl3.1 (up.trans up3) os ag
    obtain ⟨oe3, vs3, he3, hz3, hd3⟩ := fl3.there
    have nfr : a ∉ frs (X.env :: X.outer) := fun hm => by
      obtain ⟨_, o', e', hnf⟩ := fl3.2.2.1.mem hm
      rw [he3] at e'; cases e'; exact hnf _ hd3
    have nL : a ≠ X.env.locals := fun z => nfr (List.mem_filterMap.mpr ⟨X.env, List.mem_cons_self, by rw [hf, z]⟩)
    have nF : a ∉ X.fs := fun hm => by
      obtain ⟨ev, hev, q⟩ := List.mem_filterMap.mp hm
      exact nfr (List.mem_filterMap.mpr ⟨ev, List.mem_cons_of_mem _ hev, q⟩)
    have S3 := J3.suite he3 hd3 na nL nF
    have go : ∀ {hds' : List ExceptHandler} {l' : List (Value × (Addr → Value → Option Addr → TS))}, HdsAs X n hds' l' → wAsM X.K i Wout D l' cls d σ' H' → wpAny (model X.prog X.w) X.A (handleBy (.ref a) X.env hds') (SP X pins D) X.xe { s' with heap := h3 } := by
      intro hds' l' hk
      induction hk with
      | nil =>
        intro w
        refine wpAny_handleBy_nil ?_
        obtain ⟨_, _, _, oe, vs, T, oT, ts', he, _, hd, h1, _⟩ := id fl3
        unfold PySem.passOn
        refine wpAny_bind (wpAny_field he hd h1 ?_); rw [if_neg (show ¬ ((Value.ref T == Value.none) = true) from by simp)]
        have fin : wpAny (model X.prog X.w) X.A (setFlight (.ref a) X.env.frame) (fun _ s4 => wpAny (model X.prog X.w) X.A (throw (.ref a) : Sem Flow) (SP X pins D) X.xe s4) X.xe { s' with heap := h3 } := by
          rw [hf]; refine HandSPX.setFlight_upZ fl3 fun h4 hh4 up4 => wpAny_throw (tk _ _ ?_)
          exact ⟨a, B, sI, pins, σ', H', cls, d, rfl, J, nb, (up.trans up3).trans up4, .inr (.inr (by rw [hs]; exact hh4)), na, os, ag, w⟩
        first | exact wpAny_bind (wpAny_pure (wpAny_bind fin)) | exact wpAny_bind fin
      | @cons x c ts b₀ suite np pos' hds2 l2 hc hsu r ih =>
        intro w
        obtain ⟨b, hb1, hyes, hno⟩ := w
        refine wpAny_handleBy_cons (codeAny_handlers_test ?_) (by intro q; cases q)
        have LT : PySem.W.Looks (model X.prog X.w) h3 (typeOf (.ref a)) cls := fun A Q E s k q => wpAny_typeOf_ref (k _ _ he3) (by rw [hz3.1]; exact q)
        have LM := PySem.W.exm_one (M := model X.prog X.w) (J3.kIn) LT hb1
        have test : ∀ {Q : Value → Shared → Prop} {E : Value → Shared → Prop}, Q c { s' with heap := h3 } → wpAny (model X.prog X.w) (X.A.mark (some (.ref a))) (eval (.Name x np) X.env) Q E { s' with heap := h3 } := fun {Q E} q => by
          obtain ⟨hg, hdbg, hm | ⟨hm, hv, hnn⟩⟩ := hc
          · exact ld_glob (X := X.suite a ((a, oe3) :: (X.pn ++ pins))) S3 hg hm q hdbg
          · exact ld_blt (X := X.suite a ((a, oe3) :: (X.pn ++ pins))) S3 hg hm hv q hnn hdbg
        refine test (LM.here ?_)
        cases b with
        | true =>
          refine codeAny_handlers_suite_as ?_
          refine HandSPX.lands_againZ fl3 fun h4 fl4 up4 => ?_
          have J4 : Inv X pins σ' H' { s' with heap := h4 } := J.landed nb fl4.1 ((up.trans up3).trans up4) os ag
          obtain ⟨oe4, vs4, he4, hz4, hd4⟩ := fl4.there
          have S4 := J4.suite he4 hd4 na nL nF
          refine store_ok (X := X.suite a ((a, oe4) :: (X.pn ++ pins))) (v := .ref a) S4 hN hi hloc rfl (fun s5 S5 => ?_) (.inr hln)
          refine wpAny_mono ((hsu a oe4 cls d (X.pn ++ pins) hz4 ⟨_, hd4⟩).run [] s5 _ H' _ S5 (hyes rfl a na)) (fun f s6 hsp => ?_) (fun _ _ z => False.elim z)
          have end_ : ∀ {σ6 : L2.St} {H6 : Hp} {Q : Shared → Prop}, Inv (X.suite a ((a, oe4) :: (X.pn ++ pins))) [] σ6 H6 s6 → (∀ s7, Inv X pins (σ6.set i none) H6 s7 → Q s7) →
              wpAny (model X.prog X.w) X.A (do bindName X.env n .none; unbindBehindTheSuite X.env n pos') (fun _ s7 => Q s7) X.xe s6 := fun {σ6 H6 Q} S6 hq => gone_ok (S6.unsuite ok) hN hi hln hq
          cases f with
          | next => obtain ⟨σ6, H6, S6, q6⟩ := hsp; exact end_ S6 fun s7 J7 => ⟨_, _, J7, q6⟩
          | brk => obtain ⟨σ6, H6, S6, q6⟩ := hsp; exact end_ S6 fun s7 J7 => ⟨_, _, J7, q6⟩
          | cont => obtain ⟨σ6, H6, S6, q6⟩ := hsp; exact end_ S6 fun s7 J7 => ⟨_, _, J7, q6⟩
          | ret u => obtain ⟨v6, σ6, H6, S6, r6, q6⟩ := hsp; exact end_ S6 fun s7 J7 => ⟨_, _, _, J7, r6, q6⟩
        | false =>
          show wpAny _ X.A (handleBy (.ref a) X.env hds2) _ _ _
          exact ih (hno rfl)
    exact go hh w
  · cases f with
    | next => obtain ⟨σ', H', J', q⟩ := hsp; exact wpAny_execs_nil ⟨σ', H', J'.ofTry ok, q⟩
    | brk => obtain ⟨σ', H', J', q⟩ := hsp; exact ⟨σ', H', J'.ofTry ok, q⟩
    | cont => obtain ⟨σ', H', J', q⟩ := hsp; exact ⟨σ', H', J'.ofTry ok, q⟩
    | ret u => obtain ⟨v, σ', H', J', r, q⟩ := hsp; exact ⟨v, σ', H', J'.ofTry ok, r, q⟩
end
end Bu
set_option Elab.async false
set_option linter.all false
set_option maxRecDepth 100000
set_option maxHeartbeats 4000000
/-! What the head says of the exception classes; their __init__ by the base's. -/
namespace Bu
open PySem PySem.Spec PyProof.Rows L2
theorem shape_of {K : PySem.W.Frag} {C : Addr} {bm : List Value} {n : String} (h : excShape K C = some (bm, n)) :
    ∃ nm q N bs sn sub ab col dd k0 k1 k2 k3 k5, K.lookup C = some (excClassObj nm q C N bs bm true sn sub ab col dd k0 k1 k2 k3 k5 n) := by
  unfold excShape at h
  split at h
  · rename_i t dd cd sl hl
    split at h
    · rename_i C' bm' x0 x1 x2 x3 nn x5 e1 e2 e3
      split at h
      · rename_i hc
        have hc : C' = C := by simpa using hc
        subst hc
        obtain ⟨rfl, rfl⟩ := Prod.mk.inj (Option.some.inj h)
        obtain ⟨nm, bs, mro, N, q, hd, sn, sub, ab, col, del⟩ := cd
        simp only [Bool.and_eq_true, decide_eq_true_eq, Bool.not_eq_true'] at e1
        obtain ⟨rfl, hd1, hd2⟩ := e1
        have e2 : mro = _ := e2
        have hd1 : hd = true := hd1
        have hd2 : del = false := hd2
        subst e2 hd1 hd2
        obtain ⟨sl⟩ := sl
        have e3 : sl = _ := e3
        subst e3
        exact ⟨nm, q, N, bs, sn, sub, ab, col, dd, x0, x1, x2, x3, x5, hl⟩
      · cases h
    · cases h
  · cases h
theorem ve_has (a : Addr) (X : String) : (Value.ref a :: [.type "ValueError", .type "Exception", .type "BaseException", .type "object"]).contains (.type X) = ([.type "ValueError", .type "Exception", .type "BaseException", .type "object"] : List Value).contains (.type X) := by
  rw [List.contains_cons]; rfl
theorem le_has (a : Addr) (X : String) : (Value.ref a :: [.type "LookupError", .type "Exception", .type "BaseException", .type "object"]).contains (.type X) = ([.type "LookupError", .type "Exception", .type "BaseException", .type "object"] : List Value).contains (.type X) := by
  rw [List.contains_cons]; rfl
/-- the facts of one class -/
structure ExF (K : PySem.W.Frag) (x : Str) : Prop where
  oex : Oex K (He.ga K x)
  nox : NoX K (He.ga K x)
  xf : XfC K (He.ga K x)
  ini : PySem.W.findIn K (.ref (He.ga K x)) "__init__" = some (some (.ref (He.ma K (He.ga K x) "__init__")))
  tI : PySem.W.typeIn K (.ref (He.ma K (He.ga K x) "__init__")) = some (.type "function")
theorem exc1_ok {K : PySem.W.Frag} {x : Str} (h : exc1 K x = true) : ExF K x := by
  unfold exc1 at h
  simp only [Bool.and_eq_true, Bool.or_eq_true, decide_eq_true_eq] at h
  obtain ⟨hs, hk, h1, h2, h3, h4, h5, h6, h7, h8, h9⟩ := h
  refine ⟨⟨?_, h3, h1, h2, hk⟩, fun f hf => ?_, xfB_ok h9, h4, h5⟩
  · rcases hs with hs | hs
    · obtain ⟨nm, q, N, bs, sn, sub, ab, col, dd, k0, k1, k2, k3, k5, hC⟩ := shape_of hs
      exact ⟨nm, q, N, bs, _, sn, sub, ab, col, dd, k0, k1, k2, k3, k5, _, _, _, _, hC, F.excBase_ValueError, ve_has _, mroVE.ref _⟩
    · obtain ⟨nm, q, N, bs, sn, sub, ab, col, dd, k0, k1, k2, k3, k5, hC⟩ := shape_of hs
      exact ⟨nm, q, N, bs, _, sn, sub, ab, col, dd, k0, k1, k2, k3, k5, _, _, _, _, hC, F.excBase_LookupError, le_has _, mroLE.ref _⟩
  · unfold xNames at hf
    rcases List.mem_cons.mp hf with rfl | hf
    · exact h6
    rcases List.mem_cons.mp hf with rfl | hf
    · exact h7
    rcases List.mem_cons.mp hf with rfl | hf
    · exact h8
    · cases hf
theorem inC1_ok {K : PySem.W.Frag} {x : Str} (h : inC1 K x = true) : InC K (He.ga K x) "__init__" (He.ma K (He.ga K x) "__init__") := by
  unfold inC1 at h
  simp only [Bool.and_eq_true, decide_eq_true_eq] at h
  obtain ⟨h1, h2, h3⟩ := h
  refine ⟨⟨h1, h2⟩, ?_⟩
  split at h3
  · rename_i f e
    have hf := of_decide_eq_true h3
    rw [e, hf]
  · cases h3
section
variable {P : Program} {w : World} {K : PySem.W.Frag} {mg : Str → Option Value} {base : Heap}
theorem Cn.exf (C : Cn w K mg) {x : Str} (h : x ∈ exNames := by decide +kernel) : ExF K x := by
  have m := C.more
  unfold exB at m
  simp only [Bool.and_eq_true] at m
  exact exc1_ok (List.all_eq_true.mp m.2.1 x h)
theorem Cn.inB (C : Cn w K mg) : InC K (He.ga K "BurinError") "__init__" (He.ma K (He.ga K "BurinError") "__init__") := by
  have m := C.more
  unfold exB at m
  simp only [Bool.and_eq_true] at m
  exact inC1_ok m.1.1
theorem Cn.inM (C : Cn w K mg) : InC K (He.ga K "Missing") "__init__" (He.ma K (He.ga K "Missing") "__init__") := by
  have m := C.more
  unfold exB at m
  simp only [Bool.and_eq_true] at m
  exact inC1_ok m.1.2
/-- a def all of whose parameters are given, with defaults or not -/
abbrev BindD (d : He.DefD) (ps : List Str) : Prop := ∀ (T : Addr) (kV doc pm : Value) (an : Option Addr) (cdv ct : Value) (us its : List Value), us.length = ps.length → its.length = d.dfl.length →
  ∃ k, bindArgs (PySem.W.fnOf d.name d.qual d.params d.body d.scope (.ref T) kV doc pm an cdv ct) ⟨us, []⟩ = seqItems? (.ref T) >>= k ∧ k (some its.toArray) = pure (ps.zip us)
theorem Cn.fnokD (C : Cn w K mg) {CX : CXT} {k : Nat} {sp : Sp} {N ps : List Str} (i : Nat) (d : He.DefD) (hd : fn[i]? = some d) (e1 : d.dfl ≠ []) (S : FnScope N ps d.scope) (hb : BindD d ps)
    (len : ∀ vs H Q E, sp vs H Q E → vs.length = ps.length) (body : BodyOf P w K mg base CX k d N sp) : ∃ fd, FnOk P w K mg base CX (k + 1) (He.fAd K d.at_) fd ps sp ∧ PySem.W.keepIn K (.ref (He.fAd K d.at_)) = true ∧ L2.Binds K fd ps [] := by
  obtain ⟨fd, F⟩ := C.def_ i hd
  have ld : (d.dvs K).length = d.dfl.length := by unfold He.DefD.dvs; rw [List.length_map]
  obtain ⟨ds, r, b⟩ := F.binds1 (ps := ps) ps.length (d.dvs K).length (fun z => e1 (by rw [z] at ld; exact List.length_eq_zero_iff.mp ld.symm)) (by omega) fun T kV doc pm an cdv ct us its h1 h2 => by
    obtain ⟨k, q1, q2⟩ := hb T kV doc pm an cdv ct us its h1 (h2.trans ld)
    exact ⟨k, q1, by rw [q2, List.drop_of_length_le (by omega), List.append_nil]⟩
  rw [List.drop_of_length_le (Nat.le_refl _)] at r
  cases r
  exact ⟨fd, F.ok S len (body (He.fAd K d.at_)), F.kp, b⟩
/-- an exception class of the module, by its __init__'s body -/
theorem Cn.exn (C : Cn w K mg) {k : Nat} {fs : List V → Option (List (Str × V))} {N ps : List Str} (i j : Nat) {x : Str} (d : He.DefD) (S : FnScope N ps d.scope) (hb : BindF d ps)
    (len : ∀ vs l, fs vs = some l → vs.length + 1 = ps.length) (body : BodyOf P w K mg base CX0 k d N (spIni K fs)) (hd : fn[i]? = some d := by rfl) (hx : d.at_ = (x, some ("__init__" : Str)) := by rfl) (hf : fa[j]? = some (.glo x) := by rfl) (hm : x ∈ exNames := by decide +kernel) (e1 : d.dfl = [] := by rfl) (e2 : d.kwd = [] := by rfl) : Exn P w K mg base (k + 1) x fs := by
  have E := C.exf hm
  obtain ⟨fd, F, kp, b⟩ := C.fnok (P := P) (base := base) i d hd e1 e2 S hb (fun vs H Q E h => by
    obtain ⟨a, C, ws, l, rfl, hl, _⟩ := h
    exact len ws l hl) body
  have ef : He.fAd K d.at_ = He.ma K (He.ga K x) "__init__" := by rw [hx]; rfl
  rw [ef] at F
  exact ⟨_, fd, ps, E.oex, E.nox, C.glo j hf, E.ini, E.tI, F, b⟩
end
end Bu
set_option Elab.async false
set_option linter.all false
set_option maxRecDepth 100000
set_option maxHeartbeats 4000000
/-! The __init__ of the exception classes. Printed by gen_exc.py. -/
namespace Bu
open PySem PySem.Spec PyProof.Rows L2
def fsB : List V → Option (List (Str × V))
  | [v] => some [("says", v)]
  | _ => none
def fsM : List V → Option (List (Str × V))
  | [n, v] => some [("says", v), ("number", n)]
  | _ => none
/-- C(): says x -/
def fs0 (x : Str) : List V → Option (List (Str × V))
  | [] => some [("says", .str x)]
  | _ => none
/-- C(v): says x, v at f -/
def fs1 (f x : Str) : List V → Option (List (Str × V))
  | [v] => some [(f, v), ("says", .str x)]
  | _ => none
def fs2 (x : Str) : List V → Option (List (Str × V))
  | [v] => some [("says", .str x), ("number", v)]
  | _ => none
theorem upd_put {H : Hp} {a dx : Addr} {o1 o2 o3 : HO} (ne : dx ≠ a) : upd (upd (upd H dx o1) a o2) dx o3 = upd (upd H dx o3) a o2 := by
  funext b
  by_cases h1 : b = dx
  · rw [h1, upd_same, upd_ne ne, upd_same]
  · rw [upd_ne h1]
    by_cases h2 : b = a
    · rw [h2, upd_same, upd_same]
    · rw [upd_ne h2, upd_ne h2, upd_ne h1, upd_ne h1]
theorem nx_s {K : PySem.W.Frag} {C : Addr} (h : NoX K C) : PySem.W.findIn K (.ref C) "says" = some none := h _ (by decide)
theorem nx_p {K : PySem.W.Frag} {C : Addr} (h : NoX K C) : PySem.W.findIn K (.ref C) "place" = some none := h _ (by decide)
theorem nx_n {K : PySem.W.Frag} {C : Addr} (h : NoX K C) : PySem.W.findIn K (.ref C) "number" = some none := h _ (by decide)
abbrev IniB (P : Program) (w : World) (K : PySem.W.Frag) (mg : Str → Option Value) (base : Heap) (x : Str) (ps : List Str) (fs : List V → Option (List (Str × V))) : Prop :=
  ∃ fd, FnOk P w K mg base CX0 1 (He.ma K (He.ga K x) "__init__") fd ps (spIni K fs) ∧ PySem.W.keepIn K (.ref (He.ma K (He.ga K x) "__init__")) = true ∧ L2.Binds K fd ps []
section
variable {P : Program} {w : World} {K : PySem.W.Frag} {mg : Str → Option Value} {base : Heap}
theorem scX_BurinError : FnScope ["self", "says"] ["self", "says"] d_BurinError_init.scope := C8.fnScope_by (by decide +kernel)
theorem ini_B (C : Cn w K mg) : IniB P w K mg base "BurinError" ["self", "says"] fsB := by
  refine C.fnokD 0 d_BurinError_init rfl (by decide) scX_BurinError (fun T kV doc pm an cdv ct us its hl hi => ?_) (fun vs H Q E h => ?_) (fun f cdv A outer s H vs Q E hr h => ?_)
  · match us, hl, its, hi with
    | [_, _], _, [_], _ => exact ⟨_, rfl, rfl⟩
  · obtain ⟨a, D, ws, l, rfl, hl, _⟩ := h
    match ws, hl with
    | [_], _ => rfl
  · obtain ⟨a, D, ws, l, rfl, hl, T, nx, ha, k⟩ := h
    match ws, hl with
    | [v], hl =>
      cases hl
      exact ⟨_, pss_one (ps_xst (pv 0) (pv 1)), _, rfl, _, rfl, a, D, rfl, T, nx_s nx, .inl ⟨ha, k⟩⟩
theorem scX_Missing : FnScope ["self", "number", "says"] ["self", "number", "says"] d_Missing_init.scope := C8.fnScope_by (by decide +kernel)
theorem ini_M (C : Cn w K mg) : IniB P w K mg base "Missing" ["self", "number", "says"] fsM := by
  refine C.fnokD 1 d_Missing_init rfl (by decide) scX_Missing (fun T kV doc pm an cdv ct us its hl hi => ?_) (fun vs H Q E h => ?_) (fun f cdv A outer s H vs Q E hr h => ?_)
  · match us, hl, its, hi with
    | [_, _, _], _, [_], _ => exact ⟨_, rfl, rfl⟩
  · obtain ⟨a, D, ws, l, rfl, hl, _⟩ := h
    match ws, hl with
    | [_, _], _ => rfl
  · obtain ⟨a, D, ws, l, rfl, hl, T, nx, ha, k⟩ := h
    match ws, hl with
    | [n, v], hl =>
      cases hl
      refine ⟨_, pss_cons (ps_xst (pv 0) (pv 1)) (pss_one (ps_xst (pv 0) (pv 2))), _, rfl, _, rfl, a, D, rfl, T, nx_n nx, .inl ⟨ha, fun dx nd ne => ?_⟩⟩
      refine ⟨_, rfl, _, rfl, a, D, rfl, T, nx_s nx, .inr ⟨dx, _, upd_same, (upd_ne ne).trans upd_same, by show 1 ≤ 900; decide, ?_⟩⟩
      rw [upd_put ne]
      exact k dx nd ne
theorem scX_BadPaper : FnScope ["self"] ["self"] d_BadPaper_init.scope := C8.fnScope_by (by decide +kernel)
theorem exn_BadPaper (C : Cn w K mg) : Exn P w K mg base 2 "BadPaper" (fs0 "bad paper") := by
  obtain ⟨fd, F, kp, b⟩ := ini_B (P := P) (base := base) C
  refine C.exn 2 2 d_BadPaper_init scX_BadPaper (fun _ _ _ _ _ _ us hl => match us, hl with | [_], _ => rfl) (fun vs l h => ?_) (fun f cdv A outer s H vs Q E hr h => ?_)
  · match vs, h with
    | [], _ => rfl
  · obtain ⟨a, D, ws, l, rfl, hl, T, nx, ha, k⟩ := h
    match ws, hl with
    | [], hl =>
      cases hl
      exact ⟨_, pss_one (ps_expr (pe_cm rfl (C.glo 0) C.inB F kp hr b L2.pass0 (pa_cons (pv 0) (pa_cons pe_str pa_nil)))), _, rfl, a, D, _, _, rfl, rfl, T, nx, ha, k⟩
theorem scX_BadPlace : FnScope ["self"] ["self"] d_BadPlace_init.scope := C8.fnScope_by (by decide +kernel)
theorem exn_BadPlace (C : Cn w K mg) : Exn P w K mg base 2 "BadPlace" (fs0 "bad place") := by
  obtain ⟨fd, F, kp, b⟩ := ini_B (P := P) (base := base) C
  refine C.exn 3 3 d_BadPlace_init scX_BadPlace (fun _ _ _ _ _ _ us hl => match us, hl with | [_], _ => rfl) (fun vs l h => ?_) (fun f cdv A outer s H vs Q E hr h => ?_)
  · match vs, h with
    | [], _ => rfl
  · obtain ⟨a, D, ws, l, rfl, hl, T, nx, ha, k⟩ := h
    match ws, hl with
    | [], hl =>
      cases hl
      exact ⟨_, pss_one (ps_expr (pe_cm rfl (C.glo 0) C.inB F kp hr b L2.pass0 (pa_cons (pv 0) (pa_cons pe_str pa_nil)))), _, rfl, a, D, _, _, rfl, rfl, T, nx, ha, k⟩
theorem scX_BadStaff : FnScope ["self"] ["self"] d_BadStaff_init.scope := C8.fnScope_by (by decide +kernel)
theorem exn_BadStaff (C : Cn w K mg) : Exn P w K mg base 2 "BadStaff" (fs0 "bad staff") := by
  obtain ⟨fd, F, kp, b⟩ := ini_B (P := P) (base := base) C
  refine C.exn 4 4 d_BadStaff_init scX_BadStaff (fun _ _ _ _ _ _ us hl => match us, hl with | [_], _ => rfl) (fun vs l h => ?_) (fun f cdv A outer s H vs Q E hr h => ?_)
  · match vs, h with
    | [], _ => rfl
  · obtain ⟨a, D, ws, l, rfl, hl, T, nx, ha, k⟩ := h
    match ws, hl with
    | [], hl =>
      cases hl
      exact ⟨_, pss_one (ps_expr (pe_cm rfl (C.glo 0) C.inB F kp hr b L2.pass0 (pa_cons (pv 0) (pa_cons pe_str pa_nil)))), _, rfl, a, D, _, _, rfl, rfl, T, nx, ha, k⟩
theorem scX_BadSpan : FnScope ["self"] ["self"] d_BadSpan_init.scope := C8.fnScope_by (by decide +kernel)
theorem exn_BadSpan (C : Cn w K mg) : Exn P w K mg base 2 "BadSpan" (fs0 "bad span") := by
  obtain ⟨fd, F, kp, b⟩ := ini_B (P := P) (base := base) C
  refine C.exn 5 5 d_BadSpan_init scX_BadSpan (fun _ _ _ _ _ _ us hl => match us, hl with | [_], _ => rfl) (fun vs l h => ?_) (fun f cdv A outer s H vs Q E hr h => ?_)
  · match vs, h with
    | [], _ => rfl
  · obtain ⟨a, D, ws, l, rfl, hl, T, nx, ha, k⟩ := h
    match ws, hl with
    | [], hl =>
      cases hl
      exact ⟨_, pss_one (ps_expr (pe_cm rfl (C.glo 0) C.inB F kp hr b L2.pass0 (pa_cons (pv 0) (pa_cons pe_str pa_nil)))), _, rfl, a, D, _, _, rfl, rfl, T, nx, ha, k⟩
theorem scX_BadThick : FnScope ["self"] ["self"] d_BadThick_init.scope := C8.fnScope_by (by decide +kernel)
theorem exn_BadThick (C : Cn w K mg) : Exn P w K mg base 2 "BadThick" (fs0 "bad thick") := by
  obtain ⟨fd, F, kp, b⟩ := ini_B (P := P) (base := base) C
  refine C.exn 6 6 d_BadThick_init scX_BadThick (fun _ _ _ _ _ _ us hl => match us, hl with | [_], _ => rfl) (fun vs l h => ?_) (fun f cdv A outer s H vs Q E hr h => ?_)
  · match vs, h with
    | [], _ => rfl
  · obtain ⟨a, D, ws, l, rfl, hl, T, nx, ha, k⟩ := h
    match ws, hl with
    | [], hl =>
      cases hl
      exact ⟨_, pss_one (ps_expr (pe_cm rfl (C.glo 0) C.inB F kp hr b L2.pass0 (pa_cons (pv 0) (pa_cons pe_str pa_nil)))), _, rfl, a, D, _, _, rfl, rfl, T, nx, ha, k⟩
theorem scX_BadWord : FnScope ["self"] ["self"] d_BadWord_init.scope := C8.fnScope_by (by decide +kernel)
theorem exn_BadWord (C : Cn w K mg) : Exn P w K mg base 2 "BadWord" (fs0 "bad word") := by
  obtain ⟨fd, F, kp, b⟩ := ini_B (P := P) (base := base) C
  refine C.exn 7 7 d_BadWord_init scX_BadWord (fun _ _ _ _ _ _ us hl => match us, hl with | [_], _ => rfl) (fun vs l h => ?_) (fun f cdv A outer s H vs Q E hr h => ?_)
  · match vs, h with
    | [], _ => rfl
  · obtain ⟨a, D, ws, l, rfl, hl, T, nx, ha, k⟩ := h
    match ws, hl with
    | [], hl =>
      cases hl
      exact ⟨_, pss_one (ps_expr (pe_cm rfl (C.glo 0) C.inB F kp hr b L2.pass0 (pa_cons (pv 0) (pa_cons pe_str pa_nil)))), _, rfl, a, D, _, _, rfl, rfl, T, nx, ha, k⟩
theorem scX_Same : FnScope ["self"] ["self"] d_Same_init.scope := C8.fnScope_by (by decide +kernel)
theorem exn_Same (C : Cn w K mg) : Exn P w K mg base 2 "Same" (fs0 "same") := by
  obtain ⟨fd, F, kp, b⟩ := ini_B (P := P) (base := base) C
  refine C.exn 8 8 d_Same_init scX_Same (fun _ _ _ _ _ _ us hl => match us, hl with | [_], _ => rfl) (fun vs l h => ?_) (fun f cdv A outer s H vs Q E hr h => ?_)
  · match vs, h with
    | [], _ => rfl
  · obtain ⟨a, D, ws, l, rfl, hl, T, nx, ha, k⟩ := h
    match ws, hl with
    | [], hl =>
      cases hl
      exact ⟨_, pss_one (ps_expr (pe_cm rfl (C.glo 0) C.inB F kp hr b L2.pass0 (pa_cons (pv 0) (pa_cons pe_str pa_nil)))), _, rfl, a, D, _, _, rfl, rfl, T, nx, ha, k⟩
theorem scX_Full : FnScope ["self"] ["self"] d_Full_init.scope := C8.fnScope_by (by decide +kernel)
theorem exn_Full (C : Cn w K mg) : Exn P w K mg base 2 "Full" (fs0 "full") := by
  obtain ⟨fd, F, kp, b⟩ := ini_B (P := P) (base := base) C
  refine C.exn 9 9 d_Full_init scX_Full (fun _ _ _ _ _ _ us hl => match us, hl with | [_], _ => rfl) (fun vs l h => ?_) (fun f cdv A outer s H vs Q E hr h => ?_)
  · match vs, h with
    | [], _ => rfl
  · obtain ⟨a, D, ws, l, rfl, hl, T, nx, ha, k⟩ := h
    match ws, hl with
    | [], hl =>
      cases hl
      exact ⟨_, pss_one (ps_expr (pe_cm rfl (C.glo 0) C.inB F kp hr b L2.pass0 (pa_cons (pv 0) (pa_cons pe_str pa_nil)))), _, rfl, a, D, _, _, rfl, rfl, T, nx, ha, k⟩
theorem scX_BadDeed : FnScope ["self"] ["self"] d_BadDeed_init.scope := C8.fnScope_by (by decide +kernel)
theorem exn_BadDeed (C : Cn w K mg) : Exn P w K mg base 2 "BadDeed" (fs0 "bad deed") := by
  obtain ⟨fd, F, kp, b⟩ := ini_B (P := P) (base := base) C
  refine C.exn 10 10 d_BadDeed_init scX_BadDeed (fun _ _ _ _ _ _ us hl => match us, hl with | [_], _ => rfl) (fun vs l h => ?_) (fun f cdv A outer s H vs Q E hr h => ?_)
  · match vs, h with
    | [], _ => rfl
  · obtain ⟨a, D, ws, l, rfl, hl, T, nx, ha, k⟩ := h
    match ws, hl with
    | [], hl =>
      cases hl
      exact ⟨_, pss_one (ps_expr (pe_cm rfl (C.glo 0) C.inB F kp hr b L2.pass0 (pa_cons (pv 0) (pa_cons pe_str pa_nil)))), _, rfl, a, D, _, _, rfl, rfl, T, nx, ha, k⟩
theorem scX_BadBar : FnScope ["self", "place"] ["self", "place"] d_BadBar_init.scope := C8.fnScope_by (by decide +kernel)
theorem exn_BadBar (C : Cn w K mg) : Exn P w K mg base 2 "BadBar" (fs1 "place" "bad bar") := by
  obtain ⟨fd, F, kp, b⟩ := ini_B (P := P) (base := base) C
  refine C.exn 11 11 d_BadBar_init scX_BadBar (fun _ _ _ _ _ _ us hl => match us, hl with | [_, _], _ => rfl) (fun vs l h => ?_) (fun f cdv A outer s H vs Q E hr h => ?_)
  · match vs, h with
    | [_], _ => rfl
  · obtain ⟨a, D, ws, l, rfl, hl, T, nx, ha, k⟩ := h
    match ws, hl with
    | [v], hl =>
      cases hl
      refine ⟨_, pss_cons (ps_expr (pe_cm rfl (C.glo 0) C.inB F kp hr b L2.pass0 (pa_cons (pv 0) (pa_cons pe_str pa_nil)))) (pss_one (ps_xst (pv 0) (pv 1))), _, rfl, a, D, _, _, rfl, rfl, T, nx, ha, fun dx nd ne => ?_⟩
      refine ⟨_, rfl, _, rfl, a, D, rfl, T, nx_p nx, .inr ⟨dx, _, upd_same, (upd_ne ne).trans upd_same, by show 1 ≤ 900; decide, ?_⟩⟩
      rw [upd_put ne]
      exact k dx nd ne
theorem scX_NoBar : FnScope ["self", "number"] ["self", "number"] d_NoBar_init.scope := C8.fnScope_by (by decide +kernel)
theorem exn_NoBar (C : Cn w K mg) : Exn P w K mg base 2 "NoBar" (fs2 "no bar") := by
  obtain ⟨fd, F, kp, b⟩ := ini_M (P := P) (base := base) C
  refine C.exn 13 13 d_NoBar_init scX_NoBar (fun _ _ _ _ _ _ us hl => match us, hl with | [_, _], _ => rfl) (fun vs l h => ?_) (fun f cdv A outer s H vs Q E hr h => ?_)
  · match vs, h with
    | [_], _ => rfl
  · obtain ⟨a, D, ws, l, rfl, hl, T, nx, ha, k⟩ := h
    match ws, hl with
    | [v], hl =>
      cases hl
      exact ⟨_, pss_one (ps_expr (pe_cm rfl (C.glo 1) C.inM F kp hr b L2.pass0 (pa_cons (pv 0) (pa_cons (pv 1) (pa_cons pe_str pa_nil))))), _, rfl, _, rfl, a, D, _, _, rfl, rfl, T, nx, ha, k⟩
theorem scX_NoMoment : FnScope ["self", "number"] ["self", "number"] d_NoMoment_init.scope := C8.fnScope_by (by decide +kernel)
theorem exn_NoMoment (C : Cn w K mg) : Exn P w K mg base 2 "NoMoment" (fs2 "no moment") := by
  obtain ⟨fd, F, kp, b⟩ := ini_M (P := P) (base := base) C
  refine C.exn 14 14 d_NoMoment_init scX_NoMoment (fun _ _ _ _ _ _ us hl => match us, hl with | [_, _], _ => rfl) (fun vs l h => ?_) (fun f cdv A outer s H vs Q E hr h => ?_)
  · match vs, h with
    | [_], _ => rfl
  · obtain ⟨a, D, ws, l, rfl, hl, T, nx, ha, k⟩ := h
    match ws, hl with
    | [v], hl =>
      cases hl
      exact ⟨_, pss_one (ps_expr (pe_cm rfl (C.glo 1) C.inM F kp hr b L2.pass0 (pa_cons (pv 0) (pa_cons (pv 1) (pa_cons pe_str pa_nil))))), _, rfl, _, rfl, a, D, _, _, rfl, rfl, T, nx, ha, k⟩
theorem scX_NoMark : FnScope ["self", "number"] ["self", "number"] d_NoMark_init.scope := C8.fnScope_by (by decide +kernel)
theorem exn_NoMark (C : Cn w K mg) : Exn P w K mg base 2 "NoMark" (fs2 "no mark") := by
  obtain ⟨fd, F, kp, b⟩ := ini_M (P := P) (base := base) C
  refine C.exn 15 15 d_NoMark_init scX_NoMark (fun _ _ _ _ _ _ us hl => match us, hl with | [_, _], _ => rfl) (fun vs l h => ?_) (fun f cdv A outer s H vs Q E hr h => ?_)
  · match vs, h with
    | [_], _ => rfl
  · obtain ⟨a, D, ws, l, rfl, hl, T, nx, ha, k⟩ := h
    match ws, hl with
    | [v], hl =>
      cases hl
      exact ⟨_, pss_one (ps_expr (pe_cm rfl (C.glo 1) C.inM F kp hr b L2.pass0 (pa_cons (pv 0) (pa_cons (pv 1) (pa_cons pe_str pa_nil))))), _, rfl, _, rfl, a, D, _, _, rfl, rfl, T, nx, ha, k⟩
end
end Bu
set_option Elab.async false
set_option linter.all false
set_option maxRecDepth 100000
set_option maxHeartbeats 4000000
/-! enumerate(tuple). -/
namespace Bu
open PySem PySem.Spec PyProof.Rows L2
theorem enum_newT (l : Addr) (items : Array Value) (n : Nat) (dct : Option Addr) (sl : Array (Option Value)) :
    Meets (Builtin.«enumerate.__new__» ⟨[.type "enumerate", .ref l], []⟩) (fun _ R s => s.heap.get? l = some { cls := .type "tuple", dict := dct, data := .seq items n, slots := sl } ∧
      R (.ok (.ret (.ref (s.heap.push { cls := .type "tuple_iterator", data := .fields #[.ref l, .int 0 0] }).objs.size)))
        { s with heap := (s.heap.push { cls := .type "tuple_iterator", data := .fields #[.ref l, .int 0 0] }).push { cls := .type "enumerate", data := .fields #[.none, .bool false, .ref s.heap.objs.size, rawInt 0, .none, .none] } }) :=
  .of_wp fun prog w A R s h => by
    obtain ⟨hp, g, d, tk, os⟩ := s; obtain ⟨hl, h⟩ := h
    have hsub := sub_enumerate
    have hL : Heap.IsTuple (Shared.heap ⟨hp, g, d, tk, os⟩) l items := ⟨_, hl, rfl, n, rfl⟩
    wp_walk using AutoSeq1.wpAny_loadPart' hl
    refine wpAny_stack_any fun st => wpAny_pure ?_
    split
    · rename_i c _ _ _ _ _
      cases (c == Value.type "enumerate")
      · wp_walk using AutoSeq1.wpAny_loadPart' hl, wpAny_pyIter_tuple hL; exact ⟨_, rfl, h⟩
      · wp_walk using AutoSeq1.wpAny_loadPart' hl, wpAny_pyIter_tuple hL; exact ⟨_, rfl, h⟩
    · wp_walk using AutoSeq1.wpAny_loadPart' hl, wpAny_pyIter_tuple hL; exact ⟨_, rfl, h⟩
section
variable {prog : Program} {w : World} {A : Around} {E : Value → Shared → Prop} {s : Shared}
theorem call_enumT {l : Addr} {items : Array Value} {Q : Value → Shared → Prop} (hL : s.heap.IsTuple l items)
    (h : ∀ h', IsEnum h' (s.heap.objs.size + 1) s.heap.objs.size 0 .none → h'.IsTupleIter s.heap.objs.size l 0 → h'.objs.size = s.heap.objs.size + 2 → (∀ b o, s.heap.get? b = some o → h'.get? b = some o) → Q (.ref (s.heap.objs.size + 1)) { s with heap := h' }) :
    wpAny (model prog w) A (call (.type "enumerate") [.ref l]) Q E s := by
  obtain ⟨⟨c, dct, dt, sl⟩, hl, hc, n, hd⟩ := hL
  replace hc : c = .type "tuple" := hc
  replace hd : dt = .seq items n := hd
  subst hc hd
  refine callType_new F.called_enumerate (by decide) (F.typeCall_enumerate_1 _) (F.newCall_enumerate_1 _) (fun obj => F.args_object_init_2 obj _) F.entry_enumerate_new (enum_newT l items n dct sl) ⟨hl, ?_⟩
  have hz : (s.heap.push { cls := .type "tuple_iterator", data := .fields #[.ref l, .int 0 0] }).objs.size = s.heap.objs.size + 1 := Heap.size_push ..
  show _ ∧ _
  rw [hz]
  have he : IsEnum ((s.heap.push { cls := .type "tuple_iterator", data := .fields #[.ref l, .int 0 0] }).push { cls := .type "enumerate", data := .fields #[.none, .bool false, .ref s.heap.objs.size, rawInt 0, .none, .none] }) (s.heap.objs.size + 1) s.heap.objs.size 0 .none := by
    have := Heap.get?_push_size (s.heap.push { cls := .type "tuple_iterator", data := .fields #[.ref l, .int 0 0] }) (o := { cls := .type "enumerate", data := .fields #[.none, .bool false, .ref s.heap.objs.size, rawInt 0, .none, .none] }) rfl
    rw [hz] at this; exact this
  exact ⟨⟨_, he, rfl⟩, h _ he ⟨_, Heap.get?_push_of_some _ (Heap.get?_push_size _ rfl), rfl, rfl⟩ (by rw [Heap.size_push, hz]) fun b o x => Heap.get?_push_of_some _ (Heap.get?_push_of_some _ x)⟩
/-- a tuple's iterator draws -/
theorem drawsT (it l : Addr) (items : Array Value) (hne : l ≠ it) (hh : A.handled = none) : Draws prog w A it [it, l] items.size (fun i x => items[i]? = some x) (fun i h => h.IsTupleIter it l i ∧ h.IsTuple l items) where
  live := fun i h st => let ⟨⟨o, ho, _⟩, _⟩ := st; ⟨o, ho⟩
  frame := fun i h h' st k => by
    obtain ⟨⟨o, ho, r⟩, o2, ho2, r2⟩ := st
    exact ⟨⟨o, k it (by simp) o ho, r⟩, o2, k l (by simp) o2 ho2, r2⟩
  item := fun i s Q E hi st hQ => by
    obtain ⟨h1, h2⟩ := st
    refine RZ.nextOf_tuple_item (x := items[i]) h1 h2 (by simp [hi]) fun h' hit sb => hQ _ h' s.toks (by simp [hi]) ⟨hit, ?_⟩ sb
    obtain ⟨o2, ho2, r2⟩ := h2
    exact ⟨o2, (sb.2 l hne).trans ho2, r2⟩
  done := fun s Q E st hE => RZ.nextOf_tuple_end hh st.1 st.2 (by simp) fun h' e sb he => hE h' e sb he
end
/-- the tuple at a, each item in a new pair -/
def IteT (K : PySem.W.Frag) (a : Addr) : It :=
  ⟨fun i H => ∃ (xs : List V) (x : V), SqT K H a xs ∧ xs[i]? = some x, fun i H v H' => ∃ T x, v = .ref T ∧ H T = none ∧ H' = upd H T (.tup [.int (i : Nat), x]) ∧ ∀ xs, SqT K H a xs → xs[i]? = some x, fun i H => ∃ xs : List V, SqT K H a xs ∧ xs.length ≤ i⟩
theorem turn_enumT {P : Program} {w : World} {K : PySem.W.Frag} {elts : List Expr} {kk : Nat} {tpos : Pos} (a e it : Addr) :
    Turn P w K (.Tuple elts kk tpos) (IteT K a) [e, it] e (fun i h => (∃ old, IsEnum h e it ((i : Nat) : Int) old) ∧ h.IsTupleIter it a i ∧ e ≠ it) where
  mem := by simp
  obj := fun i h st b hb => by
    obtain ⟨⟨old, he⟩, ⟨o, ho, hc, hd⟩, _⟩ := st
    rcases (show b = e ∨ b = it by simpa using hb) with z | z
    · rw [z]; exact ⟨_, he, fun v q => nomatch q⟩
    · rw [z]; exact ⟨o, ho, fun v q => by rw [hd] at q; cases q⟩
  keep := fun i h h' st k => by
    obtain ⟨⟨old, he⟩, ⟨o, ho, r⟩, hne⟩ := st
    exact ⟨⟨old, k e (by simp) _ he⟩, ⟨o, k it (by simp) o ho, r⟩, hne⟩
  item := by
    intro X hP hw hK hc i pins s σ H E I hf st hg
    subst hP hw hK
    obtain ⟨⟨old, he⟩, hit, hne⟩ := st
    obtain ⟨xs, x, hq, hx⟩ := hg
    obtain ⟨its, rv, p, hz⟩ := I.tuple hq
    obtain ⟨u, hu, ru⟩ := rv.get hx
    have hel : e < s.heap.objs.size := Heap.lt_size he
    have hil : it < s.heap.objs.size := by obtain ⟨_, q, _⟩ := hit; exact Heap.lt_size q
    have hai : a ≠ it := fun z => by
      obtain ⟨o1, q1, c1, _⟩ := hit
      obtain ⟨o2, q2, c2, _⟩ := p
      rw [z, q1] at q2; cases q2
      rw [c1] at c2; exact absurd (Value.type.inj c2) (by decide)
    have hae : e ≠ a := fun z => by
      obtain ⟨o2, q2, c2, _⟩ := p
      rw [← z, he] at q2; cases q2
      exact absurd (Value.type.inj c2) (by decide)
    have hi : i < its.toArray.size := by
      have h1 := rv.length
      have h2 : i < xs.length := (List.getElem?_eq_some_iff.mp hx).1
      simp; omega
    refine wpAny_pyNext_enum_itemD (drawsT (A := X.A.in1) it a its.toArray hai (I.ok.hd hc)) he ⟨hit, p⟩ hi hne (by simp [hne, hae]) fun y h' tk hy ho hst hT hsz hk => ?_
    have hyu : y = u := by
      have z : its[i]? = some y := by simpa using hy
      rw [hu] at z; exact (Option.some.inj z).symm
    subst hyu
    refine ⟨_, rfl, wpAny_letOwnedTupleGo_enum (s := { s with heap := h', toks := tk + 1 }) ho fun h'' he' sb => ?_⟩
    have hT2 : h''.get? s.heap.objs.size = some { cls := .type "tuple", data := .seq #[.int i tk, y] } := (sb.2 _ (Nat.ne_of_gt hel)).trans hT
    have new : ObjOk X.prog X.w (upd H s.heap.objs.size (.tup [.int (i : Nat), x])) h'' s.heap.objs.size (.tup [.int (i : Nat), x]) :=
      ⟨by show 2 ≤ sizeLine; decide, [.int i tk, y], .cons ⟨_, rfl⟩ (.cons ru .nil), ⟨_, hT2, rfl, _, rfl⟩⟩
    have I1 : Inv X pins σ (upd H s.heap.objs.size (.tup [.int (i : Nat), x])) { s with heap := h'', toks := tk + 1 } :=
      I.turnedNew (ch := [e, it]) (fun b ob hb q => (sb.2 b (fun z => hb (by simp [z]))).trans (hk b ob (fun z => hb (by simp [z])) (fun z => hb (by simp [z])) q)) hf (Nat.le_refl _) new
    obtain ⟨oi, qi, ri⟩ := hst.1
    refine ⟨.ref s.heap.objs.size, _, I1, rfl, ⟨_, x, rfl, I.hok.fresh (Nat.le_refl _), rfl, fun ys hy => by rw [I.tuple_inj hy hq]; exact hx⟩, ⟨⟨y, ?_⟩, ⟨oi, (sb.2 it (Ne.symm hne)).trans qi, ri⟩, hne⟩, fun b hb => ?_⟩
    · rw [show ((i + 1 : Nat) : Int) = (i : Int) + 1 by omega]; exact he'
    · have hb' : b < s.heap.objs.size := by
        rcases (show b = e ∨ b = it by simpa using hb) with z | z
        · rw [z]; exact hel
        · rw [z]; exact hil
      rw [upd_ne (Nat.ne_of_lt hb')]; exact (hf b hb).1
  done := by
    intro X hP hw hK hc i pins s σ H E I hf st hg
    subst hP hw hK
    obtain ⟨⟨old, he⟩, hit, hne⟩ := st
    obtain ⟨xs, hq, hx⟩ := hg
    obtain ⟨its, rv, p, hz⟩ := I.tuple hq
    obtain ⟨f0, f1, f2, f3, f4, f5⟩ := hf it (by simp)
    have hl := rv.length
    have hT : s.TypeIs (.ref e) "enumerate" := ⟨_, he, rfl⟩
    unfold pyNext
    refine wpAny_bind (wpAny_attempt (wpAny_callSpecial?_slot (name := Str.ofString "__next__") hT F.slot_enumerate_next (wpAny_call_entry F.slot_enumerate_next hT F.entry_enumerate_next ?_ (F.args_enumerate_next_1 _))))
    show wpAny _ _ (field (.ref e) 2 >>= _) _ _ _
    refine wpAny_bind (wpAny_field he rfl (x := .ref it) rfl ?_)
    refine wpAny_bind (RZ.nextOf_tuple_end (I.ok.hd hc) hit p (by simp; omega) fun h' x sb hx' => ?_)
    obtain ⟨ox, qx, cx⟩ := hx'
    refine wpAny_bind (wpAny_isInstance (T := "StopIteration") (b := true) ⟨ox, qx, cx⟩ isSubtype_stop ?_)
    exact wpAny_pure ⟨rfl, I.turned (t' := s.toks) (fun b o hb q => sb b o hb q) f0 f1 f3 f4 f5⟩
  self := fun A i s Q E st h => let ⟨⟨_, he⟩, _⟩ := st; wpAny_pyIter_enum he h
def iEnumT (K : PySem.W.Frag) (ta : TA) : TI := fun σ H R => ta σ H fun vs H1 => ∃ a xs, vs = [.ref a] ∧ SqT K H1 a xs ∧ R (IteT K a) H1
theorem pi_enumT {X : Cx} {e : Expr} {ta : TA} {p pos tpos : Pos} {elts : List Expr} {kk : Nat} (hg : Gl X "enumerate") (hm : X.mg "enumerate" = none) (ha : PA X [e] ta) (hs : starEach [e] X.env = [(false, eval e X.env)] := by rfl) :
    PI X (.Tuple elts kk tpos) (.Call (.Name "enumerate" p) [e] [] pos) (iEnumT X.K ta) := by
  refine ⟨fun pins s σ H R I h => ?_⟩
  refine Call_ (ld_blt I hg hm boot_enumerate (PyProof.Rows.callWith_type1 (thn (ha.run pos pins s σ H _ I h) fun us s1 ⟨vs, H1, I1, r1, q1⟩ => ?_) hs rfl))
  obtain ⟨a, xs, rfl, hq, q⟩ := q1
  cases r1 with
  | cons r rr =>
    cases rr
    cases r
    obtain ⟨its, rv, p', hz⟩ := I1.tuple hq
    refine call_enumT p' fun h' he hit hsz hk => wpAny_pyIter_enum he ?_
    refine ⟨s1.heap.objs.size + 1, [s1.heap.objs.size + 1, s1.heap.objs.size], _, _, H1, rfl, I1.kept (t' := s1.toks) hk, turn_enumT a (s1.heap.objs.size + 1) s1.heap.objs.size, ⟨⟨.none, he⟩, hit, Nat.succ_ne_self _⟩, fun b hb => ?_, q⟩
    have hle : s1.heap.objs.size ≤ b := by
      rcases (show b = s1.heap.objs.size + 1 ∨ b = s1.heap.objs.size by simpa using hb) with z | z
      · rw [z]; exact Nat.le_add_right _ _
      · rw [z]; exact Nat.le_refl _
    exact I1.fpOk hle (I1.hok.fresh hle)
end Bu
set_option Elab.async false
set_option linter.all false
set_option maxRecDepth 100000
set_option maxHeartbeats 4000000
/-! len, bool, repr and != of own instances; methods that raise; a written dict's get; try .. finally. -/
namespace Bu
open PySem PySem.Spec PyProof.Rows L2
section
variable {X : Cx} {pins : List (Addr × Obj)} {σ : L2.St} {H : Hp} {s : Shared} {k j : Nat} {f : Addr} {fd : FuncData} {ps : List Str} {sp : Sp} {A : Around}
/-- a def of the text called by the machine -/
theorem run_at {Q : VK} {us : List Value} {vs : List V} {E : Value → Shared → Prop} (F : FnOk X.prog X.w X.K X.mg X.base CX0 k f fd ps sp) (hr : Room k A) (hfr : A.frames = X.A.frames) (hb : L2.Binds X.K fd ps []) (I : Inv X pins σ H s) (r : Vals vs us) (h : sp vs H Q E0) :
    wpAny (model X.prog X.w) A (call (.ref f) us) (EP X pins σ Q) E s := by
  have e0 : Env0 X.prog X.w X.K X.mg X.base A X.stack s H := by
    have e := I.env0
    exact ⟨by rw [hfr]; exact e.frames, e.mod, e.bs, e.bsz, e.funs, e.frf, e.hok, e.bare⟩
  have hl : us.length = ps.length := by rw [← r.length]; exact F.len _ _ _ _ h
  have b := hb s us I.kIn (by rw [List.append_nil]; exact hl)
  rw [List.append_nil] at b
  refine wpAny_call (codeAny_mono (F.run A X.stack s H ⟨us, []⟩ us vs Q E0 hr e0 b r h) fun r s' hq => ?_)
  cases r with
  | error e => exact hq.elim
  | ok fl =>
    cases fl with
    | ret w => exact I.after hq
    | next => exact False.elim hq
    | brk => exact False.elim hq
    | cont => exact False.elim hq
/-- a special def of a class -/
structure Spc (P : Program) (w : World) (K : PySem.W.Frag) (mg : Str → Option Value) (base : Heap) (k : Nat) (C : Addr) (m : Str) (sp : Sp) : Prop where
  ex : ∃ (f : Addr) (fd : FuncData) (ps : List Str), PySem.W.findIn K (.ref C) m = some (some (.ref f)) ∧ PySem.W.isFn K (.ref f) = true ∧ FnOk P w K mg base CX0 k f fd ps sp ∧ L2.Binds K fd ps []
theorem Met.spc {P : Program} {w : World} {K : PySem.W.Frag} {mg : Str → Option Value} {base : Heap} {x m : Str} (h : Met P w K mg base CX0 k x m sp) : Spc P w K mg base k (He.ga K x) m sp := by
  obtain ⟨f, fd, ps, _, me, F, b⟩ := h.ex
  exact ⟨f, fd, ps, me.at_, me.fn, F, b⟩
/-- how many o.__len__ says -/
def rLenI (C : Addr) (sp : Sp) (g : Int → V) : List V → Hp → VK → Prop := fun xs H Q => ∃ (a dx : Addr) (fs : List (Str × V)), xs = [.ref a] ∧ H a = some (.ins C dx fs) ∧ sp [.ref a] H (fun v H' => ∃ n : Int, v = .int n ∧ 0 ≤ n ∧ n < 2 ^ 63 ∧ Q (g n) H') E0
theorem call_lenI {C : Addr} (S : Spc X.prog X.w X.K X.mg X.base k C "__len__" sp) (hr : Room j X.A) (hk : k + 1 ≤ j := by decide) : CallR X (.builtin "len") (rLenI C sp .int) := by
  intro pins s σ H xs us Q I r h
  obtain ⟨a, dx, fs, rfl, ha, h⟩ := h
  obtain ⟨u, rfl, r1⟩ := vals1 r
  obtain rfl : u = Value.ref a := r1
  obtain ⟨f, fd, ps, hs, hf, F, b⟩ := S.ex
  obtain ⟨mA, J, _⟩ := ins_get I.hok ha
  obtain ⟨od, J, _⟩ := J.look
  obtain ⟨m, fr⟩ := I.fr
  refine PySem.W.len_K fr I.ok.mod.kin J hs hf (wpAny_mono (run_at (X := X) (vs := [.ref a]) F ((hr.mono hk).in1) rfl b I (.cons rfl .nil) h) (fun v s' hq => ?_) fun _ _ z => z)
  obtain ⟨w, H', I', rv, n, rfl, n0, n1, q⟩ := hq
  obtain ⟨t, rfl⟩ := (show ∃ t, v = Value.int n t from rv)
  exact ⟨⟨n0, n1⟩, .int n, H', I'.tok _, ⟨_, rfl⟩, q⟩
/-- truth by __len__ -/
theorem truthy_len {C x : Addr} {ox : Obj} {od : Option Obj} {Q : Bool → Shared → Prop} {E : Value → Shared → Prop} (X0 : X.K.In s.heap) (J : PySem.W.InstAt s.heap x ox C od) (hno : PySem.W.findIn X.K (.ref C) "__bool__" = some none) (hs : PySem.W.findIn X.K (.ref C) "__len__" = some (some (.ref f))) (hf : PySem.W.isFn X.K (.ref f) = true)
    (h : wpAny (model X.prog X.w) A.in1 (call (.ref f) [.ref x]) (PySem.W.LenBack fun v s' => ∃ (n : Int) (t : Tok), v = .int n t ∧ Q (n != 0) s') E s) : wpAny (model X.prog X.w) A (truthy (.ref x)) Q E s := by
  unfold truthy
  have key : wpAny (model X.prog X.w) A (runValue (.builtin "len" ⟨[.ref x], []⟩)) (fun v s' => ∃ (n : Int) (t : Tok), v = .int n t ∧ Q (n != 0) s') E s := by
    refine wpAny_runValue (codeAny_builtin entry_len ?_)
    rw [Around.under_plainId plain_len _]
    unfold Builtin.«len»
    refine wpAny_bind (m := oneArg "len" _) (wpAny_pure ?_)
    refine wpAny_bind (m := callSpecial? (.ref x) (Str.ofString "__len__")) (PySem.W.special_fn X0 J hs (beq_iff_eq.mp hf) (wpAny_mono h (fun r s' hr => ?_) fun _ _ y => y))
    cases r <;> first | exact hr.elim | skip
    rename_i n u
    obtain ⟨⟨h0, h1⟩, hq⟩ := hr
    refine wpAny_bind (wpAny_holding (wpAny_pure ?_))
    refine wpAny_bind (wpAny_letGo ?_)
    show wpAny _ _ (if n < 0 then _ else _) _ _ _
    rw [if_neg (by omega)]
    show wpAny _ _ (if n ≥ 2 ^ 63 then _ else _) _ _ _
    rw [if_neg (by omega)]
    exact wpAny_bind (wpAny_mkInt (wpAny_pure hq))
  refine wpAny_bind (m := callSpecial? (.ref x) (Str.ofString "__bool__")) (DSub.special_no X0 J hno ?_)
  have sp : ∀ {Q' : Option Value → Shared → Prop}, Q' (some (.ref f)) s → wpAny (model X.prog X.w) A (specialOf (.ref x) "__len__") Q' E s := fun q => by
    unfold specialOf
    exact wpAny_bind (J.type.here ((PySem.W.looks_findIn X0 hs).here q))
  first
    | refine wpAny_bind (sp ?_)
    | refine wpAny_bind (wpAny_pure (wpAny_bind (sp ?_)))
  first
    | refine wpAny_bind (wpAny_mono key (fun r s' h' => ?_) fun _ _ e => e)
    | refine wpAny_bind (wpAny_pure (wpAny_bind (wpAny_mono key (fun r s' h' => ?_) fun _ _ e => e)))
  obtain ⟨n, t, rfl, hq⟩ := h'
  exact wpAny_pure hq
theorem call_boolI {C : Addr} (S : Spc X.prog X.w X.K X.mg X.base k C "__len__" sp) (hno : PySem.W.findIn X.K (.ref C) "__bool__" = some none) (hr : Room j X.A) (hk : k + 3 ≤ j := by decide) : CallR X (.type "bool") (rLenI C sp fun n => .bl (n != 0)) := by
  intro pins s σ H xs us Q I r h
  obtain ⟨a, dx, fs, rfl, ha, h⟩ := h
  obtain ⟨u, rfl, r1⟩ := vals1 r
  obtain rfl : u = Value.ref a := r1
  obtain ⟨f, fd, ps, hs, hf, F1, b⟩ := S.ex
  obtain ⟨mA, J, _⟩ := ins_get I.hok ha
  obtain ⟨od, J, _⟩ := J.look
  have g : MeetsIn X.prog X.w (Builtin.«bool.__new__» ⟨[.type "bool", .ref a], []⟩) (fun A R s => wpAny (model X.prog X.w) A.in1 (truthy (.ref a)) (fun b s' => R (.ok (.ret (.bool b))) s') (fun e s' => R (.error e) s') s) := fun A R s h => by
    obtain ⟨hp, g, d, tk, os⟩ := s
    have f1 := F.conv_sub_bool
    have key : wpAny (model X.prog X.w) A.in1 (truthy (.ref a)) (fun b s' => R (.ok (.ret (.bool b))) s') (fun e s' => R (.error e) s') ⟨hp, g, d, tk, os⟩ := h
    repeat (any_goals (first | assumption | (with_reducible refine wpAny_bind (m := truthy (.ref a)) (wpAny_mono key (fun b s' hb => ?_) fun _ _ z => z)) | (with_reducible refine wpAny_mono key (fun b s' hb => ?_) fun _ _ z => z) | wp_step))
    all_goals first | exact hb | exact wpAny_pure hb | exact wpAny_pure (wpAny_pure hb)
  refine callType_newIn F.called_bool F.newNe_bool (F.typeCall_bool_1 _) (F.newCall_bool_1 _) (fun obj => F.args_object_init_2 obj _) F.entry_bool_new g ?_
  refine truthy_len (X := X) I.kIn J hno hs hf (wpAny_mono (run_at (X := X) (vs := [.ref a]) F1 ((hr.mono hk).in1.in1.in1) rfl b I (.cons rfl .nil) h) (fun v s' hq => ?_) fun _ _ z => z)
  obtain ⟨w, H', I', rv, n, rfl, n0, n1, q⟩ := hq
  obtain ⟨t, rfl⟩ := (show ∃ t, v = Value.int n t from rv)
  exact ⟨⟨n0, n1⟩, n, _, rfl, rfl, .bl (n != 0), H', I'.tok _, rfl, q⟩
/-- repr(o) by o.__repr__ -/
theorem call_reprI {C : Addr} (S : Spc X.prog X.w X.K X.mg X.base k C "__repr__" sp) (hr : Room j X.A) (hk : k + 1 ≤ j := by decide) : CallR X (.builtin "repr") (fun xs H Q => ∃ (a dx : Addr) (fs : List (Str × V)), xs = [.ref a] ∧ H a = some (.ins C dx fs) ∧ sp [.ref a] H (fun v H' => ∃ x, v = .str x ∧ Q (.str x) H') E0) := by
  intro pins s σ H xs us Q I r h
  obtain ⟨a, dx, fs, rfl, ha, h⟩ := h
  obtain ⟨u, rfl, r1⟩ := vals1 r
  obtain rfl : u = Value.ref a := r1
  obtain ⟨f, fd, ps, hs, hf, F, b⟩ := S.ex
  obtain ⟨mA, J, _⟩ := ins_get I.hok ha
  obtain ⟨od, J, _⟩ := J.look
  obtain ⟨m, fr⟩ := I.fr
  have hr1 := (hr.mono hk).in1
  refine PySem.W.repr_K hr1.units0 fr I.ok.mod.kin J hs hf (wpAny_mono (run_at (X := X) (vs := [.ref a]) F hr1 rfl b I (.cons rfl .nil) h) (fun v s' hq => ?_) fun _ _ z => z)
  obtain ⟨w, H', I', rv, x, rfl, q⟩ := hq
  obtain ⟨t, rfl⟩ := (show ∃ t, v = Value.str x t from rv)
  exact ⟨.str x, H', I', ⟨_, rfl⟩, q⟩
/-- a != b by a.__eq__(b), both of one class -/
theorem op_neI {C : Addr} (S : Spc X.prog X.w X.K X.mg X.base k C "__eq__" sp) (hne : PySem.W.findIn X.K (.ref C) "__ne__" = some (some (.builtin "object.__ne__"))) (hm : PySem.W.mroIn X.K C (.type "object") = some true) (hr : Room j X.A) (hk : k + 1 ≤ j := by decide) : OpR X (compareOp .NotEq)
    (fun x y H Q => ∃ (a b dx dy : Addr) (fs gs : List (Str × V)), x = .ref a ∧ y = .ref b ∧ H a = some (.ins C dx fs) ∧ H b = some (.ins C dy gs) ∧ sp [.ref a, .ref b] H (fun v H' => ∃ c, v = .bl c ∧ Q (.bl (!c)) H') E0) := by
  intro pins s σ H x y v u Q I rx ry h
  obtain ⟨a, b, dx, dy, fs, gs, rfl, rfl, ha, hb, h⟩ := h
  obtain rfl : v = Value.ref a := rx
  obtain rfl : u = Value.ref b := ry
  obtain ⟨f, fd, ps, hs, hf, F1, bn⟩ := S.ex
  obtain ⟨mA, J, _⟩ := ins_get I.hok ha
  obtain ⟨od, J, _⟩ := J.look
  obtain ⟨mB, J', _⟩ := ins_get I.hok hb
  obtain ⟨od', J', _⟩ := J'.look
  have hr1 := (hr.mono hk).in1
  have X0 := I.kIn
  have run := run_at (X := X) (vs := [.ref a, .ref b]) (E := X.xe) F1 hr1 rfl bn I (.cons rfl (.cons rfl .nil)) h
  show wpAny (model X.prog X.w) X.A (richCompare .NotEq (.ref a) (.ref b)) (EP X pins σ Q) X.xe s
  have obj : ∀ {Q' : Fin → Shared → Prop}, (∀ c s', (∃ H', Inv X pins σ H' s' ∧ Q (.bl (!c)) H') → Q' (.done (.ret (.bool (!c)))) s') → wpAny (model X.prog X.w) X.A.in1 (Builtin.«object.__ne__» ⟨[.ref a, .ref b], []⟩) Q' X.xe s := fun {Q'} hq => by
    unfold Builtin.«object.__ne__»
    repeat (first
      | with_reducible refine wpAny_cRoomFor hr1.units0 ?_
      | (refine wpAny_bind (m := callSpecialIfBound? (.ref a) (Str.ofString "__eq__") [.ref b]) (PySem.W.ifBound_K X0 J hs hf (wpAny_mono run (fun r s' z => by
          obtain ⟨w, H', I', rv, c, rfl, q⟩ := z
          obtain rfl : r = Value.bool c := rv
          have hq' := hq c s' ⟨H', I', q⟩
          repeat (first | exact hq' | exact wpAny_pure hq' | exact wpAny_truthy_bool hq' | (refine wpAny_bind (m := truthy (.bool _)) (wpAny_truthy_bool ?_)) | wp_step)) fun _ _ e => e)))
      | wp_step)
  have one : wpAny (model X.prog X.w) X.A (tryCompare (.ref a) "__ne__" (.ref b)) (fun r s' => ∃ c, r = some (.bool (!c)) ∧ ∃ H', Inv X pins σ H' s' ∧ Q (.bl (!c)) H') X.xe s := by
    have call_ : wpAny (model X.prog X.w) X.A (call (.builtin "object.__ne__") [.ref a, .ref b]) (fun v s' => ∃ c, v = .bool (!c) ∧ ∃ H', Inv X pins σ H' s' ∧ Q (.bl (!c)) H') X.xe s := by
      have isO : PySem.W.Looks (model X.prog X.w) s.heap (isInstance (.ref a) (.type "object")) true := J.type.andThen (PySem.W.looks_mroIn X0 hm)
      refine wpAny_call (codeAny_call_builtin F.cmp_object.ne.plain F.cmpEntry_ne (@PySem.W.check_slot (model X.prog X.w) _ _ s "object.__ne__" "object" "__ne__" (.ref a) [.ref b] [] _ F.cmpKind_ne F.cmpSplit_ne isO (F.cmpArgs_ne _ _) (obj fun c s' z => ?_)))
      exact ⟨c, rfl, z⟩
    simp only [tryCompare, callSpecialIfBound?, bindSpecialIfBound?]
    refine wpAny_bind ?_
    refine wpAny_holding (wpAny_bind (wpAny_bind (wpAny_bind (J.type.here ((PySem.W.looks_findIn X0 hne).here ?_)))))
    simp only [F.cmp_object.ne.bind]
    refine wpAny_bind (wpAny_askSetting (wpAny_ite ?_))
    have fin : ∀ {Q' : Option Value → Shared → Prop}, (∀ v s', (∃ c, v = .bool (!c) ∧ ∃ H', Inv X pins σ H' s' ∧ Q (.bl (!c)) H') → Q' (some v) s') → wpAny (model X.prog X.w) X.A (call (.builtin "object.__ne__") ([.ref a] ++ [.ref b]) >>= fun v => pure (some v)) Q' X.xe s := fun {Q'} hq => wpAny_bind (wpAny_mono call_ (fun v s' h' => wpAny_pure (hq v s' h')) fun _ _ h' => h')
    split
    · exact wpAny_bind (wpAny_pure (wpAny_pure (fin fun v s' z => by
        obtain ⟨c, rfl, z⟩ := z
        exact wpAny_pure ⟨c, rfl, z⟩)))
    · exact wpAny_tryCatch (wpAny_bind (wpAny_pure (wpAny_pure (fin fun v s' z => by
        obtain ⟨c, rfl, z⟩ := z
        exact wpAny_pure ⟨c, rfl, z⟩))))
  unfold richCompare
  simp only [oneThing_ref]
  refine wpAny_holding (wpAny_bind (wpAny_cRoomFor hr.units0 ?_))
  rw [cmpInfo_NotEq]
  dsimp only
  refine wpAny_bind (J.type.here (wpAny_bind (J'.type.here ?_)))
  rw [show (Value.ref C != Value.ref C) = false from by simp]
  simp only [Bool.false_eq_true, if_false]
  refine wpAny_bind (wpAny_pure ?_)
  simp only [Bool.false_eq_true, if_false]
  refine wpAny_bind (wpAny_mono one (fun r s' z => ?_) fun _ _ e => e)
  obtain ⟨c, rfl, H', I', q⟩ := z
  exact wpAny_pure ⟨.bl (!c), H', I', rfl, q⟩
end
end Bu
set_option Elab.async false
set_option linter.all false
set_option maxRecDepth 100000
set_option maxHeartbeats 4000000
/-! Methods that raise; fields of a caught exception; a written dict's get; try .. finally; a def held by a name. -/
namespace Bu
open PySem PySem.Spec PyProof.Rows L2
section
variable {X : Cx} {W : WX} {k j : Nat} {x m : Str} {sp : Sp} {p pos apos : Pos} {o e : Expr} {es : List Expr} {ta : TE} {t : TA}
/-- o.m(..), what m raises is wished for -/
def tMx (C : Addr) (m : Str) (sp : Sp) (E : L2.St → XK) (ta : TE) (t : TA) : TE := fun σ H Q => ta σ H fun x H1 => ∃ a dx fs, x = .ref a ∧ H1 a = some (.ins C dx fs) ∧ fs.lookup m = none ∧ t σ H1 fun vs H2 => sp (x :: vs) H2 Q (E σ)
theorem pe_mx (c : Met X.prog X.w X.K X.mg X.base (L2.CX X.prog X.w) k x m sp) (hr : Room j X.A) (tk : Takes X W) (ho : PE X o ta) (ha : PA X (e :: es) t) {pl : Sem Bool} (hk : k ≤ j := by decide)
    (hst : starEach (e :: es) X.env = (false, eval e X.env) :: starEach es X.env := by rfl) (hpl : (backTo pos (starEach es X.env)).any (·.1) = false := by rfl)
    (ht : eval (.Call (.Attribute o m apos) (e :: es) [] pos) X.env = (do
      let ov ← eval o X.env; standAt apos.atName; let (f, first) ← holding [ov] (getMethod ov m pl); callWith pos f first (backTo pos (starEach (e :: es) X.env)) (backToKw pos (keywordEach [] X.env))) := by rfl) :
    PE X (.Call (.Attribute o m apos) (e :: es) [] pos) (tMx (He.ga X.K x) m sp (WE W) ta t) := by
  obtain ⟨f, fd, ps, cl, me, F, b⟩ := c.ex
  refine ⟨fun pins s σ H Q I h => ?_⟩
  refine PySem.W.methodCall_KW (pl := pl) (thn (ho.run pins s σ H _ I h) fun u s1 ⟨x, H1, I1, rx, a, dx, fs, ex, ea, l, q⟩ => ?_) ht
  subst ex; obtain rfl : u = Value.ref a := rx
  refine getmeth_ok I1 ea cl me l ?_
  refine PySem.W.callWith_K (first := [.ref a]) (h₀ := X.base) I.ok.mod.kin me.kp (thn (ha.run pos pins s1 σ H1 _ I1 q) fun us s2 ⟨vs, H2, I2, r, q2⟩ => ⟨I2.kIn, ?_⟩) hst hpl
  exact run_fnS (us := .ref a :: us) (vs := .ref a :: vs) (F.mono hk) hr b (passAt tk σ) I2 (.cons rfl r) q2
theorem pe_mx0 (c : Met X.prog X.w X.K X.mg X.base (L2.CX X.prog X.w) k x m sp) (hr : Room j X.A) (tk : Takes X W) (ho : PE X o ta) {pl : Sem Bool} (hk : k ≤ j := by decide)
    (ht : eval (.Call (.Attribute o m apos) [] [] pos) X.env = (do
      let ov ← eval o X.env; standAt apos.atName; let (f, first) ← holding [ov] (getMethod ov m pl); callWith pos f first (backTo pos (starEach [] X.env)) (backToKw pos (keywordEach [] X.env))) := by rfl) :
    PE X (.Call (.Attribute o m apos) [] [] pos) (tMx (He.ga X.K x) m sp (WE W) ta tNil) := by
  obtain ⟨f, fd, ps, cl, me, F, b⟩ := c.ex
  refine ⟨fun pins s σ H Q I h => ?_⟩
  refine PySem.W.methodCall_KW (pl := pl) (thn (ho.run pins s σ H _ I h) fun u s1 ⟨x, H1, I1, rx, a, dx, fs, ex, ea, l, q⟩ => ?_) ht
  subst ex; obtain rfl : u = Value.ref a := rx
  refine getmeth_ok I1 ea cl me l ?_
  exact PySem.W.callWith_K0 (first := [.ref a]) I1.kIn me.kp (run_fnS (us := [.ref a]) (vs := [.ref a]) (F.mono hk) hr b (passAt tk σ) I1 (.cons rfl .nil) q)
/-- a def held by a name, one of several; what it raises is wished for -/
structure HeldX (P : Program) (w : World) (K : PySem.W.Frag) (mg : Str → Option Value) (base : Heap) (k : Nat) (f : Addr) (sp : Sp) : Prop where
  ex : ∃ (fd : FuncData) (ps : List Str), FnOk P w K mg base (L2.CX P w) k f fd ps sp ∧ PySem.W.keepIn K (.ref f) = true ∧ L2.Binds K fd ps []
theorem Cal.held {P : Program} {w : World} {K : PySem.W.Frag} {mg : Str → Option Value} {base : Heap} (c : Cal P w K mg base (L2.CX P w) k x sp) (h : mg x = some (.ref (He.ga K x))) : HeldX P w K mg base k (He.ga K x) sp := by
  obtain ⟨f, fd, ps, F, hm, kp, b⟩ := c.ex
  rw [h] at hm; cases hm
  exact ⟨fd, ps, F, kp, b⟩
def tHeld (P : Program) (w : World) (K : PySem.W.Frag) (mg : Str → Option Value) (base : Heap) (k i : Nat) (W : WX) (t : TA) : TE := fun σ H Q => ∃ f sp, σ[i]? = some (some (.ref f)) ∧ HeldX P w K mg base k f sp ∧ t σ H fun vs H1 => sp vs H1 Q (WE W σ)
theorem pe_held {i : Nat} (hr : Room k X.A) (tk : Takes X W) (hN : X.N[i]? = some x) (hv : Vis X.env.scope x) (ha : PA X (e :: es) t) (hdb : (x == ("__debug__" : Str)) = false := by decide) (hcd : (x == ("__classdict__" : Str)) = false := by decide)
    (he : starEach (e :: es) X.env = (false, eval e X.env) :: starEach es X.env := by rfl) (hpl : (backTo pos (starEach es X.env)).any (·.1) = false := by rfl) : PE X (.Call (.Name x p) (e :: es) [] pos) (tHeld X.prog X.w X.K X.mg X.base k i W t) := by
  refine ⟨fun pins s σ H Q I h => ?_⟩
  obtain ⟨f, sp, hs, c, ht⟩ := h
  obtain ⟨fd, ps, F, hk, b⟩ := c.ex
  refine wpAny_Call_Name_kw (thn ((pe_var (pos := p) hN hv hdb hcd).run pins s σ H (fun v H1 => v = .ref f ∧ H1 = H) I ⟨.ref f, hs, rfl, rfl⟩) fun u s1 ⟨v, H1, I1, r1, q1⟩ => ?_)
  obtain ⟨rfl, rfl⟩ := q1
  cases r1
  refine PySem.W.callWith_K (h₀ := X.base) I.ok.mod.kin hk (thn (ha.run pos pins s1 σ _ _ I1 ht) fun us s2 ⟨vs, H2, I2, r, q⟩ => ⟨I2.kIn, ?_⟩) he hpl
  exact run_fnS F hr b (passAt tk σ) I2 r q
/-- n.f of a caught exception of any of the classes -/
def tXfA (K : PySem.W.Frag) (a : Addr) (cls : Value) (d : Option Addr) (f : Str) (te : TE) : TE := fun σ H Q => te σ H fun x H1 => x = .ref a ∧ ∃ (C dd : Addr) (fs : List (Str × V)) (v : V), cls = .ref C ∧ XfC K C ∧ PySem.W.findIn K (.ref C) f = some none ∧ d = some dd ∧ H1 dd = some (.xd fs) ∧ fs.lookup f = some v ∧ Q v H1
theorem pe_xfA {a : Addr} {oe : Obj} {cls : Value} {d : Option Addr} {pn : List (Addr × Obj)} {te : TE} {n : Str} (hz : Zc cls d oe) (hf : ∃ vs, oe.data = .fields vs) (he : PE (X.suite a ((a, oe) :: pn)) e te) (hb : attributeBase e n X.env (eval e X.env) = eval e X.env := by rfl) :
    PE (X.suite a ((a, oe) :: pn)) (.Attribute e n pos) (tXfA X.K a cls d n te) := by
  refine ⟨fun pins s σ H Q I h => ?_⟩
  refine attr_of hb (thn (he.run pins s σ H _ I h) fun u s1 hh => ?_)
  obtain ⟨x, H1, I1, rx, ex, C, dd, fs, v, ec, T, hno, ed, ea, l, q⟩ := hh
  subst ex; obtain rfl : u = Value.ref a := rx
  subst ec ed
  obtain ⟨ha, _⟩ := I1.pin (a, oe) (List.mem_append_left _ List.mem_cons_self)
  obtain ⟨vs, hd⟩ := hf
  obtain ⟨mA, hns, hr⟩ := (show ObjOk X.prog X.w H1 s1.heap dd (.xd fs) from I1.hok dd _ ea)
  obtain ⟨od, ho, hl⟩ := lookIn_ns hns
  obtain ⟨u, hu, ru⟩ := RelO.some_of (v := v) (o := mA n) (by rw [← l]; exact hr n)
  have J : PySem.W.InstAt s1.heap a oe C (some od) := ⟨ha, hz.1, by unfold PySem.W.notCls; rw [hd] <;> rfl, by rw [hz.2]; exact ho⟩
  exact HandSPX.exc_get I1.kIn J T.ga T.gg T.exC (PySem.W.findObj_own T.hdC hno rfl (by rw [hl, hu])) (handed_of ru) ⟨v, H1, I1.tok _, ru, q⟩
/-- d.get(k, x), d a written dict -/
def tKGet (K : PySem.W.Frag) (w : World) (td ty tx : TE) : TE := fun σ H Q => td σ H fun x H1 => ∃ a, x = .ref a ∧ (∃ z v, KDct K w a z v) ∧ ty σ H1 fun y H2 => tx σ H2 fun d H3 => ∃ z, y = .str z ∧ ((∃ v, KDct K w a z v ∧ (a == sysModules) = false ∧ Q v H3) ∨ (KMiss K w a z ∧ Q d H3))
theorem pe_kget {f : Expr} {td ty tx : TE} {cpos : Pos} (ho : PE X o td) (he : PE X e ty) (hf : PE X f tx) (mt : M2 X o "get" apos e f cpos) : PE X (.Call (.Attribute o "get" apos) [e, f] [] cpos) (tKGet X.K X.w td ty tx) := by
  refine ⟨fun pins s σ H Q I h => ?_⟩
  refine wpAny_Call_method mt.base mt.few mt.line PySem.F.plainAttrs_dict PySem.F.slot_dict_get PySem.F.type_dict_get (thn (ho.run pins s σ H _ I h) fun u s1 ⟨x, H1, I1, rx, a, ex, ⟨z0, v0, es0, n0, _, hl0, hk0, _, _⟩, q1⟩ => ?_)
  subst ex; obtain rfl : u = Value.ref a := rx
  have hm0 := PySem.W.mapOf_K (prog := X.prog) (w := X.w) I1.kIn hl0 hk0
  refine ⟨hm0.typeIs, hm0.noDict, ?_⟩
  rw [mt.trees]
  refine Calls.callWith_builtin rfl (Calls.evalArgs_plain (Calls.spliced_cons (thn (he.run pins s1 σ H1 _ I1 q1) fun iv s2 ⟨y, H2, I2, ry, q2⟩ => Calls.spliced_cons (thn (hf.run pins s2 σ H2 _ I2 q2) fun fv s3 ⟨d, H3, I3, rd, z, ey, q3⟩ => Calls.spliced_nil ?_))))
  subst ey
  obtain ⟨t, rfl⟩ := (show ∃ t, iv = Value.str z t from ry)
  have hm := PySem.W.mapOf_K (prog := X.prog) (w := X.w) I3.kIn hl0 hk0
  rcases q3 with ⟨v, ⟨es, n, u0, hl, hk, e0, ru⟩, low, q3⟩ | ⟨⟨es, n, hl, hk, low, e0⟩, q3⟩
  · have hm := PySem.W.mapOf_K (prog := X.prog) (w := X.w) I3.kIn hl hk
    refine call_meetsIn PySem.F.slot_dict_get hm.typeIs PySem.F.entry_dict_get (PySem.F.args_dict_get_3 _ _ _) (meets_dict_get_default (strKind X.prog X.w) a (strKind_is X.prog X.w z t) low fv) ⟨_, hm, ?_⟩
    rw [PySem.W.find_K hl e0]
    exact ⟨v, H3, I3.tok _, ru, q3⟩
  · have hm := PySem.W.mapOf_K (prog := X.prog) (w := X.w) I3.kIn hl hk
    refine call_meetsIn PySem.F.slot_dict_get hm.typeIs PySem.F.entry_dict_get (PySem.F.args_dict_get_3 _ _ _) (meets_dict_get_default (strKind X.prog X.w) a (strKind_is X.prog X.w z t) low fv) ⟨_, hm, ?_⟩
    rw [PySem.W.find_K hl e0]
    exact ⟨d, H3, I3.tok _, rd, q3⟩
end
section
variable {X : Cx} {body : List Stmt} {f₀ : Stmt} {fs : List Stmt} {pos : Pos} {tb : WX → TS} {tf tfs : TS} {Wout : WX}
/-- try: body / finally: suite, no return within -/
def tTryF (tb : WX → TS) (tf tfs : TS) (Wout : WX) : TS := fun D σ H => tb (wFin tfs Wout) { nx := fun σ1 H1 => tf D σ1 H1, rt := fun _ _ => False } σ H
theorem ps_tryF (hs : X.stack = X.env :: X.outer) (hf : X.env.frame = some X.env.locals) (hex : X.ex = []) (tk : Takes X Wout) (hb : ∀ (W : WX) (pn : List (Addr × Obj)) (xe : Value → Shared → Prop), Takes (X.tr pn xe) W → PassesOwn (model X.prog X.w) X.A X.env xe → PSs (X.tr pn xe) body (tb W))
    (hfin : PSs X.nox (f₀ :: fs) tf) (hsu : ∀ (a : Addr) (pn : List (Addr × Obj)), PSs (X.suite a pn) (f₀ :: fs) tfs) : PS X (.Try body [] [] (f₀ :: fs) pos) (tTryF tb tf tfs Wout) := by
  refine ⟨fun pins s σ H D I h => ?_⟩
  have ok := I.ok
  refine wpAny_Try_finally (wpAny_mono ((hb (wFin tfs Wout) (X.pn ++ pins) (fun x s₁ => wpAny (model X.prog X.w) X.A (noteFrame x X.env) (fun _ s₂ => FinallyRaised X.prog X.w X.A X.xe X.env (f₀ :: fs) (SP X pins D) x s₂) (FinallyRaised X.prog X.w X.A X.xe X.env (f₀ :: fs) (SP X pins D)) s₁) (fun u s' xx => fin_exc hs hf hex ok tk hsu xx) PassesOwn.looking).run [] s σ H _ (I.toTry _) h) (fun g s1 z => ?_) fun x s1 hx => hx)
  cases g with
  | ret u => obtain ⟨_, _, _, _, _, q⟩ := z; exact False.elim q
  | brk => obtain ⟨_, _, _, q⟩ := z; exact False.elim q
  | cont => obtain ⟨_, _, _, q⟩ := z; exact False.elim q
  | next =>
    obtain ⟨σ1, H1, J1, q1⟩ := z
    refine wpAny_execs_nil (wpAny_mono (hfin.run pins s1 σ1 H1 D ((J1.ofTry ok).wish _) q1) (fun g2 s2 q2 => ?_) fun _ _ e => False.elim e)
    have q3 : SP X pins D g2 s2 := q2.unwish
    cases g2 <;> exact q3
end
end Bu
set_option Elab.async false
set_option linter.all false
set_option maxRecDepth 100000
set_option maxHeartbeats 4000000
namespace Bu
open PySem PySem.Spec PyProof.Rows L2
/-! ### the bag of draws -/
def bagV (c : Addr) (i big seed cnt : Int) : List V := [.ref c, .int i, .int big, .int seed, .int cnt]
def BagL (c : Addr) (n : Nat) (L : List V) : Prop := ∃ i big seed cnt : Int, L = bagV c i big seed cnt ∧ 0 ≤ i ∧ i ≤ (n : Int) ∧ 0 ≤ big ∧ 0 ≤ seed ∧ seed < 2147483647
/-- a bag stands at b, its cells at c -/
def BagAt (K : PySem.W.Frag) (H : Hp) (b c : Addr) : Prop := ∃ (cells : List Int) (L : List V), H b = some (.lst L) ∧ c ≠ b ∧ H c = some (.lst (cells.map V.int)) ∧ BagL c cells.length L
/-- the bag has gone on, nothing else -/
def Gone (K : PySem.W.Frag) (H : Hp) (b c : Addr) (H' : Hp) : Prop := But [b] H H' ∧ BagAt K H' b c
def spPull (K : PySem.W.Frag) : Sp := fun vs H Q _ => ∃ (b c : Addr) (n : Int), vs = [.ref b, .int n] ∧ BagAt K H b c ∧ 0 < n ∧ n < 1073741824 ∧
  ∀ (H' : Hp) (r : Int), Gone K H b c H' → 0 ≤ r → r < n → Q (.int r) H'
theorem BagAt.but {K : PySem.W.Frag} {H H' : Hp} {b c : Addr} {M : List Addr} (h : BagAt K H b c) (d : But M H H') (n1 : b ∉ M) (n2 : c ∉ M) : BagAt K H' b c := by
  obtain ⟨cells, L, h1, h2, h3, h4⟩ := h
  exact ⟨cells, L, d.keep b _ h1 n1, h2, d.keep c _ h3 n2, h4⟩
theorem BagAt.nec {K : PySem.W.Frag} {H : Hp} {b c p : Addr} (h : BagAt K H b c) (n : H p = none) : p ≠ b ∧ p ≠ c := by
  obtain ⟨cells, L, h1, _, h3, _⟩ := h
  exact ⟨fun z => (by rw [z, h1] at n; cases n), fun z => (by rw [z, h3] at n; cases n)⟩
theorem BagAt.nt {K : PySem.W.Frag} {H : Hp} {b c : Addr} (h : BagAt K H b c) : ∀ xs, ¬ Rd H b (.tup xs) := by
  obtain ⟨cells, L, h1, _⟩ := h
  exact nt_lst h1
theorem Gone.refl {K : PySem.W.Frag} {H : Hp} {b c : Addr} (h : BagAt K H b c) : Gone K H b c H := ⟨But.refl.mono (fun _ z => absurd z (by simp)) fun x hx => by
  rw [show x = b by simpa using hx]; exact h.nt, h⟩
theorem Gone.trans {K : PySem.W.Frag} {H H1 H2 : Hp} {b c : Addr} (g : Gone K H b c H1) (h : Gone K H1 b c H2) : Gone K H b c H2 := ⟨g.1.trans h.1, h.2⟩
theorem Gone.step {K : PySem.W.Frag} {H H1 H2 : Hp} {b c : Addr} (g : Gone K H b c H1) (h : But [] H1 H2) : Gone K H b c H2 := ⟨g.1.step h, g.2.but h (by simp) (by simp)⟩
theorem Gone.new {K : PySem.W.Frag} {H H1 : Hp} {b c p : Addr} {o : HO} (g : Gone K H b c H1) (h : H1 p = none) : Gone K H b c (upd H1 p o) := g.step (But.refl.new h)
/-- changes at young places -/
theorem Gone.thn {K : PySem.W.Frag} {H H1 H2 : Hp} {b c : Addr} {M : List Addr} (g : Gone K H b c H1) (h : But M H1 H2) (hb : BagAt K H b c) (n : ∀ x ∈ M, H x = none) : Gone K H b c H2 :=
  ⟨g.1.thn h fun x hx => .inr (n x hx), g.2.but h (fun z => (hb.nec (n b z)).1 rfl) fun z => (hb.nec (n c z)).2 rfl⟩
theorem sq_upd {K : PySem.W.Frag} {H : Hp} {a b : Addr} {xs : List V} {o : HO} (h : SqL K H a xs) (n : a ≠ b) : SqL K (upd H b o) a xs := by
  rcases h with (h | ⟨u, h⟩) | h
  · exact .inl (.inl (by rw [upd_ne n]; exact h))
  · exact .inl (.inr ⟨u, by rw [upd_ne n]; exact h⟩)
  · exact .inr h
theorem BagAt.go {K : PySem.W.Frag} {H : Hp} {b c : Addr} {cells : List Int} {L L0 : List V} (h0 : H b = some (.lst L0)) (n : c ≠ b) (h : H c = some (.lst (cells.map V.int))) (l : BagL c cells.length L) : Gone K H b c (upd H b (.lst L)) :=
  ⟨But.one (nt_lst h0), cells, L, upd_same, n, (upd_ne n).trans h, l⟩
theorem upd_self {H : Hp} {a : Addr} {o : HO} (h : H a = some o) : upd H a o = H := by
  funext b
  by_cases e : b = a
  · rw [e, upd_same, h]
  · rw [upd_ne e]
theorem ints_at {cells : List Int} {i : Int} (h0 : 0 ≤ i) (h1 : i < (cells.length : Int)) : ∃ z, atI (cells.map V.int) i = some (.int z) := by
  obtain ⟨j, rfl⟩ : ∃ j : Nat, i = (j : Int) := ⟨i.toNat, by omega⟩
  have hj : j < cells.length := by omega
  exact ⟨cells[j], atI_nat (by rw [List.getElem?_map, List.getElem?_eq_getElem hj]; rfl)⟩
abbrev n_law_pull : List Str := ["_law_bag_here", "_law_sides", "_law_cell", "_law_got", "_law_seed"]
theorem sc_law_pull : FnScope n_law_pull ["_law_bag_here", "_law_sides"] d_law_pull.scope := C8.fnScope_by (by decide +kernel)
theorem cal_pull {P : Program} {w : World} {K : PySem.W.Frag} {mg : Str → Option Value} {base : Heap} (C : Cn w K mg)  : Cal P w K mg base CX0 1 "_law_pull" (spPull K) := by
  refine C.cal 35 35 d_law_pull sc_law_pull (fun _ _ _ _ _ _ us hl => match us, hl with | [_, _], _ => rfl) (fun vs H Q E h => ?_) (fun f cdv A outer s H vs Q E hr h => ?_)
  · obtain ⟨b, c, n, rfl, _⟩ := h
    rfl
  have nd := sc_law_pull.nd
  refine ⟨_, PSs.nox (C8.pss_cut (ps_if (PW.pt (pw_and (pt_cmpR op_eq (pe_ix ix_list (pv 0) pe_int (fun _ _ => rfl)) pe_int (nomark _)) (pw_and1 (pt_cmpR op_lt (pe_ix ix_list (pv 0) pe_int (fun _ _ => rfl)) (pe_callB call_len_seq (by rfl) (C.free 67) (by decide +kernel) (pa_cons (pe_ix ix_list (pv 0) pe_int (fun _ _ => rfl)) pa_nil)) (nomark _))))) (pss_cons (ps_set (i := 2) nd rfl (by first | exact Or.inl rfl | exact Or.inr rfl) (pe_ix ix_list (pe_ix ix_list (pv 0) pe_int (fun _ _ => rfl)) (pe_ix ix_list (pv 0) pe_int (fun _ _ => rfl)) (fun _ _ => rfl))) (pss_cons (ps_asg (pe_op op_add (pe_ix ix_list (pv 0) pe_int (fun _ _ => rfl)) pe_int) (pg_sub (pv 0) pe_int set_list)) (pss_one (ps_if (pt_cmpR op_ge (pv 2) (pe_op op_pow pe_int pe_int) (nomark _)) (pss_one (ps_asg (pv 2) (pg_sub (pv 0) pe_int set_list))) (pss_one (ps_asg (pe_op op_mod (pe_op op_add (pe_op op_add (pe_op op_mul (pe_ix ix_list (pv 0) pe_int (fun _ _ => rfl)) pe_int) (pe_op op_mul (pe_op op_mod (pv 2) pe_int) pe_int)) pe_int) pe_int) (pg_sub (pv 0) pe_int set_list))))))) pss_nil) (pss_cons (ps_if (pt_cmpR op_gt (pe_ix ix_list (pv 0) pe_int (fun _ _ => rfl)) pe_int (nomark _)) (pss_cons (ps_set (i := 3) nd rfl (by first | exact Or.inl rfl | exact Or.inr rfl) (pe_op op_mod (pe_ix ix_list (pv 0) pe_int (fun _ _ => rfl)) (pv 1))) (pss_cons (ps_asg (pe_op op_fdiv (pe_ix ix_list (pv 0) pe_int (fun _ _ => rfl)) (pv 1)) (pg_sub (pv 0) pe_int set_list)) (pss_one (ps_ret (pv 3))))) pss_nil) (pss_cons (ps_set (i := 4) nd rfl (by first | exact Or.inl rfl | exact Or.inr rfl) (pe_ix ix_list (pv 0) pe_int (fun _ _ => rfl))) (pss_cons (ps_asg (pe_op op_add (pe_ix ix_list (pv 0) pe_int (fun _ _ => rfl)) pe_int) (pg_sub (pv 0) pe_int set_list)) (pss_cons (ps_asg (pe_op op_mod (pe_op op_add (pe_op op_add (pe_op op_pow (pv 4) pe_int) (pe_op op_mul pe_int (pv 4))) (pe_op op_mul pe_int (pe_ix ix_list (pv 0) pe_int (fun _ _ => rfl)))) pe_int) (pg_sub (pv 0) pe_int set_list)) (pss_one (ps_ret (pe_op op_mod (pe_op op_add (pe_op op_fdiv (pe_ix ix_list (pv 0) pe_int (fun _ _ => rfl)) pe_int) (pe_op op_mul (pe_op op_mod (pe_ix ix_list (pv 0) pe_int (fun _ _ => rfl)) pe_int) pe_int)) (pv 1))))))))), ?_⟩
  obtain ⟨b, c, n, rfl, ⟨cells, L, hb, ncb, hc0, i, big, seed, cnt, rfl, i0, i1, g0, s0, s1⟩, n0, n1, k⟩ := h
  have hc : SqL K H c (cells.map V.int) := SqL.of hc0
  have he : upd H b (.lst (bagV c i big seed cnt)) = H := upd_self hb
  refine ⟨fun σ' H' => ∃ (L : List V) (cl : Option V), σ' = [some (.ref b), some (.int n), cl, none, none] ∧ H' = upd H b (.lst L) ∧ BagL c cells.length L, ?_, ?_⟩
  · refine ⟨_, rfl, b, _, _, _, rfl, rfl, SqL.of hb, rfl, rfl, _, rfl, ?_⟩
    refine ite2 (fun e1 => ?_) (fun _ => iteF ⟨_, none, rfl, he.symm, i, big, seed, cnt, rfl, i0, i1, g0, s0, s1⟩)
    refine ⟨_, rfl, b, _, _, _, rfl, rfl, SqL.of hb, rfl, _, rfl, b, _, _, _, rfl, rfl, SqL.of hb, rfl, c, _, rfl, .inl hc, _, _, rfl, rfl, _, rfl, ?_⟩
    refine ite2 (fun e2 => ?_) (fun _ => ⟨_, none, rfl, he.symm, i, big, seed, cnt, rfl, i0, i1, g0, s0, s1⟩)
    have e2' : i < (cells.length : Int) := by
      have q := of_decide_eq_true e2
      rw [List.length_map] at q
      exact q
    obtain ⟨z, hz⟩ := ints_at i0 e2'
    refine ⟨_, rfl, b, _, _, _, rfl, rfl, SqL.of hb, rfl, _, rfl, b, _, _, _, rfl, rfl, SqL.of hb, rfl, c, _, _, _, rfl, rfl, hc, hz, ?_⟩
    refine ⟨_, rfl, b, _, _, _, rfl, rfl, SqL.of hb, rfl, _, _, rfl, rfl, _, rfl, b, _, _, 1, rfl, rfl, hb, rfl, ?_⟩
    refine ⟨_, rfl, _, _, rfl, rfl, ⟨by decide, by decide, by decide⟩, _, _, rfl, rfl, _, rfl, ?_⟩
    refine ite2 (fun e3 => ?_) (fun _ => ?_)
    · refine ⟨_, rfl, _, rfl, b, _, _, 2, rfl, rfl, upd_same, rfl, ?_⟩
      refine ⟨_, _, rfl, upd_upd, i + 1, z, seed, cnt, rfl, by omega, by omega, ?_, s0, s1⟩
      have q : (10 : Int) ^ (Int.toNat 18) ≤ z := of_decide_eq_true e3
      exact Int.le_trans (by decide) q
    · refine ⟨_, rfl, b, _, _, _, rfl, rfl, SqL.of upd_same, rfl, _, _, rfl, rfl, .inr ⟨by decide, by decide⟩, _, rfl, _, _, rfl, rfl, (by decide : (0 : Int) < 2147483629), _, _, rfl, rfl, .inr ⟨by decide, by decide⟩, _, _, rfl, rfl, _, _, rfl, rfl, _, _, rfl, rfl, (by decide : (0 : Int) < 2147483647), _, rfl, b, _, _, 3, rfl, rfl, upd_same, rfl, ?_⟩
      refine ⟨_, _, rfl, upd_upd, i + 1, big, _, cnt, rfl, by omega, by omega, g0, Int.emod_nonneg _ (by decide), Int.emod_lt_of_pos _ (by decide)⟩
  rintro σ' H' ⟨L, cl, rfl, rfl, i, big, seed, cnt, rfl, i0, i1, g0, s0, s1⟩
  refine ⟨_, rfl, b, _, _, _, rfl, rfl, SqL.of upd_same, rfl, _, _, rfl, rfl, _, rfl, ?_⟩
  refine ite2 (fun e => ?_) (fun _ => ?_)
  · refine ⟨_, rfl, b, _, _, _, rfl, rfl, SqL.of upd_same, rfl, _, rfl, _, _, rfl, rfl, n0, ?_⟩
    refine ⟨_, rfl, b, _, _, _, rfl, rfl, SqL.of upd_same, rfl, _, rfl, _, _, rfl, rfl, ⟨n0, n1⟩, _, rfl, b, _, _, 2, rfl, rfl, upd_same, rfl, _, rfl, ?_⟩
    rw [upd_upd]
    exact k _ _ (BagAt.go hb ncb hc0 ⟨i, _, seed, cnt, rfl, i0, i1, Int.ediv_nonneg g0 (Int.le_of_lt n0), s0, s1⟩) (Int.emod_nonneg _ (Int.ne_of_gt n0)) (Int.emod_lt_of_pos _ n0)
  · refine ⟨_, rfl, b, _, _, _, rfl, rfl, SqL.of upd_same, rfl, ?_⟩
    refine ⟨_, rfl, b, _, _, _, rfl, rfl, SqL.of upd_same, rfl, _, _, rfl, rfl, _, rfl, b, _, _, 4, rfl, rfl, upd_same, rfl, ?_⟩
    refine ⟨_, rfl, _, _, rfl, rfl, ⟨by decide, by decide, by omega⟩, _, rfl, _, _, rfl, rfl, .inl ⟨by decide, by decide⟩, _, _, rfl, rfl, _, rfl, b, _, _, _, rfl, rfl, SqL.of upd_same, rfl, _, _, rfl, rfl, .inl ⟨by decide, by decide⟩, _, _, rfl, rfl, _, _, rfl, rfl, (by decide : (0 : Int) < 2147483647), _, rfl, b, _, _, 3, rfl, rfl, upd_same, rfl, ?_⟩
    refine ⟨_, rfl, b, _, _, _, rfl, rfl, SqL.of upd_same, rfl, _, _, rfl, rfl, ⟨by decide, by decide⟩, _, rfl, b, _, _, _, rfl, rfl, SqL.of upd_same, rfl, _, _, rfl, rfl, (by decide : (0 : Int) < 8191), _, _, rfl, rfl, .inr ⟨by decide, by decide⟩, _, _, rfl, rfl, _, rfl, _, _, rfl, rfl, n0, ?_⟩
    rw [upd_upd, upd_upd]
    exact k _ _ (BagAt.go hb ncb hc0 ⟨i, big, _, _, rfl, i0, i1, g0, Int.emod_nonneg _ (by decide), Int.emod_lt_of_pos _ (by decide)⟩) (Int.emod_nonneg _ (Int.ne_of_gt n0)) (Int.emod_lt_of_pos _ n0)
end Bu
set_option Elab.async false
set_option linter.all false
set_option maxRecDepth 100000
set_option maxHeartbeats 4000000
/-! Data: shapes, equality. -/
namespace Bu
open PySem PySem.Spec PyProof.Rows L2
/-- ways joined behind a test, an expression -/
def tCutT (t : TT) : TT := fun σ H Q => ∃ Mid : Bool → Hp → Prop, t σ H Mid ∧ ∀ b H', Mid b H' → Q b H'
theorem pt_cut {X : Cx} {e : Expr} {t : TT} (h : PT X e t) : PT X e (tCutT t) := ⟨fun pins s σ H Q I ⟨Mid, q, k⟩ => wpAny_mono (h.run pins s σ H Mid I q) (fun b s' ⟨H', I', m⟩ => ⟨H', I', k b H' m⟩) fun _ _ z => z⟩
def tCutE (t : TE) : TE := fun σ H Q => ∃ Mid : VK, t σ H Mid ∧ ∀ v H', Mid v H' → Q v H'
theorem pe_cut {X : Cx} {e : Expr} {t : TE} (h : PE X e t) : PE X e (tCutE t) := ⟨fun pins s σ H Q I ⟨Mid, q, k⟩ => wpAny_mono (h.run pins s σ H Mid I q) (fun u s' ⟨v, H', I', r, m⟩ => ⟨v, H', I', r, k v H' m⟩) fun _ _ z => z⟩
theorem sqL_new {K : PySem.W.Frag} {H : Hp} {a p : Addr} {xs : List V} {o : HO} (h : SqL K H a xs) (np : H p = none) : SqL K (upd H p o) a xs := (But.refl.new np).sqL h (by simp)
theorem sqT_new {K : PySem.W.Frag} {H : Hp} {a p : Addr} {xs : List V} {o : HO} (h : SqT K H a xs) (np : H p = none) : SqT K (upd H p o) a xs := (But.refl.new np).sqT h
theorem hu70 {k : Nat} {A : Around} (r : Room k A) : A.units + 70 < cLine := by have := r.un; omega
theorem lay_ints : ∀ ns : List Int, PyData.canLayAll0 (ns.map PyData.int) = true
  | [] => rfl
  | n :: r => by
    show (PyData.canLay0 (.int n) && PyData.canLayAll0 (r.map PyData.int)) = true
    rw [lay_ints r]; rfl
theorem depth_ints : ∀ ns : List Int, PyData.depthAll (ns.map PyData.int) = 0
  | [] => rfl
  | n :: r => by
    show max (PyData.depth (.int n)) (PyData.depthAll (r.map PyData.int)) = 0
    rw [depth_ints r]; rfl
theorem lay_all {α : Type} (f : α → PyData) : ∀ xs : List α, (∀ x ∈ xs, PyData.canLay0 (f x) = true) → PyData.canLayAll0 (xs.map f) = true
  | [], _ => rfl
  | x :: r, h => by
    show (PyData.canLay0 (f x) && PyData.canLayAll0 (r.map f)) = true
    rw [h x (by simp), lay_all f r fun y hy => h y (by simp [hy])]; rfl
theorem depth_all {α : Type} (f : α → PyData) (n : Nat) : ∀ xs : List α, (∀ x ∈ xs, PyData.depth (f x) ≤ n) → PyData.depthAll (xs.map f) ≤ n
  | [], _ => Nat.zero_le _
  | x :: r, h => by
    show max (PyData.depth (f x)) (PyData.depthAll (r.map f)) ≤ n
    exact Nat.max_le.mpr ⟨h x (by simp), depth_all f n r fun y hy => h y (by simp [hy])⟩
theorem shp {d : PyData} {n : Nat} (h1 : d.canLay0 = true) (h2 : d.depth ≤ n) (h3 : n ≤ 64 := by decide) : SeqAt.shaped d = true := by
  unfold SeqAt.shaped
  rw [h1, decide_eq_true (Nat.le_trans h2 h3)]; rfl
theorem shp_ints (ns : List Int) : SeqAt.shaped (.list (ns.map .int)) = true := shp (n := 1) (lay_ints ns) (by show PyData.depthAll _ + 1 ≤ 1; rw [depth_ints]; exact Nat.le_refl _)
theorem eqv_nilL (ds : List PyData) : PyData.eqv (.list ds) (.list []) = ds.isEmpty := by
  cases ds <;> simp [PyData.eqv, PyData.eqvAll]
theorem eqv_nilT (ds : List PyData) : PyData.eqv (.tuple ds) (.tuple []) = ds.isEmpty := by
  cases ds <;> simp [PyData.eqv, PyData.eqvAll]
end Bu
set_option Elab.async false
set_option linter.all false
set_option maxRecDepth 100000
set_option maxHeartbeats 4000000
/-! sorted of data; of a dict whose keys are pairs of ints. -/
namespace Bu
open PySem PySem.Spec PyProof.Rows L2
theorem vals_perm {us vs' : List Value} (h : vs'.Perm us) : ∀ {vs : List V}, Vals vs us → ∃ ys : List V, ys.Perm vs ∧ Vals ys vs' := by
  induction h with
  | nil => intro vs r; exact ⟨vs, List.Perm.refl _, r⟩
  | @cons x l1 l2 _ ih =>
    intro vs r
    cases r with
    | @cons v _ rest _ rv rr =>
      obtain ⟨ys, p, q⟩ := ih rr
      exact ⟨v :: ys, List.Perm.cons _ p, .cons rv q⟩
  | @swap x y l =>
    intro vs r
    cases r with
    | @cons v1 _ _ _ r1 rr =>
      cases rr with
      | @cons v2 _ rest _ r2 rr => exact ⟨v2 :: v1 :: rest, List.Perm.swap .., .cons r2 (.cons r1 rr)⟩
  | trans _ _ ih1 ih2 =>
    intro vs r
    obtain ⟨y1, p1, q1⟩ := ih2 r
    obtain ⟨y2, p2, q2⟩ := ih1 q1
    exact ⟨y2, p2.trans p1, q2⟩
theorem each_eq : ∀ {l : List Value} {m : List (Value × PyData)}, PySem.W.EachIs (fun (v : Value) (b : Value × PyData) => v = b.1) l m → l = m.map (·.1)
  | _, _, .nil => rfl
  | _, _, .cons h t => by rw [List.map_cons, ← each_eq t, h]
theorem each_zip {P : Value → PyData → Prop} : ∀ {us : List Value} {ds : List PyData}, us.length = ds.length → (∀ (i : Nat) u d, us[i]? = some u → ds[i]? = some d → P u d) →
    PySem.W.EachIs (fun (v : Value) (b : Value × PyData) => v = b.1) us (us.zip ds) ∧ PySem.W.EachIs (fun (v : Value) (b : Value × PyData) => P v b.2) us (us.zip ds)
  | [], [], _, _ => ⟨.nil, .nil⟩
  | u :: us, d :: ds, hl, h => by
    obtain ⟨h1, h2⟩ := each_zip (P := P) (us := us) (ds := ds) (by simpa using hl) fun i x y e1 e2 => h (i + 1) x y (by simpa using e1) (by simpa using e2)
    exact ⟨.cons rfl h1, .cons (h 0 u d rfl rfl) h2⟩
  | [], _ :: _, hl, _ => by simp at hl
  | _ :: _, [], hl, _ => by simp at hl
theorem zip_snd : ∀ {us : List Value} {ds : List PyData}, us.length = ds.length → (us.zip ds).map (·.2) = ds
  | [], [], _ => rfl
  | u :: us, d :: ds, h => by rw [List.zip_cons_cons, List.map_cons, zip_snd (by simpa using h)]
  | [], _ :: _, hl => by simp at hl
  | _ :: _, [], hl => by simp at hl
theorem zip_fst : ∀ {us : List Value} {ds : List PyData}, us.length = ds.length → (us.zip ds).map (·.1) = us
  | [], [], _ => rfl
  | u :: us, d :: ds, h => by rw [List.zip_cons_cons, List.map_cons, zip_fst (by simpa using h)]
  | [], _ :: _, hl => by simp at hl
  | _ :: _, [], hl => by simp at hl
section
variable {X : Cx}
/-- sorted(xs), items of data all of one kind: some arrangement -/
theorem call_sortedDa (hu : X.A.units + 70 < cLine) : CallR X (.builtin "sorted") (fun xs H Q => ∃ (a : Addr) (vs : List V) (ds : List PyData), xs = [.ref a] ∧ SqL X.K H a vs ∧ DpAll X.K H vs ds ∧ PySem.W.AllAlike ds ∧ PySem.W.Sortable ds ∧ (∀ d ∈ ds, d.depth ≤ 64) ∧
    ∀ (ys : List V) (p : Addr), ys.Perm vs → H p = none → Q (.ref p) (upd H p (.lst ys))) := by
  intro pins s σ H xs us Q I r h
  obtain ⟨a, vs, ds, rfl, hs, hd, hal, hso, hdp, q⟩ := h
  obtain ⟨its, rv, hl, hz⟩ := I.list hs
  rw [Vals.ref1 r]
  have l1 : its.length = ds.length := by rw [← rv.length]; exact dpa_length hd
  obtain ⟨e1, e2⟩ := each_zip (P := fun u d => ∃ as, Reads s.heap u d as) l1 fun i u d h1 h2 => by
    obtain ⟨v, hv, rvu⟩ : ∃ v, vs[i]? = some v ∧ RelV v u := by
      have hi : i < its.length := (List.getElem?_eq_some_iff.mp h1).1
      have hv : i < vs.length := by rw [rv.length]; exact hi
      obtain ⟨u', hu', r'⟩ := rv.get (List.getElem?_eq_getElem hv)
      rw [h1] at hu'; cases hu'
      exact ⟨_, List.getElem?_eq_getElem hv, r'⟩
    obtain ⟨d', hd', dp⟩ := dpa_get hd hv
    rw [h2] at hd'; cases hd'
    exact Dp.reads I d v u dp rvu
  refine PySem.W.sorted_data (bs := its.zip ds) (enc := fun b => b.2) hl.isList e1 e2 (by rw [zip_snd l1]; exact hal) (by rw [zip_snd l1]; exact hso) (by rw [List.length_zip, ← l1, Nat.min_self, ← rv.length]; exact hz) (fun b hb => ?_) fun out ho eo => ?_
  · have hb2 : b.2 ∈ ds := by
      rw [← zip_snd l1]; exact List.mem_map.mpr ⟨b, hb, rfl⟩
    have := hdp _ hb2
    omega
  · have hp : out.Perm its := by
      rw [each_eq eo]
      have z := (List.mergeSort_perm (its.zip ds) (PySem.W.dataLe false fun b : Value × PyData => b.2)).map (fun b => b.1)
      rw [zip_fst l1] at z
      exact z
    obtain ⟨ys, py, ry⟩ := vals_perm hp rv
    obtain ⟨ep, he'⟩ := PyProof.Rows.sortedAll_at s.heap its (List.toArray out)
    have hlen : ys.length ≤ sizeLine := by rw [py.length_eq]; exact hz
    exact ⟨.ref _, upd H (s.heap.objs.size + 1) (.lst ys), I.laid (t' := s.toks) (fun _ _ => PyProof.Rows.sortedAll_old) (Nat.le_succ _) ⟨hlen, out, ep, ry, he'⟩, rfl, q ys _ py (I.hok.fresh (Nat.le_succ _))⟩
/-- sorted(d), the keys pairs of ints: some arrangement -/
theorem call_sortedDT (hcalm : X.calm = true) (hu : X.A.units + 70 < cLine) : CallR X (.builtin "sorted") (fun xs H Q => ∃ (d : Addr) (kvs : List (List Key × V)), xs = [.ref d] ∧ Rd H d (.dT kvs) ∧ (∀ p ∈ kvs, ∃ i j : Int, p.1 = [.inl i, .inl j]) ∧
    ∀ (bs : List Addr) (p : Addr), bs.length = kvs.length → (∀ b ∈ bs, ∃ e ∈ kvs, H b = some (.tup (e.1.map kV))) → H p = none → Q (.ref p) (upd H p (.lst (bs.map V.ref)))) := by
  intro pins s σ H xs us Q I r h
  obtain ⟨d, kvs, rfl, hd, hii, q⟩ := h
  obtain ⟨u, rfl, rx⟩ := vals1 r
  cases rx
  obtain ⟨z, hs, ks, pr, o, es, ep, ho, hx, hdt, he, hn⟩ := (show ObjOk X.prog X.w H s.heap d (.dT kvs) from hd.ok I.hok)
  have l1 : es.size = ks.length := size_of_entries he
  have l2 : kvs.length = ks.length := Paired.length pr
  refine Calls.call_function_entry PyProof.Rows.kind_sorted PyProof.Rows.plain_sorted PyProof.Rows.entry_sorted (PyProof.Rows.args_sorted1 _) ?_
  unfold Builtin.«sorted»
  refine wpAny_bind (m := checkCount "sorted" 1 1 _) (wpAny_pure ?_)
  refine wpAny_bind (PySem.W.kdu_collect (A := X.A.in1) (kdl_raw hs hx hdt) (I.ok.hd hcalm) ho (by omega) fun h' tk acc' kp it => ?_)
  have ea : acc'.toList = (ks.map fun x => x.2.1).map Value.ref := by
    have hl : acc'.toList.length = ks.length := by rw [Array.length_toList, it.1]; exact l1
    apply List.ext_getElem?
    intro j
    rw [List.map_map, List.getElem?_map]
    cases hj : acc'.toList[j]? with
    | none => rw [List.getElem?_eq_none (by have h1 := List.getElem?_eq_none_iff.mp hj; omega)]; rfl
    | some v =>
      obtain ⟨en, hen, hv⟩ := it.2 j v (by rw [← Array.getElem?_toList]; exact hj)
      have qe := entry_at he j
      rw [hen] at qe
      cases hb : ks[j]? with
      | none => rw [hb] at qe; exact nomatch (show some en = none from qe)
      | some b =>
        rw [hb] at qe
        have e2 : en = entryOfKey (tupleKind (mixKind X.prog X.w)) b := Option.some.inj qe
        rw [hv, e2]; rfl
  have I1 : Inv X pins σ H { s with heap := h', toks := tk } := I.kept kp
  have hk := isKeys_of pr
  generalize hbs : (ks.map fun x => x.2.1) = bs at ea hk
  have lb : bs.length = kvs.length := by rw [← hbs, List.length_map, l2]
  have hla : acc'.toList.length = bs.length := by rw [ea, List.length_map]
  refine wpAny_bind (wpAny_newList ?_ (by rw [hla, lb]; exact z))
  have hoL : (h'.push (seqObj "list" acc'.toList.toArray 0)).get? h'.objs.size = some (seqObj "list" acc'.toList.toArray 0) := Heap.get?_push_size _ rfl
  show wpAny _ _ _ _ _ { s with heap := h'.push (seqObj "list" acc'.toList.toArray 0), toks := tk }
  -- the keys as data
  have key : ∀ b ∈ bs, ∃ e ∈ kvs, H b = some (.tup (e.1.map kV)) := by
    have aux : ∀ {kvs : List (List Key × V)} {bs : List Addr}, IsKeys H kvs bs → ∀ b ∈ bs, ∃ e ∈ kvs, H b = some (.tup (e.1.map kV)) := by
      intro kvs bs h
      induction h with
      | nil => intro b hb; cases hb
      | cons h1 _ ih =>
        intro b hb
        rcases List.mem_cons.mp hb with rfl | hb
        · exact ⟨_, List.mem_cons_self, h1⟩
        · obtain ⟨e, he, q⟩ := ih b hb
          exact ⟨e, List.mem_cons_of_mem _ he, q⟩
    exact aux hk
  have dat : ∀ b ∈ bs, ∃ i j : Int, Reads (h'.push (seqObj "list" acc'.toList.toArray 0)) (.ref b) (.tuple [.int i, .int j]) [] := fun b hb => by
    obtain ⟨e, hme, hbt⟩ := key b hb
    obtain ⟨i, j, ei⟩ := hii e hme
    rw [ei] at hbt
    obtain ⟨_, its, rv, ob, hob, hc, n, hdd⟩ := (show ObjOk X.prog X.w H h' b (.tup [.int i, .int j]) from I1.hok b _ hbt)
    cases rv with
    | @cons _ u1 _ r1 q1 rr =>
      cases rr with
      | @cons _ u2 _ r2 q2 rr =>
        cases rr
        obtain ⟨t1, rfl⟩ := q1
        obtain ⟨t2, rfl⟩ := q2
        exact ⟨i, j, .tuple (as := []) (Heap.get?_push_of_some _ hob) hc hdd (.cons (as := []) (bs := []) (.int _ _) (.cons (as := []) (bs := []) (.int _ _) .nil))⟩
  obtain ⟨ds, hds, hrd⟩ : ∃ ds : List PyData, bs.length = ds.length ∧ ∀ (i : Nat) u d, (bs.map Value.ref)[i]? = some u → ds[i]? = some d → (∃ as, Reads (h'.push (seqObj "list" acc'.toList.toArray 0)) u d as ∧ h'.objs.size ∉ as) ∧ ∃ x y : Int, d = .tuple [.int x, .int y] := by
    have aux : ∀ bs : List Addr, (∀ b ∈ bs, ∃ i j : Int, Reads (h'.push (seqObj "list" acc'.toList.toArray 0)) (.ref b) (.tuple [.int i, .int j]) []) → ∃ ds : List PyData, bs.length = ds.length ∧ ∀ (i : Nat) u d, (bs.map Value.ref)[i]? = some u → ds[i]? = some d → (∃ as, Reads (h'.push (seqObj "list" acc'.toList.toArray 0)) u d as ∧ h'.objs.size ∉ as) ∧ ∃ x y : Int, d = .tuple [.int x, .int y] := by
     intro bs dat
     induction bs with
     | nil => exact ⟨[], rfl, fun i u d h => by simp at h⟩
     | cons b r ih =>
       obtain ⟨ds, h1, h2⟩ := ih fun x hx => dat x (List.mem_cons_of_mem _ hx)
       obtain ⟨i0, j0, r0⟩ := dat b List.mem_cons_self
       refine ⟨.tuple [.int i0, .int j0] :: ds, by simp [h1], fun i u d e1 e2 => ?_⟩
       cases i with
       | zero =>
         simp at e1 e2
         subst e1 e2
         exact ⟨⟨[], r0, by simp⟩, i0, j0, rfl⟩
       | succ i => exact h2 i u d (by simpa using e1) (by simpa using e2)
    exact aux bs dat
  have l3 : (bs.map Value.ref).length = ds.length := by rw [List.length_map]; exact hds
  obtain ⟨e1, e2⟩ := each_zip (P := fun u d => ∃ as, Reads (h'.push (seqObj "list" acc'.toList.toArray 0)) u d as ∧ h'.objs.size ∉ as) l3 fun i u d h1 h2 => (hrd i u d h1 h2).1
  have dform : ∀ d ∈ ds, ∃ x y : Int, d = .tuple [.int x, .int y] := fun d hd => by
    obtain ⟨i, hi, e⟩ := List.getElem_of_mem hd
    have hi' : i < (bs.map Value.ref).length := by rw [l3]; exact hi
    exact (hrd i _ d (List.getElem?_eq_getElem hi') (by rw [List.getElem?_eq_getElem hi, e])).2
  have nb : ∀ {b : Addr} {u : Obj}, h'.get? b = some u → b < h'.objs.size := fun e => Heap.lt_size e
  refine wpAny_bind (wpAny_holding (PySem.W.list_sort_data (s := { s with heap := h'.push (seqObj "list" acc'.toList.toArray 0), toks := tk }) (bs := (bs.map Value.ref).zip ds) (enc := fun b => b.2) hoL ((congrArg (fun l => PySem.W.EachIs _ l _) ea).mpr e1) ((congrArg (fun l => PySem.W.EachIs _ l _) ea).mpr e2) ?_ ?_ ?_ (fun b hb => ?_) fun out hlo eo => ?_))
  · rw [zip_snd l3]
    intro d1 h1 d2 h2
    obtain ⟨x, y, rfl⟩ := dform d1 h1
    obtain ⟨x', y', rfl⟩ := dform d2 h2
    simp [PySem.W.alike, PySem.W.alikeAll]
  · rw [zip_snd l3]
    exact .inl fun d hd => by
      obtain ⟨x, y, rfl⟩ := dform d hd
      exact ⟨_, _, rfl⟩
  · rw [List.length_zip, ← l3, Nat.min_self, List.length_map, lb]; exact z
  · have hb2 : b.2 ∈ ds := by
      rw [← zip_snd l3]; exact List.mem_map.mpr ⟨b, hb, rfl⟩
    obtain ⟨x, y, e⟩ := dform _ hb2
    have e3 : b.2.depth = 1 := by rw [e]; rfl
    show X.A.in1.units + 1 + b.2.depth < cLine
    rw [e3]
    show X.A.units + 1 + 1 + 1 < cLine
    omega
  · have hp : out.Perm (bs.map Value.ref) := by
      rw [each_eq eo]
      have z := (List.mergeSort_perm ((bs.map Value.ref).zip ds) (PySem.W.dataLe false fun b : Value × PyData => b.2)).map (fun b => b.1)
      rw [zip_fst l3] at z
      exact z
    obtain ⟨ys, py, ry⟩ := vals_perm hp (vals_refs bs)
    obtain ⟨cs, hcs, hpc⟩ : ∃ cs : List Addr, ys = cs.map V.ref ∧ cs.Perm bs := by
      have aux : ∀ {l : List V}, (∀ v ∈ l, ∃ a, v = V.ref a) → ∃ cs : List Addr, l = cs.map V.ref := by
        intro l
        induction l with
        | nil => intro _; exact ⟨[], rfl⟩
        | cons v r ih =>
          intro h
          obtain ⟨a, rfl⟩ := h v List.mem_cons_self
          obtain ⟨cs, rfl⟩ := ih fun x hx => h x (List.mem_cons_of_mem _ hx)
          exact ⟨a :: cs, rfl⟩
      obtain ⟨cs, rfl⟩ := aux (l := ys) fun v hv => by
        obtain ⟨a, _, rfl⟩ := List.mem_map.mp (py.mem_iff.mp hv)
        exact ⟨a, rfl⟩
      have p2 := py.map (fun v => match v with | V.ref a => a | _ => 0)
      rw [List.map_map, List.map_map] at p2
      have e0 : ((fun v => match v with | V.ref a => a | _ => 0) ∘ V.ref) = (id : Addr → Addr) := rfl
      rw [e0, List.map_id, List.map_id] at p2
      exact ⟨cs, rfl, p2⟩
    subst hcs
    obtain ⟨e', he'⟩ := PyProof.Rows.sortedHeap_at (vs := acc'.toList) (out := List.toArray out) hoL
    have hlen : (cs.map V.ref).length ≤ sizeLine := by rw [List.length_map, hpc.length_eq, lb]; exact z
    refine wpAny_pure ⟨_, rfl, .ref h'.objs.size, upd H h'.objs.size (.lst (cs.map V.ref)), I1.laid (t' := tk) (fun b u e => ?_) (Nat.le_refl _) (show ObjOk X.prog X.w _ _ _ (.lst (cs.map V.ref)) from ⟨hlen, out, e', ry, he'⟩), rfl, q cs _ (by rw [hpc.length_eq, lb]) (fun b hb => key b (hpc.mem_iff.mp hb)) (I1.hok.fresh (Nat.le_refl _))⟩
    rw [PyProof.Rows.sortedHeap_old (Nat.ne_of_lt (nb e)) (by rw [size_push']; exact Nat.lt_succ_of_lt (nb e))]
    exact Heap.get?_push_of_some _ e
end
end Bu
set_option Elab.async false
set_option linter.all false
set_option maxRecDepth 100000
set_option maxHeartbeats 4000000
/-! The rules whose readings name the written part, as a block's context wants them: the part by its own name. -/
namespace Bu
open PySem PySem.Spec PyProof.Rows L2
section
variable {X : Cx} {K : PySem.W.Frag}
theorem v_op_catA (hK : X.K = K := by rfl) : OpR X (binaryOp .Add) (rCatA K) := by subst hK; exact op_catA
theorem v_ix_list (hK : X.K = K := by rfl) : IxR X (rIxL K) := by subst hK; exact ix_list
theorem v_ix_tup (hK : X.K = K := by rfl) : IxR X (rIxT K) := by subst hK; exact ix_tup
theorem v_sl_list (hK : X.K = K := by rfl) : SlR X (rSlL K) := by subst hK; exact sl_list
theorem v_sl_tupA (hK : X.K = K := by rfl) : SlR X (rSlA K) := by subst hK; exact sl_tupA
theorem v_op_in_seq (hK : X.K = K := by rfl) : OpR X (compareOp .In) (rIn K false) := by subst hK; exact op_in_seq
theorem v_op_notIn_seq (hK : X.K = K := by rfl) : OpR X (compareOp .NotIn) (rIn K true) := by subst hK; exact op_notIn_seq
theorem v_op_ltT (hu : X.A.units < cLine) (hK : X.K = K := by rfl) : OpR X (compareOp .Lt) (rLtT K) := by subst hK; exact op_ltT hu
theorem v_op_leT (hu : X.A.units < cLine) (hK : X.K = K := by rfl) : OpR X (compareOp .LtE) (rLeT K) := by subst hK; exact op_leT hu
theorem v_op_eqD (hu : X.A.units + 64 < cLine) (hK : X.K = K := by rfl) : OpR X (compareOp .Eq) (rEqD K) := by subst hK; exact op_eqD hu
theorem v_op_neD (hu : X.A.units + 64 < cLine) (hK : X.K = K := by rfl) : OpR X (compareOp .NotEq) (rNeD K) := by subst hK; exact op_neD hu
theorem v_call_len_seq (hK : X.K = K := by rfl) : CallR X (.builtin "len") (fun xs H Q => ∃ p ys, xs = [.ref p] ∧ (SqL K H p ys ∨ SqT K H p ys) ∧ Q (.int ys.length) H) := by subst hK; exact call_len_seq
theorem v_call_list_of (hK : X.K = K := by rfl) : CallR X (.type "list") (fun xs H Q => ∃ p ys, xs = [.ref p] ∧ (SqL K H p ys ∨ SqT K H p ys) ∧ ∀ l, H l = none → Q (.ref l) (upd H l (.lst ys))) := by subst hK; exact call_list_of
theorem v_call_tuple_of (hK : X.K = K := by rfl) : CallR X (.type "tuple") (fun xs H Q => ∃ p ys, xs = [.ref p] ∧ ((SqL K H p ys ∧ ∀ l, H l = none → Q (.ref l) (upd H l (.tup ys))) ∨ (SqT K H p ys ∧ Q (.ref p) H))) := by subst hK; exact call_tuple_of
theorem v_cr_all (hc : X.calm = true) (hK : X.K = K := by rfl) : CallR X (.builtin "all") (rAll K) := by subst hK; exact cr_all hc
theorem v_mt_index (hK : X.K = K := by rfl) : MtR X "list.index" (rIndex K) := by subst hK; exact mt_index
theorem v_pe_fld {e : Expr} {f : Str} {pos : Pos} {ta : TE} (he : PE X e ta) (hb : attributeBase e f X.env (eval e X.env) = eval e X.env) (hK : X.K = K := by rfl) : PE X (.Attribute e f pos) (tFld K ta f) := by subst hK; exact pe_fld he hb
theorem v_pg_tup {es : List Expr} {k : Nat} {t : TGs} {n : Nat} {pos : Pos} (hc : X.calm = true) (h : PGs X es t) (hK : X.K = K := by rfl)
    (hn : (assignEach es X.env).length = n := by rfl) (hst : (assignEach es X.env).findIdx? (·.1) = none := by rfl) : PG X (.Tuple es k pos) (gTup K n t) := by subst hK; exact pg_tup hc h hn hst
theorem v_pe_m {CX : CXT} {k j : Nat} {x m : Str} {sp : Sp} {o e : Expr} {es : List Expr} {ta : TE} {t : TA} {apos pos : Pos} (c : Met X.prog X.w X.K X.mg X.base CX0 k x m sp) (hr : Room j X.A) (ho : PE X o ta) (ha : PA X (e :: es) t) {pl : Sem Bool} (hK : X.K = K := by rfl) (hk : k ≤ j := by decide)
    (hst : starEach (e :: es) X.env = (false, eval e X.env) :: starEach es X.env := by rfl) (hpl : (backTo pos (starEach es X.env)).any (·.1) = false := by rfl)
    (ht : eval (.Call (.Attribute o m apos) (e :: es) [] pos) X.env = (do
      let ov ← eval o X.env; standAt apos.atName; let (f, first) ← holding [ov] (getMethod ov m pl); callWith pos f first (backTo pos (starEach (e :: es) X.env)) (backToKw pos (keywordEach [] X.env))) := by rfl) :
    PE X (.Call (.Attribute o m apos) (e :: es) [] pos) (tMeth (He.ga K x) m sp [] E0 ta t) := by subst hK; exact pe_m c hr ho ha hk hst hpl ht
theorem v_pe_m0 {CX : CXT} {k j : Nat} {x m : Str} {sp : Sp} {o : Expr} {ta : TE} {apos pos : Pos} (c : Met X.prog X.w X.K X.mg X.base CX0 k x m sp) (hr : Room j X.A) (ho : PE X o ta) {pl : Sem Bool} (hK : X.K = K := by rfl) (hk : k ≤ j := by decide)
    (ht : eval (.Call (.Attribute o m apos) [] [] pos) X.env = (do
      let ov ← eval o X.env; standAt apos.atName; let (f, first) ← holding [ov] (getMethod ov m pl); callWith pos f first (backTo pos (starEach [] X.env)) (backToKw pos (keywordEach [] X.env))) := by rfl) :
    PE X (.Call (.Attribute o m apos) [] [] pos) (tMeth (He.ga K x) m sp [] E0 ta tNil) := by subst hK; exact pe_m0 c hr ho hk ht
theorem v_pe_bm {name : Str} {T id : String} {r : V → List V → Hp → VK → Prop} {to : TE} {o e : Expr} {es : List Expr} {t : TA} {apos cpos : Pos} (pa : PlainAttrs T) (slot : Slot T name id) (hty : typeOf (.builtin id) = pure (.type "method_descriptor")) (hm : MtR X id r) (ho : PE X o to) (ha : PA X (e :: es) t) (hK : X.K = K := by rfl)
    (hbase : attributeBase o name X.env (eval o X.env) = eval o X.env := by rfl)
    (hfew : ((backTo cpos (starEach (e :: es) X.env)).all (fun x => !x.1) && (backToKw cpos (keywordEach [] X.env)).all (fun x => x.1.isSome)
      && decide ((e :: es).length + ([] : List Keyword).length + (if ([] : List Keyword).isEmpty then 0 else 1) < 30)) = true := by rfl)
    (hline : (apos.endLine == cpos.line) = true := by rfl) (hs : starEach (e :: es) X.env = (false, eval e X.env) :: starEach es X.env := by rfl) (hplain : (backTo cpos (starEach es X.env)).any (·.1) = false := by rfl) :
    PE X (.Call (.Attribute o name apos) (e :: es) [] cpos) (tBM K T r to t) := by subst hK; exact pe_bm pa slot hty hm ho ha hbase hfew hline hs hplain
end
end Bu
set_option Elab.async false
set_option linter.all false
set_option maxRecDepth 100000
set_option maxHeartbeats 4000000
namespace Bu
open PySem PySem.Spec PyProof.Rows L2
/-- a number is drawn -/
def NumOk (ns : List Int) (f n : Int) : Prop := n ∈ ns ∨ n = f ∨ (-1 ≤ n ∧ n ≤ 999999999)
def spNumber (K : PySem.W.Frag) : Sp := fun vs H Q _ => ∃ (b c l : Addr) (ns : List Int) (f : Int), vs = [.ref b, .ref l, .int f] ∧ BagAt K H b c ∧ SqL K H l (ns.map V.int) ∧ l ≠ b ∧ ns.length ≤ 1000 ∧
  ∀ (H' : Hp) (n : Int), Gone K H b c H' → NumOk ns f n → Q (.int n) H'
theorem SqL.gone {K : PySem.W.Frag} {H H' : Hp} {b c l : Addr} {xs : List V} (h : SqL K H l xs) (g : Gone K H b c H') (n : l ≠ b) : SqL K H' l xs := g.1.sqL h (by simpa using n)
/-- one of five -/
theorem of5 {r : Int} (h0 : 0 ≤ r) (h1 : r < 5) : r = 0 ∨ r = 1 ∨ r = 2 ∨ r = 3 ∨ r = 4 := by omega
theorem atInts {ns : List Int} {r : Int} (h0 : 0 ≤ r) (h1 : r < (ns.length : Int)) : ∃ n, n ∈ ns ∧ atI (ns.map V.int) r = some (.int n) := by
  obtain ⟨j, rfl⟩ : ∃ j : Nat, r = (j : Int) := ⟨r.toNat, by omega⟩
  have hj : j < ns.length := by omega
  exact ⟨ns[j], List.getElem_mem hj, atI_nat (by rw [List.getElem?_map, List.getElem?_eq_getElem hj]; rfl)⟩
abbrev n_law_number : List Str := ["_law_bag_here", "_law_numbers", "_law_fresh"]
theorem sc_law_number : FnScope n_law_number ["_law_bag_here", "_law_numbers", "_law_fresh"] d_law_number.scope := C8.fnScope_by (by decide +kernel)
theorem cal_number {P : Program} {w : World} {K : PySem.W.Frag} {mg : Str → Option Value} {base : Heap} (C : Cn w K mg)  : Cal P w K mg base CX0 2 "_law_number" (spNumber K) := by
  refine C.cal 36 36 d_law_number sc_law_number (fun _ _ _ _ _ _ us hl => match us, hl with | [_, _, _], _ => rfl) (fun vs H Q E h => ?_) (fun f cdv A outer s H vs Q E hr h => ?_)
  · obtain ⟨b, c, l, ns, f, rfl, _⟩ := h
    rfl
  have nd := sc_law_number.nd
  refine ⟨_, PSs.nox (pss_cons (ps_if (pt_cut (PW.pt (pw_or (pt_cmpR (op_eqD hr.units) (pv 1) (pe_lst pa_nil) (nomark _)) (pw_or1 (pt_cmpR op_eq (pe_c (cal_pull C) hr (pa_cons (pv 0) (pa_cons pe_int pa_nil))) pe_int (nomark _)))))) (pss_one (ps_ret (pe_ix ix_list (pe_lst (pa_cons pe_int (pa_cons (pv 2) (pa_cons (pe_un un_neg pe_int) (pa_cons (pe_op op_sub pe_int (pe_c (cal_pull C) hr (pa_cons (pv 0) (pa_cons pe_int pa_nil)))) (pa_cons pe_int pa_nil)))))) (pe_c (cal_pull C) hr (pa_cons (pv 0) (pa_cons pe_int pa_nil))) (fun _ _ => rfl)))) pss_nil) (pss_one (ps_ret (pe_ix ix_list (pv 1) (pe_c (cal_pull C) hr (pa_cons (pv 0) (pa_cons (pe_callB call_len_seq (by rfl) (C.free 67) (by decide +kernel) (pa_cons (pv 1) pa_nil)) pa_nil))) (fun _ _ => rfl))))), ?_⟩
  obtain ⟨b, c, l, ns, f, rfl, hb, hl, nlb, hz, k⟩ := h
  refine ⟨fun b' H1 => Gone K H b c H1 ∧ (b' = false → ns ≠ []), ?_, ?_⟩
  · refine ⟨_, rfl, by decide, fun p np => ⟨.list (ns.map .int), .list [], .lst (sqL_new hl np) (dpa_ints ns), .lst (SqL.of upd_same) .nil, shp_ints ns, rfl, _, rfl, ?_⟩⟩
    have g0 : Gone K H b c (upd H p (.lst [])) := (Gone.refl hb).new np
    rw [eqv_nilL]
    refine ite2 (fun e => ⟨g0, fun z => by cases z⟩) (fun e => ?_)
    refine ⟨_, rfl, b, c, 9, rfl, g0.2, by decide, by decide, fun H1 r g r0 r1 => ⟨rfl, _, rfl, g0.trans g, fun _ z => ?_⟩⟩
    rw [z] at e
    exact e rfl
  · rintro b' H1 ⟨g, h0⟩
    refine ite2 (fun e => ?_) (fun e => ?_)
    · refine ⟨_, rfl, _, rfl, _, rfl, b, c, 99, rfl, g.2, by decide, by decide, fun H2 r2 g2 r20 r21 => ⟨_, _, rfl, rfl, by show 5 ≤ sizeLine; decide, fun p np => ?_⟩⟩
      have g3 := (g.trans g2).new (o := .lst [.int 0, .int f, .int (-1), .int (999999999 - r2), .int 1]) np
      refine ⟨_, rfl, b, c, 5, rfl, g3.2, by decide, by decide, fun H4 r4 g4 r40 r41 => ?_⟩
      have hp := SqL.gone (l := p) (SqL.of upd_same) g4 (fun z => by
        rw [z] at np
        obtain ⟨_, _, q, _⟩ := g2.2
        rw [q] at np; cases np)
      rcases of5 r40 r41 with rfl | rfl | rfl | rfl | rfl
      · exact ⟨p, _, _, _, rfl, rfl, hp, rfl, k _ _ (g3.trans g4) (.inr (.inr (by omega)))⟩
      · exact ⟨p, _, _, _, rfl, rfl, hp, rfl, k _ _ (g3.trans g4) (.inr (.inl rfl))⟩
      · exact ⟨p, _, _, _, rfl, rfl, hp, rfl, k _ _ (g3.trans g4) (.inr (.inr (by omega)))⟩
      · exact ⟨p, _, _, _, rfl, rfl, hp, rfl, k _ _ (g3.trans g4) (.inr (.inr (by omega)))⟩
      · exact ⟨p, _, _, _, rfl, rfl, hp, rfl, k _ _ (g3.trans g4) (.inr (.inr (by omega)))⟩
    · have hl1 := SqL.gone hl g nlb
      have n0 : 0 < ns.length := List.length_pos_iff.mpr (h0 (by simpa using e))
      refine ⟨_, rfl, _, rfl, _, rfl, l, _, rfl, .inl hl1, b, c, _, rfl, g.2, ?_, ?_, fun H2 r g2 r0 r1 => ?_⟩
      · simp only [List.length_map]; omega
      · simp only [List.length_map]; omega
      · rw [List.length_map] at r1
        obtain ⟨n, hn, ha⟩ := atInts r0 r1
        exact ⟨l, _, _, _, rfl, rfl, SqL.gone hl1 g2 nlb, ha, k _ _ (g.trans g2) (.inl hn)⟩
end Bu
set_option Elab.async false
set_option linter.all false
set_option maxRecDepth 100000
set_option maxHeartbeats 4000000
/-! Readings of draws. -/
namespace Bu
open PySem PySem.Spec PyProof.Rows L2
section
variable {K : PySem.W.Frag} {b c : Addr} {i : Nat} {n : Int} {σ : L2.St} {H H1 : Hp} {Q : VK} {vs : List V}
theorem Gone.free {H' : Hp} {p : Addr} (g : Gone K H b c H') (h : H' p = none) : H p = none := g.1.free h
theorem Gone.ne {p : Addr} (h : BagAt K H b c) (np : H p = none) : p ≠ b := fun z => by
  obtain ⟨_, _, q, _⟩ := h
  rw [z, q] at np; cases np
theorem Gone.at {H' : Hp} {a : Addr} {o : HO} (g : Gone K H b c H') (h : H a = some o) (n : a ≠ b) : H' a = some o := g.1.keep a o h (by simpa using n)
/-- one draw -/
theorem pullR (hσ : σ[i]? = some (some (V.ref b))) (hb : BagAt K H b c) (h0 : 0 < n) (h1 : n < 1073741824) (h : ∀ H' r, Gone K H b c H' → 0 ≤ r → r < n → Q (.int r) H') :
    tCall (spPull K) [] E0 (tCons (tVar i) (tCons (tC (.int n)) tNil)) σ H Q := ⟨_, hσ, b, c, n, rfl, hb, h0, h1, h⟩
/-- one of what is written, drawn -/
theorem pick_end (hσ : σ[i]? = some (some (V.ref b))) (hb : BagAt K H1 b c) (hn : (vs.length : Int) = n) (h0 : 0 < n) (h1 : n < 1000) (h : ∀ v ∈ vs, ∀ H2, Gone K H1 b c H2 → Q v H2) :
    vs.length ≤ sizeLine ∧ ∀ p, H1 p = none → tCall (spPull K) [] E0 (tCons (tVar i) (tCons (tC (.int n)) tNil)) σ (upd H1 p (.lst vs)) fun y H2 => rIxL K (.ref p) y H2 Q := by
  refine ⟨by rw [sizeLine_eq]; omega, fun p np => ?_⟩
  have g0 : Gone K H1 b c (upd H1 p (.lst vs)) := (Gone.refl hb).new np
  refine pullR hσ g0.2 h0 (by omega) fun H2 r g r0 r1 => ?_
  obtain ⟨j, rfl⟩ : ∃ j : Nat, r = (j : Int) := ⟨r.toNat, by omega⟩
  have hj : j < vs.length := by omega
  exact ⟨p, vs, j, vs[j], rfl, rfl, SqL.gone (SqL.of upd_same) g (Gone.ne hb np), atI_nat (List.getElem?_eq_getElem hj), h _ (List.getElem_mem hj) _ (g0.trans g)⟩
/-- .. at a known place -/
theorem pick_at {r : Int} (hσ : σ[i]? = some (some (V.int r))) (r0 : 0 ≤ r) (r1 : r < (vs.length : Int)) (h2 : vs.length ≤ 1000) (h : ∀ v ∈ vs, ∀ p, H1 p = none → Q v (upd H1 p (.lst vs))) :
    vs.length ≤ sizeLine ∧ ∀ p, H1 p = none → ∃ v, σ[i]? = some (some v) ∧ rIxL K (.ref p) v (upd H1 p (.lst vs)) Q := by
  refine ⟨by rw [sizeLine_eq]; omega, fun p np => ⟨_, hσ, ?_⟩⟩
  obtain ⟨j, rfl⟩ : ∃ j : Nat, r = (j : Int) := ⟨r.toNat, by omega⟩
  have hj : j < vs.length := by omega
  exact ⟨p, vs, j, vs[j], rfl, rfl, SqL.of upd_same, atI_nat (List.getElem?_eq_getElem hj), h _ (List.getElem_mem hj) p np⟩
end
/-- a list of data that grows at D while M changes besides -/
structure Acc (K : PySem.W.Frag) (M : List Addr) (H0 : Hp) (D : Addr) (ds : List PyData) (H2 : Hp) (ys : List V) : Prop where
  at_ : H2 D = some (.lst ys)
  but : But (D :: M) H0 H2
  da : DpAll K H2 ys ds
theorem Acc.start {K : PySem.W.Frag} {M : List Addr} {H0 : Hp} {D : Addr} (h : H0 D = some (.lst [])) (nt : ∀ x ∈ M, ∀ xs, ¬ Rd H0 x (.tup xs)) : Acc K M H0 D [] H0 [] :=
  ⟨h, But.nil _ fun x hx => by
    rcases List.mem_cons.mp hx with rfl | hx
    · exact nt_lst h
    · exact nt x hx, .nil⟩
theorem Acc.push {K : PySem.W.Frag} {M : List Addr} {H0 H2 H4 : Hp} {D : Addr} {ds : List PyData} {d : PyData} {ys : List V} {y : V} (a : Acc K M H0 D ds H2 ys) (b : But M H2 H4) (n : D ∉ M) (hy : Dp K H4 y d) (t : tupDs ds = true) (t' : tupD d = true) :
    H4 D = some (.lst ys) ∧ Acc K M H0 D (ds ++ [d]) (upd H4 D (.lst (ys ++ [y]))) (ys ++ [y]) := by
  have hD := b.keep D _ a.at_ n
  have u : But [D] H4 (upd H4 D (.lst (ys ++ [y]))) := But.one (nt_lst hD)
  refine ⟨hD, upd_same, (a.but.thn b fun x hx => .inl (List.mem_cons_of_mem _ hx)).thn u fun x hx => .inl (by rw [show x = D by simpa using hx]; exact List.mem_cons_self), ?_⟩
  exact dpa_app (dps_but u ds ys t (dps_but b ds ys t a.da)) (.cons (dp_but u d y t' hy) .nil)
theorem tupDs_app : ∀ {ds es : List PyData}, tupDs ds = true → tupDs es = true → tupDs (ds ++ es) = true
  | [], _, _, h => h
  | d :: ds, es, h1, h2 => by
    have h1' : (tupD d && tupDs ds) = true := h1
    rw [Bool.and_eq_true] at h1'
    show (tupD d && tupDs (ds ++ es)) = true
    rw [h1'.1, tupDs_app h1'.2 h2]; rfl
theorem putK_mem {κ : Type} [DecidableEq κ] {kvs : List (κ × V)} {k : κ} {v : V} {p : κ × V} (h : p ∈ putK kvs k v) : p ∈ kvs ∨ p = (k, v) := by
  unfold putK at h
  split at h
  · obtain ⟨q, hq, rfl⟩ := List.mem_map.mp h
    by_cases e : q.1 = k
    · rw [if_pos e]; exact .inr (by rw [e])
    · rw [if_neg e]; exact .inl hq
  · rcases List.mem_append.mp h with h | h
    · exact .inl h
    · exact .inr (by simpa using h)
theorem valV_of_mem {κ : Type} [DecidableEq κ] {kvs : List (κ × V)} {p : κ × V} (h : p ∈ kvs) : ∃ v, valV kvs p.1 = some v ∧ (p.1, v) ∈ kvs := by
  induction kvs with
  | nil => cases h
  | cons q r ih =>
    by_cases e : q.1 = p.1
    · refine ⟨q.2, ?_, by rw [← e]; exact List.mem_cons_self⟩
      unfold valV; simp [e]
    · rcases List.mem_cons.mp h with rfl | h
      · exact absurd rfl e
      · obtain ⟨v, h1, h2⟩ := ih h
        refine ⟨v, ?_, List.mem_cons_of_mem _ h2⟩
        unfold valV at h1 ⊢; simpa [e] using h1
end Bu
set_option Elab.async false
set_option linter.all false
set_option maxRecDepth 100000
set_option maxHeartbeats 4000000
namespace Bu
open PySem PySem.Spec PyProof.Rows L2
def spHeads (K : PySem.W.Frag) : Sp := fun vs H Q _ => ∃ (b c : Addr), vs = [.ref b] ∧ BagAt K H b c ∧
  ∀ (H' : Hp) (v : V) (hs : List Hd), Gone K H b c H' → Dp K H' v (.tuple (hs.map hdD)) → (∀ h ∈ hs, Hd.ok h) → hs.length ≤ 8 → Q v H'
/-- what the dict of heads holds -/
def HdKV (kvs : List (List Key × V)) : Prop := ∀ p ∈ kvs, (∃ i j : Int, p.1 = [.inl i, .inl j]) ∧ ∃ x ∈ signs, p.2 = .str x
theorem HdKV.put {kvs : List (List Key × V)} (h : HdKV kvs) {i j : Int} {x : Str} (hx : x ∈ signs) : HdKV (putK kvs [.inl i, .inl j] (.str x)) := fun p hp => by
  rcases putK_mem hp with hp | rfl
  · exact h p hp
  · exact ⟨⟨i, j, rfl⟩, x, hx, rfl⟩
theorem dp_hd {K : PySem.W.Frag} {H : Hp} {t : Addr} {i j : Int} {x : Str} (h : SqT K H t [.int i, .int j, .str x]) : Dp K H (.ref t) (hdD (i, j, x)) := .tup h (.cons (.int _) (.cons (.int _) (.cons (.str _) .nil)))
theorem tup_hd (h : Hd) : tupD (hdD h) = true := rfl
theorem tup_hds : ∀ hs : List Hd, tupDs (hs.map hdD) = true
  | [] => rfl
  | h :: r => by
    show (tupD (hdD h) && tupDs (r.map hdD)) = true
    rw [tup_hds r]; rfl
theorem lay_sign {x : Str} (h : x ∈ signs) : PyData.canLay0 (.str x) = true := by
  unfold signs at h
  simp only [List.mem_cons, List.not_mem_nil, or_false] at h
  rcases h with rfl | rfl | rfl | rfl <;> decide +kernel
theorem lay_hds (hs : List Hd) (h : ∀ h ∈ hs, Hd.ok h) : PyData.canLayAll0 (hs.map hdD) = true := lay_all hdD hs fun x hx => by
  show (PyData.canLay0 (.int x.1) && (PyData.canLay0 (.int x.2.1) && (PyData.canLay0 (.str x.2.2) && PyData.canLayAll0 []))) = true
  rw [lay_sign (h x hx)]; rfl
theorem dep_hds (hs : List Hd) : PyData.depthAll (hs.map hdD) ≤ 1 := depth_all hdD 1 hs fun x _ => by show PyData.depthAll [.int x.1, .int x.2.1, .str x.2.2] + 1 ≤ 1; exact Nat.le_refl _
theorem shp_hds {hs : List Hd} (h : ∀ h ∈ hs, Hd.ok h) : SeqAt.shaped (.tuple (hs.map hdD)) = true := shp (n := 2) (lay_hds hs h) (by show PyData.depthAll _ + 1 ≤ 2; have := dep_hds hs; omega)
abbrev n_law_heads : List Str := ["_law_bag_here", "_law_crop", "_law_crowd", "_law_found", "_law_k", "_law_band", "_law_step", "_law_pair"]
theorem sc_law_heads : FnScope n_law_heads ["_law_bag_here"] d_law_heads.scope := C8.fnScope_by (by decide +kernel)
theorem cal_heads {P : Program} {w : World} {K : PySem.W.Frag} {mg : Str → Option Value} {base : Heap} (C : Cn w K mg)  : Cal P w K mg base CX0 2 "_law_heads" (spHeads K) := by
  refine C.cal 37 37 d_law_heads sc_law_heads (fun _ _ _ _ _ _ us hl => match us, hl with | [_], _ => rfl) (fun vs H Q E h => ?_) (fun f cdv A outer s H vs Q E hr h => ?_)
  · obtain ⟨b, c, rfl, _⟩ := h
    rfl
  have nd := sc_law_heads.nd
  refine ⟨_, PSs.nox (pss_cons (ps_set (i := 1) nd rfl (by first | exact Or.inl rfl | exact Or.inr rfl) (pe_ix ix_list (pe_lst (pa_cons pe_int (pa_cons pe_int (pa_cons pe_int (pa_cons pe_int (pa_cons pe_int (pa_cons (pe_c (cal_pull C) hr (pa_cons (pv 0) (pa_cons pe_int pa_nil))) pa_nil))))))) (pe_c (cal_pull C) hr (pa_cons (pv 0) (pa_cons pe_int pa_nil))) (fun _ _ => rfl))) (pss_cons (ps_set (i := 2) nd rfl (by first | exact Or.inl rfl | exact Or.inr rfl) (pe_c (cal_pull C) hr (pa_cons (pv 0) (pa_cons pe_int pa_nil)))) (pss_cons (ps_set (i := 3) nd rfl (by first | exact Or.inl rfl | exact Or.inr rfl) (pe_dnewT)) (pss_cons (ps_for PassesOwn.never rfl (pi_range1 rfl (C.free 68) (pa_cons (pv 1) pa_nil)) (pg_name (i := 4) nd rfl (by first | exact Or.inl rfl | exact Or.inr rfl)) (pss_cons (ps_set (i := 5) nd rfl (by first | exact Or.inl rfl | exact Or.inr rfl) (pe_c (cal_pull C) hr (pa_cons (pv 0) (pa_cons (pe_ix ix_list (pe_lst (pa_cons pe_int (pa_cons pe_int (pa_cons pe_int pa_nil)))) (pv 2) (fun _ _ => rfl)) pa_nil)))) (pss_cons (ps_set (i := 6) nd rfl (by first | exact Or.inl rfl | exact Or.inr rfl) (pe_op op_sub (pe_c (cal_pull C) hr (pa_cons (pv 0) (pa_cons (pe_ix ix_list (pe_lst (pa_cons pe_int (pa_cons pe_int (pa_cons pe_int pa_nil)))) (pv 2) (fun _ _ => rfl)) pa_nil))) (pe_ix ix_list (pe_lst (pa_cons pe_int (pa_cons pe_int (pa_cons pe_int pa_nil)))) (pv 2) (fun _ _ => rfl)))) (pss_one (ps_dput (hu_of hr) (pv 3) (pe_tup (pa_cons (pv 5) (pa_cons (pv 6) pa_nil))) (pe_ix ix_list (pe_lst (pa_cons pe_str (pa_cons pe_str (pa_cons pe_str (pa_cons pe_str pa_nil))))) (pe_c (cal_pull C) hr (pa_cons (pv 0) (pa_cons pe_int pa_nil))) (fun _ _ => rfl)) rfl))))) (pss_one (ps_ret (pe_callTy call_tuple_of (by rfl) (C.free 71) (by decide +kernel) (pa_cons (pe_lc (own := [("_law_pair", 7)]) (tt := tYes) rfl nd (pi_list (pe_callB (call_sortedDT rfl (hu70 hr)) (by rfl) (C.free 72) (by decide +kernel) (pa_cons (pv 3) pa_nil))) (blkOk_by (own := [("_law_pair", 7)]) (N := n_law_heads) (sc := d_law_heads.scope) (by decide +kernel)) (fun _ _ _ _ _ => (pg_name (i := 7) nd rfl (by first | exact Or.inl rfl | exact Or.inr rfl))) (fun _ _ _ _ _ => pts_nil) (fun _ _ _ _ _ => (pe_op (v_op_catA (K := K)) (pv 7) (pe_tup (pa_cons (pe_dget (hu_of hr) (pv 3) (pv 7) (fun _ _ => rfl)) pa_nil))))) pa_nil)))))))), ?_⟩
  obtain ⟨b, c, rfl, hb, k⟩ := h
  refine pullR rfl hb (by decide) (by decide) fun H1 r1 g1 r10 r11 => ?_
  refine pick_end (n := 6) rfl g1.2 rfl (by decide) (by decide) fun v hv H2 g2 => ?_
  have g12 := g1.trans g2
  obtain ⟨crop, rfl, c0, c8⟩ : ∃ crop : Int, v = .int crop ∧ 0 ≤ crop ∧ crop ≤ 8 := by
    simp only [List.mem_cons, List.not_mem_nil, or_false] at hv
    rcases hv with rfl | rfl | rfl | rfl | rfl | rfl
    · exact ⟨_, rfl, by decide, by decide⟩
    · exact ⟨_, rfl, by decide, by decide⟩
    · exact ⟨_, rfl, by decide, by decide⟩
    · exact ⟨_, rfl, by decide, by decide⟩
    · exact ⟨_, rfl, by decide, by decide⟩
    · exact ⟨_, rfl, r10, by omega⟩
  refine pullR rfl g12.2 (by decide) (by decide) fun H3 r3 g3 r30 r31 => ?_
  have g13 := g12.trans g3
  intro d nd
  refine ⟨_, rfl, crop, rfl, by omega, by omega, ?_⟩
  refine for_range (lo := 0) (n := crop.toNat) (fun i σ' H' => ∃ (kvs : List (List Key × V)) (x4 x5 x6 : Option V), σ' = [some (.ref b), some (.int crop), some (.int r3), some (.ref d), x4, x5, x6, none] ∧ H' d = some (.dT kvs) ∧ Gone K H b c H' ∧ kvs.length ≤ i ∧ HdKV kvs) ?_ ?_ ?_
  · exact ⟨[], none, none, none, rfl, upd_same, g13.new nd, Nat.le_refl _, fun p hp => by cases hp⟩
  · rintro i σ' H' hi ⟨kvs, x4, x5, x6, rfl, hd, g, hl, hk⟩
    have ndb : d ≠ b := Gone.ne g13.2 nd
    refine ⟨_, rfl, pick_at (i := 2) rfl r30 r31 (by decide) fun v hv p np => ?_⟩
    obtain ⟨n, rfl, n0, n1⟩ : ∃ n : Int, v = .int n ∧ 0 < n ∧ n < 100 := by
      simp only [List.mem_cons, List.not_mem_nil, or_false] at hv
      rcases hv with rfl | rfl | rfl <;> exact ⟨_, rfl, by decide, by decide⟩
    have g4 := (g.new (o := .lst [.int 1, .int 4, .int 4]) np)
    have d4 := (upd_ne (o := .lst [.int 1, .int 4, .int 4]) (ne_of_none hd np)).trans hd
    refine ⟨b, c, n, rfl, g4.2, n0, by omega, fun H5 r5 g5 r50 r51 => ?_⟩
    have d5 := g5.at d4 ndb
    have g5' := g4.trans g5
    refine ⟨_, rfl, pick_at (i := 2) rfl r30 r31 (by decide) fun v hv p np => ?_⟩
    obtain ⟨n, rfl, n0, n1⟩ : ∃ n : Int, v = .int n ∧ 0 < n ∧ n < 100 := by
      simp only [List.mem_cons, List.not_mem_nil, or_false] at hv
      rcases hv with rfl | rfl | rfl <;> exact ⟨_, rfl, by decide, by decide⟩
    have g6 := (g5'.new (o := .lst [.int 25, .int 5, .int 25]) np)
    have d6 := (upd_ne (o := .lst [.int 25, .int 5, .int 25]) (ne_of_none d5 np)).trans d5
    refine ⟨b, c, n, rfl, g6.2, n0, by omega, fun H7 r7 g7 r70 r71 => ?_⟩
    have d7 := g7.at d6 ndb
    have g7' := g6.trans g7
    refine pick_at (i := 2) rfl r30 r31 (by decide) fun v hv p np => ?_
    obtain ⟨m, rfl⟩ : ∃ m : Int, v = .int m := by
      simp only [List.mem_cons, List.not_mem_nil, or_false] at hv
      rcases hv with rfl | rfl | rfl <;> exact ⟨_, rfl⟩
    have g8 := (g7'.new (o := .lst [.int 12, .int 2, .int 12]) np)
    have d8 := (upd_ne (o := .lst [.int 12, .int 2, .int 12]) (ne_of_none d7 np)).trans d7
    refine ⟨_, _, rfl, rfl, ?_⟩
    refine pick_end (n := 4) rfl g8.2 rfl (by decide) (by decide) fun v hv H9 g9 => ?_
    obtain ⟨x, hx, rfl⟩ : ∃ x ∈ signs, v = .str x := by
      simp only [List.mem_cons, List.not_mem_nil, or_false] at hv
      rcases hv with rfl | rfl | rfl | rfl
      · exact ⟨_, .head _, rfl⟩
      · exact ⟨_, .tail _ (.head _), rfl⟩
      · exact ⟨_, .tail _ (.tail _ (.head _)), rfl⟩
      · exact ⟨_, .tail _ (.tail _ (.tail _ (.head _))), rfl⟩
    have d9 := g9.at d8 ndb
    have g9' := g8.trans g9
    refine ⟨_, rfl, _, rfl, _, rfl, by show 2 ≤ sizeLine; decide, fun t nt => ?_⟩
    have g10 := (g9'.new (o := .tup [.int r5, .int (r7 - m)]) nt)
    have d10 := (upd_ne (o := .tup [.int r5, .int (r7 - m)]) (ne_of_none d9 nt)).trans d9
    refine ⟨d, _, rfl, DPut.t (k := [.inl r5, .inl (r7 - m)]) d10 upd_same (by rw [sizeLine_eq]; omega), ?_⟩
    refine ⟨_, _, _, _, rfl, upd_same, g10.thn (But.one (nt_dt d10)) hb (fun z hz => ?_), Nat.le_trans (length_putK _ _ _) (by omega), hk.put hx⟩
    rw [show z = d by simpa using hz]
    exact g13.free nd
  · rintro σ' H' ⟨kvs, x4, x5, x6, rfl, hd, g, hl, hk⟩
    refine ⟨_, rfl, d, kvs, rfl, .inl hd, fun p hp => (hk p hp).1, fun bs l hbl hbt nl => ⟨l, rfl, ⟨_, SqL.of upd_same⟩, fun D nD => ?_⟩⟩
    have nl' : D ≠ l := fun z => by rw [z, upd_same] at nD; cases nD
    have nD' : H' D = none := by rw [upd_ne nl'] at nD; exact nD
    have gD := ((g.new (o := .lst (bs.map V.ref)) nl).new (o := .lst []) nD)
    refine lc_list (K := K) (a := l) (xs := bs.map V.ref) (fun i H2 => ∃ (ys : List V) (hs : List Hd), Acc K [] (upd (upd H' l (.lst (bs.map V.ref))) D (.lst [])) D (hs.map hdD) H2 ys ∧ (∀ h ∈ hs, Hd.ok h) ∧ hs.length = i) ?_ ?_ ?_ ?_
    · exact ⟨[], [], Acc.start upd_same (fun x hx => by cases hx), (fun h z => by cases z), rfl⟩
    · rintro i H2 hi ⟨ys, hs, ac, ok, hl2⟩
      exact ac.but.sqL (SqL.of ((upd_ne (Ne.symm nl')).trans upd_same)) (by simpa using Ne.symm nl')
    · rintro i x H2 hx ⟨ys, hs, ac, ok, hl2⟩
      rw [List.getElem?_map] at hx
      obtain ⟨q, hq, rfl⟩ := Option.map_eq_some_iff.mp hx
      obtain ⟨e, he, hqt⟩ := hbt q (List.mem_of_getElem? hq)
      obtain ⟨⟨i1, j1, e1⟩, _⟩ := hk e he
      obtain ⟨v, hv, hm⟩ := valV_of_mem he
      obtain ⟨_, x1, hx1, rfl⟩ := hk _ hm
      rw [e1] at hqt hv
      have old : ∀ {a : Addr} {o : HO}, H' a = some o → H2 a = some o := fun {a o} z => ac.but.keep a o ((upd_ne (fun y => by rw [y, nD'] at z; cases z)).trans ((upd_ne (ne_of_none z nl)).trans z)) (by simpa using fun y => by rw [y, nD'] at z; cases z)
      have qT : H2 q = some (.tup [.int i1, .int j1]) := old hqt
      refine ⟨rfl, ⟨_, rfl, _, rfl, _, rfl, d, _, rfl, hv ▸ DGet.t (k := [.inl i1, .inl j1]) (old hd) qT, ?_⟩⟩
      refine ⟨by show 1 ≤ sizeLine; decide, fun t nt => ⟨q, t, _, _, rfl, rfl, sqT_new (SqT.of qT) nt, SqT.of upd_same, by show 3 ≤ sizeLine; decide, fun z => (nomatch z), fun _ z => (nomatch z), fun _ _ p np => ?_⟩⟩
      have b4 : But [] H2 (upd (upd H2 t (.tup [.str x1])) p (.tup [.int i1, .int j1, .str x1])) := (But.refl.new nt).new np
      obtain ⟨hD, ac'⟩ := ac.push (d := hdD (i1, j1, x1)) b4 (by simp) (dp_hd (SqT.of upd_same)) (tup_hds hs) rfl
      refine ⟨ys, hD, ?_, _, hs ++ [(i1, j1, x1)], by rw [List.map_append]; exact ac', ?_, by simp [hl2]⟩
      · have := dpa_length ac.da
        rw [List.length_map] at this
        have : i < bs.length := (List.getElem?_eq_some_iff.mp hq).1
        rw [sizeLine_eq]; omega
      · intro h hh
        rcases List.mem_append.mp hh with hh | hh
        · exact ok h hh
        · rw [show h = (i1, j1, x1) by simpa using hh]; exact hx1
    · rintro H2 ⟨ys, hs, ac, ok, hl2⟩
      refine ⟨D, ys, rfl, .inl ⟨SqL.of ac.at_, fun t nt => k _ _ hs ?_ (.tup (SqT.of upd_same) ?_) ok ?_⟩⟩
      · exact Gone.new (gD.thn ac.but hb fun x hx => (by rw [show x = D by simpa using hx]; exact g.free nD')) nt
      · exact dps_but (But.refl.new nt) _ _ (tup_hds hs) ac.da
      · rw [List.length_map] at hl2; omega
end Bu
set_option Elab.async false
set_option linter.all false
set_option maxRecDepth 100000
set_option maxHeartbeats 4000000
namespace Bu
open PySem PySem.Spec PyProof.Rows L2
def spMoment (K : PySem.W.Frag) : Sp := fun vs H Q _ => ∃ (b c : Addr), vs = [.ref b] ∧ BagAt K H b c ∧
  ∀ (H' : Hp) (v : V) (m : Mo), Gone K H b c H' → Dp K H' v (moD m) → Mo.ok m → Q v H'
theorem tup_mo (m : Mo) : tupD (moD m) = true := by
  show (tupD (.int m.1) && (tupD (.tuple (m.2.1.map hdD)) && (tupD (.int m.2.2) && tupDs []))) = true
  rw [show tupD (.tuple (m.2.1.map hdD)) = tupDs (m.2.1.map hdD) from rfl, tup_hds]; rfl
theorem tup_mos : ∀ b : Br, tupDs (b.map moD) = true
  | [] => rfl
  | m :: r => by
    show (tupD (moD m) && tupDs (r.map moD)) = true
    rw [tup_mo, tup_mos r]; rfl
theorem tup_br (b : Br) : tupD (brD b) = true := tup_mos b
abbrev n_law_moment : List Str := ["_law_bag_here", "_law_beats", "_law_word"]
theorem sc_law_moment : FnScope n_law_moment ["_law_bag_here"] d_law_moment.scope := C8.fnScope_by (by decide +kernel)
theorem cal_moment {P : Program} {w : World} {K : PySem.W.Frag} {mg : Str → Option Value} {base : Heap} (C : Cn w K mg)  : Cal P w K mg base CX0 3 "_law_moment" (spMoment K) := by
  refine C.cal 38 38 d_law_moment sc_law_moment (fun _ _ _ _ _ _ us hl => match us, hl with | [_], _ => rfl) (fun vs H Q E h => ?_) (fun f cdv A outer s H vs Q E hr h => ?_)
  · obtain ⟨b, c, rfl, _⟩ := h
    rfl
  have nd := sc_law_moment.nd
  refine ⟨_, PSs.nox (pss_cons (ps_set (i := 1) nd rfl (by first | exact Or.inl rfl | exact Or.inr rfl) (pe_ix ix_list (pe_lst (pa_cons (pe_op op_add pe_int (pe_c (cal_pull C) hr (pa_cons (pv 0) (pa_cons pe_int pa_nil)))) (pa_cons (pe_op op_add pe_int (pe_c (cal_pull C) hr (pa_cons (pv 0) (pa_cons pe_int pa_nil)))) (pa_cons pe_int (pa_cons pe_int pa_nil))))) (pe_c (cal_pull C) hr (pa_cons (pv 0) (pa_cons pe_int pa_nil))) (fun _ _ => rfl))) (pss_cons (ps_set (i := 2) nd rfl (by first | exact Or.inl rfl | exact Or.inr rfl) (pe_ix ix_list (pe_lst (pa_cons pe_int (pa_cons pe_int (pa_cons (pe_op op_add pe_int (pe_c (cal_pull C) hr (pa_cons (pv 0) (pa_cons pe_int pa_nil)))) (pa_cons (pe_c (cal_pull C) hr (pa_cons (pv 0) (pa_cons pe_int pa_nil))) pa_nil))))) (pe_c (cal_pull C) hr (pa_cons (pv 0) (pa_cons pe_int pa_nil))) (fun _ _ => rfl))) (pss_one (ps_ret (pe_tup (pa_cons (pv 1) (pa_cons (pe_c (cal_heads C) hr (pa_cons (pv 0) pa_nil)) (pa_cons (pv 2) pa_nil)))))))), ?_⟩
  obtain ⟨b, c, rfl, hb, k⟩ := h
  refine pullR rfl hb (by decide) (by decide) fun H1 r1 g1 _ _ => ⟨_, _, rfl, rfl, pullR rfl g1.2 (by decide) (by decide) fun H2 r2 g2 _ _ => ⟨_, _, rfl, rfl, pick_end (n := 4) rfl g2.2 rfl (by decide) (by decide) fun v hv H3 g3 => ?_⟩⟩
  obtain ⟨beats, rfl⟩ : ∃ n : Int, v = .int n := by
    simp only [List.mem_cons, List.not_mem_nil, or_false] at hv
    rcases hv with rfl | rfl | rfl | rfl <;> exact ⟨_, rfl⟩
  have g13 := (g1.trans g2).trans g3
  refine pullR rfl g13.2 (by decide) (by decide) fun H4 r4 g4 _ _ => ⟨_, _, rfl, rfl, pullR rfl g4.2 (by decide) (by decide) fun H5 r5 g5 _ _ => pick_end (n := 4) rfl g5.2 rfl (by decide) (by decide) fun v hv H6 g6 => ?_⟩
  obtain ⟨word, rfl⟩ : ∃ n : Int, v = .int n := by
    simp only [List.mem_cons, List.not_mem_nil, or_false] at hv
    rcases hv with rfl | rfl | rfl | rfl <;> exact ⟨_, rfl⟩
  have g16 := ((g13.trans g4).trans g5).trans g6
  refine ⟨_, rfl, _, rfl, b, c, rfl, g16.2, fun H7 v hs g7 dp ok hl => ⟨_, rfl, by show 3 ≤ sizeLine; decide, fun t nt => ?_⟩⟩
  exact k _ _ (beats, hs, word) ((g16.trans g7).new nt) (.tup (SqT.of upd_same) (.cons (.int _) (.cons (dp_but (But.refl.new nt) _ _ (tup_hds hs) dp) (.cons (.int _) .nil)))) ⟨hl, ok⟩
def spQuick (K : PySem.W.Frag) : Sp := fun vs H Q _ => ∃ (b c : Addr), vs = [.ref b] ∧ BagAt K H b c ∧
  ∀ (H' : Hp) (v : V) (m : Br), Gone K H b c H' → Dp K H' v (brD m) → Br.ok m → 1 ≤ m.length → m.length ≤ 6 → Q v H'
abbrev n_law_quick_bar : List Str := ["_law_bag_here", "_law_found", "_law_k", "_law_beats", "_law_heads_here", "_law_word"]
theorem sc_law_quick_bar : FnScope n_law_quick_bar ["_law_bag_here"] d_law_quick_bar.scope := C8.fnScope_by (by decide +kernel)
theorem cal_quick_bar {P : Program} {w : World} {K : PySem.W.Frag} {mg : Str → Option Value} {base : Heap} (C : Cn w K mg)  : Cal P w K mg base CX0 4 "_law_quick_bar" (spQuick K) := by
  refine C.cal 39 39 d_law_quick_bar sc_law_quick_bar (fun _ _ _ _ _ _ us hl => match us, hl with | [_], _ => rfl) (fun vs H Q E h => ?_) (fun f cdv A outer s H vs Q E hr h => ?_)
  · obtain ⟨b, c, rfl, _⟩ := h
    rfl
  have nd := sc_law_quick_bar.nd
  refine ⟨_, PSs.nox (pss_cons (ps_set (i := 1) nd rfl (by first | exact Or.inl rfl | exact Or.inr rfl) (pe_lst pa_nil)) (pss_cons (ps_for PassesOwn.never rfl (pi_range1 rfl (C.free 68) (pa_cons (pe_op op_add pe_int (pe_c (cal_pull C) hr (pa_cons (pv 0) (pa_cons pe_int pa_nil)))) pa_nil)) (pg_name (i := 2) nd rfl (by first | exact Or.inl rfl | exact Or.inr rfl)) (pss_cons (ps_asg (pe_c (cal_moment C) hr (pa_cons (pv 0) pa_nil)) (pg_tup rfl (pgs_cons (pg_name (i := 3) nd rfl (by first | exact Or.inl rfl | exact Or.inr rfl)) (pgs_cons (pg_name (i := 4) nd rfl (by first | exact Or.inl rfl | exact Or.inr rfl)) (pgs_cons (pg_name (i := 5) nd rfl (by first | exact Or.inl rfl | exact Or.inr rfl)) pgs_nil))))) (pss_cons (ps_set (i := 3) nd rfl (by first | exact Or.inl rfl | exact Or.inr rfl) (pe_ix ix_list (pe_lst (pa_cons pe_int (pa_cons pe_int (pa_cons pe_int (pa_cons pe_int (pa_cons (pv 3) pa_nil)))))) (pe_c (cal_pull C) hr (pa_cons (pv 0) (pa_cons pe_int pa_nil))) (fun _ _ => rfl))) (C8.pss_cut (ps_if (pt_cut (PW.pt (pw_and (pt_cmpR (op_eqD hr.units) (pv 4) (pe_tup pa_nil) (nomark _)) (pw_and1 (pt_cmpR op_gt (pe_c (cal_pull C) hr (pa_cons (pv 0) (pa_cons pe_int pa_nil))) pe_int (nomark _)))))) (pss_one (ps_set (i := 4) nd rfl (by first | exact Or.inl rfl | exact Or.inr rfl) (pe_tup (pa_cons (pe_tup (pa_cons pe_int (pa_cons (pe_op op_sub (pe_c (cal_pull C) hr (pa_cons (pv 0) (pa_cons pe_int pa_nil))) pe_int) (pa_cons pe_str pa_nil)))) pa_nil)))) pss_nil) (pss_one (ps_expr (pe_bm PySem.F.plainAttrs_list PySem.F.slot_list_append PySem.F.type_list_append mt_append (pv 1) (pa_cons (pe_tup (pa_cons (pv 3) (pa_cons (pv 4) (pa_cons (pv 5) pa_nil)))) pa_nil)))))))) (pss_one (ps_ret (pe_callTy call_tuple_of (by rfl) (C.free 71) (by decide +kernel) (pa_cons (pv 1) pa_nil)))))), ?_⟩
  obtain ⟨b, c, rfl, hb, k⟩ := h
  refine ⟨by decide, fun D nD => ?_⟩
  have g0 : Gone K H b c (upd H D (.lst [])) := (Gone.refl hb).new nD
  have nDb : D ≠ b := Gone.ne hb nD
  refine pullR rfl g0.2 (by decide) (by decide) fun H1 r1 g1 r10 r11 => ⟨_, _, rfl, rfl, 1 + r1, rfl, by omega, by omega, ?_⟩
  have a1 := Acc.start (K := K) (M := [b]) (g1.at upd_same nDb) (fun x hx => by rw [show x = b by simpa using hx]; exact g1.2.nt)
  refine for_range (lo := 0) (n := (1 + r1).toNat) (fun i σ' H' => ∃ (ys : List V) (m : Br) (x2 x3 x4 x5 : Option V), σ' = [some (.ref b), some (.ref D), x2, x3, x4, x5] ∧ Acc K [b] H1 D (m.map moD) H' ys ∧ BagAt K H' b c ∧ Br.ok m ∧ m.length = i) ?_ ?_ ?_
  · exact ⟨[], [], none, none, none, none, rfl, a1, g1.2, (fun m z => by cases z), rfl⟩
  · rintro i σ' H' hi ⟨ys, m, x2, x3, x4, x5, rfl, ac, hb', ok, hl⟩
    refine ⟨_, rfl, b, c, rfl, hb', fun H2 v mo g2 dp mok => ?_⟩
    obtain ⟨t, vs, rfl, ht, da⟩ := dp_tup dp
    obtain ⟨v1, r, rfl, d1, da⟩ := dpa_cons da
    obtain ⟨v2, r, rfl, d2, da⟩ := dpa_cons da
    obtain ⟨v3, r, rfl, d3, da⟩ := dpa_cons da
    cases dpa_nil da
    cases dp_int d1
    cases dp_int d3
    refine ⟨t, _, rfl, ht, rfl, _, _, rfl, _, _, rfl, _, _, rfl, rfl, ?_⟩
    refine ⟨_, rfl, pick_end (n := 5) rfl g2.2 rfl (by decide) (by decide) fun v hv H3 g3 => ?_⟩
    obtain ⟨beats, rfl⟩ : ∃ n : Int, v = .int n := by
      simp only [List.mem_cons, List.not_mem_nil, or_false] at hv
      rcases hv with rfl | rfl | rfl | rfl | rfl <;> exact ⟨_, rfl⟩
    have g23 := g2.trans g3
    have d2' := dp_but (d := .tuple (mo.2.1.map hdD)) g3.1 _ (tup_hds mo.2.1) d2
    refine ⟨fun σ'' H'' => ∃ (v4 : V) (hs : List Hd), σ'' = [some (.ref b), some (.ref D), some (.int (0 + i)), some (.int beats), some v4, some (.int mo.2.2)] ∧ Gone K H3 b c H'' ∧ Dp K H'' v4 (.tuple (hs.map hdD)) ∧ hs.length ≤ 8 ∧ ∀ h ∈ hs, Hd.ok h, ?_, ?_⟩
    · refine ⟨fun _ H4 => Gone K H3 b c H4, ?_, ?_⟩
      · refine ⟨_, rfl, by decide, fun p np => ⟨_, .tuple [], dp_but (d := .tuple (mo.2.1.map hdD)) (But.refl.new np) _ (tup_hds mo.2.1) d2', .tup (SqT.of upd_same) .nil, shp_hds mok.2, rfl, _, rfl, ?_⟩⟩
        have g4 := (Gone.refl g3.2).new (o := .tup []) np
        exact ite2 (fun _ => pullR rfl g4.2 (by decide) (by decide) fun H5 r5 g5 _ _ => ⟨_, _, rfl, rfl, _, rfl, g4.trans g5⟩) fun _ => g4
      · rintro b' H4 g4
        refine ite2 (fun _ => pullR rfl g4.2 (by decide) (by decide) fun H5 r5 g5 _ _ => ⟨_, _, rfl, rfl, by show 3 ≤ sizeLine; decide, fun t nt => ⟨by show 1 ≤ sizeLine; decide, fun u nu => ?_⟩⟩) fun _ => ⟨v2, mo.2.1, rfl, g4, dp_but (d := .tuple (mo.2.1.map hdD)) g4.1 _ (tup_hds mo.2.1) d2', mok⟩
        exact ⟨.ref u, [(0, r5 - 12, "")], rfl, ((g4.trans g5).new nt).new nu, .tup (SqT.of upd_same) (.cons (dp_hd (sqT_new (SqT.of upd_same) nu)) .nil), by simp, fun h hh => by rw [show h = ((0, r5 - 12, "") : Hd) by simpa using hh]; exact .head _⟩
    · rintro σ'' H'' ⟨v4, hs, rfl, g4, d4, ok4⟩
      have g24 := g23.trans g4
      refine ⟨_, rfl, .inl ⟨rfl, _, SqL.of (g24.at ac.at_ nDb)⟩, _, rfl, _, rfl, _, rfl, by show 3 ≤ sizeLine; decide, fun t nt => ?_⟩
      have g25 := g24.new (o := .tup [.int beats, v4, .int mo.2.2]) nt
      have dm : Dp K (upd H'' t (.tup [.int beats, v4, .int mo.2.2])) (.ref t) (moD (beats, hs, mo.2.2)) := .tup (SqT.of upd_same) (.cons (.int _) (.cons (dp_but (d := .tuple (hs.map hdD)) (But.refl.new nt) _ (tup_hds hs) d4) (.cons (.int _) .nil)))
      obtain ⟨hD, ac'⟩ := ac.push g25.1 (by simpa using nDb) dm (tup_mos m) (tup_mo _)
      have hl2 := dpa_length ac.da
      rw [List.length_map] at hl2
      refine ⟨D, _, _, rfl, rfl, hD, by rw [sizeLine_eq]; omega, _, m ++ [(beats, hs, mo.2.2)], _, _, _, _, rfl, by rw [List.map_append]; exact ac', ?_, ?_, by simp [hl]⟩
      · exact g25.2.but (But.one (nt_lst hD)) (by simpa using Ne.symm nDb) (by simpa using Ne.symm (hb.nec nD).2)
      · intro x hx
        rcases List.mem_append.mp hx with hx | hx
        · exact ok x hx
        · rw [show x = (beats, hs, mo.2.2) by simpa using hx]; exact ok4
  · rintro σ' H' ⟨ys, m, x2, x3, x4, x5, rfl, ac, hb', ok, hl⟩
    refine ⟨_, rfl, D, _, rfl, .inl ⟨SqL.of ac.at_, fun t nt => k _ _ m ?_ (.tup (SqT.of upd_same) (dps_but (But.refl.new nt) _ _ (tup_mos m) ac.da)) ok ?_ ?_⟩⟩
    · refine Gone.new (H1 := H') ⟨(g0.trans g1).1.thn ac.but fun x hx => ?_, hb'⟩ nt
      rcases List.mem_cons.mp hx with rfl | hx
      · exact .inr nD
      · exact .inl hx
    · omega
    · omega
end Bu
set_option Elab.async false
set_option linter.all false
set_option maxRecDepth 100000
set_option maxHeartbeats 4000000
/-! Data written in the text. -/
namespace Bu
open PySem PySem.Spec PyProof.Rows L2
/-- an expression that makes the data d of constants -/
def LitE (t : TE) (d : PyData) : Prop := tupD d = true ∧ ∀ (K : PySem.W.Frag) (σ : L2.St) (H : Hp) (Q : VK), (∀ H' v, But [] H H' → Dp K H' v d → Q v H') → t σ H Q
def LitA (t : TA) (ds : List PyData) : Prop := tupDs ds = true ∧ ds.length ≤ 100 ∧ ∀ (K : PySem.W.Frag) (σ : L2.St) (H : Hp) (Q : List V → Hp → Prop), (∀ H' vs, But [] H H' → DpAll K H' vs ds → Q vs H') → t σ H Q
theorem LitE.int {i : Int} : LitE (tC (.int i)) (.int i) := ⟨rfl, fun K σ H Q h => h H _ But.refl (.int i)⟩
theorem LitE.neg {i : Int} : LitE (tUn (rU fun i => .int (-i)) (tC (.int i))) (.int (-i)) := ⟨rfl, fun K σ H Q h => ⟨i, rfl, h H _ But.refl (.int (-i))⟩⟩
theorem LitE.str {x : Str} : LitE (tC (.str x)) (.str x) := ⟨rfl, fun K σ H Q h => h H _ But.refl (.str x)⟩
theorem LitA.nil : LitA tNil [] := ⟨rfl, by decide, fun K σ H Q h => h H [] But.refl .nil⟩
theorem LitA.cons {t : TE} {u : TA} {d : PyData} {ds : List PyData} (a : LitE t d) (b : LitA u ds) (h : ds.length < 100 := by decide) : LitA (tCons t u) (d :: ds) :=
  ⟨by show (tupD d && tupDs ds) = true; rw [a.1, b.1]; rfl, h, fun K σ H Q k => a.2 K σ H _ fun H1 v b1 d1 => b.2.2 K σ H1 _ fun H2 vs b2 d2 => k H2 (v :: vs) (b1.trans b2) (.cons (dp_but b2 _ _ a.1 d1) d2)⟩
theorem LitE.tup {t : TA} {ds : List PyData} (a : LitA t ds) : LitE (tTup t) (.tuple ds) := ⟨a.1, fun K σ H Q k => a.2.2 K σ H _ fun H1 vs b1 da => ⟨by
  have := dpa_length da
  have := a.2.1
  rw [sizeLine_eq]; omega, fun p np => k _ _ (b1.trans (But.refl.new np)) (.tup (SqT.of upd_same) (dps_but (But.refl.new np) _ _ a.1 da))⟩⟩
theorem LitE.run {K : PySem.W.Frag} {t : TE} {d : PyData} {σ : L2.St} {H : Hp} {Q : VK} (a : LitE t d) (k : ∀ H' v, But [] H H' → Dp K H' v d → Q v H') : t σ H Q := a.2 K σ H Q k
theorem LitA.run {K : PySem.W.Frag} {t : TA} {ds : List PyData} {σ : L2.St} {H : Hp} {Q : List V → Hp → Prop} (a : LitA t ds) (k : ∀ H' vs, But [] H H' → DpAll K H' vs ds → Q vs H') : t σ H Q := a.2.2 K σ H Q k
theorem LitA.lst {K : PySem.W.Frag} {t : TA} {ds : List PyData} {σ : L2.St} {H : Hp} {Q : VK} (a : LitA t ds) (k : ∀ H' vs p, But [] H H' → DpAll K H' vs ds → H' p = none → Q (.ref p) (upd H' p (.lst vs))) : tLst t σ H Q :=
  a.2.2 K σ H _ fun H1 vs b1 da => ⟨by
    have := dpa_length da
    have := a.2.1
    rw [sizeLine_eq]; omega, fun p np => k H1 vs p b1 da np⟩
/-- the rules: written data in one step -/
def tLit (K : PySem.W.Frag) (d : PyData) : TE := fun _ H Q => ∀ H' v, But [] H H' → Dp K H' v d → Q v H'
def tLitL (K : PySem.W.Frag) (ds : List PyData) : TE := fun _ H Q => ∀ H' vs p, But [] H H' → DpAll K H' vs ds → H' p = none → Q (.ref p) (upd H' p (.lst vs))
theorem pe_lit {X : Cx} {e : Expr} {t : TE} {d : PyData} {K : PySem.W.Frag} (l : LitE t d) (h : PE X e t) : PE X e (tLit K d) := ⟨fun pins s σ H Q I q => h.run pins s σ H Q I (l.run q)⟩
theorem pe_litL {X : Cx} {e : Expr} {t : TA} {ds : List PyData} {K : PySem.W.Frag} (l : LitA t ds) (h : PE X e (tLst t)) : PE X e (tLitL K ds) := ⟨fun pins s σ H Q I q => h.run pins s σ H Q I (l.lst q)⟩
/-! ### slices, sums -/
def cutL {α : Type} (xs : List α) (lo hi : Option Int) : List α := (xs.drop (HT.sIx xs.length 0 lo)).take (HT.sIx xs.length xs.length hi - HT.sIx xs.length 0 lo)
theorem cutL_map {α β : Type} (f : α → β) (xs : List α) (lo hi : Option Int) : cutL (xs.map f) lo hi = (cutL xs lo hi).map f := by
  unfold cutL
  rw [List.length_map, ← List.map_drop, ← List.map_take]
theorem cutL_mem {α : Type} {xs : List α} {lo hi : Option Int} {x : α} (h : x ∈ cutL xs lo hi) : x ∈ xs := List.mem_of_mem_drop (List.mem_of_mem_take h)
theorem cutL_len {α : Type} (xs : List α) (lo hi : Option Int) : (cutL xs lo hi).length ≤ xs.length := by
  unfold cutL
  rw [List.length_take, List.length_drop]; omega
theorem cutL_two {α : Type} (xs : List α) {i : Int} (h : 0 ≤ i) : (cutL xs none (some i)).length + (cutL xs (some i) none).length ≤ xs.length := by
  obtain ⟨j, rfl⟩ : ∃ j : Nat, i = (j : Int) := ⟨i.toNat, by omega⟩
  unfold cutL
  rw [HT.sIx_none, HT.sIx_none, HT.sIx_nat, HT.sIx_nat, List.length_take, List.length_drop, List.length_take, List.length_drop]
  omega
theorem slA_end {K : PySem.W.Frag} {H : Hp} {x : V} {lo hi : Option Int} {ds : List PyData} {Q : VK} (h : Dp K H x (.tuple ds)) (t : tupDs ds = true) (k : ∀ v H', But [] H H' → Dp K H' v (.tuple (cutL ds lo hi)) → Q v H') : rSlA K x lo hi H Q := by
  obtain ⟨a, vs, rfl, ht, da⟩ := dp_tup h
  have hl := dpa_length da
  refine ⟨a, vs, rfl, ht, fun hw => k _ _ But.refl ?_, fun _ p np => k _ _ (But.refl.new np) (.tup (SqT.of upd_same) ?_)⟩
  · have e : cutL ds lo hi = ds := by
      unfold cutL
      rw [← hl, hw.1, hw.2, List.drop_zero, Nat.sub_zero, List.take_of_length_le (by omega)]
    rw [e]; exact h
  · have e : DpAll K H (cutV vs lo hi) (cutL ds lo hi) := by
      unfold cutL cutV
      rw [← hl]
      exact dpa_take _ (dpa_drop _ da)
    have t2 : tupDs (cutL ds lo hi) = true := by
      have aux : ∀ {l : List PyData}, tupDs l = true → ∀ n, tupDs (l.drop n) = true ∧ tupDs (l.take n) = true := by
        intro l
        induction l with
        | nil => intro h n; simp [h]
        | cons d r ih =>
          intro h n
          have h' : (tupD d && tupDs r) = true := h
          rw [Bool.and_eq_true] at h'
          cases n with
          | zero => exact ⟨h, rfl⟩
          | succ n =>
            obtain ⟨h1, h2⟩ := ih h'.2 n
            exact ⟨h1, by show (tupD d && tupDs (r.take n)) = true; rw [h'.1, h2]; rfl⟩
      unfold cutL
      exact (aux ((aux t _).1) _).2
    exact dps_but (But.refl.new np) _ _ t2 e
/-- the sum of two tuples of data -/
theorem catA_end {K : PySem.W.Frag} {H : Hp} {x y : V} {ds es : List PyData} {Q : VK} (h1 : Dp K H x (.tuple ds)) (h2 : Dp K H y (.tuple es)) (t1 : tupDs ds = true) (t2 : tupDs es = true) (hz : ds.length + es.length ≤ 100000) (k : ∀ v H', But [] H H' → Dp K H' v (.tuple (ds ++ es)) → Q v H') : rCatA K x y H Q := by
  obtain ⟨a, vs, rfl, ht, da⟩ := dp_tup h1
  obtain ⟨b, ws, rfl, hu, db⟩ := dp_tup h2
  have l1 := dpa_length da
  have l2 := dpa_length db
  refine ⟨a, b, vs, ws, rfl, rfl, ht, hu, by rw [sizeLine_eq]; omega, fun e => ?_, fun _ e => ?_, fun _ _ p np => k _ _ (But.refl.new np) (.tup (SqT.of upd_same) ?_)⟩
  · subst e
    have e0 : ds = [] := List.length_eq_zero_iff.mp (by simpa using l1.symm)
    subst e0
    exact k _ _ But.refl h2
  · subst e
    have e0 : es = [] := List.length_eq_zero_iff.mp (by simpa using l2.symm)
    subst e0
    rw [List.append_nil] at k
    exact k _ _ But.refl h1
  · exact dps_but (But.refl.new np) _ _ (tupDs_app t1 t2) (dpa_app da db)
theorem dpa_mem {K : PySem.W.Frag} {H : Hp} : ∀ {vs : List V} {ds : List PyData} {v : V}, DpAll K H vs ds → v ∈ vs → ∃ d ∈ ds, Dp K H v d
  | _, _, _, .nil, h => absurd h (by simp)
  | _, _, v, .cons p q, h => by
    rcases List.mem_cons.mp h with rfl | h
    · exact ⟨_, List.mem_cons_self, p⟩
    · obtain ⟨d, h1, h2⟩ := dpa_mem q h
      exact ⟨d, List.mem_cons_of_mem _ h1, h2⟩
theorem cutL_four (sh : List Int) (h : sh.length = 5) : (cutL sh none (some 4)).length = 4 := by
  unfold cutL
  rw [HT.sIx_none, show (some (4 : Int)) = some ((4 : Nat) : Int) from rfl, HT.sIx_nat, List.length_take, List.length_drop]
  omega
end Bu
set_option Elab.async false
set_option linter.all false
set_option maxRecDepth 100000
set_option maxHeartbeats 4000000
namespace Bu
open PySem PySem.Spec PyProof.Rows L2
def spBar (K : PySem.W.Frag) : Sp := fun vs H Q _ => ∃ (b c : Addr) (n : Int), vs = [.ref b, .int n] ∧ BagAt K H b c ∧ 0 < n ∧ n ≤ 6 ∧
  ∀ (H' : Hp) (v : V) (m : Br), Gone K H b c H' → Dp K H' v (brD m) → Br.ok m → 1 ≤ m.length → m.length ≤ 6 → Q v H'
abbrev n_law_bar : List Str := ["_law_bag_here", "_law_most", "_law_k"]
theorem sc_law_bar : FnScope n_law_bar ["_law_bag_here", "_law_most"] d_law_bar.scope := C8.fnScope_by (by decide +kernel)
theorem cal_bar {P : Program} {w : World} {K : PySem.W.Frag} {mg : Str → Option Value} {base : Heap} (C : Cn w K mg)  : Cal P w K mg base CX0 4 "_law_bar" (spBar K) := by
  refine C.cal 40 40 d_law_bar sc_law_bar (fun _ _ _ _ _ _ us hl => match us, hl with | [_, _], _ => rfl) (fun vs H Q E h => ?_) (fun f cdv A outer s H vs Q E hr h => ?_)
  · obtain ⟨b, c, n, rfl, _⟩ := h
    rfl
  have nd := sc_law_bar.nd
  refine ⟨_, PSs.nox (pss_one (ps_ret (pe_callTy call_tuple_of (by rfl) (C.free 71) (by decide +kernel) (pa_cons (pe_lc (own := [("_law_k", 2)]) (tt := tYes) rfl nd (pi_range1 rfl (C.free 68) (pa_cons (pe_op op_add pe_int (pe_c (cal_pull C) hr (pa_cons (pv 0) (pa_cons (pv 1) pa_nil)))) pa_nil)) (blkOk_by (own := [("_law_k", 2)]) (N := n_law_bar) (sc := d_law_bar.scope) (by decide +kernel)) (fun _ _ _ _ _ => (pg_name (i := 2) nd rfl (by first | exact Or.inl rfl | exact Or.inr rfl))) (fun _ _ _ _ _ => pts_nil) (fun _ _ _ _ _ => (pe_c (cal_moment C) hr (pa_cons (pv 0) pa_nil)))) pa_nil)))), ?_⟩
  obtain ⟨b, c, n, rfl, hb, n0, n6, k⟩ := h
  refine ⟨_, rfl, _, rfl, b, c, n, rfl, hb, n0, by omega, fun H1 r g1 r0 r1 => ⟨_, _, rfl, rfl, 1 + r, rfl, by omega, by omega, fun D nD => ?_⟩⟩
  have nD0 : H D = none := g1.free nD
  have nDb : D ≠ b := Gone.ne hb nD0
  have g2 : Gone K H b c (upd H1 D (.lst [])) := g1.new nD
  refine lc_range (lo := 0) (n := (1 + r).toNat) (fun i H2 => ∃ (ys : List V) (m : Br), Acc K [b] (upd H1 D (.lst [])) D (m.map moD) H2 ys ∧ BagAt K H2 b c ∧ Br.ok m ∧ m.length = i) ?_ ?_ ?_
  · exact ⟨[], [], Acc.start upd_same (fun x hx => by rw [show x = b by simpa using hx]; exact g2.2.nt), g2.2, (fun m z => by cases z), rfl⟩
  · rintro i H2 hi ⟨ys, m, ac, hb', ok, hl⟩
    refine ⟨rfl, ⟨_, rfl, b, c, rfl, hb', fun H3 v mo g3 dp mok => ?_⟩⟩
    obtain ⟨hD, ac'⟩ := ac.push g3.1 (by simpa using nDb) dp (tup_mos m) (tup_mo _)
    have hl2 := dpa_length ac.da
    rw [List.length_map] at hl2
    refine ⟨_, hD, by rw [sizeLine_eq]; omega, _, m ++ [mo], by rw [List.map_append]; exact ac', ?_, ?_, by simp [hl]⟩
    · exact g3.2.but (But.one (nt_lst hD)) (by simpa using Ne.symm nDb) (by simpa using Ne.symm (hb.nec nD0).2)
    · intro x hx
      rcases List.mem_append.mp hx with hx | hx
      · exact ok x hx
      · rw [show x = mo by simpa using hx]; exact mok
  · rintro H2 ⟨ys, m, ac, hb', ok, hl⟩
    refine ⟨D, ys, rfl, .inl ⟨SqL.of ac.at_, fun t nt => k _ _ m ?_ (.tup (SqT.of upd_same) (dps_but (But.refl.new nt) _ _ (tup_mos m) ac.da)) ok (by omega) (by omega)⟩⟩
    refine Gone.new (H1 := H2) ⟨g2.1.thn ac.but fun x hx => ?_, hb'⟩ nt
    rcases List.mem_cons.mp hx with rfl | hx
    · exact .inr nD0
    · exact .inl hx
def spAny (K : PySem.W.Frag) : Sp := fun vs H Q _ => ∃ (b c : Addr) (n : Int), vs = [.ref b, .int n] ∧ BagAt K H b c ∧ 0 < n ∧ n ≤ 6 ∧
  ∀ (H' : Hp) (v : V) (m : Br), Gone K H b c H' → Dp K H' v (brD m) → Br.ok m → m.length ≤ 16 → Q v H'
abbrev n_law_any_bar : List Str := ["_law_bag_here", "_law_size", "_law_music", "_law_at", "_law_odd"]
theorem sc_law_any_bar : FnScope n_law_any_bar ["_law_bag_here", "_law_size"] d_law_any_bar.scope := C8.fnScope_by (by decide +kernel)
theorem cal_any_bar {P : Program} {w : World} {K : PySem.W.Frag} {mg : Str → Option Value} {base : Heap} (C : Cn w K mg)  : Cal P w K mg base CX0 5 "_law_any_bar" (spAny K) := by
  refine C.cal 41 41 d_law_any_bar sc_law_any_bar (fun _ _ _ _ _ _ us hl => match us, hl with | [_, _], _ => rfl) (fun vs H Q E h => ?_) (fun f cdv A outer s H vs Q E hr h => ?_)
  · obtain ⟨b, c, n, rfl, _⟩ := h
    rfl
  have nd := sc_law_any_bar.nd
  refine ⟨_, PSs.nox (C8.pss_cut (ps_set (i := 2) nd rfl (by first | exact Or.inl rfl | exact Or.inr rfl) (pe_ifExp (pt_cmpR op_eq (pe_c (cal_pull C) hr (pa_cons (pv 0) (pa_cons pe_int pa_nil))) pe_int (nomark _)) (pe_slice sl_tupA (pe_c (cal_quick_bar C) hr (pa_cons (pv 0) pa_nil)) po_none (po_some (pv 1))) (pe_c (cal_bar C) hr (pa_cons (pv 0) (pa_cons (pv 1) pa_nil))))) (C8.pss_cut (ps_if (pt_cmpR op_eq (pe_c (cal_pull C) hr (pa_cons (pv 0) (pa_cons pe_int pa_nil))) pe_int (nomark _)) (pss_cons (ps_set (i := 3) nd rfl (by first | exact Or.inl rfl | exact Or.inr rfl) (pe_c (cal_pull C) hr (pa_cons (pv 0) (pa_cons (pe_op op_add (pe_callB call_len_seq (by rfl) (C.free 67) (by decide +kernel) (pa_cons (pv 2) pa_nil)) pe_int) pa_nil)))) (pss_cons (ps_set (i := 4) nd rfl (by first | exact Or.inl rfl | exact Or.inr rfl) (pe_litL (K := K) (.cons (.tup (.cons .int (.cons (.tup .nil) (.cons .int .nil)))) (.cons (.tup (.cons .int (.cons (.tup (.cons (.tup (.cons .int (.cons .int (.cons .str .nil)))) .nil)) (.cons .int .nil)))) (.cons (.tup (.cons .int (.cons (.tup .nil) (.cons .int .nil)))) (.cons (.tup (.cons .int (.cons (.tup (.cons (.tup (.cons .int (.cons .int (.cons .str .nil)))) (.cons (.tup (.cons .int (.cons .int (.cons .str .nil)))) .nil))) (.cons .int .nil)))) (.cons (.tup (.cons .int (.cons (.tup .nil) (.cons .int .nil)))) .nil))))) (pe_lst (pa_cons (pe_tup (pa_cons pe_int (pa_cons (pe_tup pa_nil) (pa_cons pe_int pa_nil)))) (pa_cons (pe_tup (pa_cons pe_int (pa_cons (pe_tup (pa_cons (pe_tup (pa_cons pe_int (pa_cons pe_int (pa_cons pe_str pa_nil)))) pa_nil)) (pa_cons pe_int pa_nil)))) (pa_cons (pe_tup (pa_cons pe_int (pa_cons (pe_tup pa_nil) (pa_cons pe_int pa_nil)))) (pa_cons (pe_tup (pa_cons pe_int (pa_cons (pe_tup (pa_cons (pe_tup (pa_cons pe_int (pa_cons pe_int (pa_cons pe_str pa_nil)))) (pa_cons (pe_tup (pa_cons pe_int (pa_cons pe_int (pa_cons pe_str pa_nil)))) pa_nil))) (pa_cons pe_int pa_nil)))) (pa_cons (pe_tup (pa_cons pe_int (pa_cons (pe_tup pa_nil) (pa_cons pe_int pa_nil)))) pa_nil)))))))) (C8.pss_cut (ps_set (i := 2) nd rfl (by first | exact Or.inl rfl | exact Or.inr rfl) (pe_op op_catA (pe_op op_catA (pe_slice sl_tupA (pv 2) po_none (po_some (pv 3))) (pe_tup (pa_cons (pe_ix ix_list (pv 4) (pe_c (cal_pull C) hr (pa_cons (pv 0) (pa_cons pe_int pa_nil))) (fun _ _ => rfl)) pa_nil))) (pe_slice sl_tupA (pv 2) (po_some (pv 3)) po_none))) (pss_one (ps_set (i := 2) nd rfl (by first | exact Or.inl rfl | exact Or.inr rfl) (pe_ix ix_list (pe_lst (pa_cons (pv 2) (pa_cons (pe_lit (K := K) (.tup .nil) (pe_tup pa_nil)) (pa_cons (pe_op op_catA (pv 2) (pe_op op_repT (pe_lit (K := K) (.tup (.cons (.tup (.cons .int (.cons (.tup .nil) (.cons .int .nil)))) .nil)) (pe_tup (pa_cons (pe_tup (pa_cons pe_int (pa_cons (pe_tup pa_nil) (pa_cons pe_int pa_nil)))) pa_nil))) pe_int)) pa_nil)))) (pe_c (cal_pull C) hr (pa_cons (pv 0) (pa_cons pe_int pa_nil))) (fun _ _ => rfl))))))) pss_nil) (pss_one (ps_ret (pv 2))))), ?_⟩
  obtain ⟨b, c, n, rfl, hb, n0, n6, k⟩ := h
  refine ⟨fun σ' H' => ∃ (v : V) (m : Br), σ' = [some (.ref b), some (.int n), some v, none, none] ∧ Gone K H b c H' ∧ Dp K H' v (brD m) ∧ Br.ok m ∧ m.length ≤ 6, ?_, ?_⟩
  · refine pullR rfl hb (by decide) (by decide) fun H1 r1 g1 _ _ => ⟨rfl, _, rfl, ite2 (fun _ => ?_) (fun _ => ?_)⟩
    · refine ⟨_, rfl, b, c, rfl, g1.2, fun H2 v m g2 dp ok l1 l6 => ⟨_, rfl, _, rfl, slA_end dp (tup_mos m) fun v' H3 bt dp' => ⟨v', cutL m none (some n), rfl, (g1.trans g2).step bt, ?_, fun x hx => ok x (cutL_mem hx), Nat.le_trans (cutL_len _ _ _) l6⟩⟩⟩
      rw [cutL_map] at dp'
      exact dp'
    · exact ⟨_, rfl, _, rfl, b, c, n, rfl, g1.2, n0, n6, fun H2 v m g2 dp ok l1 l6 => ⟨v, m, rfl, g1.trans g2, dp, ok, l6⟩⟩
  · rintro σ' H1 ⟨v, m, rfl, g1, dp, ok, l6⟩
    refine ⟨fun σ' H' => ∃ (v : V) (m : Br) (x3 x4 : Option V), σ' = [some (.ref b), some (.int n), some v, x3, x4] ∧ Gone K H b c H' ∧ Dp K H' v (brD m) ∧ Br.ok m ∧ m.length ≤ 16, ?_, ?_⟩
    · refine pullR rfl g1.2 (by decide) (by decide) fun H2 r2 g2 _ _ => ⟨rfl, _, rfl, ite2 (fun _ => ?_) (fun _ => ⟨v, m, none, none, rfl, g1.trans g2, dp_but g2.1 _ _ (tup_br m) dp, ok, by omega⟩)⟩
      have g12 := g1.trans g2
      have dp2 : Dp K H2 v (brD m) := dp_but g2.1 _ _ (tup_br m) dp
      obtain ⟨a, vs, rfl, ht, da⟩ := dp_tup dp2
      have hlen : vs.length = m.length := by rw [dpa_length da, List.length_map]
      refine ⟨_, rfl, _, rfl, a, vs, rfl, .inr ht, _, _, rfl, rfl, b, c, _, rfl, g12.2, by omega, by omega, fun H3 r3 g3 r30 r31 => ?_⟩
      have dp3 : Dp K H3 (.ref a) (brD m) := dp_but g3.1 _ _ (tup_br m) dp2
      intro H4 os l b4 do_ nl
      have g4 : Gone K H b c (upd H4 l (.lst os)) := ((g12.trans g3).step b4).new nl
      have b34 : But [] H3 (upd H4 l (.lst os)) := b4.trans (But.refl.new nl)
      have nlb : l ≠ b := Gone.ne ((g12.trans g3).step b4).2 nl
      have dos : DpAll K (upd H4 l (.lst os)) os (([(0, [], 0), (1, [(4, 0, "")], 0), (33, [], 0), (4, [(0, 1, ""), (0, 1, "s")], 0), (1, [], 41)] : Br).map moD) := dps_but (But.refl.new nl) _ _ (tup_mos _) do_
      have dp4 : Dp K (upd H4 l (.lst os)) (.ref a) (brD m) := dp_but b34 _ _ (tup_br m) dp3
      have hos : os.length = 5 := dpa_length do_
      have ookB : Br.ok ([(0, [], 0), (1, [(4, 0, "")], 0), (33, [], 0), (4, [(0, 1, ""), (0, 1, "s")], 0), (1, [], 41)] : Br) := by
        unfold Br.ok Mo.ok Hd.ok signs
        decide
      generalize hH4 : upd H4 l (.lst os) = H5 at *
      refine ⟨fun σ' H' => ∃ (v : V) (m' : Br) (x3 x4 : Option V), σ' = [some (.ref b), some (.int n), some v, x3, x4] ∧ Gone K H b c H' ∧ Dp K H' v (brD m') ∧ Br.ok m' ∧ m'.length ≤ 7, ?_, ?_⟩
      · refine ⟨_, rfl, _, rfl, _, rfl, slA_end dp4 (tup_mos m) fun v1 H6 b6 d6 => ?_⟩
        rw [cutL_map] at d6
        have g6 := g4.step b6
        refine ⟨_, rfl, pullR rfl g6.2 (by decide) (by decide) fun H7 r7 g7 r70 r71 => ?_⟩
        obtain ⟨j, rfl⟩ : ∃ j : Nat, r7 = (j : Int) := ⟨r7.toNat, by omega⟩
        have hj : j < os.length := by omega
        have do7 := dps_but g7.1 _ _ (tup_mos _) (dps_but b6 _ _ (tup_mos _) dos)
        obtain ⟨dj, hdj, dpj⟩ := dpa_get do7 (List.getElem?_eq_getElem hj)
        rw [List.getElem?_map] at hdj
        obtain ⟨mo, hmo, rfl⟩ := Option.map_eq_some_iff.mp hdj
        have mok := ookB mo (List.mem_of_getElem? hmo)
        have hl5 : H5 l = some (.lst os) := by rw [← hH4, upd_same]
        have hl7 : H7 l = some (.lst os) := g7.at (b6.keep l _ hl5 (by simp)) nlb
        refine ⟨l, os, j, os[j], rfl, rfl, SqL.of hl7, atI_nat (List.getElem?_eq_getElem hj), by show 1 ≤ sizeLine; decide, fun t nt => ?_⟩
        have d6' : Dp K (upd H7 t (.tup [os[j]])) v1 (brD (cutL m none (some r3))) := dp_but (But.refl.new nt) _ _ (tup_br _) (dp_but g7.1 _ _ (tup_br _) d6)
        have dt : Dp K (upd H7 t (.tup [os[j]])) (.ref t) (brD [mo]) := .tup (SqT.of upd_same) (.cons (dp_but (But.refl.new nt) _ _ (tup_mo _) dpj) .nil)
        refine catA_end d6' dt (tup_mos _) (tup_mos _) (by simp only [List.length_map, List.length_singleton]; have := cutL_len m none (some r3); omega) fun v2 H8 b8 d8 => ?_
        have g8 := ((g6.trans g7).new (o := .tup [os[j]]) nt).step b8
        have dpm : Dp K H8 (.ref a) (brD m) := dp_but b8 _ _ (tup_br _) (dp_but (But.refl.new nt) _ _ (tup_br _) (dp_but g7.1 _ _ (tup_br _) (dp_but b6 _ _ (tup_br _) dp4)))
        refine ⟨_, rfl, _, rfl, _, rfl, ?_⟩
        dsimp only [tNoPart]
        refine slA_end dpm (tup_mos m) fun v3 H9 b9 d9 => ?_
        rw [cutL_map] at d9
        have e8 : (.tuple ((cutL m none (some r3)).map moD ++ [mo].map moD) : PyData) = brD (cutL m none (some r3) ++ [mo]) := by unfold brD; rw [List.map_append]
        rw [e8] at d8
        have h1 := cutL_len m none (some r3)
        have h2 := cutL_len m (some r3) none
        refine catA_end (dp_but b9 _ _ (tup_br _) d8) d9 (tup_mos _) (tup_mos _) (by simp only [List.length_map, List.length_append, List.length_singleton]; omega) fun v4 H10 b10 d10 => ?_
        refine ⟨v4, cutL m none (some r3) ++ [mo] ++ cutL m (some r3) none, _, _, rfl, (g8.step b9).step b10, by unfold brD; rw [List.map_append]; exact d10, fun x hx => ?_, ?_⟩
        · rcases List.mem_append.mp hx with hx | hx
          · rcases List.mem_append.mp hx with hx | hx
            · exact ok x (cutL_mem hx)
            · rw [show x = mo by simpa using hx]; exact mok
          · exact ok x (cutL_mem hx)
        · simp only [List.length_append, List.length_singleton]
          have h3 : (cutL m none (some r3)).length + (cutL m (some r3) none).length ≤ m.length := cutL_two m r30
          omega
      · rintro σ' H6 ⟨v, m', x3, x4, rfl, g6, dp6, ok6, l7⟩
        refine ⟨_, rfl, fun H7 e bt1 de => ⟨_, rfl, fun H8 x bt dx => ?_⟩⟩
        obtain ⟨q, us, rfl, hq, du⟩ := dp_tup dx
        obtain ⟨u, r, e0, du1, dn⟩ := dpa_cons du
        cases dpa_nil dn
        subst e0
        have b68 : But [] H6 H8 := bt1.trans bt
        refine ⟨q, 6, [u], rfl, rfl, hq, (fun z => nomatch z), by decide, by decide, by show 1 ≤ 1000; decide, fun p np => ?_⟩
        have b69 := b68.trans (But.refl.new (o := .tup (List.replicate (Int.toNat 6) [u]).flatten) np)
        have du' : Dp K (upd H8 p (.tup (List.replicate (Int.toNat 6) [u]).flatten)) u (moD (1, [], 0)) := dp_but (But.refl.new np) _ _ (tup_mo (1, [], 0)) du1
        have dsix : Dp K (upd H8 p (.tup (List.replicate (Int.toNat 6) [u]).flatten)) (.ref p) (brD [(1, [], 0), (1, [], 0), (1, [], 0), (1, [], 0), (1, [], 0), (1, [], 0)]) :=
          .tup (SqT.of upd_same) (.cons du' (.cons du' (.cons du' (.cons du' (.cons du' (.cons du' .nil))))))
        refine catA_end (dp_but b69 _ _ (tup_br m') dp6) dsix (tup_mos _) (tup_mos _) (by simp only [List.length_map, List.length_cons, List.length_nil]; omega) fun v4 H10 b10 d10 => ?_
        have b610 := b69.trans b10
        have g10 := g6.step b610
        refine pick_end (n := 3) rfl g10.2 rfl (by decide) (by decide) fun y hy H11 g11 => ?_
        have six : Br.ok ([(1, [], 0), (1, [], 0), (1, [], 0), (1, [], 0), (1, [], 0), (1, [], 0)] : Br) := by
          intro m hm
          simp only [List.mem_cons, List.not_mem_nil, or_false, or_self] at hm
          subst hm
          exact ⟨by decide, fun h hh => by cases hh⟩
        obtain ⟨mm, dm, okm, lm⟩ : ∃ mm : Br, Dp K H10 y (brD mm) ∧ Br.ok mm ∧ mm.length ≤ 16 := by
          simp only [List.mem_cons, List.not_mem_nil, or_false] at hy
          rcases hy with rfl | rfl | rfl
          · exact ⟨m', dp_but b610 _ _ (tup_br m') dp6, ok6, by omega⟩
          · exact ⟨[], dp_but ((bt.trans (But.refl.new np)).trans b10) _ _ rfl de, (fun m z => by cases z), by decide⟩
          · refine ⟨m' ++ [(1, [], 0), (1, [], 0), (1, [], 0), (1, [], 0), (1, [], 0), (1, [], 0)], by unfold brD; rw [List.map_append]; exact d10, fun x hx => ?_, by simp only [List.length_append, List.length_cons, List.length_nil]; omega⟩
            rcases List.mem_append.mp hx with hx | hx
            · exact ok6 x hx
            · exact six x hx
        exact ⟨y, mm, _, _, rfl, g10.trans g11, dp_but g11.1 _ _ (tup_br mm) dm, okm, lm⟩
    · rintro σ' H' ⟨v, m, x3, x4, rfl, g, dp, ok, l⟩
      exact ⟨_, rfl, k _ _ m g dp ok l⟩
end Bu
set_option Elab.async false
set_option linter.all false
set_option maxRecDepth 100000
set_option maxHeartbeats 4000000
/-! The mirror: a stand, deeds, refusals; how a stand's parts lie in the heap. -/
namespace Bu
open PySem PySem.Spec PyProof.Rows L2
/-! ### maps as lists -/
section
variable {α : Type}
def getM (l : List (Int × α)) (n : Int) : Option α := (l.find? fun p => decide (p.1 = n)).map (·.2)
def putM (l : List (Int × α)) (n : Int) (x : α) : List (Int × α) := if (l.any fun p => decide (p.1 = n)) = true then l.map (fun p => if p.1 = n then (p.1, x) else p) else l ++ [(n, x)]
def dropM (l : List (Int × α)) (n : Int) : List (Int × α) := l.filter fun p => decide (p.1 ≠ n)
theorem getM_nil (n : Int) : getM ([] : List (Int × α)) n = none := rfl
theorem getM_cons (p : Int × α) (r : List (Int × α)) (n : Int) : getM (p :: r) n = if p.1 = n then some p.2 else getM r n := by
  unfold getM
  by_cases h : p.1 = n <;> simp [h]
theorem getM_mem {l : List (Int × α)} {n : Int} {x : α} (h : getM l n = some x) : (n, x) ∈ l := by
  induction l with
  | nil => cases h
  | cons p r ih =>
    rw [getM_cons] at h
    by_cases e : p.1 = n
    · rw [if_pos e] at h
      cases h
      rw [← e]; exact List.mem_cons_self
    · rw [if_neg e] at h
      exact List.mem_cons_of_mem _ (ih h)
theorem getM_isSome {l : List (Int × α)} {n : Int} : (getM l n).isSome = true ↔ n ∈ l.map (·.1) := by
  induction l with
  | nil => simp [getM]
  | cons p r ih =>
    rw [getM_cons]
    by_cases e : p.1 = n
    · simp [e]
    · rw [if_neg e, ih]
      simp [Ne.symm e]
theorem getM_put (l : List (Int × α)) (n k : Int) (x : α) : getM (putM l n x) k = if k = n then some x else getM l k := by
  unfold putM
  split
  · rename_i h
    induction l with
    | nil => simp at h
    | cons p r ih =>
      rw [List.map_cons, getM_cons, getM_cons]
      by_cases e : p.1 = n
      · rw [if_pos e]
        by_cases ek : k = n
        · simp [ek, e]
        · have : ¬ n = k := fun z => ek z.symm
          rw [e, if_neg this, if_neg ek, if_neg this]
          by_cases hr : (r.any fun p => decide (p.1 = n)) = true
          · rw [ih hr, if_neg ek]
          · have e2 : r.map (fun p => if p.1 = n then (p.1, x) else p) = r := by
              refine (List.map_congr_left fun q hq => ?_).trans (List.map_id r)
              by_cases z : q.1 = n
              · exact absurd (List.any_eq_true.mpr ⟨q, hq, decide_eq_true z⟩) hr
              · rw [if_neg z]; rfl
            rw [e2]
      · rw [if_neg e]
        have hr : (r.any fun p => decide (p.1 = n)) = true := by simpa [e] using h
        rw [ih hr]
        by_cases ek : k = n
        · subst ek; rw [if_pos rfl, if_neg e, if_pos rfl]
        · rw [if_neg ek, if_neg ek]
  · rename_i h
    induction l with
    | nil =>
      rw [List.nil_append, getM_cons]
      by_cases ek : k = n
      · simp [ek]
      · have : ¬ n = k := fun z => ek z.symm
        simp [ek, this, getM]
    | cons p r ih =>
      have e : ¬ p.1 = n := fun z => h (by simp [z])
      have hr : ¬ (r.any fun p => decide (p.1 = n)) = true := fun z => h (by simp [z])
      rw [List.cons_append, getM_cons, getM_cons, ih hr]
      by_cases ek : k = n
      · subst ek; rw [if_neg e, if_pos rfl, if_pos rfl]
      · rw [if_neg ek, if_neg ek]
theorem getM_drop (l : List (Int × α)) (n k : Int) : getM (dropM l n) k = if k = n then none else getM l k := by
  induction l with
  | nil => simp [dropM, getM]
  | cons p r ih =>
    unfold dropM at ih ⊢
    by_cases e : p.1 = n
    · rw [List.filter_cons_of_neg (by simp [e]), ih, getM_cons]
      by_cases ek : k = n
      · rw [if_pos ek, if_pos ek]
      · have : ¬ p.1 = k := fun z => ek (z.symm.trans e)
        rw [if_neg ek, if_neg ek, if_neg this]
    · rw [List.filter_cons_of_pos (by simp [e]), getM_cons, getM_cons, ih]
      by_cases ek : k = n
      · subst ek; rw [if_neg e, if_pos rfl, if_pos rfl]
      · rw [if_neg ek, if_neg ek]
end
/-! ### in the heap -/
/-- the entries of a dict and the map that they are -/
abbrev KvD {α : Type} (K : PySem.W.Frag) (H : Hp) (f : α → PyData) : List (Key × V) → List (Int × α) → Prop := Paired fun (p : Key × V) (q : Int × α) => p.1 = .inl q.1 ∧ Dp K H p.2 (f q.2)
def IsDk {α : Type} (K : PySem.W.Frag) (H : Hp) (a : Addr) (f : α → PyData) (l : List (Int × α)) : Prop := ∃ ks, H a = some (.dK ks) ∧ KvD K H f ks l
section
variable {α : Type} {K : PySem.W.Frag} {H H' : Hp} {f : α → PyData} {ks : List (Key × V)} {l : List (Int × α)} {n : Int} {a : Addr}
theorem paired_app {β γ : Type} {R : β → γ → Prop} : ∀ {a b : List β} {c d : List γ}, Paired R a c → Paired R b d → Paired R (a ++ b) (c ++ d)
  | _, _, _, _, .nil, q => q
  | _, _, _, _, .cons p r, q => .cons p (paired_app r q)
theorem kv_len (h : KvD K H f ks l) : ks.length = l.length := Paired.length h
theorem kv_keys (h : KvD K H f ks l) : ks.map (·.1) = (l.map (·.1)).map Sum.inl := by
  induction h with
  | nil => rfl
  | cons p _ ih => rw [List.map_cons, ih, p.1]; rfl
theorem kv_get (h : KvD K H f ks l) (n : Int) : (getM l n = none ∧ valV ks (.inl n) = none) ∨ ∃ x v, getM l n = some x ∧ valV ks (.inl n) = some v ∧ Dp K H v (f x) := by
  induction h with
  | nil => exact .inl ⟨rfl, rfl⟩
  | @cons p q ks l hp _ ih =>
    obtain ⟨e, d⟩ := hp
    by_cases hn : q.1 = n
    · refine .inr ⟨q.2, p.2, by rw [getM_cons, if_pos hn], ?_, d⟩
      unfold valV
      rw [List.find?_cons_of_pos (by rw [e, hn]; simp)]; rfl
    · rw [getM_cons, if_neg hn]
      have e2 : valV (p :: ks) (.inl n) = valV ks (.inl n) := by
        unfold valV
        rw [List.find?_cons_of_neg (by rw [e]; simp [hn])]
      rw [e2]
      exact ih
theorem kv_any (h : KvD K H f ks l) : (ks.any fun kv => decide (kv.1 = Sum.inl n)) = l.any fun p => decide (p.1 = n) := by
  induction h with
  | nil => rfl
  | @cons p q ks l hp _ ih =>
    rw [List.any_cons, List.any_cons, ih, hp.1]
    simp
theorem kv_put (h : KvD K H f ks l) {x : α} {v : V} (d : Dp K H v (f x)) : KvD K H f (putK ks (.inl n) v) (putM l n x) := by
  unfold putK putM
  rw [kv_any h]
  split
  · rename_i h0
    clear h0
    induction h with
    | nil => exact .nil
    | @cons p q ks l hp _ ih =>
      obtain ⟨e, dd⟩ := hp
      refine .cons ?_ ih
      dsimp only
      by_cases hn : q.1 = n
      · rw [if_pos (by rw [e, hn]), if_pos hn]
        exact ⟨e, d⟩
      · rw [if_neg (by rw [e]; simp [hn]), if_neg hn]
        exact ⟨e, dd⟩
  · exact paired_app h (.cons ⟨rfl, d⟩ .nil)
theorem kv_drop (h : KvD K H f ks l) : KvD K H f (dropK ks (.inl n)) (dropM l n) := by
  unfold dropK dropM
  induction h with
  | nil => exact .nil
  | @cons p q ks l hp _ ih =>
    obtain ⟨e, dd⟩ := hp
    by_cases hn : q.1 = n
    · rw [List.filter_cons_of_neg (by rw [e, hn]; simp), List.filter_cons_of_neg (by simp [hn])]
      exact ih
    · rw [List.filter_cons_of_pos (by rw [e]; simp [hn]), List.filter_cons_of_pos (by simp [hn])]
      exact .cons ⟨e, dd⟩ ih
theorem kv_but {M : List Addr} (b : But M H H') (t : ∀ x, tupD (f x) = true) (h : KvD K H f ks l) : KvD K H' f ks l := by
  induction h with
  | nil => exact .nil
  | cons hp _ ih => exact .cons ⟨hp.1, dp_but b _ _ (t _) hp.2⟩ ih
theorem IsDk.but {M : List Addr} (b : But M H H') (t : ∀ x, tupD (f x) = true) (n : a ∉ M) (h : IsDk K H a f l) : IsDk K H' a f l := by
  obtain ⟨ks, h1, h2⟩ := h
  exact ⟨ks, b.keep a _ h1 n, kv_but b t h2⟩
end
end Bu
set_option Elab.async false
set_option linter.all false
set_option maxRecDepth 100000
set_option maxHeartbeats 4000000
/-! The mirror: what deeds do to a stand. -/
namespace Bu
open PySem PySem.Spec PyProof.Rows L2
structure Sta where
  order : List Int
  music : List (Int × Br)
  spans : List (Int × Span)
  bound : List (Int × Str)
  sheet : Sheet
  fresh : Int × Int
/-- a refusal: its class, what it says, its number at a field -/
structure Er where
  cls : Str
  says : Str
  num : Option (Str × Int)
def Er.text (e : Er) : Str := match e.num with
  | none => e.says
  | some (_, n) => e.says ++ (" " : Str) ++ (toString n : Str)
def eDeed : Er := ⟨"BadDeed", "bad deed", none⟩
def ePlace : Er := ⟨"BadPlace", "bad place", none⟩
def eStaff : Er := ⟨"BadStaff", "bad staff", none⟩
def eSpan : Er := ⟨"BadSpan", "bad span", none⟩
def eThick : Er := ⟨"BadThick", "bad thick", none⟩
def eWord : Er := ⟨"BadWord", "bad word", none⟩
def eSame : Er := ⟨"Same", "same", none⟩
def eFull : Er := ⟨"Full", "full", none⟩
def ePaper : Er := ⟨"BadPaper", "bad paper", none⟩
def eBar (k : Int) : Er := ⟨"BadBar", "bad bar", some ("place", k)⟩
def eNoBar (n : Int) : Er := ⟨"NoBar", "no bar", some ("number", n)⟩
def eNoMoment (n : Int) : Er := ⟨"NoMoment", "no moment", some ("number", n)⟩
def eNoMark (n : Int) : Er := ⟨"NoMark", "no mark", some ("number", n)⟩
/-! ### bars -/
def headOk (h : Hd) : Bool := decide (0 ≤ h.1 ∧ h.1 ≤ 3) && decide (h.2.1.natAbs ≤ 12)
def below2 (a b : Hd) : Bool := decide (a.1 < b.1) || (decide (a.1 = b.1) && decide (a.2.1 < b.2.1))
def climbs : List Hd → Bool
  | a :: b :: r => below2 a b && climbs (b :: r)
  | _ => true
def momOk (m : Mo) : Bool := decide (1 ≤ m.1 ∧ m.1 ≤ 32) && (decide (m.2.1.length ≤ 8) && (decide (0 ≤ m.2.2 ∧ m.2.2 ≤ 40) && (m.2.1.all headOk && climbs m.2.1)))
def firstBad : List Mo → Nat → Option Nat
  | [], _ => none
  | m :: r, i => if momOk m then firstBad r (i + 1) else some i
def fault (b : Br) : Option Int := if b = [] then some 0 else match firstBad (b.take 6) 0 with
  | some i => some (i : Int)
  | none => if 6 < b.length then some 6 else none
/-! ### marks -/
def idx : List Int → Int → Nat
  | [], _ => 0
  | a :: r, n => if a = n then 0 else idx r n + 1
def tipIn (music : List (Int × Br)) (t : Tip) : Bool := match getM music t.1 with
  | none => false
  | some b => decide (0 ≤ t.2 ∧ t.2 < (b.length : Int))
def spotLe (order : List Int) (a b : Tip) : Bool := decide (idx order a.1 < idx order b.1) || (decide (idx order a.1 = idx order b.1) && decide (a.2 ≤ b.2))
def lies (order : List Int) (music : List (Int × Br)) (s : Span) : Bool := tipIn music s.2.1 && (tipIn music s.2.2.1 && spotLe order s.2.1 s.2.2.1)
def sweep (s : Sta) : Sta := { s with spans := s.spans.filter fun p => lies s.order s.music p.2 }
def insAt (l : List Int) (i : Int) (n : Int) : List Int := l.take i.toNat ++ [n] ++ l.drop i.toNat
def boundOf (s : Sta) (n : Int) : Str := (getM s.bound n).getD "free"
/-! ### deeds -/
def paperOk : Sheet → Bool
  | [w, l, f, t, g] => decide (20 ≤ w ∧ w ≤ 400) && (decide (1 ≤ l ∧ l ≤ 6) && (decide (0 ≤ f ∧ f ≤ 999) && (decide (0 ≤ t ∧ t ≤ 999) && decide (0 ≤ g ∧ g ≤ 999))))
  | _ => false
def faultE (m : Br) : Option Er := (fault m).map eBar
def bad (s : Sta) : De → Option Er
  | .bar at_ m => if ¬ (0 ≤ at_ ∧ at_ ≤ (s.order.length : Int)) then some ePlace else match faultE m with
    | some e => some e
    | none => if 12 ≤ s.order.length then some eFull else none
  | .change n m => if (getM s.music n).isNone then some (eNoBar n) else faultE m
  | .cut n => if (getM s.music n).isNone then some (eNoBar n) else none
  | .move n at_ => if (getM s.music n).isNone then some (eNoBar n) else if ¬ (0 ≤ at_ ∧ at_ < (s.order.length : Int)) then some ePlace else none
  | .mark (on, b, e, th) => if ¬ (0 ≤ on ∧ on ≤ 3) then some eStaff else if (getM s.music b.1).isNone then some (eNoBar b.1) else if (getM s.music e.1).isNone then some (eNoBar e.1) else
    if tipIn s.music b = false then some (eNoMoment b.2) else if tipIn s.music e = false then some (eNoMoment e.2) else if spotLe s.order b e = false then some eSpan else if ¬ (1 ≤ th ∧ th ≤ 9) then some eThick else
    if 20 ≤ s.spans.length then some eFull else none
  | .wipe n => if (getM s.spans n).isNone then some (eNoMark n) else none
  | .fin n x => if (getM s.music n).isNone then some (eNoBar n) else if x ∉ (["must", "never", "free"] : List Str) then some eWord else if boundOf s n = x then some eSame else none
  | .paper sh => if paperOk sh then none else some ePaper
  | .odd _ => none
  | .many _ => none
/-- fl: as the law's own model does it (a bar set free stays in the table) -/
def put (fl : Bool) (s : Sta) : De → Sta × Option Int
  | .bar at_ m => ({ s with order := insAt s.order at_ s.fresh.1, music := putM s.music s.fresh.1 m, fresh := (s.fresh.1 + 1, s.fresh.2) }, some s.fresh.1)
  | .change n m => (sweep { s with music := putM s.music n m }, none)
  | .cut n => (sweep { s with order := s.order.erase n, music := dropM s.music n, bound := dropM s.bound n }, none)
  | .move n at_ => (sweep { s with order := insAt (s.order.erase n) at_ n }, none)
  | .mark sp => ({ s with spans := putM s.spans s.fresh.2 sp, fresh := (s.fresh.1, s.fresh.2 + 1) }, some s.fresh.2)
  | .wipe n => ({ s with spans := dropM s.spans n }, none)
  | .fin n x => ({ s with bound := if fl = false ∧ x = "free" then dropM (putM s.bound n x) n else putM s.bound n x }, none)
  | .paper sh => ({ s with sheet := sh }, none)
  | .odd _ => (s, none)
  | .many _ => (s, none)
def tellD : Option Int → PyData
  | none => .none
  | some n => .int n
def one (fl : Bool) (s : Sta) (d : De) : Except Er (Sta × Option Int) := match bad s d with
  | some e => .error e
  | none => .ok (put fl s d)
def foldD (fl : Bool) : Sta → List De → Except Er (Sta × List (Option Int))
  | s, [] => .ok (s, [])
  | s, d :: r => match one fl s d with
    | .error e => .error e
    | .ok (s1, t) => match foldD fl s1 r with
      | .error e => .error e
      | .ok (s2, ts) => .ok (s2, t :: ts)
def formless : De → Bool
  | .odd _ => true
  | _ => false
def isMany : De → Bool
  | .many _ => true
  | _ => false
def applyD (fl : Bool) (s : Sta) (d : De) : Except Er (Sta × PyData) := match d with
  | .odd _ => .error eDeed
  | .many l => if l = [] ∨ (l.any fun d => formless d || isMany d) = true then .error eDeed else match foldD fl s l with
    | .error e => .error e
    | .ok (s', ts) => .ok (s', .list (ts.map tellD))
  | d => match one fl s d with
    | .error e => .error e
    | .ok (s', t) => .ok (s', tellD t)
/-! ### what the deeds drawn are -/
def Small (n : Int) : Prop := n.natAbs < 2 ^ 60
def OddOk (ds : List PyData) : Prop := ds = [] ∨ ds = [.str "cut"] ∨ ds = [.str "strike", .int 1] ∨ ∃ n, ds = [.str "cut", .int n, .int 0]
/-- a deed that is no many -/
def Plain : De → Prop
  | .bar _ m => Br.ok m ∧ m.length ≤ 16
  | .change n m => Small n ∧ Br.ok m ∧ m.length ≤ 16
  | .cut n => Small n
  | .move n _ => Small n
  | .mark s => Small s.2.1.1 ∧ Small s.2.1.2 ∧ Small s.2.2.1.1 ∧ Small s.2.2.1.2
  | .wipe n => Small n
  | .fin n x => Small n ∧ x ∈ (["must", "never", "free", "Must", ""] : List Str)
  | .paper sh => sh.length = 5
  | .odd ds => OddOk ds
  | .many _ => False
/-- a deed as it may be told to a shop -/
def Deed : De → Prop
  | .many l => l.length ≤ 100 ∧ ∀ d ∈ l, Plain d ∨ d = .many [.cut 1] ∨ d = .many []
  | d => Plain d
theorem Plain.deed {d : De} (h : Plain d) : Deed d := by
  cases d <;> first | exact h | exact h.elim
/-! ### what holds of a stand -/
structure Sta.Good (s : Sta) (N : Int) : Prop where
  keys : ∀ n, n ∈ s.order ↔ n ∈ s.music.map (·.1)
  nd : s.order.Nodup
  few : s.order.length ≤ 12
  nos : ∀ n ∈ s.order, 0 < n ∧ n < s.fresh.1
  fr1 : 0 < s.fresh.1 ∧ s.fresh.1 ≤ N
  fr2 : 0 < s.fresh.2 ∧ s.fresh.2 ≤ N
  bars : ∀ p ∈ s.music, Br.ok p.2 ∧ 1 ≤ p.2.length ∧ p.2.length ≤ 6
  mnd : (s.music.map (·.1)).Nodup
  snd : (s.spans.map (·.1)).Nodup
  sfew : s.spans.length ≤ 20
  snos : ∀ n ∈ s.spans.map (·.1), 0 < n ∧ n < s.fresh.2
  lie : ∀ p ∈ s.spans, lies s.order s.music p.2 = true
  bnd : ∀ p ∈ s.bound, p.1 ∈ s.order ∧ p.2 ∈ (["must", "never", "free"] : List Str)
  bnn : (s.bound.map (·.1)).Nodup
  sh : s.sheet.length = 5
end Bu
set_option Elab.async false
set_option linter.all false
set_option maxRecDepth 100000
set_option maxHeartbeats 4000000
/-! A stand's parts and the law's own model in the heap. -/
namespace Bu
open PySem PySem.Spec PyProof.Rows L2
structure Cnt where
  o : Addr
  mu : Addr
  sp : Addr
  bo : Addr
structure ContAt (K : PySem.W.Frag) (H : Hp) (c : Cnt) (s : Sta) : Prop where
  o : H c.o = some (.lst (s.order.map .int))
  mu : IsDk K H c.mu brD s.music
  sp : IsDk K H c.sp spanD s.spans
  bo : IsDk K H c.bo PyData.str s.bound
  nd : c.mu ≠ c.sp ∧ c.mu ≠ c.bo ∧ c.sp ≠ c.bo
theorem tup_tip (t : Tip) : tupD (tipD t) = true := rfl
theorem tup_span (s : Span) : tupD (spanD s) = true := rfl
theorem tup_ints : ∀ l : List Int, tupDs (l.map .int) = true
  | [] => rfl
  | n :: r => by show (tupD (.int n) && tupDs (r.map .int)) = true; rw [tup_ints r]; rfl
theorem tup_sheet (s : Sheet) : tupD (sheetD s) = true := tup_ints s
theorem tup_str (x : Str) : tupD (PyData.str x) = true := rfl
section
variable {K : PySem.W.Frag} {H H' : Hp} {M : List Addr} {s : Sta} {b bc m : Addr} {c : Cnt}
theorem ContAt.but (h : ContAt K H c s) (d : But M H H') (n : c.o ∉ M ∧ c.mu ∉ M ∧ c.sp ∉ M ∧ c.bo ∉ M) : ContAt K H' c s :=
  ⟨d.keep _ _ h.o n.1, h.mu.but d tup_br n.2.1, h.sp.but d tup_span n.2.2.1, h.bo.but d tup_str n.2.2.2, h.nd⟩
/-- the law's own model's entries -/
def mkv (a b c d e f : V) : List (Key × V) := [(.inr "order", a), (.inr "music", b), (.inr "spans", c), (.inr "bound", d), (.inr "sheet", e), (.inr "fresh", f)]
theorem mkv_order (a b c d e f : V) : valV (mkv a b c d e f) (.inr "order") = some a := by rfl
theorem mkv_music (a b c d e f : V) : valV (mkv a b c d e f) (.inr "music") = some b := by rfl
theorem mkv_spans (a b c d e f : V) : valV (mkv a b c d e f) (.inr "spans") = some c := by rfl
theorem mkv_bound (a b c d e f : V) : valV (mkv a b c d e f) (.inr "bound") = some d := by rfl
theorem mkv_sheet (a b c d e f : V) : valV (mkv a b c d e f) (.inr "sheet") = some e := by rfl
theorem mkv_fresh (a b c d e f : V) : valV (mkv a b c d e f) (.inr "fresh") = some f := by rfl
theorem mkv_put_order (a b c d e f x : V) : putK (mkv a b c d e f) (.inr "order") x = mkv x b c d e f := by rfl
theorem mkv_put_music (a b c d e f x : V) : putK (mkv a b c d e f) (.inr "music") x = mkv a x c d e f := by rfl
theorem mkv_put_spans (a b c d e f x : V) : putK (mkv a b c d e f) (.inr "spans") x = mkv a b x d e f := by rfl
theorem mkv_put_bound (a b c d e f x : V) : putK (mkv a b c d e f) (.inr "bound") x = mkv a b c x e f := by rfl
theorem mkv_put_sheet (a b c d e f x : V) : putK (mkv a b c d e f) (.inr "sheet") x = mkv a b c d x f := by rfl
theorem mkv_put_fresh (a b c d e f x : V) : putK (mkv a b c d e f) (.inr "fresh") x = mkv a b c d e x := by rfl
section
variable {x1 x2 x3 x4 x5 x6 x : V}
theorem dg_order (h : H m = some (.dK (mkv x1 x2 x3 x4 x5 x6))) : DGet H m (.str "order") (some x1) := .inl ⟨_, .inr "order", .inl h, rfl, rfl⟩
theorem dg_music (h : H m = some (.dK (mkv x1 x2 x3 x4 x5 x6))) : DGet H m (.str "music") (some x2) := .inl ⟨_, .inr "music", .inl h, rfl, rfl⟩
theorem dg_spans (h : H m = some (.dK (mkv x1 x2 x3 x4 x5 x6))) : DGet H m (.str "spans") (some x3) := .inl ⟨_, .inr "spans", .inl h, rfl, rfl⟩
theorem dg_bound (h : H m = some (.dK (mkv x1 x2 x3 x4 x5 x6))) : DGet H m (.str "bound") (some x4) := .inl ⟨_, .inr "bound", .inl h, rfl, rfl⟩
theorem dg_sheet (h : H m = some (.dK (mkv x1 x2 x3 x4 x5 x6))) : DGet H m (.str "sheet") (some x5) := .inl ⟨_, .inr "sheet", .inl h, rfl, rfl⟩
theorem dg_fresh (h : H m = some (.dK (mkv x1 x2 x3 x4 x5 x6))) : DGet H m (.str "fresh") (some x6) := .inl ⟨_, .inr "fresh", .inl h, rfl, rfl⟩
theorem dp_order (h : H m = some (.dK (mkv x1 x2 x3 x4 x5 x6))) : DPut H m (.str "order") x (upd H m (.dK (mkv x x2 x3 x4 x5 x6))) := .inl ⟨_, .inr "order", h, rfl, by show 6 < sizeLine; decide, rfl⟩
theorem dp_music (h : H m = some (.dK (mkv x1 x2 x3 x4 x5 x6))) : DPut H m (.str "music") x (upd H m (.dK (mkv x1 x x3 x4 x5 x6))) := .inl ⟨_, .inr "music", h, rfl, by show 6 < sizeLine; decide, rfl⟩
theorem dp_spans (h : H m = some (.dK (mkv x1 x2 x3 x4 x5 x6))) : DPut H m (.str "spans") x (upd H m (.dK (mkv x1 x2 x x4 x5 x6))) := .inl ⟨_, .inr "spans", h, rfl, by show 6 < sizeLine; decide, rfl⟩
theorem dp_bound (h : H m = some (.dK (mkv x1 x2 x3 x4 x5 x6))) : DPut H m (.str "bound") x (upd H m (.dK (mkv x1 x2 x3 x x5 x6))) := .inl ⟨_, .inr "bound", h, rfl, by show 6 < sizeLine; decide, rfl⟩
theorem dp_sheet (h : H m = some (.dK (mkv x1 x2 x3 x4 x5 x6))) : DPut H m (.str "sheet") x (upd H m (.dK (mkv x1 x2 x3 x4 x x6))) := .inl ⟨_, .inr "sheet", h, rfl, by show 6 < sizeLine; decide, rfl⟩
theorem dp_fresh (h : H m = some (.dK (mkv x1 x2 x3 x4 x5 x6))) : DPut H m (.str "fresh") x (upd H m (.dK (mkv x1 x2 x3 x4 x5 x))) := .inl ⟨_, .inr "fresh", h, rfl, by show 6 < sizeLine; decide, rfl⟩
end
structure ModAt (K : PySem.W.Frag) (H : Hp) (m : Addr) (c : Cnt) (s : Sta) : Prop where
  at_ : ∃ vs vf, H m = some (.dK (mkv (.ref c.o) (.ref c.mu) (.ref c.sp) (.ref c.bo) vs vf)) ∧ Dp K H vs (sheetD s.sheet) ∧ Dp K H vf (tipD s.fresh)
  cont : ContAt K H c s
  ne : m ≠ c.mu ∧ m ≠ c.sp ∧ m ≠ c.bo
theorem ModAt.but (h : ModAt K H m c s) (d : But M H H') (n : m ∉ M ∧ c.o ∉ M ∧ c.mu ∉ M ∧ c.sp ∉ M ∧ c.bo ∉ M) : ModAt K H' m c s := by
  obtain ⟨vs, vf, h1, h2, h3⟩ := h.at_
  exact ⟨⟨vs, vf, d.keep _ _ h1 n.1, dp_but d _ _ (tup_sheet _) h2, dp_but d _ _ (tup_tip _) h3⟩, h.cont.but d n.2, h.ne⟩
theorem dk_ne_lst {a b : Addr} {ks : List (Key × V)} {xs : List V} (h1 : H a = some (.dK ks)) (h2 : H b = some (.lst xs)) : a ≠ b := fun z => by rw [z, h2] at h1; cases h1
theorem ModAt.nb (h : ModAt K H m c s) {xs : List V} (hb : H b = some (.lst xs)) (n : c.o ≠ b) : m ∉ [b] ∧ c.o ∉ [b] ∧ c.mu ∉ [b] ∧ c.sp ∉ [b] ∧ c.bo ∉ [b] := by
  obtain ⟨vs, vf, h1, _, _⟩ := h.at_
  obtain ⟨_, h2, _⟩ := h.cont.mu
  obtain ⟨_, h3, _⟩ := h.cont.sp
  obtain ⟨_, h4, _⟩ := h.cont.bo
  refine ⟨?_, by simpa using n, ?_, ?_, ?_⟩
  · simpa using dk_ne_lst h1 hb
  · simpa using dk_ne_lst h2 hb
  · simpa using dk_ne_lst h3 hb
  · simpa using dk_ne_lst h4 hb
theorem ModAt.gone (h : ModAt K H m c s) (hb : BagAt K H b bc) (g : Gone K H b bc H') (n : c.o ≠ b) : ModAt K H' m c s := by
  obtain ⟨_, _, q, _⟩ := hb
  exact h.but g.1 (h.nb q n)
theorem ModAt.new (h : ModAt K H m c s) (d : But [] H H') : ModAt K H' m c s := h.but d (by simp)
/-- the two fresh numbers -/
theorem dp_tip {v : V} {t : Tip} (h : Dp K H v (tipD t)) : ∃ a, v = .ref a ∧ SqT K H a [.int t.1, .int t.2] := by
  obtain ⟨a, vs, rfl, h1, d⟩ := dp_tup h
  obtain ⟨v1, r, rfl, d1, d⟩ := dpa_cons d
  obtain ⟨v2, r, rfl, d2, d⟩ := dpa_cons d
  cases dpa_nil d
  cases dp_int d1
  cases dp_int d2
  exact ⟨a, rfl, h1⟩
theorem Small.num {s : Sta} {N n : Int} (g : s.Good N) (hN : N < 1000000000000) (h : NumOk s.order s.fresh.1 n) : Small n := by
  unfold Small
  rcases h with h | h | h
  · have := g.nos n h
    have := g.fr1
    omega
  · have := g.fr1
    omega
  · omega
end
end Bu
set_option Elab.async false
set_option linter.all false
set_option maxRecDepth 100000
set_option maxHeartbeats 4000000
namespace Bu
open PySem PySem.Spec PyProof.Rows L2
def spTip (K : PySem.W.Frag) : Sp := fun vs H Q _ => ∃ (b bc m : Addr) (c : Cnt) (s : Sta) (N : Int), vs = [.ref b, .ref m] ∧ BagAt K H b bc ∧ ModAt K H m c s ∧ c.o ≠ b ∧ s.Good N ∧ N < 1000000000000 ∧
  ∀ (H' : Hp) (v : V) (t : Tip), Gone K H b bc H' → Dp K H' v (tipD t) → Small t.1 → Small t.2 → Q v H'
abbrev n_law_tip : List Str := ["_law_bag_here", "_law_m", "_law_number_here", "_law_size"]
theorem sc_law_tip : FnScope n_law_tip ["_law_bag_here", "_law_m"] d_law_tip.scope := C8.fnScope_by (by decide +kernel)
theorem cal_tip {P : Program} {w : World} {K : PySem.W.Frag} {mg : Str → Option Value} {base : Heap} (C : Cn w K mg)  : Cal P w K mg base CX0 3 "_law_tip" (spTip K) := by
  refine C.cal 42 42 d_law_tip sc_law_tip (fun _ _ _ _ _ _ us hl => match us, hl with | [_, _], _ => rfl) (fun vs H Q E h => ?_) (fun f cdv A outer s H vs Q E hr h => ?_)
  · obtain ⟨b, bc, m, c, s, N, rfl, _⟩ := h
    rfl
  have nd := sc_law_tip.nd
  refine ⟨_, PSs.nox (pss_cons (ps_set (i := 2) nd rfl (by first | exact Or.inl rfl | exact Or.inr rfl) (pe_c (cal_number C) hr (pa_cons (pv 0) (pa_cons (pe_dget (hu_of hr) (pv 1) pe_str (fun _ _ => rfl)) (pa_cons (pe_ix ix_tup (pe_dget (hu_of hr) (pv 1) pe_str (fun _ _ => rfl)) pe_int (fun _ _ => rfl)) pa_nil))))) (pss_cons (ps_set (i := 3) nd rfl (by first | exact Or.inl rfl | exact Or.inr rfl) (pe_callB call_len_seq (by rfl) (C.free 67) (by decide +kernel) (pa_cons (pe_dget2 (hu_of hr) (pe_dget (hu_of hr) (pv 1) pe_str (fun _ _ => rfl)) (pv 2) (pe_lit (K := K) (.tup (.cons (.tup .nil) .nil)) (pe_tup (pa_cons (pe_tup pa_nil) pa_nil))) ⟨rfl, rfl, rfl, rfl⟩) pa_nil))) (pss_cons (ps_if (pt_cmpR op_eq (pe_c (cal_pull C) hr (pa_cons (pv 0) (pa_cons pe_int pa_nil))) pe_int (nomark _)) (pss_one (ps_ret (pe_tup (pa_cons (pv 2) (pa_cons (pe_ix ix_list (pe_lst (pa_cons (pv 3) (pa_cons (pe_un un_neg pe_int) (pa_cons pe_int (pa_cons pe_int pa_nil))))) (pe_c (cal_pull C) hr (pa_cons (pv 0) (pa_cons pe_int pa_nil))) (fun _ _ => rfl)) pa_nil))))) pss_nil) (pss_one (ps_ret (pe_tup (pa_cons (pv 2) (pa_cons (pe_c (cal_pull C) hr (pa_cons (pv 0) (pa_cons (pv 3) pa_nil))) pa_nil)))))))), ?_⟩
  obtain ⟨b, bc, m, c, s, N, rfl, hb, hm, nob, hg, hN, k⟩ := h
  obtain ⟨vs, vf, h1, h2, h3⟩ := id hm.at_
  obtain ⟨fa_, rfl, h4⟩ := dp_tip h3
  have few := hg.few
  refine ⟨_, rfl, _, rfl, m, _, rfl, dg_order h1, _, rfl, m, _, rfl, dg_fresh h1, fa_, _, _, _, rfl, rfl, h4, rfl, ?_⟩
  refine ⟨b, bc, c.o, s.order, s.fresh.1, rfl, hb, SqL.of hm.cont.o, nob, by omega, fun H1 n g1 hn => ?_⟩
  have hsm := Small.num hg hN hn
  have hm1 := hm.gone hb g1 nob
  obtain ⟨vs1, vf1, h11, _, _⟩ := id hm1.at_
  obtain ⟨ks, hk1, hk2⟩ := hm1.cont.mu
  refine ⟨_, rfl, m, _, rfl, dg_music h11, _, rfl, .inl ⟨ks, .inl hk1⟩, _, rfl, fun H2 x bt dx => ⟨_, DGet.k (k := .inl n) (bt.keep _ _ hk1 (by simp)), ?_⟩⟩
  obtain ⟨ds, dd, l1, l6⟩ : ∃ ds : List PyData, Dp K H2 ((valV ks (.inl n)).getD x) (.tuple ds) ∧ 1 ≤ ds.length ∧ ds.length ≤ 6 := by
    rcases kv_get hk2 n with ⟨_, e⟩ | ⟨mu, v, hmu, e, dv⟩
    · rw [e]; exact ⟨_, dx, by decide, by decide⟩
    · rw [e]
      have q := hg.bars _ (getM_mem hmu)
      exact ⟨_, dp_but bt _ _ (tup_br mu) dv, by rw [List.length_map]; exact q.2.1, by rw [List.length_map]; exact q.2.2⟩
  obtain ⟨q, vs2, e, hq, da⟩ := dp_tup dd
  have hl := dpa_length da
  have g2 := g1.step bt
  refine ⟨q, vs2, by rw [e], .inr hq, ?_⟩
  refine pullR rfl g2.2 (by decide) (by decide) fun H3 r3 g3 _ _ => ⟨rfl, _, rfl, ite2 (fun _ => ?_) (fun _ => ?_)⟩
  · refine ⟨_, rfl, _, rfl, _, rfl, pick_end (n := 4) rfl g3.2 rfl (by decide) (by decide) fun y hy H4 g4 => ⟨by show 2 ≤ sizeLine; decide, fun t nt => ?_⟩⟩
    obtain ⟨i, rfl, hi⟩ : ∃ i : Int, y = .int i ∧ Small i := by
      simp only [List.mem_cons, List.not_mem_nil, or_false] at hy
      rcases hy with rfl | rfl | rfl | rfl
      · exact ⟨_, rfl, by unfold Small; omega⟩
      · exact ⟨_, rfl, by unfold Small; omega⟩
      · exact ⟨_, rfl, by unfold Small; omega⟩
      · exact ⟨_, rfl, by unfold Small; omega⟩
    exact k _ _ (n, i) (((g2.trans g3).trans g4).new nt) (.tup (SqT.of upd_same) (.cons (.int _) (.cons (.int _) .nil))) hsm hi
  · refine ⟨_, rfl, _, rfl, _, rfl, b, bc, _, rfl, g3.2, by omega, by omega, fun H4 r g4 r0 r1 => ⟨by show 2 ≤ sizeLine; decide, fun t nt => ?_⟩⟩
    exact k _ _ (n, r) (((g2.trans g3).trans g4).new nt) (.tup (SqT.of upd_same) (.cons (.int _) (.cons (.int _) .nil))) hsm (by unfold Small; omega)
theorem idx_lt {l : List Int} {n : Int} (h : n ∈ l) : l[idx l n]? = some n ∧ ∀ (j : Nat) (z : Int), j < idx l n → l[j]? = some z → z ≠ n := by
  induction l with
  | nil => cases h
  | cons a r ih =>
    unfold idx
    by_cases e : a = n
    · rw [if_pos e]
      exact ⟨by simp [e], fun j z hj => absurd hj (Nat.not_lt_zero _)⟩
    · rw [if_neg e]
      obtain ⟨h1, h2⟩ := ih ((List.mem_cons.mp h).resolve_left fun z => e z.symm)
      refine ⟨by simpa using h1, fun j z hj hz => ?_⟩
      cases j with
      | zero => simp at hz; rw [← hz]; exact e
      | succ j => exact h2 j z (by omega) (by simpa using hz)
theorem rIndex_ints {K : PySem.W.Frag} {H : Hp} {a : Addr} {l : List Int} {n : Int} {Q : VK} (h : SqL K H a (l.map .int)) (hn : n ∈ l) (q : Q (.int (idx l n : Nat)) H) : rIndex K (.ref a) [.int n] H Q := by
  obtain ⟨h1, h2⟩ := idx_lt hn
  refine ⟨a, _, _, idx l n, .int n, rfl, rfl, h, rfl, ?_, by rw [List.getElem?_map, h1]; rfl, by simp [eqV], fun j z hj hz => ?_, q⟩
  · rw [List.all_eq_true]
    intro x hx
    obtain ⟨i, _, rfl⟩ := List.mem_map.mp hx
    rfl
  · rw [List.getElem?_map] at hz
    obtain ⟨i, hi, rfl⟩ := Option.map_eq_some_iff.mp hz
    have := h2 j i hj hi
    simp [eqV, this]
def spSpot (K : PySem.W.Frag) : Sp := fun vs H Q _ => ∃ (m : Addr) (c : Cnt) (s : Sta) (v : V) (t : Tip), vs = [.ref m, v] ∧ ModAt K H m c s ∧ Dp K H v (tipD t) ∧ t.1 ∈ s.order ∧
  ∀ (p : Addr), H p = none → Q (.ref p) (upd H p (.tup [.int (idx s.order t.1 : Nat), .int t.2]))
abbrev n_law_spot : List Str := ["_law_m", "_law_tip_here"]
theorem sc_law_spot : FnScope n_law_spot ["_law_m", "_law_tip_here"] d_law_spot.scope := C8.fnScope_by (by decide +kernel)
theorem cal_spot {P : Program} {w : World} {K : PySem.W.Frag} {mg : Str → Option Value} {base : Heap} (C : Cn w K mg)  : Cal P w K mg base CX0 1 "_law_spot" (spSpot K) := by
  refine C.cal 43 43 d_law_spot sc_law_spot (fun _ _ _ _ _ _ us hl => match us, hl with | [_, _], _ => rfl) (fun vs H Q E h => ?_) (fun f cdv A outer s H vs Q E hr h => ?_)
  · obtain ⟨m, c, s, v, t, rfl, _⟩ := h
    rfl
  have nd := sc_law_spot.nd
  refine ⟨_, PSs.nox (pss_one (ps_ret (pe_tup (pa_cons (pe_bm PySem.F.plainAttrs_list PySem.F.slot_list_index PySem.F.type_list_index mt_index (pe_dget (hu_of hr) (pv 0) pe_str (fun _ _ => rfl)) (pa_cons (pe_ix ix_tup (pv 1) pe_int (fun _ _ => rfl)) pa_nil)) (pa_cons (pe_ix ix_tup (pv 1) pe_int (fun _ _ => rfl)) pa_nil))))), ?_⟩
  obtain ⟨m, c, s, v, t, rfl, hm, dt, ht, k⟩ := h
  obtain ⟨vs, vf, h1, h2, h3⟩ := id hm.at_
  obtain ⟨a, rfl, hat⟩ := dp_tip dt
  refine ⟨_, rfl, m, _, rfl, dg_order h1, .inl ⟨rfl, _, SqL.of hm.cont.o⟩, _, rfl, a, _, _, _, rfl, rfl, hat, rfl, ?_⟩
  dsimp only [tNil]
  refine rIndex_ints (SqL.of hm.cont.o) ht ?_
  exact ⟨_, rfl, a, _, _, _, rfl, rfl, hat, rfl, by show 2 ≤ sizeLine; decide, fun p np => k p np⟩
def spSheetR (K : PySem.W.Frag) : Sp := fun vs H Q _ => ∃ (b bc : Addr), vs = [.ref b] ∧ BagAt K H b bc ∧
  ∀ (H' : Hp) (v : V) (sh : Sheet), Gone K H b bc H' → Dp K H' v (sheetD sh) → sh.length = 5 → Q v H'
abbrev n_law_sheet : List Str := ["_law_bag_here", "_law_wide", "_law_costs", "_law_k"]
theorem sc_law_sheet : FnScope n_law_sheet ["_law_bag_here"] d_law_sheet.scope := C8.fnScope_by (by decide +kernel)
theorem cal_sheet {P : Program} {w : World} {K : PySem.W.Frag} {mg : Str → Option Value} {base : Heap} (C : Cn w K mg)  : Cal P w K mg base CX0 2 "_law_sheet" (spSheetR K) := by
  refine C.cal 44 44 d_law_sheet sc_law_sheet (fun _ _ _ _ _ _ us hl => match us, hl with | [_], _ => rfl) (fun vs H Q E h => ?_) (fun f cdv A outer s H vs Q E hr h => ?_)
  · obtain ⟨b, bc, rfl, _⟩ := h
    rfl
  have nd := sc_law_sheet.nd
  refine ⟨_, PSs.nox (pss_cons (ps_set (i := 1) nd rfl (by first | exact Or.inl rfl | exact Or.inr rfl) (pe_ix ix_list (pe_lst (pa_cons (pe_op op_add pe_int (pe_c (cal_pull C) hr (pa_cons (pv 0) (pa_cons pe_int pa_nil)))) (pa_cons (pe_op op_add pe_int (pe_c (cal_pull C) hr (pa_cons (pv 0) (pa_cons pe_int pa_nil)))) (pa_cons (pe_op op_add pe_int (pe_c (cal_pull C) hr (pa_cons (pv 0) (pa_cons pe_int pa_nil)))) pa_nil)))) (pe_c (cal_pull C) hr (pa_cons (pv 0) (pa_cons pe_int pa_nil))) (fun _ _ => rfl))) (pss_cons (ps_setLc (i := 2) (own := [("_law_k", 3)]) (tt := tYes) rfl nd rfl rfl (sw_true rfl rfl rfl (by decide +kernel)) (pi_range1 rfl (C.free 68) (pa_cons pe_int pa_nil)) (blkOk_by (own := [("_law_k", 3)]) (N := n_law_sheet) (sc := d_law_sheet.scope) (by decide +kernel)) (fun _ _ _ _ _ => (pg_name (i := 3) nd rfl (by first | exact Or.inl rfl | exact Or.inr rfl))) (fun _ _ _ _ _ => pts_nil) (fun _ _ _ _ _ => (pe_ix (v_ix_list (K := K)) (pe_lst (pa_cons pe_int (pa_cons (pe_c (cal_pull C) hr (pa_cons (pv 0) (pa_cons pe_int pa_nil))) (pa_cons (pe_c (cal_pull C) hr (pa_cons (pv 0) (pa_cons pe_int pa_nil))) pa_nil)))) (pe_c (cal_pull C) hr (pa_cons (pv 0) (pa_cons pe_int pa_nil))) (fun _ _ => rfl)))) (pss_one (ps_ret (pe_op op_catA (pe_tup (pa_cons (pv 1) (pa_cons (pe_op op_add pe_int (pe_c (cal_pull C) hr (pa_cons (pv 0) (pa_cons pe_int pa_nil)))) pa_nil))) (pe_callTy call_tuple_of (by rfl) (C.free 71) (by decide +kernel) (pa_cons (pv 2) pa_nil))))))), ?_⟩
  obtain ⟨b, bc, rfl, hb, k⟩ := h
  refine pullR rfl hb (by decide) (by decide) fun H1 r1 g1 _ _ => ⟨_, _, rfl, rfl, pullR rfl g1.2 (by decide) (by decide) fun H2 r2 g2 _ _ => ⟨_, _, rfl, rfl, pullR rfl g2.2 (by decide) (by decide) fun H3 r3 g3 _ _ => ⟨_, _, rfl, rfl, pick_end (n := 3) rfl g3.2 rfl (by decide) (by decide) fun y hy H4 g4 => ?_⟩⟩⟩
  obtain ⟨w0, rfl⟩ : ∃ i : Int, y = .int i := by
    simp only [List.mem_cons, List.not_mem_nil, or_false] at hy
    rcases hy with rfl | rfl | rfl <;> exact ⟨_, rfl⟩
  have g14 := ((g1.trans g2).trans g3).trans g4
  refine ⟨_, rfl, by decide, by decide, fun D nD => ?_⟩
  have nD0 : H D = none := g14.free nD
  have nDb : D ≠ b := Gone.ne hb nD0
  have g5 := g14.new (o := .lst []) nD
  refine lc_range (lo := 0) (n := 3) (fun i H5 => ∃ (cs : List Int), Acc K [b] (upd H4 D (.lst [])) D (cs.map .int) H5 (cs.map .int) ∧ BagAt K H5 b bc ∧ cs.length = i) ?_ ?_ ?_
  · exact ⟨[], Acc.start upd_same (fun x hx => by rw [show x = b by simpa using hx]; exact g5.2.nt), g5.2, rfl⟩
  · rintro i H5 hi ⟨cs, ac, hb', hl⟩
    refine ⟨rfl, pullR rfl hb' (by decide) (by decide) fun H6 r6 g6 _ _ => pullR rfl g6.2 (by decide) (by decide) fun H7 r7 g7 _ _ => pick_end (n := 3) rfl g7.2 rfl (by decide) (by decide) fun y hy H8 g8 => ?_⟩
    obtain ⟨w1, rfl⟩ : ∃ i : Int, y = .int i := by
      simp only [List.mem_cons, List.not_mem_nil, or_false] at hy
      rcases hy with rfl | rfl | rfl <;> exact ⟨_, rfl⟩
    have g58 := (g6.trans g7).trans g8
    obtain ⟨hD, ac'⟩ := ac.push g58.1 (by simpa using nDb) (.int w1) (tup_ints cs) rfl
    refine ⟨_, hD, by rw [List.length_map, sizeLine_eq]; omega, cs ++ [w1], by rw [List.map_append, List.map_append]; exact ac', ?_, by simp [hl]⟩
    exact g58.2.but (But.one (nt_lst hD)) (by simpa using Ne.symm nDb) (by simpa using Ne.symm (hb.nec nD0).2)
  · rintro H5 ⟨cs, ac, hb', hl⟩
    have g45 : Gone K H b bc H5 := ⟨g5.1.thn ac.but fun x hx => (by
      rcases List.mem_cons.mp hx with rfl | hx
      · exact .inr nD0
      · exact .inl hx), hb'⟩
    refine ⟨_, rfl, pullR rfl hb' (by decide) (by decide) fun H6 r6 g6 _ _ => ⟨_, _, rfl, rfl, by show 2 ≤ sizeLine; decide, fun t nt => ?_⟩⟩
    have hD6 : H6 D = some (.lst (cs.map .int)) := g6.at ac.at_ nDb
    refine ⟨_, rfl, D, _, rfl, .inl ⟨sqL_new (SqL.of hD6) nt, fun u nu => ?_⟩⟩
    refine catA_end (ds := [.int w0, .int (1 + r6)]) (es := cs.map .int) (.tup (sqT_new (SqT.of upd_same) nu) (.cons (.int _) (.cons (.int _) .nil))) (.tup (SqT.of upd_same) (dpa_ints cs)) rfl (tup_ints cs) (by simp only [List.length_map, List.length_cons, List.length_nil]; omega) fun v H7 b7 d7 => ?_
    exact k _ _ (w0 :: (1 + r6) :: cs) ((((g45.trans g6).new nt).new nu).step b7) d7 (by simp [hl])
end Bu
set_option Elab.async false
set_option linter.all false
set_option maxRecDepth 100000
set_option maxHeartbeats 4000000
namespace Bu
open PySem PySem.Spec PyProof.Rows L2
theorem two_get {K : PySem.W.Frag} {H : Hp} {v1 v2 x : V} {t1 t2 : Tip} {i : Nat} (hx : [v1, v2][i]? = some x) (d1 : Dp K H v1 (tipD t1)) (d2 : Dp K H v2 (tipD t2)) : ∃ t, Dp K H x (tipD t) ∧ [t1, t2].take (i + 1) = [t1, t2].take i ++ [t] := by
  match i, hx with
  | 0, h => cases h; exact ⟨_, d1, rfl⟩
  | 1, h => cases h; exact ⟨_, d2, rfl⟩
  | i + 2, h => simp at h
theorem tup_of : ∀ {l : List PyData}, (∀ d ∈ l, tupD d = true) → tupDs l = true
  | [], _ => rfl
  | d :: r, h => by
    show (tupD d && tupDs r) = true
    rw [h d (by simp), tup_of fun x hx => h x (by simp [hx])]; rfl
theorem tup_all {α : Type} (f : α → PyData) (h : ∀ x, tupD (f x) = true) (l : List α) : tupDs (l.map f) = true := tup_of fun d hd => by
  obtain ⟨x, _, rfl⟩ := List.mem_map.mp hd
  exact h x
def spDeed (K : PySem.W.Frag) : Sp := fun vs H Q _ => ∃ (b bc m : Addr) (c : Cnt) (s : Sta) (N : Int), vs = [.ref b, .ref m, .int 3] ∧ BagAt K H b bc ∧ ModAt K H m c s ∧ c.o ≠ b ∧ s.Good N ∧ N < 1000000000000 ∧
  ∀ (H' : Hp) (v : V) (d : De), Gone K H b bc H' → Dp K H' v d.toD → Plain d → Q v H'
abbrev n_law_deed : List Str := ["_law_bag_here", "_law_m", "_law_size", "_law_way", "_law_number_here", "_law_at", "_law_on", "_law_thick", "_law_tips", "_law_tip_here"]
theorem sc_law_deed : FnScope n_law_deed ["_law_bag_here", "_law_m", "_law_size"] d_law_deed.scope := C8.fnScope_by (by decide +kernel)
theorem cal_deed {P : Program} {w : World} {K : PySem.W.Frag} {mg : Str → Option Value} {base : Heap} (C : Cn w K mg)  : Cal P w K mg base CX0 6 "_law_deed" (spDeed K) := by
  refine C.cal 45 45 d_law_deed sc_law_deed (fun _ _ _ _ _ _ us hl => match us, hl with | [_, _, _], _ => rfl) (fun vs H Q E h => ?_) (fun f cdv A outer s H vs Q E hr h => ?_)
  · obtain ⟨b, bc, m, c, s, N, rfl, _⟩ := h
    rfl
  have nd := sc_law_deed.nd
  refine ⟨_, PSs.nox (pss_cons (ps_set (i := 3) nd rfl (by first | exact Or.inl rfl | exact Or.inr rfl) (pe_c (cal_pull C) hr (pa_cons (pv 0) (pa_cons pe_int pa_nil)))) (pss_cons (ps_set (i := 4) nd rfl (by first | exact Or.inl rfl | exact Or.inr rfl) (pe_c (cal_number C) hr (pa_cons (pv 0) (pa_cons (pe_dget (hu_of hr) (pv 1) pe_str (fun _ _ => rfl)) (pa_cons (pe_ix ix_tup (pe_dget (hu_of hr) (pv 1) pe_str (fun _ _ => rfl)) pe_int (fun _ _ => rfl)) pa_nil))))) (pss_cons (ps_if (pt_cut (PW.pt (pw_or (pt_cmpR op_lt (pv 3) pe_int (nomark _)) (pw_or1 (PW.pt (pw_and (pt_cmpR (op_eqD hr.units) (pe_dget (hu_of hr) (pv 1) pe_str (fun _ _ => rfl)) (pe_lst pa_nil) (nomark _)) (pw_and1 (pt_cmpR op_lt (pv 3) pe_int (nomark _))))))))) (pss_cons (ps_set (i := 5) nd rfl (by first | exact Or.inl rfl | exact Or.inr rfl) (pe_op op_add (pe_c (cal_pull C) hr (pa_cons (pv 0) (pa_cons (pe_op op_add (pe_callB call_len_seq (by rfl) (C.free 67) (by decide +kernel) (pa_cons (pe_dget (hu_of hr) (pv 1) pe_str (fun _ _ => rfl)) pa_nil)) pe_int) pa_nil))) (pe_op op_mul (pe_ix ix_list (pe_lst (pa_cons pe_int (pa_cons pe_int (pa_cons pe_int (pa_cons pe_int pa_nil))))) (pe_c (cal_pull C) hr (pa_cons (pv 0) (pa_cons pe_int pa_nil))) (fun _ _ => rfl)) (pe_op op_sub (pe_c (cal_pull C) hr (pa_cons (pv 0) (pa_cons pe_int pa_nil))) pe_int)))) (pss_one (ps_ret (pe_tup (pa_cons pe_str (pa_cons (pv 5) (pa_cons (pe_c (cal_any_bar C) hr (pa_cons (pv 0) (pa_cons (pv 2) pa_nil))) pa_nil))))))) pss_nil) (pss_cons (ps_if (pt_cmpR op_lt (pv 3) pe_int (nomark _)) (pss_one (ps_ret (pe_tup (pa_cons pe_str (pa_cons (pv 4) (pa_cons (pe_c (cal_any_bar C) hr (pa_cons (pv 0) (pa_cons (pv 2) pa_nil))) pa_nil)))))) pss_nil) (pss_cons (ps_if (pt_cmpR op_eq (pv 3) pe_int (nomark _)) (pss_one (ps_ret (pe_tup (pa_cons pe_str (pa_cons (pv 4) pa_nil))))) pss_nil) (pss_cons (ps_if (pt_cmpR op_lt (pv 3) pe_int (nomark _)) (pss_one (ps_ret (pe_tup (pa_cons pe_str (pa_cons (pv 4) (pa_cons (pe_op op_sub (pe_c (cal_pull C) hr (pa_cons (pv 0) (pa_cons (pe_op op_add (pe_callB call_len_seq (by rfl) (C.free 67) (by decide +kernel) (pa_cons (pe_dget (hu_of hr) (pv 1) pe_str (fun _ _ => rfl)) pa_nil)) pe_int) pa_nil))) (pe_op op_fdiv (pe_c (cal_pull C) hr (pa_cons (pv 0) (pa_cons pe_int pa_nil))) pe_int)) pa_nil)))))) pss_nil) (pss_cons (ps_if (pt_cmpR op_lt (pv 3) pe_int (nomark _)) (pss_cons (ps_par (i := 6) (j := 7) rfl nd rfl rfl (by decide) rfl rfl (pa_cons (pe_c (cal_pull C) hr (pa_cons (pv 0) (pa_cons pe_int pa_nil))) (pa_cons (pe_op op_add pe_int (pe_c (cal_pull C) hr (pa_cons (pv 0) (pa_cons pe_int pa_nil)))) pa_nil)) (by rfl)) (pss_cons (ps_set (i := 8) nd rfl (by first | exact Or.inl rfl | exact Or.inr rfl) (pe_lst (pa_cons (pe_c (cal_tip C) hr (pa_cons (pv 0) (pa_cons (pv 1) pa_nil))) (pa_cons (pe_c (cal_tip C) hr (pa_cons (pv 0) (pa_cons (pv 1) pa_nil))) pa_nil)))) (C8.pss_cut (ps_if (pt_cmpR op_eq (pe_c (cal_pull C) hr (pa_cons (pv 0) (pa_cons pe_int pa_nil))) pe_int (nomark _)) (pss_one (ps_asg (pe_ix ix_list (pe_litL (K := K) (.cons (.tup (.cons .int (.cons .int .nil))) (.cons (.tup (.cons .neg (.cons .int .nil))) (.cons (.tup (.cons .int (.cons .int .nil))) (.cons (.tup (.cons .int (.cons .int .nil))) .nil)))) (pe_lst (pa_cons (pe_tup (pa_cons pe_int (pa_cons pe_int pa_nil))) (pa_cons (pe_tup (pa_cons (pe_un un_neg pe_int) (pa_cons pe_int pa_nil))) (pa_cons (pe_tup (pa_cons pe_int (pa_cons pe_int pa_nil))) (pa_cons (pe_tup (pa_cons pe_int (pa_cons pe_int pa_nil))) pa_nil)))))) (pe_c (cal_pull C) hr (pa_cons (pv 0) (pa_cons pe_int pa_nil))) (fun _ _ => rfl)) (pg_tup rfl (pgs_cons (pg_name (i := 6) nd rfl (by first | exact Or.inl rfl | exact Or.inr rfl)) (pgs_cons (pg_name (i := 7) nd rfl (by first | exact Or.inl rfl | exact Or.inr rfl)) pgs_nil))))) pss_nil) (C8.pss_cut (ps_if (pt_cut (PW.pt (pw_and (pt_val (pe_callB (cr_all rfl) (by rfl) (C.free 75) (by decide +kernel) (pa_cons (pe_lc (own := [("_law_tip_here", 9)]) (tt := tYes) rfl nd (pi_list (pv 8)) (blkOk_by (own := [("_law_tip_here", 9)]) (N := n_law_deed) (sc := d_law_deed.scope) (by decide +kernel)) (fun _ _ _ _ _ => (pg_name (i := 9) nd rfl (by first | exact Or.inl rfl | exact Or.inr rfl))) (fun _ _ _ _ _ => pts_nil) (fun _ _ _ _ _ => (pe_cmp (pc_din (hu_of hr) (pe_ix (v_ix_tup (K := K)) (pv 9) pe_int (fun _ _ => rfl)) (pe_dget (hu_of hr) (pv 1) pe_str (fun _ _ => rfl)))))) pa_nil))) (pw_and1 (pt_cmpR op_gt (pe_c (cal_pull C) hr (pa_cons (pv 0) (pa_cons pe_int pa_nil))) pe_int (nomark _)))))) (pss_one (ps_setLc (i := 8) (own := [("_law_at", 5), ("_law_tip_here", 9)]) (tt := tYes) rfl nd rfl rfl (sw_true rfl rfl rfl (by decide +kernel)) (pi_list (pe_callB (call_sortedDa (hu70 hr)) (by rfl) (C.free 72) (by decide +kernel) (pa_cons (pe_lc (own := [("_law_tip_here", 9)]) (tt := tYes) rfl nd (pi_list (pv 8)) (blkOk_by (own := [("_law_tip_here", 9)]) (N := n_law_deed) (sc := d_law_deed.scope) (by decide +kernel)) (fun _ _ _ _ _ => (pg_name (i := 9) nd rfl (by first | exact Or.inl rfl | exact Or.inr rfl))) (fun _ _ _ _ _ => pts_nil) (fun _ _ _ _ _ => (pe_tup (pa_cons (pe_c (cal_spot C) hr (pa_cons (pv 1) (pa_cons (pv 9) pa_nil))) (pa_cons (pv 9) pa_nil))))) pa_nil))) (blkOk_by (own := [("_law_at", 5), ("_law_tip_here", 9)]) (N := n_law_deed) (sc := d_law_deed.scope) (by decide +kernel)) (fun _ _ _ _ _ => (v_pg_tup rfl (pgs_cons (pg_name (i := 5) nd rfl (by first | exact Or.inl rfl | exact Or.inr rfl)) (pgs_cons (pg_name (i := 9) nd rfl (by first | exact Or.inl rfl | exact Or.inr rfl)) pgs_nil)) (K := K) (n := 2))) (fun _ _ _ _ _ => pts_nil) (fun _ _ _ _ _ => (pv 9)))) pss_nil) (pss_one (ps_ret (pe_tup (pa_cons pe_str (pa_cons (pv 6) (pa_cons (pe_ix ix_list (pv 8) pe_int (fun _ _ => rfl)) (pa_cons (pe_ix ix_list (pv 8) pe_int (fun _ _ => rfl)) (pa_cons (pv 7) pa_nil)))))))))))) pss_nil) (pss_cons (ps_if (pt_cmpR op_eq (pv 3) pe_int (nomark _)) (pss_one (ps_ret (pe_tup (pa_cons pe_str (pa_cons (pe_c (cal_number C) hr (pa_cons (pv 0) (pa_cons (pe_callB (call_sortedDI rfl) (by rfl) (C.free 72) (by decide +kernel) (pa_cons (pe_dget (hu_of hr) (pv 1) pe_str (fun _ _ => rfl)) pa_nil)) (pa_cons (pe_ix ix_tup (pe_dget (hu_of hr) (pv 1) pe_str (fun _ _ => rfl)) pe_int (fun _ _ => rfl)) pa_nil)))) pa_nil))))) pss_nil) (pss_cons (ps_if (pt_cmpR op_eq (pv 3) pe_int (nomark _)) (pss_one (ps_ret (pe_tup (pa_cons pe_str (pa_cons (pv 4) (pa_cons (pe_ix ix_list (pe_lst (pa_cons pe_str (pa_cons pe_str (pa_cons pe_str (pa_cons pe_str (pa_cons pe_str pa_nil)))))) (pe_op op_mod (pe_c (cal_pull C) hr (pa_cons (pv 0) (pa_cons pe_int pa_nil))) pe_int) (fun _ _ => rfl)) pa_nil)))))) pss_nil) (pss_cons (ps_if (pt_cmpR op_eq (pv 3) pe_int (nomark _)) (pss_one (ps_ret (pe_op op_catA (pe_op op_catA (pe_lit (K := K) (.tup (.cons .str .nil)) (pe_tup (pa_cons pe_str pa_nil))) (pe_slice sl_tupA (pe_c (cal_sheet C) hr (pa_cons (pv 0) pa_nil)) po_none (po_some pe_int))) (pe_tup (pa_cons (pe_ix ix_list (pe_lst (pa_cons (pe_c (cal_pull C) hr (pa_cons (pv 0) (pa_cons pe_int pa_nil))) (pa_cons pe_int (pa_cons (pe_un un_neg pe_int) pa_nil)))) (pe_op op_mod (pe_op op_fdiv (pe_c (cal_pull C) hr (pa_cons (pv 0) (pa_cons pe_int pa_nil))) pe_int) pe_int) (fun _ _ => rfl)) pa_nil))))) pss_nil) (pss_one (ps_ret (pe_ifExp (pt_cmpR op_eq (pe_c (cal_pull C) hr (pa_cons (pv 0) (pa_cons pe_int pa_nil))) pe_int (nomark _)) (pe_tup (pa_cons pe_str (pa_cons (pv 4) (pa_cons pe_int pa_nil)))) (pe_tup (pa_cons pe_str (pa_cons (pv 4) (pa_cons pe_str pa_nil))))))))))))))))), ?_⟩
  obtain ⟨b, bc, m, c, s, N, rfl, hb, hm, nob, hg, hN, k⟩ := h
  refine pullR rfl hb (by decide) (by decide) fun H1 way g1 w0 w1 => ?_
  have hm1 := hm.gone hb g1 nob
  have few := hg.few
  obtain ⟨vs, vf, h1, h2, h3⟩ := id hm1.at_
  obtain ⟨fa_, rfl, h4⟩ := dp_tip h3
  refine ⟨_, rfl, _, rfl, m, _, rfl, dg_order h1, _, rfl, m, _, rfl, dg_fresh h1, fa_, _, _, _, rfl, rfl, h4, rfl, ?_⟩
  refine ⟨b, bc, c.o, s.order, s.fresh.1, rfl, g1.2, SqL.of hm1.cont.o, nob, by omega, fun H2 n g2 hn => ?_⟩
  have g12 := g1.trans g2
  have hsm := Small.num hg hN hn
  have hm2 := hm.gone hb g12 nob
  obtain ⟨vs2, vf2, h21, _, _⟩ := id hm2.at_
  refine ⟨fun _ H' => Gone K H b bc H', ?_, ?_⟩
  · refine ⟨_, rfl, _, _, rfl, rfl, _, rfl, ite2 (fun _ => g12) (fun _ => ?_)⟩
    refine ⟨_, rfl, m, _, rfl, dg_order h21, by decide, fun p np => ⟨.list (s.order.map .int), .list [], .lst (sqL_new (SqL.of hm2.cont.o) np) (dpa_ints _), .lst (SqL.of upd_same) .nil, shp_ints _, rfl, _, rfl, ?_⟩⟩
    exact ite2 (fun _ => ⟨_, rfl, _, _, rfl, rfl, _, rfl, g12.new np⟩) fun _ => g12.new np
  rintro bb H3 g3
  have hm3 := hm.gone hb g3 nob
  obtain ⟨vs3, vf3, h31, h32, h33⟩ := id hm3.at_
  obtain ⟨fa3, rfl, h34⟩ := dp_tip h33
  refine ite2 (fun _ => ?_) (fun _ => ?_)
  · refine ⟨_, rfl, _, rfl, m, _, rfl, dg_order h31, c.o, _, rfl, .inl (SqL.of hm3.cont.o), _, _, rfl, rfl, b, bc, _, rfl, g3.2, by simp only [List.length_map]; omega, by simp only [List.length_map]; omega, fun H4 r4 g4 _ _ => ?_⟩
    refine pick_end (n := 4) rfl (g3.trans g4).2 rfl (by decide) (by decide) fun y hy H5 g5 => ?_
    obtain ⟨y, rfl, y0, y1⟩ : ∃ i : Int, y = .int i ∧ 0 ≤ i ∧ i ≤ 1 := by
      simp only [List.mem_cons, List.not_mem_nil, or_false] at hy
      rcases hy with rfl | rfl | rfl | rfl <;> exact ⟨_, rfl, by decide, by decide⟩
    have g5' := (g3.trans g4).trans g5
    refine pullR rfl g5'.2 (by decide) (by decide) fun H6 r6 g6 _ _ => ⟨_, _, rfl, rfl, _, _, rfl, rfl, .inl ⟨by omega, by omega⟩, _, _, rfl, rfl, ?_⟩
    refine ⟨_, rfl, _, rfl, _, rfl, b, bc, 3, rfl, (g5'.trans g6).2, by decide, by decide, fun H7 v mu g7 dmu ok l => ⟨by show 3 ≤ sizeLine; decide, fun t nt => ?_⟩⟩
    exact k _ _ (.bar _ mu) (((g5'.trans g6).trans g7).new nt) (.tup (SqT.of upd_same) (.cons (.str _) (.cons (.int _) (.cons (dp_but (But.refl.new nt) _ _ (tup_br mu) dmu) .nil)))) ⟨ok, l⟩
  refine ⟨_, rfl, _, _, rfl, rfl, _, rfl, ite2 (fun _ => ?_) (fun _ => ?_)⟩
  · refine ⟨_, rfl, _, rfl, _, rfl, b, bc, 3, rfl, g3.2, by decide, by decide, fun H7 v mu g7 dmu ok l => ⟨by show 3 ≤ sizeLine; decide, fun t nt => ?_⟩⟩
    exact k _ _ (.change n mu) ((g3.trans g7).new nt) (.tup (SqT.of upd_same) (.cons (.str _) (.cons (.int _) (.cons (dp_but (But.refl.new nt) _ _ (tup_br mu) dmu) .nil)))) ⟨hsm, ok, l⟩
  refine ⟨_, rfl, rfl, _, rfl, ite2 (fun _ => ?_) (fun _ => ?_)⟩
  · exact ⟨_, rfl, by show 2 ≤ sizeLine; decide, fun t nt => k _ _ (.cut n) (g3.new nt) (.tup (SqT.of upd_same) (.cons (.str _) (.cons (.int _) .nil))) hsm⟩
  refine ⟨_, rfl, _, _, rfl, rfl, _, rfl, ite2 (fun _ => ?_) (fun _ => ?_)⟩
  · refine ⟨_, rfl, _, rfl, _, rfl, m, _, rfl, dg_order h31, c.o, _, rfl, .inl (SqL.of hm3.cont.o), _, _, rfl, rfl, b, bc, _, rfl, g3.2, by simp only [List.length_map]; omega, by simp only [List.length_map]; omega, fun H4 r4 g4 _ _ => ?_⟩
    refine pullR rfl g4.2 (by decide) (by decide) fun H5 r5 g5 _ _ => ⟨_, _, rfl, rfl, ⟨by decide, by decide⟩, _, _, rfl, rfl, by show 3 ≤ sizeLine; decide, fun t nt => ?_⟩
    exact k _ _ (.move n _) (((g3.trans g4).trans g5).new nt) (.tup (SqT.of upd_same) (.cons (.str _) (.cons (.int _) (.cons (.int _) .nil)))) hsm
  refine ⟨_, rfl, _, _, rfl, rfl, _, rfl, ite2 (fun _ => ?_) (fun _ => ?_)⟩
  · -- a mark
    refine pullR rfl g3.2 (by decide) (by decide) fun H4 on g4 _ _ => pullR rfl g4.2 (by decide) (by decide) fun H5 r5 g5 _ _ => ⟨_, _, rfl, rfl, _, _, rfl, ?_⟩
    have g5' := (g3.trans g4).trans g5
    refine ⟨_, rfl, _, rfl, b, bc, m, c, s, N, rfl, g5'.2, hm.gone hb g5' nob, nob, hg, hN, fun H6 v1 t1 g6 d1 sa1 sb1 => ?_⟩
    have g6' := g5'.trans g6
    refine ⟨_, rfl, _, rfl, b, bc, m, c, s, N, rfl, g6'.2, hm.gone hb g6' nob, nob, hg, hN, fun H7 v2 t2 g7 d2 sa2 sb2 => ⟨by show 2 ≤ sizeLine; decide, fun l nl => ?_⟩⟩
    have g8 := (g6'.trans g7).new (o := .lst [v1, v2]) nl
    have d1' : Dp K (upd H7 l (.lst [v1, v2])) v1 (tipD t1) := dp_but (But.refl.new nl) _ _ (tup_tip _) (dp_but g7.1 _ _ (tup_tip _) d1)
    have d2' : Dp K (upd H7 l (.lst [v1, v2])) v2 (tipD t2) := dp_but (But.refl.new nl) _ _ (tup_tip _) d2
    have hl8 : (upd H7 l (.lst [v1, v2])) l = some (.lst [v1, v2]) := upd_same
    have nlb : l ≠ b := Gone.ne (g6'.trans g7).2 nl
    generalize upd H7 l (.lst [v1, v2]) = H8 at g8 d1' d2' hl8
    refine ⟨fun σ' H' => ∃ (on th : Int), σ' = [some (.ref b), some (.ref m), some (.int 3), some (.int way), some (.int n), none, some (.int on), some (.int th), some (.ref l), none] ∧ Gone K H8 b bc H', ?_, ?_⟩
    · refine pullR rfl g8.2 (by decide) (by decide) fun H9 r9 g9 _ _ => ⟨rfl, _, rfl, ite2 (fun _ => ?_) (fun _ => ⟨_, _, rfl, g9⟩)⟩
      refine fun H10 us p b10 da np => ?_
      have g10 := (g9.step b10).new (o := .lst us) np
      refine pullR rfl g10.2 (by decide) (by decide) fun H11 r11 g11 r110 r111 => ?_
      obtain ⟨j, rfl⟩ : ∃ j : Nat, r11 = (j : Int) := ⟨r11.toNat, by omega⟩
      have hlen := dpa_length da
      have hj : j < us.length := by rw [hlen]; show j < 4; omega
      obtain ⟨dj, hdj, dpj⟩ := dpa_get da (List.getElem?_eq_getElem hj)
      obtain ⟨x, y, rfl⟩ : ∃ x y : Int, dj = .tuple [.int x, .int y] := by
        have hm := List.mem_of_getElem? hdj
        simp only [List.mem_cons, List.not_mem_nil, or_false] at hm
        rcases hm with rfl | rfl | rfl | rfl <;> exact ⟨_, _, rfl⟩
      have dpj' : Dp K H11 us[j] (tipD (x, y)) := dp_but g11.1 _ _ rfl (dp_but (But.refl.new np) _ _ rfl dpj)
      obtain ⟨q, eq, hq⟩ := dp_tip dpj'
      refine ⟨p, us, j, us[j], rfl, rfl, SqL.of (g11.at upd_same (Gone.ne (g9.step b10).2 np)), atI_nat (List.getElem?_eq_getElem hj), q, _, eq, hq, rfl, _, _, rfl, _, _, rfl, rfl, x, y, rfl, ?_⟩
      exact g10.trans g11
    rintro σ' H9 ⟨on, th, rfl, g9⟩
    have hl9 : H9 l = some (.lst [v1, v2]) := g9.at hl8 nlb
    have d19 := dp_but g9.1 _ _ (tup_tip _) d1'
    have d29 := dp_but g9.1 _ _ (tup_tip _) d2'
    have hm9 := hm.gone hb (g8.trans g9) nob
    obtain ⟨vs9, vf9, h91, _, _⟩ := id hm9.at_
    obtain ⟨ks, hk1, hk2⟩ := id hm9.cont.mu
    refine ⟨fun σ' H' => ∃ (l' : Addr) (ys : List V) (ds : List PyData) (x5 x9 : Option V), σ' = [some (.ref b), some (.ref m), some (.int 3), some (.int way), some (.int n), x5, some (.int on), some (.int th), some (.ref l'), x9] ∧ Gone K H9 b bc H' ∧ H' l' = some (.lst ys) ∧ DpAll K H' ys ds ∧ ds.length = 2 ∧ ∀ d ∈ ds, ∃ t, d = tipD t ∧ Small t.1 ∧ Small t.2, ?_, ?_⟩
    · have keep9 : ∃ (l' : Addr) (ys : List V) (ds : List PyData) (x5 x9 : Option V), ([some (.ref b), some (.ref m), some (.int 3), some (.int way), some (.int n), none, some (.int on), some (.int th), some (.ref l), none] : L2.St) = [some (.ref b), some (.ref m), some (.int 3), some (.int way), some (.int n), x5, some (.int on), some (.int th), some (.ref l'), x9] ∧ l' = l ∧ ys = [v1, v2] ∧ ds = [tipD t1, tipD t2] := ⟨l, _, _, none, none, rfl, rfl, rfl, rfl⟩
      refine ⟨fun bb H' => Gone K H9 b bc H' ∧ (bb = true → t1.1 ∈ s.order ∧ t2.1 ∈ s.order), ?_, ?_⟩
      · refine ⟨_, rfl, l, rfl, ⟨_, SqL.of hl9⟩, fun D nD => ?_⟩
        have nDl : D ≠ l := fun z => by rw [z, hl9] at nD; cases nD
        have nDb : D ≠ b := Gone.ne g9.2 nD
        refine lc_list (K := K) (a := l) (xs := [v1, v2]) (fun i H' => But [D] (upd H9 D (.lst [])) H' ∧ H' D = some (.lst ((([t1, t2].take i).map fun t => (getM s.music t.1).isSome).map V.bl))) ⟨But.nil _ (fun x hx => by rw [show x = D by simpa using hx]; exact nt_lst upd_same), upd_same⟩ ?_ ?_ ?_
        · rintro i H' _ ⟨b1, _⟩
          exact b1.sqL (SqL.of ((upd_ne (Ne.symm nDl)).trans hl9)) (by simpa using Ne.symm nDl)
        · rintro i x H' hx ⟨b1, hD⟩
          have bd : But [] H9 H' := (But.refl.new (o := .lst []) nD).thn b1 fun z hz => .inr (by rw [show z = D by simpa using hz]; exact nD)
          obtain ⟨t, dv, et⟩ : ∃ t, Dp K H9 x (tipD t) ∧ [t1, t2].take (i + 1) = [t1, t2].take i ++ [t] := two_get hx d19 d29
          obtain ⟨q, rfl, hq⟩ := dp_tip (dp_but bd _ _ (tup_tip _) dv)
          obtain ⟨vs', vf', h', _, _⟩ := id (hm9.new bd).at_
          obtain ⟨ks', hk', hk2'⟩ := (hm9.new bd).cont.mu
          have eS : (valV ks' (.inl t.1)).isSome = (getM s.music t.1).isSome := by
            rcases kv_get hk2' t.1 with ⟨e1, e2⟩ | ⟨_, _, e1, e2, _⟩ <;> rw [e1, e2] <;> rfl
          refine ⟨rfl, _, rfl, q, _, _, _, rfl, rfl, hq, rfl, _, rfl, m, _, rfl, dg_music h', c.mu, _, rfl, DGet.k (k := .inl t.1) hk', _, hD, ?_, b1.thn (But.one (nt_lst hD)) (fun z hz => .inl hz), ?_⟩
          · rw [List.length_map, List.length_map, List.length_take, sizeLine_eq]; show min i 2 < 16777216; omega
          · rw [upd_same, et, List.map_append, List.map_append, eS]; rfl
        · rintro H' ⟨b1, hD⟩
          have bd : But [] H9 H' := (But.refl.new (o := .lst []) nD).thn b1 fun z hz => .inr (by rw [show z = D by simpa using hz]; exact nD)
          have g9' := (Gone.refl g9.2).step bd
          refine ⟨D, _, rfl, SqL.of hD, _, rfl, ite2 (fun e => ?_) (fun e => ?_)⟩
          · refine pullR rfl g9'.2 (by decide) (by decide) fun H10 r10 g10 _ _ => ⟨_, _, rfl, rfl, _, rfl, g9'.trans g10, fun _ => ?_⟩
            have e' : ((getM s.music t1.1).isSome && ((getM s.music t2.1).isSome && true)) = true := e
            simp only [Bool.and_true, Bool.and_eq_true] at e'
            exact ⟨(hg.keys _).mpr (getM_isSome.mp e'.1), (hg.keys _).mpr (getM_isSome.mp e'.2)⟩
          · exact ⟨g9', fun z => by cases z⟩
      · rintro bb H10 ⟨g10, hin⟩
        have d10 := dp_but g10.1 _ _ (tup_tip _) d19
        have d20 := dp_but g10.1 _ _ (tup_tip _) d29
        have hl10 := g10.at hl9 nlb
        refine ite2 (fun e => ?_) (fun e => ⟨l, [v1, v2], [tipD t1, tipD t2], none, none, rfl, g10, hl10, .cons d10 (.cons d20 .nil), rfl, fun d hd => ?_⟩)
        · have hm10 := hm.gone hb ((g8.trans g9).trans g10) nob
          refine ⟨_, rfl, l, rfl, ⟨_, SqL.of hl10⟩, fun D nD => ?_⟩
          refine lc_list (K := K) (a := l) (xs := [v1, v2]) (fun i H' => ∃ ys, Acc K [] (upd H10 D (.lst [])) D (([t1, t2].take i).map fun t => .tuple [.tuple [.int (idx s.order t.1 : Nat), .int t.2], tipD t]) H' ys) ⟨[], Acc.start upd_same (by simp)⟩ ?_ ?_ ?_
          · rintro i H' _ ⟨ys, ac⟩
            have bd : But [] H10 H' := (But.refl.new (o := .lst []) nD).thn ac.but fun z hz => .inr (by rw [show z = D by simpa using hz]; exact nD)
            exact bd.sqL (SqL.of hl10) (by simp)
          · rintro i x H' hx ⟨ys, ac⟩
            have bd : But [] H10 H' := (But.refl.new (o := .lst []) nD).thn ac.but fun z hz => .inr (by rw [show z = D by simpa using hz]; exact nD)
            obtain ⟨t, dv, et⟩ : ∃ t, Dp K H10 x (tipD t) ∧ [t1, t2].take (i + 1) = [t1, t2].take i ++ [t] := two_get hx d10 d20
            have ht : t.1 ∈ s.order := by
              have ht : t ∈ [t1, t2].take (i + 1) := by rw [et]; simp
              rcases List.mem_cons.mp (List.mem_of_mem_take ht) with rfl | ht
              · exact (hin e).1
              · rw [List.mem_singleton.mp ht]; exact (hin e).2
            have dx := dp_but bd _ _ (tup_tip _) dv
            refine ⟨rfl, _, rfl, _, rfl, m, c, s, x, t, rfl, hm10.new bd, dx, ht, fun p np => ⟨_, rfl, by show 2 ≤ sizeLine; decide, fun q nq => ?_⟩⟩
            have bb2 : But [] H' (upd (upd H' p (.tup [.int (idx s.order t.1 : Nat), .int t.2])) q (.tup [.ref p, x])) := (But.refl.new np).new nq
            obtain ⟨hD, ac'⟩ := ac.push (d := .tuple [.tuple [.int (idx s.order t.1 : Nat), .int t.2], tipD t]) bb2 (by simp) (.tup (SqT.of upd_same) (.cons (.tup (sqT_new (SqT.of upd_same) nq) (.cons (.int _) (.cons (.int _) .nil))) (.cons (dp_but bb2 _ _ (tup_tip _) dx) .nil))) (tup_all _ (fun _ => rfl) _) rfl
            refine ⟨_, hD, ?_, _, by rw [et, List.map_append]; exact ac'⟩
            have := dpa_length ac.da
            rw [this, List.length_map, List.length_take, sizeLine_eq]; show min i 2 < 16777216; omega
          · rintro H' ⟨ys, ac⟩
            have bd : But [] H10 H' := (But.refl.new (o := .lst []) nD).thn ac.but fun z hz => .inr (by rw [show z = D by simpa using hz]; exact nD)
            refine ⟨D, ys, _, rfl, SqL.of ac.at_, ac.da, ?_, ?_, ?_, fun zs p pz np => ⟨p, rfl, ⟨_, SqL.of upd_same⟩, fun D2 nD2 => ?_⟩⟩
            · intro d hd d' hd'
              obtain ⟨t, _, rfl⟩ := List.mem_map.mp hd
              obtain ⟨t', _, rfl⟩ := List.mem_map.mp hd'
              simp [PySem.W.alike, PySem.W.alikeAll, tipD]
            · refine .inl fun d hd => ?_
              obtain ⟨t, _, rfl⟩ := List.mem_map.mp hd
              exact ⟨_, _, rfl⟩
            · intro d hd
              obtain ⟨t, _, rfl⟩ := List.mem_map.mp hd
              show (2 : Nat) ≤ 64
              decide
            have bp : But [] H' (upd H' p (.lst zs)) := But.refl.new np
            have hp : (upd H' p (.lst zs)) p = some (.lst zs) := upd_same
            have dz := dps_but bp _ _ (tup_all _ (fun _ => rfl) _) ac.da
            have lz : zs.length = 2 := by rw [pz.length_eq, dpa_length ac.da]; rfl
            generalize upd H' p (.lst zs) = H11 at bp hp dz nD2
            have g11 := (g10.step bd).step bp
            refine lc_list (K := K) (a := p) (xs := zs) (fun i H' => ∃ us es, Acc K [] (upd H11 D2 (.lst [])) D2 es H' us ∧ es.length = i ∧ ∀ d ∈ es, ∃ t, d = tipD t ∧ Small t.1 ∧ Small t.2) ⟨[], [], Acc.start upd_same (by simp), rfl, by simp⟩ ?_ ?_ ?_
            · rintro i H12 _ ⟨us, es, ac2, _⟩
              have bd2 : But [] H11 H12 := (But.refl.new (o := .lst []) nD2).thn ac2.but fun z hz => .inr (by rw [show z = D2 by simpa using hz]; exact nD2)
              exact bd2.sqL (SqL.of hp) (by simp)
            · rintro i x H12 hx ⟨us, es, ac2, les, hes⟩
              have bd2 : But [] H11 H12 := (But.refl.new (o := .lst []) nD2).thn ac2.but fun z hz => .inr (by rw [show z = D2 by simpa using hz]; exact nD2)
              obtain ⟨dx, hdx, dpx⟩ := dpa_mem dz (pz.mem_iff.mp (List.mem_of_getElem? hx))
              obtain ⟨t, ht, rfl⟩ := List.mem_map.mp hdx
              obtain ⟨q, ws, rfl, hq, dw⟩ := dp_tup (dp_but bd2 _ _ rfl dpx)
              obtain ⟨w1, ws, rfl, _, dw⟩ := dpa_cons dw
              obtain ⟨w2, ws, rfl, dw2, dw⟩ := dpa_cons dw
              cases dpa_nil dw
              have hte : ∀ d ∈ es, tupD d = true := fun d hd => by obtain ⟨t, rfl, _⟩ := hes d hd; rfl
              obtain ⟨hD, ac'⟩ := ac2.push (d := tipD t) But.refl (by simp) dw2 (tup_of hte) rfl
              have hi : i < 2 := by have := (List.getElem?_eq_some_iff.mp hx).1; omega
              have hul := dpa_length ac2.da
              refine ⟨q, _, rfl, hq, rfl, _, _, rfl, _, _, rfl, rfl, rfl, _, rfl, _, hD, by rw [sizeLine_eq]; omega, _, _, ac', by simp [les], fun d hd => ?_⟩
              rcases List.mem_append.mp hd with hd | hd
              · exact hes d hd
              · rw [List.mem_singleton.mp hd]
                rcases List.mem_cons.mp (List.mem_of_mem_take ht) with rfl | ht
                · exact ⟨_, rfl, sa1, sb1⟩
                · rw [List.mem_singleton.mp ht]; exact ⟨_, rfl, sa2, sb2⟩
            · rintro H12 ⟨us, es, ac2, les, hes⟩
              have bd2 : But [] H11 H12 := (But.refl.new (o := .lst []) nD2).thn ac2.but fun z hz => .inr (by rw [show z = D2 by simpa using hz]; exact nD2)
              exact ⟨D2, us, es, none, none, rfl, g11.step bd2, ac2.at_, ac2.da, by omega, hes⟩
        · simp only [List.mem_cons, List.not_mem_nil, or_false] at hd
          rcases hd with rfl | rfl
          · exact ⟨_, rfl, sa1, sb1⟩
          · exact ⟨_, rfl, sa2, sb2⟩
    · rintro σ' H' ⟨l', ys, ds, x5, x9, rfl, g10, hl', da, l2, hds⟩
      obtain ⟨da1, ds, rfl⟩ : ∃ x r, ds = x :: r := by cases ds with | nil => cases l2 | cons x r => exact ⟨_, _, rfl⟩
      obtain ⟨da2, ds, rfl⟩ : ∃ x r, ds = x :: r := by cases ds with | nil => cases l2 | cons x r => exact ⟨_, _, rfl⟩
      obtain rfl : ds = [] := List.length_eq_zero_iff.mp (by simpa using l2)
      obtain ⟨ta, rfl, sa3, sb3⟩ := hds da1 (by simp)
      obtain ⟨tb, rfl, sa4, sb4⟩ := hds da2 (by simp)
      obtain ⟨y1, ys, rfl, dy1, da⟩ := dpa_cons da
      obtain ⟨y2, ys, rfl, dy2, da⟩ := dpa_cons da
      cases dpa_nil da
      refine ⟨_, rfl, _, rfl, l', _, _, _, rfl, rfl, SqL.of hl', rfl, _, rfl, l', _, _, _, rfl, rfl, SqL.of hl', rfl, _, rfl, by show 5 ≤ sizeLine; decide, fun t nt => ?_⟩
      have bt : But [] H' (upd H' t (.tup [.str "mark", .int on, y1, y2, .int th])) := But.refl.new nt
      exact k _ _ (.mark (on, ta, tb, th)) (((g8.trans g9).trans g10).new nt) (.tup (SqT.of upd_same) (.cons (.str _) (.cons (.int _) (.cons (dp_but bt _ _ (tup_tip _) dy1) (.cons (dp_but bt _ _ (tup_tip _) dy2) (.cons (.int _) .nil)))))) ⟨sa3, sb3, sa4, sb4⟩
  refine ⟨_, rfl, rfl, _, rfl, ite2 (fun _ => ?_) (fun _ => ?_)⟩
  · -- a mark wiped
    obtain ⟨ks, hk1, hk2⟩ := hm3.cont.sp
    have sfew := hg.sfew
    refine ⟨_, rfl, _, rfl, m, _, rfl, dg_spans h31, c.sp, ks, s.spans.map (·.1), rfl, .inl hk1, kv_keys hk2, by rw [List.length_map]; omega, fun ys l py _ nl => ?_⟩
    have gl := g3.new (o := .lst (ys.map V.int)) nl
    have bl : But [] H3 (upd H3 l (.lst (ys.map V.int))) := But.refl.new nl
    refine ⟨_, rfl, m, _, rfl, dg_fresh (bl.keep _ _ h31 (by simp)), fa3, _, _, _, rfl, rfl, bl.sqT h34, rfl, ?_⟩
    refine ⟨b, bc, l, ys, s.fresh.2, rfl, gl.2, SqL.of upd_same, Gone.ne g3.2 nl, by rw [py.length_eq, List.length_map]; omega, fun H5 n5 g5 hn5 => ⟨by show 2 ≤ sizeLine; decide, fun t nt => ?_⟩⟩
    refine k _ _ (.wipe n5) ((gl.trans g5).new nt) (.tup (SqT.of upd_same) (.cons (.str _) (.cons (.int _) .nil))) ?_
    have hf := hg.fr2
    show n5.natAbs < 2 ^ 60
    rcases hn5 with h | h | h
    · have := hg.snos n5 (py.mem_iff.mp h)
      omega
    · omega
    · omega
  refine ⟨_, rfl, rfl, _, rfl, ite2 (fun _ => ?_) (fun _ => ?_)⟩
  · -- an end
    refine ⟨_, rfl, by show 5 ≤ sizeLine; decide, fun p np => ?_⟩
    have gp := g3.new (o := .lst [.str "must", .str "never", .str "free", .str "Must", .str ""]) np
    refine pullR rfl gp.2 (by decide) (by decide) fun H5 r5 g5 r50 r51 => ⟨_, _, rfl, rfl, (by decide : (0 : Int) < 5), ?_⟩
    have hp := g5.at (upd_same (H := H3) (a := p) (o := .lst [.str "must", .str "never", .str "free", .str "Must", .str ""])) (Gone.ne g3.2 np)
    have fin : ∀ x : Str, x ∈ (["must", "never", "free", "Must", ""] : List Str) → ∀ t, H5 t = none → Q (.ref t) (upd H5 t (.tup [.str "end", .int n, .str x])) := fun x hx t nt => k _ _ (.fin n x) ((gp.trans g5).new nt) (.tup (SqT.of upd_same) (.cons (.str _) (.cons (.int _) (.cons (.str _) .nil)))) ⟨hsm, hx⟩
    rcases of5 (r := r5 % 5) (Int.emod_nonneg _ (by decide)) (Int.emod_lt_of_pos _ (by decide)) with e | e | e | e | e
    · exact ⟨p, _, _, _, rfl, rfl, SqL.of hp, e ▸ rfl, by show 3 ≤ sizeLine; decide, fin _ (.head _)⟩
    · exact ⟨p, _, _, _, rfl, rfl, SqL.of hp, e ▸ rfl, by show 3 ≤ sizeLine; decide, fin _ (.tail _ (.head _))⟩
    · exact ⟨p, _, _, _, rfl, rfl, SqL.of hp, e ▸ rfl, by show 3 ≤ sizeLine; decide, fin _ (.tail _ (.tail _ (.head _)))⟩
    · exact ⟨p, _, _, _, rfl, rfl, SqL.of hp, e ▸ rfl, by show 3 ≤ sizeLine; decide, fin _ (.tail _ (.tail _ (.tail _ (.head _))))⟩
    · exact ⟨p, _, _, _, rfl, rfl, SqL.of hp, e ▸ rfl, by show 3 ≤ sizeLine; decide, fin _ (.tail _ (.tail _ (.tail _ (.tail _ (.head _)))))⟩
  refine ⟨_, rfl, rfl, _, rfl, ite2 (fun _ => ?_) (fun _ => ?_)⟩
  · -- a paper
    refine fun H4 x b4 dx => ⟨_, rfl, b, bc, rfl, (g3.step b4).2, fun H5 v sh g5 dv l5 => ⟨_, rfl, slA_end dv (tup_ints sh) fun v2 H6 b6 d6 => ?_⟩⟩
    rw [cutL_map] at d6
    have g6 := ((g3.step b4).trans g5).step b6
    refine catA_end (dp_but b6 _ _ rfl (dp_but g5.1 _ _ rfl dx)) d6 rfl (tup_ints _) (by simp only [List.length_cons, List.length_nil, List.length_map]; have := cutL_four sh l5; omega) fun v3 H7 b7 d7 => ?_
    have g7 := g6.step b7
    refine pullR rfl g7.2 (by decide) (by decide) fun H8 r8 g8 _ _ => ⟨_, rfl, by show 3 ≤ sizeLine; decide, fun p np => ?_⟩
    have gp := (g7.trans g8).new (o := .lst [.int r8, .int 1000, .int (-1)]) np
    refine pullR rfl gp.2 (by decide) (by decide) fun H9 r9 g9 _ _ => ⟨_, _, rfl, rfl, ⟨by decide, by decide⟩, _, _, rfl, rfl, (by decide : (0 : Int) < 3), ?_⟩
    have hp := g9.at (upd_same (H := H8) (a := p) (o := .lst [.int r8, .int 1000, .int (-1)])) (Gone.ne (g7.trans g8).2 np)
    have d9 : Dp K H9 v3 (.tuple (.str "paper" :: (cutL sh none (some 4)).map .int)) := dp_but (d := .tuple (.str "paper" :: (cutL sh none (some 4)).map .int)) g9.1 _ (tup_ints _) (dp_but (d := .tuple (.str "paper" :: (cutL sh none (some 4)).map .int)) (But.refl.new np) _ (tup_ints _) (dp_but (d := .tuple (.str "paper" :: (cutL sh none (some 4)).map .int)) g8.1 _ (tup_ints _) d7))
    have fin : ∀ z : Int, (1 : Nat) ≤ sizeLine ∧ ∀ t, H9 t = none → rCatA K v3 (.ref t) (upd H9 t (.tup [.int z])) Q := fun z => ⟨by decide, fun t nt => catA_end (es := [.int z]) (dp_but (d := .tuple (.str "paper" :: (cutL sh none (some 4)).map .int)) (But.refl.new nt) _ (tup_ints _) d9) (.tup (SqT.of upd_same) (.cons (.int z) .nil)) (tup_ints _) rfl (by simp only [List.length_cons, List.length_nil, List.length_map]; have := cutL_four sh l5; omega) fun v4 H10 b10 d10 => ?_⟩
    · have f3 : ∀ r : Int, 0 ≤ r → r < 3 → r = 0 ∨ r = 1 ∨ r = 2 := fun r h0 h1 => by omega
      rcases f3 (r9 / 7 % 3) (Int.emod_nonneg _ (by decide)) (Int.emod_lt_of_pos _ (by decide)) with e | e | e
      · exact ⟨p, _, _, _, rfl, rfl, SqL.of hp, by rw [e]; rfl, fin r8⟩
      · exact ⟨p, _, _, _, rfl, rfl, SqL.of hp, by rw [e]; rfl, fin 1000⟩
      · exact ⟨p, _, _, _, rfl, rfl, SqL.of hp, by rw [e]; rfl, fin (-1)⟩
    · refine k _ _ (.paper (cutL sh none (some 4) ++ [z])) (((gp.trans g9).new nt).step b10) ?_ ?_
      · show Dp K H10 v4 (.tuple (.str "paper" :: (cutL sh none (some 4) ++ [z]).map .int))
        rw [List.map_append]
        exact d10
      · show (cutL sh none (some 4) ++ [z]).length = 5
        rw [List.length_append, cutL_four sh l5]; rfl
  · refine pullR rfl g3.2 (by decide) (by decide) fun H4 r4 g4 _ _ => ⟨rfl, _, rfl, ite2 (fun _ => ?_) (fun _ => ?_)⟩
    · exact ⟨_, rfl, by show 3 ≤ sizeLine; decide, fun t nt => k _ _ (.odd [.str "cut", .int n, .int 0]) ((g3.trans g4).new nt) (.tup (SqT.of upd_same) (.cons (.str _) (.cons (.int _) (.cons (.int _) .nil)))) (.inr (.inr (.inr ⟨n, rfl⟩)))⟩
    · exact ⟨_, rfl, by show 3 ≤ sizeLine; decide, fun t nt => k _ _ (.fin n "never") ((g3.trans g4).new nt) (.tup (SqT.of upd_same) (.cons (.str _) (.cons (.int _) (.cons (.str _) .nil)))) ⟨hsm, .tail _ (.head _)⟩⟩
end Bu
set_option Elab.async false
set_option linter.all false
set_option maxRecDepth 100000
set_option maxHeartbeats 4000000
/-! The program: bars and their faults. -/
namespace Bu
open PySem PySem.Spec PyProof.Rows L2
theorem Cn.signs {w : World} {K : PySem.W.Frag} {mg : Str → Option Value} (C : Cn w K mg) (H : Hp) : SqT K H (He.ga K "SIGNS") [.str "", .str "s", .str "f", .str "n"] := by
  have m := C.more
  unfold exB at m
  simp only [Bool.and_eq_true] at m
  exact He.tupB_ok m.2.2.2.1 H
theorem Cn.bound {w : World} {K : PySem.W.Frag} {mg : Str → Option Value} (C : Cn w K mg) (H : Hp) : SqT K H (He.ga K "BOUND") [.str "must", .str "never"] := by
  have m := C.more
  unfold exB at m
  simp only [Bool.and_eq_true] at m
  exact He.tupB_ok m.2.2.2.2.1 H
theorem not_t {b : Bool} (h : (!b) = true) : b = false := by cases b <;> simp_all
theorem not_f {b : Bool} (h : ¬ (!b) = true) : b = true := by cases b <;> simp_all
/-- lo <= x <= hi, x a name -/
theorem chainR {lo hi i : Int} {j : Nat} {σ : L2.St} {H : Hp} {Q : VK} (hj : σ[j]? = some (some (V.int i))) (q : Q (.bl (decide (lo ≤ i ∧ i ≤ hi))) H) :
    tChain (rI0 fun i j => V.bl (decide (i ≤ j))) (rI0 fun i j => V.bl (decide (i ≤ j))) (tC (.int lo)) (tVar j) (tC (.int hi)) σ H Q := by
  refine ⟨_, hj, _, _, rfl, rfl, _, rfl, ite2 (fun e => ⟨_, _, rfl, rfl, ?_⟩) (fun e => ?_)⟩
  · show Q (.bl (decide (i ≤ hi))) H
    rw [show decide (i ≤ hi) = decide (lo ≤ i ∧ i ≤ hi) by simp [of_decide_eq_true e]]; exact q
  · have e : ¬ lo ≤ i := by simpa using e
    rw [show false = decide (lo ≤ i ∧ i ≤ hi) by simp [e]]; exact q
def spHead (K : PySem.W.Frag) : Sp := fun vs H Q _ => ∃ (v : V) (h : Hd), vs = [v] ∧ Dp K H v (hdD h) ∧ Hd.ok h ∧ Q (.bl (headOk h)) H
abbrev n_good_head : List Str := ["head", "staff", "step", "sign"]
theorem sc_good_head : FnScope n_good_head ["head"] d_good_head.scope := C8.fnScope_by (by decide +kernel)
theorem cal_good_head {P : Program} {w : World} {K : PySem.W.Frag} {mg : Str → Option Value} {base : Heap} (C : Cn w K mg)  : Cal P w K mg base CX0 1 "good_head" (spHead K) := by
  refine C.cal 16 16 d_good_head sc_good_head (fun _ _ _ _ _ _ us hl => match us, hl with | [_], _ => rfl) (fun vs H Q E h => ?_) (fun f cdv A outer s H vs Q E hr h => ?_)
  · obtain ⟨v, h, rfl, _⟩ := h
    rfl
  have nd := sc_good_head.nd
  refine ⟨_, PSs.nox (pss_cons (ps_asg (pv 0) (pg_tup rfl (pgs_cons (pg_name (i := 1) nd rfl (by first | exact Or.inl rfl | exact Or.inr rfl)) (pgs_cons (pg_name (i := 2) nd rfl (by first | exact Or.inl rfl | exact Or.inr rfl)) (pgs_cons (pg_name (i := 3) nd rfl (by first | exact Or.inl rfl | exact Or.inr rfl)) pgs_nil))))) (pss_one (ps_ret (pe_and (pe_chain op_le op_le pe_int (pv 1) (pe_gi (C.int 86))) (pe_and (pe_cmpR op_le (pe_callB call_abs (by rfl) (C.free 74) (by decide +kernel) (pa_cons (pv 2) pa_nil)) (pe_gi (C.int 87)) (nomark _)) (pe_one (pe_cmpR op_in_seq (pv 3) (pe_gi (v := .ref (He.ga K "SIGNS")) ⟨_, C.glo 63, rfl⟩) rfl))))))), ?_⟩
  obtain ⟨v, h, rfl, dv, ok, k⟩ := h
  obtain ⟨a, vs, rfl, ha, da⟩ := dp_tup dv
  obtain ⟨v1, vs, rfl, d1, da⟩ := dpa_cons da
  obtain ⟨v2, vs, rfl, d2, da⟩ := dpa_cons da
  obtain ⟨v3, vs, rfl, d3, da⟩ := dpa_cons da
  cases dpa_nil da
  cases dp_int d1
  cases dp_int d2
  cases dp_str d3
  refine ⟨_, rfl, a, _, rfl, ha, rfl, _, _, rfl, _, _, rfl, _, _, rfl, rfl, ?_⟩
  refine chainR rfl ⟨_, rfl, ite2 (fun e1 => ⟨_, rfl, _, rfl, _, _, rfl, rfl, _, rfl, ite2 (fun e2 => ⟨_, rfl, _, _, rfl, .inr (C.signs H), rfl, rfl, ?_⟩) (fun e2 => ?_)⟩) (fun e1 => ?_)⟩
  · have e3 : inV (.str h.2.2) [.str "", .str "s", .str "f", .str "n"] = true := by
      have ok : h.2.2 ∈ signs := ok
      simp only [signs, List.mem_cons, List.not_mem_nil, or_false] at ok
      rcases ok with e | e | e | e <;> rw [e] <;> rfl
    have e4 : headOk h = true := by
      unfold headOk
      rw [e1, Bool.true_and]
      have := of_decide_eq_true e2
      split at this <;> exact decide_eq_true (by omega)
    rw [e4] at k
    show Q (.bl (inV _ _)) H
    rw [e3]; exact k
  · have e4 : headOk h = false := by
      unfold headOk
      rw [e1, Bool.true_and]
      refine decide_eq_false fun z => e2 (decide_eq_true ?_)
      split <;> omega
    rw [e4] at k; exact k
  · have e4 : headOk h = false := by
      unfold headOk
      rw [show decide (0 ≤ h.1 ∧ h.1 ≤ 3) = false by simpa using e1]; rfl
    rw [e4] at k; exact k
theorem lexLt2 (a b c d : Int) : HT.lexLt [a, b] [c, d] = (decide (a < c) || (decide (a = c) && decide (b < d))) := by
  simp only [HT.lexLt]
  by_cases h : a = c
  · subst h; by_cases h2 : b = d <;> simp [h2]
  · simp [h]
/-- a list of truth values that grows at D -/
structure Bools (H0 : Hp) (D : Addr) (bs : List Bool) (H2 : Hp) : Prop where
  at_ : H2 D = some (.lst (bs.map V.bl))
  but : But [] H0 H2
theorem Bools.start {H0 : Hp} {D : Addr} (n : H0 D = none) : Bools H0 D [] (upd H0 D (.lst [])) := ⟨upd_same, But.refl.new n⟩
theorem Bools.push {H0 H2 H4 : Hp} {D : Addr} {bs : List Bool} {c : Bool} (a : Bools H0 D bs H2) (n : H0 D = none) (b : But [] H2 H4) : H4 D = some (.lst (bs.map V.bl)) ∧ Bools H0 D (bs ++ [c]) (upd H4 D (.lst (bs.map V.bl ++ [.bl c]))) :=
  ⟨b.keep D _ a.at_ (by simp), by rw [upd_same, List.map_append]; rfl, (a.but.step b).young n⟩
theorem take_push {α β : Type} {l : List α} {i : Nat} {x : α} (f : α → β) (h : l[i]? = some x) : (l.take (i + 1)).map f = (l.take i).map f ++ [f x] := by
  rw [List.take_add_one, h, List.map_append]; rfl
theorem range_push {β : Type} (f : Nat → β) (i : Nat) : (List.range (i + 1)).map f = (List.range i).map f ++ [f i] := by rw [List.range_succ, List.map_append]; rfl
def bl2 (l : List Hd) (j : Nat) : Bool := match l[j]?, l[j + 1]? with
  | some a, some b => below2 a b
  | _, _ => true
theorem climbs_all : ∀ l : List Hd, ((List.range (l.length - 1)).map (bl2 l)).all id = climbs l
  | [] => rfl
  | [a] => rfl
  | a :: b :: r => by
    have e : (a :: b :: r).length - 1 = ((b :: r).length - 1) + 1 := by simp
    rw [e, List.range_succ_eq_map, List.map_cons, List.all_cons, List.map_map]
    have e2 : (bl2 (a :: b :: r) ∘ Nat.succ) = bl2 (b :: r) := by
      funext j; simp [bl2]
    rw [e2, climbs_all (b :: r)]
    rfl
theorem cutL_hd (a b : Int) (c : Str) : cutL [.int a, .int b, .str c] none (some 2) = [PyData.int a, .int b] := by
  unfold cutL
  rw [HT.sIx_none, show (some (2 : Int)) = some ((2 : Nat) : Int) from rfl, HT.sIx_nat]; rfl
def spMom (K : PySem.W.Frag) : Sp := fun vs H Q _ => ∃ (v : V) (m : Mo), vs = [v] ∧ Dp K H v (moD m) ∧ Mo.ok m ∧ ∀ H', But [] H H' → Q (.bl (momOk m)) H'
abbrev n_good_moment : List Str := ["moment", "beats", "heads", "word", "head", "at"]
theorem sc_good_moment : FnScope n_good_moment ["moment"] d_good_moment.scope := C8.fnScope_by (by decide +kernel)
theorem cal_good_moment {P : Program} {w : World} {K : PySem.W.Frag} {mg : Str → Option Value} {base : Heap} (C : Cn w K mg)  : Cal P w K mg base CX0 2 "good_moment" (spMom K) := by
  refine C.cal 17 17 d_good_moment sc_good_moment (fun _ _ _ _ _ _ us hl => match us, hl with | [_], _ => rfl) (fun vs H Q E h => ?_) (fun f cdv A outer s H vs Q E hr h => ?_)
  · obtain ⟨v, m, rfl, _⟩ := h
    rfl
  have nd := sc_good_moment.nd
  refine ⟨_, PSs.nox (pss_cons (ps_asg (pv 0) (pg_tup rfl (pgs_cons (pg_name (i := 1) nd rfl (by first | exact Or.inl rfl | exact Or.inr rfl)) (pgs_cons (pg_name (i := 2) nd rfl (by first | exact Or.inl rfl | exact Or.inr rfl)) (pgs_cons (pg_name (i := 3) nd rfl (by first | exact Or.inl rfl | exact Or.inr rfl)) pgs_nil))))) (pss_cons (ps_if (PW.pt (pw_or (pt_not (pt_chain op_le op_le pe_int (pv 1) (pe_gi (C.int 83)))) (pw_or (pt_cmpR op_gt (pe_callB call_len_seq (by rfl) (C.free 67) (by decide +kernel) (pa_cons (pv 2) pa_nil)) (pe_gi (C.int 84)) (nomark _)) (pw_or1 (pt_not (pt_chain op_le op_le pe_int (pv 3) (pe_gi (C.int 85)))))))) (pss_one (ps_ret pe_bl)) pss_nil) (pss_cons (ps_if (pt_not (pt_val (pe_callB (cr_all rfl) (by rfl) (C.free 75) (by decide +kernel) (pa_cons (pe_lc (own := [("head", 4)]) (tt := tYes) rfl nd (pi_tup (pv 2)) (blkOk_by (own := [("head", 4)]) (N := n_good_moment) (sc := d_good_moment.scope) (by decide +kernel)) (fun _ _ _ _ _ => (pg_name (i := 4) nd rfl (by first | exact Or.inl rfl | exact Or.inr rfl))) (fun _ _ _ _ _ => pts_nil) (fun _ _ _ _ _ => (pe_c (cal_good_head C) hr (pa_cons (pv 4) pa_nil)))) pa_nil)))) (pss_one (ps_ret pe_bl)) pss_nil) (pss_one (ps_ret (pe_callB (cr_all rfl) (by rfl) (C.free 75) (by decide +kernel) (pa_cons (pe_lc (own := [("at", 5)]) (tt := tYes) rfl nd (pi_range1 rfl (C.free 68) (pa_cons (pe_op op_sub (pe_callB call_len_seq (by rfl) (C.free 67) (by decide +kernel) (pa_cons (pv 2) pa_nil)) pe_int) pa_nil)) (blkOk_by (own := [("at", 5)]) (N := n_good_moment) (sc := d_good_moment.scope) (by decide +kernel)) (fun _ _ _ _ _ => (pg_name (i := 5) nd rfl (by first | exact Or.inl rfl | exact Or.inr rfl))) (fun _ _ _ _ _ => pts_nil) (fun _ _ _ _ _ => (pe_cmpR (v_op_ltT hr.units0 (K := K)) (pe_slice (v_sl_tupA (K := K)) (pe_ix (v_ix_tup (K := K)) (pv 2) (pv 5) (fun _ _ => rfl)) po_none (po_some pe_int)) (pe_slice (v_sl_tupA (K := K)) (pe_ix (v_ix_tup (K := K)) (pv 2) (pe_op op_add (pv 5) pe_int) (fun _ _ => rfl)) po_none (po_some pe_int)) (nomark _)))) pa_nil))))))), ?_⟩
  obtain ⟨v, m, rfl, dv, ok, k⟩ := h
  obtain ⟨a, vs, rfl, ha, da⟩ := dp_tup dv
  obtain ⟨v1, vs, rfl, d1, da⟩ := dpa_cons da
  obtain ⟨v2, vs, rfl, d2, da⟩ := dpa_cons da
  obtain ⟨v3, vs, rfl, d3, da⟩ := dpa_cons da
  cases dpa_nil da
  cases dp_int d1
  cases dp_int d3
  obtain ⟨a2, hs, rfl, hh, dh⟩ := dp_tup d2
  have lh := dpa_length dh
  rw [List.length_map] at lh
  refine ⟨_, rfl, a, _, rfl, ha, rfl, _, _, rfl, _, _, rfl, _, _, rfl, rfl, ?_⟩
  have no : momOk m = false → Q (.bl false) H := fun z => by have := k H But.refl; rw [z] at this; exact this
  refine chainR rfl ⟨_, rfl, ite2 (fun e1 => no ?_) (fun e1 => ?_)⟩
  · unfold momOk; rw [show decide (1 ≤ m.1 ∧ m.1 ≤ 32) = false from not_t e1]; rfl
  refine ⟨_, rfl, a2, hs, rfl, .inr hh, _, _, rfl, rfl, _, rfl, ite2 (fun e2 => no ?_) (fun e2 => ?_)⟩
  · unfold momOk; rw [show decide (m.2.1.length ≤ 8) = false by have := of_decide_eq_true e2; rw [lh] at this; exact decide_eq_false (by omega)]; simp
  refine chainR rfl ⟨_, rfl, ite2 (fun e3 => no ?_) (fun e3 => ?_)⟩
  · unfold momOk; rw [show decide (0 ≤ m.2.2 ∧ m.2.2 ≤ 40) = false from not_t e3]; simp
  have e1 : decide (1 ≤ m.1 ∧ m.1 ≤ 32) = true := not_f e1
  have e2 : decide (m.2.1.length ≤ 8) = true := by
    have : ¬ (8 : Int) < hs.length := fun z => e2 (decide_eq_true z)
    exact decide_eq_true (by omega)
  have e3 : decide (0 ≤ m.2.2 ∧ m.2.2 ≤ 40) = true := not_f e3
  have few := of_decide_eq_true e2
  have em : momOk m = (m.2.1.all headOk && climbs m.2.1) := by unfold momOk; rw [e1, e2, e3]; simp
  rw [em] at k
  refine ⟨_, rfl, a2, rfl, ⟨_, hh⟩, fun D nD => ?_⟩
  refine lc_tup (K := K) (a := a2) (xs := hs) (fun i H' => Bools H D ((m.2.1.take i).map headOk) H') (Bools.start nD) (fun i H' _ b => b.but.sqT hh) ?_ ?_
  · intro i x H' hx b
    obtain ⟨d, hd, dx⟩ := dpa_get dh hx
    rw [List.getElem?_map] at hd
    obtain ⟨h, hh', rfl⟩ := Option.map_eq_some_iff.mp hd
    refine ⟨rfl, _, rfl, x, h, rfl, dp_but b.but _ _ rfl dx, ok.2 h (List.mem_of_getElem? hh'), ?_⟩
    obtain ⟨hD, b'⟩ := b.push (c := headOk h) nD But.refl
    exact ⟨_, hD, by rw [List.length_map, List.length_map, List.length_take, sizeLine_eq]; omega, by rw [take_push headOk hh']; exact b'⟩
  intro H1 b1
  refine ⟨D, _, rfl, SqL.of b1.at_, _, rfl, ite2 (fun e4 => ?_) (fun e4 => ?_)⟩
  · have e4 : m.2.1.all headOk = false := by
      have e4 : (!((m.2.1.take hs.length).map headOk).all id) = true := e4
      rw [lh, List.take_length, List.all_map] at e4
      simpa using e4
    have := k H1 b1.but
    rw [e4] at this; exact this
  have e4 : m.2.1.all headOk = true := by
    have e4 : ¬ (!((m.2.1.take hs.length).map headOk).all id) = true := e4
    rw [lh, List.take_length, List.all_map] at e4
    simpa using e4
  rw [e4] at k
  have hh1 := b1.but.sqT hh
  have dh1 := dps_but b1.but _ _ (tup_all _ (fun _ => rfl) _) dh
  refine ⟨_, rfl, a2, hs, rfl, .inr hh1, _, _, rfl, rfl, _, rfl, by omega, by omega, fun D2 nD2 => ?_⟩
  refine lc_range (lo := 0) (n := ((hs.length : Int) - 1).toNat) (fun i H' => Bools H1 D2 ((List.range i).map (bl2 m.2.1)) H') (Bools.start nD2) ?_ ?_
  · intro i H' hi b
    have hh2 := b.but.sqT hh1
    have hx1 : hs[i]? = some hs[i] := List.getElem?_eq_getElem (by omega)
    have hx2 : hs[i + 1]? = some hs[i + 1] := List.getElem?_eq_getElem (by omega)
    obtain ⟨d1, hd1, dx1⟩ := dpa_get dh1 hx1
    obtain ⟨d2, hd2, dx2⟩ := dpa_get dh1 hx2
    rw [List.getElem?_map] at hd1 hd2
    obtain ⟨h1, hh1', rfl⟩ := Option.map_eq_some_iff.mp hd1
    obtain ⟨h2, hh2', rfl⟩ := Option.map_eq_some_iff.mp hd2
    refine ⟨rfl, _, rfl, _, rfl, a2, hs, i, hs[i], rfl, by simp, hh2, atI_nat hx1, _, rfl, ?_⟩
    dsimp only [tNoPart]
    refine slA_end (dp_but b.but _ _ rfl dx1) rfl fun v1 H3 b3 d3 => ?_
    rw [cutL_hd] at d3
    refine ⟨_, rfl, _, rfl, _, _, rfl, rfl, a2, hs, (i : Int) + 1, hs[i + 1], rfl, by simp, b3.sqT hh2, ?_, _, rfl, ?_⟩
    · exact atI_nat hx2
    refine slA_end (dp_but b3 _ _ rfl (dp_but b.but _ _ rfl dx2)) rfl fun v2 H4 b4 d4 => ?_
    rw [cutL_hd] at d4
    obtain ⟨p1, rfl, q1⟩ := dp_tip (t := (h1.1, h1.2.1)) (dp_but b4 _ _ rfl d3)
    obtain ⟨p2, rfl, q2⟩ := dp_tip (t := (h2.1, h2.2.1)) d4
    refine ⟨p1, p2, [h1.1, h1.2.1], [h2.1, h2.2.1], rfl, rfl, q1, q2, ?_⟩
    rw [lexLt2]
    obtain ⟨hD, b'⟩ := b.push (c := below2 h1 h2) nD2 (b3.trans b4)
    refine ⟨_, hD, by rw [List.length_map, List.length_map, List.length_range, sizeLine_eq]; omega, ?_⟩
    rw [range_push, show bl2 m.2.1 i = below2 h1 h2 by unfold bl2; rw [hh1', hh2']]
    exact b'
  · intro H2 b2
    refine ⟨D2, _, rfl, SqL.of b2.at_, ?_⟩
    rw [show ((hs.length : Int) - 1).toNat = m.2.1.length - 1 by omega, climbs_all]
    exact k _ (b1.but.trans b2.but)
end Bu
set_option Elab.async false
set_option linter.all false
set_option maxRecDepth 100000
set_option maxHeartbeats 4000000
/-! The program: a bar's fault, the paper. -/
namespace Bu
open PySem PySem.Spec PyProof.Rows L2
theorem cutL_pre {α : Type} (xs : List α) (n : Nat) : cutL xs none (some (n : Int)) = xs.take n := by
  unfold cutL
  rw [HT.sIx_none, HT.sIx_nat, List.drop_zero, Nat.sub_zero]
  by_cases h : n ≤ xs.length
  · rw [Nat.min_eq_left h]
  · rw [Nat.min_eq_right (by omega), List.take_of_length_le (Nat.le_refl _), List.take_of_length_le (by omega)]
theorem for_enumT {K : PySem.W.Frag} {a : Addr} {xs : List V} {g : TG} {tb : TS} {D : Ends} {σ : L2.St} {H : Hp} (Pv : Nat → L2.St → Hp → Prop) (h0 : Pv 0 σ H) (hl : ∀ i σ H, i ≤ xs.length → Pv i σ H → SqT K H a xs)
    (hs : ∀ (i : Nat) x T σ H, xs[i]? = some x → Pv i σ H → H T = none → g (.ref T) σ (upd H T (.tup [.int (i : Nat), x])) fun σ2 H2 => tb { D with nx := Pv (i + 1), ct := Pv (i + 1), bk := D.nx } σ2 H2) (hd : ∀ σ H, Pv xs.length σ H → D.nx σ H) :
    ∃ W : Nat → Nat → L2.St → Hp → Prop, (∃ m, W 0 m σ H) ∧ ∀ i m σ H, W i m σ H →
      ((IteT K a).stop i H ∧ D.nx σ H) ∨ ((IteT K a).go i H ∧ ∃ N : L2.St → Hp → Prop, (∀ σ' H', N σ' H' → ∃ m', m' < m ∧ W (i + 1) m' σ' H') ∧ ∀ x H', (IteT K a).yld i H x H' → g x σ H' fun σ2 H2 => tb { D with nx := N, ct := N, bk := D.nx } σ2 H2) := by
  refine ⟨fun i m σ H => m = xs.length - i ∧ i ≤ xs.length ∧ Pv i σ H, ⟨xs.length, by simp, Nat.zero_le _, h0⟩, ?_⟩
  rintro i m σ H ⟨rfl, hi, p⟩
  have q := hl i σ H hi p
  by_cases hlt : i < xs.length
  · have hx : xs[i]? = some xs[i] := List.getElem?_eq_getElem hlt
    refine .inr ⟨⟨xs, xs[i], q, hx⟩, Pv (i + 1), fun σ' H' p' => ⟨xs.length - (i + 1), by omega, rfl, hlt, p'⟩, fun v H' y => ?_⟩
    obtain ⟨T, x, rfl, nT, rfl, hxs⟩ := y
    have e := hxs xs q
    exact hs i x T σ H e p nT
  · have e : i = xs.length := by omega
    subst e
    exact .inl ⟨⟨xs, q, Nat.le_refl _⟩, hd σ H p⟩
def faultV (b : Br) : V := match fault b with
  | none => .non
  | some i => .int i
def spFault (K : PySem.W.Frag) : Sp := fun vs H Q _ => ∃ (v : V) (b : Br), vs = [v] ∧ Dp K H v (brD b) ∧ Br.ok b ∧ ∀ H', But [] H H' → Q (faultV b) H'
abbrev n_bar_fault : List Str := ["bar", "at", "moment"]
theorem sc_bar_fault : FnScope n_bar_fault ["bar"] d_bar_fault.scope := C8.fnScope_by (by decide +kernel)
theorem cal_bar_fault {P : Program} {w : World} {K : PySem.W.Frag} {mg : Str → Option Value} {base : Heap} (C : Cn w K mg)  : Cal P w K mg base CX0 3 "bar_fault" (spFault K) := by
  refine C.cal 18 18 d_bar_fault sc_bar_fault (fun _ _ _ _ _ _ us hl => match us, hl with | [_], _ => rfl) (fun vs H Q E h => ?_) (fun f cdv A outer s H vs Q E hr h => ?_)
  · obtain ⟨v, b, rfl, _⟩ := h
    rfl
  have nd := sc_bar_fault.nd
  refine ⟨_, PSs.nox (pss_cons (ps_if (pt_cmpR op_eq (pe_callB call_len_seq (by rfl) (C.free 67) (by decide +kernel) (pa_cons (pv 0) pa_nil)) pe_int (nomark _)) (pss_one (ps_ret pe_int)) pss_nil) (pss_cons (ps_for PassesOwn.never rfl (Bu.pi_enumT (by rfl) (C.free 80) (pa_cons (pe_slice sl_tupA (pv 0) po_none (po_some (pe_gi (C.int 82)))) pa_nil)) (pg_tup rfl (pgs_cons (pg_name (i := 1) nd rfl (by first | exact Or.inl rfl | exact Or.inr rfl)) (pgs_cons (pg_name (i := 2) nd rfl (by first | exact Or.inl rfl | exact Or.inr rfl)) pgs_nil))) (pss_one (ps_if (pt_not (pt_val (pe_c (cal_good_moment C) hr (pa_cons (pv 2) pa_nil)))) (pss_one (ps_ret (pv 1))) pss_nil))) (pss_one (ps_ret (pe_ifExp (pt_cmpR op_gt (pe_callB call_len_seq (by rfl) (C.free 67) (by decide +kernel) (pa_cons (pv 0) pa_nil)) (pe_gi (C.int 82)) (nomark _)) (pe_gi (C.int 82)) pe_non))))), ?_⟩
  obtain ⟨v, b, rfl, dv, ok, k⟩ := h
  obtain ⟨a, vs, rfl, ha, da⟩ := dp_tup dv
  have lb := dpa_length da
  rw [List.length_map] at lb
  refine ⟨_, rfl, a, vs, rfl, .inr ha, rfl, _, rfl, ite2 (fun e => ?_) (fun e => ?_)⟩
  · have e0 : b = [] := List.length_eq_zero_iff.mp (by have := V.int.inj (of_decide_eq_true e); omega)
    have := k H But.refl
    rw [e0] at this; exact this
  have e0 : b ≠ [] := fun z => by
    subst z
    refine e (decide_eq_true ?_)
    rw [lb]; rfl
  refine ⟨_, rfl, ?_⟩
  dsimp only [tNoPart]
  refine ⟨_, rfl, ?_⟩
  refine slA_end dv (tup_br b) fun v2 H1 b1 d1 => ?_
  rw [cutL_map, show (some (6 : Int)) = some ((6 : Nat) : Int) from rfl, cutL_pre] at d1
  obtain ⟨a2, ws, rfl, h2, dw⟩ := dp_tup d1
  refine ⟨a2, ws, rfl, h2, ?_⟩
  refine for_enumT (K := K) (a := a2) (xs := ws) (D := { nx := _, rt := Q }) (fun i σ' H' => ∃ x1 x2, σ' = [some (.ref a), x1, x2] ∧ But [] H1 H' ∧ firstBad (b.take 6) 0 = firstBad ((b.take 6).drop i) i) ⟨none, none, rfl, But.refl, rfl⟩ ?_ ?_ ?_
  · rintro i σ' H' _ ⟨x1, x2, rfl, bb, _⟩
    exact bb.sqT h2
  · rintro i x T σ' H' hx ⟨x1, x2, rfl, bb, hf⟩ nT
    obtain ⟨d, hd, dx⟩ := dpa_get dw hx
    rw [List.getElem?_map] at hd
    obtain ⟨m, hm, rfl⟩ := Option.map_eq_some_iff.mp hd
    have okm : Mo.ok m := ok m (List.mem_of_mem_take (List.mem_of_getElem? hm))
    have bt : But [] H1 (upd H' T (.tup [.int (i : Nat), x])) := bb.new nT
    have hdr : (b.take 6).drop i = m :: (b.take 6).drop (i + 1) := by
      obtain ⟨hlt, e⟩ := List.getElem?_eq_some_iff.mp hm
      rw [List.drop_eq_getElem_cons hlt, e]
    rw [hdr] at hf
    refine ⟨T, _, rfl, SqT.of upd_same, rfl, _, _, rfl, _, _, rfl, rfl, _, rfl, x, m, rfl, dp_but bt _ _ (tup_mo m) dx, okm, fun H2 b2 => ⟨_, rfl, ite2 (fun e => ?_) (fun e => ?_)⟩⟩
    · have e2 : momOk m = false := not_t e
      rw [firstBad, e2] at hf
      have := k H2 ((b1.trans bt).trans b2)
      unfold faultV fault at this
      rw [if_neg e0, hf] at this
      exact ⟨_, rfl, this⟩
    · have e2 : momOk m = true := not_f e
      rw [firstBad, e2] at hf
      exact ⟨_, _, rfl, bt.trans b2, hf⟩
  · rintro σ' H' ⟨x1, x2, rfl, bb, hf⟩
    rw [List.drop_of_length_le (by have := dpa_length dw; rw [List.length_map] at this; omega)] at hf
    have kk := k H' (b1.trans bb)
    unfold faultV fault at kk
    rw [if_neg e0, hf] at kk
    refine ⟨_, rfl, a, vs, rfl, .inr ((b1.trans bb).sqT ha), _, _, rfl, rfl, _, rfl, ite2 (fun e => ?_) (fun e => ?_)⟩
    · have e1 := of_decide_eq_true e
      rw [show firstBad [] ws.length = none from rfl, if_pos (by omega)] at kk
      exact kk
    · have e1 : ¬ (6 : Int) < vs.length := fun z => e (decide_eq_true z)
      rw [show firstBad [] ws.length = none from rfl, if_neg (by omega)] at kk
      exact kk
end Bu
set_option Elab.async false
set_option linter.all false
set_option maxRecDepth 100000
set_option maxHeartbeats 4000000
/-! Refusals as they are raised; calls by keywords. -/
namespace Bu
open PySem PySem.Spec PyProof.Rows L2
/-- a def with keyword-only parameters, all of them told -/
structure CalK (P : Program) (w : World) (K : PySem.W.Frag) (mg : Str → Option Value) (base : Heap) (CX : CXT) (k : Nat) (x : Str) (ps : List Str) (sp : Sp) : Prop where
  ex : ∃ (f : Addr) (fd : FuncData), FnOk P w K mg base CX k f fd ps sp ∧ mg x = some (.ref f) ∧ PySem.W.keepIn K (.ref f) = true ∧ KBn K fd ps 0 ps (fun us ws => ws) (fun vs zs => zs)
theorem Cn.calK {P : Program} {w : World} {K : PySem.W.Frag} {mg : Str → Option Value} {base : Heap} {CX : CXT} (C : Cn w K mg) {k : Nat} {sp : Sp} {N ps : List Str} (i j : Nat) {x : Str} (d : He.DefD) (S : FnScope N ps d.scope)
    (hb : ∀ (D : Addr) (doc pm : Value) (an : Option Addr) (cdv ct : Value) (ws : List Value), ws.length = ps.length → bindArgs (PySem.W.fnOf d.name d.qual d.params d.body d.scope .none (.ref D) doc pm an cdv ct) ⟨[], ps.zip ws⟩ = pure (ps.zip ws))
    (len : ∀ vs H Q E, sp vs H Q E → vs.length = ps.length) (body : BodyOf P w K mg base CX k d N sp) (hd : fn[i]? = some d := by rfl) (hx : d.at_ = (x, none) := by rfl) (hf : fa[j]? = some (.glo x) := by rfl) (e1 : d.dfl = [] := by rfl) (e2 : d.kwd ≠ [] := by decide) :
    CalK P w K mg base CX (k + 1) x ps sp := by
  obtain ⟨fd, F⟩ := C.def_ i hd
  have F0 : FunD K d.name d.qual d.params d.body d.scope [] (d.kws K) (He.fAd K d.at_) fd := by
    have e : d.dvs K = [] := by unfold He.DefD.dvs; rw [e1]; rfl
    rw [e] at F
    exact F
  obtain ⟨mv, hk⟩ := F0.kbinds0 (ps := ps) 0 ps [] (fun us mv ws => ws) (fun z => e2 (by unfold He.DefD.kws at z; exact List.map_eq_nil_iff.mp z)) (by simp) (fun _ _ r => r) fun D doc pm an cdv ct us mv ws l1 l2 l3 => by
    obtain rfl := List.length_eq_zero_iff.mp l1
    obtain rfl := List.length_eq_zero_iff.mp l2
    exact hb D doc pm an cdv ct ws l3
  refine ⟨_, fd, F0.ok S len (body (He.fAd K d.at_)), ?_, F0.kp, hk⟩
  rw [C.glo j hf, hx]
  rfl
def tCallKS (m : Nat) (sp : Sp) (E : L2.St → XK) (tk : TA) : TE := fun σ H Q => tk σ H fun zs H2 => zs.length = m ∧ sp zs H2 Q (E σ)
/-- f(k = v, ..), what f raises is wished for -/
theorem pe_ck {X : Cx} {k j : Nat} {x : Str} {ps : List Str} {sp : Sp} {p pos : Pos} {kws : List Keyword} {tk : TA} {W : WX} (c : CalK X.prog X.w X.K X.mg X.base (L2.CX X.prog X.w) k x ps sp) (hr : Room j X.A) (tk' : Takes X W) (hkw : PK X kws tk) (hk : k ≤ j := by decide) (hg : Gl X x := by rfl)
    (hall : (backToKw pos (keywordEach kws X.env)).all (·.1.isSome) = true := by rfl) (hks : (backToKw pos (keywordEach kws X.env)).filterMap (·.1) = ps := by rfl) (hdb : (x == ("__debug__" : Str)) = false := by decide)
    (hpl : ((backTo pos (starEach [] X.env)).any (·.1) || (backToKw pos (keywordEach kws X.env)).any (·.1.isNone)) = false := by rfl) :
    PE X (.Call (.Name x p) [] kws pos) (tCallKS ps.length sp (WE W) tk) := by
  obtain ⟨f, fd, F, hm, kp, hb⟩ := c.ex
  have F := F.mono hk
  refine ⟨fun pins s σ H Q I h => ?_⟩
  refine wpAny_Call_Name_kw (ld_glob I hg hm ?_ hdb)
  refine PySem.W.callWith_KW0 (h₀ := X.base) I.ok.mod.kin kp hall ?_ hpl
  refine thn (hkw.run pos pins s σ H _ I h) fun ws s2 ⟨zs, H2, I2, rz, l2, q2⟩ => ⟨I2.kIn, ?_⟩
  rw [hks]
  have r2 := hb.rel (vs := []) (us := []) .nil rz
  refine wpAny_call (codeAny_mono (F.run X.A X.stack s2 H2 ⟨[], ps.zip ws⟩ ws zs Q (WE W σ) hr I2.env0 (hb.to s2 [] ws I2.kIn rfl (rz.length.symm.trans l2)) r2 q2) fun r s' hq => ?_)
  cases r with
  | error e => exact passAt tk' σ pins H2 s2 e s' I2 hq
  | ok fl =>
    cases fl with
    | ret u => exact I2.after hq
    | next => exact False.elim hq
    | brk => exact False.elim hq
    | cont => exact False.elim hq
/-! ### refusals -/
def xfs (e : Er) : List (Str × V) := match e.num with
  | none => [("says", .str e.says)]
  | some (f, n) => if f = "place" then [("place", .int n), ("says", .str e.says)] else [("says", .str e.says), ("number", .int n)]
def ErAt (K : PySem.W.Frag) (e : Er) (c : Value) (d : Option Addr) (H : Hp) : Prop := c = .ref (He.ga K e.cls) ∧ ∃ x, d = some x ∧ H x = some (.xd (xfs e))
theorem ErAt.new {K : PySem.W.Frag} {e : Er} {H : Hp} {x : Str} (he : e.cls = x) (a : Addr) {l : List (Str × V)} (hl : l = xfs e) : ErAt K e (.ref (He.ga K x)) (some a) (upd H a (.xd l)) := ⟨by rw [he], a, rfl, by rw [upd_same, hl]⟩
theorem ErAt.but {K : PySem.W.Frag} {e : Er} {c : Value} {d : Option Addr} {H H' : Hp} {M : List Addr} (h : ErAt K e c d H) (b : But M H H') (n : ∀ x, d = some x → x ∉ M) : ErAt K e c d H' := by
  obtain ⟨h1, x, rfl, h2⟩ := h
  exact ⟨h1, x, rfl, b.keep x _ h2 (n x rfl)⟩
def spNeedM (K : PySem.W.Frag) : Sp := fun vs H Q E => ∃ (v : V) (b : Br), vs = [v] ∧ Dp K H v (brD b) ∧ Br.ok b ∧ (fault b = none → ∀ H', But [] H H' → Q .non H') ∧ (∀ i, fault b = some i → ∀ c d H', But [] H H' → ErAt K (eBar i) c d H' → E c d H')
abbrev n_need_music : List Str := ["moments", "fault"]
theorem sc_need_music : FnScope n_need_music ["moments"] d_need_music.scope := C8.fnScope_by (by decide +kernel)
theorem cal_need_music {P : Program} {w : World} {K : PySem.W.Frag} {mg : Str → Option Value} {base : Heap} (C : Cn w K mg)  : Cal P w K mg base (L2.CX P w) 4 "need_music" (spNeedM K) := by
  refine C.cal 20 19 d_need_music sc_need_music (fun _ _ _ _ _ _ us hl => match us, hl with | [_], _ => rfl) (fun vs H Q E h => ?_) (fun f cdv A outer s H vs Q E hr h => ?_)
  · obtain ⟨v, b, rfl, _⟩ := h
    rfl
  have nd := sc_need_music.nd
  refine ⟨_, (pss_cons (ps_set (i := 1) nd rfl (by first | exact Or.inl rfl | exact Or.inr rfl) (pe_c (cal_bar_fault C) hr (pa_cons (pv 0) pa_nil))) (pss_one (ps_if (pt_cmpR op_notN (pv 1) pe_non (nomark _)) (pss_one (ps_rx rfl (takes_of rfl rfl rfl rfl) (exn_BadBar C) hr (pa_cons (pv 1) pa_nil))) pss_nil))), ?_⟩
  obtain ⟨v, b, rfl, dv, ok, k1, k2⟩ := h
  refine ⟨_, rfl, v, b, rfl, dv, ok, fun H1 b1 => ?_⟩
  cases hf : fault b with
  | none =>
    rw [show faultV b = .non by unfold faultV; rw [hf]]
    exact ⟨_, rfl, rfl, _, rfl, k1 hf _ b1⟩
  | some i =>
    rw [show faultV b = .int i by unfold faultV; rw [hf]]
    exact ⟨_, rfl, rfl, _, rfl, _, rfl, by show 1 ≤ 1000; decide, _, rfl, fun d nd => k2 i hf _ _ _ (b1.new nd) (ErAt.new rfl d rfl)⟩
def spPaper (K : PySem.W.Frag) : Sp := fun vs H Q E => ∃ (a b c d e : Int), vs = [.int a, .int b, .int c, .int d, .int e] ∧ (paperOk [a, b, c, d, e] = true → ∀ v H', But [] H H' → Dp K H' v (sheetD [a, b, c, d, e]) → Q v H') ∧ (paperOk [a, b, c, d, e] = false → ∀ x y H', But [] H H' → ErAt K ePaper x y H' → E x y H')
theorem paperOk_eq (a b c d e : Int) : paperOk [a, b, c, d, e] = (decide (20 ≤ a ∧ a ≤ 400) && (decide (1 ≤ b ∧ b ≤ 6) && (decide (0 ≤ c ∧ c ≤ 999) && (decide (0 ≤ d ∧ d ≤ 999) && decide (0 ≤ e ∧ e ≤ 999))))) := rfl
abbrev n_paper : List Str := ["width", "lines", "fee", "turn", "gap", "one"]
theorem sc_paper : FnScope n_paper ["width", "lines", "fee", "turn", "gap"] d_paper.scope := C8.fnScope_by (by decide +kernel)
theorem calk_paper {P : Program} {w : World} {K : PySem.W.Frag} {mg : Str → Option Value} {base : Heap} (C : Cn w K mg)  : CalK P w K mg base (L2.CX P w) 4 "paper_pager" ["width", "lines", "fee", "turn", "gap"] (spPaper K) := by
  refine C.calK 19 32 d_paper sc_paper (fun D doc pm an cdv ct ws hl => match ws, hl with | [_, _, _, _, _], _ => rfl) (fun vs H Q E h => ?_) (fun f cdv A outer s H vs Q E hr h => ?_)
  · obtain ⟨a, b, c, d, e, rfl, _⟩ := h
    rfl
  have nd := sc_paper.nd
  refine ⟨_, (pss_cons (ps_if (PW.pt (pw_or (pt_not (pt_chain op_le op_le (pe_gi (C.int 88)) (pv 0) (pe_gi (C.int 89)))) (pw_or1 (pt_not (pt_chain op_le op_le pe_int (pv 1) (pe_gi (C.int 90))))))) (pss_one (ps_rx0 rfl (takes_of rfl rfl rfl rfl) (exn_BadPaper C) hr)) pss_nil) (pss_cons (ps_if (pt_not (pt_val (pe_callB (cr_all rfl) (by rfl) (C.free 75) (by decide +kernel) (pa_cons (pe_lc (own := [("one", 5)]) (tt := tYes) rfl nd (pi_tup (pe_tup (pa_cons (pv 2) (pa_cons (pv 3) (pa_cons (pv 4) pa_nil))))) (blkOk_by (own := [("one", 5)]) (N := n_paper) (sc := d_paper.scope) (by decide +kernel)) (fun _ _ _ _ _ => (pg_name (i := 5) nd rfl (by first | exact Or.inl rfl | exact Or.inr rfl))) (fun _ _ _ _ _ => pts_nil) (fun _ _ _ _ _ => (pe_chain op_le op_le pe_int (pv 5) (pe_gi (C.int 91))))) pa_nil)))) (pss_one (ps_rx0 rfl (takes_of rfl rfl rfl rfl) (exn_BadPaper C) hr)) pss_nil) (pss_one (ps_ret (pe_tup (pa_cons (pv 0) (pa_cons (pv 1) (pa_cons (pv 2) (pa_cons (pv 3) (pa_cons (pv 4) pa_nil)))))))))), ?_⟩
  obtain ⟨a, b, c, d, e, rfl, k1, k2⟩ := h
  have no : ∀ H1, But [] H H1 → paperOk [a, b, c, d, e] = false → ∀ x, H1 x = none → E (.ref (He.ga K "BadPaper")) (some x) (upd H1 x (.xd [("says", .str "bad paper")])) := fun H1 b1 hp x nx => k2 hp _ _ _ (b1.new nx) (ErAt.new rfl x rfl)
  refine chainR rfl ⟨_, rfl, ite2 (fun e1 => ?_) (fun e1 => chainR rfl ⟨_, rfl, ite2 (fun e2 => ?_) (fun e2 => ?_)⟩)⟩
  · exact ⟨by decide, _, rfl, no H But.refl (by rw [paperOk_eq, not_t e1]; rfl)⟩
  · exact ⟨by decide, _, rfl, no H But.refl (by rw [paperOk_eq, not_f e1, not_t e2]; rfl)⟩
  have ep : paperOk [a, b, c, d, e] = ([c, d, e].map fun n => decide (0 ≤ n ∧ n ≤ 999)).all id := by
    rw [paperOk_eq, not_f e1, not_f e2]; simp
  rw [ep] at k1 no
  refine ⟨_, rfl, _, rfl, _, rfl, by show 3 ≤ sizeLine; decide, fun p np => ⟨p, rfl, ⟨_, SqT.of upd_same⟩, fun D nD => ?_⟩⟩
  have b1 : But [] H (upd H p (.tup [.int c, .int d, .int e])) := But.refl.new np
  have hp : (upd H p (.tup [.int c, .int d, .int e])) p = some (.tup [.int c, .int d, .int e]) := upd_same
  generalize upd H p (.tup [.int c, .int d, .int e]) = H1 at b1 hp nD
  refine lc_tup (K := K) (a := p) (xs := [c, d, e].map V.int) (fun i H' => Bools H1 D (([c, d, e].take i).map fun n => decide (0 ≤ n ∧ n ≤ 999)) H') (Bools.start nD) (fun i H' _ b => b.but.sqT (SqT.of hp)) ?_ ?_
  · intro i x H' hx b
    rw [List.getElem?_map] at hx
    obtain ⟨n, hn, rfl⟩ := Option.map_eq_some_iff.mp hx
    refine ⟨rfl, chainR rfl ?_⟩
    obtain ⟨hD, b'⟩ := b.push (c := decide (0 ≤ n ∧ n ≤ 999)) nD But.refl
    exact ⟨_, hD, by rw [List.length_map, List.length_map, List.length_take, sizeLine_eq]; show min i 3 < 16777216; omega, by rw [take_push _ hn]; exact b'⟩
  · intro H2 b2
    have b12 := b1.trans b2.but
    refine ⟨D, _, rfl, SqL.of b2.at_, _, rfl, ite2 (fun e4 => ?_) (fun e4 => ?_)⟩
    · exact ⟨by decide, _, rfl, no H2 b12 (not_t e4)⟩
    · exact ⟨_, rfl, _, rfl, _, rfl, _, rfl, _, rfl, by show 5 ≤ sizeLine; decide, fun t nt => k1 (not_f e4) _ _ (b12.new nt) (.tup (SqT.of upd_same) (dpa_ints [a, b, c, d, e]))⟩
end Bu
set_option Elab.async false
set_option linter.all false
set_option maxRecDepth 100000
set_option maxHeartbeats 4000000
/-! A stand in the heap; its methods. -/
namespace Bu
open PySem PySem.Spec PyProof.Rows L2
def standFs (c : Cnt) (vs vf : V) : List (Str × V) := [("sheet", vs), ("order", .ref c.o), ("music", .ref c.mu), ("spans", .ref c.sp), ("bound", .ref c.bo), ("fresh", vf)]
structure StandAt (K : PySem.W.Frag) (H : Hp) (a : Addr) (c : Cnt) (s : Sta) : Prop where
  at_ : ∃ dx vs vf, H a = some (.ins (He.ga K "Stand") dx (standFs c vs vf)) ∧ Dp K H vs (sheetD s.sheet) ∧ Dp K H vf (tipD s.fresh)
  cont : ContAt K H c s
section
variable {w : World} {K : PySem.W.Frag} {mg : Str → Option Value} {H H' : Hp} {a : Addr} {c : Cnt} {s : Sta} {M : List Addr} {Q : VK} {te : TE} {σ : L2.St}
/-- what a stand is made of -/
def mine (a : Addr) (c : Cnt) : List Addr := [a, c.o, c.mu, c.sp, c.bo]
theorem StandAt.but (h : StandAt K H a c s) (d : But M H H') (n : ∀ x ∈ mine a c, x ∉ M) : StandAt K H' a c s := by
  obtain ⟨dx, vs, vf, h1, h2, h3⟩ := h.at_
  exact ⟨⟨dx, vs, vf, d.keep _ _ h1 (n a (by simp [mine])), dp_but d _ _ (tup_sheet _) h2, dp_but d _ _ (tup_tip _) h3⟩, h.cont.but d ⟨n _ (by simp [mine]), n _ (by simp [mine]), n _ (by simp [mine]), n _ (by simp [mine])⟩⟩
/-- .. as it is read for its bars -/
structure StandM (K : PySem.W.Frag) (H : Hp) (a : Addr) (c : Cnt) (s : Sta) : Prop where
  at_ : ∃ dx vs vf, H a = some (.ins (He.ga K "Stand") dx (standFs c vs vf))
  o : H c.o = some (.lst (s.order.map .int))
  mu : IsDk K H c.mu brD s.music
theorem StandAt.m (h : StandAt K H a c s) : StandM K H a c s := by
  obtain ⟨dx, vs, vf, h1, h2, h3⟩ := h.at_
  exact ⟨⟨dx, vs, vf, h1⟩, h.cont.o, h.cont.mu⟩
theorem StandM.but (h : StandM K H a c s) (d : But M H H') (n : ∀ x ∈ [a, c.o, c.mu], x ∉ M) : StandM K H' a c s := by
  obtain ⟨dx, vs, vf, h1⟩ := h.at_
  exact ⟨⟨dx, vs, vf, d.keep _ _ h1 (n a (by simp))⟩, d.keep _ _ h.o (n _ (by simp)), h.mu.but d tup_br (n _ (by simp))⟩
theorem StandM.new (h : StandM K H a c s) (d : But [] H H') : StandM K H' a c s := h.but d (by simp)
theorem StandAt.new (h : StandAt K H a c s) (d : But [] H H') : StandAt K H' a c s := h.but d (by simp)
theorem StandAt.live (h : StandAt K H a c s) : ∀ x ∈ mine a c, H x ≠ none ∧ ∀ ys, ¬ Rd H x (.tup ys) := by
  obtain ⟨dx, vs, vf, h1, _, _⟩ := h.at_
  obtain ⟨_, h2, _⟩ := h.cont.mu
  obtain ⟨_, h3, _⟩ := h.cont.sp
  obtain ⟨_, h4, _⟩ := h.cont.bo
  intro x hx
  simp only [mine, List.mem_cons, List.not_mem_nil, or_false] at hx
  rcases hx with rfl | rfl | rfl | rfl | rfl
  · exact ⟨by rw [h1]; simp, nt_ins h1⟩
  · exact ⟨by rw [h.cont.o]; simp, nt_lst h.cont.o⟩
  · exact ⟨by rw [h2]; simp, nt_dk h2⟩
  · exact ⟨by rw [h3]; simp, nt_dk h3⟩
  · exact ⟨by rw [h4]; simp, nt_dk h4⟩
theorem vr {i : Nat} {v : V} {σ : L2.St} (h : σ[i]? = some (some v)) : ∀ Q' : VK, Q' v H → tVar i σ H Q' := fun _ q => ⟨_, h, q⟩
theorem fo_order (C : Cn w K mg) (ht : ∀ Q', Q' (V.ref a) H → te σ H Q') (h : StandM K H a c s) (q : Q (.ref c.o) H) : tFld K te "order" σ H Q := ht _ (by
  obtain ⟨dx, vs, vf, h1⟩ := h.at_
  exact ⟨a, _, dx, _, _, rfl, h1, C.cls 96, C.noat 99, rfl, q⟩)
theorem fo_music (C : Cn w K mg) (ht : ∀ Q', Q' (V.ref a) H → te σ H Q') (h : StandM K H a c s) (q : Q (.ref c.mu) H) : tFld K te "music" σ H Q := ht _ (by
  obtain ⟨dx, vs, vf, h1⟩ := h.at_
  exact ⟨a, _, dx, _, _, rfl, h1, C.cls 96, C.noat 100, rfl, q⟩)
theorem fo_spans (C : Cn w K mg) (ht : ∀ Q', Q' (V.ref a) H → te σ H Q') (h : StandM K H a c s) (q : Q (.ref c.sp) H) : tFld K te "spans" σ H Q := ht _ (by
  obtain ⟨dx, vs, vf, h1⟩ := h.at_
  exact ⟨a, _, dx, _, _, rfl, h1, C.cls 96, C.noat 101, rfl, q⟩)
theorem fo_bound (C : Cn w K mg) (ht : ∀ Q', Q' (V.ref a) H → te σ H Q') (h : StandM K H a c s) (q : Q (.ref c.bo) H) : tFld K te "bound" σ H Q := ht _ (by
  obtain ⟨dx, vs, vf, h1⟩ := h.at_
  exact ⟨a, _, dx, _, _, rfl, h1, C.cls 96, C.noat 102, rfl, q⟩)
theorem fo_sheet (C : Cn w K mg) (ht : ∀ Q', Q' (V.ref a) H → te σ H Q') (h : StandAt K H a c s) (q : ∀ v, Dp K H v (sheetD s.sheet) → Q v H) : tFld K te "sheet" σ H Q := ht _ (by
  obtain ⟨dx, vs, vf, h1, h2, h3⟩ := h.at_
  exact ⟨a, _, dx, _, _, rfl, h1, C.cls 96, C.noat 98, rfl, q _ h2⟩)
theorem fo_fresh (C : Cn w K mg) (ht : ∀ Q', Q' (V.ref a) H → te σ H Q') (h : StandAt K H a c s) (q : ∀ v, Dp K H v (tipD s.fresh) → Q v H) : tFld K te "fresh" σ H Q := ht _ (by
  obtain ⟨dx, vs, vf, h1, h2, h3⟩ := h.at_
  exact ⟨a, _, dx, _, _, rfl, h1, C.cls 96, C.noat 103, rfl, q _ h3⟩)
end
def spNeedBar (K : PySem.W.Frag) : Sp := fun vs H Q E => ∃ (a : Addr) (c : Cnt) (s : Sta) (n : Int), vs = [.ref a, .int n] ∧ StandM K H a c s ∧ ((getM s.music n).isSome = true → Q .non H) ∧ (getM s.music n = none → ∀ x y H', But [] H H' → ErAt K (eNoBar n) x y H' → E x y H')
abbrev n_Stand_need_bar : List Str := ["self", "number"]
theorem sc_Stand_need_bar : FnScope n_Stand_need_bar ["self", "number"] d_Stand_need_bar.scope := C8.fnScope_by (by decide +kernel)
theorem met_need_bar {P : Program} {w : World} {K : PySem.W.Frag} {mg : Str → Option Value} {base : Heap} (C : Cn w K mg)  : Met P w K mg base (L2.CX P w) 4 "Stand" "need_bar" (spNeedBar K) := by
  refine C.met 64 109 96 d_Stand_need_bar sc_Stand_need_bar (fun _ _ _ _ _ _ us hl => match us, hl with | [_, _], _ => rfl) (fun vs H Q E h => ?_) (fun f cdv A outer s H vs Q E hr h => ?_)
  · obtain ⟨a, c, s, n, rfl, _⟩ := h
    rfl
  have nd := sc_Stand_need_bar.nd
  refine ⟨_, (pss_one (ps_if (pt_cmp (pc_dnotin (hu_of hr) (pv 1) (pe_fld (pv 0) rfl))) (pss_one (ps_rx rfl (takes_of rfl rfl rfl rfl) (exn_NoBar C) hr (pa_cons (pv 1) pa_nil))) pss_nil)), ?_⟩
  obtain ⟨a, c, s, n, rfl, hs, k1, k2⟩ := h
  obtain ⟨ks, hk1, hk2⟩ := hs.mu
  refine ⟨_, rfl, fo_music C (vr rfl) hs ⟨c.mu, _, rfl, DGet.k (k := .inl n) hk1, ?_⟩⟩
  rcases kv_get hk2 n with ⟨e1, e2⟩ | ⟨m, v, e1, e2, _⟩
  · rw [e2]
    exact ⟨_, rfl, _, rfl, by show 1 ≤ 1000; decide, _, rfl, fun d nd => k2 e1 _ _ _ (But.refl.new nd) (ErAt.new rfl d rfl)⟩
  · rw [e2]
    exact ⟨_, rfl, k1 (by rw [e1]; rfl)⟩
def spSpotS (K : PySem.W.Frag) : Sp := fun vs H Q _ => ∃ (a : Addr) (c : Cnt) (s : Sta) (v : V) (t : Tip), vs = [.ref a, v] ∧ StandM K H a c s ∧ Dp K H v (tipD t) ∧ t.1 ∈ s.order ∧
  ∀ (p : Addr), H p = none → Q (.ref p) (upd H p (.tup [.int (idx s.order t.1 : Nat), .int t.2]))
abbrev n_Stand_spot : List Str := ["self", "end"]
theorem sc_Stand_spot : FnScope n_Stand_spot ["self", "end"] d_Stand_spot.scope := C8.fnScope_by (by decide +kernel)
theorem met_spot {P : Program} {w : World} {K : PySem.W.Frag} {mg : Str → Option Value} {base : Heap} (C : Cn w K mg)  : Met P w K mg base CX0 1 "Stand" "spot" (spSpotS K) := by
  refine C.met 65 110 96 d_Stand_spot sc_Stand_spot (fun _ _ _ _ _ _ us hl => match us, hl with | [_, _], _ => rfl) (fun vs H Q E h => ?_) (fun f cdv A outer s H vs Q E hr h => ?_)
  · obtain ⟨a, c, s, v, t, rfl, _⟩ := h
    rfl
  have nd := sc_Stand_spot.nd
  refine ⟨_, PSs.nox (pss_one (ps_ret (pe_tup (pa_cons (pe_bm PySem.F.plainAttrs_list PySem.F.slot_list_index PySem.F.type_list_index mt_index (pe_fld (pv 0) rfl) (pa_cons (pe_ix ix_tup (pv 1) pe_int (fun _ _ => rfl)) pa_nil)) (pa_cons (pe_ix ix_tup (pv 1) pe_int (fun _ _ => rfl)) pa_nil))))), ?_⟩
  obtain ⟨a, c, s, v, t, rfl, hs, dt, ht, k⟩ := h
  obtain ⟨b, rfl, hat⟩ := dp_tip dt
  refine fo_order C (vr rfl) hs ⟨.inl ⟨rfl, _, SqL.of hs.o⟩, _, rfl, b, _, _, _, rfl, rfl, hat, rfl, ?_⟩
  dsimp only [tNil]
  refine rIndex_ints (SqL.of hs.o) ht ?_
  exact ⟨_, rfl, b, _, _, _, rfl, rfl, hat, rfl, by show 2 ≤ sizeLine; decide, fun p np => k p np⟩
theorem lexAt2 (order : List Int) (x y : Tip) : Ob.lexAt (fun j => decide ((([(idx order x.1 : Nat), x.2] : List Int)).getD j 0 = (([(idx order y.1 : Nat), y.2] : List Int)).getD j 0)) (fun j => decide ((([(idx order x.1 : Nat), x.2] : List Int)).getD j 0 ≤ (([(idx order y.1 : Nat), y.2] : List Int)).getD j 0))
    (decide ((([(idx order x.1 : Nat), x.2] : List Int)).length ≤ (([(idx order y.1 : Nat), y.2] : List Int)).length)) 0 (min (([(idx order x.1 : Nat), x.2] : List Int)).length (([(idx order y.1 : Nat), y.2] : List Int)).length) = spotLe order x y := by
  simp only [Ob.lexAt, spotLe, List.length_cons, List.length_nil, List.getD_cons_zero, List.getD_cons_succ, Nat.zero_add, decide_eq_true_eq, Nat.le_refl, decide_true, Nat.min_self, Int.ofNat_inj, Int.ofNat_le]
  by_cases h : idx order x.1 = idx order y.1
  · by_cases h2 : x.2 = y.2 <;> simp [h, h2]
  · have : (idx order x.1 ≤ idx order y.1) ↔ idx order x.1 < idx order y.1 := by omega
    simp [h, this]
def spLies (K : PySem.W.Frag) : Sp := fun vs H Q _ => ∃ (a : Addr) (c : Cnt) (s : Sta) (v : V) (sp : Span), vs = [.ref a, v] ∧ StandM K H a c s ∧ (∀ n, n ∈ s.order ↔ n ∈ s.music.map (·.1)) ∧ Dp K H v (spanD sp) ∧ ∀ H', But [] H H' → Q (.bl (lies s.order s.music sp)) H'
abbrev n_Stand_lies : List Str := ["self", "span", "staff", "begin", "end", "thick", "number", "moment"]
theorem sc_Stand_lies : FnScope n_Stand_lies ["self", "span"] d_Stand_lies.scope := C8.fnScope_by (by decide +kernel)
theorem met_lies {P : Program} {w : World} {K : PySem.W.Frag} {mg : Str → Option Value} {base : Heap} (C : Cn w K mg)  : Met P w K mg base CX0 2 "Stand" "lies" (spLies K) := by
  refine C.met 66 111 96 d_Stand_lies sc_Stand_lies (fun _ _ _ _ _ _ us hl => match us, hl with | [_, _], _ => rfl) (fun vs H Q E h => ?_) (fun f cdv A outer s H vs Q E hr h => ?_)
  · obtain ⟨a, c, s, v, sp, rfl, _⟩ := h
    rfl
  have nd := sc_Stand_lies.nd
  refine ⟨_, PSs.nox (pss_cons (ps_asg (pv 1) (pg_tup rfl (pgs_cons (pg_name (i := 2) nd rfl (by first | exact Or.inl rfl | exact Or.inr rfl)) (pgs_cons (pg_name (i := 3) nd rfl (by first | exact Or.inl rfl | exact Or.inr rfl)) (pgs_cons (pg_name (i := 4) nd rfl (by first | exact Or.inl rfl | exact Or.inr rfl)) (pgs_cons (pg_name (i := 5) nd rfl (by first | exact Or.inl rfl | exact Or.inr rfl)) pgs_nil)))))) (pss_cons (ps_for PassesOwn.never rfl (pi_tup (pe_tup (pa_cons (pv 3) (pa_cons (pv 4) pa_nil)))) (pg_tup rfl (pgs_cons (pg_name (i := 6) nd rfl (by first | exact Or.inl rfl | exact Or.inr rfl)) (pgs_cons (pg_name (i := 7) nd rfl (by first | exact Or.inl rfl | exact Or.inr rfl)) pgs_nil))) (pss_one (ps_if (PW.pt (pw_or (pt_cmp (pc_dnotin (hu_of hr) (pv 6) (pe_fld (pv 0) rfl))) (pw_or1 (pt_not (pt_chain op_le op_lt pe_int (pv 7) (pe_callB call_len_seq (by rfl) (C.free 67) (by decide +kernel) (pa_cons (pe_dget (hu_of hr) (pe_fld (pv 0) rfl) (pv 6) (fun _ _ => rfl)) pa_nil))))))) (pss_one (ps_ret pe_bl)) pss_nil))) (pss_one (ps_ret (pe_cmpR (op_leT hr.units0) (pe_m (met_spot C) hr (pv 0) (pa_cons (pv 3) pa_nil)) (pe_m (met_spot C) hr (pv 0) (pa_cons (pv 4) pa_nil)) (nomark _)))))), ?_⟩
  obtain ⟨a, c, s, v, sp, rfl, hs, hk, dv, k⟩ := h
  obtain ⟨p, vs, rfl, hp, da⟩ := dp_tup dv
  obtain ⟨v1, vs, rfl, d1, da⟩ := dpa_cons da
  obtain ⟨v2, vs, rfl, d2, da⟩ := dpa_cons da
  obtain ⟨v3, vs, rfl, d3, da⟩ := dpa_cons da
  obtain ⟨v4, vs, rfl, d4, da⟩ := dpa_cons da
  cases dpa_nil da
  refine ⟨_, rfl, p, _, rfl, hp, rfl, _, _, rfl, _, _, rfl, _, _, rfl, _, _, rfl, rfl, ?_⟩
  refine ⟨_, rfl, _, rfl, by show 2 ≤ sizeLine; decide, fun q nq => ⟨q, rfl, ⟨_, SqT.of upd_same⟩, ?_⟩⟩
  have b1 : But [] H (upd H q (.tup [v2, v3])) := But.refl.new nq
  have hq : (upd H q (.tup [v2, v3])) q = some (.tup [v2, v3]) := upd_same
  generalize upd H q (.tup [v2, v3]) = H1 at b1 hq
  have two : ∀ {H' : Hp} {i : Nat} {x : V}, But [] H1 H' → [v2, v3][i]? = some x → ∃ t, Dp K H' x (tipD t) ∧ t ∈ [sp.2.1, sp.2.2.1] ∧ [sp.2.1, sp.2.2.1].take (i + 1) = [sp.2.1, sp.2.2.1].take i ++ [t] := fun {H' i x} bb hx => by
    obtain ⟨t, h1, h2⟩ := two_get hx (dp_but b1 _ _ (tup_tip _) d2) (dp_but b1 _ _ (tup_tip _) d3)
    exact ⟨t, dp_but bb _ _ (tup_tip _) h1, List.mem_of_mem_take (by rw [h2]; simp), h2⟩
  have no : ∀ {H' : Hp} {t : Tip}, But [] H1 H' → t ∈ [sp.2.1, sp.2.2.1] → tipIn s.music t = false → Q (.bl false) H' := fun {H' t} bb ht hf => by
    have := k H' (b1.trans bb)
    have e : lies s.order s.music sp = false := by
      unfold lies
      rcases List.mem_cons.mp ht with rfl | ht
      · rw [hf]; rfl
      · rw [← List.mem_singleton.mp ht, hf]; simp
    rw [e] at this; exact this
  refine for_tup (K := K) (a := q) (xs := [v2, v3]) (D := { nx := _, rt := Q }) (fun i σ' H' => ∃ x6 x7, σ' = [some (.ref a), some (.ref p), some v1, some v2, some v3, some v4, x6, x7] ∧ But [] H1 H' ∧ ∀ t ∈ [sp.2.1, sp.2.2.1].take i, tipIn s.music t = true) ⟨none, none, rfl, But.refl, by simp⟩ ?_ ?_ ?_
  · rintro i σ' H' _ ⟨x6, x7, rfl, bb, _⟩
    exact bb.sqT (SqT.of hq)
  · rintro i x σ' H' hx ⟨x6, x7, rfl, bb, hall⟩
    obtain ⟨t, dt, ht, et⟩ := two bb hx
    obtain ⟨r, rfl, hr'⟩ := dp_tip dt
    have hs' := hs.new (b1.trans bb)
    obtain ⟨ks, hk1, hk2⟩ := hs'.mu
    have hg : DGet H' c.mu (.int t.1) (valV ks (.inl t.1)) := DGet.k (k := .inl t.1) hk1
    refine ⟨r, _, rfl, hr', rfl, _, _, rfl, _, _, rfl, rfl, _, rfl, fo_music C (vr rfl) hs' ⟨c.mu, _, rfl, hg, _, rfl, ?_⟩⟩
    rcases kv_get hk2 t.1 with ⟨e1, e2⟩ | ⟨m, v, e1, e2, dm⟩
    · rw [e2]
      exact no bb ht (by unfold tipIn; rw [e1])
    · rw [e2] at hg ⊢
      obtain ⟨u, us, rfl, hu, du⟩ := dp_tup dm
      have lu := dpa_length du
      rw [List.length_map] at lu
      refine ⟨_, rfl, _, _, rfl, rfl, _, rfl, ite2 (fun e3 => fo_music C (vr rfl) hs' ⟨_, rfl, c.mu, _, rfl, hg, u, us, rfl, .inr hu, _, _, rfl, rfl, _, rfl, ite2 (fun e4 => ?_) (fun e4 => ?_)⟩) (fun e3 => ?_)⟩
      · exact no bb ht (by unfold tipIn; rw [e1]; have := of_decide_eq_false (not_t e4); exact decide_eq_false (by omega))
      · refine ⟨_, _, rfl, bb, fun t' ht' => ?_⟩
        rw [et] at ht'
        rcases List.mem_append.mp ht' with ht' | ht'
        · exact hall t' ht'
        · rw [List.mem_singleton.mp ht']
          unfold tipIn; rw [e1]
          have h1 := of_decide_eq_true (not_f e4)
          have h2 := of_decide_eq_true e3
          exact decide_eq_true (by omega)
      · exact ⟨_, rfl, no bb ht (by unfold tipIn; rw [e1]; have : ¬ 0 ≤ t.2 := fun z => e3 (decide_eq_true z); exact decide_eq_false (by omega))⟩
  · rintro σ' H' ⟨x6, x7, rfl, bb, hall⟩
    have t1 := hall sp.2.1 (by simp)
    have t2 := hall sp.2.2.1 (by simp)
    have mem : ∀ {t : Tip}, tipIn s.music t = true → t.1 ∈ s.order := fun {t} h => by
      refine (hk _).mpr (getM_isSome.mp ?_)
      unfold tipIn at h
      cases e : getM s.music t.1 with
      | none => rw [e] at h; cases h
      | some m => rfl
    have hs' := hs.new (b1.trans bb)
    obtain ⟨dx, vs0, vf, h1⟩ := id hs'.at_
    refine ⟨_, rfl, a, dx, _, rfl, h1, rfl, _, rfl, a, c, s, v2, sp.2.1, rfl, hs', dp_but (b1.trans bb) _ _ (tup_tip _) d2, mem t1, fun p1 np1 => ?_⟩
    have b2 : But [] H' (upd H' p1 (.tup [.int (idx s.order sp.2.1.1 : Nat), .int sp.2.1.2])) := But.refl.new np1
    refine ⟨_, rfl, a, dx, _, rfl, b2.keep _ _ h1 (by simp), rfl, _, rfl, a, c, s, v3, sp.2.2.1, rfl, hs'.new b2, dp_but b2 _ _ (tup_tip _) (dp_but (b1.trans bb) _ _ (tup_tip _) d3), mem t2, fun p2 np2 => ?_⟩
    refine ⟨p1, p2, [(idx s.order sp.2.1.1 : Nat), sp.2.1.2], [(idx s.order sp.2.2.1.1 : Nat), sp.2.2.1.2], rfl, rfl, sqT_new (SqT.of upd_same) np2, SqT.of upd_same, ?_⟩
    have := k _ (((b1.trans bb).trans b2).new (o := .tup [.int (idx s.order sp.2.2.1.1 : Nat), .int sp.2.2.1.2]) np2)
    rw [show lies s.order s.music sp = spotLe s.order sp.2.1 sp.2.2.1 by unfold lies; rw [t1, t2]; rfl] at this
    rw [lexAt2]
    exact this
theorem kv_at {α : Type} {K : PySem.W.Frag} {H : Hp} {f : α → PyData} : ∀ {ks : List (Key × V)} {l : List (Int × α)} {i : Nat} {p : Key × V}, KvD K H f ks l → ks[i]? = some p → ∃ q, l[i]? = some q ∧ p.1 = .inl q.1 ∧ Dp K H p.2 (f q.2)
  | _, _, _, _, .nil, e => by simp at e
  | _, _, 0, _, .cons h _, e => by simp at e; subst e; exact ⟨_, rfl, h.1, h.2⟩
  | _, _, i + 1, p, .cons _ r, e => by
    obtain ⟨q, h1, h2⟩ := kv_at (i := i) (p := p) r (by simpa using e)
    exact ⟨q, by simpa using h1, h2⟩
theorem putM_new {α : Type} {l : List (Int × α)} {n : Int} {x : α} (h : n ∉ l.map (·.1)) : putM l n x = l ++ [(n, x)] := by
  unfold putM
  rw [if_neg]
  intro z
  obtain ⟨p, hp, e⟩ := List.any_eq_true.mp z
  exact h (List.mem_map.mpr ⟨p, hp, of_decide_eq_true e⟩)
theorem take_fresh {α : Type} {l : List (Int × α)} {i : Nat} {q : Int × α} (nd : (l.map (·.1)).Nodup) (hq : l[i]? = some q) : ∀ y ∈ l.take i, y.1 ≠ q.1 := by
  intro y hy e
  obtain ⟨j, hj, ej⟩ := List.mem_iff_getElem.mp hy
  rw [List.length_take] at hj
  rw [List.getElem_take] at ej
  obtain ⟨hi, ei⟩ := List.getElem?_eq_some_iff.mp hq
  have h1 : (l.map (·.1))[j]'(by rw [List.length_map]; omega) = (l.map (·.1))[i]'(by rw [List.length_map]; omega) := by
    rw [List.getElem_map, List.getElem_map, ej, ei, e]
  exact (List.pairwise_iff_getElem.mp nd) j i _ _ (by omega) h1
theorem dc_it {J : It} {n : Nat} {G : Hp → Prop} {Y : Nat → Hp → V → Hp → Prop} (w : Walk J n G Y) {g : TG} {tt : TT} {tk tv : TE} {vs : List Nat} {σ : L2.St} {H1 : Hp} {D : Addr} {Qd : Hp → Prop} (Pv : Nat → Hp → Prop) (h0 : Pv 0 (upd H1 D (.dK []))) (hG : ∀ i H, i ≤ n → Pv i H → G H)
    (hs : ∀ i x H H', i < n → Pv i H → Y i H x H' → g x (wipe σ vs) H' fun σ2 H2 => wipe σ2 vs = wipe σ vs ∧ tt σ2 H2 fun b H3 =>
      if b = true then tk σ2 H3 fun y H4 => tv σ2 H4 fun z H5 => ∃ kvs k, y = kV k ∧ H5 D = some (.dK kvs) ∧ kvs.length < sizeLine ∧ Pv (i + 1) (upd H5 D (.dK (putK kvs k z))) else Pv (i + 1) H3) (hd : ∀ H, Pv n H → Qd H) :
    ∃ W : Nat → Nat → Hp → Prop, (∃ m, W 0 m (upd H1 D (.dK []))) ∧ ∀ i m H, W i m H →
      (J.stop i H ∧ Qd H) ∨ (J.go i H ∧ ∃ Nx : Hp → Prop, (∀ H', Nx H' → ∃ m', m' < m ∧ W (i + 1) m' H') ∧ ∀ x H', J.yld i H x H' → g x (wipe σ vs) H' fun σ2 H2 => wipe σ2 vs = wipe σ vs ∧ tt σ2 H2 fun b H3 =>
        if b = true then tk σ2 H3 fun y H4 => tv σ2 H4 fun z H5 => ∃ kvs k, y = kV k ∧ H5 D = some (.dK kvs) ∧ kvs.length < sizeLine ∧ Nx (upd H5 D (.dK (putK kvs k z))) else Nx H3) := by
  refine ⟨fun i m H => m = n - i ∧ i ≤ n ∧ Pv i H, ⟨n, by simp, Nat.zero_le _, h0⟩, ?_⟩
  rintro i m H ⟨rfl, hi, p⟩
  have gg := hG i H hi p
  by_cases hlt : i < n
  · exact .inr ⟨w.goes i H hlt gg, Pv (i + 1), fun H' p' => ⟨n - (i + 1), by omega, rfl, hlt, p'⟩, fun x H' y => hs i x H H' hlt p (w.yields i H x H' hlt gg y)⟩
  · have e : i = n := by omega
    subst e
    exact .inl ⟨w.stops H gg, hd H p⟩
theorem lock_but {H H' : Hp} {d : Addr} {od : Obj} {u : HO} (h : H d = some u) (b : But [] (upd H d (.frz od u)) H') : But [] H (upd H' d u) := by
  refine ⟨fun x o e _ => ?_, by simp, fun x e => ?_⟩
  · by_cases z : x = d
    · subst z; rw [upd_same, ← e, h]
    · rw [upd_ne z]; exact b.keep x o ((upd_ne z).trans e) (by simp)
  · by_cases z : x = d
    · subst z; rw [upd_same] at e; cases e
    · rw [upd_ne z] at e
      have := b.dom x e
      rwa [upd_ne z] at this
def spSweepS (K : PySem.W.Frag) : Sp := fun vs H Q _ => ∃ (a : Addr) (c : Cnt) (s : Sta), vs = [.ref a] ∧ StandAt K H a c s ∧ (∀ n, n ∈ s.order ↔ n ∈ s.music.map (·.1)) ∧ (s.spans.map (·.1)).Nodup ∧ s.spans.length ≤ 20 ∧
  ∀ sp' H', H sp' = none → But [a] H H' → StandAt K H' a { c with sp := sp' } (sweep s) → Q .non H'
abbrev n_Stand_sweep : List Str := ["self", "number", "span"]
theorem sc_Stand_sweep : FnScope n_Stand_sweep ["self"] d_Stand_sweep.scope := C8.fnScope_by (by decide +kernel)
theorem met_sweep {P : Program} {w : World} {K : PySem.W.Frag} {mg : Str → Option Value} {base : Heap} (C : Cn w K mg)  : Met P w K mg base CX0 3 "Stand" "sweep" (spSweepS K) := by
  refine C.met 67 112 96 d_Stand_sweep sc_Stand_sweep (fun _ _ _ _ _ _ us hl => match us, hl with | [_], _ => rfl) (fun vs H Q E h => ?_) (fun f cdv A outer s H vs Q E hr h => ?_)
  · obtain ⟨a, c, s, rfl, _⟩ := h
    rfl
  have nd := sc_Stand_sweep.nd
  refine ⟨_, PSs.nox (pss_one (ps_fld (pv 0) (pe_lock (pe_dc (own := [("number", 1), ("span", 2)]) rfl nd (pi_items (pe_fld (pv 0) rfl)) (blkOk_by (own := [("number", 1), ("span", 2)]) (N := n_Stand_sweep) (sc := d_Stand_sweep.scope) (by decide +kernel)) (fun _ _ _ _ _ => (v_pg_tup rfl (pgs_cons (pg_name (i := 1) nd rfl (by first | exact Or.inl rfl | exact Or.inr rfl)) (pgs_cons (pg_name (i := 2) nd rfl (by first | exact Or.inl rfl | exact Or.inr rfl)) pgs_nil)) (K := K) (n := 2))) (fun _ _ _ _ _ => (pts_one (pt_val (v_pe_m (met_lies C) hr (pv 0) (pa_cons (pv 2) pa_nil) (K := K) (CX := CX0))))) (fun _ _ _ _ _ => (pv 1)) (fun _ _ _ _ _ => (pv 2)))) rfl)), ?_⟩
  obtain ⟨a, c, s, rfl, hs, hk, nds, few, k⟩ := h
  obtain ⟨ks, hk1, hk2⟩ := hs.cont.sp
  refine ⟨c.sp, _, hk1, trivial, fun od => ?_⟩
  have m0 := hs.m
  obtain ⟨dx, vs, vf, h1, h2, h3⟩ := id hs.at_
  have n1 : a ≠ c.sp := fun z => by rw [z, hk1] at h1; cases h1
  have n2 : c.o ≠ c.sp := fun z => by have := hs.cont.o; rw [z, hk1] at this; cases this
  have bL : But [c.sp] H (upd H c.sp (.frz od (.dK ks))) := But.one (nt_dk hk1)
  have m1 : StandM K (upd H c.sp (.frz od (.dK ks))) a c s := m0.but bL (by simp [n1, n2, hs.cont.nd.1])
  have kv1 := kv_but bL tup_span hk2
  obtain ⟨H1, eH1⟩ : ∃ H1, H1 = upd H c.sp (.frz od (.dK ks)) := ⟨_, rfl⟩
  rw [← eH1] at bL m1 kv1 ⊢
  have e1 : H1 c.sp = some (.frz od (.dK ks)) := by rw [eH1, upd_same]
  refine fo_spans C (vr rfl) m1 ⟨c.sp, od, ks, rfl, e1, fun D nD => ?_⟩
  have nD0 : H D = none := bL.dom D nD
  have nDsp : c.sp ≠ D := fun z => by rw [z, nD] at e1; cases e1
  have base : ∀ {H' : Hp}, But [D] (upd H1 D (.dK [])) H' → But [] H1 H' := fun {H'} b => (But.refl.new nD).thn b fun x hx => .inr (by rw [show x = D by simpa using hx]; exact nD)
  refine dc_it walk_items (fun i H' => But [D] (upd H1 D (.dK [])) H' ∧ ∃ kvs, H' D = some (.dK kvs) ∧ KvD K H' spanD kvs ((s.spans.take i).filter fun p => lies s.order s.music p.2)) ?_ ?_ ?_ ?_
  · exact ⟨But.nil _ fun x hx => by rw [show x = D by simpa using hx]; exact nt_dk upd_same, [], upd_same, .nil⟩
  · rintro i H' _ ⟨b, _⟩
    exact (base b).keep _ _ e1 (by simp)
  · rintro i x H' H2 hi ⟨b, kvs, hD, kv⟩ ⟨T, u, v, rfl, nT, rfl, hu, hv⟩
    obtain ⟨p1, p2, hp⟩ : ∃ p1 p2, ks[i]? = some (p1, p2) := ⟨_, _, List.getElem?_eq_getElem hi⟩
    have hu : (ks[i]?.map fun kv => kV kv.1) = some u := hu
    have hv : ks[i]?.map Prod.snd = some v := hv
    rw [hp] at hu hv
    cases hu
    cases hv
    obtain ⟨q, hq, eq, dq⟩ := kv_at (kv_but (base b) tup_span kv1) hp
    have eq : p1 = .inl q.1 := eq
    subst eq
    have dq : Dp K H' p2 (spanD q.2) := dq
    have bT : But [] H' (upd H' T (.tup [kV (.inl q.1), p2])) := But.refl.new nT
    have m2 := (m1.new (base b)).new bT
    obtain ⟨dx2, vs2, vf2, h12⟩ := id m2.at_
    refine ⟨T, _, rfl, SqT.of upd_same, rfl, _, _, rfl, _, _, rfl, rfl, rfl, _, rfl, a, dx2, _, rfl, h12, rfl, _, rfl, a, c, s, p2, q.2, rfl, m2, hk, dp_but bT _ _ (tup_span _) dq, fun H3 b3 => ⟨_, rfl, ite2 (fun e => ?_) (fun e => ?_)⟩⟩
    · have hD3 := (bT.trans b3).keep D _ hD (by simp)
      have kv3 := kv_but (bT.trans b3) tup_span kv
      have lk : kvs.length ≤ 20 := by
        rw [kv_len kv]
        exact Nat.le_trans (List.length_filter_le _ _) (Nat.le_trans (by rw [List.length_take]; exact Nat.min_le_right _ _) few)
      have bD : But [D] H3 (upd H3 D (.dK (putK kvs (.inl q.1) p2))) := But.one (nt_dk hD3)
      refine ⟨_, rfl, _, rfl, kvs, .inl q.1, rfl, hD3, by rw [sizeLine_eq]; omega, ((b.step bT).step b3).old (by simp), _, upd_same, ?_⟩
      rw [List.take_add_one, hq, List.filter_append]
      rw [show (some q).toList.filter (fun p => lies s.order s.music p.2) = [q] by simp [show lies s.order s.music q.2 = true from e]]
      have := kv_put kv3 (n := q.1) (x := q.2) (dp_but b3 _ _ (tup_span _) (dp_but bT _ _ (tup_span _) dq))
      rw [putM_new] at this
      · exact kv_but bD tup_span this
      · intro hm
        obtain ⟨y, hy, ey⟩ := List.mem_map.mp hm
        have hy := (List.mem_filter.mp hy).1
        exact take_fresh nds hq y hy ey
    · refine ⟨(b.step bT).step b3, kvs, (bT.trans b3).keep D _ hD (by simp), ?_⟩
      rw [List.take_add_one, hq, List.filter_append]
      rw [show (some q).toList.filter (fun p => lies s.order s.music p.2) = [] by simp [show lies s.order s.music q.2 = false by simpa using e], List.append_nil]
      exact kv_but (bT.trans b3) tup_span kv
  · rintro H' ⟨b, kvs, hD, kv⟩
    rw [kv_len hk2, List.take_length] at kv
    have hsp := (base b).keep _ _ e1 (by simp)
    have bA : But [] H (upd H' c.sp (.dK ks)) := lock_but hk1 (by rw [← eH1]; exact base b)
    have hA : (upd H' c.sp (.dK ks)) a = some (.ins (He.ga K "Stand") dx (standFs c vs vf)) := bA.keep _ _ h1 (by simp)
    have bU : But [c.sp] H' (upd H' c.sp (.dK ks)) := ⟨fun x o e n => (upd_ne (by simpa using n)).trans e, fun x hx ys r => (by
      rw [show x = c.sp by simpa using hx] at r
      rcases r with r | ⟨_, r⟩ <;> rw [hsp] at r <;> cases r), fun x e => (by
      by_cases z : x = c.sp
      · rw [z, upd_same] at e; cases e
      · rwa [upd_ne z] at e)⟩
    have hDA : (upd H' c.sp (.dK ks)) D = some (.dK kvs) := (upd_ne (Ne.symm nDsp)).trans hD
    have kvA := kv_but bU tup_span kv
    refine ⟨hsp, _, rfl, a, _, dx, _, rfl, hA, C.cls 96, C.noat 101, by show 6 < 1000; decide, ?_⟩
    generalize upd H' c.sp (.dK ks) = H2 at bA hA hDA kvA
    have bF : But [a] H2 (upd H2 a (.ins (He.ga K "Stand") dx (standFs { c with sp := D } vs vf))) := But.one (nt_ins hA)
    have bG : But [a] H (upd H2 a (.ins (He.ga K "Stand") dx (standFs { c with sp := D } vs vf))) := (But.nil [a] (fun x hx => by rw [show x = a by simpa using hx]; exact nt_ins h1)).step bA |>.old (by simp)
    have na : ∀ {x : Addr} {o : HO}, H x = some o → (∀ C d f, o ≠ .ins C d f) → x ∉ [a] := fun {x o} e n hx => by
      rw [show x = a by simpa using hx, h1] at e
      exact n _ _ _ (Option.some.inj e).symm
    obtain ⟨km, hm1, _⟩ := id hs.cont.mu
    obtain ⟨kb, hb1, _⟩ := id hs.cont.bo
    refine k D _ nD0 bG ⟨⟨dx, vs, vf, upd_same, dp_but bG _ _ (tup_sheet _) h2, dp_but bG _ _ (tup_tip _) h3⟩, bG.keep _ _ hs.cont.o (na hs.cont.o (by simp)), hs.cont.mu.but bG tup_br (na hm1 (by simp)), ⟨kvs, bF.keep _ _ hDA ?_, kv_but bF tup_span kvA⟩, hs.cont.bo.but bG tup_str (na hb1 (by simp)), ?_, hs.cont.nd.2.1, ?_⟩
    · intro z
      rw [show D = a by simpa using z, h1] at nD0; cases nD0
    · intro z
      have : c.mu = D := z
      rw [← this, hm1] at nD0; cases nD0
    · intro z
      have : D = c.bo := z
      rw [this, hb1] at nD0; cases nD0
end Bu
set_option Elab.async false
set_option linter.all false
set_option maxRecDepth 100000
set_option maxHeartbeats 4000000
/-! The program: deeds on a stand. -/
namespace Bu
open PySem PySem.Spec PyProof.Rows L2
theorem bad_bar (s : Sta) (i : Int) (m : Br) : bad s (.bar i m) = if ¬ (0 ≤ i ∧ i ≤ (s.order.length : Int)) then some ePlace else (match faultE m with | some e => some e | none => if 12 ≤ s.order.length then some eFull else none) := rfl
theorem bad_change (s : Sta) (n : Int) (m : Br) : bad s (.change n m) = if (getM s.music n).isNone then some (eNoBar n) else faultE m := rfl
theorem bad_cut (s : Sta) (n : Int) : bad s (.cut n) = if (getM s.music n).isNone then some (eNoBar n) else none := rfl
theorem bad_move (s : Sta) (n i : Int) : bad s (.move n i) = if (getM s.music n).isNone then some (eNoBar n) else if ¬ (0 ≤ i ∧ i < (s.order.length : Int)) then some ePlace else none := rfl
theorem bad_mark (s : Sta) (on : Int) (b e : Tip) (th : Int) : bad s (.mark (on, b, e, th)) = if ¬ (0 ≤ on ∧ on ≤ 3) then some eStaff else if (getM s.music b.1).isNone then some (eNoBar b.1) else if (getM s.music e.1).isNone then some (eNoBar e.1) else
    if tipIn s.music b = false then some (eNoMoment b.2) else if tipIn s.music e = false then some (eNoMoment e.2) else if spotLe s.order b e = false then some eSpan else if ¬ (1 ≤ th ∧ th ≤ 9) then some eThick else
    if 20 ≤ s.spans.length then some eFull else none := rfl
theorem bad_wipe (s : Sta) (n : Int) : bad s (.wipe n) = if (getM s.spans n).isNone then some (eNoMark n) else none := rfl
theorem bad_fin (s : Sta) (n : Int) (x : Str) : bad s (.fin n x) = if (getM s.music n).isNone then some (eNoBar n) else if x ∉ (["must", "never", "free"] : List Str) then some eWord else if boundOf s n = x then some eSame else none := rfl
theorem bad_paper (s : Sta) (sh : Sheet) : bad s (.paper sh) = if paperOk sh then none else some ePaper := rfl
structure NewC (H : Hp) (c c' : Cnt) : Prop where
  o : c'.o = c.o
  mu : c'.mu = c.mu
  bo : c'.bo = c.bo
  sp : c'.sp = c.sp ∨ H c'.sp = none
theorem NewC.refl {H : Hp} {c : Cnt} : NewC H c c := ⟨rfl, rfl, rfl, .inl rfl⟩
def tellV : Option Int → V
  | none => .non
  | some n => .int n
def spPut (K : PySem.W.Frag) (is : De → Prop) : Sp := fun vs H Q E => ∃ (a : Addr) (c : Cnt) (s : Sta) (N : Int) (v : V) (d : De), is d ∧ Plain d ∧ vs = [.ref a, v] ∧ StandAt K H a c s ∧ s.Good N ∧ N < 1000000000000 ∧ Dp K H v d.toD ∧
  (bad s d = none → ∀ c' H', But (mine a c) H H' → NewC H c c' → StandAt K H' a c' (put false s d).1 → Q (tellV (put false s d).2) H') ∧
  (∀ e, bad s d = some e → ∀ x y H', But [] H H' → ErAt K e x y H' → E x y H')
section
variable {K : PySem.W.Frag} {H H' : Hp} {a : Addr} {c : Cnt} {s : Sta}
theorem StandAt.ne (h : StandAt K H a c s) : a ≠ c.o ∧ a ≠ c.mu ∧ a ≠ c.sp ∧ a ≠ c.bo ∧ c.o ≠ c.mu ∧ c.o ≠ c.sp ∧ c.o ≠ c.bo := by
  obtain ⟨dx, vs, vf, h1, _, _⟩ := h.at_
  obtain ⟨_, h2, _⟩ := h.cont.mu
  obtain ⟨_, h3, _⟩ := h.cont.sp
  obtain ⟨_, h4, _⟩ := h.cont.bo
  have h5 := h.cont.o
  refine ⟨?_, ?_, ?_, ?_, ?_, ?_, ?_⟩ <;> intro z
  · rw [z, h5] at h1; cases h1
  · rw [z, h2] at h1; cases h1
  · rw [z, h3] at h1; cases h1
  · rw [z, h4] at h1; cases h1
  · rw [z, h2] at h5; cases h5
  · rw [z, h3] at h5; cases h5
  · rw [z, h4] at h5; cases h5
theorem ins_map (l : List Int) (i n : Int) : (l.map V.int).take i.toNat ++ [V.int n] ++ (l.map V.int).drop i.toNat = (insAt l i n).map V.int := by
  unfold insAt
  rw [List.map_append, List.map_append, List.map_take, List.map_drop]; rfl
theorem nodup_le : ∀ {l1 l2 : List Int}, l1.Nodup → (∀ x ∈ l1, x ∈ l2) → l1.length ≤ l2.length
  | [], _, _, _ => Nat.zero_le _
  | x :: r, l2, nd, h => by
    rw [List.nodup_cons] at nd
    have hx := h x (by simp)
    have := nodup_le (l1 := r) (l2 := l2.erase x) nd.2 fun y hy => (List.mem_erase_of_ne (a := y) (b := x) (fun z => nd.1 (by rw [← z]; exact hy))).mpr (h y (by simp [hy]))
    rw [List.length_erase_of_mem hx] at this
    have pos : 0 < l2.length := List.length_pos_of_mem hx
    simp only [List.length_cons]
    omega
theorem Sta.Good.mfew {s : Sta} {N : Int} (g : s.Good N) : s.music.length ≤ 12 := by
  have := nodup_le g.mnd fun x hx => (g.keys x).mpr hx
  rw [List.length_map] at this
  exact Nat.le_trans this g.few
theorem Sta.Good.bfew {s : Sta} {N : Int} (g : s.Good N) : s.bound.length ≤ 12 := by
  have := nodup_le g.bnn fun x hx => (by
    obtain ⟨p, hp, rfl⟩ := List.mem_map.mp hx
    exact (g.bnd p hp).1)
  rw [List.length_map] at this
  exact Nat.le_trans this g.few
theorem st_nil (h : StandAt K H a c s) : But (mine a c) H H := But.nil _ fun x hx => (h.live x hx).2
theorem st_order (h : StandAt K H a c s) (l : List Int) : StandAt K (upd H c.o (.lst (l.map .int))) a c { s with order := l } := by
  have b : But [c.o] H (upd H c.o (.lst (l.map .int))) := But.one (nt_lst h.cont.o)
  obtain ⟨dx, vs, vf, h1, h2, h3⟩ := h.at_
  obtain ⟨n1, n2, n3, n4, n5, n6, n7⟩ := h.ne
  exact ⟨⟨dx, vs, vf, b.keep _ _ h1 (by simpa using n1), dp_but b _ _ (tup_sheet _) h2, dp_but b _ _ (tup_tip _) h3⟩, upd_same, h.cont.mu.but b tup_br (by simpa using Ne.symm n5), h.cont.sp.but b tup_span (by simpa using Ne.symm n6), h.cont.bo.but b tup_str (by simpa using Ne.symm n7), h.cont.nd⟩
theorem st_music (h : StandAt K H a c s) {ks : List (Key × V)} {l : List (Int × Br)} (kv : KvD K H brD ks l) : StandAt K (upd H c.mu (.dK ks)) a c { s with music := l } := by
  obtain ⟨_, q, _⟩ := h.cont.mu
  have b : But [c.mu] H (upd H c.mu (.dK ks)) := But.one (nt_dk q)
  obtain ⟨dx, vs, vf, h1, h2, h3⟩ := h.at_
  obtain ⟨n1, n2, n3, n4, n5, n6, n7⟩ := h.ne
  exact ⟨⟨dx, vs, vf, b.keep _ _ h1 (by simpa using n2), dp_but b _ _ (tup_sheet _) h2, dp_but b _ _ (tup_tip _) h3⟩, b.keep _ _ h.cont.o (by simpa using n5), ⟨ks, upd_same, kv_but b tup_br kv⟩, h.cont.sp.but b tup_span (by simpa using Ne.symm h.cont.nd.1), h.cont.bo.but b tup_str (by simpa using Ne.symm h.cont.nd.2.1), h.cont.nd⟩
theorem st_spans (h : StandAt K H a c s) {ks : List (Key × V)} {l : List (Int × Span)} (kv : KvD K H spanD ks l) : StandAt K (upd H c.sp (.dK ks)) a c { s with spans := l } := by
  obtain ⟨_, q, _⟩ := h.cont.sp
  have b : But [c.sp] H (upd H c.sp (.dK ks)) := But.one (nt_dk q)
  obtain ⟨dx, vs, vf, h1, h2, h3⟩ := h.at_
  obtain ⟨n1, n2, n3, n4, n5, n6, n7⟩ := h.ne
  exact ⟨⟨dx, vs, vf, b.keep _ _ h1 (by simpa using n3), dp_but b _ _ (tup_sheet _) h2, dp_but b _ _ (tup_tip _) h3⟩, b.keep _ _ h.cont.o (by simpa using n6), h.cont.mu.but b tup_br (by simpa using h.cont.nd.1), ⟨ks, upd_same, kv_but b tup_span kv⟩, h.cont.bo.but b tup_str (by simpa using Ne.symm h.cont.nd.2.2), h.cont.nd⟩
theorem st_bound (h : StandAt K H a c s) {ks : List (Key × V)} {l : List (Int × Str)} (kv : KvD K H PyData.str ks l) : StandAt K (upd H c.bo (.dK ks)) a c { s with bound := l } := by
  obtain ⟨_, q, _⟩ := h.cont.bo
  have b : But [c.bo] H (upd H c.bo (.dK ks)) := But.one (nt_dk q)
  obtain ⟨dx, vs, vf, h1, h2, h3⟩ := h.at_
  obtain ⟨n1, n2, n3, n4, n5, n6, n7⟩ := h.ne
  exact ⟨⟨dx, vs, vf, b.keep _ _ h1 (by simpa using n4), dp_but b _ _ (tup_sheet _) h2, dp_but b _ _ (tup_tip _) h3⟩, b.keep _ _ h.cont.o (by simpa using n7), h.cont.mu.but b tup_br (by simpa using h.cont.nd.2.1), h.cont.sp.but b tup_span (by simpa using h.cont.nd.2.2), ⟨ks, upd_same, kv_but b tup_str kv⟩, h.cont.nd⟩
theorem st_rec (h : StandAt K H a c s) {dx : Addr} {vs vf : V} {sh : Sheet} {fr : Tip} (h2 : Dp K H vs (sheetD sh)) (h3 : Dp K H vf (tipD fr)) : StandAt K (upd H a (.ins (He.ga K "Stand") dx (standFs c vs vf))) a c { s with sheet := sh, fresh := fr } := by
  obtain ⟨_, _, _, q, _, _⟩ := h.at_
  have b : But [a] H (upd H a (.ins (He.ga K "Stand") dx (standFs c vs vf))) := But.one (nt_ins q)
  obtain ⟨n1, n2, n3, n4, n5, n6, n7⟩ := h.ne
  have q2 := h.cont.but b (by simp [Ne.symm n1, Ne.symm n2, Ne.symm n3, Ne.symm n4])
  exact ⟨⟨dx, vs, vf, upd_same, dp_but b _ _ (tup_sheet _) h2, dp_but b _ _ (tup_tip _) h3⟩, ⟨q2.o, q2.mu, q2.sp, q2.bo, q2.nd⟩⟩
end
def isBar : De → Prop := fun d => ∃ i m, d = .bar i m
abbrev n_put_bar : List Str := ["stand", "deed", "word", "at", "moments", "number"]
theorem sc_put_bar : FnScope n_put_bar ["stand", "deed"] d_put_bar.scope := C8.fnScope_by (by decide +kernel)
theorem cal_put_bar {P : Program} {w : World} {K : PySem.W.Frag} {mg : Str → Option Value} {base : Heap} (C : Cn w K mg)  : Cal P w K mg base (L2.CX P w) 5 "put_bar" (spPut K isBar) := by
  refine C.cal 21 20 d_put_bar sc_put_bar (fun _ _ _ _ _ _ us hl => match us, hl with | [_, _], _ => rfl) (fun vs H Q E h => ?_) (fun f cdv A outer s H vs Q E hr h => ?_)
  · obtain ⟨a, c, s, N, v, d, _, _, rfl, _⟩ := h
    rfl
  have nd := sc_put_bar.nd
  refine ⟨_, (pss_cons (ps_asg (pv 1) (pg_tup rfl (pgs_cons (pg_name (i := 2) nd rfl (by first | exact Or.inl rfl | exact Or.inr rfl)) (pgs_cons (pg_name (i := 3) nd rfl (by first | exact Or.inl rfl | exact Or.inr rfl)) (pgs_cons (pg_name (i := 4) nd rfl (by first | exact Or.inl rfl | exact Or.inr rfl)) pgs_nil))))) (pss_cons (ps_if (pt_not (pt_chain op_le op_le pe_int (pv 3) (pe_callB call_len_seq (by rfl) (C.free 67) (by decide +kernel) (pa_cons (pe_fld (pv 0) rfl) pa_nil)))) (pss_one (ps_rx0 rfl (takes_of rfl rfl rfl rfl) (exn_BadPlace C) hr)) pss_nil) (pss_cons (ps_expr (pe_cx (cal_need_music C) hr (takes_of rfl rfl rfl rfl) (pa_cons (pv 4) pa_nil))) (pss_cons (ps_if (pt_cmpR op_ge (pe_callB call_len_seq (by rfl) (C.free 67) (by decide +kernel) (pa_cons (pe_fld (pv 0) rfl) pa_nil)) (pe_gi (C.int 92)) (nomark _)) (pss_one (ps_rx0 rfl (takes_of rfl rfl rfl rfl) (exn_Full C) hr)) pss_nil) (pss_cons (ps_set (i := 5) nd rfl (by first | exact Or.inl rfl | exact Or.inr rfl) (pe_ix ix_tup (pe_fld (pv 0) rfl) pe_int (fun _ _ => rfl))) (pss_cons (ps_expr (pe_bm PySem.F.plainAttrs_list PySem.F.slot_list_insert PySem.F.type_list_insert mt_insert (pe_fld (pv 0) rfl) (pa_cons (pv 3) (pa_cons (pv 5) pa_nil)))) (pss_cons (ps_dput (hu_of hr) (pe_fld (pv 0) rfl) (pv 5) (pv 4) rfl) (pss_cons (ps_fld (pv 0) (pe_tup (pa_cons (pe_op op_add (pv 5) pe_int) (pa_cons (pe_ix ix_tup (pe_fld (pv 0) rfl) pe_int (fun _ _ => rfl)) pa_nil))) rfl) (pss_one (ps_ret (pv 5))))))))))), ?_⟩
  obtain ⟨a, c, s, N, v, d, ⟨i, m, rfl⟩, pl, rfl, hs, hg, hN, dv, k1, k2⟩ := h
  obtain ⟨p, vs, rfl, hp, da⟩ := dp_tup dv
  obtain ⟨v1, vs, rfl, d1, da⟩ := dpa_cons da
  obtain ⟨v2, vs, rfl, d2, da⟩ := dpa_cons da
  obtain ⟨v3, vs, rfl, d3, da⟩ := dpa_cons da
  cases dpa_nil da
  cases dp_int d2
  have few := hg.few
  have no : ∀ (P : Prop), (i < 0 ∨ (s.order.length : Int) < i) → bad s (.bar i m) = some ePlace := fun _ z => by rw [bad_bar, if_pos (by omega)]
  refine ⟨_, rfl, p, _, rfl, hp, rfl, _, _, rfl, _, _, rfl, _, _, rfl, rfl, ?_⟩
  refine ⟨_, rfl, _, _, rfl, rfl, _, rfl, ite2 (fun e1 => fo_order C (vr rfl) hs.m ⟨c.o, _, rfl, .inl (SqL.of hs.cont.o), _, _, rfl, rfl, _, rfl, ite2 (fun e2 => ?_) (fun e2 => ?_)⟩) (fun e1 => ⟨_, rfl, ?_⟩)⟩
  · have e2 := of_decide_eq_false (not_t e2)
    rw [List.length_map] at e2
    exact ⟨by decide, _, rfl, fun d nd => k2 _ (no True (by omega)) _ _ _ (But.refl.new nd) (ErAt.new rfl d rfl)⟩
  · have e2 := of_decide_eq_true (not_f e2)
    have e1 := of_decide_eq_true e1
    rw [List.length_map] at e2
    have hb : bad s (.bar i m) = (match faultE m with | some e => some e | none => if 12 ≤ s.order.length then some eFull else none) := by rw [bad_bar, if_neg (by omega)]
    refine ⟨_, rfl, v3, m, rfl, d3, pl.1, fun hf H1 b1 => ?_, fun j hf x y H1 b1 er => k2 _ (by rw [hb]; unfold faultE; rw [hf]; rfl) _ _ _ b1 er⟩
    have hs1 := hs.new b1
    have hb2 : bad s (.bar i m) = if 12 ≤ s.order.length then some eFull else none := by rw [hb]; unfold faultE; rw [hf]; rfl
    refine fo_order C (vr rfl) hs1.m ⟨c.o, _, rfl, .inl (SqL.of hs1.cont.o), _, _, rfl, rfl, _, rfl, ite2 (fun e3 => ?_) (fun e3 => ?_)⟩
    · have e3 := of_decide_eq_true e3
      rw [List.length_map] at e3
      exact ⟨by decide, _, rfl, fun d nd => k2 _ (by rw [hb2, if_pos (by omega)]) _ _ _ (b1.new nd) (ErAt.new rfl d rfl)⟩
    have e3 : ¬ (12 : Int) ≤ ((s.order.map V.int).length : Int) := fun z => e3 (decide_eq_true z)
    rw [List.length_map] at e3
    have hb3 : bad s (.bar i m) = none := by rw [hb2, if_neg (by omega)]
    dsimp only [tNext, tSeq, tAsg, tOp]
    refine fo_fresh C (vr rfl) hs1 fun vf dvf => ?_
    obtain ⟨q, rfl, hq⟩ := dp_tip dvf
    refine ⟨q, _, _, _, rfl, rfl, hq, rfl, ?_⟩
    dsimp only [gName, tNext, tSeq, tAsg, tOp, tDrop, tBM, sDPut, sFld]
    refine fo_order C (vr rfl) hs1.m ⟨.inl ⟨rfl, _, SqL.of hs1.cont.o⟩, _, rfl, _, rfl, c.o, s.order.map .int, i, .int s.fresh.1, rfl, rfl, hs1.cont.o, by rw [List.length_map, sizeLine_eq]; omega, by omega, by omega, ?_⟩
    have hs2 := st_order hs1 (insAt s.order i s.fresh.1)
    rw [ins_map]
    have b2 : But (mine a c) H (upd H1 c.o (.lst ((insAt s.order i s.fresh.1).map .int))) := ((st_nil hs).step b1).old (by simp [mine])
    generalize upd H1 c.o (.lst ((insAt s.order i s.fresh.1).map .int)) = H2 at hs2 b2
    have d3' := dp_but b2 _ _ (tup_br m) d3
    obtain ⟨ks, hk1, hk2⟩ := id hs2.cont.mu
    refine ⟨_, rfl, ?_⟩
    refine fo_music C (vr rfl) hs2.m ⟨_, rfl, c.mu, _, rfl, .inl ⟨ks, .inl s.fresh.1, hk1, rfl, ?_, rfl⟩, ?_⟩
    · have := hg.mfew
      have e := kv_len hk2
      rw [sizeLine_eq]
      have e : ks.length = s.music.length := e
      omega
    have hs3 := st_music hs2 (kv_put hk2 (n := s.fresh.1) (x := m) d3')
    have b3 := b2.old (p := c.mu) (o := .dK (putK ks (.inl s.fresh.1) v3)) (by simp [mine])
    generalize upd H2 c.mu (.dK (putK ks (.inl s.fresh.1) v3)) = H3 at hs3 b3
    refine ⟨_, rfl, _, _, rfl, rfl, ?_⟩
    dsimp only [tCons, tNil, tOp]
    refine fo_fresh C (vr rfl) hs3 fun vf3 dvf3 => ?_
    obtain ⟨q3, rfl, hq3⟩ := dp_tip dvf3
    refine ⟨q3, _, _, _, rfl, rfl, hq3, rfl, by show 2 ≤ sizeLine; decide, fun t nt => ?_⟩
    have hs4 := hs3.new (But.refl.new (o := .tup [.int (s.fresh.1 + 1), .int s.fresh.2]) nt)
    have b4 := b3.step (But.refl.new (o := .tup [.int (s.fresh.1 + 1), .int s.fresh.2]) nt)
    have dt : Dp K (upd H3 t (.tup [.int (s.fresh.1 + 1), .int s.fresh.2])) (.ref t) (tipD (s.fresh.1 + 1, s.fresh.2)) := .tup (SqT.of upd_same) (.cons (.int _) (.cons (.int _) .nil))
    generalize upd H3 t (.tup [.int (s.fresh.1 + 1), .int s.fresh.2]) = H4 at hs4 b4 dt
    obtain ⟨dx, vs4, vf4, h41, h42, h43⟩ := id hs4.at_
    refine ⟨_, rfl, a, _, dx, _, rfl, h41, C.cls 96, C.noat 103, by show 6 < 1000; decide, _, rfl, ?_⟩
    exact k1 hb3 c _ (b4.old (by simp [mine])) .refl (st_rec hs4 h42 dt)
  · have e1 : ¬ 0 ≤ i := fun z => e1 (decide_eq_true z)
    exact ⟨by decide, _, rfl, fun d nd => k2 _ (no True (by omega)) _ _ _ (But.refl.new nd) (ErAt.new rfl d rfl)⟩
end Bu
set_option Elab.async false
set_option linter.all false
set_option maxRecDepth 100000
set_option maxHeartbeats 4000000
/-! The program: change, cut, move. -/
namespace Bu
open PySem PySem.Spec PyProof.Rows L2
theorem idx_erase : ∀ {l : List Int} {n : Int}, n ∈ l → l.eraseIdx (idx l n) = l.erase n
  | a :: r, n, h => by
    unfold idx
    by_cases e : a = n
    · rw [if_pos e, e, List.erase_cons_head]; rfl
    · rw [if_neg e, List.eraseIdx_cons_succ, List.erase_cons_tail (by simpa using e), idx_erase ((List.mem_cons.mp h).resolve_left fun z => e z.symm)]
theorem keys_put {α : Type} {l : List (Int × α)} {n : Int} {x : α} (h : n ∈ l.map (·.1)) : (putM l n x).map (·.1) = l.map (·.1) := by
  unfold putM
  rw [if_pos]
  · rw [List.map_map]
    refine List.map_congr_left fun p _ => ?_
    show (if p.1 = n then (p.1, x) else p).1 = p.1
    split <;> rfl
  · obtain ⟨p, hp, e⟩ := List.mem_map.mp h
    exact List.any_eq_true.mpr ⟨p, hp, decide_eq_true e⟩
theorem keys_drop {α : Type} {l : List (Int × α)} {n k : Int} : k ∈ (dropM l n).map (·.1) ↔ k ≠ n ∧ k ∈ l.map (·.1) := by
  rw [← getM_isSome, getM_drop]
  by_cases e : k = n
  · simp [e]
  · simp only [if_neg e, getM_isSome]
    exact ⟨fun h => ⟨e, h⟩, fun h => h.2⟩
theorem mem_insAt {l : List Int} {i n k : Int} : k ∈ insAt l i n ↔ k = n ∨ k ∈ l := by
  unfold insAt
  rw [List.mem_append, List.mem_append, List.mem_singleton]
  constructor
  · rintro ((h | h) | h)
    · exact .inr (List.mem_of_mem_take h)
    · exact .inl h
    · exact .inr (List.mem_of_mem_drop h)
  · rintro (h | h)
    · exact .inl (.inr h)
    · rw [← List.take_append_drop i.toNat l] at h
      rcases List.mem_append.mp h with h | h
      · exact .inl (.inl h)
      · exact .inr h
theorem dropM_no {α : Type} {l : List (Int × α)} {n : Int} (h : getM l n = none) : dropM l n = l := by
  unfold dropM
  refine List.filter_eq_self.mpr fun p hp => ?_
  refine decide_eq_true fun z => ?_
  have : (getM l n).isSome = true := getM_isSome.mpr (List.mem_map.mpr ⟨p, hp, z⟩)
  rw [h] at this; cases this
theorem isNone_f {α : Type} {o : Option α} (h : o.isSome = true) : ¬ o.isNone = true := by cases o <;> simp_all
theorem isNone_t {α : Type} {o : Option α} (h : o = none) : o.isNone = true := by rw [h]; rfl
def isChange : De → Prop := fun d => ∃ i m, d = .change i m
abbrev n_put_change : List Str := ["stand", "deed", "word", "number", "moments"]
theorem sc_put_change : FnScope n_put_change ["stand", "deed"] d_put_change.scope := C8.fnScope_by (by decide +kernel)
theorem cal_put_change {P : Program} {w : World} {K : PySem.W.Frag} {mg : Str → Option Value} {base : Heap} (C : Cn w K mg)  : Cal P w K mg base (L2.CX P w) 5 "put_change" (spPut K isChange) := by
  refine C.cal 22 21 d_put_change sc_put_change (fun _ _ _ _ _ _ us hl => match us, hl with | [_, _], _ => rfl) (fun vs H Q E h => ?_) (fun f cdv A outer s H vs Q E hr h => ?_)
  · obtain ⟨a, c, s, N, v, d, _, _, rfl, _⟩ := h
    rfl
  have nd := sc_put_change.nd
  refine ⟨_, (pss_cons (ps_asg (pv 1) (pg_tup rfl (pgs_cons (pg_name (i := 2) nd rfl (by first | exact Or.inl rfl | exact Or.inr rfl)) (pgs_cons (pg_name (i := 3) nd rfl (by first | exact Or.inl rfl | exact Or.inr rfl)) (pgs_cons (pg_name (i := 4) nd rfl (by first | exact Or.inl rfl | exact Or.inr rfl)) pgs_nil))))) (pss_cons (ps_expr (pe_mx (met_need_bar C) hr (takes_of rfl rfl rfl rfl) (pv 0) (pa_cons (pv 3) pa_nil))) (pss_cons (ps_expr (pe_cx (cal_need_music C) hr (takes_of rfl rfl rfl rfl) (pa_cons (pv 4) pa_nil))) (pss_cons (ps_dput (hu_of hr) (pe_fld (pv 0) rfl) (pv 3) (pv 4) rfl) (pss_one (ps_expr (pe_m0 (met_sweep C) hr (pv 0)))))))), ?_⟩
  obtain ⟨a, c, s, N, v, d, ⟨i, m, rfl⟩, pl, rfl, hs, hg, hN, dv, k1, k2⟩ := h
  obtain ⟨p, vs, rfl, hp, da⟩ := dp_tup dv
  obtain ⟨v1, vs, rfl, d1, da⟩ := dpa_cons da
  obtain ⟨v2, vs, rfl, d2, da⟩ := dpa_cons da
  obtain ⟨v3, vs, rfl, d3, da⟩ := dpa_cons da
  cases dpa_nil da
  cases dp_int d2
  obtain ⟨dx, _, _, h1, _, _⟩ := id hs.at_
  refine ⟨_, rfl, p, _, rfl, hp, rfl, _, _, rfl, _, _, rfl, _, _, rfl, rfl, ?_⟩
  refine ⟨_, rfl, a, dx, _, rfl, h1, rfl, _, rfl, a, c, s, i, rfl, hs.m, fun hi => ?_, fun hi x y H' b er => k2 _ (by rw [bad_change, if_pos (isNone_t hi)]) _ _ _ b er⟩
  have hb : bad s (.change i m) = faultE m := by rw [bad_change, if_neg (isNone_f hi)]
  refine ⟨_, rfl, v3, m, rfl, d3, pl.2.1, fun hf H1 b1 => ?_, fun j hf x y H1 b1 er => k2 _ (by rw [hb]; unfold faultE; rw [hf]; rfl) _ _ _ b1 er⟩
  have hb2 : bad s (.change i m) = none := by rw [hb]; unfold faultE; rw [hf]; rfl
  have hs1 := hs.new b1
  obtain ⟨ks, hk1, hk2⟩ := id hs1.cont.mu
  refine ⟨_, rfl, ?_⟩
  refine fo_music C (vr rfl) hs1.m ⟨_, rfl, c.mu, _, rfl, .inl ⟨ks, .inl i, hk1, rfl, ?_, rfl⟩, ?_⟩
  · have := hg.mfew
    rw [kv_len hk2, sizeLine_eq]; omega
  have hs2 := st_music hs1 (kv_put hk2 (n := i) (x := m) (dp_but b1 _ _ (tup_br m) d3))
  have b2 : But (mine a c) H (upd H1 c.mu (.dK (putK ks (.inl i) v3))) := ((st_nil hs).step b1).old (by simp [mine])
  generalize upd H1 c.mu (.dK (putK ks (.inl i) v3)) = H2 at hs2 b2
  obtain ⟨dx2, _, _, h2, _, _⟩ := id hs2.at_
  refine ⟨_, rfl, a, dx2, _, rfl, h2, rfl, a, c, _, rfl, hs2, fun n => ?_, hg.snd, hg.sfew, fun sp' H3 nsp b3 hs3 => ?_⟩
  · show n ∈ s.order ↔ n ∈ (putM s.music i m).map (·.1)
    rw [keys_put (getM_isSome.mp hi)]
    exact hg.keys n
  · exact k1 hb2 { c with sp := sp' } _ (b2.thn b3 fun x hx => .inl (by rw [show x = a by simpa using hx]; simp [mine])) ⟨rfl, rfl, rfl, .inr (b2.dom _ nsp)⟩ hs3
def isCut : De → Prop := fun d => ∃ i, d = .cut i
abbrev n_put_cut : List Str := ["stand", "deed", "number"]
theorem sc_put_cut : FnScope n_put_cut ["stand", "deed"] d_put_cut.scope := C8.fnScope_by (by decide +kernel)
theorem cal_put_cut {P : Program} {w : World} {K : PySem.W.Frag} {mg : Str → Option Value} {base : Heap} (C : Cn w K mg)  : Cal P w K mg base (L2.CX P w) 5 "put_cut" (spPut K isCut) := by
  refine C.cal 23 22 d_put_cut sc_put_cut (fun _ _ _ _ _ _ us hl => match us, hl with | [_, _], _ => rfl) (fun vs H Q E h => ?_) (fun f cdv A outer s H vs Q E hr h => ?_)
  · obtain ⟨a, c, s, N, v, d, _, _, rfl, _⟩ := h
    rfl
  have nd := sc_put_cut.nd
  refine ⟨_, (pss_cons (ps_set (i := 2) nd rfl (by first | exact Or.inl rfl | exact Or.inr rfl) (pe_ix ix_tup (pv 1) pe_int (fun _ _ => rfl))) (pss_cons (ps_expr (pe_mx (met_need_bar C) hr (takes_of rfl rfl rfl rfl) (pv 0) (pa_cons (pv 2) pa_nil))) (pss_cons (ps_expr (pe_bm PySem.F.plainAttrs_list PySem.F.slot_list_remove PySem.F.type_list_remove mt_remove (pe_fld (pv 0) rfl) (pa_cons (pv 2) pa_nil))) (pss_cons (ps_expr (pe_dpop1 (pe_fld (pv 0) rfl) (pv 2) ⟨rfl, rfl, rfl, rfl⟩)) (pss_cons (ps_expr (pe_dpop2 (pe_fld (pv 0) rfl) (pv 2) pe_non ⟨rfl, rfl, rfl, rfl⟩)) (pss_one (ps_expr (pe_m0 (met_sweep C) hr (pv 0))))))))), ?_⟩
  obtain ⟨a, c, s, N, v, d, ⟨i, rfl⟩, pl, rfl, hs, hg, hN, dv, k1, k2⟩ := h
  obtain ⟨p, vs, rfl, hp, da⟩ := dp_tup dv
  obtain ⟨v1, vs, rfl, d1, da⟩ := dpa_cons da
  obtain ⟨v2, vs, rfl, d2, da⟩ := dpa_cons da
  cases dpa_nil da
  cases dp_int d2
  obtain ⟨dx, _, _, h1, _, _⟩ := id hs.at_
  refine ⟨_, rfl, p, _, _, _, rfl, rfl, hp, rfl, ?_⟩
  refine ⟨_, rfl, a, dx, _, rfl, h1, rfl, _, rfl, a, c, s, i, rfl, hs.m, fun hi => ?_, fun hi x y H' b er => k2 _ (by rw [bad_cut, if_pos (isNone_t hi)]) _ _ _ b er⟩
  have hb2 : bad s (.cut i) = none := by rw [bad_cut, if_neg (isNone_f hi)]
  have ho : i ∈ s.order := (hg.keys i).mpr (getM_isSome.mp hi)
  obtain ⟨q1, q2⟩ := idx_lt ho
  dsimp only [gName, tNext, tSeq, tAsg, tOp, tDrop, tBM, sDPut, sFld]
  refine fo_order C (vr rfl) hs.m ⟨.inl ⟨rfl, _, SqL.of hs.cont.o⟩, _, rfl, c.o, s.order, i, idx s.order i, rfl, rfl, hs.cont.o, q1, fun j hj z => q2 j i hj z rfl, ?_⟩
  rw [idx_erase ho]
  have hs1 := st_order hs (s.order.erase i)
  have b1 : But (mine a c) H (upd H c.o (.lst ((s.order.erase i).map .int))) := (st_nil hs).old (by simp [mine])
  generalize upd H c.o (.lst ((s.order.erase i).map .int)) = H1 at hs1 b1
  obtain ⟨ks, hk1, hk2⟩ := id hs1.cont.mu
  dsimp only [tDPop1]
  refine fo_music C (vr rfl) hs1.m ⟨c.mu, rfl, .inl ⟨ks, .inl hk1⟩, _, rfl, ?_⟩
  rcases kv_get hk2 i with ⟨e1, e2⟩ | ⟨mm, v', e1, e2, dm⟩
  · have e1 : getM s.music i = none := e1
    rw [e1] at hi; cases hi
  refine ⟨ks, .inl i, v', hk1, rfl, e2, ?_⟩
  have hs2 := st_music hs1 (kv_drop hk2 (n := i))
  have b2 := b1.old (p := c.mu) (o := .dK (dropK ks (.inl i))) (by simp [mine])
  generalize upd H1 c.mu (.dK (dropK ks (.inl i))) = H2 at hs2 b2
  obtain ⟨kb, hb1, hb2'⟩ := id hs2.cont.bo
  have fin : ∀ H3, But (mine a c) H H3 → StandAt K H3 a c { s with order := s.order.erase i, music := dropM s.music i, bound := dropM s.bound i } → tMeth (He.ga K "Stand") "sweep" (spSweepS K) [] E0 (tVar 0) tNil [some (.ref a), some (.ref p), some (.int i)] H3 (fun _ H' => Q .non H') := fun H3 b3 hs3 => by
    obtain ⟨dx3, _, _, h3, _, _⟩ := id hs3.at_
    refine ⟨_, rfl, a, dx3, _, rfl, h3, rfl, a, c, _, rfl, hs3, fun n => ?_, hg.snd, hg.sfew, fun sp' H4 nsp b4 hs4 => ?_⟩
    · show n ∈ s.order.erase i ↔ n ∈ (dropM s.music i).map (·.1)
      rw [keys_drop, hg.nd.mem_erase_iff, hg.keys n]
    · exact k1 hb2 { c with sp := sp' } _ (b3.thn b4 fun x hx => .inl (by rw [show x = a by simpa using hx]; simp [mine])) ⟨rfl, rfl, rfl, .inr (b3.dom _ nsp)⟩ hs4
  dsimp only [tDPop2]
  refine fo_bound C (vr rfl) hs2.m ⟨c.bo, rfl, .inl ⟨kb, .inl hb1⟩, _, rfl, kb, .inl i, hb1, rfl, fun v'' _ => ?_, fun hno => ?_⟩
  · exact fin _ (b2.old (by simp [mine])) (st_bound hs2 (kv_drop hb2' (n := i)))
  · refine fin _ b2 ?_
    rcases kv_get hb2' i with ⟨e3, _⟩ | ⟨_, _, _, e4, _⟩
    · have e3 : getM s.bound i = none := e3
      rw [dropM_no e3]; exact hs2
    · rw [e4] at hno; cases hno
def isMove : De → Prop := fun d => ∃ i j, d = .move i j
abbrev n_put_move : List Str := ["stand", "deed", "word", "number", "at"]
theorem sc_put_move : FnScope n_put_move ["stand", "deed"] d_put_move.scope := C8.fnScope_by (by decide +kernel)
theorem cal_put_move {P : Program} {w : World} {K : PySem.W.Frag} {mg : Str → Option Value} {base : Heap} (C : Cn w K mg)  : Cal P w K mg base (L2.CX P w) 5 "put_move" (spPut K isMove) := by
  refine C.cal 24 23 d_put_move sc_put_move (fun _ _ _ _ _ _ us hl => match us, hl with | [_, _], _ => rfl) (fun vs H Q E h => ?_) (fun f cdv A outer s H vs Q E hr h => ?_)
  · obtain ⟨a, c, s, N, v, d, _, _, rfl, _⟩ := h
    rfl
  have nd := sc_put_move.nd
  refine ⟨_, (pss_cons (ps_asg (pv 1) (pg_tup rfl (pgs_cons (pg_name (i := 2) nd rfl (by first | exact Or.inl rfl | exact Or.inr rfl)) (pgs_cons (pg_name (i := 3) nd rfl (by first | exact Or.inl rfl | exact Or.inr rfl)) (pgs_cons (pg_name (i := 4) nd rfl (by first | exact Or.inl rfl | exact Or.inr rfl)) pgs_nil))))) (pss_cons (ps_expr (pe_mx (met_need_bar C) hr (takes_of rfl rfl rfl rfl) (pv 0) (pa_cons (pv 3) pa_nil))) (pss_cons (ps_if (pt_not (pt_chain op_le op_lt pe_int (pv 4) (pe_callB call_len_seq (by rfl) (C.free 67) (by decide +kernel) (pa_cons (pe_fld (pv 0) rfl) pa_nil)))) (pss_one (ps_rx0 rfl (takes_of rfl rfl rfl rfl) (exn_BadPlace C) hr)) pss_nil) (pss_cons (ps_expr (pe_bm PySem.F.plainAttrs_list PySem.F.slot_list_remove PySem.F.type_list_remove mt_remove (pe_fld (pv 0) rfl) (pa_cons (pv 3) pa_nil))) (pss_cons (ps_expr (pe_bm PySem.F.plainAttrs_list PySem.F.slot_list_insert PySem.F.type_list_insert mt_insert (pe_fld (pv 0) rfl) (pa_cons (pv 4) (pa_cons (pv 3) pa_nil)))) (pss_one (ps_expr (pe_m0 (met_sweep C) hr (pv 0))))))))), ?_⟩
  obtain ⟨a, c, s, N, v, d, ⟨i, j, rfl⟩, pl, rfl, hs, hg, hN, dv, k1, k2⟩ := h
  obtain ⟨p, vs, rfl, hp, da⟩ := dp_tup dv
  obtain ⟨v1, vs, rfl, d1, da⟩ := dpa_cons da
  obtain ⟨v2, vs, rfl, d2, da⟩ := dpa_cons da
  obtain ⟨v3, vs, rfl, d3, da⟩ := dpa_cons da
  cases dpa_nil da
  cases dp_int d2
  cases dp_int d3
  obtain ⟨dx, _, _, h1, _, _⟩ := id hs.at_
  have few := hg.few
  refine ⟨_, rfl, p, _, rfl, hp, rfl, _, _, rfl, _, _, rfl, _, _, rfl, rfl, ?_⟩
  refine ⟨_, rfl, a, dx, _, rfl, h1, rfl, _, rfl, a, c, s, i, rfl, hs.m, fun hi => ?_, fun hi x y H' b er => k2 _ (by rw [bad_move, if_pos (isNone_t hi)]) _ _ _ b er⟩
  have hb : bad s (.move i j) = if ¬ (0 ≤ j ∧ j < (s.order.length : Int)) then some ePlace else none := by rw [bad_move, if_neg (isNone_f hi)]
  have no : (j < 0 ∨ (s.order.length : Int) ≤ j) → bad s (.move i j) = some ePlace := fun z => by rw [hb, if_pos (by omega)]
  have ho : i ∈ s.order := (hg.keys i).mpr (getM_isSome.mp hi)
  obtain ⟨q1, q2⟩ := idx_lt ho
  refine ⟨_, rfl, _, _, rfl, rfl, _, rfl, ite2 (fun e1 => fo_order C (vr rfl) hs.m ⟨c.o, _, rfl, .inl (SqL.of hs.cont.o), _, _, rfl, rfl, _, rfl, ite2 (fun e2 => ?_) (fun e2 => ?_)⟩) (fun e1 => ⟨_, rfl, ?_⟩)⟩
  · have e2 := of_decide_eq_false (not_t e2)
    rw [List.length_map] at e2
    exact ⟨by decide, _, rfl, fun d nd => k2 _ (no (by omega)) _ _ _ (But.refl.new nd) (ErAt.new rfl d rfl)⟩
  · have e2 := of_decide_eq_true (not_f e2)
    have e1 := of_decide_eq_true e1
    rw [List.length_map] at e2
    have hb2 : bad s (.move i j) = none := by rw [hb, if_neg (by omega)]
    dsimp only [gName, tNext, tSeq, tAsg, tOp, tDrop, tBM, sDPut, sFld]
    refine fo_order C (vr rfl) hs.m ⟨.inl ⟨rfl, _, SqL.of hs.cont.o⟩, _, rfl, c.o, s.order, i, idx s.order i, rfl, rfl, hs.cont.o, q1, fun j hj z => q2 j i hj z rfl, ?_⟩
    rw [idx_erase ho]
    have hs1 := st_order hs (s.order.erase i)
    have b1 : But (mine a c) H (upd H c.o (.lst ((s.order.erase i).map .int))) := (st_nil hs).old (by simp [mine])
    generalize upd H c.o (.lst ((s.order.erase i).map .int)) = H1 at hs1 b1
    have lE : (s.order.erase i).length ≤ 12 := Nat.le_trans (List.length_erase_le) few
    refine fo_order C (vr rfl) hs1.m ⟨.inl ⟨rfl, _, SqL.of hs1.cont.o⟩, _, rfl, _, rfl, c.o, (s.order.erase i).map .int, j, .int i, rfl, rfl, hs1.cont.o, by rw [List.length_map, sizeLine_eq]; omega, by omega, by omega, ?_⟩
    rw [ins_map]
    have hs2 := st_order hs1 (insAt (s.order.erase i) j i)
    have b2 := b1.old (p := c.o) (o := .lst ((insAt (s.order.erase i) j i).map .int)) (by simp [mine])
    generalize upd H1 c.o (.lst ((insAt (s.order.erase i) j i).map .int)) = H2 at hs2 b2
    obtain ⟨dx2, _, _, h2, _, _⟩ := id hs2.at_
    refine ⟨_, rfl, a, dx2, _, rfl, h2, rfl, a, c, _, rfl, hs2, fun n => ?_, hg.snd, hg.sfew, fun sp' H3 nsp b3 hs3 => ?_⟩
    · show n ∈ insAt (s.order.erase i) j i ↔ n ∈ s.music.map (·.1)
      rw [mem_insAt, hg.nd.mem_erase_iff, ← hg.keys n]
      constructor
      · rintro (rfl | h)
        · exact ho
        · exact h.2
      · intro h
        by_cases z : n = i
        · exact .inl z
        · exact .inr ⟨z, h⟩
    · exact k1 hb2 { c with sp := sp' } _ (b2.thn b3 fun x hx => .inl (by rw [show x = a by simpa using hx]; simp [mine])) ⟨rfl, rfl, rfl, .inr (b2.dom _ nsp)⟩ hs3
  · have e1 : ¬ 0 ≤ j := fun z => e1 (decide_eq_true z)
    exact ⟨by decide, _, rfl, fun d nd => k2 _ (no (by omega)) _ _ _ (But.refl.new nd) (ErAt.new rfl d rfl)⟩
end Bu
set_option Elab.async false
set_option linter.all false
set_option maxRecDepth 100000
set_option maxHeartbeats 4000000
/-! The program: wipe, end, paper. -/
namespace Bu
open PySem PySem.Spec PyProof.Rows L2
def isWipe : De → Prop := fun d => ∃ i, d = .wipe i
abbrev n_put_wipe : List Str := ["stand", "deed", "number"]
theorem sc_put_wipe : FnScope n_put_wipe ["stand", "deed"] d_put_wipe.scope := C8.fnScope_by (by decide +kernel)
theorem cal_put_wipe {P : Program} {w : World} {K : PySem.W.Frag} {mg : Str → Option Value} {base : Heap} (C : Cn w K mg)  : Cal P w K mg base (L2.CX P w) 5 "put_wipe" (spPut K isWipe) := by
  refine C.cal 26 25 d_put_wipe sc_put_wipe (fun _ _ _ _ _ _ us hl => match us, hl with | [_, _], _ => rfl) (fun vs H Q E h => ?_) (fun f cdv A outer s H vs Q E hr h => ?_)
  · obtain ⟨a, c, s, N, v, d, _, _, rfl, _⟩ := h
    rfl
  have nd := sc_put_wipe.nd
  refine ⟨_, (pss_cons (ps_set (i := 2) nd rfl (by first | exact Or.inl rfl | exact Or.inr rfl) (pe_ix ix_tup (pv 1) pe_int (fun _ _ => rfl))) (pss_cons (ps_if (pt_cmp (pc_dnotin (hu_of hr) (pv 2) (pe_fld (pv 0) rfl))) (pss_one (ps_rx rfl (takes_of rfl rfl rfl rfl) (exn_NoMark C) hr (pa_cons (pv 2) pa_nil))) pss_nil) (pss_one (ps_expr (pe_dpop1 (pe_fld (pv 0) rfl) (pv 2) ⟨rfl, rfl, rfl, rfl⟩))))), ?_⟩
  obtain ⟨a, c, s, N, v, d, ⟨i, rfl⟩, pl, rfl, hs, hg, hN, dv, k1, k2⟩ := h
  obtain ⟨p, vs, rfl, hp, da⟩ := dp_tup dv
  obtain ⟨v1, vs, rfl, d1, da⟩ := dpa_cons da
  obtain ⟨v2, vs, rfl, d2, da⟩ := dpa_cons da
  cases dpa_nil da
  cases dp_int d2
  obtain ⟨ks, hk1, hk2⟩ := id hs.cont.sp
  have hg' : DGet H c.sp (.int i) (valV ks (.inl i)) := DGet.k (k := .inl i) hk1
  refine ⟨_, rfl, p, _, _, _, rfl, rfl, hp, rfl, ?_⟩
  refine ⟨_, rfl, fo_spans C (vr rfl) hs.m ⟨c.sp, _, rfl, hg', _, rfl, ?_⟩⟩
  rcases kv_get hk2 i with ⟨e1, e2⟩ | ⟨mm, v', e1, e2, dm⟩
  · rw [e2]
    exact ⟨_, rfl, by show 1 ≤ 1000; decide, _, rfl, fun d nd => k2 _ (by rw [bad_wipe, if_pos (isNone_t e1)]) _ _ _ (But.refl.new nd) (ErAt.new rfl d rfl)⟩
  · have hb2 : bad s (.wipe i) = none := by rw [bad_wipe, if_neg (isNone_f (by rw [e1]; rfl))]
    have hI : (if (!(valV ks (.inl i)).isSome) = true then False else True) := by rw [e2]; trivial
    rw [e2]
    dsimp only [gName, tNext, tSeq, tAsg, tOp, tDrop, tDPop1]
    refine fo_spans C (vr rfl) hs.m ⟨c.sp, rfl, .inl ⟨ks, .inl hk1⟩, _, rfl, ks, .inl i, v', hk1, rfl, e2, ?_⟩
    exact k1 hb2 c _ ((st_nil hs).old (by simp [mine])) .refl (st_spans hs (kv_drop hk2 (n := i)))
def isFin : De → Prop := fun d => ∃ i x, d = .fin i x
abbrev n_put_end : List Str := ["stand", "deed", "word", "number", "says"]
theorem sc_put_end : FnScope n_put_end ["stand", "deed"] d_put_end.scope := C8.fnScope_by (by decide +kernel)
theorem cal_put_end {P : Program} {w : World} {K : PySem.W.Frag} {mg : Str → Option Value} {base : Heap} (C : Cn w K mg)  : Cal P w K mg base (L2.CX P w) 5 "put_end" (spPut K isFin) := by
  refine C.cal 27 26 d_put_end sc_put_end (fun _ _ _ _ _ _ us hl => match us, hl with | [_, _], _ => rfl) (fun vs H Q E h => ?_) (fun f cdv A outer s H vs Q E hr h => ?_)
  · obtain ⟨a, c, s, N, v, d, _, _, rfl, _⟩ := h
    rfl
  have nd := sc_put_end.nd
  refine ⟨_, (pss_cons (ps_asg (pv 1) (pg_tup rfl (pgs_cons (pg_name (i := 2) nd rfl (by first | exact Or.inl rfl | exact Or.inr rfl)) (pgs_cons (pg_name (i := 3) nd rfl (by first | exact Or.inl rfl | exact Or.inr rfl)) (pgs_cons (pg_name (i := 4) nd rfl (by first | exact Or.inl rfl | exact Or.inr rfl)) pgs_nil))))) (pss_cons (ps_expr (pe_mx (met_need_bar C) hr (takes_of rfl rfl rfl rfl) (pv 0) (pa_cons (pv 3) pa_nil))) (pss_cons (ps_if (pt_cut (PW.pt (pw_and (pt_cmpR op_ne (pv 4) (pe_gi (C.str 95)) (nomark _)) (pw_and1 (pt_cmpR op_notIn_seq (pv 4) (pe_gi (v := .ref (He.ga K "BOUND")) ⟨_, C.glo 64, rfl⟩) rfl))))) (pss_one (ps_rx0 rfl (takes_of rfl rfl rfl rfl) (exn_BadWord C) hr)) pss_nil) (pss_cons (ps_if (pt_cmpR op_eq (pe_dget2 (hu_of hr) (pe_fld (pv 0) rfl) (pv 3) (pe_gi (C.str 95)) ⟨rfl, rfl, rfl, rfl⟩) (pv 4) (nomark _)) (pss_one (ps_rx0 rfl (takes_of rfl rfl rfl rfl) (exn_Same C) hr)) pss_nil) (pss_cons (ps_dput (hu_of hr) (pe_fld (pv 0) rfl) (pv 3) (pv 4) rfl) (pss_one (ps_if (pt_cmpR op_eq (pv 4) (pe_gi (C.str 95)) (nomark _)) (pss_one (ps_expr (pe_dpop1 (pe_fld (pv 0) rfl) (pv 3) ⟨rfl, rfl, rfl, rfl⟩))) pss_nil))))))), ?_⟩
  obtain ⟨a, c, s, N, v, d, ⟨i, x, rfl⟩, pl, rfl, hs, hg, hN, dv, k1, k2⟩ := h
  obtain ⟨p, vs, rfl, hp, da⟩ := dp_tup dv
  obtain ⟨v1, vs, rfl, d1, da⟩ := dpa_cons da
  obtain ⟨v2, vs, rfl, d2, da⟩ := dpa_cons da
  obtain ⟨v3, vs, rfl, d3, da⟩ := dpa_cons da
  cases dpa_nil da
  cases dp_int d2
  cases dp_str d3
  obtain ⟨dx, _, _, h1, _, _⟩ := id hs.at_
  refine ⟨_, rfl, p, _, rfl, hp, rfl, _, _, rfl, _, _, rfl, _, _, rfl, rfl, ?_⟩
  refine ⟨_, rfl, a, dx, _, rfl, h1, rfl, _, rfl, a, c, s, i, rfl, hs.m, fun hi => ?_, fun hi x y H' b er => k2 _ (by rw [bad_fin, if_pos (isNone_t hi)]) _ _ _ b er⟩
  have hb : bad s (.fin i x) = if x ∉ (["must", "never", "free"] : List Str) then some eWord else if boundOf s i = x then some eSame else none := by rw [bad_fin, if_neg (isNone_f hi)]
  refine ⟨fun b H' => H' = H ∧ (b = true ↔ x ∉ (["must", "never", "free"] : List Str)), ?_, ?_⟩
  · refine ⟨_, rfl, rfl, _, rfl, ite2 (fun e1 => ⟨_, rfl, _, _, rfl, .inr (C.bound H), rfl, rfl, _, rfl, rfl, ?_⟩) (fun e1 => ⟨rfl, ?_⟩)⟩
    · have hx := pl.2
      simp only [List.mem_cons, List.not_mem_nil, or_false] at hx
      rcases hx with rfl | rfl | rfl | rfl | rfl <;> first | decide | exact absurd e1 (by decide)
    · have hx := pl.2
      simp only [List.mem_cons, List.not_mem_nil, or_false] at hx
      rcases hx with rfl | rfl | rfl | rfl | rfl <;> first | decide | exact absurd (by decide) e1
  rintro b H' ⟨rfl, hbx⟩
  refine ite2 (fun e => ?_) (fun e => ?_)
  · exact ⟨by decide, _, rfl, fun d nd => k2 _ (by rw [hb, if_pos (hbx.mp e)]) _ _ _ (But.refl.new nd) (ErAt.new rfl d rfl)⟩
  have hx : x ∈ (["must", "never", "free"] : List Str) := Classical.byContradiction fun z => e (hbx.mpr z)
  have hb2 : bad s (.fin i x) = if boundOf s i = x then some eSame else none := by rw [hb, if_neg (fun z => z hx)]
  obtain ⟨kb, hb1, hb2'⟩ := id hs.cont.bo
  have hval : (valV kb (.inl i)).getD (.str "free") = .str (boundOf s i) := by
    unfold boundOf
    rcases kv_get hb2' i with ⟨e1, e2⟩ | ⟨w', v', e1, e2, dm⟩
    · rw [e1, e2]; rfl
    · rw [e1, e2]
      show v' = _
      rw [dp_str dm]; rfl
  dsimp only [gName, tNext, tSeq, tAsg, tOp, tDrop, tDGet2, tIfS, tTest]
  refine fo_bound C (vr rfl) hs.m ⟨c.bo, rfl, .inl ⟨kb, .inl hb1⟩, _, rfl, _, DGet.k (k := .inl i) hb1, ?_⟩
  rw [hval]
  refine ⟨_, rfl, rfl, _, rfl, ite2 (fun e1 => ?_) (fun e1 => ?_)⟩
  · have e1 : boundOf s i = x := V.str.inj (of_decide_eq_true e1)
    exact ⟨by decide, _, rfl, fun d nd => k2 _ (by rw [hb2, if_pos e1]) _ _ _ (But.refl.new nd) (ErAt.new rfl d rfl)⟩
  have e1 : boundOf s i ≠ x := fun z => e1 (decide_eq_true (by rw [z]))
  have hb3 : bad s (.fin i x) = none := by rw [hb2, if_neg e1]
  refine ⟨_, rfl, ?_⟩
  refine fo_bound C (vr rfl) hs.m ⟨_, rfl, c.bo, _, rfl, .inl ⟨kb, .inl i, hb1, rfl, ?_, rfl⟩, ?_⟩
  · have := hg.bfew
    rw [kv_len hb2', sizeLine_eq]; omega
  have kv2 := kv_put hb2' (n := i) (x := x) (.str x)
  have hs2 := st_bound hs kv2
  have b2 : But (mine a c) H' (upd H' c.bo (.dK (putK kb (.inl i) (.str x)))) := (st_nil hs).old (by simp [mine])
  generalize upd H' c.bo (.dK (putK kb (.inl i) (.str x))) = H2 at hs2 b2
  obtain ⟨kb2, hc1, hc2⟩ := id hs2.cont.bo
  refine ⟨_, rfl, rfl, _, rfl, ite2 (fun e2 => ?_) (fun e2 => ?_)⟩
  · have e2 : x = "free" := V.str.inj (of_decide_eq_true e2)
    dsimp only [gName, tNext, tSeq, tAsg, tOp, tDrop, tDPop1]
    rcases kv_get hc2 i with ⟨e3, e4⟩ | ⟨w', v', e3, e4, dm⟩
    · have e3 : getM (putM s.bound i x) i = none := e3
      rw [getM_put, if_pos rfl] at e3; cases e3
    refine fo_bound C (vr rfl) hs2.m ⟨c.bo, rfl, .inl ⟨kb2, .inl hc1⟩, _, rfl, kb2, .inl i, v', hc1, rfl, e4, ?_⟩
    have hs3 := st_bound hs2 (kv_drop hc2 (n := i))
    refine k1 hb3 c _ (b2.old (by simp [mine])) .refl ?_
    show StandAt K _ a c { s with bound := if false = false ∧ x = "free" then dropM (putM s.bound i x) i else putM s.bound i x }
    rw [if_pos ⟨rfl, e2⟩]
    exact hs3
  · have e2 : x ≠ "free" := fun z => e2 (decide_eq_true (by rw [z]))
    refine k1 hb3 c _ b2 .refl ?_
    show StandAt K _ a c { s with bound := if false = false ∧ x = "free" then dropM (putM s.bound i x) i else putM s.bound i x }
    rw [if_neg (fun z => e2 z.2)]
    exact hs2
def isPaper : De → Prop := fun d => ∃ sh, d = .paper sh
abbrev n_put_paper : List Str := ["stand", "deed", "word", "width", "lines", "fee", "turn", "gap"]
theorem sc_put_paper : FnScope n_put_paper ["stand", "deed"] d_put_paper.scope := C8.fnScope_by (by decide +kernel)
theorem cal_put_paper {P : Program} {w : World} {K : PySem.W.Frag} {mg : Str → Option Value} {base : Heap} (C : Cn w K mg)  : Cal P w K mg base (L2.CX P w) 5 "put_paper" (spPut K isPaper) := by
  refine C.cal 28 27 d_put_paper sc_put_paper (fun _ _ _ _ _ _ us hl => match us, hl with | [_, _], _ => rfl) (fun vs H Q E h => ?_) (fun f cdv A outer s H vs Q E hr h => ?_)
  · obtain ⟨a, c, s, N, v, d, _, _, rfl, _⟩ := h
    rfl
  have nd := sc_put_paper.nd
  refine ⟨_, (pss_cons (ps_asg (pv 1) (pg_tup rfl (pgs_cons (pg_name (i := 2) nd rfl (by first | exact Or.inl rfl | exact Or.inr rfl)) (pgs_cons (pg_name (i := 3) nd rfl (by first | exact Or.inl rfl | exact Or.inr rfl)) (pgs_cons (pg_name (i := 4) nd rfl (by first | exact Or.inl rfl | exact Or.inr rfl)) (pgs_cons (pg_name (i := 5) nd rfl (by first | exact Or.inl rfl | exact Or.inr rfl)) (pgs_cons (pg_name (i := 6) nd rfl (by first | exact Or.inl rfl | exact Or.inr rfl)) (pgs_cons (pg_name (i := 7) nd rfl (by first | exact Or.inl rfl | exact Or.inr rfl)) pgs_nil)))))))) (pss_one (ps_fld (pv 0) (pe_ck (calk_paper C) hr (takes_of rfl rfl rfl rfl) (pk_cons (pv 3) (pk_cons (pv 4) (pk_cons (pv 5) (pk_cons (pv 6) (pk_cons (pv 7) pk_nil)))))) rfl))), ?_⟩
  obtain ⟨a, c, s, N, v, d, ⟨sh, rfl⟩, pl, rfl, hs, hg, hN, dv, k1, k2⟩ := h
  obtain ⟨x1, x2, x3, x4, x5, rfl⟩ : ∃ x1 x2 x3 x4 x5, sh = [x1, x2, x3, x4, x5] := by
    match sh, (pl : sh.length = 5) with
    | [x1, x2, x3, x4, x5], _ => exact ⟨_, _, _, _, _, rfl⟩
  obtain ⟨p, vs, rfl, hp, da⟩ := dp_tup dv
  obtain ⟨v1, vs, rfl, d1, da⟩ := dpa_cons da
  obtain ⟨v2, vs, rfl, d2, da⟩ := dpa_cons da
  obtain ⟨v3, vs, rfl, d3, da⟩ := dpa_cons da
  obtain ⟨v4, vs, rfl, d4, da⟩ := dpa_cons da
  obtain ⟨v5, vs, rfl, d5, da⟩ := dpa_cons da
  obtain ⟨v6, vs, rfl, d6, da⟩ := dpa_cons da
  cases dpa_nil da
  cases dp_int d2
  cases dp_int d3
  cases dp_int d4
  cases dp_int d5
  cases dp_int d6
  refine ⟨_, rfl, p, _, rfl, hp, rfl, _, _, rfl, _, _, rfl, _, _, rfl, _, _, rfl, _, _, rfl, _, _, rfl, rfl, ?_⟩
  refine ⟨_, rfl, _, rfl, _, rfl, _, rfl, _, rfl, rfl, x1, x2, x3, x4, x5, rfl, fun ok v' H1 b1 dv' => ?_, fun ok x y H' b er => k2 _ (by rw [bad_paper, ok]; rfl) _ _ _ b er⟩
  have hs1 := hs.new b1
  obtain ⟨dx, vs1, vf1, h11, h12, h13⟩ := id hs1.at_
  refine ⟨_, rfl, a, _, dx, _, rfl, h11, C.cls 96, C.noat 98, by show 6 < 1000; decide, ?_⟩
  exact k1 (by rw [bad_paper, ok]; rfl) c _ (((st_nil hs).step b1).old (by simp [mine])) .refl (st_rec hs1 dv' h13)
end Bu
set_option Elab.async false
set_option linter.all false
set_option maxRecDepth 100000
set_option maxHeartbeats 4000000
/-! The program: mark. -/
namespace Bu
open PySem PySem.Spec PyProof.Rows L2
theorem two_get2 {K : PySem.W.Frag} {H : Hp} {v1 v2 x : V} {t1 t2 : Tip} {i : Nat} (hx : [v1, v2][i]? = some x) (d1 : Dp K H v1 (tipD t1)) (d2 : Dp K H v2 (tipD t2)) : ∃ t, Dp K H x (tipD t) ∧ [t1, t2].take (i + 1) = [t1, t2].take i ++ [t] ∧ ((i = 0 ∧ t = t1) ∨ (i = 1 ∧ t = t2)) := by
  match i, hx with
  | 0, h => cases h; exact ⟨_, d1, rfl, .inl ⟨rfl, rfl⟩⟩
  | 1, h => cases h; exact ⟨_, d2, rfl, .inr ⟨rfl, rfl⟩⟩
  | i + 2, h => simp at h
theorem lexLt_spot (order : List Int) (b e : Tip) : HT.lexLt [(idx order e.1 : Nat), e.2] [(idx order b.1 : Nat), b.2] = !spotLe order b e := by
  rw [lexLt2]
  unfold spotLe
  by_cases h : idx order b.1 = idx order e.1
  · by_cases h2 : e.2 < b.2
    · have : ¬ b.2 ≤ e.2 := by omega
      simp [h, h2, this]
    · have : b.2 ≤ e.2 := by omega
      simp [h, h2, this]
  · have h' : ¬ idx order e.1 = idx order b.1 := fun z => h z.symm
    by_cases h2 : idx order e.1 < idx order b.1
    · have : ¬ idx order b.1 < idx order e.1 := by omega
      simp [h, h', h2, this]
    · have : idx order b.1 < idx order e.1 := by omega
      have hc : ¬ ((idx order e.1 : Nat) : Int) = ((idx order b.1 : Nat) : Int) := by omega
      simp [h, h', h2, this, hc]
theorem cutL_tail (x : PyData) (l : List PyData) : cutL (x :: l) (some 1) none = l := by
  unfold cutL
  rw [HT.sIx_none, show (some (1 : Int)) = some ((1 : Nat) : Int) from rfl, HT.sIx_nat]
  rw [show min 1 (x :: l).length = 1 by simp]
  simp
def isMark : De → Prop := fun d => ∃ sp, d = .mark sp
abbrev n_put_mark : List Str := ["stand", "deed", "word", "staff", "begin", "end", "thick", "number", "moment"]
theorem sc_put_mark : FnScope n_put_mark ["stand", "deed"] d_put_mark.scope := C8.fnScope_by (by decide +kernel)
theorem cal_put_mark {P : Program} {w : World} {K : PySem.W.Frag} {mg : Str → Option Value} {base : Heap} (C : Cn w K mg)  : Cal P w K mg base (L2.CX P w) 5 "put_mark" (spPut K isMark) := by
  refine C.cal 25 24 d_put_mark sc_put_mark (fun _ _ _ _ _ _ us hl => match us, hl with | [_, _], _ => rfl) (fun vs H Q E h => ?_) (fun f cdv A outer s H vs Q E hr h => ?_)
  · obtain ⟨a, c, s, N, v, d, _, _, rfl, _⟩ := h
    rfl
  have nd := sc_put_mark.nd
  refine ⟨_, (pss_cons (ps_asg (pv 1) (pg_tup rfl (pgs_cons (pg_name (i := 2) nd rfl (by first | exact Or.inl rfl | exact Or.inr rfl)) (pgs_cons (pg_name (i := 3) nd rfl (by first | exact Or.inl rfl | exact Or.inr rfl)) (pgs_cons (pg_name (i := 4) nd rfl (by first | exact Or.inl rfl | exact Or.inr rfl)) (pgs_cons (pg_name (i := 5) nd rfl (by first | exact Or.inl rfl | exact Or.inr rfl)) (pgs_cons (pg_name (i := 6) nd rfl (by first | exact Or.inl rfl | exact Or.inr rfl)) pgs_nil))))))) (pss_cons (ps_if (pt_not (pt_chain op_le op_le pe_int (pv 3) (pe_gi (C.int 86)))) (pss_one (ps_rx0 rfl (takes_of rfl rfl rfl rfl) (exn_BadStaff C) hr)) pss_nil) (pss_cons (ps_for (passes_of rfl) rfl (pi_tup (pe_tup (pa_cons (pv 4) (pa_cons (pv 5) pa_nil)))) (pg_tup rfl (pgs_cons (pg_name (i := 7) nd rfl (by first | exact Or.inl rfl | exact Or.inr rfl)) (pgs_cons (pg_name (i := 8) nd rfl (by first | exact Or.inl rfl | exact Or.inr rfl)) pgs_nil))) (pss_one (ps_expr (pe_mx (met_need_bar C) hr (takes_of rfl rfl rfl rfl) (pv 0) (pa_cons (pv 7) pa_nil))))) (pss_cons (ps_for (passes_of rfl) rfl (pi_tup (pe_tup (pa_cons (pv 4) (pa_cons (pv 5) pa_nil)))) (pg_tup rfl (pgs_cons (pg_name (i := 7) nd rfl (by first | exact Or.inl rfl | exact Or.inr rfl)) (pgs_cons (pg_name (i := 8) nd rfl (by first | exact Or.inl rfl | exact Or.inr rfl)) pgs_nil))) (pss_one (ps_if (pt_not (pt_chain op_le op_lt pe_int (pv 8) (pe_callB call_len_seq (by rfl) (C.free 67) (by decide +kernel) (pa_cons (pe_dget (hu_of hr) (pe_fld (pv 0) rfl) (pv 7) (fun _ _ => rfl)) pa_nil)))) (pss_one (ps_rx rfl (takes_of rfl rfl rfl rfl) (exn_NoMoment C) hr (pa_cons (pv 8) pa_nil))) pss_nil))) (pss_cons (ps_if (pt_cmpR (op_ltT hr.units0) (pe_m (met_spot C) hr (pv 0) (pa_cons (pv 5) pa_nil)) (pe_m (met_spot C) hr (pv 0) (pa_cons (pv 4) pa_nil)) (nomark _)) (pss_one (ps_rx0 rfl (takes_of rfl rfl rfl rfl) (exn_BadSpan C) hr)) pss_nil) (pss_cons (ps_if (pt_not (pt_chain op_le op_le pe_int (pv 6) (pe_gi (C.int 94)))) (pss_one (ps_rx0 rfl (takes_of rfl rfl rfl rfl) (exn_BadThick C) hr)) pss_nil) (pss_cons (ps_if (pt_cmpR op_ge (pe_callB call_lenD (by rfl) (C.free 67) (by decide +kernel) (pa_cons (pe_fld (pv 0) rfl) pa_nil)) (pe_gi (C.int 93)) (nomark _)) (pss_one (ps_rx0 rfl (takes_of rfl rfl rfl rfl) (exn_Full C) hr)) pss_nil) (pss_cons (ps_set (i := 7) nd rfl (by first | exact Or.inl rfl | exact Or.inr rfl) (pe_ix ix_tup (pe_fld (pv 0) rfl) pe_int (fun _ _ => rfl))) (pss_cons (ps_dput (hu_of hr) (pe_fld (pv 0) rfl) (pv 7) (pe_slice sl_tupA (pv 1) (po_some pe_int) po_none) rfl) (pss_cons (ps_fld (pv 0) (pe_tup (pa_cons (pe_ix ix_tup (pe_fld (pv 0) rfl) pe_int (fun _ _ => rfl)) (pa_cons (pe_op op_add (pv 7) pe_int) pa_nil))) rfl) (pss_one (ps_ret (pv 7))))))))))))), ?_⟩
  obtain ⟨a, c, s, N, v, d, ⟨⟨on, b, e, th⟩, rfl⟩, pl, rfl, hs, hg, hN, dv, k1, k2⟩ := h
  obtain ⟨p, vs, rfl, hp, da⟩ := dp_tup dv
  obtain ⟨v1, vs, rfl, d1, da⟩ := dpa_cons da
  obtain ⟨v2, vs, rfl, d2, da⟩ := dpa_cons da
  obtain ⟨v3, vs, rfl, d3, da⟩ := dpa_cons da
  obtain ⟨v4, vs, rfl, d4, da⟩ := dpa_cons da
  obtain ⟨v5, vs, rfl, d5, da⟩ := dpa_cons da
  cases dpa_nil da
  cases dp_int d2
  cases dp_int d5
  refine ⟨_, rfl, p, _, rfl, hp, rfl, _, _, rfl, _, _, rfl, _, _, rfl, _, _, rfl, _, _, rfl, rfl, ?_⟩
  have B := bad_mark s on b e th
  refine chainR rfl ⟨_, rfl, ite2 (fun z => ?_) (fun z => ?_)⟩
  · exact ⟨by decide, _, rfl, fun d nd => k2 _ (by rw [B, if_pos (of_decide_eq_false (not_t z))]) _ _ _ (But.refl.new nd) (ErAt.new rfl d rfl)⟩
  have f0 := of_decide_eq_true (not_f z)
  rw [if_neg (fun n => n f0)] at B
  refine ⟨_, rfl, _, rfl, by show 2 ≤ sizeLine; decide, fun q nq => ⟨q, rfl, ⟨_, SqT.of upd_same⟩, ?_⟩⟩
  have b1 : But [] H (upd H q (.tup [v3, v4])) := But.refl.new nq
  have hq : (upd H q (.tup [v3, v4])) q = some (.tup [v3, v4]) := upd_same
  generalize upd H q (.tup [v3, v4]) = H1 at b1 hq
  refine for_tup (K := K) (a := q) (xs := [v3, v4]) (D := { nx := _, rt := Q }) (fun i σ' H' => ∃ x7 x8, σ' = [some (.ref a), some (.ref p), some v1, some (.int on), some v3, some v4, some (.int th), x7, x8] ∧ But [] H1 H' ∧ ∀ t ∈ [b, e].take i, (getM s.music t.1).isSome = true) ⟨none, none, rfl, But.refl, by simp⟩ ?_ ?_ ?_
  · rintro i σ' H' _ ⟨x7, x8, rfl, bb, _⟩
    exact bb.sqT (SqT.of hq)
  · rintro i x σ' H' hx ⟨x7, x8, rfl, bb, hall⟩
    obtain ⟨t, dt, et, hc⟩ := two_get2 hx (dp_but (b1.trans bb) _ _ (tup_tip _) d3) (dp_but (b1.trans bb) _ _ (tup_tip _) d4)
    obtain ⟨r, rfl, hr'⟩ := dp_tip dt
    have hs' := hs.new (b1.trans bb)
    obtain ⟨dx, _, _, h1, _, _⟩ := id hs'.at_
    refine ⟨r, _, rfl, hr', rfl, _, _, rfl, _, _, rfl, rfl, _, rfl, a, dx, _, rfl, h1, rfl, _, rfl, a, c, s, t.1, rfl, hs'.m, fun hi => ?_, fun hi x y H2 b2 er => k2 _ ?_ _ _ _ ((b1.trans bb).trans b2) er⟩
    · refine ⟨_, _, rfl, bb, fun t' ht' => ?_⟩
      rw [et] at ht'
      rcases List.mem_append.mp ht' with ht' | ht'
      · exact hall t' ht'
      · rw [List.mem_singleton.mp ht']; exact hi
    · rcases hc with ⟨rfl, rfl⟩ | ⟨rfl, rfl⟩
      · rw [B, if_pos (isNone_t hi)]
      · rw [B, if_neg (isNone_f (hall b (by simp))), if_pos (isNone_t hi)]
  rintro σ' H' ⟨x7, x8, rfl, bb, hall⟩
  have f1 := hall b (by simp)
  have f2 := hall e (by simp)
  rw [if_neg (isNone_f f1), if_neg (isNone_f f2)] at B
  have b2 := b1.trans bb
  clear hq b1 bb
  refine ⟨_, rfl, _, rfl, by show 2 ≤ sizeLine; decide, fun q2 nq2 => ⟨q2, rfl, ⟨_, SqT.of upd_same⟩, ?_⟩⟩
  have b3 : But [] H (upd H' q2 (.tup [v3, v4])) := b2.new nq2
  have hq2 : (upd H' q2 (.tup [v3, v4])) q2 = some (.tup [v3, v4]) := upd_same
  generalize upd H' q2 (.tup [v3, v4]) = H2 at b3 hq2
  refine for_tup (K := K) (a := q2) (xs := [v3, v4]) (D := { nx := _, rt := Q }) (fun i σ' H' => ∃ x7 x8, σ' = [some (.ref a), some (.ref p), some v1, some (.int on), some v3, some v4, some (.int th), x7, x8] ∧ But [] H2 H' ∧ ∀ t ∈ [b, e].take i, tipIn s.music t = true) ⟨x7, x8, rfl, But.refl, by simp⟩ ?_ ?_ ?_
  · rintro i σ' H' _ ⟨x7, x8, rfl, bb, _⟩
    exact bb.sqT (SqT.of hq2)
  · rintro i x σ' H' hx ⟨x7, x8, rfl, bb, hall2⟩
    obtain ⟨t, dt, et, hc⟩ := two_get2 hx (dp_but (b3.trans bb) _ _ (tup_tip _) d3) (dp_but (b3.trans bb) _ _ (tup_tip _) d4)
    obtain ⟨r, rfl, hr'⟩ := dp_tip dt
    have hs' := hs.new (b3.trans bb)
    obtain ⟨ks, hk1, hk2⟩ := id hs'.cont.mu
    have hg' : DGet H' c.mu (.int t.1) (valV ks (.inl t.1)) := DGet.k (k := .inl t.1) hk1
    have hi : (getM s.music t.1).isSome = true := by
      rcases hc with ⟨_, rfl⟩ | ⟨_, rfl⟩
      · exact f1
      · exact f2
    have no : tipIn s.music t = false → bad s (.mark (on, b, e, th)) = some (eNoMoment t.2) := fun hz => by
      rcases hc with ⟨rfl, rfl⟩ | ⟨rfl, rfl⟩
      · rw [B, if_pos hz]
      · rw [B, if_neg (by rw [hall2 b (by simp)]; simp), if_pos hz]
    rcases kv_get hk2 t.1 with ⟨e1, e2⟩ | ⟨m, v, e1, e2, dm⟩
    · rw [e1] at hi; cases hi
    rw [e2] at hg'
    obtain ⟨u, us, rfl, hu, du⟩ := dp_tup dm
    have lu := dpa_length du
    rw [List.length_map] at lu
    have tI : tipIn s.music t = decide (0 ≤ t.2 ∧ t.2 < (m.length : Int)) := by unfold tipIn; rw [e1]
    refine ⟨r, _, rfl, hr', rfl, _, _, rfl, _, _, rfl, rfl, _, rfl, _, _, rfl, rfl, _, rfl, ite2 (fun e3 => fo_music C (vr rfl) hs'.m ⟨_, rfl, c.mu, _, rfl, hg', u, us, rfl, .inr hu, _, _, rfl, rfl, _, rfl, ite2 (fun e4 => ?_) (fun e4 => ?_)⟩) (fun e3 => ⟨_, rfl, ?_⟩)⟩
    · have := of_decide_eq_false (not_t e4)
      exact ⟨_, rfl, by show 1 ≤ 1000; decide, _, rfl, fun d nd => k2 _ (no (by rw [tI]; exact decide_eq_false (by omega))) _ _ _ ((b3.trans bb).new nd) (ErAt.new rfl d rfl)⟩
    · refine ⟨_, _, rfl, bb, fun t' ht' => ?_⟩
      rw [et] at ht'
      rcases List.mem_append.mp ht' with ht' | ht'
      · exact hall2 t' ht'
      · rw [List.mem_singleton.mp ht', tI]
        have h1 := of_decide_eq_true (not_f e4)
        have h2 := of_decide_eq_true e3
        exact decide_eq_true (by omega)
    · have : ¬ 0 ≤ t.2 := fun z => e3 (decide_eq_true z)
      exact ⟨_, rfl, by show 1 ≤ 1000; decide, _, rfl, fun d nd => k2 _ (no (by rw [tI]; exact decide_eq_false (by omega))) _ _ _ ((b3.trans bb).new nd) (ErAt.new rfl d rfl)⟩
  rintro σ' H3 ⟨x7', x8', rfl, bb, hall2⟩
  have f3 := hall2 b (by simp)
  have f4 := hall2 e (by simp)
  rw [if_neg (by rw [f3]; simp), if_neg (by rw [f4]; simp)] at B
  have b4 := b3.trans bb
  clear hq2 b3 bb b2
  have hs3 := hs.new b4
  have d33 := dp_but b4 _ _ (tup_tip _) d3
  have d43 := dp_but b4 _ _ (tup_tip _) d4
  have dv3 := dp_but b4 _ _ rfl dv
  obtain ⟨dx, _, _, h31, _, _⟩ := id hs3.at_
  refine ⟨_, rfl, a, dx, _, rfl, h31, rfl, _, rfl, a, c, s, v4, e, rfl, hs3.m, d43, (hg.keys _).mpr (getM_isSome.mp f2), fun p1 np1 => ?_⟩
  have b5 : But [] H3 (upd H3 p1 (.tup [.int (idx s.order e.1 : Nat), .int e.2])) := But.refl.new np1
  refine ⟨_, rfl, a, dx, _, rfl, b5.keep _ _ h31 (by simp), rfl, _, rfl, a, c, s, v3, b, rfl, hs3.m.new b5, dp_but b5 _ _ (tup_tip _) d33, (hg.keys _).mpr (getM_isSome.mp f1), fun p2 np2 => ?_⟩
  refine ⟨p1, p2, [(idx s.order e.1 : Nat), e.2], [(idx s.order b.1 : Nat), b.2], rfl, rfl, sqT_new (SqT.of upd_same) np2, SqT.of upd_same, ?_⟩
  rw [lexLt_spot]
  have b6 := (b4.trans b5).new (o := .tup [.int (idx s.order b.1 : Nat), .int b.2]) np2
  have b36 := b5.new (o := .tup [.int (idx s.order b.1 : Nat), .int b.2]) np2
  generalize upd (upd H3 p1 (.tup [.int (idx s.order e.1 : Nat), .int e.2])) p2 (.tup [.int (idx s.order b.1 : Nat), .int b.2]) = H4 at b6 b36
  refine ⟨_, rfl, ite2 (fun z => ?_) (fun z => ?_)⟩
  · exact ⟨by decide, _, rfl, fun d nd => k2 _ (by rw [B, if_pos (not_t z)]) _ _ _ (b6.new nd) (ErAt.new rfl d rfl)⟩
  have f5 := not_f z
  rw [if_neg (by rw [f5]; simp)] at B
  refine chainR rfl ⟨_, rfl, ite2 (fun z => ?_) (fun z => ?_)⟩
  · exact ⟨by decide, _, rfl, fun d nd => k2 _ (by rw [B, if_pos (of_decide_eq_false (not_t z))]) _ _ _ (b6.new nd) (ErAt.new rfl d rfl)⟩
  have f6 := of_decide_eq_true (not_f z)
  rw [if_neg (fun n => n f6)] at B
  have hs4 := hs.new b6
  obtain ⟨ks, hk1, hk2⟩ := id hs4.cont.sp
  have lk : ks.length = s.spans.length := kv_len hk2
  dsimp only [gName, tNext, tSeq, tAsg, tOp, tIfS, tTest, tCB, tCons, tNil]
  refine fo_spans C (vr rfl) hs4.m ⟨c.sp, ks, rfl, hk1, _, _, rfl, rfl, _, rfl, ite2 (fun z => ?_) (fun z => ?_)⟩
  · have z := of_decide_eq_true z
    exact ⟨by decide, _, rfl, fun d nd => k2 _ (by rw [B, if_pos (by omega)]) _ _ _ (b6.new nd) (ErAt.new rfl d rfl)⟩
  have f7 : ¬ (20 : Int) ≤ ks.length := fun y => z (decide_eq_true y)
  have few : s.spans.length < 20 := by omega
  rw [if_neg (by omega)] at B
  refine fo_fresh C (vr rfl) hs4 fun vf dvf => ?_
  obtain ⟨r, rfl, hr'⟩ := dp_tip dvf
  refine ⟨r, _, _, _, rfl, rfl, hr', rfl, ?_⟩
  refine ⟨_, rfl, _, rfl, ?_⟩
  dsimp only [tNoPart]
  refine slA_end (lo := some 1) (hi := none) (dp_but b36 _ _ rfl dv3) rfl fun v6 H5 b5' d6 => ?_
  rw [cutL_tail] at d6
  have hs5 := hs4.new b5'
  obtain ⟨ks5, hk51, hk52⟩ := id hs5.cont.sp
  refine fo_spans C (vr rfl) hs5.m ⟨_, rfl, c.sp, _, rfl, .inl ⟨ks5, .inl s.fresh.2, hk51, rfl, ?_, rfl⟩, ?_⟩
  · have e : ks5.length = s.spans.length := kv_len hk52
    rw [sizeLine_eq]; omega
  have hs6 := st_spans hs5 (kv_put hk52 (n := s.fresh.2) (x := (on, b, e, th)) d6)
  have b7 : But (mine a c) H (upd H5 c.sp (.dK (putK ks5 (.inl s.fresh.2) v6))) := ((st_nil hs).step (b6.trans b5')).old (by simp [mine])
  generalize upd H5 c.sp (.dK (putK ks5 (.inl s.fresh.2) v6)) = H6 at hs6 b7
  dsimp only [gName, tNext, tSeq, tAsg, tOp, sFld, tTup, tCons, tNil]
  refine fo_fresh C (vr rfl) hs6 fun vf6 dvf6 => ?_
  obtain ⟨r6, rfl, hr6⟩ := dp_tip dvf6
  refine ⟨r6, _, _, _, rfl, rfl, hr6, rfl, _, rfl, _, _, rfl, rfl, by show 2 ≤ sizeLine; decide, fun t nt => ?_⟩
  have hs7 := hs6.new (But.refl.new (o := .tup [.int s.fresh.1, .int (s.fresh.2 + 1)]) nt)
  have b8 := b7.step (But.refl.new (o := .tup [.int s.fresh.1, .int (s.fresh.2 + 1)]) nt)
  have dt : Dp K (upd H6 t (.tup [.int s.fresh.1, .int (s.fresh.2 + 1)])) (.ref t) (tipD (s.fresh.1, s.fresh.2 + 1)) := .tup (SqT.of upd_same) (.cons (.int _) (.cons (.int _) .nil))
  generalize upd H6 t (.tup [.int s.fresh.1, .int (s.fresh.2 + 1)]) = H7 at hs7 b8 dt
  obtain ⟨dx7, vs7, vf7, h71, h72, h73⟩ := id hs7.at_
  refine ⟨_, rfl, a, _, dx7, _, rfl, h71, C.cls 96, C.noat 103, by show 6 < 1000; decide, _, rfl, ?_⟩
  exact k1 B c _ (b8.old (by simp [mine])) .refl (st_rec hs7 h72 dt)
end Bu
set_option Elab.async false
set_option linter.all false
set_option maxRecDepth 100000
set_option maxHeartbeats 4000000
/-! The mirror: deeds keep a stand well; the program's stand and the law's. -/
namespace Bu
open PySem PySem.Spec PyProof.Rows L2
/-! ### places -/
theorem idx_app : ∀ (l1 l2 : List Int) (a : Int), idx (l1 ++ l2) a = if a ∈ l1 then idx l1 a else l1.length + idx l2 a
  | [], l2, a => by simp
  | b :: r, l2, a => by
    rw [List.cons_append]
    have i1 : ∀ l, idx (b :: l) a = if b = a then 0 else idx l a + 1 := fun l => rfl
    rw [i1, i1]
    by_cases e : b = a
    · rw [if_pos e, if_pos e, if_pos (by rw [e]; simp)]
    · rw [if_neg e, if_neg e, idx_app r l2 a]
      have : (a ∈ b :: r) ↔ a ∈ r := by
        rw [List.mem_cons]
        exact ⟨fun h => h.resolve_left fun z => e z.symm, .inr⟩
      by_cases h : a ∈ r
      · rw [if_pos h, if_pos (this.mpr h)]
      · rw [if_neg h, if_neg (fun z => h (this.mp z)), List.length_cons]; omega
theorem idx_lt_len {l : List Int} {a : Int} (h : a ∈ l) : idx l a < l.length := by
  obtain ⟨h1, _⟩ := idx_lt h
  exact (List.getElem?_eq_some_iff.mp h1).1
theorem spot_ins {l : List Int} {i n : Int} {a b : Tip} (hn : n ∉ l) (ha : a.1 ∈ l) (hb : b.1 ∈ l) : spotLe (insAt l i n) a b = spotLe l a b := by
  have key : ∀ x, x ∈ l → (idx l x < i.toNat.min l.length ∧ idx (insAt l i n) x = idx l x) ∨ (i.toNat.min l.length ≤ idx l x ∧ idx (insAt l i n) x = idx l x + 1) := by
    intro x hx
    have e : idx l x = idx (l.take i.toNat ++ l.drop i.toNat) x := by rw [List.take_append_drop]
    unfold insAt
    rw [List.append_assoc, idx_app]
    rw [idx_app] at e
    by_cases h : x ∈ l.take i.toNat
    · have := idx_lt_len h
      rw [List.length_take] at this
      rw [if_pos h] at e ⊢
      exact .inl ⟨by rw [e]; exact this, e.symm⟩
    · rw [if_neg h] at e ⊢
      rw [List.length_take] at e ⊢
      refine .inr ⟨by rw [e]; exact Nat.le_add_right _ _, ?_⟩
      show _ + idx (n :: l.drop i.toNat) x = _
      have : ¬ n = x := fun z => hn (by rw [z]; exact hx)
      rw [show idx (n :: l.drop i.toNat) x = idx (l.drop i.toNat) x + 1 by rw [idx, if_neg this], e]
      omega
  have ka := key _ ha
  have kb := key _ hb
  unfold spotLe
  generalize idx (insAt l i n) a.1 = fa at *
  generalize idx (insAt l i n) b.1 = fb at *
  generalize idx l a.1 = xa at *
  generalize idx l b.1 = xb at *
  have e1 : (fa < fb) ↔ (xa < xb) := by omega
  have e2 : (fa = fb) ↔ (xa = xb) := by omega
  simp only [e1, e2]
theorem tipIn_put {music : List (Int × Br)} {n : Int} {m : Br} {t : Tip} (h : tipIn music t = true) (hn : n ∉ music.map (·.1)) : tipIn (putM music n m) t = true := by
  unfold tipIn at h ⊢
  rw [getM_put, if_neg]
  · exact h
  · intro z
    cases e : getM music t.1 with
    | none => rw [e] at h; cases h
    | some x => exact hn (by rw [← z]; exact getM_isSome.mp (by rw [e]; rfl))
theorem tipIn_key {music : List (Int × Br)} {t : Tip} (h : tipIn music t = true) : t.1 ∈ music.map (·.1) := by
  unfold tipIn at h
  cases e : getM music t.1 with
  | none => rw [e] at h; cases h
  | some x => exact getM_isSome.mp (by rw [e]; rfl)
theorem putM_new' {α : Type} {l : List (Int × α)} {n : Int} {x : α} (h : n ∉ l.map (·.1)) : putM l n x = l ++ [(n, x)] := by
  unfold putM
  rw [if_neg]
  intro z
  obtain ⟨p, hp, e⟩ := List.any_eq_true.mp z
  exact h (List.mem_map.mpr ⟨p, hp, of_decide_eq_true e⟩)
theorem mem_putM {α : Type} {l : List (Int × α)} {n : Int} {x : α} {p : Int × α} (h : p ∈ putM l n x) : p ∈ l ∨ p = (n, x) := by
  unfold putM at h
  split at h
  · obtain ⟨q, hq, e⟩ := List.mem_map.mp h
    by_cases z : q.1 = n
    · rw [if_pos z] at e; exact .inr (by rw [← e, z])
    · rw [if_neg z] at e; exact .inl (by rw [← e]; exact hq)
  · rcases List.mem_append.mp h with h | h
    · exact .inl h
    · exact .inr (by simpa using h)
theorem keys_putM {α : Type} {l : List (Int × α)} {n : Int} {x : α} (nd : (l.map (·.1)).Nodup) : ((putM l n x).map (·.1)).Nodup := by
  by_cases h : n ∈ l.map (·.1)
  · rw [keys_put h]; exact nd
  · rw [putM_new' h, List.map_append, List.nodup_append]
    exact ⟨nd, by simp, fun a ha b hb e => h (by rw [show b = n by simpa using hb] at e; rw [← e]; exact ha)⟩
theorem nodup_filter {α : Type} {l : List (Int × α)} (f : Int × α → Bool) (nd : (l.map (·.1)).Nodup) : ((l.filter f).map (·.1)).Nodup := nd.sublist (List.filter_sublist.map _)
theorem fault_none {b : Br} (h : fault b = none) : 1 ≤ b.length ∧ b.length ≤ 6 := by
  unfold fault at h
  by_cases e : b = []
  · rw [if_pos e] at h; cases h
  · rw [if_neg e] at h
    have h0 : 0 < b.length := List.length_pos_iff.mpr e
    cases e2 : firstBad (b.take 6) 0 with
    | some i => rw [e2] at h; cases h
    | none =>
      rw [e2] at h
      dsimp only at h
      by_cases e3 : 6 < b.length
      · rw [if_pos e3] at h; cases h
      · exact ⟨h0, by omega⟩
theorem faultE_none {b : Br} (h : faultE b = none) : fault b = none := by
  unfold faultE at h
  cases e : fault b with
  | none => rfl
  | some i => rw [e] at h; cases h
theorem len_insAt (l : List Int) (i n : Int) : (insAt l i n).length = l.length + 1 := by
  unfold insAt
  rw [List.length_append, List.length_append, List.length_take, List.length_drop, List.length_singleton]
  omega
theorem nodup_ins {l : List Int} {i n : Int} (h : n ∉ l) (nd : l.Nodup) : (insAt l i n).Nodup := by
  have nd' := nd
  rw [← List.take_append_drop i.toNat l, List.nodup_append] at nd'
  obtain ⟨h1, h2, h3⟩ := nd'
  unfold insAt
  rw [List.append_assoc, List.nodup_append]
  refine ⟨h1, ?_, fun a ha b hb => ?_⟩
  · show (n :: l.drop i.toNat).Nodup
    exact List.nodup_cons.mpr ⟨fun z => h (List.mem_of_mem_drop z), h2⟩
  · rcases List.mem_cons.mp hb with rfl | hb
    · exact fun z => h (by rw [← z]; exact List.mem_of_mem_take ha)
    · exact h3 a ha b hb
theorem Sta.Good.mono {s : Sta} {N M : Int} (g : s.Good N) (h : N ≤ M) : s.Good M :=
  { g with fr1 := ⟨g.fr1.1, Int.le_trans g.fr1.2 h⟩, fr2 := ⟨g.fr2.1, Int.le_trans g.fr2.2 h⟩ }
theorem getM_key {α : Type} {l : List (Int × α)} {n : Int} (h : ¬ (getM l n).isNone = true) : n ∈ l.map (·.1) := getM_isSome.mp (by cases e : getM l n with
  | none => rw [e] at h; exact absurd rfl h
  | some x => rfl)
/-- what a sweep leaves of anything well kept but for its marks -/
theorem good_sweep {s : Sta} {N : Int} (keys : ∀ n, n ∈ s.order ↔ n ∈ s.music.map (·.1)) (nd : s.order.Nodup) (few : s.order.length ≤ 12) (nos : ∀ n ∈ s.order, 0 < n ∧ n < s.fresh.1) (fr1 : 0 < s.fresh.1 ∧ s.fresh.1 ≤ N) (fr2 : 0 < s.fresh.2 ∧ s.fresh.2 ≤ N)
    (bars : ∀ p ∈ s.music, Br.ok p.2 ∧ 1 ≤ p.2.length ∧ p.2.length ≤ 6) (mnd : (s.music.map (·.1)).Nodup) (snd : (s.spans.map (·.1)).Nodup) (sfew : s.spans.length ≤ 20) (snos : ∀ n ∈ s.spans.map (·.1), 0 < n ∧ n < s.fresh.2)
    (bnd : ∀ p ∈ s.bound, p.1 ∈ s.order ∧ p.2 ∈ (["must", "never", "free"] : List Str)) (bnn : (s.bound.map (·.1)).Nodup) (sh : s.sheet.length = 5) : (sweep s).Good N :=
  ⟨keys, nd, few, nos, fr1, fr2, bars, mnd, nodup_filter _ snd, Nat.le_trans (List.length_filter_le _ _) sfew, fun n hn => by
    obtain ⟨p, hp, rfl⟩ := List.mem_map.mp hn
    exact snos _ (List.mem_map.mpr ⟨p, (List.mem_filter.mp hp).1, rfl⟩), fun p hp => (List.mem_filter.mp hp).2, bnd, bnn, sh⟩
theorem put_good {fl : Bool} {s : Sta} {N : Int} {d : De} (g : s.Good N) (pl : Plain d) (hb : bad s d = none) : (put fl s d).1.Good (N + 1) := by
  have fr1 := g.fr1
  have fr2 := g.fr2
  have g1 := g.mono (M := N + 1) (by omega)
  cases d with
  | odd ds => exact g1
  | many l => exact g1
  | bar i m =>
    rw [bad_bar] at hb
    split at hb
    · cases hb
    rename_i hi
    split at hb
    · cases hb
    rename_i hf
    split at hb
    · cases hb
    rename_i hlen
    obtain ⟨f1, f2⟩ := fault_none (faultE_none hf)
    have nf : s.fresh.1 ∉ s.order := fun z => by have := g.nos _ z; omega
    have nm : s.fresh.1 ∉ s.music.map (·.1) := fun z => nf ((g.keys _).mpr z)
    refine ⟨fun n => ?_, nodup_ins nf g.nd, ?_, fun n hn => ?_, ?_, ?_, fun p hp => ?_, keys_putM g.mnd, g.snd, g.sfew, g.snos, fun p hp => ?_, fun p hp => ?_, g.bnn, g.sh⟩
    · show n ∈ insAt s.order i s.fresh.1 ↔ n ∈ (putM s.music s.fresh.1 m).map (·.1)
      rw [mem_insAt, putM_new' nm, List.map_append, List.mem_append, ← g.keys n]
      simp [or_comm]
    · show (insAt s.order i s.fresh.1).length ≤ 12
      rw [len_insAt]; omega
    · rcases mem_insAt.mp (show n ∈ insAt s.order i s.fresh.1 from hn) with rfl | hn
      · show 0 < s.fresh.1 ∧ s.fresh.1 < s.fresh.1 + 1
        omega
      · have := g.nos n hn
        show 0 < n ∧ n < s.fresh.1 + 1
        omega
    · show 0 < s.fresh.1 + 1 ∧ s.fresh.1 + 1 ≤ N + 1
      omega
    · show 0 < s.fresh.2 ∧ s.fresh.2 ≤ N + 1
      omega
    · rcases mem_putM hp with hp | rfl
      · exact g.bars p hp
      · exact ⟨pl.1, f1, f2⟩
    · have l0 := g.lie p hp
      unfold lies at l0
      rw [Bool.and_eq_true, Bool.and_eq_true] at l0
      obtain ⟨l1, l2, l3⟩ := l0
      show lies (insAt s.order i s.fresh.1) (putM s.music s.fresh.1 m) p.2 = true
      unfold lies
      rw [tipIn_put l1 nm, tipIn_put l2 nm, spot_ins nf ((g.keys _).mpr (tipIn_key l1)) ((g.keys _).mpr (tipIn_key l2)), l3]; rfl
    · have := g.bnd p hp
      exact ⟨mem_insAt.mpr (.inr this.1), this.2⟩
  | change n m =>
    rw [bad_change] at hb
    split at hb
    · cases hb
    rename_i hn
    obtain ⟨f1, f2⟩ := fault_none (faultE_none hb)
    have hk := getM_key hn
    refine good_sweep (s := { s with music := putM s.music n m }) (fun k => ?_) g.nd g.few g.nos g1.fr1 g1.fr2 (fun p hp => ?_) (keys_putM g.mnd) g.snd g.sfew g.snos g.bnd g.bnn g.sh
    · show k ∈ s.order ↔ k ∈ (putM s.music n m).map (·.1)
      rw [keys_put hk]; exact g.keys k
    · rcases mem_putM hp with hp | rfl
      · exact g.bars p hp
      · exact ⟨pl.2.1, f1, f2⟩
  | cut n =>
    refine good_sweep (s := { s with order := s.order.erase n, music := dropM s.music n, bound := dropM s.bound n }) (fun k => ?_) (g.nd.erase n) (Nat.le_trans List.length_erase_le g.few) (fun k hk => g.nos k (List.mem_of_mem_erase hk)) g1.fr1 g1.fr2 (fun p hp => g.bars p (List.mem_filter.mp hp).1) (nodup_filter _ g.mnd) g.snd g.sfew g.snos (fun p hp => ?_) (nodup_filter _ g.bnn) g.sh
    · show k ∈ s.order.erase n ↔ k ∈ (dropM s.music n).map (·.1)
      rw [keys_drop, g.nd.mem_erase_iff, g.keys k]
    · obtain ⟨h1, h2⟩ := List.mem_filter.mp hp
      have := g.bnd p h1
      exact ⟨g.nd.mem_erase_iff.mpr ⟨of_decide_eq_true h2, this.1⟩, this.2⟩
  | move n i =>
    rw [bad_move] at hb
    split at hb
    · cases hb
    rename_i hn
    have ho : n ∈ s.order := (g.keys n).mpr (getM_key hn)
    have mem : ∀ k, k ∈ insAt (s.order.erase n) i n ↔ k ∈ s.order := fun k => by
      rw [mem_insAt, g.nd.mem_erase_iff]
      constructor
      · rintro (rfl | h)
        · exact ho
        · exact h.2
      · intro h
        by_cases z : k = n
        · exact .inl z
        · exact .inr ⟨z, h⟩
    refine good_sweep (s := { s with order := insAt (s.order.erase n) i n }) (fun k => (mem k).trans (g.keys k)) (nodup_ins (fun z => (g.nd.mem_erase_iff.mp z).1 rfl) (g.nd.erase n)) ?_ (fun k hk => g.nos k ((mem k).mp hk)) g1.fr1 g1.fr2 g.bars g.mnd g.snd g.sfew g.snos (fun p hp => ⟨(mem _).mpr (g.bnd p hp).1, (g.bnd p hp).2⟩) g.bnn g.sh
    show (insAt (s.order.erase n) i n).length ≤ 12
    have := List.length_erase_of_mem ho
    have : 0 < s.order.length := List.length_pos_of_mem ho
    have := g.few
    rw [len_insAt]; omega
  | mark sp =>
    obtain ⟨on, b, e, th⟩ := sp
    rw [bad_mark] at hb
    split at hb <;> first | (cases hb; done) | skip
    split at hb <;> first | (cases hb; done) | skip
    split at hb <;> first | (cases hb; done) | skip
    split at hb <;> first | (cases hb; done) | skip
    rename_i t1
    split at hb <;> first | (cases hb; done) | skip
    rename_i t2
    split at hb <;> first | (cases hb; done) | skip
    rename_i t3
    split at hb <;> first | (cases hb; done) | skip
    split at hb <;> first | (cases hb; done) | skip
    rename_i t4
    have nf : s.fresh.2 ∉ s.spans.map (·.1) := fun z => by have := g.snos _ z; omega
    refine ⟨g.keys, g.nd, g.few, g.nos, g1.fr1, ?_, g.bars, g.mnd, keys_putM g.snd, ?_, fun n hn => ?_, fun p hp => ?_, g.bnd, g.bnn, g.sh⟩
    · show 0 < s.fresh.2 + 1 ∧ s.fresh.2 + 1 ≤ N + 1
      omega
    · show (putM s.spans s.fresh.2 (on, b, e, th)).length ≤ 20
      rw [putM_new' nf, List.length_append, List.length_singleton]; omega
    · have hn : n ∈ (putM s.spans s.fresh.2 (on, b, e, th)).map (·.1) := hn
      show 0 < n ∧ n < s.fresh.2 + 1
      rw [putM_new' nf, List.map_append, List.mem_append] at hn
      rcases hn with hn | hn
      · have := g.snos n hn
        omega
      · have : n = s.fresh.2 := by simpa using hn
        omega
    · rcases mem_putM hp with hp | rfl
      · exact g.lie p hp
      · show lies s.order s.music (on, b, e, th) = true
        unfold lies
        dsimp only
        rw [Bool.of_not_eq_false t1, Bool.of_not_eq_false t2, Bool.of_not_eq_false t3]; rfl
  | wipe n => exact { g1 with snd := nodup_filter _ g.snd, sfew := Nat.le_trans (List.length_filter_le _ _) g.sfew, snos := fun k hk => (by
      obtain ⟨p, hp, rfl⟩ := List.mem_map.mp hk
      exact g.snos _ (List.mem_map.mpr ⟨p, (List.mem_filter.mp hp).1, rfl⟩)), lie := fun p hp => g.lie p (List.mem_filter.mp hp).1 }
  | fin n x =>
    rw [bad_fin] at hb
    split at hb
    · cases hb
    rename_i hn
    split at hb
    · cases hb
    rename_i hx
    have ho : n ∈ s.order := (g.keys n).mpr (getM_key hn)
    have hx : x ∈ (["must", "never", "free"] : List Str) := Classical.byContradiction hx
    have b1 : ∀ p ∈ putM s.bound n x, p.1 ∈ s.order ∧ p.2 ∈ (["must", "never", "free"] : List Str) := fun p hp => by
      rcases mem_putM hp with hp | rfl
      · exact g.bnd p hp
      · exact ⟨ho, hx⟩
    show Sta.Good { s with bound := if fl = false ∧ x = "free" then dropM (putM s.bound n x) n else putM s.bound n x } (N + 1)
    split
    · exact { g1 with bnd := fun p hp => b1 p (List.mem_filter.mp hp).1, bnn := nodup_filter _ (keys_putM g.bnn) }
    · exact { g1 with bnd := b1, bnn := keys_putM g.bnn }
  | paper sh => exact { g1 with sh := pl }
/-! ### the program's stand and the law's -/
structure Rel (p m : Sta) : Prop where
  order : p.order = m.order
  music : p.music = m.music
  spans : p.spans = m.spans
  sheet : p.sheet = m.sheet
  fresh : p.fresh = m.fresh
  bd : ∀ n, boundOf p n = boundOf m n
theorem Rel.refl (s : Sta) : Rel s s := ⟨rfl, rfl, rfl, rfl, rfl, fun _ => rfl⟩
theorem bad_rel {p m : Sta} (r : Rel p m) (d : De) : bad p d = bad m d := by
  obtain ⟨po, pm, ps, pb, psh, pf⟩ := p
  obtain ⟨mo, mm, ms, mb, msh, mf⟩ := m
  obtain ⟨e1, e2, e3, e4, e5, bd⟩ := r
  cases e1; cases e2; cases e3; cases e4; cases e5
  cases d with
  | fin n x =>
    rw [bad_fin, bad_fin]
    rw [bd n]
  | _ => rfl
theorem put_rel {p m : Sta} (r : Rel p m) (d : De) : Rel (put false p d).1 (put true m d).1 ∧ (put false p d).2 = (put true m d).2 := by
  obtain ⟨po, pm, ps, pb, psh, pf⟩ := p
  obtain ⟨mo, mm, ms, mb, msh, mf⟩ := m
  obtain ⟨e1, e2, e3, e4, e5, bd⟩ := r
  cases e1; cases e2; cases e3; cases e4; cases e5
  have bd : ∀ n, (getM pb n).getD "free" = (getM mb n).getD "free" := bd
  cases d with
  | cut n =>
    refine ⟨⟨rfl, rfl, rfl, rfl, rfl, fun k => ?_⟩, rfl⟩
    show (getM (dropM pb n) k).getD "free" = (getM (dropM mb n) k).getD "free"
    rw [getM_drop, getM_drop]
    split
    · rfl
    · exact bd k
  | fin n x =>
    refine ⟨⟨rfl, rfl, rfl, rfl, rfl, fun k => ?_⟩, rfl⟩
    show (getM (if false = false ∧ x = "free" then dropM (putM pb n x) n else putM pb n x) k).getD "free" = (getM (if true = false ∧ x = "free" then dropM (putM mb n x) n else putM mb n x) k).getD "free"
    rw [if_neg (show ¬ (true = false ∧ x = "free") from fun z => by cases z.1), getM_put]
    by_cases hx : x = "free"
    · rw [if_pos ⟨rfl, hx⟩, getM_drop, getM_put]
      by_cases hk : k = n
      · rw [if_pos hk, if_pos hk, hx]; rfl
      · rw [if_neg hk, if_neg hk, if_neg hk]; exact bd k
    · rw [if_neg (fun z => hx z.2), getM_put]
      by_cases hk : k = n
      · rw [if_pos hk, if_pos hk]
      · rw [if_neg hk, if_neg hk]; exact bd k
  | _ => exact ⟨⟨rfl, rfl, rfl, rfl, rfl, bd⟩, rfl⟩
/-- answers of both alike -/
inductive Alike {α : Type} (N : Int) : Except Er (Sta × α) → Except Er (Sta × α) → Prop
  | err (e : Er) : Alike N (.error e) (.error e)
  | ok {p m : Sta} (t : α) (r : Rel p m) (gp : p.Good N) (gm : m.Good N) : Alike N (.ok (p, t)) (.ok (m, t))
theorem one_alike {p m : Sta} {N : Int} {d : De} (r : Rel p m) (gp : p.Good N) (gm : m.Good N) (pl : Plain d) : Alike (N + 1) (one false p d) (one true m d) := by
  unfold one
  rw [bad_rel r d]
  cases e : bad m d with
  | some x => exact .err x
  | none =>
    obtain ⟨r1, t⟩ := put_rel r d
    show Alike (N + 1) (.ok (put false p d)) (.ok (put true m d))
    have e1 : put false p d = ((put false p d).1, (put false p d).2) := rfl
    have e2 : put true m d = ((put true m d).1, (put false p d).2) := by rw [t]
    rw [e1, e2]
    exact .ok _ r1 (put_good gp pl ((bad_rel r d).trans e)) (put_good gm pl e)
theorem fold_alike : ∀ {l : List De} {p m : Sta} {N : Int}, Rel p m → p.Good N → m.Good N → (∀ d ∈ l, Plain d) → Alike (N + l.length) (foldD false p l) (foldD true m l)
  | [], p, m, N, r, gp, gm, _ => .ok [] r (gp.mono (by simp)) (gm.mono (by simp))
  | d :: l, p, m, N, r, gp, gm, pl => by
    unfold foldD
    have o := one_alike r gp gm (pl d (by simp))
    generalize one false p d = x at o
    generalize one true m d = y at o
    cases o with
    | err e => exact .err e
    | @ok p1 m1 t r1 gp1 gm1 =>
      dsimp only
      have o2 := fold_alike (l := l) r1 gp1 gm1 fun d' hd => pl d' (List.mem_cons_of_mem _ hd)
      have e : N + 1 + (l.length : Int) = N + ((d :: l).length : Int) := by rw [List.length_cons]; omega
      rw [e] at o2
      generalize foldD false p1 l = x2 at o2
      generalize foldD true m1 l = y2 at o2
      cases o2 with
      | err e => exact .err e
      | ok t2 r2 gp2 gm2 => exact .ok _ r2 gp2 gm2
def toldX (x : Except Er (Sta × Option Int)) : Except Er (Sta × PyData) := match x with
  | .error e => .error e
  | .ok (s', t) => .ok (s', tellD t)
theorem told_alike {x y : Except Er (Sta × Option Int)} {N : Int} (o : Alike (N + 1) x y) : Alike (N + 100) (toldX x) (toldX y) := by
  cases o with
  | err e => exact .err e
  | ok t r1 g1 g2 => exact .ok _ r1 (g1.mono (by omega)) (g2.mono (by omega))
theorem apply_plain {fl : Bool} {s : Sta} {d : De} (h : formless d = false) (h2 : isMany d = false) : applyD fl s d = toldX (one fl s d) := by
  cases d <;> first | rfl | (cases h; done) | (cases h2; done)
theorem apply_alike {p m : Sta} {N : Int} {d : De} (r : Rel p m) (gp : p.Good N) (gm : m.Good N) (h : Deed d) : Alike (N + 100) (applyD false p d) (applyD true m d) := by
  cases d with
  | odd ds => exact .err _
  | many l =>
    have e1 : ∀ fl s, applyD fl s (.many l) = if l = [] ∨ (l.any fun d => formless d || isMany d) = true then .error eDeed else match foldD fl s l with
        | .error e => .error e
        | .ok (s', ts) => .ok (s', .list (ts.map tellD)) := fun _ _ => rfl
    rw [e1, e1]
    by_cases z : l = [] ∨ (l.any fun d => formless d || isMany d) = true
    · rw [if_pos z, if_pos z]; exact .err _
    · rw [if_neg z, if_neg z]
      have pl : ∀ d ∈ l, Plain d := fun d hd => by
        rcases h.2 d hd with h' | rfl | rfl
        · exact h'
        · exact absurd (.inr (List.any_eq_true.mpr ⟨_, hd, rfl⟩)) z
        · exact absurd (.inr (List.any_eq_true.mpr ⟨_, hd, rfl⟩)) z
      have o := fold_alike r gp gm pl
      generalize foldD false p l = x at o
      generalize foldD true m l = y at o
      have hl := h.1
      cases o with
      | err e => exact .err e
      | ok t r1 g1 g2 => exact .ok _ r1 (g1.mono (by omega)) (g2.mono (by omega))
  | _ =>
    rw [apply_plain rfl rfl, apply_plain rfl rfl]
    exact told_alike (one_alike r gp gm h)
end Bu
set_option Elab.async false
set_option linter.all false
set_option maxRecDepth 100000
set_option maxHeartbeats 4000000
/-! The tables; what a deed must be. -/
namespace Bu
open PySem PySem.Spec PyProof.Rows L2
section
variable {w : World} {K : PySem.W.Frag} {mg : Str → Option Value}
theorem Cn.facts (C : Cn w K mg) : (He.valsB K (He.ga K "DEEDS") dvD = true ∧ He.valsB K (He.ga K "SIZES") dvS = true) ∧ (PySem.W.nsIn K (He.ga K "SIZES") "strike" = some none ∧ PySem.W.findIn K (.ref (He.ga K "Shop")) "__bool__" = some none ∧ PySem.W.findIn K (.ref (He.ga K "Shop")) "__ne__" = some (some (.builtin "object.__ne__")) ∧ PySem.W.mroIn K (He.ga K "Shop") (.type "object") = some true ∧ insB K = true) := by
  have m := C.more
  unfold exB at m
  simp only [Bool.and_eq_true, decide_eq_true_eq] at m
  obtain ⟨_, _, _, _, _, m1, m2, m3, m4, m5, m6, m7⟩ := m
  exact ⟨⟨m1, m2⟩, m3, m4, m5, m6, m7.1⟩
theorem Cn.tabNe (C : Cn w K mg) : (He.cT K ("law", none)).2 ≠ (He.cT K ("_law_one_by_one", none)).2 := by
  have m := C.more
  unfold exB at m
  simp only [Bool.and_eq_true, decide_eq_true_eq] at m
  obtain ⟨_, _, _, _, _, m1, m2, m3, m4, m5, m6, m7⟩ := m
  exact of_decide_eq_true m7.2
theorem Cn.sizes (C : Cn w K mg) : ∃ es n, KDict K w (He.ga K "SIZES") es n := by
  have h := C.says
  have h2 : (ts.map fun t => He.dicW K (t.1 K)) = ts.map fun t => some (He.keysIn w.params t.2) := congrArg Prod.snd h
  have h3 : [He.dicW K (He.ga K "DEEDS"), He.dicW K (He.ga K "SIZES")] = [some (He.keysIn w.params dks), some (He.keysIn w.params dks)] := h2
  injection h3 with _ h4
  injection h4 with h5 _
  exact He.dicW_ok h5
theorem Cn.deeds (C : Cn w K mg) : ∃ es n, KDict K w (He.ga K "DEEDS") es n := by
  have h := C.says
  have h2 : (ts.map fun t => He.dicW K (t.1 K)) = ts.map fun t => some (He.keysIn w.params t.2) := congrArg Prod.snd h
  have h3 : [He.dicW K (He.ga K "DEEDS"), He.dicW K (He.ga K "SIZES")] = [some (He.keysIn w.params dks), some (He.keysIn w.params dks)] := h2
  injection h3 with h4 _
  exact He.dicW_ok h4
theorem Cn.size (C : Cn w K mg) {x : Str} {v : He.Dv} (h : (x, v) ∈ dvS) : KDct K w (He.ga K "SIZES") x (v.v K) ∧ (He.ga K "SIZES" == sysModules) = false := by
  obtain ⟨es, n, h1, h2, h3⟩ := C.sizes
  obtain ⟨u, e, r⟩ := He.valsB_ok C.facts.1.2 h
  exact ⟨⟨es, n, u, h1, h2, e, r⟩, h3⟩
theorem Cn.deed (C : Cn w K mg) {x : Str} {v : He.Dv} (h : (x, v) ∈ dvD) : KDct K w (He.ga K "DEEDS") x (v.v K) := by
  obtain ⟨es, n, h1, h2, h3⟩ := C.deeds
  obtain ⟨u, e, r⟩ := He.valsB_ok C.facts.1.1 h
  exact ⟨es, n, u, h1, h2, e, r⟩
theorem Cn.strike (C : Cn w K mg) : KMiss K w (He.ga K "SIZES") "strike" := by
  obtain ⟨es, n, h1, h2, h3⟩ := C.sizes
  exact ⟨es, n, h1, h2, h3, C.facts.2.1⟩
end
end Bu
set_option Elab.async false
set_option linter.all false
set_option maxRecDepth 100000
set_option maxHeartbeats 4000000
/-! What a deed must be. -/
namespace Bu
open PySem PySem.Spec PyProof.Rows L2
def spForm (K : PySem.W.Frag) : Sp := fun vs H Q E => ∃ (v : V) (d : De), vs = [v] ∧ Deed d ∧ Dp K H v d.toD ∧ (formless d = false → Q .non H) ∧ (formless d = true → ∀ x y H', But [] H H' → ErAt K eDeed x y H' → E x y H')
abbrev n_need_form : List Str := ["deed"]
theorem sc_need_form : FnScope n_need_form ["deed"] d_need_form.scope := C8.fnScope_by (by decide +kernel)
theorem cal_need_form {P : Program} {w : World} {K : PySem.W.Frag} {mg : Str → Option Value} {base : Heap} (C : Cn w K mg)  : Cal P w K mg base (L2.CX P w) 4 "need_form" (spForm K) := by
  refine C.cal 30 29 d_need_form sc_need_form (fun _ _ _ _ _ _ us hl => match us, hl with | [_], _ => rfl) (fun vs H Q E h => ?_) (fun f cdv A outer s H vs Q E hr h => ?_)
  · obtain ⟨v, d, rfl, _⟩ := h
    rfl
  have nd := sc_need_form.nd
  refine ⟨_, (pss_one (ps_if (PW.pt (pw_or (pt_cmpR op_eq (pe_callB call_len_seq (by rfl) (C.free 67) (by decide +kernel) (pa_cons (pv 0) pa_nil)) pe_int (nomark _)) (pw_or1 (pt_cmpR op_ne (pe_callB call_len_seq (by rfl) (C.free 67) (by decide +kernel) (pa_cons (pv 0) pa_nil)) (pe_kget (pe_gi (v := .ref (He.ga K "SIZES")) ⟨_, C.glo 66, rfl⟩) (pe_ix ix_tup (pv 0) pe_int (fun _ _ => rfl)) pe_int ⟨rfl, rfl, rfl, rfl⟩) (nomark _))))) (pss_one (ps_rx0 rfl (takes_of rfl rfl rfl rfl) (exn_BadDeed C) hr)) pss_nil)), ?_⟩
  obtain ⟨v, d, rfl, hd, dv, k1, k2⟩ := h
  obtain ⟨ds, eds⟩ : ∃ ds, d.toD = .tuple ds := by cases d <;> exact ⟨_, rfl⟩
  rw [eds] at dv
  obtain ⟨p, vs, rfl, hp, da⟩ := dp_tup dv
  have lv := dpa_length da
  have no : formless d = true → E (.ref (He.ga K "BadDeed")) = E (.ref (He.ga K "BadDeed")) := fun _ => rfl
  refine ⟨_, rfl, p, vs, rfl, .inr hp, rfl, _, rfl, ite2 (fun e => ?_) (fun e => ?_)⟩
  · have e := V.int.inj (of_decide_eq_true e)
    have hf : formless d = true := by
      cases d <;> first | rfl | (cases eds; simp only [List.length_cons] at lv; omega)
    exact ⟨by decide, _, rfl, fun d nd => k2 hf _ _ _ (But.refl.new nd) (ErAt.new rfl d rfl)⟩
  have le : ds ≠ [] := fun z => by
    refine e (decide_eq_true ?_)
    rw [lv, z]; rfl
  obtain ⟨x, rest, m, rfl, hz, hm⟩ : ∃ (x : Str) (rest : List PyData) (m : Int), ds = .str x :: rest ∧ ((KDct K w (He.ga K "SIZES") x (.int m) ∧ (He.ga K "SIZES" == sysModules) = false) ∨ (KMiss K w (He.ga K "SIZES") x ∧ m = 0)) ∧ (((ds.length : Nat) : Int) = m ↔ formless d = false) := by
    cases d with
    | odd l =>
      have hd : OddOk l := hd
      cases eds
      rcases hd with rfl | rfl | rfl | ⟨n, rfl⟩
      · exact absurd rfl le
      · exact ⟨_, _, 2, rfl, .inl (C.size (x := "cut") (v := .int 2) (by simp [dvS])), by simp [formless]⟩
      · exact ⟨_, _, 0, rfl, .inr ⟨C.strike, rfl⟩, by simp [formless]⟩
      · exact ⟨_, _, 2, rfl, .inl (C.size (x := "cut") (v := .int 2) (by simp [dvS])), by simp [formless]⟩
    | bar => cases eds; exact ⟨_, _, 3, rfl, .inl (C.size (x := "bar") (v := .int 3) (by simp [dvS])), by simp [formless]⟩
    | change => cases eds; exact ⟨_, _, 3, rfl, .inl (C.size (x := "change") (v := .int 3) (by simp [dvS])), by simp [formless]⟩
    | cut => cases eds; exact ⟨_, _, 2, rfl, .inl (C.size (x := "cut") (v := .int 2) (by simp [dvS])), by simp [formless]⟩
    | move => cases eds; exact ⟨_, _, 3, rfl, .inl (C.size (x := "move") (v := .int 3) (by simp [dvS])), by simp [formless]⟩
    | mark => cases eds; exact ⟨_, _, 5, rfl, .inl (C.size (x := "mark") (v := .int 5) (by simp [dvS])), by simp [formless]⟩
    | wipe => cases eds; exact ⟨_, _, 2, rfl, .inl (C.size (x := "wipe") (v := .int 2) (by simp [dvS])), by simp [formless]⟩
    | fin => cases eds; exact ⟨_, _, 3, rfl, .inl (C.size (x := "end") (v := .int 3) (by simp [dvS])), by simp [formless]⟩
    | paper sh => cases eds; exact ⟨_, _, 6, rfl, .inl (C.size (x := "paper") (v := .int 6) (by simp [dvS])), by have hd : sh.length = 5 := hd; simp [formless, hd]⟩
    | many => cases eds; exact ⟨_, _, 2, rfl, .inl (C.size (x := "many") (v := .int 2) (by simp [dvS])), by simp [formless]⟩
  obtain ⟨v1, ws, rfl, d1, _⟩ := dpa_cons da
  cases dp_str d1
  have fin : ∀ b : Bool, b = (!decide (V.int (((V.str x :: ws).length : Nat) : Int) = V.int m)) → (if b = true then tMkX (He.ga K "BadDeed") (fs0 "bad deed") tNil (L2.start n_need_form [V.ref p]) H (fun cls d H' => E cls d H') else Q V.non H) := fun b hb => by
    by_cases q : ((((V.str x :: ws).length : Nat) : Int)) = m
    · rw [hb, q]
      simp only [decide_true, Bool.not_true, Bool.false_eq_true, if_false]
      exact k1 (hm.mp (by rw [← lv]; exact q))
    · rw [hb, decide_eq_false (fun z => q (V.int.inj z))]
      simp only [Bool.not_false, if_true]
      refine ⟨by decide, _, rfl, fun d' nd' => k2 ?_ _ _ _ (But.refl.new nd') (ErAt.new rfl d' rfl)⟩
      cases hf : formless d with
      | true => rfl
      | false => exact absurd (by rw [lv]; exact hm.mpr hf) q
  have some1 : ∃ z v, KDct K w (He.ga K "SIZES") z v := ⟨_, _, (C.size (x := "cut") (v := .int 2) (by simp [dvS])).1⟩
  rcases hz with ⟨z1, z2⟩ | ⟨z1, rfl⟩
  · exact ⟨_, rfl, p, _, rfl, .inr hp, _, rfl, some1, _, rfl, p, _, _, _, rfl, rfl, hp, atI_nat (j := 0) rfl, x, rfl, .inl ⟨_, z1, z2, rfl, _, rfl, fin _ rfl⟩⟩
  · exact ⟨_, rfl, p, _, rfl, .inr hp, _, rfl, some1, _, rfl, p, _, _, _, rfl, rfl, hp, atI_nat (j := 0) rfl, x, rfl, .inr ⟨z1, rfl, _, rfl, fin _ rfl⟩⟩
end Bu
set_option Elab.async false
set_option linter.all false
set_option maxRecDepth 100000
set_option maxHeartbeats 4000000
/-! need_deed, done. -/
namespace Bu
open PySem PySem.Spec PyProof.Rows L2
theorem de_word {d : De} (hf : formless d = false) : ∃ (x : Str) (rest : List PyData), d.toD = .tuple (.str x :: rest) ∧ (x = "many" ↔ isMany d = true) := by
  cases d with
  | odd l => cases hf
  | many l => exact ⟨_, _, rfl, by simp [isMany]⟩
  | _ => exact ⟨_, _, rfl, by simp only [isMany]; decide⟩
theorem part_deed {d : De} (h : Plain d ∨ d = .many [.cut 1] ∨ d = .many []) : Deed d := by
  rcases h with h | rfl | rfl
  · exact h.deed
  · refine ⟨by decide, fun d hd => ?_⟩
    rw [show d = .cut 1 by simpa using hd]
    exact .inl (show (1 : Int).natAbs < 2 ^ 60 by decide)
  · exact ⟨by decide, fun d hd => absurd hd (by simp)⟩
theorem tup_cons (d : PyData) (ds : List PyData) : tupDs (d :: ds) = (tupD d && tupDs ds) := rfl
theorem tup_tuple (ds : List PyData) : tupD (.tuple ds) = tupDs ds := rfl
theorem tup_plain {d : De} (h : Plain d) : tupD d.toD = true := by
  cases d with
  | bar i m => show tupDs [.str "bar", .int i, brD m] = true; rw [tup_cons, tup_cons, tup_cons, tup_br]; rfl
  | change i m => show tupDs [.str "change", .int i, brD m] = true; rw [tup_cons, tup_cons, tup_cons, tup_br]; rfl
  | paper sh => show tupDs (.str "paper" :: sh.map .int) = true; rw [tup_cons, tup_ints]; rfl
  | odd l =>
    rcases (h : OddOk l) with rfl | rfl | rfl | ⟨n, rfl⟩ <;> rfl
  | many l => exact h.elim
  | _ => rfl
theorem tup_de {d : De} (h : Deed d) : tupD d.toD = true := by
  cases d with
  | many l =>
    show tupDs [.str "many", .tuple (De.toDs l)] = true
    rw [tup_cons, tup_cons, tup_tuple, toDs_eq]
    rw [tup_of fun x hx => by
      obtain ⟨d, hd, rfl⟩ := List.mem_map.mp hx
      rcases h.2 d hd with h | rfl | rfl
      · exact tup_plain h
      · rfl
      · rfl]
    rfl
  | _ => exact tup_plain h
def badForm : De → Bool
  | .odd _ => true
  | .many l => l.isEmpty || l.any fun d => formless d || isMany d
  | _ => false
def spNeedD (K : PySem.W.Frag) : Sp := fun vs H Q E => ∃ (v : V) (d : De), vs = [v] ∧ Deed d ∧ Dp K H v d.toD ∧ (badForm d = false → ∀ H', But [] H H' → Q .non H') ∧ (badForm d = true → ∀ x y H', But [] H H' → ErAt K eDeed x y H' → E x y H')
abbrev n_need_deed : List Str := ["deed", "within", "one"]
theorem sc_need_deed : FnScope n_need_deed ["deed"] d_need_deed.scope := C8.fnScope_by (by decide +kernel)
theorem cal_need_deed {P : Program} {w : World} {K : PySem.W.Frag} {mg : Str → Option Value} {base : Heap} (C : Cn w K mg)  : Cal P w K mg base (L2.CX P w) 5 "need_deed" (spNeedD K) := by
  refine C.cal 31 30 d_need_deed sc_need_deed (fun _ _ _ _ _ _ us hl => match us, hl with | [_], _ => rfl) (fun vs H Q E h => ?_) (fun f cdv A outer s H vs Q E hr h => ?_)
  · obtain ⟨v, d, rfl, _⟩ := h
    rfl
  have nd := sc_need_deed.nd
  refine ⟨_, (pss_cons (ps_expr (pe_cx (cal_need_form C) hr (takes_of rfl rfl rfl rfl) (pa_cons (pv 0) pa_nil))) (pss_cons (ps_set (i := 1) nd rfl (by first | exact Or.inl rfl | exact Or.inr rfl) (pe_ifExp (pt_cmpR op_eq (pe_ix ix_tup (pv 0) pe_int (fun _ _ => rfl)) pe_str (nomark _)) (pe_ix ix_tup (pv 0) pe_int (fun _ _ => rfl)) (pe_tup pa_nil))) (pss_cons (ps_if (PW.pt (pw_and (pt_cmpR op_eq (pe_ix ix_tup (pv 0) pe_int (fun _ _ => rfl)) pe_str (nomark _)) (pw_and1 (pt_cmpR op_eq (pe_callB call_len_seq (by rfl) (C.free 67) (by decide +kernel) (pa_cons (pv 1) pa_nil)) pe_int (nomark _))))) (pss_one (ps_rx0 rfl (takes_of rfl rfl rfl rfl) (exn_BadDeed C) hr)) pss_nil) (pss_one (ps_for (passes_of rfl) rfl (pi_tup (pv 1)) (pg_name (i := 2) nd rfl (by first | exact Or.inl rfl | exact Or.inr rfl)) (pss_cons (ps_expr (pe_cx (cal_need_form C) hr (takes_of rfl rfl rfl rfl) (pa_cons (pv 2) pa_nil))) (pss_one (ps_if (pt_cmpR op_eq (pe_ix ix_tup (pv 2) pe_int (fun _ _ => rfl)) pe_str (nomark _)) (pss_one (ps_rx0 rfl (takes_of rfl rfl rfl rfl) (exn_BadDeed C) hr)) pss_nil)))))))), ?_⟩
  obtain ⟨v, d, rfl, hd, dv, k1, k2⟩ := h
  refine ⟨_, rfl, v, d, rfl, hd, dv, fun hf => ?_, fun hf x y H' b er => k2 (by cases d <;> first | rfl | cases hf) _ _ _ b er⟩
  obtain ⟨x, rest, eds, hx⟩ := de_word hf
  rw [eds] at dv
  obtain ⟨p, vs, rfl, hp, da⟩ := dp_tup dv
  obtain ⟨v1, ws, rfl, d1, dw⟩ := dpa_cons da
  cases dp_str d1
  have h0 : atI (V.str x :: ws) 0 = some (V.str x) := atI_nat (j := 0) rfl
  refine ⟨_, rfl, p, _, _, _, rfl, rfl, hp, h0, rfl, _, rfl, ite2 (fun e => ?_) (fun e => ?_)⟩
  · have hm := hx.mp (V.str.inj (of_decide_eq_true e))
    obtain ⟨l, rfl⟩ : ∃ l, d = .many l := by cases d <;> first | exact ⟨_, rfl⟩ | cases hm
    cases eds
    obtain ⟨v2, ws, rfl, d2, dw⟩ := dpa_cons dw
    obtain ⟨q, us, rfl, hq, du⟩ := dp_tup d2
    have lu := dpa_length du
    rw [toDs_eq, List.length_map] at lu
    rw [toDs_eq] at du
    refine ⟨_, rfl, p, _, _, _, rfl, rfl, hp, atI_nat (j := 1) rfl, ?_⟩
    refine ⟨_, rfl, p, _, _, _, rfl, rfl, hp, h0, rfl, _, rfl, ite2 (fun _ => ⟨_, rfl, q, us, rfl, .inr hq, rfl, _, rfl, ite2 (fun e2 => ?_) (fun e2 => ?_)⟩) (fun z => absurd e z)⟩
    · have e2 := V.int.inj (of_decide_eq_true e2)
      have hl : l = [] := List.length_eq_zero_iff.mp (by omega)
      subst hl
      exact ⟨by decide, _, rfl, fun d nd => k2 rfl _ _ _ (But.refl.new nd) (ErAt.new rfl d rfl)⟩
    have hl : l ≠ [] := fun z => by
      subst z
      refine e2 (decide_eq_true ?_)
      rw [lu]; rfl
    refine ⟨_, rfl, q, rfl, ⟨us, hq⟩, ?_⟩
    refine for_tup (K := K) (a := q) (xs := us) (D := { nx := _, rt := Q }) (fun i σ' H' => ∃ x2, σ' = [some (.ref p), some (.ref q), x2] ∧ But [] H H' ∧ ∀ d ∈ l.take i, (formless d || isMany d) = false) ⟨none, rfl, But.refl, by simp⟩ ?_ ?_ ?_
    · rintro i σ' H' _ ⟨x2, rfl, bb, _⟩
      exact bb.sqT hq
    · rintro i y σ' H' hy ⟨x2, rfl, bb, hall⟩
      obtain ⟨dd, hdd, dy⟩ := dpa_get du hy
      rw [List.getElem?_map] at hdd
      obtain ⟨d, hd', rfl⟩ := Option.map_eq_some_iff.mp hdd
      have dl : d ∈ l := List.mem_of_getElem? hd'
      have dd' : Deed d := part_deed (hd.2 d dl)
      have dy' := dp_but bb _ _ (tup_de dd') dy
      have bad1 : (formless d || isMany d) = true → badForm (.many l) = true := fun z => by
        show (l.isEmpty || l.any fun d => formless d || isMany d) = true
        rw [List.any_eq_true.mpr ⟨d, dl, z⟩, Bool.or_true]
      refine ⟨_, rfl, y, d, rfl, dd', dy', fun hf => ?_, fun hf x' y' H2 b2 er => k2 (bad1 (by rw [hf]; rfl)) _ _ _ (bb.trans b2) er⟩
      obtain ⟨x', rest', eds', hx'⟩ := de_word hf
      rw [eds'] at dy'
      obtain ⟨r, zs, rfl, hr', dz⟩ := dp_tup dy'
      obtain ⟨w1, zs, rfl, e1, _⟩ := dpa_cons dz
      cases dp_str e1
      refine ⟨_, rfl, r, _, _, _, rfl, rfl, hr', atI_nat (j := 0) rfl, rfl, _, rfl, ite2 (fun e => ?_) (fun e => ?_)⟩
      · have hm := hx'.mp (V.str.inj (of_decide_eq_true e))
        exact ⟨by decide, _, rfl, fun d' nd' => k2 (bad1 (by rw [hm, Bool.or_true])) _ _ _ (bb.new nd') (ErAt.new rfl d' rfl)⟩
      · have hm : isMany d = false := by
          cases hz : isMany d with
          | false => rfl
          | true => exact absurd (decide_eq_true (by rw [hx'.mpr hz])) e
        refine ⟨_, rfl, bb, fun d' hd'' => ?_⟩
        rw [List.take_add_one, hd'] at hd''
        rcases List.mem_append.mp hd'' with h | h
        · exact hall d' h
        · rw [show d' = d by simpa using h, hf, hm]; rfl
    · rintro σ' H' ⟨x2, rfl, bb, hall⟩
      rw [lu, List.take_length] at hall
      refine k1 ?_ _ bb
      show (l.isEmpty || l.any fun d => formless d || isMany d) = false
      rw [show l.isEmpty = false by cases l <;> first | rfl | exact absurd rfl hl, Bool.false_or]
      exact List.any_eq_false.mpr fun d hd => by rw [hall d hd]; simp
  · have hm : isMany d = false := by
      cases hz : isMany d with
      | false => rfl
      | true => exact absurd (decide_eq_true (by rw [hx.mpr hz])) e
    have hb : badForm d = false := by cases d <;> first | rfl | (simp [formless] at hf; done) | (simp [isMany] at hm; done)
    refine ⟨by decide, fun q nq => ?_⟩
    have b1 : But [] H (upd H q (.tup [])) := But.refl.new nq
    refine ⟨_, rfl, p, _, _, _, rfl, rfl, b1.sqT hp, h0, rfl, _, rfl, ite2 (fun z => absurd z e) (fun z => ?_)⟩
    refine ⟨_, rfl, q, rfl, ⟨[], SqT.of upd_same⟩, ?_⟩
    refine for_tup (K := K) (a := q) (xs := []) (D := { nx := _, rt := Q }) (fun i σ' H' => σ' = [some (.ref p), some (.ref q), none] ∧ H' = upd H q (.tup [])) ⟨rfl, rfl⟩ ?_ ?_ ?_
    · rintro i σ' H' _ ⟨rfl, rfl⟩
      exact SqT.of upd_same
    · intro i y σ' H' hy
      simp at hy
    · rintro σ' H' ⟨rfl, rfl⟩
      exact k1 hb _ b1
end Bu
set_option Elab.async false
set_option linter.all false
set_option maxRecDepth 100000
set_option maxHeartbeats 4000000
/-! done, of a deed that is no many. -/
namespace Bu
open PySem PySem.Spec PyProof.Rows L2
def spDoneP (K : PySem.W.Frag) : Sp := fun vs H Q E => ∃ (a : Addr) (c : Cnt) (s : Sta) (N : Int) (v : V) (d : De), Plain d ∧ vs = [.ref a, v] ∧ StandAt K H a c s ∧ s.Good N ∧ N < 1000000000000 ∧ Dp K H v d.toD ∧
  (formless d = true → ∀ x y H', But [] H H' → ErAt K eDeed x y H' → E x y H') ∧
  (formless d = false → bad s d = none → ∀ c' H', But (mine a c) H H' → NewC H c c' → StandAt K H' a c' (put false s d).1 → Q (tellV (put false s d).2) H') ∧
  (formless d = false → ∀ e, bad s d = some e → ∀ x y H', But [] H H' → ErAt K e x y H' → E x y H')
abbrev n_done : List Str := ["stand", "deed", "put"]
theorem sc_done : FnScope n_done ["stand", "deed"] d_done.scope := C8.fnScope_by (by decide +kernel)
theorem cal_doneP {P : Program} {w : World} {K : PySem.W.Frag} {mg : Str → Option Value} {base : Heap} (C : Cn w K mg)  : Cal P w K mg base (L2.CX P w) 6 "done" (spDoneP K) := by
  refine C.cal 32 31 d_done sc_done (fun _ _ _ _ _ _ us hl => match us, hl with | [_, _], _ => rfl) (fun vs H Q E h => ?_) (fun f cdv A outer s H vs Q E hr h => ?_)
  · obtain ⟨a, c, s, N, v, d, _, rfl, _⟩ := h
    rfl
  have nd := sc_done.nd
  refine ⟨_, (pss_cons (ps_expr (pe_cx (cal_need_deed C) hr (takes_of rfl rfl rfl rfl) (pa_cons (pv 1) pa_nil))) (pss_cons (ps_set (i := 2) nd rfl (by first | exact Or.inl rfl | exact Or.inr rfl) (pe_ix ix_kdict (pe_gi (v := .ref (He.ga K "DEEDS")) ⟨_, C.glo 65, rfl⟩) (pe_ix ix_tup (pv 1) pe_int (fun _ _ => rfl)) (fun _ _ => rfl))) (pss_one (ps_ret (pe_held (k := 5) (i := 2) hr (takes_of rfl rfl rfl rfl) rfl (by first | exact .inl rfl | exact .inr (.inl rfl) | exact .inr (.inr rfl)) (pa_cons (pv 0) (pa_cons (pv 1) pa_nil))))))), ?_⟩
  obtain ⟨a, c, s, N, v, d, pl, rfl, hs, hg, hN, dv, k0, k1, k2⟩ := h
  refine ⟨_, rfl, v, d, rfl, pl.deed, dv, fun hb H1 b1 => ?_, fun hb x y H' b er => k0 ?_ _ _ _ b er⟩
  rotate_left
  · cases d <;> first | rfl | cases hb | exact pl.elim
  have hf : formless d = false := by cases d <;> first | rfl | cases hb
  obtain ⟨x, rest, g, is, eds, kd, held, hi⟩ : ∃ (x : Str) (rest : List PyData) (g : Str) (is : De → Prop), d.toD = .tuple (.str x :: rest) ∧ KDct K w (He.ga K "DEEDS") x (.ref (He.ga K g)) ∧ HeldX P w K mg base 5 (He.ga K g) (spPut K is) ∧ is d := by
    cases d with
    | bar i m => exact ⟨_, _, "put_bar", isBar, rfl, C.deed (x := "bar") (v := .glo "put_bar") (by simp [dvD]), (cal_put_bar C).held (C.glo 20), _, _, rfl⟩
    | change i m => exact ⟨_, _, "put_change", isChange, rfl, C.deed (x := "change") (v := .glo "put_change") (by simp [dvD]), (cal_put_change C).held (C.glo 21), _, _, rfl⟩
    | cut i => exact ⟨_, _, "put_cut", isCut, rfl, C.deed (x := "cut") (v := .glo "put_cut") (by simp [dvD]), (cal_put_cut C).held (C.glo 22), _, rfl⟩
    | move i j => exact ⟨_, _, "put_move", isMove, rfl, C.deed (x := "move") (v := .glo "put_move") (by simp [dvD]), (cal_put_move C).held (C.glo 23), _, _, rfl⟩
    | mark sp => exact ⟨_, _, "put_mark", isMark, rfl, C.deed (x := "mark") (v := .glo "put_mark") (by simp [dvD]), (cal_put_mark C).held (C.glo 24), _, rfl⟩
    | wipe i => exact ⟨_, _, "put_wipe", isWipe, rfl, C.deed (x := "wipe") (v := .glo "put_wipe") (by simp [dvD]), (cal_put_wipe C).held (C.glo 25), _, rfl⟩
    | fin i x => exact ⟨_, _, "put_end", isFin, rfl, C.deed (x := "end") (v := .glo "put_end") (by simp [dvD]), (cal_put_end C).held (C.glo 26), _, _, rfl⟩
    | paper sh => exact ⟨_, _, "put_paper", isPaper, rfl, C.deed (x := "paper") (v := .glo "put_paper") (by simp [dvD]), (cal_put_paper C).held (C.glo 27), _, rfl⟩
    | odd l => cases hf
    | many l => exact pl.elim
  have dv1 := dp_but b1 _ _ (tup_plain pl) dv
  obtain ⟨p, vs, rfl, hp, da⟩ := dp_tup (eds ▸ dv1)
  obtain ⟨v1, ws, rfl, d1, dw⟩ := dpa_cons da
  cases dp_str d1
  refine ⟨_, rfl, p, _, _, _, rfl, rfl, hp, atI_nat (j := 0) rfl, _, x, _, rfl, rfl, kd, _, _, rfl, held, _, rfl, _, rfl, ?_⟩
  exact ⟨a, c, s, N, .ref p, d, hi, pl, rfl, hs.new b1, hg, hN, dv1, fun hb' c' H' bb nc hs' => k1 hf hb' c' H' ((st_nil hs).step b1 |>.thn bb fun x hx => .inl hx) ⟨nc.o, nc.mu, nc.bo, nc.sp.imp id (b1.dom _)⟩ hs', fun e he x y H' bb er => k2 hf e he x y H' (b1.trans bb) er⟩
end Bu
set_option Elab.async false
set_option linter.all false
set_option maxRecDepth 100000
set_option maxHeartbeats 4000000
/-! put_many; done of any deed. -/
namespace Bu
open PySem PySem.Spec PyProof.Rows L2
theorem fold_cons (fl : Bool) (s : Sta) (d : De) (r : List De) : foldD fl s (d :: r) = match one fl s d with
    | .error e => .error e
    | .ok (s1, t) => match foldD fl s1 r with
      | .error e => .error e
      | .ok (s2, ts) => .ok (s2, t :: ts) := rfl
theorem fold_ok : ∀ {fl : Bool} {l r : List De} {s s1 : Sta} {ts : List (Option Int)}, foldD fl s l = .ok (s1, ts) → foldD fl s (l ++ r) = match foldD fl s1 r with
    | .error e => .error e
    | .ok (s2, us) => .ok (s2, ts ++ us)
  | fl, [], r, s, s1, ts, h => by
    cases h
    rw [List.nil_append]
    generalize foldD fl s r = x
    cases x with
    | error e => rfl
    | ok y => rfl
  | fl, d :: l, r, s, s1, ts, h => by
    rw [fold_cons] at h
    rw [List.cons_append, fold_cons]
    generalize one fl s d = x at h
    cases x with
    | error e => cases h
    | ok y =>
      obtain ⟨s2, t⟩ := y
      dsimp only at h ⊢
      cases e : foldD fl s2 l with
      | error x => rw [e] at h; cases h
      | ok y =>
        obtain ⟨s3, us⟩ := y
        rw [e] at h
        cases h
        rw [fold_ok e]
        generalize foldD fl s1 r = z
        cases z with
        | error x => rfl
        | ok y => rfl
theorem fold_err : ∀ {fl : Bool} {l r : List De} {s : Sta} {e : Er}, foldD fl s l = .error e → foldD fl s (l ++ r) = .error e
  | fl, [], r, s, e, h => by cases h
  | fl, d :: l, r, s, e, h => by
    rw [fold_cons] at h
    rw [List.cons_append, fold_cons]
    generalize one fl s d = x at h
    cases x with
    | error e => exact h
    | ok y =>
      obtain ⟨s2, t⟩ := y
      dsimp only at h ⊢
      cases e2 : foldD fl s2 l with
      | error x =>
        rw [e2] at h
        cases h
        rw [fold_err e2]
      | ok y => rw [e2] at h; cases h
theorem fold_one (fl : Bool) (s : Sta) (d : De) : foldD fl s [d] = match one fl s d with
    | .error e => .error e
    | .ok (s1, t) => .ok (s1, [t]) := by
  rw [fold_cons]
  cases one fl s d <;> rfl
theorem fold_len : ∀ {fl : Bool} {l : List De} {s s1 : Sta} {ts : List (Option Int)}, foldD fl s l = .ok (s1, ts) → ts.length = l.length
  | fl, [], s, s1, ts, h => by cases h; rfl
  | fl, d :: l, s, s1, ts, h => by
    rw [fold_cons] at h
    generalize one fl s d = x at h
    cases x with
    | error e => cases h
    | ok y =>
      obtain ⟨s2, t⟩ := y
      dsimp only at h
      cases e : foldD fl s2 l with
      | error x => rw [e] at h; cases h
      | ok y =>
        obtain ⟨s3, us⟩ := y
        rw [e] at h
        cases h
        rw [List.length_cons, List.length_cons, fold_len e]
def spPutM (K : PySem.W.Frag) : Sp := fun vs H Q E => ∃ (a : Addr) (c : Cnt) (s : Sta) (N : Int) (v : V) (l : List De), vs = [.ref a, v] ∧ StandAt K H a c s ∧ s.Good N ∧ N + 100 < 1000000000000 ∧ l.length ≤ 100 ∧ (∀ d ∈ l, Plain d ∧ formless d = false) ∧ Dp K H v (De.many l).toD ∧
  (∀ s' ts, foldD false s l = .ok (s', ts) → ∀ c' D H', But (mine a c) H H' → NewC H c c' → StandAt K H' a c' s' → H D = none → H' D = some (.lst (ts.map tellV)) → Q (.ref D) H') ∧
  (∀ e, foldD false s l = .error e → ∀ x y H', But (mine a c) H H' → ErAt K e x y H' → E x y H')
abbrev n_put_many : List Str := ["stand", "deed", "one"]
theorem sc_put_many : FnScope n_put_many ["stand", "deed"] d_put_many.scope := C8.fnScope_by (by decide +kernel)
theorem cal_put_many {P : Program} {w : World} {K : PySem.W.Frag} {mg : Str → Option Value} {base : Heap} (C : Cn w K mg)  : Cal P w K mg base (L2.CX P w) 7 "put_many" (spPutM K) := by
  refine C.cal 29 28 d_put_many sc_put_many (fun _ _ _ _ _ _ us hl => match us, hl with | [_, _], _ => rfl) (fun vs H Q E h => ?_) (fun f cdv A outer s H vs Q E hr h => ?_)
  · obtain ⟨a, c, s, N, v, l, rfl, _⟩ := h
    rfl
  have nd := sc_put_many.nd
  refine ⟨_, (pss_one (ps_ret (pe_lcX (own := [("one", 2)]) (tt := tYes) rfl rfl rfl (takes_of rfl rfl rfl rfl) nd (pi_tup (pe_ix ix_tup (pv 1) pe_int (fun _ _ => rfl))) (blkOk_by (own := [("one", 2)]) (N := n_put_many) (sc := d_put_many.scope) (by decide +kernel)) (fun _ _ _ _ _ => pg_name (i := 2) nd rfl (by first | exact Or.inl rfl | exact Or.inr rfl)) (fun _ _ _ _ _ => pts_nil) (fun _ _ _ _ _ _ _ hx => pe_cxE (CX := CX0) (cal_doneP C) hr hx (pa_cons (pv 0) (pa_cons (pv 2) pa_nil)))))), ?_⟩
  obtain ⟨a, c, s, N, v, l, rfl, hs, hg, hN, hl, pl, dv, k1, k2⟩ := h
  obtain ⟨p, vs, rfl, hp, da⟩ := dp_tup dv
  obtain ⟨v1, vs, rfl, d1, da⟩ := dpa_cons da
  obtain ⟨v2, vs, rfl, d2, da⟩ := dpa_cons da
  cases dpa_nil da
  obtain ⟨q, us, rfl, hq, du⟩ := dp_tup d2
  have lu := dpa_length du
  rw [toDs_eq, List.length_map] at lu
  rw [toDs_eq] at du
  refine ⟨_, rfl, p, _, _, _, rfl, rfl, hp, atI_nat (j := 1) rfl, q, rfl, ⟨us, hq⟩, fun D nD => ?_⟩
  have lv := hs.live
  have b0 : But [] H (upd H D (.lst [])) := But.refl.new nD
  have hs0 := hs.new b0
  refine lc_tup (K := K) (a := q) (xs := us) (fun i H' => ∃ s' ts c', foldD false s (l.take i) = .ok (s', ts) ∧ StandAt K H' a c' s' ∧ s'.Good (N + i) ∧ NewC H c c' ∧ But (mine a c) H H' ∧ H' D = some (.lst (ts.map tellV))) ?_ ?_ ?_ ?_
  · exact ⟨s, [], c, rfl, hs0, by simpa using hg, .refl, (st_nil hs).step b0, upd_same⟩
  · rintro i H' _ ⟨_, _, _, _, _, _, _, bb, _⟩
    exact bb.sqT hq
  · rintro i y H' hy ⟨s', ts, c', hf, hs', hg', nc, bb, hD⟩
    obtain ⟨dd, hdd, dy⟩ := dpa_get du hy
    rw [List.getElem?_map] at hdd
    obtain ⟨d, hd', rfl⟩ := Option.map_eq_some_iff.mp hdd
    have dl : d ∈ l := List.mem_of_getElem? hd'
    obtain ⟨pd, fd⟩ := pl d dl
    have et : l.take (i + 1) = l.take i ++ [d] := by rw [List.take_add_one, hd']; rfl
    have hi : i < l.length := (List.getElem?_eq_some_iff.mp hd').1
    have sub : ∀ x ∈ mine a c', x ∈ mine a c ∨ H x = none := fun x hx => by
      simp only [mine, List.mem_cons, List.not_mem_nil, or_false, nc.o, nc.mu, nc.bo] at hx ⊢
      rcases hx with h | h | h | h | h
      · exact .inl (.inl h)
      · exact .inl (.inr (.inl h))
      · exact .inl (.inr (.inr (.inl h)))
      · rcases nc.sp with z | z
        · exact .inl (.inr (.inr (.inr (.inl (h.trans z)))))
        · exact .inr (by rw [h]; exact z)
      · exact .inl (.inr (.inr (.inr (.inr h))))
    have fin : ∀ e, one false s' d = .error e → foldD false s l = .error e := fun e he => by
      have h1 : foldD false s (l.take (i + 1)) = .error e := by rw [et, fold_ok hf, fold_one, he]
      have := fold_err (r := l.drop (i + 1)) h1
      rwa [List.take_append_drop] at this
    have nDm : D ∉ mine a c' := fun z => by
      have n0 : H D = none := nD
      simp only [mine, List.mem_cons, List.not_mem_nil, or_false] at z
      obtain ⟨dx, _, _, h1, _, _⟩ := hs'.at_
      obtain ⟨_, h2, _⟩ := hs'.cont.mu
      obtain ⟨_, h3, _⟩ := hs'.cont.sp
      obtain ⟨_, h4, _⟩ := hs'.cont.bo
      rcases z with z | z | z | z | z
      · rw [← z, hD] at h1; cases h1
      · have := (lv c.o (by simp [mine])).1
        rw [← nc.o, ← z] at this
        exact this n0
      · rw [← z, hD] at h2; cases h2
      · rw [← z, hD] at h3; cases h3
      · rw [← z, hD] at h4; cases h4
    refine ⟨rfl, _, rfl, _, rfl, a, c', s', N + i, y, d, pd, rfl, hs', hg', by omega, dp_but bb _ _ (tup_plain pd) dy, fun z => (by rw [fd] at z; cases z), fun _ hb c2 H2 b2 nc2 hs2 => ?_, fun _ e he x' y' H2 b2 er => ?_⟩
    · have e1 : one false s' d = .ok (put false s' d) := by unfold one; rw [hb]
      have hD2 : H2 D = some (.lst (ts.map tellV)) := b2.keep D _ hD nDm
      have lts := fold_len hf
      rw [List.length_take] at lts
      refine ⟨_, hD2, by rw [List.length_map, sizeLine_eq]; omega, (put false s' d).1, ts ++ [(put false s' d).2], c2, by rw [et, fold_ok hf, fold_one, e1], ?_, ?_, ?_, ?_, ?_⟩
      · refine hs2.but (But.one (o := .lst (ts.map tellV ++ [tellV (put false s' d).2])) (nt_lst hD2)) fun x hx z => ?_
        rw [show x = D by simpa using z] at hx
        simp only [mine, List.mem_cons, List.not_mem_nil, or_false] at hx
        obtain ⟨dx, _, _, h1, _, _⟩ := hs2.at_
        obtain ⟨_, h2, _⟩ := hs2.cont.mu
        obtain ⟨_, h3, _⟩ := hs2.cont.sp
        obtain ⟨_, h4, _⟩ := hs2.cont.bo
        rcases hx with z | z | z | z | z
        · rw [← z, hD2] at h1; cases h1
        · exact nDm (by rw [nc2.o] at z; simp [mine, z])
        · rw [← z, hD2] at h2; cases h2
        · rw [← z, hD2] at h3; cases h3
        · rw [← z, hD2] at h4; cases h4
      · have := put_good (fl := false) hg' pd hb
        rw [show N + ((i + 1 : Nat) : Int) = N + i + 1 by omega]
        exact this
      · exact ⟨nc2.o.trans nc.o, nc2.mu.trans nc.mu, nc2.bo.trans nc.bo, nc2.sp.elim (fun z => by rw [z]; exact nc.sp) fun z => .inr (bb.dom _ z)⟩
      · exact (bb.thn b2 sub).young nD
      · rw [upd_same, List.map_append]; rfl
    · refine k2 e (fin e (by unfold one; rw [he])) _ _ _ (bb.step b2) er
  · rintro H' ⟨s', ts, c', hf, hs', hg', nc, bb, hD⟩
    rw [lu, List.take_length] at hf
    exact k1 s' ts hf c' D H' bb nc hs' nD hD
end Bu
set_option Elab.async false
set_option linter.all false
set_option maxRecDepth 100000
set_option maxHeartbeats 4000000
/-! done, of any deed. -/
namespace Bu
open PySem PySem.Spec PyProof.Rows L2
theorem HeldX.mono {P : Program} {w : World} {K : PySem.W.Frag} {mg : Str → Option Value} {base : Heap} {k j : Nat} {f : Addr} {sp : Sp} (h : HeldX P w K mg base k f sp) (hk : k ≤ j) : HeldX P w K mg base j f sp := by
  obtain ⟨fd, ps, F, kp, b⟩ := h.ex
  exact ⟨fd, ps, F.mono hk, kp, b⟩
/-- what a deed tells: None, a number, a new list of such -/
def Told (K : PySem.W.Frag) (H H' : Hp) (v : V) (t : PyData) : Prop := (∃ n, v = tellV n ∧ t = tellD n) ∨ ∃ (D : Addr) (ts : List (Option Int)), v = .ref D ∧ t = .list (ts.map tellD) ∧ H D = none ∧ H' D = some (.lst (ts.map tellV)) ∧ ts.length ≤ 100
theorem dpa_tells {K : PySem.W.Frag} {H : Hp} : ∀ ts : List (Option Int), DpAll K H (ts.map tellV) (ts.map tellD)
  | [] => .nil
  | none :: r => .cons .non (dpa_tells r)
  | some n :: r => .cons (.int n) (dpa_tells r)
theorem Told.dp {K : PySem.W.Frag} {H H' : Hp} {v : V} {t : PyData} (h : Told K H H' v t) : Dp K H' v t := by
  rcases h with ⟨n, rfl, rfl⟩ | ⟨D, ts, rfl, rfl, _, hD, _⟩
  · cases n with
    | none => exact .non
    | some n => exact .int n
  · exact .lst (SqL.of hD) (dpa_tells ts)
theorem Told.but {K : PySem.W.Frag} {H H' H2 : Hp} {v : V} {t : PyData} {M : List Addr} (h : Told K H H' v t) (b : But M H' H2) (n : ∀ x ∈ M, H x ≠ none) : Told K H H2 v t := by
  rcases h with h | ⟨D, ts, h1, h2, h3, h4, h5⟩
  · exact .inl h
  · exact .inr ⟨D, ts, h1, h2, h3, b.keep D _ h4 fun z => n D z h3, h5⟩
theorem Told.old {K : PySem.W.Frag} {H0 H H' : Hp} {v : V} {t : PyData} {M : List Addr} (h : Told K H H' v t) (b : But M H0 H) : Told K H0 H' v t := by
  rcases h with h | ⟨D, ts, h1, h2, h3, h4, h5⟩
  · exact .inl h
  · exact .inr ⟨D, ts, h1, h2, b.dom D h3, h4, h5⟩
theorem apply_many {fl : Bool} {s : Sta} {l : List De} : applyD fl s (.many l) = if l = [] ∨ (l.any fun d => formless d || isMany d) = true then .error eDeed else match foldD fl s l with
    | .error e => .error e
    | .ok (s', ts) => .ok (s', .list (ts.map tellD)) := rfl
theorem form_bad {d : De} (h : badForm d = true) (fl : Bool) (s : Sta) : applyD fl s d = .error eDeed := by
  cases d with
  | odd ds => rfl
  | many l =>
    rw [apply_many, if_pos]
    have h : (l.isEmpty || l.any fun d => formless d || isMany d) = true := h
    rw [Bool.or_eq_true] at h
    exact h.imp (fun z => List.isEmpty_iff.mp z) id
  | _ => cases h
def spDone (K : PySem.W.Frag) : Sp := fun vs H Q E => ∃ (a : Addr) (c : Cnt) (s : Sta) (N : Int) (v : V) (d : De), Deed d ∧ vs = [.ref a, v] ∧ StandAt K H a c s ∧ s.Good N ∧ N + 100 < 1000000000000 ∧ Dp K H v d.toD ∧
  (∀ s' t, applyD false s d = .ok (s', t) → ∀ c' u H', But (mine a c) H H' → NewC H c c' → StandAt K H' a c' s' → Told K H H' u t → Q u H') ∧
  (∀ e, applyD false s d = .error e → ∀ x y H', But (mine a c) H H' → ErAt K e x y H' → E x y H')
theorem cal_done {P : Program} {w : World} {K : PySem.W.Frag} {mg : Str → Option Value} {base : Heap} (C : Cn w K mg)  : Cal P w K mg base (L2.CX P w) 8 "done" (spDone K) := by
  refine C.cal 32 31 d_done sc_done (fun _ _ _ _ _ _ us hl => match us, hl with | [_, _], _ => rfl) (fun vs H Q E h => ?_) (fun f cdv A outer s H vs Q E hr h => ?_)
  · obtain ⟨a, c, s, N, v, d, _, rfl, _⟩ := h
    rfl
  have nd := sc_done.nd
  refine ⟨_, (pss_cons (ps_expr (pe_cx (cal_need_deed C) hr (takes_of rfl rfl rfl rfl) (pa_cons (pv 1) pa_nil))) (pss_cons (ps_set (i := 2) nd rfl (by first | exact Or.inl rfl | exact Or.inr rfl) (pe_ix ix_kdict (pe_gi (v := .ref (He.ga K "DEEDS")) ⟨_, C.glo 65, rfl⟩) (pe_ix ix_tup (pv 1) pe_int (fun _ _ => rfl)) (fun _ _ => rfl))) (pss_one (ps_ret (pe_held (k := 7) (i := 2) hr (takes_of rfl rfl rfl rfl) rfl (by first | exact .inl rfl | exact .inr (.inl rfl) | exact .inr (.inr rfl)) (pa_cons (pv 0) (pa_cons (pv 1) pa_nil))))))), ?_⟩
  obtain ⟨a, c, s, N, v, d, hd, rfl, hs, hg, hN, dv, k1, k2⟩ := h
  refine ⟨_, rfl, v, d, rfl, hd, dv, fun hb H1 b1 => ?_, fun hb x y H' b er => k2 _ (form_bad hb _ _) _ _ _ ((st_nil hs).step b) er⟩
  obtain ⟨x, rest, g, sp, eds, kd, held, hsp⟩ : ∃ (x : Str) (rest : List PyData) (g : Str) (sp : Sp), d.toD = .tuple (.str x :: rest) ∧ KDct K w (He.ga K "DEEDS") x (.ref (He.ga K g)) ∧ HeldX P w K mg base 7 (He.ga K g) sp ∧ ((∃ is, sp = spPut K is ∧ is d ∧ Plain d ∧ formless d = false ∧ isMany d = false) ∨ (sp = spPutM K ∧ ∃ l, d = .many l)) := by
    cases d with
    | bar i m => exact ⟨_, _, "put_bar", _, rfl, C.deed (x := "bar") (v := .glo "put_bar") (by simp [dvD]), ((cal_put_bar C).held (C.glo 20)).mono (by decide), .inl ⟨isBar, rfl, ⟨_, _, rfl⟩, hd, rfl, rfl⟩⟩
    | change i m => exact ⟨_, _, "put_change", _, rfl, C.deed (x := "change") (v := .glo "put_change") (by simp [dvD]), ((cal_put_change C).held (C.glo 21)).mono (by decide), .inl ⟨isChange, rfl, ⟨_, _, rfl⟩, hd, rfl, rfl⟩⟩
    | cut i => exact ⟨_, _, "put_cut", _, rfl, C.deed (x := "cut") (v := .glo "put_cut") (by simp [dvD]), ((cal_put_cut C).held (C.glo 22)).mono (by decide), .inl ⟨isCut, rfl, ⟨_, rfl⟩, hd, rfl, rfl⟩⟩
    | move i j => exact ⟨_, _, "put_move", _, rfl, C.deed (x := "move") (v := .glo "put_move") (by simp [dvD]), ((cal_put_move C).held (C.glo 23)).mono (by decide), .inl ⟨isMove, rfl, ⟨_, _, rfl⟩, hd, rfl, rfl⟩⟩
    | mark sp => exact ⟨_, _, "put_mark", _, rfl, C.deed (x := "mark") (v := .glo "put_mark") (by simp [dvD]), ((cal_put_mark C).held (C.glo 24)).mono (by decide), .inl ⟨isMark, rfl, ⟨_, rfl⟩, hd, rfl, rfl⟩⟩
    | wipe i => exact ⟨_, _, "put_wipe", _, rfl, C.deed (x := "wipe") (v := .glo "put_wipe") (by simp [dvD]), ((cal_put_wipe C).held (C.glo 25)).mono (by decide), .inl ⟨isWipe, rfl, ⟨_, rfl⟩, hd, rfl, rfl⟩⟩
    | fin i x => exact ⟨_, _, "put_end", _, rfl, C.deed (x := "end") (v := .glo "put_end") (by simp [dvD]), ((cal_put_end C).held (C.glo 26)).mono (by decide), .inl ⟨isFin, rfl, ⟨_, _, rfl⟩, hd, rfl, rfl⟩⟩
    | paper sh => exact ⟨_, _, "put_paper", _, rfl, C.deed (x := "paper") (v := .glo "put_paper") (by simp [dvD]), ((cal_put_paper C).held (C.glo 27)).mono (by decide), .inl ⟨isPaper, rfl, ⟨_, rfl⟩, hd, rfl, rfl⟩⟩
    | odd l => cases hb
    | many l => exact ⟨_, _, "put_many", _, rfl, C.deed (x := "many") (v := .glo "put_many") (by simp [dvD]), ((cal_put_many C).held (C.glo 28)).mono (by decide), .inr ⟨rfl, l, rfl⟩⟩
  have dv1 := dp_but b1 _ _ (tup_de hd) dv
  obtain ⟨p, vs, rfl, hp, da⟩ := dp_tup (eds ▸ dv1)
  obtain ⟨v1, ws, rfl, d1, dw⟩ := dpa_cons da
  cases dp_str d1
  refine ⟨_, rfl, p, _, _, _, rfl, rfl, hp, atI_nat (j := 0) rfl, _, x, _, rfl, rfl, kd, _, _, rfl, held, _, rfl, _, rfl, ?_⟩
  have thn : ∀ {H'}, But (mine a c) H1 H' → But (mine a c) H H' := fun bb => ((st_nil hs).step b1).thn bb fun x hx => .inl hx
  have newc : ∀ {c'}, NewC H1 c c' → NewC H c c' := fun nc => ⟨nc.o, nc.mu, nc.bo, nc.sp.imp id (b1.dom _)⟩
  rcases hsp with ⟨is, rfl, hi, pl, hf, hm⟩ | ⟨rfl, l, rfl⟩
  · have ap := apply_plain (fl := false) (s := s) hf hm
    refine ⟨a, c, s, N, .ref p, d, hi, pl, rfl, hs.new b1, hg, by omega, dv1, fun hb' c' H' bb nc hs' => ?_, fun e he x y H' bb er => ?_⟩
    · refine k1 (put false s d).1 (tellD (put false s d).2) ?_ c' _ H' (thn bb) (newc nc) hs' (.inl ⟨_, rfl, rfl⟩)
      rw [ap]; unfold one; rw [hb']; rfl
    · refine k2 e ?_ x y H' ((st_nil hs).step (b1.trans bb)) er
      rw [ap]; unfold one; rw [he]; rfl
  · have hl : (l.isEmpty || l.any fun d => formless d || isMany d) = false := hb
    rw [Bool.or_eq_false_iff] at hl
    have hl2 : ∀ d ∈ l, (formless d || isMany d) = false := fun d hd' => by
      cases z : (formless d || isMany d) with
      | false => rfl
      | true => rw [List.any_eq_true.mpr ⟨d, hd', z⟩] at hl; cases hl.2
    have neg : ¬ (l = [] ∨ (l.any fun d => formless d || isMany d) = true) := fun z => by
      rcases z with z | z
      · rw [z] at hl; cases hl.1
      · rw [z] at hl; cases hl.2
    refine ⟨a, c, s, N, .ref p, l, rfl, hs.new b1, hg, hN, hd.1, fun d hd' => ?_, dv1, fun s' ts hf c' D H' bb nc hs' nD hD => ?_, fun e he x y H' bb er => ?_⟩
    · have z := hl2 d hd'
      rw [Bool.or_eq_false_iff] at z
      refine ⟨?_, z.1⟩
      rcases hd.2 d hd' with h | rfl | rfl
      · exact h
      · cases z.2
      · cases z.2
    · have lt := fold_len hf
      have hl3 := hd.1
      refine k1 s' (.list (ts.map tellD)) ?_ c' _ H' (thn bb) (newc nc) hs' (.inr ⟨D, ts, rfl, rfl, b1.dom D nD, hD, by omega⟩)
      rw [apply_many, if_neg neg, hf]
    · refine k2 e ?_ x y H' (thn bb) er
      rw [apply_many, if_neg neg, he]
end Bu
set_option Elab.async false
set_option linter.all false
set_option maxRecDepth 100000
set_option maxHeartbeats 4000000
/-! A stand made, copied, told. -/
namespace Bu
open PySem PySem.Spec PyProof.Rows L2
/-- a class and its __init__ -/
structure MkC (P : Program) (w : World) (K : PySem.W.Frag) (mg : Str → Option Value) (base : Heap) (CX : CXT) (k : Nat) (x : Str) (dvs : List V) (sp : Sp) : Prop where
  ex : ∃ (f : Addr) (fd : FuncData) (ps : List Str) (ds : List Value), Mk K (He.ga K x) f ∧ FnOk P w K mg base CX k f fd ps sp ∧ mg x = some (.ref (He.ga K x)) ∧ L2.Binds K fd ps ds ∧ Vals dvs ds
section
variable {P : Program} {w : World} {K : PySem.W.Frag} {mg : Str → Option Value} {base : Heap} {CX : CXT}
theorem Cn.mkc (C : Cn w K mg) {k : Nat} {sp : Sp} {N ps : List Str} (i j l : Nat) {x : Str} (d : He.DefD) (S : FnScope N ps d.scope) (hb : BindF d ps)
    (len : ∀ vs H Q E, sp vs H Q E → vs.length = ps.length) (body : BodyOf P w K mg base CX k d N sp) (hd : fn[i]? = some d := by rfl) (hx : d.at_ = (x, some ("__init__" : Str)) := by rfl) (hf : fa[j]? = some (.mkr x) := by rfl) (hg : fa[l]? = some (.glo x) := by rfl)
    (e1 : d.dfl = [] := by rfl) (e2 : d.kwd = [] := by rfl) : MkC P w K mg base CX (k + 1) x [] sp := by
  obtain ⟨fd, h1, _, h3⟩ := C.fnok i d hd e1 e2 S hb len body
  rw [hx] at h1
  exact ⟨_, fd, ps, [], C.mkr j hf, h1, C.glo l hg, h3, .nil⟩
end
section
variable {X : Cx} {CX : CXT} {k j : Nat} {x m : Str} {sp : Sp} {p pos : Pos} {e : Expr} {es : List Expr} {t : TA} {dvs : List V}
/-- C(e, ..) -/
theorem pe_mk (c : MkC X.prog X.w X.K X.mg X.base CX0 k x dvs sp) (hr : Room j X.A) (ha : PA X (e :: es) t) (hk : k + 1 ≤ j := by decide) (hg : Gl X x := by rfl) (hdb : (x == ("__debug__" : Str)) = false := by decide)
    (he : starEach (e :: es) X.env = (false, eval e X.env) :: starEach es X.env := by rfl) (hpl : (backTo pos (starEach es X.env)).any (·.1) = false := by rfl) :
    PE X (.Call (.Name x p) (e :: es) [] pos) (tMake (He.ga X.K x) sp dvs E0 t) := by
  obtain ⟨f, fd, ps, ds, M, F, hm, b, hv⟩ := c.ex
  exact pe_make M F (hr.mono hk) hg hm b hv L2.pass0 ha hdb he hpl
theorem pe_mk0 (c : MkC X.prog X.w X.K X.mg X.base CX0 k x dvs sp) (hr : Room j X.A) (hk : k + 1 ≤ j := by decide) (hg : Gl X x := by rfl) (hdb : (x == ("__debug__" : Str)) = false := by decide) :
    PE X (.Call (.Name x p) [] [] pos) (tMake (He.ga X.K x) sp dvs E0 tNil) := by
  obtain ⟨f, fd, ps, ds, M, F, hm, b, hv⟩ := c.ex
  exact pe_make0 M F (hr.mono hk) hg hm b hv L2.pass0 hdb
end
def empty (sh : Sheet) : Sta := ⟨[], [], [], [], sh, (1, 1)⟩
def spStand0 (K : PySem.W.Frag) : Sp := fun vs H Q _ => ∃ (x dx : Addr) (v : V) (sh : Sheet), vs = [.ref x, v] ∧ H x = some (.ins (He.ga K "Stand") dx []) ∧ Dp K H v (sheetD sh) ∧
  ∀ c H', But [x] H H' → (∀ y ∈ [c.o, c.mu, c.sp, c.bo], H y = none) → StandAt K H' x c (empty sh) → Q .non H'
abbrev n_Stand_init : List Str := ["self", "sheet"]
theorem sc_Stand_init : FnScope n_Stand_init ["self", "sheet"] d_Stand_init.scope := C8.fnScope_by (by decide +kernel)
theorem mk_Stand {P : Program} {w : World} {K : PySem.W.Frag} {mg : Str → Option Value} {base : Heap} (C : Cn w K mg)  : MkC P w K mg base CX0 1 "Stand" [] (spStand0 K) := by
  refine C.mkc 61 131 61 d_Stand_init sc_Stand_init (fun _ _ _ _ _ _ us hl => match us, hl with | [_, _], _ => rfl) (fun vs H Q E h => ?_) (fun f cdv A outer s H vs Q E hr h => ?_)
  · obtain ⟨x, dx, v, sh, rfl, _⟩ := h
    rfl
  have nd := sc_Stand_init.nd
  refine ⟨_, PSs.nox (pss_cons (ps_fld (pv 0) (pv 1) rfl) (pss_cons (ps_fld (pv 0) (pe_lst pa_nil) rfl) (pss_cons (ps_fld (pv 0) pe_dnewK rfl) (pss_cons (ps_fld (pv 0) pe_dnewK rfl) (pss_cons (ps_fld (pv 0) pe_dnewK rfl) (pss_one (ps_fld (pv 0) (pe_tup (pa_cons pe_int (pa_cons pe_int pa_nil))) rfl))))))), ?_⟩
  obtain ⟨x, dx, v, sh, rfl, hx, dv, k⟩ := h
  have b0 : But [x] H H := But.nil _ fun y hy => by rw [show y = x by simpa using hy]; exact nt_ins hx
  refine ⟨_, rfl, _, rfl, x, _, dx, _, rfl, hx, C.cls 96, C.noat 98, by show 0 < 1000; decide, ?_⟩
  have h1 : ∀ fs, (upd H x (.ins (He.ga K "Stand") dx fs)) x = some (.ins (He.ga K "Stand") dx fs) := fun fs => upd_same
  have b1 := b0.old (p := x) (o := .ins (He.ga K "Stand") dx (putF "sheet" v [])) (by simp)
  have x1 := h1 (putF "sheet" v [])
  generalize upd H x (.ins (He.ga K "Stand") dx (putF "sheet" v [])) = H1 at b1 x1
  refine ⟨by decide, fun o no => ?_⟩
  have neo : ∀ {G : Hp} {fs : List (Str × V)} {y : Addr}, G x = some (.ins (He.ga K "Stand") dx fs) → G y = none → x ≠ y := fun e n z => by rw [z, n] at e; cases e
  have n1 := neo x1 no
  refine ⟨_, rfl, x, _, dx, _, rfl, (upd_ne n1).trans x1, C.cls 96, C.noat 99, by show 1 < 1000; decide, ?_⟩
  have b2 := (b1.new (o := .lst []) no).old (p := x) (o := .ins (He.ga K "Stand") dx (putF "order" (.ref o) (putF "sheet" v []))) (by simp)
  have x2 : (upd (upd H1 o (.lst [])) x (.ins (He.ga K "Stand") dx (putF "order" (.ref o) (putF "sheet" v [])))) x = some (.ins (He.ga K "Stand") dx (putF "order" (.ref o) (putF "sheet" v []))) := upd_same
  have o2 : (upd (upd H1 o (.lst [])) x (.ins (He.ga K "Stand") dx (putF "order" (.ref o) (putF "sheet" v [])))) o = some (.lst []) := (upd_ne (Ne.symm n1)).trans upd_same
  generalize upd (upd H1 o (.lst [])) x (.ins (He.ga K "Stand") dx (putF "order" (.ref o) (putF "sheet" v []))) = H2 at b2 x2 o2
  refine fun mu nmu => ?_
  have n2 := neo x2 nmu
  have o2m : o ≠ mu := fun z => by rw [z, nmu] at o2; cases o2
  refine ⟨_, rfl, x, _, dx, _, rfl, (upd_ne n2).trans x2, C.cls 96, C.noat 100, by show 2 < 1000; decide, ?_⟩
  have b3 := (b2.new (o := .dK []) nmu).old (p := x) (o := .ins (He.ga K "Stand") dx (putF "music" (.ref mu) (putF "order" (.ref o) (putF "sheet" v [])))) (by simp)
  have x3 : (upd (upd H2 mu (.dK [])) x (.ins (He.ga K "Stand") dx (putF "music" (.ref mu) (putF "order" (.ref o) (putF "sheet" v []))))) x = some (.ins (He.ga K "Stand") dx (putF "music" (.ref mu) (putF "order" (.ref o) (putF "sheet" v [])))) := upd_same
  have o3 : (upd (upd H2 mu (.dK [])) x (.ins (He.ga K "Stand") dx (putF "music" (.ref mu) (putF "order" (.ref o) (putF "sheet" v []))))) o = some (.lst []) := (upd_ne (Ne.symm n1)).trans ((upd_ne o2m).trans o2)
  have m3 : (upd (upd H2 mu (.dK [])) x (.ins (He.ga K "Stand") dx (putF "music" (.ref mu) (putF "order" (.ref o) (putF "sheet" v []))))) mu = some (.dK []) := (upd_ne (Ne.symm n2)).trans upd_same
  generalize upd (upd H2 mu (.dK [])) x (.ins (He.ga K "Stand") dx (putF "music" (.ref mu) (putF "order" (.ref o) (putF "sheet" v [])))) = H3 at b3 x3 o3 m3
  refine fun sp nsp => ?_
  have n3 := neo x3 nsp
  have o3m : o ≠ sp := fun z => by rw [z, nsp] at o3; cases o3
  have m3m : mu ≠ sp := fun z => by rw [z, nsp] at m3; cases m3
  refine ⟨_, rfl, x, _, dx, _, rfl, (upd_ne n3).trans x3, C.cls 96, C.noat 101, by show 3 < 1000; decide, ?_⟩
  have b4 := (b3.new (o := .dK []) nsp).old (p := x) (o := .ins (He.ga K "Stand") dx (putF "spans" (.ref sp) (putF "music" (.ref mu) (putF "order" (.ref o) (putF "sheet" v []))))) (by simp)
  have x4 : (upd (upd H3 sp (.dK [])) x (.ins (He.ga K "Stand") dx (putF "spans" (.ref sp) (putF "music" (.ref mu) (putF "order" (.ref o) (putF "sheet" v [])))))) x = some (.ins (He.ga K "Stand") dx (putF "spans" (.ref sp) (putF "music" (.ref mu) (putF "order" (.ref o) (putF "sheet" v []))))) := upd_same
  have o4 : (upd (upd H3 sp (.dK [])) x (.ins (He.ga K "Stand") dx (putF "spans" (.ref sp) (putF "music" (.ref mu) (putF "order" (.ref o) (putF "sheet" v [])))))) o = some (.lst []) := (upd_ne (Ne.symm n1)).trans ((upd_ne o3m).trans o3)
  have m4 : (upd (upd H3 sp (.dK [])) x (.ins (He.ga K "Stand") dx (putF "spans" (.ref sp) (putF "music" (.ref mu) (putF "order" (.ref o) (putF "sheet" v [])))))) mu = some (.dK []) := (upd_ne (Ne.symm n2)).trans ((upd_ne m3m).trans m3)
  have s4 : (upd (upd H3 sp (.dK [])) x (.ins (He.ga K "Stand") dx (putF "spans" (.ref sp) (putF "music" (.ref mu) (putF "order" (.ref o) (putF "sheet" v [])))))) sp = some (.dK []) := (upd_ne (Ne.symm n3)).trans upd_same
  generalize upd (upd H3 sp (.dK [])) x (.ins (He.ga K "Stand") dx (putF "spans" (.ref sp) (putF "music" (.ref mu) (putF "order" (.ref o) (putF "sheet" v []))))) = H4 at b4 x4 o4 m4 s4
  refine fun bo nbo => ?_
  have n4 := neo x4 nbo
  have o4m : o ≠ bo := fun z => by rw [z, nbo] at o4; cases o4
  have m4m : mu ≠ bo := fun z => by rw [z, nbo] at m4; cases m4
  have s4m : sp ≠ bo := fun z => by rw [z, nbo] at s4; cases s4
  refine ⟨_, rfl, x, _, dx, _, rfl, (upd_ne n4).trans x4, C.cls 96, C.noat 102, by show 4 < 1000; decide, ?_⟩
  have b5 := (b4.new (o := .dK []) nbo).old (p := x) (o := .ins (He.ga K "Stand") dx (putF "bound" (.ref bo) (putF "spans" (.ref sp) (putF "music" (.ref mu) (putF "order" (.ref o) (putF "sheet" v [])))))) (by simp)
  have x5 : (upd (upd H4 bo (.dK [])) x (.ins (He.ga K "Stand") dx (putF "bound" (.ref bo) (putF "spans" (.ref sp) (putF "music" (.ref mu) (putF "order" (.ref o) (putF "sheet" v []))))))) x = some (.ins (He.ga K "Stand") dx (putF "bound" (.ref bo) (putF "spans" (.ref sp) (putF "music" (.ref mu) (putF "order" (.ref o) (putF "sheet" v [])))))) := upd_same
  have o5 : (upd (upd H4 bo (.dK [])) x (.ins (He.ga K "Stand") dx (putF "bound" (.ref bo) (putF "spans" (.ref sp) (putF "music" (.ref mu) (putF "order" (.ref o) (putF "sheet" v []))))))) o = some (.lst []) := (upd_ne (Ne.symm n1)).trans ((upd_ne o4m).trans o4)
  have m5 : (upd (upd H4 bo (.dK [])) x (.ins (He.ga K "Stand") dx (putF "bound" (.ref bo) (putF "spans" (.ref sp) (putF "music" (.ref mu) (putF "order" (.ref o) (putF "sheet" v []))))))) mu = some (.dK []) := (upd_ne (Ne.symm n2)).trans ((upd_ne m4m).trans m4)
  have s5 : (upd (upd H4 bo (.dK [])) x (.ins (He.ga K "Stand") dx (putF "bound" (.ref bo) (putF "spans" (.ref sp) (putF "music" (.ref mu) (putF "order" (.ref o) (putF "sheet" v []))))))) sp = some (.dK []) := (upd_ne (Ne.symm n3)).trans ((upd_ne s4m).trans s4)
  have d5 : (upd (upd H4 bo (.dK [])) x (.ins (He.ga K "Stand") dx (putF "bound" (.ref bo) (putF "spans" (.ref sp) (putF "music" (.ref mu) (putF "order" (.ref o) (putF "sheet" v []))))))) bo = some (.dK []) := (upd_ne (Ne.symm n4)).trans upd_same
  generalize upd (upd H4 bo (.dK [])) x (.ins (He.ga K "Stand") dx (putF "bound" (.ref bo) (putF "spans" (.ref sp) (putF "music" (.ref mu) (putF "order" (.ref o) (putF "sheet" v [])))))) = H5 at b5 x5 o5 m5 s5 d5
  refine ⟨by decide, fun t nt => ?_⟩
  have n5 := neo x5 nt
  refine ⟨_, rfl, x, _, dx, _, rfl, (upd_ne n5).trans x5, C.cls 96, C.noat 103, by show 5 < 1000; decide, ?_⟩
  have b6 := (b5.new (o := .tup [.int 1, .int 1]) nt).old (p := x) (o := .ins (He.ga K "Stand") dx (standFs ⟨o, mu, sp, bo⟩ v (.ref t))) (by simp)
  have at_ : ∀ {y : Addr} {u : HO}, H5 y = some u → y ≠ x → (upd (upd H5 t (.tup [.int 1, .int 1])) x (.ins (He.ga K "Stand") dx (standFs ⟨o, mu, sp, bo⟩ v (.ref t)))) y = some u := fun {y u} e n => (upd_ne n).trans ((upd_ne (fun z => by rw [z, nt] at e; cases e)).trans e)
  refine k ⟨o, mu, sp, bo⟩ _ b6 ?_ ⟨⟨dx, v, .ref t, upd_same, dp_but b6 _ _ (tup_sheet _) dv, .tup (SqT.of ((upd_ne (Ne.symm n5)).trans upd_same)) (.cons (.int _) (.cons (.int _) .nil))⟩, at_ o5 (Ne.symm n1), ⟨[], at_ m5 (Ne.symm n2), .nil⟩, ⟨[], at_ s5 (Ne.symm n3), .nil⟩, ⟨[], at_ d5 (Ne.symm n4), .nil⟩, m3m, m4m, s4m⟩
  intro y hy
  simp only [List.mem_cons, List.not_mem_nil, or_false] at hy
  rcases hy with rfl | rfl | rfl | rfl
  · exact b1.dom _ no
  · exact b2.dom _ nmu
  · exact b3.dom _ nsp
  · exact b4.dom _ nbo
end Bu
set_option Elab.async false
set_option linter.all false
set_option maxRecDepth 100000
set_option maxHeartbeats 4000000
/-! A stand copied. -/
namespace Bu
open PySem PySem.Spec PyProof.Rows L2
section
variable {K : PySem.W.Frag} {H H' : Hp} {a l : Addr} {c c' : Cnt} {s s' : Sta} {ks : List (Key × V)}
theorem re_all (h : StandAt K H a c s) {dx : Addr} {vs vf : V} (dv : Dp K H vs (sheetD s'.sheet)) (df : Dp K H vf (tipD s'.fresh)) (hc : ContAt K H c' s') : StandAt K (upd H a (.ins (He.ga K "Stand") dx (standFs c' vs vf))) a c' s' := by
  obtain ⟨_, _, _, h1, _, _⟩ := h.at_
  have b : But [a] H (upd H a (.ins (He.ga K "Stand") dx (standFs c' vs vf))) := But.one (nt_ins h1)
  obtain ⟨_, h2, _⟩ := id hc.mu
  obtain ⟨_, h3, _⟩ := id hc.sp
  obtain ⟨_, h4, _⟩ := id hc.bo
  have h5 := hc.o
  refine ⟨⟨dx, vs, vf, upd_same, dp_but b _ _ (tup_sheet _) dv, dp_but b _ _ (tup_tip _) df⟩, hc.but b ⟨?_, ?_, ?_, ?_⟩⟩ <;> intro z
  · rw [show c'.o = a by simpa using z, h1] at h5; cases h5
  · rw [show c'.mu = a by simpa using z, h1] at h2; cases h2
  · rw [show c'.sp = a by simpa using z, h1] at h3; cases h3
  · rw [show c'.bo = a by simpa using z, h1] at h4; cases h4
theorem re_order (h : StandAt K H a c s) {ord : List Int} (hl : H l = some (.lst (ord.map .int))) : ∃ dx vs vf, H a = some (.ins (He.ga K "Stand") dx (standFs c vs vf)) ∧ StandAt K (upd H a (.ins (He.ga K "Stand") dx (putF "order" (.ref l) (standFs c vs vf)))) a { c with o := l } { s with order := ord } := by
  obtain ⟨dx, vs, vf, h1, h2, h3⟩ := id h.at_
  exact ⟨dx, vs, vf, h1, re_all h (c' := { c with o := l }) (s' := { s with order := ord }) h2 h3 ⟨hl, h.cont.mu, h.cont.sp, h.cont.bo, h.cont.nd⟩⟩
theorem re_music (h : StandAt K H a c s) {m : List (Int × Br)} (hl : H l = some (.dK ks)) (kv : KvD K H brD ks m) (n : l ≠ c.sp ∧ l ≠ c.bo) : ∃ dx vs vf, H a = some (.ins (He.ga K "Stand") dx (standFs c vs vf)) ∧ StandAt K (upd H a (.ins (He.ga K "Stand") dx (putF "music" (.ref l) (standFs c vs vf)))) a { c with mu := l } { s with music := m } := by
  obtain ⟨dx, vs, vf, h1, h2, h3⟩ := id h.at_
  exact ⟨dx, vs, vf, h1, re_all h (c' := { c with mu := l }) (s' := { s with music := m }) h2 h3 ⟨h.cont.o, ⟨ks, hl, kv⟩, h.cont.sp, h.cont.bo, n.1, n.2, h.cont.nd.2.2⟩⟩
theorem re_spans (h : StandAt K H a c s) {m : List (Int × Span)} (hl : H l = some (.dK ks)) (kv : KvD K H spanD ks m) (n : c.mu ≠ l ∧ l ≠ c.bo) : ∃ dx vs vf, H a = some (.ins (He.ga K "Stand") dx (standFs c vs vf)) ∧ StandAt K (upd H a (.ins (He.ga K "Stand") dx (putF "spans" (.ref l) (standFs c vs vf)))) a { c with sp := l } { s with spans := m } := by
  obtain ⟨dx, vs, vf, h1, h2, h3⟩ := id h.at_
  exact ⟨dx, vs, vf, h1, re_all h (c' := { c with sp := l }) (s' := { s with spans := m }) h2 h3 ⟨h.cont.o, h.cont.mu, ⟨ks, hl, kv⟩, h.cont.bo, n.1, h.cont.nd.2.1, n.2⟩⟩
theorem re_bound (h : StandAt K H a c s) {m : List (Int × Str)} (hl : H l = some (.dK ks)) (kv : KvD K H PyData.str ks m) (n : c.mu ≠ l ∧ c.sp ≠ l) : ∃ dx vs vf, H a = some (.ins (He.ga K "Stand") dx (standFs c vs vf)) ∧ StandAt K (upd H a (.ins (He.ga K "Stand") dx (putF "bound" (.ref l) (standFs c vs vf)))) a { c with bo := l } { s with bound := m } := by
  obtain ⟨dx, vs, vf, h1, h2, h3⟩ := id h.at_
  exact ⟨dx, vs, vf, h1, re_all h (c' := { c with bo := l }) (s' := { s with bound := m }) h2 h3 ⟨h.cont.o, h.cont.mu, h.cont.sp, ⟨ks, hl, kv⟩, h.cont.nd.1, n.1, n.2⟩⟩
theorem re_fresh (h : StandAt K H a c s) {fr : Tip} {vf' : V} (df : Dp K H vf' (tipD fr)) : ∃ dx vs vf, H a = some (.ins (He.ga K "Stand") dx (standFs c vs vf)) ∧ StandAt K (upd H a (.ins (He.ga K "Stand") dx (putF "fresh" vf' (standFs c vs vf)))) a c { s with fresh := fr } := by
  obtain ⟨dx, vs, vf, h1, h2, h3⟩ := id h.at_
  exact ⟨dx, vs, vf, h1, re_all h (c' := c) (s' := { s with fresh := fr }) h2 df ⟨h.cont.o, h.cont.mu, h.cont.sp, h.cont.bo, h.cont.nd⟩⟩
/-- what a stand is made of is new -/
def Young (H : Hp) (a : Addr) (c : Cnt) : Prop := ∀ y ∈ mine a c, H y = none
end
def spLike (K : PySem.W.Frag) : Sp := fun vs H Q _ => ∃ (a : Addr) (c : Cnt) (s : Sta), vs = [.ref a] ∧ StandAt K H a c s ∧ ∀ a' c' H', But [] H H' → Young H a' c' → StandAt K H' a' c' s → Q (.ref a') H'
abbrev n_Stand_like : List Str := ["self", "made"]
theorem sc_Stand_like : FnScope n_Stand_like ["self"] d_Stand_like.scope := C8.fnScope_by (by decide +kernel)
theorem met_like {P : Program} {w : World} {K : PySem.W.Frag} {mg : Str → Option Value} {base : Heap} (C : Cn w K mg)  : Met P w K mg base CX0 3 "Stand" "like" (spLike K) := by
  refine C.met 62 107 96 d_Stand_like sc_Stand_like (fun _ _ _ _ _ _ us hl => match us, hl with | [_], _ => rfl) (fun vs H Q E h => ?_) (fun f cdv A outer s H vs Q E hr h => ?_)
  · obtain ⟨a, c, s, rfl, _⟩ := h
    rfl
  have nd := sc_Stand_like.nd
  refine ⟨_, PSs.nox (pss_cons (ps_set (i := 1) nd rfl (by first | exact Or.inl rfl | exact Or.inr rfl) (pe_mk (mk_Stand C) hr (pa_cons (pe_fld (pv 0) rfl) pa_nil))) (pss_cons (ps_fld (pv 1) (pe_callTy call_list_of (by rfl) (C.free 69) (by decide +kernel) (pa_cons (pe_fld (pv 0) rfl) pa_nil)) rfl) (pss_cons (ps_fld (pv 1) (pe_callTy call_dictD (by rfl) (C.free 70) (by decide +kernel) (pa_cons (pe_fld (pv 0) rfl) pa_nil)) rfl) (pss_cons (ps_fld (pv 1) (pe_callTy call_dictD (by rfl) (C.free 70) (by decide +kernel) (pa_cons (pe_fld (pv 0) rfl) pa_nil)) rfl) (pss_cons (ps_fld (pv 1) (pe_callTy call_dictD (by rfl) (C.free 70) (by decide +kernel) (pa_cons (pe_fld (pv 0) rfl) pa_nil)) rfl) (pss_cons (ps_fld (pv 1) (pe_fld (pv 0) rfl) rfl) (pss_one (ps_ret (pv 1))))))))), ?_⟩
  obtain ⟨a, c, s, rfl, hs, k⟩ := h
  dsimp only [tNext, tSeq, tAsg, tMake, tCons, tNil]
  refine fo_sheet C (vr rfl) hs fun vs dvs => fun x dx nx ndx ne => ?_
  have b0 : But [] H (upd (upd H dx (.own x)) x (.ins (He.ga K "Stand") dx [])) := (But.refl.new ndx).young nx
  have hx0 : (upd (upd H dx (.own x)) x (.ins (He.ga K "Stand") dx [])) x = some (.ins (He.ga K "Stand") dx []) := upd_same
  refine ⟨x, dx, vs, s.sheet, rfl, hx0, dp_but b0 _ _ (tup_sheet _) dvs, fun c0 H1 b1 y1 s1 => ⟨rfl, ?_⟩⟩
  have b1 : But [] H H1 := b0.thn (M1 := [x]) b1 fun y hy => .inr (by rw [show y = x by simpa using hy]; exact nx)
  have s1 : StandAt K H1 x c0 (empty s.sheet) := s1
  have y1 : ∀ y ∈ [c0.o, c0.mu, c0.sp, c0.bo], H y = none := fun y hy => b0.dom y (y1 y hy)
  have y1o := y1 c0.o (by simp)
  have y1m := y1 c0.mu (by simp)
  have y1s := y1 c0.sp (by simp)
  have y1b := y1 c0.bo (by simp)
  clear y1
  have hs1 := hs.new b1
  dsimp only [gName, tNext, tSeq, sFld, tBM, tCons, tNil]
  refine fo_order C (vr rfl) hs1.m ⟨c.o, _, rfl, .inl (SqL.of hs1.cont.o), fun l1 nl1 => ?_⟩
  have b2 := b1.new (o := .lst (s.order.map .int)) nl1
  have s2 := s1.new (But.refl.new (o := .lst (s.order.map .int)) nl1)
  have hl1 : (upd H1 l1 (.lst (s.order.map .int))) l1 = some (.lst (s.order.map .int)) := upd_same
  have yl1 := b1.dom _ nl1
  generalize upd H1 l1 (.lst (s.order.map .int)) = H2 at b2 s2 hl1
  obtain ⟨dx2, vs2, vf2, e2, s3⟩ := re_order s2 hl1
  refine ⟨_, rfl, x, _, dx2, _, rfl, e2, C.cls 96, C.noat 99, by show 6 < 1000; decide, ?_⟩
  try dsimp only [cxOf]
  have b3 := b2.young (o := .ins (He.ga K "Stand") dx2 (putF "order" (.ref l1) (standFs c0 vs2 vf2))) nx
  generalize upd H2 x (.ins (He.ga K "Stand") dx2 (putF "order" (.ref l1) (standFs c0 vs2 vf2))) = H3 at b3 s3
  have hs3 := hs.new b3
  obtain ⟨km, hm1, hm2⟩ := id hs3.cont.mu
  refine fo_music C (vr rfl) hs3.m ⟨c.mu, km, rfl, .inl hm1, fun l2 nl2 => ?_⟩
  have b4 := b3.new (o := .dK km) nl2
  have bN := But.refl.new (H := H3) (o := .dK km) nl2
  have s4 := s3.new bN
  have hl2 : (upd H3 l2 (.dK km)) l2 = some (.dK km) := upd_same
  have kv2 := kv_but bN tup_br hm2
  have yl2 := b3.dom _ nl2
  have ne2 : l2 ≠ c0.sp ∧ l2 ≠ c0.bo := by
    obtain ⟨_, h3, _⟩ := s3.cont.sp
    obtain ⟨_, h4, _⟩ := s3.cont.bo
    exact ⟨fun z => (by rw [z] at nl2; rw [nl2] at h3; cases h3), fun z => (by rw [z] at nl2; rw [nl2] at h4; cases h4)⟩
  generalize upd H3 l2 (.dK km) = H4 at b4 s4 hl2 kv2
  obtain ⟨dx4, vs4, vf4, e4, s5⟩ := re_music s4 hl2 kv2 ne2
  refine ⟨_, rfl, x, _, dx4, _, rfl, e4, C.cls 96, C.noat 100, by show 6 < 1000; decide, ?_⟩
  try dsimp only [cxOf]
  have b5 := b4.young (o := .ins (He.ga K "Stand") dx4 (putF "music" (.ref l2) (standFs { c0 with o := l1 } vs4 vf4))) nx
  generalize upd H4 x (.ins (He.ga K "Stand") dx4 (putF "music" (.ref l2) (standFs { c0 with o := l1 } vs4 vf4))) = H5 at b5 s5
  have hs5 := hs.new b5
  obtain ⟨kp, hp1, hp2⟩ := id hs5.cont.sp
  refine fo_spans C (vr rfl) hs5.m ⟨c.sp, kp, rfl, .inl hp1, fun l3 nl3 => ?_⟩
  have b6 := b5.new (o := .dK kp) nl3
  have bN := But.refl.new (H := H5) (o := .dK kp) nl3
  have s6 := s5.new bN
  have hl3 : (upd H5 l3 (.dK kp)) l3 = some (.dK kp) := upd_same
  have kv3 := kv_but bN tup_span hp2
  have yl3 := b5.dom _ nl3
  have ne3 : l2 ≠ l3 ∧ l3 ≠ c0.bo := by
    obtain ⟨_, h3, _⟩ := s5.cont.mu
    obtain ⟨_, h4, _⟩ := s5.cont.bo
    exact ⟨fun z => (by rw [← z] at nl3; rw [nl3] at h3; cases h3), fun z => (by rw [z] at nl3; rw [nl3] at h4; cases h4)⟩
  generalize upd H5 l3 (.dK kp) = H6 at b6 s6 hl3 kv3
  obtain ⟨dx6, vs6, vf6, e6, s7⟩ := re_spans s6 hl3 kv3 ne3
  refine ⟨_, rfl, x, _, dx6, _, rfl, e6, C.cls 96, C.noat 101, by show 6 < 1000; decide, ?_⟩
  try dsimp only [cxOf]
  have b7 := b6.young (o := .ins (He.ga K "Stand") dx6 (putF "spans" (.ref l3) (standFs { c0 with o := l1, mu := l2 } vs6 vf6))) nx
  generalize upd H6 x (.ins (He.ga K "Stand") dx6 (putF "spans" (.ref l3) (standFs { c0 with o := l1, mu := l2 } vs6 vf6))) = H7 at b7 s7
  have hs7 := hs.new b7
  obtain ⟨kb, hb1, hb2⟩ := id hs7.cont.bo
  refine fo_bound C (vr rfl) hs7.m ⟨c.bo, kb, rfl, .inl hb1, fun l4 nl4 => ?_⟩
  have b8 := b7.new (o := .dK kb) nl4
  have bN := But.refl.new (H := H7) (o := .dK kb) nl4
  have s8 := s7.new bN
  have hl4 : (upd H7 l4 (.dK kb)) l4 = some (.dK kb) := upd_same
  have kv4 := kv_but bN tup_str hb2
  have yl4 := b7.dom _ nl4
  have ne4 : l2 ≠ l4 ∧ l3 ≠ l4 := by
    obtain ⟨_, h3, _⟩ := s7.cont.mu
    obtain ⟨_, h4, _⟩ := s7.cont.sp
    exact ⟨fun z => (by rw [← z] at nl4; rw [nl4] at h3; cases h3), fun z => (by rw [← z] at nl4; rw [nl4] at h4; cases h4)⟩
  generalize upd H7 l4 (.dK kb) = H8 at b8 s8 hl4 kv4
  obtain ⟨dx8, vs8, vf8, e8, s9⟩ := re_bound s8 hl4 kv4 ne4
  refine ⟨_, rfl, x, _, dx8, _, rfl, e8, C.cls 96, C.noat 102, by show 6 < 1000; decide, ?_⟩
  try dsimp only [cxOf]
  have b9 := b8.young (o := .ins (He.ga K "Stand") dx8 (putF "bound" (.ref l4) (standFs { c0 with o := l1, mu := l2, sp := l3 } vs8 vf8))) nx
  generalize upd H8 x (.ins (He.ga K "Stand") dx8 (putF "bound" (.ref l4) (standFs { c0 with o := l1, mu := l2, sp := l3 } vs8 vf8))) = H9 at b9 s9
  have hs9 := hs.new b9
  refine fo_fresh C (vr rfl) hs9 fun vf dvf => ?_
  have dvf : Dp K H9 vf (tipD s.fresh) := dvf
  obtain ⟨dx9, vs9, vf9, e9, s10⟩ := re_fresh s9 dvf
  refine ⟨_, rfl, x, _, dx9, _, rfl, e9, C.cls 96, C.noat 103, by show 6 < 1000; decide, ?_⟩
  try dsimp only [cxOf]
  have b10 := b9.young (o := .ins (He.ga K "Stand") dx9 (putF "fresh" vf (standFs ⟨l1, l2, l3, l4⟩ vs9 vf9))) nx
  refine ⟨_, rfl, k x ⟨l1, l2, l3, l4⟩ _ b10 (fun y hy => ?_) s10⟩
  simp only [mine, List.mem_cons, List.not_mem_nil, or_false] at hy
  rcases hy with rfl | rfl | rfl | rfl | rfl
  · exact nx
  · exact yl1
  · exact yl2
  · exact yl3
  · exact yl4
end Bu
set_option Elab.async false
set_option linter.all false
set_option maxRecDepth 100000
set_option maxHeartbeats 4000000
/-! A shop in the heap; lists told apart by their lengths; what a stand tells. -/
namespace Bu
open PySem PySem.Spec PyProof.Rows L2
/-! ### data of any kind, kept -/
mutual
theorem dp_new {K : PySem.W.Frag} {H H1 : Hp} (b : But [] H H1) : ∀ (d : PyData) (v : V), Dp K H v d → Dp K H1 v d
  | .none, _, .non => .non
  | .bool _, _, .bl _ => .bl _
  | .int _, _, .int _ => .int _
  | .str _, _, .str _ => .str _
  | .tuple ds, _, .tup s a => .tup (b.sqT s) (dps_new b ds _ a)
  | .list ds, _, .lst s a => .lst (b.sqL s (by simp)) (dps_new b ds _ a)
  | .dict _, _, h => by cases h
theorem dps_new {K : PySem.W.Frag} {H H1 : Hp} (b : But [] H H1) : ∀ (ds : List PyData) (vs : List V), DpAll K H vs ds → DpAll K H1 vs ds
  | [], _, .nil => .nil
  | d :: ds, _, .cons p q => .cons (dp_new b d _ p) (dps_new b ds _ q)
end
/-! ### rules -/
section
variable {X : Cx}
/-- lists of unlike lengths -/
theorem op_eqLen (hu : X.A.units < cLine) : OpR X (compareOp .Eq) (fun x y H Q => ∃ (p q : Addr) (xs ys : List V), x = .ref p ∧ y = .ref q ∧ SqL X.K H p xs ∧ SqL X.K H q ys ∧ xs.length ≠ ys.length ∧ Q (.bl false) H) := by
  intro pins s σ H x y v u Q I rx ry h
  obtain ⟨p, q, xs, ys, rfl, rfl, hx, hy, hn, k⟩ := h
  obtain rfl : v = Value.ref p := rx
  obtain rfl : u = Value.ref q := ry
  obtain ⟨i1, r1, t1, _⟩ := I.list hx
  obtain ⟨i2, r2, t2, _⟩ := I.list hy
  refine SeqAt.eq_list_lengthsAt t1.isList t2.isList ?_ hu ⟨.bl false, H, I, rfl, k⟩
  have l1 := r1.length
  have l2 := r2.length
  simp only [List.size_toArray, bne_iff_ne, ne_eq]
  omega
end
theorem Cn.ins {w : World} {K : PySem.W.Frag} {mg : Str → Option Value} (C : Cn w K mg) : C8.InsC K (He.ga K "Shop") := by
  have h := C.facts.2.2.2.2
  have h2 := h.2
  unfold insB at h2
  simp only [Bool.and_eq_true, decide_eq_true_eq] at h2
  exact ⟨C.cls 97, h2.1, h2.2.1, h2.2.2.1, h.1, h2.2.2.2⟩
/-! ### what a stand tells -/
def intsL (l : List Int) : PyData := .list (l.map .int)
def markNos (s : Sta) : List Int := (s.spans.map (·.1)).mergeSort fun a b => decide (a ≤ b)
theorem markNos_perm (s : Sta) : (markNos s).Perm (s.spans.map (·.1)) := List.mergeSort_perm _ _
theorem markNos_of {s : Sta} {ys : List Int} (p : ys.Perm (s.spans.map (·.1))) (q : ys.Pairwise (· ≤ ·)) : ys = markNos s := by
  refine PySem.W.ksm_same (p.trans (markNos_perm s).symm) q ?_
  have := List.pairwise_mergeSort (le := fun a b : Int => decide (a ≤ b)) (fun a b c h1 h2 => decide_eq_true (Int.le_trans (of_decide_eq_true h1) (of_decide_eq_true h2))) (fun a b => by
    rcases Int.le_total a b with h | h
    · simp [h]
    · simp [h]) (s.spans.map (·.1))
  exact this.imp fun h => of_decide_eq_true h
theorem mem_markNos {s : Sta} {n : Int} : n ∈ markNos s ↔ n ∈ s.spans.map (·.1) := (markNos_perm s).mem_iff
def barOf (s : Sta) (n : Int) : Br := (getM s.music n).getD []
def spanOf (s : Sta) (n : Int) : Span := (getM s.spans n).getD (0, (0, 0), (0, 0), 0)
def barT (s : Sta) (n : Int) : PyData := .tuple [.int n, brD (barOf s n), .str (boundOf s n)]
def spanT (s : Sta) (n : Int) : PyData := .tuple [.int n, spanD (spanOf s n)]
def toldD (s : Sta) : PyData := .tuple [sheetD s.sheet, .list (s.order.map (barT s)), .list ((markNos s).map (spanT s)), tipD s.fresh]
def endsT (s : Sta) (k : Nat) : List PyData := (List.range k).flatMap fun (i : Nat) => match s.order[i]? with
  | some n => if 0 < i ∧ boundOf s n ≠ "free" then [.tuple [.int (i : Int), .str (boundOf s n)]] else []
  | none => []
theorem endsT_succ (s : Sta) (k : Nat) : endsT s (k + 1) = endsT s k ++ (match s.order[k]? with
  | some n => if 0 < k ∧ boundOf s n ≠ "free" then [.tuple [.int (k : Int), .str (boundOf s n)]] else []
  | none => []) := by
  unfold endsT
  rw [List.range_succ, List.flatMap_append]
  simp
theorem endsT_len (s : Sta) : ∀ k, (endsT s k).length ≤ k
  | 0 => by simp [endsT]
  | k + 1 => by
    rw [endsT_succ, List.length_append]
    have := endsT_len s k
    split
    · split <;> simp <;> omega
    · simp; omega
def endsD (s : Sta) : PyData := .list (endsT s s.order.length)
theorem getM_in {α : Type} {l : List (Int × α)} {n : Int} (h : n ∈ l.map (·.1)) : ∃ x, getM l n = some x := by
  have := getM_isSome.mpr h
  cases e : getM l n with
  | none => rw [e] at this; cases this
  | some x => exact ⟨x, rfl⟩
section
variable {K : PySem.W.Frag} {H : Hp} {a : Addr} {c : Cnt} {s : Sta}
theorem StandAt.bar (h : StandAt K H a c s) {n : Int} (hn : n ∈ s.music.map (·.1)) : ∃ v, DGet H c.mu (.int n) (some v) ∧ Dp K H v (brD (barOf s n)) := by
  obtain ⟨ks, h1, h2⟩ := h.cont.mu
  obtain ⟨x, hx⟩ := getM_in hn
  have hg : DGet H c.mu (.int n) (valV ks (.inl n)) := DGet.k (k := .inl n) h1
  rcases kv_get h2 n with ⟨e1, _⟩ | ⟨y, v, e1, e2, d⟩
  · rw [e1] at hx; cases hx
  · rw [e2] at hg
    exact ⟨v, hg, by unfold barOf; rw [e1]; exact d⟩
theorem StandAt.span (h : StandAt K H a c s) {n : Int} (hn : n ∈ s.spans.map (·.1)) : ∃ v, DGet H c.sp (.int n) (some v) ∧ Dp K H v (spanD (spanOf s n)) := by
  obtain ⟨ks, h1, h2⟩ := h.cont.sp
  obtain ⟨x, hx⟩ := getM_in hn
  have hg : DGet H c.sp (.int n) (valV ks (.inl n)) := DGet.k (k := .inl n) h1
  rcases kv_get h2 n with ⟨e1, _⟩ | ⟨y, v, e1, e2, d⟩
  · rw [e1] at hx; cases hx
  · rw [e2] at hg
    exact ⟨v, hg, by unfold spanOf; rw [e1]; exact d⟩
theorem StandAt.word (h : StandAt K H a c s) (n : Int) : ∃ (ks : List (Key × V)), H c.bo = some (.dK ks) ∧ DGet H c.bo (.int n) (valV ks (.inl n)) ∧ (valV ks (.inl n)).getD (.str "free") = .str (boundOf s n) := by
  obtain ⟨kb, h1, h2⟩ := h.cont.bo
  refine ⟨kb, h1, DGet.k (k := .inl n) h1, ?_⟩
  unfold boundOf
  rcases kv_get h2 n with ⟨e1, e2⟩ | ⟨w', v', e1, e2, dm⟩
  · rw [e1, e2]; rfl
  · rw [e1, e2]
    show v' = _
    rw [dp_str dm]; rfl
end
theorem br_tup (s : Sta) (n : Int) : tupD (barT s n) = true := by
  show tupDs [.int n, brD (barOf s n), .str (boundOf s n)] = true
  rw [tup_cons, tup_cons, tup_cons, tup_br]; rfl
theorem tupDs_map {α : Type} {f : α → PyData} (h : ∀ x, tupD (f x) = true) : ∀ l : List α, tupDs (l.map f) = true
  | [] => rfl
  | x :: r => by rw [List.map_cons, tup_cons, h x, tupDs_map h r]; rfl
def spTold (K : PySem.W.Frag) : Sp := fun vs H Q _ => ∃ (a : Addr) (c : Cnt) (s : Sta) (N : Int), vs = [.ref a] ∧ StandAt K H a c s ∧ s.Good N ∧ ∀ v H', But [] H H' → Dp K H' v (toldD s) → Q v H'
abbrev n_Stand_told : List Str := ["self", "bars", "one", "spans"]
theorem sc_Stand_told : FnScope n_Stand_told ["self"] d_Stand_told.scope := C8.fnScope_by (by decide +kernel)
theorem met_told {P : Program} {w : World} {K : PySem.W.Frag} {mg : Str → Option Value} {base : Heap} (C : Cn w K mg)  : Met P w K mg base CX0 1 "Stand" "told" (spTold K) := by
  refine C.met 63 108 96 d_Stand_told sc_Stand_told (fun _ _ _ _ _ _ us hl => match us, hl with | [_], _ => rfl) (fun vs H Q E h => ?_) (fun f cdv A outer s H vs Q E hr h => ?_)
  · obtain ⟨a, c, s, N, rfl, _⟩ := h
    rfl
  have nd := sc_Stand_told.nd
  refine ⟨_, PSs.nox (pss_cons (ps_setLc (i := 1) (own := [("one", 2)]) (tt := tYes) rfl nd rfl rfl (sw_true rfl rfl rfl (by decide +kernel)) (pi_list (pe_fld (pv 0) rfl)) (blkOk_by (own := [("one", 2)]) (N := n_Stand_told) (sc := d_Stand_told.scope) (by decide +kernel)) (fun _ _ _ _ _ => (pg_name (i := 2) nd rfl (by first | exact Or.inl rfl | exact Or.inr rfl))) (fun _ _ _ _ _ => pts_nil) (fun _ _ _ _ _ => (pe_tup (pa_cons (pv 2) (pa_cons (pe_dget (hu_of hr) (v_pe_fld (pv 0) rfl (K := K)) (pv 2) (fun _ _ => rfl)) (pa_cons (pe_dget2 (hu_of hr) (v_pe_fld (pv 0) rfl (K := K)) (pv 2) (pe_gi (C.str 95)) ⟨rfl, rfl, rfl, rfl⟩) pa_nil)))))) (pss_cons (ps_setLc (i := 3) (own := [("one", 2)]) (tt := tYes) rfl nd rfl rfl (sw_true rfl rfl rfl (by decide +kernel)) (pi_list (pe_callB (call_sortedDI rfl) (by rfl) (C.free 72) (by decide +kernel) (pa_cons (pe_fld (pv 0) rfl) pa_nil))) (blkOk_by (own := [("one", 2)]) (N := n_Stand_told) (sc := d_Stand_told.scope) (by decide +kernel)) (fun _ _ _ _ _ => (pg_name (i := 2) nd rfl (by first | exact Or.inl rfl | exact Or.inr rfl))) (fun _ _ _ _ _ => pts_nil) (fun _ _ _ _ _ => (pe_tup (pa_cons (pv 2) (pa_cons (pe_dget (hu_of hr) (v_pe_fld (pv 0) rfl (K := K)) (pv 2) (fun _ _ => rfl)) pa_nil))))) (pss_one (ps_ret (pe_tup (pa_cons (pe_fld (pv 0) rfl) (pa_cons (pv 1) (pa_cons (pv 3) (pa_cons (pe_fld (pv 0) rfl) pa_nil))))))))), ?_⟩
  obtain ⟨a, c, s, N, rfl, hs, hg, k⟩ := h
  have few := hg.few
  have sfew := hg.sfew
  dsimp only [tNext, tSeq]
  refine fo_order C (vr rfl) hs.m ⟨c.o, rfl, ⟨_, SqL.of hs.cont.o⟩, fun D nD => ?_⟩
  have b0 : But [] H (upd H D (.lst [])) := But.refl.new nD
  have old : ∀ {x : Addr} {o : HO}, H x = some o → x ∉ [D] := fun {x o} e z => by rw [show x = D by simpa using z, nD] at e; cases e
  refine lc_list (K := K) (a := c.o) (xs := s.order.map .int) (fun i H' => ∃ ys, Acc K [] (upd H D (.lst [])) D ((s.order.take i).map (barT s)) H' ys) ⟨_, Acc.start upd_same (by simp)⟩ ?_ ?_ ?_
  · rintro i H' _ ⟨ys, ac⟩
    exact SqL.of (ac.but.keep _ _ (b0.keep _ _ hs.cont.o (by simp)) (old hs.cont.o))
  · rintro i x H' hx ⟨ys, ac⟩
    rw [List.getElem?_map] at hx
    obtain ⟨n, hn, rfl⟩ := Option.map_eq_some_iff.mp hx
    have hm : n ∈ s.music.map (·.1) := (hg.keys n).mp (List.mem_of_getElem? hn)
    have bb : But [] H H' := b0.thn ac.but fun x hx => .inr (by rw [show x = D by simpa using hx]; exact nD)
    have hs' := hs.new bb
    obtain ⟨v, hv1, hv2⟩ := hs'.bar hm
    obtain ⟨ks, hb1, hb2, hb3⟩ := hs'.word n
    refine ⟨rfl, _, rfl, fo_music C (vr rfl) hs'.m ⟨_, rfl, c.mu, _, rfl, hv1, fo_bound C (vr rfl) hs'.m ⟨c.bo, rfl, .inl ⟨ks, .inl hb1⟩, _, rfl, _, hb2, ?_⟩⟩⟩
    rw [hb3]
    refine ⟨by show 3 ≤ sizeLine; decide, fun t nt => ?_⟩
    have bt : But [] H' (upd H' t (.tup [.int n, v, .str (boundOf s n)])) := But.refl.new nt
    obtain ⟨hD, ac'⟩ := ac.push (y := .ref t) (d := barT s n) bt (by simp) (.tup (SqT.of upd_same) (.cons (.int n) (.cons (dp_but bt _ _ (tup_br _) hv2) (.cons (.str _) .nil)))) (tupDs_map (br_tup s) _) (br_tup s n)
    refine ⟨_, hD, ?_, ys ++ [.ref t], ?_⟩
    · have := dpa_length ac.da
      rw [List.length_map, List.length_take] at this
      rw [sizeLine_eq]; omega
    · rw [List.take_add_one, hn, List.map_append]; exact ac'
  · rintro H1 ⟨ys, ac⟩
    rw [List.length_map, List.take_length] at ac
    have b1 : But [] H H1 := b0.thn ac.but fun x hx => .inr (by rw [show x = D by simpa using hx]; exact nD)
    have d1 : Dp K H1 (.ref D) (.list (s.order.map (barT s))) := .lst (SqL.of ac.at_) ac.da
    have hs1 := hs.new b1
    obtain ⟨kp, hp1, hp2⟩ := id hs1.cont.sp
    dsimp only [tNext, tSeq, tCB, tCons, tNil]
    refine fo_spans C (vr rfl) hs1.m ⟨c.sp, kp, s.spans.map (·.1), rfl, .inl hp1, kv_keys hp2, by rw [List.length_map]; omega, fun ys' p hperm hsort np => ?_⟩
    rw [markNos_of hperm hsort]
    have b2 : But [] H1 (upd H1 p (.lst ((markNos s).map .int))) := But.refl.new np
    refine ⟨p, rfl, ⟨_, SqL.of upd_same⟩, fun D2 nD2 => ?_⟩
    have hp : (upd H1 p (.lst ((markNos s).map .int))) p = some (.lst ((markNos s).map .int)) := upd_same
    generalize upd H1 p (.lst ((markNos s).map .int)) = H2 at b2 hp nD2
    have b3 : But [] H2 (upd H2 D2 (.lst [])) := But.refl.new nD2
    have lm : (markNos s).length = s.spans.length := by rw [(markNos_perm s).length_eq, List.length_map]
    refine lc_list (K := K) (a := p) (xs := (markNos s).map .int) (fun i H' => ∃ ys, Acc K [] (upd H2 D2 (.lst [])) D2 (((markNos s).take i).map (spanT s)) H' ys) ⟨_, Acc.start upd_same (by simp)⟩ ?_ ?_ ?_
    · rintro i H' _ ⟨ys, ac⟩
      exact SqL.of (ac.but.keep _ _ (b3.keep _ _ hp (by simp)) fun z => by rw [show p = D2 by simpa using z, nD2] at hp; cases hp)
    · rintro i x H' hx ⟨ys, ac⟩
      rw [List.getElem?_map] at hx
      obtain ⟨n, hn, rfl⟩ := Option.map_eq_some_iff.mp hx
      have hm : n ∈ s.spans.map (·.1) := mem_markNos.mp (List.mem_of_getElem? hn)
      have bb : But [] H2 H' := b3.thn ac.but fun x hx => .inr (by rw [show x = D2 by simpa using hx]; exact nD2)
      have hs' := hs1.new (b2.trans bb)
      obtain ⟨v, hv1, hv2⟩ := hs'.span hm
      refine ⟨rfl, _, rfl, fo_spans C (vr rfl) hs'.m ⟨_, rfl, c.sp, _, rfl, hv1, by show 2 ≤ sizeLine; decide, fun t nt => ?_⟩⟩
      have bt : But [] H' (upd H' t (.tup [.int n, v])) := But.refl.new nt
      obtain ⟨hD, ac'⟩ := ac.push (y := .ref t) (d := spanT s n) bt (by simp) (.tup (SqT.of upd_same) (.cons (.int n) (.cons (dp_but bt _ _ (tup_span _) hv2) .nil))) (tupDs_map (fun _ => rfl) _) rfl
      refine ⟨_, hD, ?_, ys ++ [.ref t], ?_⟩
      · have := dpa_length ac.da
        rw [List.length_map, List.length_take] at this
        rw [sizeLine_eq]; omega
      · rw [List.take_add_one, hn, List.map_append]; exact ac'
    · rintro H3 ⟨ys, ac⟩
      rw [List.length_map, List.take_length] at ac
      have b4 : But [] H2 H3 := b3.thn ac.but fun x hx => .inr (by rw [show x = D2 by simpa using hx]; exact nD2)
      have d2 : Dp K H3 (.ref D2) (.list ((markNos s).map (spanT s))) := .lst (SqL.of ac.at_) ac.da
      have b13 := b2.trans b4
      have hs3 := hs1.new b13
      dsimp only [tRet, tCons, tNil]
      refine fo_sheet C (vr rfl) hs3 fun v1 e1 => ⟨_, rfl, _, rfl, fo_fresh C (vr rfl) hs3 fun v2 e2 => ⟨by show 4 ≤ sizeLine; decide, fun t nt => ?_⟩⟩
      have bt : But [] H3 (upd H3 t (.tup [v1, .ref D, .ref D2, v2])) := But.refl.new nt
      exact k _ _ ((b1.trans b13).trans bt) (.tup (SqT.of upd_same) (.cons (dp_new bt _ _ e1) (.cons (dp_new (b13.trans bt) _ _ d1) (.cons (dp_new bt _ _ d2) (.cons (dp_new bt _ _ e2) .nil)))))
end Bu
set_option Elab.async false
set_option linter.all false
set_option maxRecDepth 100000
set_option maxHeartbeats 4000000
/-! A shop: what is asked of it. -/
namespace Bu
open PySem PySem.Spec PyProof.Rows L2
structure St where
  a : Addr
  c : Cnt
  s : Sta
structure Ent where
  d : De
  t : St
structure ShopS where
  p : Addr
  g : Addr
  now : St
  past : List Ent
  gone : List Ent
def stAt (K : PySem.W.Frag) (H : Hp) (t : St) : Prop := StandAt K H t.a t.c t.s
def EntAt (K : PySem.W.Frag) (H : Hp) (v : V) (e : Ent) : Prop := Deed e.d ∧ (∃ t w, v = .ref t ∧ SqT K H t [w, .ref e.t.a] ∧ Dp K H w e.d.toD) ∧ stAt K H e.t
def shopFs (p g a : Addr) : List (Str × V) := [("now", .ref a), ("past", .ref p), ("gone", .ref g)]
def stReads (t : St) : List Addr := mine t.a t.c
def ShopS.reads (S : ShopS) : List Addr := stReads S.now ++ ((S.past.flatMap fun e => stReads e.t) ++ S.gone.flatMap fun e => stReads e.t)
structure ShopAt (K : PySem.W.Frag) (H : Hp) (x : Addr) (S : ShopS) : Prop where
  at_ : ∃ dx, H x = some (.ins (He.ga K "Shop") dx (shopFs S.p S.g S.now.a))
  past : ∃ ps, H S.p = some (.lst ps) ∧ Paired (EntAt K H) ps S.past
  gone : ∃ gs, H S.g = some (.lst gs) ∧ Paired (EntAt K H) gs S.gone
  now : stAt K H S.now
  ne : S.p ≠ S.g
  sep : ∀ y ∈ S.reads, y ≠ x ∧ y ≠ S.p ∧ y ≠ S.g
section
variable {w : World} {mg : Str → Option Value} {K : PySem.W.Frag} {H H' : Hp} {x : Addr} {S : ShopS} {M : List Addr} {Q : VK} {te : TE} {σ : L2.St}
theorem EntAt.but {v : V} {e : Ent} (h : EntAt K H v e) (b : But M H H') (n : ∀ y ∈ stReads e.t, y ∉ M) : EntAt K H' v e := by
  obtain ⟨h1, ⟨t, w, rfl, h2, h3⟩, h4⟩ := h
  exact ⟨h1, ⟨t, w, rfl, b.sqT h2, dp_but b _ _ (tup_de h1) h3⟩, StandAt.but h4 b n⟩
theorem ents_but : ∀ {vs : List V} {es : List Ent}, Paired (EntAt K H) vs es → But M H H' → (∀ y ∈ es.flatMap fun e => stReads e.t, y ∉ M) → Paired (EntAt K H') vs es
  | _, _, .nil, _, _ => .nil
  | _, _, .cons p r, b, n => .cons (p.but b fun y hy => n y (List.mem_flatMap.mpr ⟨_, List.mem_cons_self, hy⟩)) (ents_but r b fun y hy => n y (by
      obtain ⟨e, he, hy⟩ := List.mem_flatMap.mp hy
      exact List.mem_flatMap.mpr ⟨e, List.mem_cons_of_mem _ he, hy⟩))
theorem ShopAt.but (h : ShopAt K H x S) (b : But M H H') (n : x ∉ M ∧ S.p ∉ M ∧ S.g ∉ M) (r : ∀ y ∈ S.reads, y ∉ M) : ShopAt K H' x S := by
  obtain ⟨dx, h1⟩ := h.at_
  obtain ⟨ps, h2, h3⟩ := h.past
  obtain ⟨gs, h4, h5⟩ := h.gone
  refine ⟨⟨dx, b.keep _ _ h1 n.1⟩, ⟨ps, b.keep _ _ h2 n.2.1, ents_but h3 b fun y hy => r y ?_⟩, ⟨gs, b.keep _ _ h4 n.2.2, ents_but h5 b fun y hy => r y ?_⟩, StandAt.but h.now b fun y hy => r y ?_, h.ne, h.sep⟩
  · exact List.mem_append_right _ (List.mem_append_left _ hy)
  · exact List.mem_append_right _ (List.mem_append_right _ hy)
  · exact List.mem_append_left _ hy
theorem ShopAt.new (h : ShopAt K H x S) (b : But [] H H') : ShopAt K H' x S := h.but b (by simp) (by simp)
theorem ents_live : ∀ {vs : List V} {es : List Ent}, Paired (EntAt K H) vs es → ∀ y ∈ es.flatMap fun e => stReads e.t, H y ≠ none ∧ ∀ ys, ¬ Rd H y (.tup ys)
  | _, _, .nil, _, hy => by simp at hy
  | _, _, .cons p r, y, hy => by
    obtain ⟨e', he, hy'⟩ := List.mem_flatMap.mp hy
    rcases List.mem_cons.mp he with rfl | he
    · exact StandAt.live p.2.2 y hy'
    · exact ents_live r y (List.mem_flatMap.mpr ⟨e', he, hy'⟩)
theorem ShopAt.live (h : ShopAt K H x S) : ∀ y ∈ x :: S.p :: S.g :: S.reads, H y ≠ none ∧ ∀ ys, ¬ Rd H y (.tup ys) := by
  obtain ⟨dx, h1⟩ := h.at_
  obtain ⟨ps, h2, h3⟩ := h.past
  obtain ⟨gs, h4, h5⟩ := h.gone
  intro y hy
  rcases List.mem_cons.mp hy with rfl | hy
  · exact ⟨by rw [h1]; simp, nt_ins h1⟩
  rcases List.mem_cons.mp hy with rfl | hy
  · exact ⟨by rw [h2]; simp, nt_lst h2⟩
  rcases List.mem_cons.mp hy with rfl | hy
  · exact ⟨by rw [h4]; simp, nt_lst h4⟩
  rcases List.mem_append.mp hy with hy | hy
  · exact StandAt.live h.now y hy
  rcases List.mem_append.mp hy with hy | hy
  · exact ents_live h3 y hy
  · exact ents_live h5 y hy
theorem fs_now (C : Cn w K mg) (ht : ∀ Q', Q' (V.ref x) H → te σ H Q') (h : ShopAt K H x S) (q : Q (.ref S.now.a) H) : tFld K te "now" σ H Q := ht _ (by
  obtain ⟨dx, h1⟩ := h.at_
  exact ⟨x, _, dx, _, _, rfl, h1, C.cls 97, C.noat 104, rfl, q⟩)
theorem fs_past (C : Cn w K mg) (ht : ∀ Q', Q' (V.ref x) H → te σ H Q') (h : ShopAt K H x S) (q : Q (.ref S.p) H) : tFld K te "past" σ H Q := ht _ (by
  obtain ⟨dx, h1⟩ := h.at_
  exact ⟨x, _, dx, _, _, rfl, h1, C.cls 97, C.noat 105, rfl, q⟩)
theorem fs_gone (C : Cn w K mg) (ht : ∀ Q', Q' (V.ref x) H → te σ H Q') (h : ShopAt K H x S) (q : Q (.ref S.g) H) : tFld K te "gone" σ H Q := ht _ (by
  obtain ⟨dx, h1⟩ := h.at_
  exact ⟨x, _, dx, _, _, rfl, h1, C.cls 97, C.noat 106, rfl, q⟩)
end
/-- a promise that tells data of a shop -/
def spAsk (K : PySem.W.Frag) (f : ShopS → PyData) : Sp := fun vs H Q _ => ∃ (x : Addr) (S : ShopS) (N : Int), vs = [.ref x] ∧ ShopAt K H x S ∧ S.now.s.Good N ∧ (S.past.length < 1000 ∧ S.gone.length < 1000) ∧ ∀ v H', But [] H H' → Dp K H' v (f S) → Q v H'
/-- a list that is new, of data made of tuples -/
def FrL (K : PySem.W.Frag) (H H' : Hp) (v : V) (d : PyData) : Prop := Dp K H' v d ∧ ∃ D ds, v = .ref D ∧ H D = none ∧ d = .list ds ∧ tupDs ds = true
theorem FrL.mk {K : PySem.W.Frag} {H H' : Hp} {D : Addr} {xs : List V} {ds : List PyData} (n : H D = none) (h : H' D = some (.lst xs)) (a : DpAll K H' xs ds) (t : tupDs ds = true) : FrL K H H' (.ref D) (.list ds) := ⟨.lst (SqL.of h) a, D, ds, rfl, n, rfl, t⟩
theorem FrL.but {K : PySem.W.Frag} {H H' H2 : Hp} {v : V} {d : PyData} {M : List Addr} (h : FrL K H H' v d) (b : But M H' H2) (n : ∀ x ∈ M, H x ≠ none) : FrL K H H2 v d := by
  obtain ⟨dp, D, ds, rfl, nD, rfl, t⟩ := h
  obtain ⟨D', vs, e, h1, h2⟩ := dp_lst dp
  cases e
  exact ⟨.lst (b.sqL h1 fun z => n _ z nD) (dps_but b _ _ t h2), D, ds, rfl, nD, rfl, t⟩
theorem FrL.old {K : PySem.W.Frag} {H0 H H' : Hp} {v : V} {d : PyData} {M : List Addr} (h : FrL K H H' v d) (b : But M H0 H) : FrL K H0 H' v d := by
  obtain ⟨dp, D, ds, e, nD, f⟩ := h
  exact ⟨dp, D, ds, e, b.free nD, f⟩
/-- spAsk, the answer a new list -/
def spAskL (K : PySem.W.Frag) (f : ShopS → PyData) : Sp := fun vs H Q _ => ∃ (x : Addr) (S : ShopS) (N : Int), vs = [.ref x] ∧ ShopAt K H x S ∧ S.now.s.Good N ∧ (S.past.length < 1000 ∧ S.gone.length < 1000) ∧ ∀ v H', But [] H H' → FrL K H H' v (f S) → Q v H'
theorem Met.weakL {P : Program} {w : World} {K : PySem.W.Frag} {mg : Str → Option Value} {base : Heap} {CX : CXT} {k : Nat} {x m : Str} {f : ShopS → PyData} (h : Met P w K mg base CX k x m (spAskL K f)) : Met P w K mg base CX k x m (spAsk K f) := by
  obtain ⟨g, fd, ps, h1, h2, F, h4⟩ := h.ex
  exact ⟨g, fd, ps, h1, h2, F.imp fun vs H Q E ⟨x, S, N, e, a, b, c, q⟩ => ⟨x, S, N, e, a, b, c, fun v H' b d => q v H' b d.1⟩, h4⟩
abbrev n_Shop_bars : List Str := ["self"]
theorem sc_Shop_bars : FnScope n_Shop_bars ["self"] d_Shop_bars.scope := C8.fnScope_by (by decide +kernel)
theorem met_barsL {P : Program} {w : World} {K : PySem.W.Frag} {mg : Str → Option Value} {base : Heap} (C : Cn w K mg)  : Met P w K mg base CX0 1 "Shop" "bars" (spAskL K fun S => intsL S.now.s.order) := by
  refine C.met 78 122 97 d_Shop_bars sc_Shop_bars (fun _ _ _ _ _ _ us hl => match us, hl with | [_], _ => rfl) (fun vs H Q E h => ?_) (fun f cdv A outer s H vs Q E hr h => ?_)
  · obtain ⟨x, S, N, rfl, _⟩ := h
    rfl
  have nd := sc_Shop_bars.nd
  refine ⟨_, PSs.nox (pss_one (ps_ret (pe_callTy call_list_of (by rfl) (C.free 69) (by decide +kernel) (pa_cons (pe_fld (pe_fld (pv 0) rfl) rfl) pa_nil)))), ?_⟩
  obtain ⟨x, S, N, rfl, hS, hg, _, k⟩ := h
  refine fo_order C (fun _ q => fs_now C (vr rfl) hS q) (StandAt.m hS.now) ⟨S.now.c.o, _, rfl, .inl (SqL.of hS.now.cont.o), fun l nl => ?_⟩
  exact k _ _ (But.refl.new nl) (FrL.mk nl upd_same (dpa_ints _) (tup_ints _))
theorem met_bars {P : Program} {w : World} {K : PySem.W.Frag} {mg : Str → Option Value} {base : Heap} (C : Cn w K mg) : Met P w K mg base CX0 1 "Shop" "bars" (spAsk K fun S => intsL S.now.s.order) := (met_barsL C).weakL
abbrev n_Shop_marks : List Str := ["self"]
theorem sc_Shop_marks : FnScope n_Shop_marks ["self"] d_Shop_marks.scope := C8.fnScope_by (by decide +kernel)
theorem met_marksL {P : Program} {w : World} {K : PySem.W.Frag} {mg : Str → Option Value} {base : Heap} (C : Cn w K mg)  : Met P w K mg base CX0 1 "Shop" "marks" (spAskL K fun S => intsL (markNos S.now.s)) := by
  refine C.met 79 123 97 d_Shop_marks sc_Shop_marks (fun _ _ _ _ _ _ us hl => match us, hl with | [_], _ => rfl) (fun vs H Q E h => ?_) (fun f cdv A outer s H vs Q E hr h => ?_)
  · obtain ⟨x, S, N, rfl, _⟩ := h
    rfl
  have nd := sc_Shop_marks.nd
  refine ⟨_, PSs.nox (pss_one (ps_ret (pe_callB (call_sortedDI rfl) (by rfl) (C.free 72) (by decide +kernel) (pa_cons (pe_fld (pe_fld (pv 0) rfl) rfl) pa_nil)))), ?_⟩
  obtain ⟨x, S, N, rfl, hS, hg, _, k⟩ := h
  have sfew := hg.sfew
  obtain ⟨kp, hp1, hp2⟩ := id hS.now.cont.sp
  refine fo_spans C (fun _ q => fs_now C (vr rfl) hS q) (StandAt.m hS.now) ⟨S.now.c.sp, kp, S.now.s.spans.map (·.1), rfl, .inl hp1, kv_keys hp2, by rw [List.length_map]; omega, fun ys' p hperm hsort np => ?_⟩
  rw [markNos_of hperm hsort]
  exact k _ _ (But.refl.new np) (FrL.mk np upd_same (dpa_ints _) (tup_ints _))
theorem met_marks {P : Program} {w : World} {K : PySem.W.Frag} {mg : Str → Option Value} {base : Heap} (C : Cn w K mg) : Met P w K mg base CX0 1 "Shop" "marks" (spAsk K fun S => intsL (markNos S.now.s)) := (met_marksL C).weakL
abbrev n_Shop_paper : List Str := ["self"]
theorem sc_Shop_paper : FnScope n_Shop_paper ["self"] d_Shop_paper.scope := C8.fnScope_by (by decide +kernel)
theorem met_paper {P : Program} {w : World} {K : PySem.W.Frag} {mg : Str → Option Value} {base : Heap} (C : Cn w K mg)  : Met P w K mg base CX0 1 "Shop" "paper" (spAsk K fun S => sheetD S.now.s.sheet) := by
  refine C.met 83 127 97 d_Shop_paper sc_Shop_paper (fun _ _ _ _ _ _ us hl => match us, hl with | [_], _ => rfl) (fun vs H Q E h => ?_) (fun f cdv A outer s H vs Q E hr h => ?_)
  · obtain ⟨x, S, N, rfl, _⟩ := h
    rfl
  have nd := sc_Shop_paper.nd
  refine ⟨_, PSs.nox (pss_one (ps_ret (pe_fld (pe_fld (pv 0) rfl) rfl))), ?_⟩
  obtain ⟨x, S, N, rfl, hS, hg, _, k⟩ := h
  exact fo_sheet C (fun _ q => fs_now C (vr rfl) hS q) hS.now fun v dv => k v H But.refl dv
abbrev n_Shop_coming : List Str := ["self"]
theorem sc_Shop_coming : FnScope n_Shop_coming ["self"] d_Shop_coming.scope := C8.fnScope_by (by decide +kernel)
theorem met_coming {P : Program} {w : World} {K : PySem.W.Frag} {mg : Str → Option Value} {base : Heap} (C : Cn w K mg)  : Met P w K mg base CX0 1 "Shop" "coming" (spAsk K fun S => tipD S.now.s.fresh) := by
  refine C.met 84 128 97 d_Shop_coming sc_Shop_coming (fun _ _ _ _ _ _ us hl => match us, hl with | [_], _ => rfl) (fun vs H Q E h => ?_) (fun f cdv A outer s H vs Q E hr h => ?_)
  · obtain ⟨x, S, N, rfl, _⟩ := h
    rfl
  have nd := sc_Shop_coming.nd
  refine ⟨_, PSs.nox (pss_one (ps_ret (pe_fld (pe_fld (pv 0) rfl) rfl))), ?_⟩
  obtain ⟨x, S, N, rfl, hS, hg, _, k⟩ := h
  exact fo_fresh C (fun _ q => fs_now C (vr rfl) hS q) hS.now fun v dv => k v H But.refl dv
abbrev n_Shop_len : List Str := ["self"]
theorem sc_Shop_len : FnScope n_Shop_len ["self"] d_Shop_len.scope := C8.fnScope_by (by decide +kernel)
theorem met_len {P : Program} {w : World} {K : PySem.W.Frag} {mg : Str → Option Value} {base : Heap} (C : Cn w K mg)  : Met P w K mg base CX0 1 "Shop" "__len__" (spAsk K fun S => .int S.now.s.order.length) := by
  refine C.met 70 114 97 d_Shop_len sc_Shop_len (fun _ _ _ _ _ _ us hl => match us, hl with | [_], _ => rfl) (fun vs H Q E h => ?_) (fun f cdv A outer s H vs Q E hr h => ?_)
  · obtain ⟨x, S, N, rfl, _⟩ := h
    rfl
  have nd := sc_Shop_len.nd
  refine ⟨_, PSs.nox (pss_one (ps_ret (pe_callB call_len_seq (by rfl) (C.free 67) (by decide +kernel) (pa_cons (pe_fld (pe_fld (pv 0) rfl) rfl) pa_nil)))), ?_⟩
  obtain ⟨x, S, N, rfl, hS, hg, _, k⟩ := h
  refine fo_order C (fun _ q => fs_now C (vr rfl) hS q) (StandAt.m hS.now) ⟨S.now.c.o, _, rfl, .inl (SqL.of hS.now.cont.o), ?_⟩
  rw [List.length_map]
  exact k _ _ But.refl (.int _)
abbrev n_Shop_piece : List Str := ["self", "number"]
theorem sc_Shop_piece : FnScope n_Shop_piece ["self"] d_Shop_piece.scope := C8.fnScope_by (by decide +kernel)
theorem met_piece {P : Program} {w : World} {K : PySem.W.Frag} {mg : Str → Option Value} {base : Heap} (C : Cn w K mg)  : Met P w K mg base CX0 1 "Shop" "piece" (spAsk K fun S => .list (S.now.s.order.map fun n => brD (barOf S.now.s n))) := by
  refine C.met 85 129 97 d_Shop_piece sc_Shop_piece (fun _ _ _ _ _ _ us hl => match us, hl with | [_], _ => rfl) (fun vs H Q E h => ?_) (fun f cdv A outer s H vs Q E hr h => ?_)
  · obtain ⟨x, S, N, rfl, _⟩ := h
    rfl
  have nd := sc_Shop_piece.nd
  refine ⟨_, PSs.nox (pss_one (ps_ret (pe_lc (own := [("number", 1)]) (tt := tYes) rfl nd (pi_list (pe_fld (pe_fld (pv 0) rfl) rfl)) (blkOk_by (own := [("number", 1)]) (N := n_Shop_piece) (sc := d_Shop_piece.scope) (by decide +kernel)) (fun _ _ _ _ _ => (pg_name (i := 1) nd rfl (by first | exact Or.inl rfl | exact Or.inr rfl))) (fun _ _ _ _ _ => pts_nil) (fun _ _ _ _ _ => (pe_dget (hu_of hr) (v_pe_fld (v_pe_fld (pv 0) rfl (K := K)) rfl (K := K)) (pv 1) (fun _ _ => rfl)))))), ?_⟩
  obtain ⟨x, S, N, rfl, hS, hg, _, k⟩ := h
  have few := hg.few
  dsimp only [tRet]
  refine fo_order C (fun _ q => fs_now C (vr rfl) hS q) (StandAt.m hS.now) ⟨S.now.c.o, rfl, ⟨_, SqL.of hS.now.cont.o⟩, fun D nD => ?_⟩
  have b0 : But [] H (upd H D (.lst [])) := But.refl.new nD
  have old : ∀ {x : Addr} {o : HO}, H x = some o → x ∉ [D] := fun {x o} e z => by rw [show x = D by simpa using z, nD] at e; cases e
  refine lc_list (K := K) (a := S.now.c.o) (xs := S.now.s.order.map .int) (fun i H' => ∃ ys, Acc K [] (upd H D (.lst [])) D ((S.now.s.order.take i).map fun n => brD (barOf S.now.s n)) H' ys) ⟨_, Acc.start upd_same (by simp)⟩ ?_ ?_ ?_
  · rintro i H' _ ⟨ys, ac⟩
    exact SqL.of (ac.but.keep _ _ (b0.keep _ _ hS.now.cont.o (by simp)) (old hS.now.cont.o))
  · rintro i y H' hx ⟨ys, ac⟩
    rw [List.getElem?_map] at hx
    obtain ⟨n, hn, rfl⟩ := Option.map_eq_some_iff.mp hx
    have hm : n ∈ S.now.s.music.map (·.1) := (hg.keys n).mp (List.mem_of_getElem? hn)
    have bb : But [] H H' := b0.thn ac.but fun x hx => .inr (by rw [show x = D by simpa using hx]; exact nD)
    have hS' := hS.new bb
    obtain ⟨v, hv1, hv2⟩ := hS'.now.bar hm
    refine ⟨rfl, ?_⟩
    dsimp only [tYes]
    rw [if_pos rfl]
    dsimp only [tDGet]
    refine fo_music C (fun _ q => fs_now C (vr rfl) hS' q) (StandAt.m hS'.now) ⟨_, rfl, S.now.c.mu, _, rfl, hv1, ?_⟩
    obtain ⟨hD, ac'⟩ := ac.push (y := v) (d := brD (barOf S.now.s n)) But.refl (by simp) hv2 (tupDs_map (fun n => tup_br _) _) (tup_br _)
    refine ⟨_, hD, ?_, ys ++ [v], ?_⟩
    · have := dpa_length ac.da
      rw [List.length_map, List.length_take] at this
      rw [sizeLine_eq]; omega
    · rw [List.take_add_one, hn, List.map_append]; exact ac'
  · rintro H1 ⟨ys, ac⟩
    rw [List.length_map, List.take_length] at ac
    exact k _ _ (b0.thn ac.but fun x hx => .inr (by rw [show x = D by simpa using hx]; exact nD)) (.lst (SqL.of ac.at_) ac.da)
theorem ents_at {K : PySem.W.Frag} {H : Hp} : ∀ {vs : List V} {es : List Ent} {i : Nat} {v : V}, Paired (EntAt K H) vs es → vs[i]? = some v → ∃ e, es[i]? = some e ∧ EntAt K H v e
  | _, _, _, _, .nil, e => by simp at e
  | _, _, 0, _, .cons p _, e => by simp at e; subst e; exact ⟨_, rfl, p⟩
  | _, _, i + 1, v, .cons _ r, e => by
    obtain ⟨q, h1, h2⟩ := ents_at (i := i) (v := v) r (by simpa using e)
    exact ⟨q, by simpa using h1, h2⟩
theorem ents_ok {K : PySem.W.Frag} {H : Hp} : ∀ {vs : List V} {es : List Ent}, Paired (EntAt K H) vs es → ∀ e ∈ es, Deed e.d
  | _, _, .nil, _, h => by simp at h
  | _, _, .cons p r, e, h => by
    rcases List.mem_cons.mp h with rfl | h
    · exact p.1
    · exact ents_ok r e h
theorem tup_ents {es : List Ent} (h : ∀ e ∈ es, Deed e.d) : tupDs (es.map (·.d.toD)) = true := tup_of fun x hx => by
  obtain ⟨e, he, rfl⟩ := List.mem_map.mp hx
  exact tup_de (h e he)
abbrev n_Shop_deeds : List Str := ["self", "deed", "stand"]
theorem sc_Shop_deeds : FnScope n_Shop_deeds ["self"] d_Shop_deeds.scope := C8.fnScope_by (by decide +kernel)
theorem met_deedsL {P : Program} {w : World} {K : PySem.W.Frag} {mg : Str → Option Value} {base : Heap} (C : Cn w K mg)  : Met P w K mg base CX0 1 "Shop" "deeds" (spAskL K fun S => .list (S.past.map (·.d.toD))) := by
  refine C.met 75 119 97 d_Shop_deeds sc_Shop_deeds (fun _ _ _ _ _ _ us hl => match us, hl with | [_], _ => rfl) (fun vs H Q E h => ?_) (fun f cdv A outer s H vs Q E hr h => ?_)
  · obtain ⟨x, S, N, rfl, _⟩ := h
    rfl
  have nd := sc_Shop_deeds.nd
  refine ⟨_, PSs.nox (pss_one (ps_ret (pe_lc (own := [("deed", 1), ("stand", 2)]) (tt := tYes) rfl nd (pi_list (pe_fld (pv 0) rfl)) (blkOk_by (own := [("deed", 1), ("stand", 2)]) (N := n_Shop_deeds) (sc := d_Shop_deeds.scope) (by decide +kernel)) (fun _ _ _ _ _ => (v_pg_tup rfl (pgs_cons (pg_name (i := 1) nd rfl (by first | exact Or.inl rfl | exact Or.inr rfl)) (pgs_cons (pg_name (i := 2) nd rfl (by first | exact Or.inl rfl | exact Or.inr rfl)) pgs_nil)) (K := K) (n := 2))) (fun _ _ _ _ _ => pts_nil) (fun _ _ _ _ _ => (pv 1))))), ?_⟩
  obtain ⟨x, S, N, rfl, hS, hg, hl, k⟩ := h
  obtain ⟨ps, hp, hps⟩ := hS.past
  have lp := Paired.length hps
  dsimp only [tRet]
  refine fs_past C (vr rfl) hS ⟨S.p, rfl, ⟨_, SqL.of hp⟩, fun D nD => ?_⟩
  have b0 : But [] H (upd H D (.lst [])) := But.refl.new nD
  have old : ∀ {x : Addr} {o : HO}, H x = some o → x ∉ [D] := fun {x o} e z => by rw [show x = D by simpa using z, nD] at e; cases e
  refine lc_list (K := K) (a := S.p) (xs := ps) (fun i H' => ∃ ys, Acc K [] (upd H D (.lst [])) D ((S.past.take i).map (·.d.toD)) H' ys) ⟨_, Acc.start upd_same (by simp)⟩ ?_ ?_ ?_
  · rintro i H' _ ⟨ys, ac⟩
    exact SqL.of (ac.but.keep _ _ (b0.keep _ _ hp (by simp)) (old hp))
  · rintro i y H' hx ⟨ys, ac⟩
    have bb : But [] H H' := b0.thn ac.but fun x hx => .inr (by rw [show x = D by simpa using hx]; exact nD)
    obtain ⟨e, he, hd, ⟨t, w', rfl, ht, hw⟩, _⟩ := ents_at hps hx
    refine ⟨t, _, rfl, bb.sqT ht, rfl, _, _, rfl, _, _, rfl, rfl, rfl, _, rfl, ?_⟩
    obtain ⟨hD, ac'⟩ := ac.push (y := w') (d := e.d.toD) But.refl (by simp) (dp_but bb _ _ (tup_de hd) hw) (tup_ents fun e' he' => ents_ok hps e' (List.mem_of_mem_take he')) (tup_de hd)
    refine ⟨_, hD, ?_, ys ++ [w'], ?_⟩
    · have := dpa_length ac.da
      rw [List.length_map, List.length_take] at this
      rw [sizeLine_eq]; omega
    · rw [List.take_add_one, he, List.map_append]; exact ac'
  · rintro H1 ⟨ys, ac⟩
    rw [lp, List.take_length] at ac
    exact k _ _ (b0.thn ac.but fun x hx => .inr (by rw [show x = D by simpa using hx]; exact nD)) (FrL.mk nD ac.at_ ac.da (tup_ents (ents_ok hps)))
theorem met_deeds {P : Program} {w : World} {K : PySem.W.Frag} {mg : Str → Option Value} {base : Heap} (C : Cn w K mg) : Met P w K mg base CX0 1 "Shop" "deeds" (spAsk K fun S => .list (S.past.map (·.d.toD))) := (met_deedsL C).weakL
theorem paired_rev {α β : Type} {R : α → β → Prop} : ∀ {a : List α} {b : List β}, Paired R a b → Paired R a.reverse b.reverse
  | _, _, .nil => .nil
  | _, _, .cons p r => by
    rw [List.reverse_cons, List.reverse_cons]
    exact paired_app (paired_rev r) (.cons p .nil)
abbrev n_Shop_undone : List Str := ["self", "deed", "stand"]
theorem sc_Shop_undone : FnScope n_Shop_undone ["self"] d_Shop_undone.scope := C8.fnScope_by (by decide +kernel)
theorem met_undoneL {P : Program} {w : World} {K : PySem.W.Frag} {mg : Str → Option Value} {base : Heap} (C : Cn w K mg)  : Met P w K mg base CX0 1 "Shop" "undone" (spAskL K fun S => .list (S.gone.reverse.map (·.d.toD))) := by
  refine C.met 76 120 97 d_Shop_undone sc_Shop_undone (fun _ _ _ _ _ _ us hl => match us, hl with | [_], _ => rfl) (fun vs H Q E h => ?_) (fun f cdv A outer s H vs Q E hr h => ?_)
  · obtain ⟨x, S, N, rfl, _⟩ := h
    rfl
  have nd := sc_Shop_undone.nd
  refine ⟨_, PSs.nox (pss_one (ps_ret (pe_lc (own := [("deed", 1), ("stand", 2)]) (tt := tYes) rfl nd (pi_list (pe_revL (pe_fld (pv 0) rfl))) (blkOk_by (own := [("deed", 1), ("stand", 2)]) (N := n_Shop_undone) (sc := d_Shop_undone.scope) (by decide +kernel)) (fun _ _ _ _ _ => (v_pg_tup rfl (pgs_cons (pg_name (i := 1) nd rfl (by first | exact Or.inl rfl | exact Or.inr rfl)) (pgs_cons (pg_name (i := 2) nd rfl (by first | exact Or.inl rfl | exact Or.inr rfl)) pgs_nil)) (K := K) (n := 2))) (fun _ _ _ _ _ => pts_nil) (fun _ _ _ _ _ => (pv 1))))), ?_⟩
  obtain ⟨x, S, N, rfl, hS, hg, hl, k⟩ := h
  obtain ⟨gs, hp0, hps0⟩ := hS.gone
  have hps := paired_rev hps0
  have lp := Paired.length hps
  have lr : S.gone.reverse.length < 1000 := by rw [List.length_reverse]; exact hl.2
  dsimp only [tRet, tRevL]
  refine fs_gone C (vr rfl) hS ⟨S.g, gs, rfl, SqL.of hp0, fun q nq => ⟨q, rfl, ⟨_, SqL.of upd_same⟩, fun D nD => ?_⟩⟩
  have bq : But [] H (upd H q (.lst gs.reverse)) := But.refl.new nq
  have hp : (upd H q (.lst gs.reverse)) q = some (.lst gs.reverse) := upd_same
  generalize upd H q (.lst gs.reverse) = H0 at bq hp nD
  have b0 : But [] H0 (upd H0 D (.lst [])) := But.refl.new nD
  have old : ∀ {x : Addr} {o : HO}, H0 x = some o → x ∉ [D] := fun {x o} e z => by rw [show x = D by simpa using z, nD] at e; cases e
  refine lc_list (K := K) (a := q) (xs := gs.reverse) (fun i H' => ∃ ys, Acc K [] (upd H0 D (.lst [])) D ((S.gone.reverse.take i).map (·.d.toD)) H' ys) ⟨_, Acc.start upd_same (by simp)⟩ ?_ ?_ ?_
  · rintro i H' _ ⟨ys, ac⟩
    exact SqL.of (ac.but.keep _ _ (b0.keep _ _ hp (by simp)) (old hp))
  · rintro i y H' hx ⟨ys, ac⟩
    have bb : But [] H H' := bq.trans (b0.thn ac.but fun x hx => .inr (by rw [show x = D by simpa using hx]; exact nD))
    obtain ⟨e, he, hd, ⟨t, w', rfl, ht, hw⟩, _⟩ := ents_at hps hx
    refine ⟨t, _, rfl, bb.sqT ht, rfl, _, _, rfl, _, _, rfl, rfl, rfl, _, rfl, ?_⟩
    obtain ⟨hD, ac'⟩ := ac.push (y := w') (d := e.d.toD) But.refl (by simp) (dp_but bb _ _ (tup_de hd) hw) (tup_ents fun e' he' => ents_ok hps e' (List.mem_of_mem_take he')) (tup_de hd)
    refine ⟨_, hD, ?_, ys ++ [w'], ?_⟩
    · have := dpa_length ac.da
      rw [List.length_map, List.length_take] at this
      rw [sizeLine_eq]; omega
    · rw [List.take_add_one, he, List.map_append]; exact ac'
  · rintro H1 ⟨ys, ac⟩
    rw [lp, List.take_length] at ac
    exact k _ _ (bq.trans (b0.thn ac.but fun x hx => .inr (by rw [show x = D by simpa using hx]; exact nD))) (FrL.mk (bq.free nD) ac.at_ ac.da (tup_ents (ents_ok hps)))
theorem met_undone {P : Program} {w : World} {K : PySem.W.Frag} {mg : Str → Option Value} {base : Heap} (C : Cn w K mg) : Met P w K mg base CX0 1 "Shop" "undone" (spAsk K fun S => .list (S.gone.reverse.map (·.d.toD))) := (met_undoneL C).weakL
end Bu
set_option Elab.async false
set_option linter.all false
set_option maxRecDepth 100000
set_option maxHeartbeats 4000000
/-! A shop: what is asked of one bar, one mark; its ends; its text; a shop told apart. -/
namespace Bu
open PySem PySem.Spec PyProof.Rows L2
def spNeed0 (K : PySem.W.Frag) : Sp := fun vs H Q _ => ∃ (a : Addr) (c : Cnt) (s : Sta) (n : Int), vs = [.ref a, .int n] ∧ StandM K H a c s ∧ n ∈ s.music.map (·.1) ∧ Q .non H
theorem met_need_bar0 {P : Program} {w : World} {K : PySem.W.Frag} {mg : Str → Option Value} {base : Heap} (C : Cn w K mg)  : Met P w K mg base CX0 1 "Stand" "need_bar" (spNeed0 K) := by
  refine C.met 64 109 96 d_Stand_need_bar sc_Stand_need_bar (fun _ _ _ _ _ _ us hl => match us, hl with | [_, _], _ => rfl) (fun vs H Q E h => ?_) (fun f cdv A outer s H vs Q E hr h => ?_)
  · obtain ⟨a, c, s, n, rfl, _⟩ := h
    rfl
  have nd := sc_Stand_need_bar.nd
  refine ⟨_, PSs.nox (pss_one (ps_if (pt_cmp (pc_dnotin (hu_of hr) (pv 1) (pe_fld (pv 0) rfl))) (pss_one ps_never) pss_nil)), ?_⟩
  obtain ⟨a, c, s, n, rfl, hs, hn, k⟩ := h
  obtain ⟨ks, hk1, hk2⟩ := hs.mu
  obtain ⟨y, hy⟩ := getM_in hn
  refine ⟨_, rfl, fo_music C (vr rfl) hs ⟨c.mu, _, rfl, DGet.k (k := .inl n) hk1, ?_⟩⟩
  rcases kv_get hk2 n with ⟨e1, e2⟩ | ⟨m, v, e1, e2, _⟩
  · rw [e1] at hy; cases hy
  · rw [e2]
    exact ⟨_, rfl, k⟩
def spAskN (K : PySem.W.Frag) (ok : Sta → Int → Prop) (f : Sta → Int → PyData) : Sp := fun vs H Q _ => ∃ (x : Addr) (S : ShopS) (N : Int) (n : Int), vs = [.ref x, .int n] ∧ ShopAt K H x S ∧ S.now.s.Good N ∧ ok S.now.s n ∧ ∀ v H', But [] H H' → Dp K H' v (f S.now.s n) → Q v H'
def isNo (s : Sta) (n : Int) : Prop := n ∈ s.order
def isMk (s : Sta) (n : Int) : Prop := n ∈ s.spans.map (·.1)
abbrev n_Shop_bar : List Str := ["self", "number"]
theorem sc_Shop_bar : FnScope n_Shop_bar ["self", "number"] d_Shop_bar.scope := C8.fnScope_by (by decide +kernel)
theorem met_bar {P : Program} {w : World} {K : PySem.W.Frag} {mg : Str → Option Value} {base : Heap} (C : Cn w K mg)  : Met P w K mg base CX0 2 "Shop" "bar" (spAskN K isNo fun s n => brD (barOf s n)) := by
  refine C.met 80 124 97 d_Shop_bar sc_Shop_bar (fun _ _ _ _ _ _ us hl => match us, hl with | [_, _], _ => rfl) (fun vs H Q E h => ?_) (fun f cdv A outer s H vs Q E hr h => ?_)
  · obtain ⟨x, S, N, n, rfl, _⟩ := h
    rfl
  have nd := sc_Shop_bar.nd
  refine ⟨_, PSs.nox (pss_cons (ps_expr (pe_m (met_need_bar0 C) hr (pe_fld (pv 0) rfl) (pa_cons (pv 1) pa_nil))) (pss_one (ps_ret (pe_dget (hu_of hr) (pe_fld (pe_fld (pv 0) rfl) rfl) (pv 1) (fun _ _ => rfl))))), ?_⟩
  obtain ⟨x, S, N, n, rfl, hS, hg, hn, k⟩ := h
  have hm : n ∈ S.now.s.music.map (·.1) := (hg.keys n).mp hn
  obtain ⟨dx, _, _, h1, _, _⟩ := id hS.now.at_
  obtain ⟨v, hv1, hv2⟩ := hS.now.bar hm
  refine fs_now C (vr rfl) hS ⟨S.now.a, dx, _, rfl, h1, rfl, _, rfl, S.now.a, S.now.c, S.now.s, n, rfl, StandAt.m hS.now, hm, ?_⟩
  dsimp only [tRet, tDGet]
  exact fo_music C (fun _ q => fs_now C (vr rfl) hS q) (StandAt.m hS.now) ⟨_, rfl, S.now.c.mu, _, rfl, hv1, k _ _ But.refl hv2⟩
abbrev n_Shop_word : List Str := ["self", "number"]
theorem sc_Shop_word : FnScope n_Shop_word ["self", "number"] d_Shop_word.scope := C8.fnScope_by (by decide +kernel)
theorem met_word {P : Program} {w : World} {K : PySem.W.Frag} {mg : Str → Option Value} {base : Heap} (C : Cn w K mg)  : Met P w K mg base CX0 2 "Shop" "word" (spAskN K isNo fun s n => .str (boundOf s n)) := by
  refine C.met 81 125 97 d_Shop_word sc_Shop_word (fun _ _ _ _ _ _ us hl => match us, hl with | [_, _], _ => rfl) (fun vs H Q E h => ?_) (fun f cdv A outer s H vs Q E hr h => ?_)
  · obtain ⟨x, S, N, n, rfl, _⟩ := h
    rfl
  have nd := sc_Shop_word.nd
  refine ⟨_, PSs.nox (pss_cons (ps_expr (pe_m (met_need_bar0 C) hr (pe_fld (pv 0) rfl) (pa_cons (pv 1) pa_nil))) (pss_one (ps_ret (pe_dget2 (hu_of hr) (pe_fld (pe_fld (pv 0) rfl) rfl) (pv 1) (pe_gi (C.str 95)) ⟨rfl, rfl, rfl, rfl⟩)))), ?_⟩
  obtain ⟨x, S, N, n, rfl, hS, hg, hn, k⟩ := h
  have hm : n ∈ S.now.s.music.map (·.1) := (hg.keys n).mp hn
  obtain ⟨dx, _, _, h1, _, _⟩ := id hS.now.at_
  obtain ⟨ks, hb1, hb2, hb3⟩ := hS.now.word n
  refine fs_now C (vr rfl) hS ⟨S.now.a, dx, _, rfl, h1, rfl, _, rfl, S.now.a, S.now.c, S.now.s, n, rfl, StandAt.m hS.now, hm, ?_⟩
  dsimp only [tRet, tDGet2]
  refine fo_bound C (fun _ q => fs_now C (vr rfl) hS q) (StandAt.m hS.now) ⟨S.now.c.bo, rfl, .inl ⟨ks, .inl hb1⟩, _, rfl, _, hb2, ?_⟩
  rw [hb3]
  exact k _ _ But.refl (.str _)
abbrev n_Shop_mark : List Str := ["self", "number"]
theorem sc_Shop_mark : FnScope n_Shop_mark ["self", "number"] d_Shop_mark.scope := C8.fnScope_by (by decide +kernel)
theorem met_mark {P : Program} {w : World} {K : PySem.W.Frag} {mg : Str → Option Value} {base : Heap} (C : Cn w K mg)  : Met P w K mg base CX0 1 "Shop" "mark" (spAskN K isMk fun s n => spanD (spanOf s n)) := by
  refine C.met 82 126 97 d_Shop_mark sc_Shop_mark (fun _ _ _ _ _ _ us hl => match us, hl with | [_, _], _ => rfl) (fun vs H Q E h => ?_) (fun f cdv A outer s H vs Q E hr h => ?_)
  · obtain ⟨x, S, N, n, rfl, _⟩ := h
    rfl
  have nd := sc_Shop_mark.nd
  refine ⟨_, PSs.nox (pss_cons (ps_if (pt_cmp (pc_dnotin (hu_of hr) (pv 1) (pe_fld (pe_fld (pv 0) rfl) rfl))) (pss_one ps_never) pss_nil) (pss_one (ps_ret (pe_dget (hu_of hr) (pe_fld (pe_fld (pv 0) rfl) rfl) (pv 1) (fun _ _ => rfl))))), ?_⟩
  obtain ⟨x, S, N, n, rfl, hS, hg, hn, k⟩ := h
  obtain ⟨v, hv1, hv2⟩ := hS.now.span hn
  refine ⟨_, rfl, fo_spans C (fun _ q => fs_now C (vr rfl) hS q) (StandAt.m hS.now) ⟨S.now.c.sp, _, rfl, hv1, _, rfl, ?_⟩⟩
  refine iteF ?_
  dsimp only [gName, tNext, tSeq, tRet, tDGet]
  exact fo_spans C (fun _ q => fs_now C (vr rfl) hS q) (StandAt.m hS.now) ⟨_, rfl, S.now.c.sp, _, rfl, hv1, k _ _ But.refl hv2⟩
abbrev n_Shop_ends : List Str := ["self", "at", "one"]
theorem sc_Shop_ends : FnScope n_Shop_ends ["self"] d_Shop_ends.scope := C8.fnScope_by (by decide +kernel)
theorem met_ends {P : Program} {w : World} {K : PySem.W.Frag} {mg : Str → Option Value} {base : Heap} (C : Cn w K mg)  : Met P w K mg base CX0 3 "Shop" "ends" (spAsk K fun S => endsD S.now.s) := by
  refine C.met 86 130 97 d_Shop_ends sc_Shop_ends (fun _ _ _ _ _ _ us hl => match us, hl with | [_], _ => rfl) (fun vs H Q E h => ?_) (fun f cdv A outer s H vs Q E hr h => ?_)
  · obtain ⟨x, S, N, rfl, _⟩ := h
    rfl
  have nd := sc_Shop_ends.nd
  refine ⟨_, PSs.nox (pss_one (ps_ret (pe_lc (own := [("at", 1), ("one", 2)]) rfl nd (pi_enum (by rfl) (C.free 80) (pa_cons (pe_fld (pe_fld (pv 0) rfl) rfl) pa_nil)) (blkOk_by (own := [("at", 1), ("one", 2)]) (N := n_Shop_ends) (sc := d_Shop_ends.scope) (by decide +kernel)) (fun _ _ _ _ _ => (v_pg_tup rfl (pgs_cons (pg_name (i := 1) nd rfl (by first | exact Or.inl rfl | exact Or.inr rfl)) (pgs_cons (pg_name (i := 2) nd rfl (by first | exact Or.inl rfl | exact Or.inr rfl)) pgs_nil)) (K := K) (n := 2))) (fun _ _ _ _ _ => (pts_one (PW.pt (pw_and (pt_cmpR op_gt (pv 1) pe_int (nomark _)) (pw_and1 (pt_cmpR op_ne (v_pe_m (met_word C) hr (pv 0) (pa_cons (pv 2) pa_nil) (K := K) (CX := CX0)) (pe_gi (C.str 95)) (nomark _))))))) (fun _ _ _ _ _ => (pe_tup (pa_cons (pv 1) (pa_cons (v_pe_m (met_word C) hr (pv 0) (pa_cons (pv 2) pa_nil) (K := K) (CX := CX0)) pa_nil))))))), ?_⟩
  obtain ⟨x, S, N, rfl, hS, hg, hl, k⟩ := h
  have few := hg.few
  dsimp only [tRet]
  refine fo_order C (fun _ q => fs_now C (vr rfl) hS q) (StandAt.m hS.now) ⟨S.now.c.o, _, rfl, SqL.of hS.now.cont.o, fun D nD => ?_⟩
  have b0 : But [] H (upd H D (.lst [])) := But.refl.new nD
  have old : ∀ {x : Addr} {o : HO}, H x = some o → x ∉ [D] := fun {x o} e z => by rw [show x = D by simpa using z, nD] at e; cases e
  have tupE : ∀ i, tupDs (endsT S.now.s i) = true := fun i => tup_of fun d hd => by
    obtain ⟨j, _, hd⟩ := List.mem_flatMap.mp hd
    cases e : S.now.s.order[j]? with
    | none => rw [e] at hd; cases hd
    | some n =>
      rw [e] at hd
      dsimp only at hd
      split at hd
      · rw [List.mem_singleton.mp hd]; rfl
      · cases hd
  refine lc_it (walk_enum (K := K) (a := S.now.c.o) (xs := S.now.s.order.map .int)) (fun i H' => ∃ ys, Acc K [] (upd H D (.lst [])) D (endsT S.now.s i) H' ys) ⟨_, Acc.start upd_same (by simp)⟩ ?_ ?_ ?_
  · rintro i H' _ ⟨ys, ac⟩
    exact SqL.of (ac.but.keep _ _ (b0.keep _ _ hS.now.cont.o (by simp)) (old hS.now.cont.o))
  · rintro i y H0 H' hi ⟨ys, ac⟩ ⟨T, x1, x2, rfl, nT, rfl, e1, e2⟩
    cases e1
    have e2 : (S.now.s.order.map V.int)[i]? = some x2 := e2
    rw [List.getElem?_map] at e2
    obtain ⟨n, hn, rfl⟩ := Option.map_eq_some_iff.mp e2
    have bb : But [] H H0 := b0.thn ac.but fun x hx => .inr (by rw [show x = D by simpa using hx]; exact nD)
    have bT : But [] H0 (upd H0 T (.tup [.int (i : Nat), .int n])) := But.refl.new nT
    have hS' := hS.new (bb.trans bT)
    have hlen := dpa_length ac.da
    have hi' : i < S.now.s.order.length := by simpa using hi
    have ok : isNo S.now.s n := List.mem_of_getElem? hn
    obtain ⟨dx, h1⟩ := hS'.at_
    have le := endsT_len S.now.s i
    have fin : ∀ {H3}, But [] (upd H0 T (.tup [.int (i : Nat), .int n])) H3 → (¬ (0 < i ∧ boundOf S.now.s n ≠ "free")) → ∃ ys, Acc K [] (upd H D (.lst [])) D (endsT S.now.s (i + 1)) H3 ys := fun {H3} b3 hno => by
      refine ⟨ys, (bT.trans b3).keep _ _ ac.at_ (by simp), ac.but.step (bT.trans b3), ?_⟩
      rw [endsT_succ, hn]
      dsimp only
      rw [if_neg hno, List.append_nil]
      exact dps_but (bT.trans b3) _ _ (tupE i) ac.da
    refine ⟨T, _, rfl, SqT.of upd_same, rfl, _, _, rfl, _, _, rfl, rfl, rfl, ?_⟩
    refine ⟨_, rfl, _, _, rfl, rfl, _, rfl, ite2 (fun e3 => ⟨_, rfl, x, dx, _, rfl, h1, rfl, _, rfl, x, S, N, n, rfl, hS', hg, ok, fun v H3 b3 dv => ?_⟩) (fun e3 => ?_)⟩
    · cases dp_str dv
      refine ⟨rfl, _, rfl, ite2 (fun e4 => ?_) (fun e4 => ?_)⟩
      · have c4 : boundOf S.now.s n ≠ "free" := fun z => by rw [z] at e4; simp at e4
        have c3 : 0 < i := by have := of_decide_eq_true e3; omega
        obtain ⟨dx3, h13⟩ := (hS'.new b3).at_
        refine ⟨_, rfl, _, rfl, x, dx3, _, rfl, h13, rfl, _, rfl, x, S, N, n, rfl, hS'.new b3, hg, ok, fun v4 H4 b4 dv4 => ⟨by show 2 ≤ sizeLine; decide, fun t nt => ?_⟩⟩
        cases dp_str dv4
        have bt : But [] H4 (upd H4 t (.tup [.int (i : Nat), .str (boundOf S.now.s n)])) := But.refl.new nt
        obtain ⟨hD, ac'⟩ := ac.push (y := .ref t) (d := .tuple [.int (i : Nat), .str (boundOf S.now.s n)]) (bT.trans (b3.trans (b4.trans bt))) (by simp) (.tup (SqT.of upd_same) (.cons (.int _) (.cons (.str _) .nil))) (tupE i) rfl
        refine ⟨_, hD, by rw [sizeLine_eq]; omega, ys ++ [.ref t], ?_⟩
        rw [endsT_succ, hn]
        dsimp only
        rw [if_pos ⟨c3, c4⟩]
        exact ac'
      · refine fin b3 fun z => ?_
        have : decide (V.str (boundOf S.now.s n) = V.str "free") = true := by simpa using e4
        exact z.2 (V.str.inj (of_decide_eq_true this))
    · exact fin But.refl fun z => e3 (decide_eq_true (by omega))
  · rintro H1 ⟨ys, ac⟩
    rw [List.length_map] at ac
    exact k _ _ (b0.thn ac.but fun x hx => .inr (by rw [show x = D by simpa using hx]; exact nD)) (.lst (SqL.of ac.at_) ac.da)
end Bu
set_option Elab.async false
set_option linter.all false
set_option maxRecDepth 100000
set_option maxHeartbeats 4000000
/-! How deep data are; shops compared; a shop's text. -/
namespace Bu
open PySem PySem.Spec PyProof.Rows L2
structure Sh (d : PyData) (n : Nat) : Prop where
  lay : d.canLay0 = true
  dep : d.depth ≤ n
theorem Sh.mono {d : PyData} {n m : Nat} (h : Sh d n) (k : n ≤ m) : Sh d m := ⟨h.lay, Nat.le_trans h.dep k⟩
theorem Sh.int {i : Int} {n : Nat} : Sh (.int i) n := ⟨rfl, Nat.zero_le _⟩
theorem Sh.non {n : Nat} : Sh .none n := ⟨rfl, Nat.zero_le _⟩
theorem Sh.str {x : Str} {n : Nat} (h : (PyData.str x).canLay0 = true) : Sh (.str x) n := ⟨h, Nat.zero_le _⟩
theorem sh_all : ∀ {ds : List PyData} {n : Nat}, (∀ d ∈ ds, Sh d n) → PyData.canLayAll0 ds = true ∧ PyData.depthAll ds ≤ n
  | [], _, _ => ⟨rfl, Nat.zero_le _⟩
  | d :: r, n, h => by
    obtain ⟨h1, h2⟩ := sh_all (ds := r) (n := n) fun x hx => h x (by simp [hx])
    have h3 := h d (by simp)
    refine ⟨?_, Nat.max_le.mpr ⟨h3.dep, h2⟩⟩
    show (PyData.canLay0 d && PyData.canLayAll0 r) = true
    rw [h3.lay, h1]; rfl
theorem Sh.tup {ds : List PyData} {n : Nat} (h : ∀ d ∈ ds, Sh d n) : Sh (.tuple ds) (n + 1) := ⟨(sh_all h).1, Nat.succ_le_succ (sh_all h).2⟩
theorem Sh.lst {ds : List PyData} {n : Nat} (h : ∀ d ∈ ds, Sh d n) : Sh (.list ds) (n + 1) := ⟨(sh_all h).1, Nat.succ_le_succ (sh_all h).2⟩
theorem Sh.shaped {d : PyData} {n : Nat} (h : Sh d n) (k : n ≤ 64 := by decide) : SeqAt.shaped d = true := shp h.lay h.dep k
theorem Sh.refl {d : PyData} {n : Nat} (h : Sh d n) : PyData.eqv d d = true := SeqAt.eqv_refl d h.lay
theorem sh_head {h : Hd} (ok : Hd.ok h) : Sh (hdD h) 1 := Sh.tup (n := 0) fun d hd => by
  simp only [List.mem_cons, List.not_mem_nil, or_false] at hd
  rcases hd with rfl | rfl | rfl
  · exact .int
  · exact .int
  · refine .str ?_
    have ok : h.2.2 ∈ signs := ok
    unfold signs at ok
    simp only [List.mem_cons, List.not_mem_nil, or_false] at ok
    rcases ok with e | e | e | e <;> rw [e] <;> decide +kernel
theorem sh_mo {m : Mo} (ok : Mo.ok m) : Sh (moD m) 3 := Sh.tup (n := 2) fun d hd => by
  simp only [List.mem_cons, List.not_mem_nil, or_false] at hd
  rcases hd with rfl | rfl | rfl
  · exact .int
  · exact Sh.tup fun d hd => by
      obtain ⟨h, hh, rfl⟩ := List.mem_map.mp hd
      exact sh_head (ok.2 h hh)
  · exact .int
theorem sh_br {b : Br} (ok : Br.ok b) : Sh (brD b) 4 := Sh.tup (n := 3) fun d hd => by
  obtain ⟨m, hm, rfl⟩ := List.mem_map.mp hd
  exact sh_mo (ok m hm)
theorem sh_ints (l : List Int) : ∀ d ∈ l.map PyData.int, Sh d 0 := fun d hd => by
  obtain ⟨i, _, rfl⟩ := List.mem_map.mp hd
  exact .int
theorem sh_tip (t : Tip) : Sh (tipD t) 1 := Sh.tup (n := 0) (sh_ints [t.1, t.2])
theorem sh_span (s : Span) : Sh (spanD s) 2 := Sh.tup (n := 1) fun d hd => by
  simp only [List.mem_cons, List.not_mem_nil, or_false] at hd
  rcases hd with rfl | rfl | rfl | rfl
  · exact .int
  · exact sh_tip _
  · exact sh_tip _
  · exact .int
theorem sh_sheet (s : Sheet) : Sh (sheetD s) 1 := Sh.tup (sh_ints s)
theorem sh_plain {d : De} (h : Plain d) : Sh d.toD 5 := by
  cases d with
  | bar i m =>
    exact Sh.tup (n := 4) fun d hd => by
      simp only [List.mem_cons, List.not_mem_nil, or_false] at hd
      rcases hd with rfl | rfl | rfl
      · exact .str (by decide +kernel)
      · exact .int
      · exact sh_br h.1
  | change i m =>
    exact Sh.tup (n := 4) fun d hd => by
      simp only [List.mem_cons, List.not_mem_nil, or_false] at hd
      rcases hd with rfl | rfl | rfl
      · exact .str (by decide +kernel)
      · exact .int
      · exact sh_br h.2.1
  | cut i =>
    exact Sh.tup (n := 4) fun d hd => by
      simp only [List.mem_cons, List.not_mem_nil, or_false] at hd
      rcases hd with rfl | rfl
      · exact .str (by decide +kernel)
      · exact .int
  | move i j =>
    exact Sh.tup (n := 4) fun d hd => by
      simp only [List.mem_cons, List.not_mem_nil, or_false] at hd
      rcases hd with rfl | rfl | rfl
      · exact .str (by decide +kernel)
      · exact .int
      · exact .int
  | mark sp =>
    exact Sh.tup (n := 4) fun d hd => by
      simp only [List.mem_cons, List.not_mem_nil, or_false] at hd
      rcases hd with rfl | rfl | rfl | rfl | rfl
      · exact .str (by decide +kernel)
      · exact .int
      · exact (sh_tip _).mono (by decide)
      · exact (sh_tip _).mono (by decide)
      · exact .int
  | wipe i =>
    exact Sh.tup (n := 4) fun d hd => by
      simp only [List.mem_cons, List.not_mem_nil, or_false] at hd
      rcases hd with rfl | rfl
      · exact .str (by decide +kernel)
      · exact .int
  | fin i x =>
    exact Sh.tup (n := 4) fun d hd => by
      simp only [List.mem_cons, List.not_mem_nil, or_false] at hd
      rcases hd with rfl | rfl | rfl
      · exact .str (by decide +kernel)
      · exact .int
      · refine .str ?_
        have hx := h.2
        simp only [List.mem_cons, List.not_mem_nil, or_false] at hx
        rcases hx with e | e | e | e | e <;> rw [e] <;> decide +kernel
  | paper sh =>
    exact Sh.tup (n := 4) fun d hd => by
      rcases List.mem_cons.mp hd with rfl | hd
      · exact .str (by decide +kernel)
      · exact (sh_ints _ d hd).mono (Nat.zero_le _)
  | odd l =>
    refine Sh.tup (n := 4) fun d hd => ?_
    rcases (h : OddOk l) with rfl | rfl | rfl | ⟨n, rfl⟩
    · cases hd
    · simp only [List.mem_cons, List.not_mem_nil, or_false] at hd
      rw [hd]; exact .str (by decide +kernel)
    · simp only [List.mem_cons, List.not_mem_nil, or_false] at hd
      rcases hd with rfl | rfl
      · exact .str (by decide +kernel)
      · exact .int
    · simp only [List.mem_cons, List.not_mem_nil, or_false] at hd
      rcases hd with rfl | rfl | rfl
      · exact .str (by decide +kernel)
      · exact .int
      · exact .int
  | many l => exact h.elim
theorem sh_de {d : De} (h : Deed d) : Sh d.toD 7 := by
  cases d with
  | many l =>
    refine Sh.tup (n := 6) fun d hd => ?_
    simp only [List.mem_cons, List.not_mem_nil, or_false] at hd
    rcases hd with rfl | rfl
    · exact .str (by decide +kernel)
    · rw [toDs_eq]
      refine Sh.tup (n := 5) fun d hd => ?_
      obtain ⟨e, he, rfl⟩ := List.mem_map.mp hd
      rcases h.2 e he with h | rfl | rfl
      · exact sh_plain h
      · exact ⟨by decide +kernel, by decide +kernel⟩
      · exact ⟨by decide +kernel, by decide +kernel⟩
  | _ => exact Sh.mono (n := 5) (sh_plain (show Plain _ from h)) (by decide)
theorem sh_bound {s : Sta} {N : Int} (g : s.Good N) (n : Int) {k : Nat} : Sh (.str (boundOf s n)) k := by
  refine .str ?_
  unfold boundOf
  cases e : getM s.bound n with
  | none => decide +kernel
  | some x =>
    have hx := (g.bnd _ (getM_mem e)).2
    simp only [List.mem_cons, List.not_mem_nil, or_false] at hx
    show (PyData.str x).canLay0 = true
    rcases hx with e | e | e <;> rw [e] <;> decide +kernel
theorem br_of {s : Sta} {N : Int} (g : s.Good N) (n : Int) : Br.ok (barOf s n) := by
  unfold barOf
  cases e : getM s.music n with
  | none => intro m hm; cases hm
  | some b => exact (g.bars _ (getM_mem e)).1
theorem sh_told {s : Sta} {N : Int} (g : s.Good N) : Sh (toldD s) 7 := Sh.tup (n := 6) fun d hd => by
  simp only [List.mem_cons, List.not_mem_nil, or_false] at hd
  rcases hd with rfl | rfl | rfl | rfl
  · exact (sh_sheet _).mono (by decide)
  · refine Sh.lst (n := 5) fun d hd => ?_
    obtain ⟨n, _, rfl⟩ := List.mem_map.mp hd
    refine Sh.tup (n := 4) fun d hd => ?_
    simp only [List.mem_cons, List.not_mem_nil, or_false] at hd
    rcases hd with rfl | rfl | rfl
    · exact .int
    · exact sh_br (br_of g n)
    · exact sh_bound g n
  · refine Sh.lst (n := 5) fun d hd => ?_
    obtain ⟨n, _, rfl⟩ := List.mem_map.mp hd
    refine Sh.tup (n := 4) fun d hd => ?_
    simp only [List.mem_cons, List.not_mem_nil, or_false] at hd
    rcases hd with rfl | rfl
    · exact .int
    · exact (sh_span _).mono (by decide)
  · exact (sh_tip _).mono (by decide)
def spEqS (K : PySem.W.Frag) : Sp := fun vs H Q _ => ∃ (x y : Addr) (S T : ShopS) (N : Int), vs = [.ref x, .ref y] ∧ ShopAt K H x S ∧ ShopAt K H y T ∧ S.now.s.Good N ∧ T.now.s.Good N ∧ toldD S.now.s = toldD T.now.s ∧ ∀ H', But [] H H' → Q (.bl true) H'
abbrev n_Shop_eq : List Str := ["self", "other"]
theorem sc_Shop_eq : FnScope n_Shop_eq ["self", "other"] d_Shop_eq.scope := C8.fnScope_by (by decide +kernel)
theorem met_eq {P : Program} {w : World} {K : PySem.W.Frag} {mg : Str → Option Value} {base : Heap} (C : Cn w K mg)  : Met P w K mg base CX0 2 "Shop" "__eq__" (spEqS K) := by
  refine C.met 69 113 97 d_Shop_eq sc_Shop_eq (fun _ _ _ _ _ _ us hl => match us, hl with | [_, _], _ => rfl) (fun vs H Q E h => ?_) (fun f cdv A outer s H vs Q E hr h => ?_)
  · obtain ⟨x, y, S, T, N, rfl, _⟩ := h
    rfl
  have nd := sc_Shop_eq.nd
  refine ⟨_, PSs.nox (pss_one (ps_ret (pe_and (pe_callB (C8.call_isC C.ins) (by rfl) (C.free 73) (by decide +kernel) (pa_cons (pv 1) (pa_cons (pe_gi (v := .ref (He.ga K "Shop")) ⟨_, C.glo 62, rfl⟩) pa_nil))) (pe_one (pe_cmpR (op_eqD hr.units) (pe_m0 (met_told C) hr (pe_fld (pv 0) rfl)) (pe_m0 (met_told C) hr (pe_fld (pv 1) rfl)) (nomark _)))))), ?_⟩
  obtain ⟨x, y, S, T, N, rfl, hS, hT, gS, gT, he, k⟩ := h
  obtain ⟨dy, h2⟩ := hT.at_
  obtain ⟨d1, _, _, h3, _, _⟩ := id hS.now.at_
  refine ⟨_, rfl, y, dy, _, rfl, h2, true, rfl, iteT ?_⟩
  refine fs_now C (vr rfl) hS ⟨S.now.a, d1, _, rfl, h3, rfl, S.now.a, S.now.c, S.now.s, N, rfl, hS.now, gS, fun v1 H1 b1 dv1 => ?_⟩
  have hT1 := hT.new b1
  obtain ⟨d2, _, _, h4, _, _⟩ := id hT1.now.at_
  dsimp only [tMeth]
  refine fs_now C (vr rfl) hT1 ⟨T.now.a, d2, _, rfl, h4, rfl, T.now.a, T.now.c, T.now.s, N, rfl, hT1.now, gT, fun v2 H2 b2 dv2 => ?_⟩
  refine ⟨_, _, dp_new b2 _ _ dv1, dv2, (sh_told gS).shaped, (sh_told gT).shaped, ?_⟩
  rw [he, (sh_told gT).refl]
  exact k _ (b1.trans b2)
def shopText (s : Sta) : Str := ("Shop(" : Str) ++ (toString (s.order.length : Int) : Str) ++ (" bars, " : Str) ++ (toString (s.spans.length : Int) : Str) ++ (" marks)" : Str)
theorem txt_len : ∀ n : Nat, n ≤ 20 → (toString (n : Int) : Str).length ≤ 20 := by decide +kernel
theorem str_len (a b : Str) : (a ++ b).length = a.length + b.length := by
  show (a.cps ++ b.cps).size = _
  rw [Array.size_append]; rfl
theorem log_small {n : Nat} (h : n ≤ 20) : ((n : Int)).natAbs.log2 < 1920 := by
  have : ((n : Int)).natAbs.log2 ≤ n := by
    rw [Int.natAbs_natCast]
    exact Nat.log2_le_self n
  omega
abbrev n_Shop_repr : List Str := ["self"]
theorem sc_Shop_repr : FnScope n_Shop_repr ["self"] d_Shop_repr.scope := C8.fnScope_by (by decide +kernel)
theorem met_repr {P : Program} {w : World} {K : PySem.W.Frag} {mg : Str → Option Value} {base : Heap} (C : Cn w K mg)  : Met P w K mg base CX0 1 "Shop" "__repr__" (spAsk K fun S => .str (shopText S.now.s)) := by
  refine C.met 71 115 97 d_Shop_repr sc_Shop_repr (fun _ _ _ _ _ _ us hl => match us, hl with | [_], _ => rfl) (fun vs H Q E h => ?_) (fun f cdv A outer s H vs Q E hr h => ?_)
  · obtain ⟨x, S, N, rfl, _⟩ := h
    rfl
  have nd := sc_Shop_repr.nd
  refine ⟨_, PSs.nox (pss_one (ps_ret (pe_joined (.cons pe_str (.cons (pe_fmt (pe_callB call_len_seq (by rfl) (C.free 67) (by decide +kernel) (pa_cons (pe_fld (pe_fld (pv 0) rfl) rfl) pa_nil))) (.cons pe_str (.cons (pe_fmt (pe_callB call_lenD (by rfl) (C.free 67) (by decide +kernel) (pa_cons (pe_fld (pe_fld (pv 0) rfl) rfl) pa_nil))) (.cons pe_str .nil)))))))), ?_⟩
  obtain ⟨x, S, N, rfl, hS, hg, hl, k⟩ := h
  have few := hg.few
  have sfew := hg.sfew
  obtain ⟨kp, hp1, hp2⟩ := id hS.now.cont.sp
  have l1 := txt_len S.now.s.order.length (by omega)
  have l2 := txt_len S.now.s.spans.length (by omega)
  have e1 : ((Str.empty : Str) ++ ("Shop(" : Str)) = "Shop(" := by decide +kernel
  have c1 : ("Shop(" : Str).length = 5 := by decide +kernel
  have c2 : (" bars, " : Str).length = 7 := by decide +kernel
  have c3 : (" marks)" : Str).length = 7 := by decide +kernel
  refine ⟨_, rfl, by rw [e1, c1, sizeLine_eq]; decide, ?_⟩
  rw [e1]
  dsimp only [tJs, tFmt, tCB, tCons, tNil]
  refine fo_order C (fun _ q => fs_now C (vr rfl) hS q) (StandAt.m hS.now) ⟨S.now.c.o, _, rfl, .inl (SqL.of hS.now.cont.o), .inr ⟨_, rfl, ?_, ?_⟩⟩
  · rw [List.length_map]; exact log_small (by omega)
  rw [List.length_map]
  refine ⟨_, rfl, by rw [str_len, c1, sizeLine_eq]; omega, _, rfl, by rw [str_len, str_len, c1, c2, sizeLine_eq]; omega, ?_⟩
  refine fo_spans C (fun _ q => fs_now C (vr rfl) hS q) (StandAt.m hS.now) ⟨S.now.c.sp, kp, rfl, hp1, .inr ⟨_, rfl, ?_, ?_⟩⟩
  · rw [kv_len hp2]; exact log_small (by omega)
  rw [kv_len hp2]
  refine ⟨_, rfl, by rw [str_len, str_len, str_len, c1, c2, sizeLine_eq]; omega, _, rfl, by rw [str_len, str_len, str_len, str_len, c1, c2, c3, sizeLine_eq]; omega, ?_⟩
  exact k _ _ But.refl (.str _)
end Bu
set_option Elab.async false
set_option linter.all false
set_option maxRecDepth 100000
set_option maxHeartbeats 4000000
/-! A shop made, twinned, taken back and done again. -/
namespace Bu
open PySem PySem.Spec PyProof.Rows L2
section
variable {P : Program} {w : World} {K : PySem.W.Frag} {mg : Str → Option Value} {base : Heap} {CX : CXT}
/-- a class whose __init__ has keyword-only parameters, all with defaults -/
theorem Cn.mkcK (C : Cn w K mg) {k : Nat} {sp : Sp} {N ps : List Str} (i j l : Nat) {x : Str} (d : He.DefD) (S : FnScope N ps d.scope)
    (hb : ∀ (D : Addr) (doc pm : Value) (an : Option Addr) (cdv ct : Value) (us ks : List Value), us.length = 1 → ks.length = (d.kws K).length →
      KwChain D (((d.kws K).map (·.1)).zip ks) (bindArgs (PySem.W.fnOf d.name d.qual d.params d.body d.scope .none (.ref D) doc pm an cdv ct) ⟨us, []⟩) (ps.zip (us ++ ks)))
    (hn : 1 + (d.kws K).length = ps.length)
    (len : ∀ vs H Q E, sp vs H Q E → vs.length = ps.length) (body : BodyOf P w K mg base CX k d N sp) (hd : fn[i]? = some d := by rfl) (hx : d.at_ = (x, some ("__init__" : Str)) := by rfl) (hf : fa[j]? = some (.mkr x) := by rfl) (hg : fa[l]? = some (.glo x) := by rfl)
    (e1 : d.dfl = [] := by rfl) (e2 : d.kwd ≠ [] := by decide) : MkC P w K mg base CX (k + 1) x ((d.kws K).map (·.2)) sp := by
  obtain ⟨fd, F⟩ := C.def_ i hd
  have F0 : FunD K d.name d.qual d.params d.body d.scope [] (d.kws K) (He.fAd K d.at_) fd := by
    have e : d.dvs K = [] := by unfold He.DefD.dvs; rw [e1]; rfl
    rw [e] at F
    exact F
  obtain ⟨ds, hv, b⟩ := F0.binds0 (ps := ps) 1 (fun z => e2 (by unfold He.DefD.kws at z; exact List.map_eq_nil_iff.mp z)) hn hb
  have h1 : FnOk P w K mg base CX (k + 1) (He.fAd K d.at_) fd ps sp := F0.ok S len (body (He.fAd K d.at_))
  rw [hx] at h1
  exact ⟨_, fd, ps, ds, C.mkr j hf, h1, C.glo l hg, b, hv⟩
end
def sheet0 : Sheet := [120, 4, 10, 50, 5]
def dv_Shop_init : List V := [.int 120, .int 4, .int 10, .int 50, .int 5]
def spShop0 (K : PySem.W.Frag) : Sp := fun vs H Q _ => ∃ (x dx : Addr), vs = .ref x :: dv_Shop_init ∧ H x = some (.ins (He.ga K "Shop") dx []) ∧
  ∀ p g t H', But [x] H H' → ShopAt K H' x ⟨p, g, t, [], []⟩ → t.s = empty sheet0 → (∀ y ∈ [p, g] ++ stReads t, H y = none) → Q .non H'
theorem kwb_Shop_init (K : PySem.W.Frag) : ∀ (D : Addr) (doc pm : Value) (an : Option Addr) (cdv ct : Value) (us ks : List Value), us.length = 1 → ks.length = (d_Shop_init.kws K).length →
      KwChain D (((d_Shop_init.kws K).map (·.1)).zip ks) (bindArgs (PySem.W.fnOf d_Shop_init.name d_Shop_init.qual d_Shop_init.params d_Shop_init.body d_Shop_init.scope .none (.ref D) doc pm an cdv ct) ⟨us, []⟩) ((["self", "width", "lines", "fee", "turn", "gap"] : List Str).zip (us ++ ks)) := by
  intro D doc pm an cdv ct us ks hu hk
  match us, hu, ks, hk with
  | [u], _, [a, b, c, d, e], _ =>
    refine ⟨_, _, _, _, _, _, rfl, rfl, ?_⟩
    refine ⟨_, _, _, _, _, _, rfl, rfl, ?_⟩
    refine ⟨_, _, _, _, _, _, rfl, rfl, ?_⟩
    refine ⟨_, _, _, _, _, _, rfl, rfl, ?_⟩
    refine ⟨_, _, _, _, _, _, rfl, rfl, ?_⟩
    rfl
abbrev n_Shop_init : List Str := ["self", "width", "lines", "fee", "turn", "gap"]
theorem sc_Shop_init : FnScope n_Shop_init ["self", "width", "lines", "fee", "turn", "gap"] d_Shop_init.scope := C8.fnScope_by (by decide +kernel)
theorem mk_Shop {P : Program} {w : World} {K : PySem.W.Frag} {mg : Str → Option Value} {base : Heap} (C : Cn w K mg)  : MkC P w K mg base CX0 5 "Shop" dv_Shop_init (spShop0 K) := by
  refine C.mkcK 68 132 62 d_Shop_init sc_Shop_init (kwb_Shop_init K) rfl (fun vs H Q E h => ?_) (fun f cdv A outer s H vs Q E hr h => ?_)
  · obtain ⟨x, dx, rfl, _⟩ := h
    rfl
  have nd := sc_Shop_init.nd
  refine ⟨_, PSs.nox (pss_cons (ps_fld (pv 0) (pe_mk (mk_Stand C) hr (pa_cons (pe_ck (calk_paper C) hr LamX.takes0 (pk_cons (pv 1) (pk_cons (pv 2) (pk_cons (pv 3) (pk_cons (pv 4) (pk_cons (pv 5) pk_nil)))))) pa_nil)) rfl) (pss_cons (ps_fld (pv 0) (pe_lst pa_nil) rfl) (pss_one (ps_fld (pv 0) (pe_lst pa_nil) rfl)))), ?_⟩
  obtain ⟨x, dx, rfl, hx, k⟩ := h
  have bx : But [x] H H := But.nil _ fun y hy => by rw [show y = x by simpa using hy]; exact nt_ins hx
  refine ⟨_, rfl, _, rfl, _, rfl, _, rfl, _, rfl, rfl, 120, 4, 10, 50, 5, rfl, fun _ v H1 b1 dv => ?_, fun z => absurd z (by decide)⟩
  refine fun a da na nda ne => ?_
  have b2 : But [] H1 (upd (upd H1 da (.own a)) a (.ins (He.ga K "Stand") da [])) := (But.refl.new nda).young na
  have e2 : (upd (upd H1 da (.own a)) a (.ins (He.ga K "Stand") da [])) a = some (.ins (He.ga K "Stand") da []) := upd_same
  have dv : Dp K H1 v (sheetD sheet0) := dv
  refine ⟨a, da, v, sheet0, rfl, e2, dp_but b2 _ _ (tup_sheet _) dv, fun c H2 b3 yc s2 => ⟨rfl, ?_⟩⟩
  have s2 : StandAt K H2 a c (empty sheet0) := s2
  have b3 : But [] H1 H2 := b2.thn (M1 := [a]) b3 fun y hy => .inr (by rw [show y = a by simpa using hy]; exact na)
  have b13 := b1.trans b3
  have yc' : ∀ y ∈ [c.o, c.mu, c.sp, c.bo], H y = none := fun y hy => (b1.trans b2).dom y (yc y hy)
  have ya : H a = none := b1.dom a na
  have live : ∀ y ∈ mine a c, y ≠ x := fun y hy z => by
    subst z
    simp only [mine, List.mem_cons, List.not_mem_nil, or_false] at hy
    rcases hy with rfl | hy
    · rw [ya] at hx; cases hx
    · have := yc' y (by simpa using hy)
      rw [this] at hx; cases hx
  have x2 := b13.keep _ _ hx (by simp)
  refine ⟨_, rfl, x, _, dx, _, rfl, x2, C.cls 97, C.noat 104, by show 0 < 1000; decide, ?_⟩
  have m3 : But [x] H2 (upd H2 x (.ins (He.ga K "Shop") dx (putF "now" (.ref a) []))) := But.one (nt_ins x2)
  have s3 := s2.but m3 fun y hy z => live y hy (by simpa using z)
  have b3 := (bx.step b13).old (p := x) (o := .ins (He.ga K "Shop") dx (putF "now" (.ref a) [])) (by simp)
  have x3 : (upd H2 x (.ins (He.ga K "Shop") dx (putF "now" (.ref a) []))) x = some (.ins (He.ga K "Shop") dx (putF "now" (.ref a) [])) := upd_same
  dsimp only [cxOf]
  generalize upd H2 x (.ins (He.ga K "Shop") dx (putF "now" (.ref a) [])) = H3 at s3 b3 x3
  refine ⟨by decide, fun p np => ?_⟩
  have nxp : x ≠ p := fun z => by rw [z, np] at x3; cases x3
  refine ⟨_, rfl, x, _, dx, _, rfl, (upd_ne nxp).trans x3, C.cls 97, C.noat 105, by show 1 < 1000; decide, ?_⟩
  dsimp only [cxOf]
  have s4 := (s3.new (But.refl.new (o := .lst []) np)).but (But.one (p := x) (o := .ins (He.ga K "Shop") dx (putF "past" (.ref p) (putF "now" (.ref a) []))) (nt_ins ((upd_ne nxp).trans x3))) fun y hy z => live y hy (by simpa using z)
  have b4 := (b3.new (o := .lst []) np).old (p := x) (o := .ins (He.ga K "Shop") dx (putF "past" (.ref p) (putF "now" (.ref a) []))) (by simp)
  have x4 : (upd (upd H3 p (.lst [])) x (.ins (He.ga K "Shop") dx (putF "past" (.ref p) (putF "now" (.ref a) [])))) x = some (.ins (He.ga K "Shop") dx (putF "past" (.ref p) (putF "now" (.ref a) []))) := upd_same
  have p4 : (upd (upd H3 p (.lst [])) x (.ins (He.ga K "Shop") dx (putF "past" (.ref p) (putF "now" (.ref a) [])))) p = some (.lst []) := (upd_ne (Ne.symm nxp)).trans upd_same
  have yp : H p = none := b3.dom p np
  have sp3 : ∀ y ∈ mine a c, y ≠ p := fun y hy z => by
    have := (s3.live y hy).1
    rw [z] at this
    exact this np
  generalize upd (upd H3 p (.lst [])) x (.ins (He.ga K "Shop") dx (putF "past" (.ref p) (putF "now" (.ref a) []))) = H4 at s4 b4 x4 p4
  refine ⟨by decide, fun g ng => ?_⟩
  have nxg : x ≠ g := fun z => by rw [z, ng] at x4; cases x4
  have npg : p ≠ g := fun z => by rw [z, ng] at p4; cases p4
  have sg4 : ∀ y ∈ mine a c, y ≠ g := fun y hy z => by
    have := (s4.live y hy).1
    rw [z] at this
    exact this ng
  refine ⟨_, rfl, x, _, dx, _, rfl, (upd_ne nxg).trans x4, C.cls 97, C.noat 106, by show 2 < 1000; decide, ?_⟩
  have s5 := (s4.new (But.refl.new (o := .lst []) ng)).but (But.one (p := x) (o := .ins (He.ga K "Shop") dx (shopFs p g a)) (nt_ins ((upd_ne nxg).trans x4))) fun y hy z => live y hy (by simpa using z)
  have b5 := (b4.new (o := .lst []) ng).old (p := x) (o := .ins (He.ga K "Shop") dx (shopFs p g a)) (by simp)
  refine k p g ⟨a, c, empty sheet0⟩ _ b5 ⟨⟨dx, upd_same⟩, ⟨[], (upd_ne (Ne.symm nxp)).trans ((upd_ne npg).trans p4), .nil⟩, ⟨[], (upd_ne (Ne.symm nxg)).trans upd_same, .nil⟩, s5, npg, fun y hy => ?_⟩ rfl fun y hy => ?_
  · have hy : y ∈ mine a c := by simpa [ShopS.reads, stReads] using hy
    exact ⟨live y hy, sp3 y hy, sg4 y hy⟩
  · simp only [List.cons_append, List.nil_append, List.mem_cons] at hy
    rcases hy with rfl | rfl | hy
    · exact yp
    · exact b4.dom _ ng
    · simp only [stReads, mine, List.mem_cons, List.not_mem_nil, or_false] at hy
      rcases hy with rfl | hy
      · exact ya
      · exact yc' y (by simpa using hy)
end Bu
set_option Elab.async false
set_option linter.all false
set_option maxRecDepth 100000
set_option maxHeartbeats 4000000
/-! A shop twinned, taken back and done again. -/
namespace Bu
open PySem PySem.Spec PyProof.Rows L2
theorem paired_snoc {α β : Type} {R : α → β → Prop} : ∀ {vs : List α} {es : List β} {e : β}, Paired R vs (es ++ [e]) → ∃ vs' v, vs = vs' ++ [v] ∧ Paired R vs' es ∧ R v e
  | [], [], e, h => by cases h
  | v :: r, [], e, h => by
    cases h with
    | cons p q =>
      cases q
      exact ⟨[], _, rfl, .nil, p⟩
  | [], e' :: es, e, h => by cases h
  | v :: r, e' :: es, e, h => by
    cases h with
    | cons p q =>
      obtain ⟨vs', v', rfl, q1, q2⟩ := paired_snoc q
      exact ⟨v :: vs', v', rfl, .cons p q1, q2⟩
def spTwin (K : PySem.W.Frag) : Sp := fun vs H Q _ => ∃ (x : Addr) (S : ShopS), vs = [.ref x] ∧ ShopAt K H x S ∧ ∀ y p g H', But [] H H' → (∀ z ∈ [y, p, g], H z = none) → ShopAt K H' y { S with p := p, g := g } → Q (.ref y) H'
abbrev n_Shop_twin : List Str := ["self", "made"]
theorem sc_Shop_twin : FnScope n_Shop_twin ["self"] d_Shop_twin.scope := C8.fnScope_by (by decide +kernel)
theorem met_twin {P : Program} {w : World} {K : PySem.W.Frag} {mg : Str → Option Value} {base : Heap} (C : Cn w K mg)  : Met P w K mg base CX0 7 "Shop" "twin" (spTwin K) := by
  refine C.met 77 121 97 d_Shop_twin sc_Shop_twin (fun _ _ _ _ _ _ us hl => match us, hl with | [_], _ => rfl) (fun vs H Q E h => ?_) (fun f cdv A outer s H vs Q E hr h => ?_)
  · obtain ⟨x, S, rfl, _⟩ := h
    rfl
  have nd := sc_Shop_twin.nd
  refine ⟨_, PSs.nox (pss_cons (ps_set (i := 1) nd rfl (by first | exact Or.inl rfl | exact Or.inr rfl) (pe_mk0 (mk_Shop C) hr)) (pss_cons (ps_fld (pv 1) (pe_fld (pv 0) rfl) rfl) (pss_cons (ps_fld (pv 1) (pe_callTy call_list_of (by rfl) (C.free 69) (by decide +kernel) (pa_cons (pe_fld (pv 0) rfl) pa_nil)) rfl) (pss_cons (ps_fld (pv 1) (pe_callTy call_list_of (by rfl) (C.free 69) (by decide +kernel) (pa_cons (pe_fld (pv 0) rfl) pa_nil)) rfl) (pss_one (ps_ret (pv 1))))))), ?_⟩
  obtain ⟨x, S, rfl, hS, k⟩ := h
  refine fun y dy ny ndy ne => ?_
  have b0 : But [] H (upd (upd H dy (.own y)) y (.ins (He.ga K "Shop") dy [])) := (But.refl.new ndy).young ny
  have e0 : (upd (upd H dy (.own y)) y (.ins (He.ga K "Shop") dy [])) y = some (.ins (He.ga K "Shop") dy []) := upd_same
  refine ⟨y, dy, rfl, e0, fun p0 g0 t0 H1 b1 hT _ yT => ⟨rfl, ?_⟩⟩
  have hT : ShopAt K H1 y ⟨p0, g0, t0, [], []⟩ := hT
  have b1 : But [] H H1 := b0.thn (M1 := [y]) b1 fun z hz => .inr (by rw [show z = y by simpa using hz]; exact ny)
  have hS1 := hS.new b1
  obtain ⟨d1, y1⟩ := hT.at_
  have y1 : H1 y = some (.ins (He.ga K "Shop") d1 (shopFs p0 g0 t0.a)) := y1
  dsimp only [gName, tNext, tSeq, sFld]
  refine fs_now C (vr rfl) hS1 ⟨_, rfl, y, _, d1, _, rfl, y1, C.cls 97, C.noat 104, by show 3 < 1000; decide, ?_⟩
  try dsimp only [cxOf]
  have b2 := b1.young (o := .ins (He.ga K "Shop") d1 (putF "now" (.ref S.now.a) (shopFs p0 g0 t0.a))) ny
  have y2 : (upd H1 y (.ins (He.ga K "Shop") d1 (putF "now" (.ref S.now.a) (shopFs p0 g0 t0.a)))) y = some (.ins (He.ga K "Shop") d1 (shopFs p0 g0 S.now.a)) := upd_same
  generalize upd H1 y (.ins (He.ga K "Shop") d1 (putF "now" (.ref S.now.a) (shopFs p0 g0 t0.a))) = H2 at b2 y2
  have hS2 := hS.new b2
  obtain ⟨ps, hp1, hp2⟩ := hS2.past
  refine fs_past C (vr rfl) hS2 ⟨S.p, ps, rfl, .inl (SqL.of hp1), fun p np => ?_⟩
  have nyp : y ≠ p := fun z => by rw [z, np] at y2; cases y2
  have b3 := b2.new (o := .lst ps) np
  have y3 : (upd H2 p (.lst ps)) y = some (.ins (He.ga K "Shop") d1 (shopFs p0 g0 S.now.a)) := (upd_ne nyp).trans y2
  have p3 : (upd H2 p (.lst ps)) p = some (.lst ps) := upd_same
  have yp := b2.dom _ np
  generalize upd H2 p (.lst ps) = H3 at b3 y3 p3
  refine ⟨_, rfl, y, _, d1, _, rfl, y3, C.cls 97, C.noat 105, by show 3 < 1000; decide, ?_⟩
  try dsimp only [cxOf]
  have b4 := b3.young (o := .ins (He.ga K "Shop") d1 (putF "past" (.ref p) (shopFs p0 g0 S.now.a))) ny
  have y4 : (upd H3 y (.ins (He.ga K "Shop") d1 (putF "past" (.ref p) (shopFs p0 g0 S.now.a)))) y = some (.ins (He.ga K "Shop") d1 (shopFs p g0 S.now.a)) := upd_same
  have p4 : (upd H3 y (.ins (He.ga K "Shop") d1 (putF "past" (.ref p) (shopFs p0 g0 S.now.a)))) p = some (.lst ps) := (upd_ne (Ne.symm nyp)).trans p3
  generalize upd H3 y (.ins (He.ga K "Shop") d1 (putF "past" (.ref p) (shopFs p0 g0 S.now.a))) = H4 at b4 y4 p4
  have hS4 := hS.new b4
  obtain ⟨gs, hg1, hg2⟩ := hS4.gone
  refine fs_gone C (vr rfl) hS4 ⟨S.g, gs, rfl, .inl (SqL.of hg1), fun g ng => ?_⟩
  have nyg : y ≠ g := fun z => by rw [z, ng] at y4; cases y4
  have npg : p ≠ g := fun z => by rw [z, ng] at p4; cases p4
  have b5 := b4.new (o := .lst gs) ng
  have y5 : (upd H4 g (.lst gs)) y = some (.ins (He.ga K "Shop") d1 (shopFs p g0 S.now.a)) := (upd_ne nyg).trans y4
  have p5 : (upd H4 g (.lst gs)) p = some (.lst ps) := (upd_ne npg).trans p4
  have g5 : (upd H4 g (.lst gs)) g = some (.lst gs) := upd_same
  have yg := b4.dom _ ng
  generalize upd H4 g (.lst gs) = H5 at b5 y5 p5 g5
  refine ⟨_, rfl, y, _, d1, _, rfl, y5, C.cls 97, C.noat 106, by show 3 < 1000; decide, ?_⟩
  try dsimp only [cxOf]
  have b6 := b5.young (o := .ins (He.ga K "Shop") d1 (putF "gone" (.ref g) (shopFs p g0 S.now.a))) ny
  have y6 : (upd H5 y (.ins (He.ga K "Shop") d1 (putF "gone" (.ref g) (shopFs p g0 S.now.a)))) y = some (.ins (He.ga K "Shop") d1 (shopFs p g S.now.a)) := upd_same
  have p6 : (upd H5 y (.ins (He.ga K "Shop") d1 (putF "gone" (.ref g) (shopFs p g0 S.now.a)))) p = some (.lst ps) := (upd_ne (Ne.symm nyp)).trans p5
  have g6 : (upd H5 y (.ins (He.ga K "Shop") d1 (putF "gone" (.ref g) (shopFs p g0 S.now.a)))) g = some (.lst gs) := (upd_ne (Ne.symm nyg)).trans g5
  generalize upd H5 y (.ins (He.ga K "Shop") d1 (putF "gone" (.ref g) (shopFs p g0 S.now.a))) = H6 at b6 y6 p6 g6
  have hS6 := hS.new b6
  obtain ⟨ps', hp1', hp2'⟩ := hS6.past
  obtain ⟨gs', hg1', hg2'⟩ := hS6.gone
  have ep : ps' = ps := by
    have z := hS.past
    obtain ⟨ps0, z1, _⟩ := z
    have z2 := b2.keep _ _ z1 (by simp)
    rw [hp1] at z2
    have z3 := b6.keep _ _ z1 (by simp)
    rw [hp1'] at z3
    cases z2; cases z3; rfl
  have eg : gs' = gs := by
    have z := hS.gone
    obtain ⟨gs0, z1, _⟩ := z
    have z2 := b4.keep _ _ z1 (by simp)
    rw [hg1] at z2
    have z3 := b6.keep _ _ z1 (by simp)
    rw [hg1'] at z3
    cases z2; cases z3; rfl
  subst ep eg
  have lv := hS.live
  refine ⟨_, rfl, k y p g H6 b6 (fun z hz => ?_) ⟨⟨d1, y6⟩, ⟨_, p6, hp2'⟩, ⟨_, g6, hg2'⟩, hS6.now, npg, fun z hz => ?_⟩⟩
  · simp only [List.mem_cons, List.not_mem_nil, or_false] at hz
    rcases hz with rfl | rfl | rfl
    · exact ny
    · exact yp
    · exact yg
  · have hz : z ∈ S.reads := hz
    have q := (lv z (by simp [hz])).1
    exact ⟨fun e => q (by rw [e]; exact ny), fun e => q (by rw [e]; exact yp), fun e => q (by rw [e]; exact yg)⟩
def spundo (K : PySem.W.Frag) : Sp := fun vs H Q _ => ∃ (x : Addr) (S : ShopS) (es : List Ent) (e : Ent), vs = [.ref x] ∧ ShopAt K H x S ∧ S.past = es ++ [e] ∧ (S.past.length < 1000 ∧ S.gone.length < 1000) ∧
  ∀ H', But [x, S.p, S.g] H H' → ShopAt K H' x { S with now := e.t, past := es, gone := S.gone ++ [⟨e.d, S.now⟩] } → Q .non H'
abbrev n_Shop_undo : List Str := ["self", "deed", "stand"]
theorem sc_Shop_undo : FnScope n_Shop_undo ["self"] d_Shop_undo.scope := C8.fnScope_by (by decide +kernel)
theorem met_undo {P : Program} {w : World} {K : PySem.W.Frag} {mg : Str → Option Value} {base : Heap} (C : Cn w K mg)  : Met P w K mg base CX0 1 "Shop" "undo" (spundo K) := by
  refine C.met 73 117 97 d_Shop_undo sc_Shop_undo (fun _ _ _ _ _ _ us hl => match us, hl with | [_], _ => rfl) (fun vs H Q E h => ?_) (fun f cdv A outer s H vs Q E hr h => ?_)
  · obtain ⟨x, S, es, e, rfl, _⟩ := h
    rfl
  have nd := sc_Shop_undo.nd
  refine ⟨_, PSs.nox (pss_cons (ps_if (pt_cmpR (op_eqLen hr.units0) (pe_fld (pv 0) rfl) (pe_lst pa_nil) (nomark _)) (pss_one ps_never) pss_nil) (pss_cons (ps_asg (pe_bm0 PySem.F.plainAttrs_list PySem.F.slot_list_pop PySem.F.type_list_pop mt_pop (pe_fld (pv 0) rfl)) (pg_tup rfl (pgs_cons (pg_name (i := 1) nd rfl (by first | exact Or.inl rfl | exact Or.inr rfl)) (pgs_cons (pg_name (i := 2) nd rfl (by first | exact Or.inl rfl | exact Or.inr rfl)) pgs_nil)))) (pss_cons (ps_expr (pe_bm PySem.F.plainAttrs_list PySem.F.slot_list_append PySem.F.type_list_append mt_append (pe_fld (pv 0) rfl) (pa_cons (pe_tup (pa_cons (pv 1) (pa_cons (pe_fld (pv 0) rfl) pa_nil))) pa_nil))) (pss_one (ps_fld (pv 0) (pv 2) rfl))))), ?_⟩
  obtain ⟨x, S, es, e, rfl, hS, hpast, hl, k⟩ := h
  obtain ⟨ps, hp, hps⟩ := hS.past
  obtain ⟨gs, hg, hgs⟩ := hS.gone
  have lv := hS.live
  have ne := hS.ne
  obtain ⟨dx, hx⟩ := hS.at_
  have nxp : x ≠ S.p := fun z => by rw [z, hp] at hx; cases hx
  have nxg : x ≠ S.g := fun z => by rw [z, hg] at hx; cases hx
  rw [hpast] at hps
  obtain ⟨ps', v, rfl, hps', hv⟩ := paired_snoc hps
  have lps := Paired.length hps'
  have lgs := Paired.length hgs
  have base : But [x, S.p, S.g] H H := But.nil _ fun y hy => (lv y (by
    simp only [List.mem_cons, List.not_mem_nil, or_false] at hy ⊢
    rcases hy with h | h | h <;> simp [h])).2
  have sep := hS.sep
  have rd : ∀ y ∈ S.reads, y ∉ [x, S.p, S.g] := fun y hy z => by
    have q := sep y hy
    simp only [List.mem_cons, List.not_mem_nil, or_false] at z
    rcases z with z | z | z
    · exact q.1 z
    · exact q.2.1 z
    · exact q.2.2 z
  have rpast : ∀ y ∈ (es ++ [e]).flatMap (fun e => stReads e.t), y ∈ S.reads := fun y hy => by
    rw [← hpast] at hy
    unfold ShopS.reads
    simp only [List.mem_append]
    exact .inr (.inl hy)
  have rgone : ∀ y ∈ S.gone.flatMap (fun e => stReads e.t), y ∈ S.reads := fun y hy => by
    unfold ShopS.reads
    simp only [List.mem_append]
    exact .inr (.inr hy)
  have rnow : ∀ y ∈ stReads S.now, y ∈ S.reads := fun y hy => List.mem_append_left _ hy
  have re : ∀ y ∈ stReads e.t, y ∈ S.reads := fun y hy => rpast y (List.mem_flatMap.mpr ⟨e, by simp, hy⟩)
  have res : ∀ y ∈ es.flatMap (fun e => stReads e.t), y ∈ S.reads := fun y hy => rpast y (by
    rw [List.flatMap_append]; exact List.mem_append_left _ hy)
  obtain ⟨hd, ⟨t, w', rfl, ht, hw⟩, hst⟩ := hv
  dsimp only [tSeq, tIfS, tTest]
  refine fs_past C (vr rfl) hS ⟨by decide, fun q nq => ?_⟩
  have bq : But [] H (upd H q (.lst [])) := But.refl.new nq
  have hS1 := hS.new bq
  have b1 := base.step bq
  refine ⟨S.p, q, ps' ++ [.ref t], [], rfl, rfl, SqL.of (bq.keep _ _ hp (by simp)), SqL.of upd_same, by simp, _, rfl, iteF ?_⟩
  have hp1 := bq.keep _ _ hp (by simp)
  have hg1 := bq.keep _ _ hg (by simp)
  have hx1 := bq.keep _ _ hx (by simp)
  generalize upd H q (.lst []) = H1 at bq hS1 b1 hp1 hg1 hx1
  dsimp only [gName, tNext, tSeq, tAsg, tBM0, tBM, tDrop]
  refine fs_past C (vr rfl) hS1 ⟨.inl ⟨rfl, _, SqL.of hp1⟩, S.p, ps' ++ [.ref t], .ref t, rfl, rfl, hp1, by simp, ?_⟩
  rw [List.dropLast_concat]
  have b2 := b1.old (p := S.p) (o := .lst ps') (by simp)
  have hx2 : (upd H1 S.p (.lst ps')) x = some (.ins (He.ga K "Shop") dx (shopFs S.p S.g S.now.a)) := (upd_ne nxp).trans hx1
  have hp2 : (upd H1 S.p (.lst ps')) S.p = some (.lst ps') := upd_same
  have hg2 : (upd H1 S.p (.lst ps')) S.g = some (.lst gs) := (upd_ne (Ne.symm ne)).trans hg1
  generalize upd H1 S.p (.lst ps') = H2 at b2 hx2 hp2 hg2
  have ht2 := b2.sqT ht
  refine ⟨t, _, rfl, ht2, rfl, _, _, rfl, _, _, rfl, rfl, ?_⟩
  refine ⟨_, rfl, x, _, dx, _, _, rfl, hx2, C.cls 97, C.noat 106, rfl, .inl ⟨rfl, _, SqL.of hg2⟩, _, rfl, _, rfl, x, _, dx, _, _, rfl, hx2, C.cls 97, C.noat 104, rfl, by show 2 ≤ sizeLine; decide, fun u nu => ?_⟩
  have bu : But [] H2 (upd H2 u (.tup [w', .ref S.now.a])) := But.refl.new nu
  have b3 := b2.step bu
  have hx3 := bu.keep _ _ hx2 (by simp)
  have hp3 := bu.keep _ _ hp2 (by simp)
  have hg3 := bu.keep _ _ hg2 (by simp)
  have hu3 : (upd H2 u (.tup [w', .ref S.now.a])) u = some (.tup [w', .ref S.now.a]) := upd_same
  generalize upd H2 u (.tup [w', .ref S.now.a]) = H3 at bu b3 hx3 hp3 hg3 hu3
  refine ⟨S.g, gs, _, rfl, rfl, hg3, by rw [lgs, sizeLine_eq]; omega, ?_⟩
  have nug : u ≠ S.g := fun z => by rw [z, hg3] at hu3; cases hu3
  have b4 := b3.old (p := S.g) (o := .lst (gs ++ [.ref u])) (by simp)
  have hx4 : (upd H3 S.g (.lst (gs ++ [.ref u]))) x = some (.ins (He.ga K "Shop") dx (shopFs S.p S.g S.now.a)) := (upd_ne nxg).trans hx3
  have hp4 : (upd H3 S.g (.lst (gs ++ [.ref u]))) S.p = some (.lst ps') := (upd_ne ne).trans hp3
  have hg4 : (upd H3 S.g (.lst (gs ++ [.ref u]))) S.g = some (.lst (gs ++ [.ref u])) := upd_same
  have hu4 : (upd H3 S.g (.lst (gs ++ [.ref u]))) u = some (.tup [w', .ref S.now.a]) := (upd_ne nug).trans hu3
  generalize upd H3 S.g (.lst (gs ++ [.ref u])) = H4 at b4 hx4 hp4 hg4 hu4
  refine ⟨_, rfl, _, rfl, x, _, dx, _, rfl, hx4, C.cls 97, C.noat 104, by show 3 < 1000; decide, ?_⟩
  have nux : u ≠ x := fun z => by rw [z, hx4] at hu4; cases hu4
  have bL : But [x] H4 (upd H4 x (.ins (He.ga K "Shop") dx (shopFs S.p S.g e.t.a))) := But.one (nt_ins hx4)
  have b5 := b4.old (p := x) (o := .ins (He.ga K "Shop") dx (shopFs S.p S.g e.t.a)) (by simp)
  have hp5 := bL.keep _ _ hp4 (by simpa using Ne.symm nxp)
  have hg5 := bL.keep _ _ hg4 (by simpa using Ne.symm nxg)
  have hu5 := bL.keep _ _ hu4 (by simpa using nux)
  have hx5 : (upd H4 x (.ins (He.ga K "Shop") dx (shopFs S.p S.g e.t.a))) x = some (.ins (He.ga K "Shop") dx (shopFs S.p S.g e.t.a)) := upd_same
  have fin : ShopAt K (upd H4 x (.ins (He.ga K "Shop") dx (shopFs S.p S.g e.t.a))) x { S with now := e.t, past := es, gone := S.gone ++ [⟨e.d, S.now⟩] } := ?_
  · exact k _ b5 fin
  generalize upd H4 x (.ins (He.ga K "Shop") dx (shopFs S.p S.g e.t.a)) = H5 at b5 hp5 hg5 hu5 hx5
  have E1 := ents_but hps' b5 fun y hy => rd y (res y hy)
  have E2 := paired_app (ents_but hgs b5 fun y hy => rd y (rgone y hy)) (.cons (F := EntAt K H5) (a := V.ref u) (b := (⟨e.d, S.now⟩ : Ent)) ⟨hd, ⟨u, w', rfl, SqT.of hu5, dp_but b5 _ _ (tup_de hd) hw⟩, StandAt.but hS.now b5 fun y hy => rd y (rnow y hy)⟩ .nil)
  exact ⟨⟨dx, hx5⟩, ⟨_, hp5, E1⟩, ⟨_, hg5, E2⟩, StandAt.but hst b5 fun y hy => rd y (re y hy), ne, fun y hy => sep y (by
    unfold ShopS.reads at hy
    simp only [List.mem_append, List.flatMap_append] at hy
    rcases hy with hy | hy | hy | hy
    · exact re y hy
    · exact res y hy
    · exact rgone y hy
    · exact rnow y (by simpa using hy))⟩
def spredo (K : PySem.W.Frag) : Sp := fun vs H Q _ => ∃ (x : Addr) (S : ShopS) (es : List Ent) (e : Ent), vs = [.ref x] ∧ ShopAt K H x S ∧ S.gone = es ++ [e] ∧ (S.past.length < 1000 ∧ S.gone.length < 1000) ∧
  ∀ H', But [x, S.p, S.g] H H' → ShopAt K H' x { S with now := e.t, gone := es, past := S.past ++ [⟨e.d, S.now⟩] } → Q .non H'
abbrev n_Shop_redo : List Str := ["self", "deed", "stand"]
theorem sc_Shop_redo : FnScope n_Shop_redo ["self"] d_Shop_redo.scope := C8.fnScope_by (by decide +kernel)
theorem met_redo {P : Program} {w : World} {K : PySem.W.Frag} {mg : Str → Option Value} {base : Heap} (C : Cn w K mg)  : Met P w K mg base CX0 1 "Shop" "redo" (spredo K) := by
  refine C.met 74 118 97 d_Shop_redo sc_Shop_redo (fun _ _ _ _ _ _ us hl => match us, hl with | [_], _ => rfl) (fun vs H Q E h => ?_) (fun f cdv A outer s H vs Q E hr h => ?_)
  · obtain ⟨x, S, es, e, rfl, _⟩ := h
    rfl
  have nd := sc_Shop_redo.nd
  refine ⟨_, PSs.nox (pss_cons (ps_if (pt_cmpR (op_eqLen hr.units0) (pe_fld (pv 0) rfl) (pe_lst pa_nil) (nomark _)) (pss_one ps_never) pss_nil) (pss_cons (ps_asg (pe_bm0 PySem.F.plainAttrs_list PySem.F.slot_list_pop PySem.F.type_list_pop mt_pop (pe_fld (pv 0) rfl)) (pg_tup rfl (pgs_cons (pg_name (i := 1) nd rfl (by first | exact Or.inl rfl | exact Or.inr rfl)) (pgs_cons (pg_name (i := 2) nd rfl (by first | exact Or.inl rfl | exact Or.inr rfl)) pgs_nil)))) (pss_cons (ps_expr (pe_bm PySem.F.plainAttrs_list PySem.F.slot_list_append PySem.F.type_list_append mt_append (pe_fld (pv 0) rfl) (pa_cons (pe_tup (pa_cons (pv 1) (pa_cons (pe_fld (pv 0) rfl) pa_nil))) pa_nil))) (pss_one (ps_fld (pv 0) (pv 2) rfl))))), ?_⟩
  obtain ⟨x, S, es, e, rfl, hS, hpast, hl, k⟩ := h
  obtain ⟨ps, hp, hps⟩ := hS.gone
  obtain ⟨gs, hg, hgs⟩ := hS.past
  have lv := hS.live
  have ne := hS.ne
  obtain ⟨dx, hx⟩ := hS.at_
  have nxp : x ≠ S.g := fun z => by rw [z, hp] at hx; cases hx
  have nxg : x ≠ S.p := fun z => by rw [z, hg] at hx; cases hx
  rw [hpast] at hps
  obtain ⟨ps', v, rfl, hps', hv⟩ := paired_snoc hps
  have lps := Paired.length hps'
  have lgs := Paired.length hgs
  have base : But [x, S.p, S.g] H H := But.nil _ fun y hy => (lv y (by
    simp only [List.mem_cons, List.not_mem_nil, or_false] at hy ⊢
    rcases hy with h | h | h <;> simp [h])).2
  have sep := hS.sep
  have rd : ∀ y ∈ S.reads, y ∉ [x, S.p, S.g] := fun y hy z => by
    have q := sep y hy
    simp only [List.mem_cons, List.not_mem_nil, or_false] at z
    rcases z with z | z | z
    · exact q.1 z
    · exact q.2.1 z
    · exact q.2.2 z
  have rpast : ∀ y ∈ (es ++ [e]).flatMap (fun e => stReads e.t), y ∈ S.reads := fun y hy => by
    rw [← hpast] at hy
    unfold ShopS.reads
    simp only [List.mem_append]
    exact .inr (.inr hy)
  have rgone : ∀ y ∈ S.past.flatMap (fun e => stReads e.t), y ∈ S.reads := fun y hy => by
    unfold ShopS.reads
    simp only [List.mem_append]
    exact .inr (.inl hy)
  have rnow : ∀ y ∈ stReads S.now, y ∈ S.reads := fun y hy => List.mem_append_left _ hy
  have re : ∀ y ∈ stReads e.t, y ∈ S.reads := fun y hy => rpast y (List.mem_flatMap.mpr ⟨e, by simp, hy⟩)
  have res : ∀ y ∈ es.flatMap (fun e => stReads e.t), y ∈ S.reads := fun y hy => rpast y (by
    rw [List.flatMap_append]; exact List.mem_append_left _ hy)
  obtain ⟨hd, ⟨t, w', rfl, ht, hw⟩, hst⟩ := hv
  dsimp only [tSeq, tIfS, tTest]
  refine fs_gone C (vr rfl) hS ⟨by decide, fun q nq => ?_⟩
  have bq : But [] H (upd H q (.lst [])) := But.refl.new nq
  have hS1 := hS.new bq
  have b1 := base.step bq
  refine ⟨S.g, q, ps' ++ [.ref t], [], rfl, rfl, SqL.of (bq.keep _ _ hp (by simp)), SqL.of upd_same, by simp, _, rfl, iteF ?_⟩
  have hp1 := bq.keep _ _ hp (by simp)
  have hg1 := bq.keep _ _ hg (by simp)
  have hx1 := bq.keep _ _ hx (by simp)
  generalize upd H q (.lst []) = H1 at bq hS1 b1 hp1 hg1 hx1
  dsimp only [gName, tNext, tSeq, tAsg, tBM0, tBM, tDrop]
  refine fs_gone C (vr rfl) hS1 ⟨.inl ⟨rfl, _, SqL.of hp1⟩, S.g, ps' ++ [.ref t], .ref t, rfl, rfl, hp1, by simp, ?_⟩
  rw [List.dropLast_concat]
  have b2 := b1.old (p := S.g) (o := .lst ps') (by simp)
  have hx2 : (upd H1 S.g (.lst ps')) x = some (.ins (He.ga K "Shop") dx (shopFs S.p S.g S.now.a)) := (upd_ne nxp).trans hx1
  have hp2 : (upd H1 S.g (.lst ps')) S.g = some (.lst ps') := upd_same
  have hg2 : (upd H1 S.g (.lst ps')) S.p = some (.lst gs) := (upd_ne ne).trans hg1
  generalize upd H1 S.g (.lst ps') = H2 at b2 hx2 hp2 hg2
  have ht2 := b2.sqT ht
  refine ⟨t, _, rfl, ht2, rfl, _, _, rfl, _, _, rfl, rfl, ?_⟩
  refine ⟨_, rfl, x, _, dx, _, _, rfl, hx2, C.cls 97, C.noat 105, rfl, .inl ⟨rfl, _, SqL.of hg2⟩, _, rfl, _, rfl, x, _, dx, _, _, rfl, hx2, C.cls 97, C.noat 104, rfl, by show 2 ≤ sizeLine; decide, fun u nu => ?_⟩
  have bu : But [] H2 (upd H2 u (.tup [w', .ref S.now.a])) := But.refl.new nu
  have b3 := b2.step bu
  have hx3 := bu.keep _ _ hx2 (by simp)
  have hp3 := bu.keep _ _ hp2 (by simp)
  have hg3 := bu.keep _ _ hg2 (by simp)
  have hu3 : (upd H2 u (.tup [w', .ref S.now.a])) u = some (.tup [w', .ref S.now.a]) := upd_same
  generalize upd H2 u (.tup [w', .ref S.now.a]) = H3 at bu b3 hx3 hp3 hg3 hu3
  refine ⟨S.p, gs, _, rfl, rfl, hg3, by rw [lgs, sizeLine_eq]; omega, ?_⟩
  have nug : u ≠ S.p := fun z => by rw [z, hg3] at hu3; cases hu3
  have b4 := b3.old (p := S.p) (o := .lst (gs ++ [.ref u])) (by simp)
  have hx4 : (upd H3 S.p (.lst (gs ++ [.ref u]))) x = some (.ins (He.ga K "Shop") dx (shopFs S.p S.g S.now.a)) := (upd_ne nxg).trans hx3
  have hp4 : (upd H3 S.p (.lst (gs ++ [.ref u]))) S.g = some (.lst ps') := (upd_ne (Ne.symm ne)).trans hp3
  have hg4 : (upd H3 S.p (.lst (gs ++ [.ref u]))) S.p = some (.lst (gs ++ [.ref u])) := upd_same
  have hu4 : (upd H3 S.p (.lst (gs ++ [.ref u]))) u = some (.tup [w', .ref S.now.a]) := (upd_ne nug).trans hu3
  generalize upd H3 S.p (.lst (gs ++ [.ref u])) = H4 at b4 hx4 hp4 hg4 hu4
  refine ⟨_, rfl, _, rfl, x, _, dx, _, rfl, hx4, C.cls 97, C.noat 104, by show 3 < 1000; decide, ?_⟩
  have nux : u ≠ x := fun z => by rw [z, hx4] at hu4; cases hu4
  have bL : But [x] H4 (upd H4 x (.ins (He.ga K "Shop") dx (shopFs S.p S.g e.t.a))) := But.one (nt_ins hx4)
  have b5 := b4.old (p := x) (o := .ins (He.ga K "Shop") dx (shopFs S.p S.g e.t.a)) (by simp)
  have hp5 := bL.keep _ _ hp4 (by simpa using Ne.symm nxp)
  have hg5 := bL.keep _ _ hg4 (by simpa using Ne.symm nxg)
  have hu5 := bL.keep _ _ hu4 (by simpa using nux)
  have hx5 : (upd H4 x (.ins (He.ga K "Shop") dx (shopFs S.p S.g e.t.a))) x = some (.ins (He.ga K "Shop") dx (shopFs S.p S.g e.t.a)) := upd_same
  have fin : ShopAt K (upd H4 x (.ins (He.ga K "Shop") dx (shopFs S.p S.g e.t.a))) x { S with now := e.t, gone := es, past := S.past ++ [⟨e.d, S.now⟩] } := ?_
  · exact k _ b5 fin
  generalize upd H4 x (.ins (He.ga K "Shop") dx (shopFs S.p S.g e.t.a)) = H5 at b5 hp5 hg5 hu5 hx5
  have E1 := ents_but hps' b5 fun y hy => rd y (res y hy)
  have E2 := paired_app (ents_but hgs b5 fun y hy => rd y (rgone y hy)) (.cons (F := EntAt K H5) (a := V.ref u) (b := (⟨e.d, S.now⟩ : Ent)) ⟨hd, ⟨u, w', rfl, SqT.of hu5, dp_but b5 _ _ (tup_de hd) hw⟩, StandAt.but hS.now b5 fun y hy => rd y (rnow y hy)⟩ .nil)
  exact ⟨⟨dx, hx5⟩, ⟨_, hg5, E2⟩, ⟨_, hp5, E1⟩, StandAt.but hst b5 fun y hy => rd y (re y hy), ne, fun y hy => sep y (by
    unfold ShopS.reads at hy
    simp only [List.mem_append, List.flatMap_append] at hy
    rcases hy with hy | (hy | hy) | hy
    · exact re y hy
    · exact rgone y hy
    · exact rnow y (by simpa using hy)
    · exact res y hy)⟩
end Bu
set_option Elab.async false
set_option linter.all false
set_option maxRecDepth 100000
set_option maxHeartbeats 4000000
/-! A shop does a deed. -/
namespace Bu
open PySem PySem.Spec PyProof.Rows L2
theorem v_ps_fld {X : Cx} {K : PySem.W.Frag} {o value : Expr} {f : Str} {pos pos' : Pos} {ta tv : TE} (ha : PE X o ta) (hv : PE X value tv) (hs : swapsWith value (some (.Attribute o f pos')) pos.line X.env = pure false) (hK : X.K = K := by rfl) : PS X (.Assign [.Attribute o f pos'] value pos) (sFld K ta tv f) := by subst hK; exact ps_fld ha hv hs
def spDo (K : PySem.W.Frag) : Sp := fun vs H Q E => ∃ (x : Addr) (S : ShopS) (N : Int) (v : V) (d : De), Deed d ∧ vs = [.ref x, v] ∧ ShopAt K H x S ∧ S.now.s.Good N ∧ N + 100 < 1000000000000 ∧ S.past.length < 1000 ∧ Dp K H v d.toD ∧
  (∀ s' t, applyD false S.now.s d = .ok (s', t) → ∀ n' g' u H', But [x, S.p] H H' → n'.s = s' → (∀ y ∈ stReads n', H y = none) → H g' = none →
    ShopAt K H' x { S with g := g', now := n', past := S.past ++ [⟨d, S.now⟩], gone := [] } → Told K H H' u t → Q u H') ∧
  (∀ e, applyD false S.now.s d = .error e → ∀ c y H', But [x] H H' → ShopAt K H' x S → ErAt K e c y H' → E c y H')
abbrev n_Shop_do : List Str := ["self", "deed", "kept", "later", "answer"]
theorem sc_Shop_do : FnScope n_Shop_do ["self", "deed"] d_Shop_do.scope := C8.fnScope_by (by decide +kernel)
theorem met_do {P : Program} {w : World} {K : PySem.W.Frag} {mg : Str → Option Value} {base : Heap} (C : Cn w K mg)  : Met P w K mg base (L2.CX P w) 9 "Shop" "do" (spDo K) := by
  refine C.met 72 116 97 d_Shop_do sc_Shop_do (fun _ _ _ _ _ _ us hl => match us, hl with | [_, _], _ => rfl) (fun vs H Q E h => ?_) (fun f cdv A outer s H vs Q E hr h => ?_)
  · obtain ⟨x, S, N, v, d, _, rfl, _⟩ := h
    rfl
  have nd := sc_Shop_do.nd
  refine ⟨_, (pss_cons (ps_expr (pe_cx (cal_need_deed C) hr (takes_of rfl rfl rfl rfl) (pa_cons (pv 1) pa_nil))) (pss_cons (ps_set (i := 2) nd rfl (by first | exact Or.inl rfl | exact Or.inr rfl) (pe_fld (pv 0) rfl)) (pss_cons (ps_set (i := 3) nd rfl (by first | exact Or.inl rfl | exact Or.inr rfl) pe_non) (pss_cons (ps_fld (pv 0) (pe_m0 (met_like C) hr (pv 2)) rfl) (pss_cons (ps_tryF rfl rfl rfl (takes_of rfl rfl rfl rfl) (fun W pn xe tk _ => (pss_cons (ps_set (i := 4) nd rfl (by first | exact Or.inl rfl | exact Or.inr rfl) (pe_cx (cal_done C) hr tk (pa_cons (v_pe_fld (pv 0) rfl (K := K)) (pa_cons (pv 1) pa_nil)))) (pss_one (ps_set (i := 3) nd rfl (by first | exact Or.inl rfl | exact Or.inr rfl) (v_pe_fld (pv 0) rfl (K := K)))))) (pss_one (ps_if (pt_cmpR op_isN (pv 3) pe_non (nomark _)) (pss_one (v_ps_fld (pv 0) (pv 2) rfl (K := K))) pss_nil)) (fun _ _ => (pss_one (ps_if (pt_cmpR op_isN (pv 3) pe_non (nomark _)) (pss_one (v_ps_fld (pv 0) (pv 2) rfl (K := K))) pss_nil)))) (pss_cons (ps_expr (pe_bm PySem.F.plainAttrs_list PySem.F.slot_list_append PySem.F.type_list_append mt_append (pe_fld (pv 0) rfl) (pa_cons (pe_tup (pa_cons (pv 1) (pa_cons (pv 2) pa_nil))) pa_nil))) (pss_cons (ps_fld (pv 0) (pe_lst pa_nil) rfl) (pss_one (ps_ret (pv 4)))))))))), ?_⟩
  obtain ⟨x, S, N, v, d, hd, rfl, hS, hg, hN, hl, dv, k1, k2⟩ := h
  have base : But [x] H H := But.nil _ fun y hy => (hS.live y (by rw [show y = x by simpa using hy]; simp)).2
  refine ⟨_, rfl, v, d, rfl, hd, dv, fun hb H1 b1 => ?_, fun hb c y H' b er => k2 _ (form_bad hb _ _) _ _ _ (base.step b) (hS.new b) er⟩
  have hS1 := hS.new b1
  obtain ⟨dx, hx⟩ := hS.at_
  have hx1 := b1.keep _ _ hx (by simp)
  obtain ⟨ps, hp, hps⟩ := hS.past
  obtain ⟨gs, hgg, _⟩ := hS.gone
  have lps := Paired.length hps
  have nxp : x ≠ S.p := fun z => by rw [z, hp] at hx; cases hx
  have nxg : x ≠ S.g := fun z => by rw [z, hgg] at hx; cases hx
  have lv := hS.live
  have sep := hS.sep
  dsimp only [gName, tNext, tSeq, tAsg, tBM, tDrop]
  refine fs_now C (vr rfl) hS1 ?_
  obtain ⟨dn, _, _, hn1, _, _⟩ := id hS1.now.at_
  refine ⟨_, rfl, S.now.a, dn, _, rfl, hn1, rfl, S.now.a, S.now.c, S.now.s, rfl, hS1.now, fun a' c' H2 b2 yg s2 => ?_⟩
  have s2 : StandAt K H2 a' c' S.now.s := s2
  have b12 := b1.trans b2
  have yg : ∀ y ∈ mine a' c', H y = none := fun y hy => b1.dom y (yg y hy)
  have hx2 := b2.keep _ _ hx1 (by simp)
  have hS2 := hS.new b12
  have ax : ∀ y ∈ mine a' c', y ∉ [x] := fun y hy z => by
    have := yg y hy
    rw [show y = x by simpa using z, hx] at this; cases this
  refine ⟨_, rfl, x, _, dx, _, rfl, hx2, C.cls 97, C.noat 104, by show 3 < 1000; decide, ?_⟩
  try dsimp only [cxOf]
  have m3 : But [x] H2 (upd H2 x (.ins (He.ga K "Shop") dx (putF "now" (.ref a') (shopFs S.p S.g S.now.a)))) := But.one (nt_ins hx2)
  have b3 : But [x] H (upd H2 x (.ins (He.ga K "Shop") dx (putF "now" (.ref a') (shopFs S.p S.g S.now.a)))) := (base.step b12).old (by simp)
  have s3 := s2.but m3 ax
  have hx3 : (upd H2 x (.ins (He.ga K "Shop") dx (putF "now" (.ref a') (shopFs S.p S.g S.now.a)))) x = some (.ins (He.ga K "Shop") dx (shopFs S.p S.g a')) := upd_same
  generalize upd H2 x (.ins (He.ga K "Shop") dx (putF "now" (.ref a') (shopFs S.p S.g S.now.a))) = H3 at m3 b3 s3 hx3
  have old3 : ∀ {y : Addr} {o : HO}, H y = some o → y ≠ x → H3 y = some o := fun {y o} e n => b3.keep _ _ e (by simpa using n)
  have dv3 := dp_but b3 _ _ (tup_de hd) dv
  refine ⟨_, rfl, x, _, dx, _, _, rfl, hx3, C.cls 97, C.noat 104, rfl, _, rfl, a', c', S.now.s, N, v, d, hd, rfl, s3, hg, hN, dv3, fun s' t hok c2 u H4 b4 nc s4 told => ?_, fun e he cls y H4 b4 er => ?_⟩
  · -- it is done
    have nmx : x ∉ mine a' c' := fun z => ax x z (by simp)
    have hx4 := b4.keep _ _ hx3 nmx
    have b04 : But [x] H H4 := b3.thn b4 fun y hy => .inr (yg y hy)
    refine ⟨_, rfl, x, _, dx, _, _, rfl, hx4, C.cls 97, C.noat 104, rfl, ?_⟩
    refine ⟨_, rfl, rfl, _, rfl, iteF ?_⟩
    have hp4 := b04.keep _ _ hp (by simpa using Ne.symm nxp)
    have hg4 := b04.keep _ _ hgg (by simpa using Ne.symm nxg)
    refine ⟨_, rfl, x, _, dx, _, _, rfl, hx4, C.cls 97, C.noat 105, rfl, .inl ⟨rfl, _, SqL.of hp4⟩, _, rfl, _, rfl, by show 2 ≤ sizeLine; decide, fun tt ntt => ?_⟩
    have bt : But [] H4 (upd H4 tt (.tup [v, .ref S.now.a])) := But.refl.new ntt
    have ht5 : (upd H4 tt (.tup [v, .ref S.now.a])) tt = some (.tup [v, .ref S.now.a]) := upd_same
    have hx5 := bt.keep _ _ hx4 (by simp)
    have hp5 := bt.keep _ _ hp4 (by simp)
    have b05 := b04.step bt
    have s5 := s4.new bt
    have told5 := told.old (M := [x]) b3 |>.but bt (by simp)
    have ytt := b04.dom _ ntt
    generalize upd H4 tt (.tup [v, .ref S.now.a]) = H5 at bt ht5 hx5 hp5 b05 s5 told5
    refine ⟨S.p, ps, _, rfl, rfl, hp5, by rw [lps, sizeLine_eq]; omega, ?_⟩
    have bP : But [x, S.p] H H5 := b05.mono (fun y hy => by rw [show y = x by simpa using hy]; simp) fun y hy => (lv y (by
      simp only [List.mem_cons, List.not_mem_nil, or_false] at hy ⊢
      rcases hy with h | h <;> simp [h])).2
    have bp6 : But [S.p] H5 (upd H5 S.p (.lst (ps ++ [.ref tt]))) := But.one (nt_lst hp5)
    have b06 := bP.old (p := S.p) (o := .lst (ps ++ [.ref tt])) (by simp)
    have hx6 := bp6.keep _ _ hx5 (by simpa using nxp)
    have hp6 : (upd H5 S.p (.lst (ps ++ [.ref tt]))) S.p = some (.lst (ps ++ [.ref tt])) := upd_same
    have ntp : tt ≠ S.p := fun z => by rw [z, hp] at ytt; cases ytt
    have ntx : tt ≠ x := fun z => by rw [z, hx] at ytt; cases ytt
    have ht6 := bp6.keep _ _ ht5 (by simpa using ntp)
    have sub : ∀ y ∈ mine a' c2, H y = none := fun y hy => by
      simp only [mine, List.mem_cons, List.not_mem_nil, or_false, nc.o, nc.mu, nc.bo] at hy
      rcases hy with h | h | h | h | h
      · rw [h]; exact yg _ (by simp [mine])
      · rw [h]; exact yg _ (by simp [mine])
      · rw [h]; exact yg _ (by simp [mine])
      · rcases nc.sp with z | z
        · rw [h, z]; exact yg _ (by simp [mine])
        · rw [h]; exact b3.dom _ z
      · rw [h]; exact yg _ (by simp [mine])
    have s6 := s5.but bp6 fun y hy z => by
      have := sub y hy
      rw [show y = S.p by simpa using z, hp] at this; cases this
    have told6 := told5.but bp6 fun y hy => by rw [show y = S.p by simpa using hy, hp]; simp
    generalize upd H5 S.p (.lst (ps ++ [.ref tt])) = H6 at bp6 b06 hx6 hp6 ht6 s6 told6
    refine ⟨by decide, fun g ng => ?_⟩
    have b7 : But [] H6 (upd H6 g (.lst [])) := But.refl.new ng
    have hx7 := b7.keep _ _ hx6 (by simp)
    have hg7 : (upd H6 g (.lst [])) g = some (.lst []) := upd_same
    have hp7 := b7.keep _ _ hp6 (by simp)
    have ht7 := b7.keep _ _ ht6 (by simp)
    have b07 := b06.step b7
    have s7 := s6.new b7
    have told7 := told6.but b7 (by simp)
    have yg0 := b06.dom _ ng
    generalize upd H6 g (.lst []) = H7 at b7 hx7 hg7 hp7 ht7 b07 s7 told7
    refine ⟨_, rfl, x, _, dx, _, rfl, hx7, C.cls 97, C.noat 106, by show 3 < 1000; decide, _, rfl, ?_⟩
    have ngx : g ≠ x := fun z => by rw [z, hx] at yg0; cases yg0
    have npg : S.p ≠ g := fun z => by rw [← z, hp] at yg0; cases yg0
    have b8 : But [x] H7 (upd H7 x (.ins (He.ga K "Shop") dx (shopFs S.p g a'))) := But.one (nt_ins hx7)
    have b08 := b07.old (p := x) (o := .ins (He.ga K "Shop") dx (shopFs S.p g a')) (by simp)
    have hp8 := b8.keep _ _ hp7 (by simpa using Ne.symm nxp)
    have ht8 := b8.keep _ _ ht7 (by simpa using ntx)
    have hg8 := b8.keep _ _ hg7 (by simpa using ngx)
    have s8 := s7.but b8 fun y hy z => by
      have := sub y hy
      rw [show y = x by simpa using z, hx] at this; cases this
    have told8 := told7.but b8 fun y hy => by rw [show y = x by simpa using hy, hx]; simp
    have rd : ∀ y ∈ S.reads, y ∉ [x, S.p] := fun y hy z => by
      have q := sep y hy
      simp only [List.mem_cons, List.not_mem_nil, or_false] at z
      rcases z with z | z
      · exact q.1 z
      · exact q.2.1 z
    have rpast : ∀ y ∈ S.past.flatMap (fun e => stReads e.t), y ∈ S.reads := fun y hy => List.mem_append_right _ (List.mem_append_left _ hy)
    have rnow : ∀ y ∈ stReads S.now, y ∈ S.reads := fun y hy => List.mem_append_left _ hy
    have fin : ShopAt K (upd H7 x (.ins (He.ga K "Shop") dx (shopFs S.p g a'))) x { S with g := g, now := ⟨a', c2, s'⟩, past := S.past ++ [⟨d, S.now⟩], gone := [] } := ?_
    · exact k1 s' t hok ⟨a', c2, s'⟩ g u _ b08 rfl sub yg0 fin told8
    have E1 := paired_app (ents_but hps b08 fun y hy => rd y (rpast y hy)) (.cons (F := EntAt K (upd H7 x (.ins (He.ga K "Shop") dx (shopFs S.p g a')))) (a := V.ref tt) (b := (⟨d, S.now⟩ : Ent)) ⟨hd, ⟨tt, v, rfl, SqT.of ht8, dp_but b08 _ _ (tup_de hd) dv⟩, StandAt.but hS.now b08 fun y hy => rd y (rnow y hy)⟩ .nil)
    refine ⟨⟨dx, upd_same⟩, ⟨_, hp8, E1⟩, ⟨_, hg8, .nil⟩, s8, npg, fun y hy => ?_⟩
    unfold ShopS.reads at hy
    simp only [List.mem_append, List.flatMap_append] at hy
    have oldr : ∀ y ∈ S.reads, y ≠ x ∧ y ≠ S.p ∧ y ≠ g := fun y hy => ⟨(sep y hy).1, (sep y hy).2.1, fun z => (lv y (by simp [hy])).1 (by rw [z]; exact yg0)⟩
    rcases hy with hy | (hy | hy) | hy
    · have := sub y hy
      refine ⟨fun z => (by rw [z, hx] at this; cases this), fun z => (by rw [z, hp] at this; cases this), fun z => ?_⟩
      have l7 := (s7.live y hy).1
      have l6 := (s6.live y hy).1
      rw [z] at l6
      exact l6 ng
    · exact oldr y (rpast y hy)
    · exact oldr y (rnow y (by simpa using hy))
    · simp at hy
  · -- it is refused
    have nmx : x ∉ mine a' c' := fun z => ax x z (by simp)
    have hx4 := b4.keep _ _ hx3 nmx
    have b04 : But [x] H H4 := b3.thn b4 fun y hy => .inr (yg y hy)
    refine ⟨_, rfl, rfl, _, rfl, iteT ?_⟩
    refine ⟨_, rfl, _, rfl, x, _, dx, _, rfl, hx4, C.cls 97, C.noat 104, by show 3 < 1000; decide, ?_⟩
    obtain ⟨er1, ex, rfl, er2⟩ := er
    have nex : ex ≠ x := fun z => by rw [z, hx4] at er2; cases er2
    have b05 := b04.old (p := x) (o := .ins (He.ga K "Shop") dx (shopFs S.p S.g S.now.a)) (by simp)
    have b5 : But [x] H4 (upd H4 x (.ins (He.ga K "Shop") dx (shopFs S.p S.g S.now.a))) := But.one (nt_ins hx4)
    have eqx : ∀ y o, H y = some o → (upd H4 x (.ins (He.ga K "Shop") dx (shopFs S.p S.g S.now.a))) y = some o := fun y o e => by
      by_cases z : y = x
      · rw [z, hx] at e
        cases e
        rw [z, upd_same]
      · exact b05.keep _ _ e (by simpa using z)
    have bN : But [] H (upd H4 x (.ins (He.ga K "Shop") dx (shopFs S.p S.g S.now.a))) := ⟨fun y o e _ => eqx y o e, by simp, b05.dom⟩
    exact k2 e he cls _ _ b05 (hS.new bN) ⟨er1, ex, rfl, b5.keep _ _ er2 (by simpa using nex)⟩
end Bu
set_option Elab.async false
set_option linter.all false
set_option maxRecDepth 100000
set_option maxHeartbeats 4000000
/-! The law's own look at a deed: its form. -/
namespace Bu
open PySem PySem.Spec PyProof.Rows L2
def sizesL : List (Key × V) := [(.inr "bar", .int 3), (.inr "change", .int 3), (.inr "cut", .int 2), (.inr "move", .int 3), (.inr "mark", .int 5), (.inr "wipe", .int 2), (.inr "end", .int 3), (.inr "paper", .int 6), (.inr "many", .int 2)]
/-- a deed's text and how many things it wants -/
theorem de_form {d : De} (hd : Deed d) : (d.toD = .tuple [] ∧ formless d = true) ∨ ∃ (x : Str) (rest : List PyData) (m : Int), d.toD = .tuple (.str x :: rest) ∧ (valV sizesL (.inr x)).getD (.int 0) = .int m ∧ ((((PyData.str x :: rest).length : Nat) : Int) = m ↔ formless d = false) := by
  cases d with
  | odd l =>
    have hd : OddOk l := hd
    rcases hd with rfl | rfl | rfl | ⟨n, rfl⟩
    · exact .inl ⟨rfl, rfl⟩
    · exact .inr ⟨_, _, 2, rfl, by decide +kernel, by simp [formless]⟩
    · exact .inr ⟨_, _, 0, rfl, by decide +kernel, by simp [formless]⟩
    · exact .inr ⟨_, _, 2, rfl, by decide +kernel, by simp [formless]⟩
  | bar => exact .inr ⟨_, _, 3, rfl, by decide +kernel, by simp [formless]⟩
  | change => exact .inr ⟨_, _, 3, rfl, by decide +kernel, by simp [formless]⟩
  | cut => exact .inr ⟨_, _, 2, rfl, by decide +kernel, by simp [formless]⟩
  | move => exact .inr ⟨_, _, 3, rfl, by decide +kernel, by simp [formless]⟩
  | mark => exact .inr ⟨_, _, 5, rfl, by decide +kernel, by simp [formless]⟩
  | wipe => exact .inr ⟨_, _, 2, rfl, by decide +kernel, by simp [formless]⟩
  | fin => exact .inr ⟨_, _, 3, rfl, by decide +kernel, by simp [formless]⟩
  | paper sh => exact .inr ⟨_, _, 6, rfl, by decide +kernel, by have hd : sh.length = 5 := hd; simp [formless, hd]⟩
  | many => exact .inr ⟨_, _, 2, rfl, by decide +kernel, by simp [formless]⟩
def spFormless (K : PySem.W.Frag) : Sp := fun vs H Q _ => ∃ (v : V) (d : De), vs = [v] ∧ Deed d ∧ Dp K H v d.toD ∧ ∀ H', But [] H H' → Q (.bl (formless d)) H'
abbrev n_law_formless : List Str := ["_law_deed_here", "_law_sizes"]
theorem sc_law_formless : FnScope n_law_formless ["_law_deed_here"] d_law_formless.scope := C8.fnScope_by (by decide +kernel)
theorem cal_formless {P : Program} {w : World} {K : PySem.W.Frag} {mg : Str → Option Value} {base : Heap} (C : Cn w K mg)  : Cal P w K mg base CX0 1 "_law_formless" (spFormless K) := by
  refine C.cal 48 48 d_law_formless sc_law_formless (fun _ _ _ _ _ _ us hl => match us, hl with | [_], _ => rfl) (fun vs H Q E h => ?_) (fun f cdv A outer s H vs Q E hr h => ?_)
  · obtain ⟨v, d, rfl, _⟩ := h
    rfl
  have nd := sc_law_formless.nd
  refine ⟨_, PSs.nox (pss_cons (ps_set (i := 1) nd rfl (by first | exact Or.inl rfl | exact Or.inr rfl) (pe_disp (pps_cons pe_str pe_int (pps_cons pe_str pe_int (pps_cons pe_str pe_int (pps_cons pe_str pe_int (pps_cons pe_str pe_int (pps_cons pe_str pe_int (pps_cons pe_str pe_int (pps_cons pe_str pe_int (pps_cons pe_str pe_int pps_nil))))))))) rfl rfl (fun z => by cases z) (by decide))) (pss_one (ps_ret (pe_or (pe_cmpR op_eq (pe_callB call_len_seq (by rfl) (C.free 67) (by decide +kernel) (pa_cons (pv 0) pa_nil)) pe_int (nomark _)) (pe_one (pe_cmpR op_ne (pe_callB call_len_seq (by rfl) (C.free 67) (by decide +kernel) (pa_cons (pv 0) pa_nil)) (pe_dget2 (hu_of hr) (pv 1) (pe_ix ix_tup (pv 0) pe_int (fun _ _ => rfl)) pe_int ⟨rfl, rfl, rfl, rfl⟩) (nomark _))))))), ?_⟩
  obtain ⟨v, d, rfl, hd, dv, k⟩ := h
  refine fun p np => ⟨upd_same, sizesL, rfl, by decide, ?_⟩
  rw [upd_upd]
  have em : mergeK [] sizesL = sizesL := by decide +kernel
  rw [em]
  have b1 : But [] H (upd H p (.dK sizesL)) := But.refl.new np
  have hp : (upd H p (.dK sizesL)) p = some (.dK sizesL) := upd_same
  generalize upd H p (.dK sizesL) = H1 at b1 hp
  have dv1 := dp_but b1 _ _ (tup_de hd) dv
  rcases de_form hd with ⟨e1, e2⟩ | ⟨x, rest, m, e1, e2, e3⟩
  · rw [e1] at dv1
    obtain ⟨q, vs, rfl, hq, da⟩ := dp_tup dv1
    cases dpa_nil da
    refine ⟨_, rfl, q, [], rfl, .inr hq, rfl, _, rfl, iteT ?_⟩
    have := k _ b1
    rw [e2] at this; exact this
  · rw [e1] at dv1
    obtain ⟨q, vs, rfl, hq, da⟩ := dp_tup dv1
    have lv := dpa_length da
    obtain ⟨v1, ws, rfl, d1, _⟩ := dpa_cons da
    cases dp_str d1
    refine ⟨_, rfl, q, _, rfl, .inr hq, rfl, _, rfl, ite2 (fun z => ?_) (fun _ => ?_)⟩
    · have z := V.int.inj (of_decide_eq_true z)
      simp only [List.length_cons] at z
      omega
    · refine ⟨_, rfl, q, _, rfl, .inr hq, _, rfl, p, rfl, .inl ⟨_, .inl hp⟩, _, rfl, q, _, _, _, rfl, rfl, hq, atI_nat (j := 0) rfl, _, DGet.k (k := .inr x) hp, ?_⟩
      rw [e2]
      refine ⟨rfl, ?_⟩
      have := k _ b1
      have e4 : (!decide (V.int (((V.str x :: ws).length : Nat) : Int) = V.int m)) = formless d := by
        rw [lv]
        cases hf : formless d with
        | false => rw [e3.mpr hf]; simp
        | true =>
          rw [decide_eq_false]
          · rfl
          · intro z
            have z := e3.mp (V.int.inj z)
            rw [hf] at z; cases z
      rw [e4]
      exact this
end Bu
set_option Elab.async false
set_option linter.all false
set_option maxRecDepth 100000
set_option maxHeartbeats 4000000
/-! The law's own look at a bar. -/
namespace Bu
open PySem PySem.Spec PyProof.Rows L2
def faultText (b : Br) : Str := match fault b with
  | none => ""
  | some i => (" " : Str) ++ (toString i : Str)
def pairD (h : Hd) : PyData := .tuple [.int h.1, .int h.2.1]
theorem tup_pairs (hs : List Hd) : tupDs (hs.map pairD) = true := tupDs_map (fun _ => rfl) hs
def spLawFault (K : PySem.W.Frag) : Sp := fun vs H Q _ => ∃ (v : V) (b : Br), vs = [v] ∧ Dp K H v (brD b) ∧ Br.ok b ∧ ∀ H', But [] H H' → Q (.str (faultText b)) H'
abbrev n_law_fault : List Str := ["_law_music", "_law_k", "_law_beats", "_law_heads_here", "_law_word", "_law_pairs", "_law_head", "_law_climbs", "_law_at", "_law_inside"]
theorem sc_law_fault : FnScope n_law_fault ["_law_music"] d_law_fault.scope := C8.fnScope_by (by decide +kernel)
theorem cal_fault {P : Program} {w : World} {K : PySem.W.Frag} {mg : Str → Option Value} {base : Heap} (C : Cn w K mg)  : Cal P w K mg base CX0 1 "_law_fault" (spLawFault K) := by
  refine C.cal 50 50 d_law_fault sc_law_fault (fun _ _ _ _ _ _ us hl => match us, hl with | [_], _ => rfl) (fun vs H Q E h => ?_) (fun f cdv A outer s H vs Q E hr h => ?_)
  · obtain ⟨v, b, rfl, _⟩ := h
    rfl
  have nd := sc_law_fault.nd
  refine ⟨_, PSs.nox (pss_cons (ps_for PassesOwn.never rfl (pi_range1 rfl (C.free 68) (pa_cons (pe_callB (call_min2 rfl) (by rfl) (C.free 76) (by decide +kernel) (pa_cons pe_int (pa_cons (pe_callB call_len_seq (by rfl) (C.free 67) (by decide +kernel) (pa_cons (pv 0) pa_nil)) pa_nil))) pa_nil)) (pg_name (i := 1) nd rfl (by first | exact Or.inl rfl | exact Or.inr rfl)) (pss_cons (ps_asg (pe_ix ix_tup (pv 0) (pv 1) (fun _ _ => rfl)) (pg_tup rfl (pgs_cons (pg_name (i := 2) nd rfl (by first | exact Or.inl rfl | exact Or.inr rfl)) (pgs_cons (pg_name (i := 3) nd rfl (by first | exact Or.inl rfl | exact Or.inr rfl)) (pgs_cons (pg_name (i := 4) nd rfl (by first | exact Or.inl rfl | exact Or.inr rfl)) pgs_nil))))) (pss_cons (ps_set (i := 5) nd rfl (Or.inr rfl) (pe_lc (own := [("_law_head", 6)]) (tt := tYes) rfl nd (pi_tup (pv 3)) (blkOk_by (own := [("_law_head", 6)]) (N := n_law_fault) (sc := d_law_fault.scope) (by decide +kernel)) (fun _ _ _ _ _ => (pg_name (i := 6) nd rfl (by first | exact Or.inl rfl | exact Or.inr rfl))) (fun _ _ _ _ _ => pts_nil) (fun _ _ _ _ _ => (pe_slice (v_sl_tupA (K := K)) (pv 6) po_none (po_some pe_int))))) (pss_cons (ps_set (i := 7) nd rfl (by first | exact Or.inl rfl | exact Or.inr rfl) (pe_callB (cr_all rfl) (by rfl) (C.free 75) (by decide +kernel) (pa_cons (pe_lc (own := [("_law_at", 8)]) (tt := tYes) rfl nd (pi_range1 rfl (C.free 68) (pa_cons (pe_op op_sub (pe_callB call_len_seq (by rfl) (C.free 67) (by decide +kernel) (pa_cons (pv 5) pa_nil)) pe_int) pa_nil)) (blkOk_by (own := [("_law_at", 8)]) (N := n_law_fault) (sc := d_law_fault.scope) (by decide +kernel)) (fun _ _ _ _ _ => (pg_name (i := 8) nd rfl (by first | exact Or.inl rfl | exact Or.inr rfl))) (fun _ _ _ _ _ => pts_nil) (fun _ _ _ _ _ => (pe_cmpR (v_op_ltT hr.units0 (K := K)) (pe_ix (v_ix_list (K := K)) (pv 5) (pv 8) (fun _ _ => rfl)) (pe_ix (v_ix_list (K := K)) (pv 5) (pe_op op_add (pv 8) pe_int) (fun _ _ => rfl)) (nomark _)))) pa_nil))) (pss_cons (ps_set (i := 9) nd rfl (by first | exact Or.inl rfl | exact Or.inr rfl) (pe_callB (cr_all rfl) (by rfl) (C.free 75) (by decide +kernel) (pa_cons (pe_lc (own := [("_law_head", 6)]) (tt := tYes) rfl nd (pi_tup (pv 3)) (blkOk_by (own := [("_law_head", 6)]) (N := n_law_fault) (sc := d_law_fault.scope) (by decide +kernel)) (fun _ _ _ _ _ => (pg_name (i := 6) nd rfl (by first | exact Or.inl rfl | exact Or.inr rfl))) (fun _ _ _ _ _ => pts_nil) (fun _ _ _ _ _ => (pe_and (pe_chain op_le op_le pe_int (pe_ix (v_ix_tup (K := K)) (pv 6) pe_int (fun _ _ => rfl)) pe_int) (pe_one (pe_cmpR op_le (pe_callB call_abs (by rfl) (C.free 74) (by decide +kernel) (pa_cons (pe_ix (v_ix_tup (K := K)) (pv 6) pe_int (fun _ _ => rfl)) pa_nil)) pe_int (nomark _)))))) pa_nil))) (pss_one (ps_if (pt_cut (PW.pt (pw_or (pt_not (pt_chain op_le op_le pe_int (pv 2) pe_int)) (pw_or (pt_not (pt_chain op_le op_le pe_int (pv 4) pe_int)) (pw_or (pt_not (pt_val (pv 7))) (pw_or (pt_not (pt_val (pv 9))) (pw_or1 (pt_cmpR op_gt (pe_callB call_len_seq (by rfl) (C.free 67) (by decide +kernel) (pa_cons (pv 3) pa_nil)) pe_int (nomark _))))))))) (pss_one (ps_ret (pe_op op_add_str pe_str (pe_callTy call_str_int (by rfl) (C.free 77) (by decide +kernel) (pa_cons (pv 1) pa_nil))))) pss_nil))))))) (pss_one (ps_ret (pe_ifExp (pt_cmpR (op_eqD hr.units) (pv 0) (pe_tup pa_nil) (nomark _)) pe_str (pe_ifExp (pt_cmpR op_gt (pe_callB call_len_seq (by rfl) (C.free 67) (by decide +kernel) (pa_cons (pv 0) pa_nil)) pe_int (nomark _)) pe_str pe_str))))), ?_⟩
  obtain ⟨v, b, rfl, dv, ok, k⟩ := h
  obtain ⟨a, vs, rfl, ha, da⟩ := dp_tup dv
  have lb := dpa_length da
  rw [List.length_map] at lb
  have e6 : (if ((vs.length : Nat) : Int) < 6 then ((vs.length : Nat) : Int) else 6) = ((min 6 b.length : Nat) : Int) := by
    rw [lb]; split <;> omega
  refine ⟨_, rfl, a, vs, rfl, .inr ha, _, _, rfl, ?_⟩
  rw [e6]
  refine ⟨_, rfl, by omega, by omega, ?_⟩
  have e7 : (((min 6 b.length : Nat) : Int)).toNat = min 6 b.length := by omega
  rw [e7]
  refine for_range (lo := 0) (n := min 6 b.length) (fun i σ' H' => ∃ x1 x2 x3 x4 x5 x7 x9, σ' = [some (.ref a), x1, x2, x3, x4, x5, none, x7, none, x9] ∧ But [] H H' ∧ firstBad (b.take 6) 0 = firstBad ((b.take 6).drop i) i) ⟨none, none, none, none, none, none, none, rfl, But.refl, rfl⟩ ?_ ?_
  · rintro i σ' H' hi ⟨x1, x2, x3, x4, x5, x7, x9, rfl, bb, hf⟩
    have hiv : i < vs.length := by omega
    have hx : vs[i]? = some vs[i] := List.getElem?_eq_getElem hiv
    obtain ⟨dd, hd, dx⟩ := dpa_get da hx
    rw [List.getElem?_map] at hd
    obtain ⟨m, hm, rfl⟩ := Option.map_eq_some_iff.mp hd
    have okm : Mo.ok m := ok m (List.mem_of_getElem? hm)
    have hdr : (b.take 6).drop i = m :: (b.take 6).drop (i + 1) := by
      have : (b.take 6)[i]? = some m := by rw [List.getElem?_take, if_pos (by omega)]; exact hm
      obtain ⟨hlt, e⟩ := List.getElem?_eq_some_iff.mp this
      rw [List.drop_eq_getElem_cons hlt, e]
    rw [hdr] at hf
    have dx := dp_but bb _ _ (tup_mo m) dx
    obtain ⟨a1, ws, ew, ha1, dw⟩ := dp_tup dx
    obtain ⟨v1, ws, rfl, d1, dw⟩ := dpa_cons dw
    obtain ⟨v2, ws, rfl, d2, dw⟩ := dpa_cons dw
    obtain ⟨v3, ws, rfl, d3, dw⟩ := dpa_cons dw
    cases dpa_nil dw
    cases dp_int d1
    cases dp_int d3
    obtain ⟨a2, hs, rfl, hh, dh⟩ := dp_tup d2
    have lh := dpa_length dh
    rw [List.length_map] at lh
    have few := okm.1
    have h0i : atI vs ((0 : Int) + (i : Nat)) = some vs[i] := by rw [Int.zero_add]; exact atI_nat hx
    refine ⟨_, rfl, _, rfl, a, vs, _, _, rfl, rfl, bb.sqT ha, h0i, a1, _, ew, ha1, rfl, _, _, rfl, _, _, rfl, _, _, rfl, rfl, ?_⟩
    -- the pairs
    refine ⟨_, rfl, a2, rfl, ⟨_, hh⟩, fun D nD => ?_⟩
    have hmd : m.2.1.length = hs.length := lh.symm
    refine lc_tup (K := K) (a := a2) (xs := hs) (fun j H2 => ∃ ys, Acc K [] (upd H' D (.lst [])) D ((m.2.1.take j).map pairD) H2 ys) ⟨_, Acc.start upd_same (by simp)⟩ (fun j H2 _ ⟨_, ac⟩ => (((But.refl.new nD).thn ac.but fun x hx => .inr (by rw [show x = D by simpa using hx]; exact nD)) : But [] H' H2).sqT hh) ?_ ?_
    · rintro j y H2 hy ⟨ys, ac⟩
      have b2 : But [] H' H2 := (But.refl.new nD).thn ac.but fun x hx => .inr (by rw [show x = D by simpa using hx]; exact nD)
      obtain ⟨d, hd', dy⟩ := dpa_get dh hy
      rw [List.getElem?_map] at hd'
      obtain ⟨h, hh', rfl⟩ := Option.map_eq_some_iff.mp hd'
      refine ⟨rfl, _, rfl, ?_⟩
      dsimp only [tNoPart]
      refine ⟨_, rfl, ?_⟩
      refine slA_end (dp_but b2 _ _ rfl dy) rfl fun v1 H3 b3 d3 => ?_
      rw [cutL_hd] at d3
      obtain ⟨hD, ac'⟩ := ac.push (y := v1) (d := pairD h) b3 (by simp) d3 (tup_pairs _) rfl
      refine ⟨_, hD, ?_, ys ++ [v1], ?_⟩
      · have := dpa_length ac.da
        rw [List.length_map, List.length_take] at this
        rw [sizeLine_eq]; omega
      · rw [List.take_add_one, hh', List.map_append]; exact ac'
    rintro H1 ⟨ys, ac⟩
    rw [lh, List.take_length] at ac
    have b1 : But [] H' H1 := (But.refl.new nD).thn ac.but fun x hx => .inr (by rw [show x = D by simpa using hx]; exact nD)
    have hD1 := ac.at_
    have dY := ac.da
    have lys := dpa_length dY
    rw [List.length_map] at lys
    clear ac
    -- whether they climb
    refine ⟨_, rfl, D, ys, rfl, .inl (SqL.of hD1), _, _, rfl, rfl, _, rfl, by omega, by omega, fun D2 nD2 => ?_⟩
    refine lc_range (lo := 0) (n := ((ys.length : Int) - 1).toNat) (fun j H2 => Bools H1 D2 ((List.range j).map (bl2 m.2.1)) H2) (Bools.start nD2) ?_ ?_
    · intro j H2 hj b
      have hD2 : SqL K H2 D ys := b.but.sqL (SqL.of hD1) (by simp)
      have hx1 : ys[j]? = some ys[j] := List.getElem?_eq_getElem (by omega)
      have hx2 : ys[j + 1]? = some ys[j + 1] := List.getElem?_eq_getElem (by omega)
      obtain ⟨d1, hd1, dx1⟩ := dpa_get dY hx1
      obtain ⟨d2, hd2, dx2⟩ := dpa_get dY hx2
      rw [List.getElem?_map] at hd1 hd2
      obtain ⟨h1, hh1', rfl⟩ := Option.map_eq_some_iff.mp hd1
      obtain ⟨h2, hh2', rfl⟩ := Option.map_eq_some_iff.mp hd2
      have q1 : atI ys ((0 : Int) + (j : Nat)) = some ys[j] := by rw [Int.zero_add]; exact atI_nat hx1
      have q2 : atI ys ((0 : Int) + (j : Nat) + 1) = some ys[j + 1] := by
        rw [Int.zero_add]
        exact atI_nat hx2
      obtain ⟨p1, ep1, r1⟩ := dp_tip (t := (h1.1, h1.2.1)) (dp_but b.but _ _ rfl dx1)
      obtain ⟨p2, ep2, r2⟩ := dp_tip (t := (h2.1, h2.2.1)) (dp_but b.but _ _ rfl dx2)
      refine ⟨rfl, _, rfl, _, rfl, D, ys, _, _, rfl, rfl, hD2, q1, _, rfl, _, rfl, _, _, rfl, rfl, D, ys, _, _, rfl, rfl, hD2, q2, p1, p2, [h1.1, h1.2.1], [h2.1, h2.2.1], ep1, ep2, r1, r2, ?_⟩
      rw [lexLt2]
      obtain ⟨hDD, b'⟩ := b.push (c := below2 h1 h2) nD2 But.refl
      refine ⟨_, hDD, by rw [List.length_map, List.length_map, List.length_range, sizeLine_eq]; omega, ?_⟩
      rw [range_push, show bl2 m.2.1 j = below2 h1 h2 by unfold bl2; rw [hh1', hh2']]
      exact b'
    intro H2 bb2
    refine ⟨D2, _, rfl, SqL.of bb2.at_, ?_⟩
    rw [show ((ys.length : Int) - 1).toNat = m.2.1.length - 1 by omega, climbs_all]
    have b12 := b1.trans bb2.but
    have hh2 := b12.sqT hh
    have dh2 := dps_but b12 _ _ (tup_all _ (fun _ => rfl) _) dh
    -- whether they lie inside
    refine ⟨_, rfl, a2, rfl, ⟨_, hh2⟩, fun D3 nD3 => ?_⟩
    refine lc_tup (K := K) (a := a2) (xs := hs) (fun j H3 => Bools H2 D3 ((m.2.1.take j).map headOk) H3) (Bools.start nD3) (fun j H3 _ b => b.but.sqT hh2) ?_ ?_
    · intro j y H3 hy b
      obtain ⟨d, hd', dy⟩ := dpa_get dh2 hy
      rw [List.getElem?_map] at hd'
      obtain ⟨h, hh', rfl⟩ := Option.map_eq_some_iff.mp hd'
      obtain ⟨q, zs, rfl, hq, dz⟩ := dp_tup (dp_but b.but _ _ rfl dy)
      obtain ⟨z1, zs, rfl, f1, dz⟩ := dpa_cons dz
      obtain ⟨z2, zs, rfl, f2, dz⟩ := dpa_cons dz
      obtain ⟨z3, zs, rfl, f3, dz⟩ := dpa_cons dz
      cases dpa_nil dz
      cases dp_int f1
      cases dp_int f2
      have fin : ∀ c, c = headOk h → ∃ acc, H3 D3 = some (.lst acc) ∧ acc.length < sizeLine ∧ Bools H2 D3 ((m.2.1.take (j + 1)).map headOk) (upd H3 D3 (.lst (acc ++ [V.bl c]))) := fun c hc => by
        subst hc
        obtain ⟨hD, b'⟩ := b.push (c := headOk h) nD3 But.refl
        exact ⟨_, hD, by rw [List.length_map, List.length_map, List.length_take, sizeLine_eq]; omega, by rw [take_push headOk hh']; exact b'⟩
      refine ⟨rfl, ?_⟩
      refine ⟨_, rfl, q, _, _, _, rfl, rfl, hq, atI_nat (j := 0) rfl, _, _, rfl, rfl, _, rfl, ite2 (fun e1 => ⟨_, _, rfl, rfl, _, rfl, ite2 (fun e2 => ⟨_, rfl, q, _, _, _, rfl, rfl, hq, atI_nat (j := 1) rfl, _, rfl, _, _, rfl, rfl, ?_⟩) (fun e2 => ?_)⟩) (fun e1 => ⟨_, rfl, ?_⟩)⟩
      · refine fin _ ?_
        have e1 := of_decide_eq_true e1
        have e2 := of_decide_eq_true e2
        unfold headOk
        rw [decide_eq_true (show 0 ≤ h.1 ∧ h.1 ≤ 3 from ⟨e1, e2⟩), Bool.true_and]
        exact decide_eq_decide.mpr (by split <;> omega)
      · refine fin _ ?_
        have e2 : ¬ h.1 ≤ 3 := fun z => e2 (decide_eq_true z)
        unfold headOk
        rw [decide_eq_false (show ¬ (0 ≤ h.1 ∧ h.1 ≤ 3) by omega)]; rfl
      · refine iteF (fin _ ?_)
        have e1 : ¬ 0 ≤ h.1 := fun z => e1 (decide_eq_true z)
        unfold headOk
        rw [decide_eq_false (show ¬ (0 ≤ h.1 ∧ h.1 ≤ 3) by omega)]; rfl
    intro H3 b3
    refine ⟨D3, _, rfl, SqL.of b3.at_, ?_⟩
    have eh : ((m.2.1.take hs.length).map headOk).all id = m.2.1.all headOk := by
      rw [lh, List.take_length, List.all_map]; rfl
    rw [eh]
    have b13 := b12.trans b3.but
    refine ⟨fun bt H4 => H4 = H3 ∧ bt = !momOk m, ?_, ?_⟩
    · have no : momOk m = false → (H3 = H3 ∧ true = !momOk m) := fun z => ⟨rfl, by rw [z]; rfl⟩
      refine chainR rfl ⟨_, rfl, ite2 (fun e1 => no ?_) (fun e1 => ?_)⟩
      · unfold momOk; rw [show decide (1 ≤ m.1 ∧ m.1 ≤ 32) = false from not_t e1]; rfl
      refine chainR rfl ⟨_, rfl, ite2 (fun e2 => no ?_) (fun e2 => ?_)⟩
      · unfold momOk; rw [show decide (0 ≤ m.2.2 ∧ m.2.2 ≤ 40) = false from not_t e2]; simp
      refine ⟨_, rfl, _, rfl, ite2 (fun e3 => no ?_) (fun e3 => ?_)⟩
      · unfold momOk; rw [show climbs m.2.1 = false from not_t e3]; simp
      refine ⟨_, rfl, _, rfl, ite2 (fun e4 => no ?_) (fun e4 => ?_)⟩
      · unfold momOk; rw [show m.2.1.all headOk = false from not_t e4]; simp
      refine ⟨_, rfl, a2, hs, rfl, .inr (b13.sqT hh), _, _, rfl, rfl, _, rfl, ?_⟩
      refine ⟨rfl, ?_⟩
      unfold momOk
      rw [show decide (1 ≤ m.1 ∧ m.1 ≤ 32) = true from not_f e1, show decide (0 ≤ m.2.2 ∧ m.2.2 ≤ 40) = true from not_f e2, show climbs m.2.1 = true from not_f e3, show m.2.1.all headOk = true from not_f e4, decide_eq_true few]
      exact decide_eq_false (by omega)
    rintro bt H4 ⟨rfl, rfl⟩
    have bH := bb.trans b13
    refine ite2 (fun e => ?_) (fun e => ?_)
    · have e2 : momOk m = false := not_t e
      rw [firstBad, e2] at hf
      have hne : b ≠ [] := fun z => by rw [z] at hm; cases hm
      have := k H4 bH
      unfold faultText fault at this
      rw [if_neg hne, hf] at this
      have li := txt_len i (by omega)
      have l1 : (" " : Str).length = 1 := by decide
      have ei : (0 : Int) + (i : Nat) = (i : Int) := Int.zero_add _
      refine ⟨_, rfl, _, rfl, by rw [ei]; exact log_small (by omega), _, _, rfl, rfl, by rw [l1, ei, sizeLine_eq]; omega, ?_⟩
      rw [ei]
      exact this
    · have e2 : momOk m = true := not_f e
      rw [firstBad, e2] at hf
      exact ⟨_, _, _, _, _, _, _, rfl, bH, hf⟩
  · rintro σ' H' ⟨x1, x2, x3, x4, x5, x7, x9, rfl, bb, hf⟩
    rw [List.drop_of_length_le (by rw [List.length_take]; omega)] at hf
    have kk := fun H2 (b2 : But [] H' H2) => k H2 (bb.trans b2)
    have dv' := dp_but bb _ _ (tup_br b) dv
    refine ⟨_, rfl, by decide, fun p np => ⟨_, .tuple [], dp_but (But.refl.new np) _ _ (tup_br b) dv', .tup (SqT.of upd_same) .nil, (sh_br ok).shaped, rfl, _, rfl, ?_⟩⟩
    have bp : But [] H' (upd H' p (.tup [])) := But.refl.new np
    have ee : PyData.eqv (brD b) (.tuple []) = b.isEmpty := by
      unfold brD
      rw [eqv_nilT]
      cases b <;> rfl
    rw [ee]
    refine ite2 (fun e => ?_) (fun e => ?_)
    · have e0 : b = [] := List.isEmpty_iff.mp e
      have := kk _ bp
      rw [e0] at this; exact this
    · have e0 : b ≠ [] := fun z => e (by rw [z]; rfl)
      have kk := kk _ bp
      unfold faultText fault at kk
      rw [if_neg e0, hf] at kk
      refine ⟨_, rfl, a, vs, rfl, .inr (sqT_new (bb.sqT ha) np), _, _, rfl, rfl, _, rfl, ite2 (fun e => ?_) (fun e => ?_)⟩
      · have e1 := of_decide_eq_true e
        rw [show ∀ n, firstBad [] n = none from fun _ => rfl, if_pos (by omega)] at kk
        exact kk
      · have e1 : ¬ (6 : Int) < vs.length := fun z => e (decide_eq_true z)
        rw [show ∀ n, firstBad [] n = none from fun _ => rfl, if_neg (by omega)] at kk
        exact kk
end Bu
set_option Elab.async false
set_option linter.all false
set_option maxRecDepth 100000
set_option maxHeartbeats 4000000
/-! The law's own look at a mark. -/
namespace Bu
open PySem PySem.Spec PyProof.Rows L2
theorem small_log {n : Int} (h : Small n) : n.natAbs.log2 < 60 + 1 := by
  have h : n.natAbs < 2 ^ 60 := h
  by_cases e : n.natAbs = 0
  · rw [e]; decide
  · exact Nat.lt_succ_of_lt ((Nat.log2_lt e).mpr h)
theorem small_len {n : Int} (h : Small n) : (toString n : Str).length ≤ 62 := by
  have e := int_text_length_le (k := 61) (by decide) (small_log h)
  show (Str.ofString (toString n)).length ≤ 62
  rw [PySem.ofString_length]; exact e
theorem small_log2 {n : Int} (h : Small n) : n.natAbs.log2 < 1920 := by have := small_log h; omega
theorem str_assoc (a b c : Str) : (a ++ b) ++ c = a ++ (b ++ c) := by
  show (⟨(a.cps ++ b.cps) ++ c.cps⟩ : Str) = ⟨a.cps ++ (b.cps ++ c.cps)⟩
  rw [Array.append_assoc]
/-- what the law's model says of a deed -/
def badText (s : Sta) (d : De) : Str := match bad s d with
  | none => ""
  | some e => e.text
theorem bt_none {s : Sta} {d : De} (h : bad s d = none) : badText s d = "" := by unfold badText; rw [h]
theorem bt_some {s : Sta} {d : De} {e : Er} (h : bad s d = some e) : badText s d = e.text := by unfold badText; rw [h]
theorem text_noBar (n : Int) : (eNoBar n).text = ("no bar " : Str) ++ (toString n : Str) := by
  show (("no bar" : Str) ++ (" " : Str)) ++ (toString n : Str) = _
  rw [show ("no bar" : Str) ++ (" " : Str) = "no bar " by decide]
theorem text_noMoment (n : Int) : (eNoMoment n).text = ("no moment " : Str) ++ (toString n : Str) := by
  show (("no moment" : Str) ++ (" " : Str)) ++ (toString n : Str) = _
  rw [show ("no moment" : Str) ++ (" " : Str) = "no moment " by decide]
theorem text_noMark (n : Int) : (eNoMark n).text = ("no mark " : Str) ++ (toString n : Str) := by
  show (("no mark" : Str) ++ (" " : Str)) ++ (toString n : Str) = _
  rw [show ("no mark" : Str) ++ (" " : Str) = "no mark " by decide]
/-- a promise that looks at a model and a deed -/
def spLook (K : PySem.W.Frag) (is : De → Prop) (f : Sta → De → PyData) : Sp := fun vs H Q _ => ∃ (m : Addr) (c : Cnt) (s : Sta) (N : Int) (v : V) (d : De), is d ∧ Deed d ∧ vs = [.ref m, v] ∧ ModAt K H m c s ∧ s.Good N ∧ N < 1000000000000 ∧ Dp K H v d.toD ∧ ∀ u H', But [] H H' → Dp K H' u (f s d) → Q u H'
abbrev n_law_mark_bad : List Str := ["_law_m", "_law_deed_here", "_law_on", "_law_begin", "_law_last", "_law_thick", "_law_tip_here"]
theorem sc_law_mark_bad : FnScope n_law_mark_bad ["_law_m", "_law_deed_here"] d_law_mark_bad.scope := C8.fnScope_by (by decide +kernel)
theorem cal_mark_bad {P : Program} {w : World} {K : PySem.W.Frag} {mg : Str → Option Value} {base : Heap} (C : Cn w K mg)  : Cal P w K mg base CX0 2 "_law_mark_bad" (spLook K isMark fun s d => .str (badText s d)) := by
  refine C.cal 49 49 d_law_mark_bad sc_law_mark_bad (fun _ _ _ _ _ _ us hl => match us, hl with | [_, _], _ => rfl) (fun vs H Q E h => ?_) (fun f cdv A outer s H vs Q E hr h => ?_)
  · obtain ⟨m, c, s, N, v, d, _, _, rfl, _⟩ := h
    rfl
  have nd := sc_law_mark_bad.nd
  refine ⟨_, PSs.nox (pss_cons (ps_asg (pe_slice sl_tupA (pv 1) (po_some pe_int) po_none) (pg_tup rfl (pgs_cons (pg_name (i := 2) nd rfl (by first | exact Or.inl rfl | exact Or.inr rfl)) (pgs_cons (pg_name (i := 3) nd rfl (by first | exact Or.inl rfl | exact Or.inr rfl)) (pgs_cons (pg_name (i := 4) nd rfl (by first | exact Or.inl rfl | exact Or.inr rfl)) (pgs_cons (pg_name (i := 5) nd rfl (by first | exact Or.inl rfl | exact Or.inr rfl)) pgs_nil)))))) (pss_cons (ps_if (pt_not (pt_chain op_le op_le pe_int (pv 2) pe_int)) (pss_one (ps_ret pe_str)) pss_nil) (pss_cons (ps_for PassesOwn.never rfl (pi_tup (pe_tup (pa_cons (pv 3) (pa_cons (pv 4) pa_nil)))) (pg_name (i := 6) nd rfl (by first | exact Or.inl rfl | exact Or.inr rfl)) (pss_one (ps_if (pt_cmp (pc_dnotin (hu_of hr) (pe_ix ix_tup (pv 6) pe_int (fun _ _ => rfl)) (pe_dget (hu_of hr) (pv 0) pe_str (fun _ _ => rfl)))) (pss_one (ps_ret (pe_op op_add_str pe_str (pe_callTy call_str_int (by rfl) (C.free 77) (by decide +kernel) (pa_cons (pe_ix ix_tup (pv 6) pe_int (fun _ _ => rfl)) pa_nil))))) pss_nil))) (pss_cons (ps_for PassesOwn.never rfl (pi_tup (pe_tup (pa_cons (pv 3) (pa_cons (pv 4) pa_nil)))) (pg_name (i := 6) nd rfl (by first | exact Or.inl rfl | exact Or.inr rfl)) (pss_one (ps_if (pt_not (pt_chain op_le op_lt pe_int (pe_ix ix_tup (pv 6) pe_int (fun _ _ => rfl)) (pe_callB call_len_seq (by rfl) (C.free 67) (by decide +kernel) (pa_cons (pe_dget (hu_of hr) (pe_dget (hu_of hr) (pv 0) pe_str (fun _ _ => rfl)) (pe_ix ix_tup (pv 6) pe_int (fun _ _ => rfl)) (fun _ _ => rfl)) pa_nil)))) (pss_one (ps_ret (pe_op op_add_str pe_str (pe_callTy call_str_int (by rfl) (C.free 77) (by decide +kernel) (pa_cons (pe_ix ix_tup (pv 6) pe_int (fun _ _ => rfl)) pa_nil))))) pss_nil))) (pss_cons (ps_if (pt_cmpR (op_ltT hr.units0) (pe_c (cal_spot C) hr (pa_cons (pv 0) (pa_cons (pv 4) pa_nil))) (pe_c (cal_spot C) hr (pa_cons (pv 0) (pa_cons (pv 3) pa_nil))) (nomark _)) (pss_one (ps_ret pe_str)) pss_nil) (pss_cons (ps_if (pt_not (pt_chain op_le op_le pe_int (pv 5) pe_int)) (pss_one (ps_ret pe_str)) pss_nil) (pss_one (ps_ret (pe_ifExp (pt_cmpR op_gt (pe_callB call_lenD (by rfl) (C.free 67) (by decide +kernel) (pa_cons (pe_dget (hu_of hr) (pv 0) pe_str (fun _ _ => rfl)) pa_nil)) pe_int (nomark _)) pe_str pe_str))))))))), ?_⟩
  obtain ⟨m, c, s, N, v, d, ⟨⟨on, b, e, th⟩, rfl⟩, pl, rfl, hs, hg, hN, dv, k⟩ := h
  have pl : Plain (.mark (on, b, e, th)) := pl
  obtain ⟨p, vs, ep, hp, da⟩ := dp_tup dv
  obtain ⟨v1, vs, rfl, d1, da⟩ := dpa_cons da
  obtain ⟨v2, vs, rfl, d2, da⟩ := dpa_cons da
  obtain ⟨v3, vs, rfl, d3, da⟩ := dpa_cons da
  obtain ⟨v4, vs, rfl, d4, da⟩ := dpa_cons da
  obtain ⟨v5, vs, rfl, d5, da⟩ := dpa_cons da
  cases dpa_nil da
  cases dp_int d2
  cases dp_int d5
  subst ep
  refine ⟨_, rfl, ?_⟩
  dsimp only [tNoPart]
  refine ⟨_, rfl, ?_⟩
  refine slA_end (lo := some 1) (hi := none) dv rfl fun v6 H0 b0 d6 => ?_
  rw [cutL_tail] at d6
  obtain ⟨p6, vs6, rfl, hp6, da6⟩ := dp_tup d6
  obtain ⟨w2, vs6, rfl, e2, da6⟩ := dpa_cons da6
  obtain ⟨w3, vs6, rfl, d3, da6⟩ := dpa_cons da6
  obtain ⟨w4, vs6, rfl, d4, da6⟩ := dpa_cons da6
  obtain ⟨w5, vs6, rfl, e5, da6⟩ := dpa_cons da6
  cases dpa_nil da6
  cases dp_int e2
  cases dp_int e5
  have hs0 := hs.new b0
  refine ⟨p6, _, rfl, hp6, rfl, _, _, rfl, _, _, rfl, _, _, rfl, _, _, rfl, rfl, ?_⟩
  have B := bad_mark s on b e th
  have done : ∀ {H' : Hp} {er : Er}, But [] H H' → bad s (.mark (on, b, e, th)) = some er → Q (.str er.text) H' := fun {H' er} bb hb => by
    have := k (.str er.text) H' bb
    refine this ?_
    dsimp only
    rw [bt_some hb]; exact .str _
  refine chainR rfl ⟨_, rfl, ite2 (fun z => ?_) (fun z => ?_)⟩
  · exact done b0 (by rw [B, if_pos (of_decide_eq_false (not_t z))])
  have f0 := of_decide_eq_true (not_f z)
  rw [if_neg (fun n => n f0)] at B
  refine ⟨_, rfl, _, rfl, by show 2 ≤ sizeLine; decide, fun q nq => ⟨q, rfl, ⟨_, SqT.of upd_same⟩, ?_⟩⟩
  have b1 : But [] H0 (upd H0 q (.tup [w3, w4])) := But.refl.new nq
  have hq : (upd H0 q (.tup [w3, w4])) q = some (.tup [w3, w4]) := upd_same
  generalize upd H0 q (.tup [w3, w4]) = H1 at b1 hq
  refine for_tup (K := K) (a := q) (xs := [w3, w4]) (D := { nx := _, rt := Q }) (fun i σ' H' => ∃ x6, σ' = [some (.ref m), some (.ref p), some (.int on), some w3, some w4, some (.int th), x6] ∧ But [] H1 H' ∧ ∀ t ∈ [b, e].take i, (getM s.music t.1).isSome = true) ⟨none, rfl, But.refl, by simp⟩ ?_ ?_ ?_
  · rintro i σ' H' _ ⟨x6, rfl, bb, _⟩
    exact bb.sqT (SqT.of hq)
  · rintro i x σ' H' hx ⟨x6, rfl, bb, hall⟩
    obtain ⟨t, dt, et, hc⟩ := two_get2 hx (dp_but (b1.trans bb) _ _ (tup_tip _) d3) (dp_but (b1.trans bb) _ _ (tup_tip _) d4)
    obtain ⟨r, rfl, hr'⟩ := dp_tip dt
    have hs' := hs0.new (b1.trans bb)
    obtain ⟨ws, wf, hm1, _, _⟩ := id hs'.at_
    obtain ⟨ks, hk1, hk2⟩ := id hs'.cont.mu
    have sm : Small t.1 := by
      rcases hc with ⟨_, rfl⟩ | ⟨_, rfl⟩
      · exact pl.1
      · exact pl.2.2.1
    refine ⟨_, rfl, r, _, _, _, rfl, rfl, hr', atI_nat (j := 0) rfl, _, rfl, m, _, rfl, dg_music hm1, c.mu, _, rfl, DGet.k (k := .inl t.1) hk1, _, rfl, ?_⟩
    rcases kv_get hk2 t.1 with ⟨e1, e2⟩ | ⟨mm, v, e1, e2, dm⟩
    · rw [e2]
      refine ⟨_, rfl, r, _, _, _, rfl, rfl, hr', atI_nat (j := 0) rfl, _, rfl, small_log2 sm, _, _, rfl, rfl, ?_, ?_⟩
      · have := small_len sm
        rw [show ("no bar " : Str).length = 7 by decide, sizeLine_eq]; omega
      have hb : bad s (.mark (on, b, e, th)) = some (eNoBar t.1) := by
        rcases hc with ⟨rfl, rfl⟩ | ⟨rfl, rfl⟩
        · rw [B, if_pos (isNone_t e1)]
        · rw [B, if_neg (isNone_f (hall b (by simp))), if_pos (isNone_t e1)]
      have := done (b0.trans (b1.trans bb)) hb
      rw [text_noBar] at this
      exact this
    · rw [e2]
      refine ⟨_, rfl, bb, fun t' ht' => ?_⟩
      rw [et] at ht'
      rcases List.mem_append.mp ht' with ht' | ht'
      · exact hall t' ht'
      · rw [List.mem_singleton.mp ht', e1]; rfl
  rintro σ' H' ⟨x6, rfl, bb, hall⟩
  have f1 := hall b (by simp)
  have f2 := hall e (by simp)
  rw [if_neg (isNone_f f1), if_neg (isNone_f f2)] at B
  have b2 := b0.trans (b1.trans bb)
  have b02 := b1.trans bb
  clear hq b1 bb
  refine ⟨_, rfl, _, rfl, by show 2 ≤ sizeLine; decide, fun q2 nq2 => ⟨q2, rfl, ⟨_, SqT.of upd_same⟩, ?_⟩⟩
  have b3 : But [] H0 (upd H' q2 (.tup [w3, w4])) := b02.new nq2
  have hq2 : (upd H' q2 (.tup [w3, w4])) q2 = some (.tup [w3, w4]) := upd_same
  generalize upd H' q2 (.tup [w3, w4]) = H2 at b3 hq2
  refine for_tup (K := K) (a := q2) (xs := [w3, w4]) (D := { nx := _, rt := Q }) (fun i σ' H' => ∃ x6, σ' = [some (.ref m), some (.ref p), some (.int on), some w3, some w4, some (.int th), x6] ∧ But [] H2 H' ∧ ∀ t ∈ [b, e].take i, tipIn s.music t = true) ⟨x6, rfl, But.refl, by simp⟩ ?_ ?_ ?_
  · rintro i σ' H' _ ⟨x6, rfl, bb, _⟩
    exact bb.sqT (SqT.of hq2)
  · rintro i x σ' H' hx ⟨x6, rfl, bb, hall2⟩
    obtain ⟨t, dt, et, hc⟩ := two_get2 hx (dp_but (b3.trans bb) _ _ (tup_tip _) d3) (dp_but (b3.trans bb) _ _ (tup_tip _) d4)
    obtain ⟨r, rfl, hr'⟩ := dp_tip dt
    have hs' := hs0.new (b3.trans bb)
    obtain ⟨ws, wf, hm1, _, _⟩ := id hs'.at_
    obtain ⟨ks, hk1, hk2⟩ := id hs'.cont.mu
    have hg' : DGet H' c.mu (.int t.1) (valV ks (.inl t.1)) := DGet.k (k := .inl t.1) hk1
    have sm : Small t.2 := by
      rcases hc with ⟨_, rfl⟩ | ⟨_, rfl⟩
      · exact pl.2.1
      · exact pl.2.2.2
    have hi : (getM s.music t.1).isSome = true := by
      rcases hc with ⟨_, rfl⟩ | ⟨_, rfl⟩
      · exact f1
      · exact f2
    have no : tipIn s.music t = false → bad s (.mark (on, b, e, th)) = some (eNoMoment t.2) := fun hz => by
      rcases hc with ⟨rfl, rfl⟩ | ⟨rfl, rfl⟩
      · rw [B, if_pos hz]
      · rw [B, if_neg (by rw [hall2 b (by simp)]; simp), if_pos hz]
    have say : tipIn s.music t = false → ∀ H3, H3 = H' → Q (.str (("no moment " : Str) ++ (toString t.2 : Str))) H3 := fun hz H3 e3 => by
      have := done (b0.trans (b3.trans bb)) (no hz)
      rw [text_noMoment, ← e3] at this
      exact this
    have len2 : (("no moment " : Str) : Str).length + (toString t.2 : Str).length ≤ sizeLine := by
      have := small_len sm
      rw [show ("no moment " : Str).length = 10 by decide, sizeLine_eq]; omega
    rcases kv_get hk2 t.1 with ⟨e1, e2⟩ | ⟨mm, v, e1, e2, dm⟩
    · rw [e1] at hi; cases hi
    rw [e2] at hg'
    obtain ⟨u, us, rfl, hu, du⟩ := dp_tup dm
    have lu := dpa_length du
    rw [List.length_map] at lu
    have tI : tipIn s.music t = decide (0 ≤ t.2 ∧ t.2 < (mm.length : Int)) := by unfold tipIn; rw [e1]
    refine ⟨_, rfl, r, _, _, _, rfl, rfl, hr', atI_nat (j := 1) rfl, _, _, rfl, rfl, _, rfl, ite2 (fun e3 => ⟨_, rfl, m, _, rfl, dg_music hm1, _, rfl, r, _, _, _, rfl, rfl, hr', atI_nat (j := 0) rfl, c.mu, _, rfl, hg', u, us, rfl, .inr hu, _, _, rfl, rfl, _, rfl, ite2 (fun e4 => ?_) (fun e4 => ?_)⟩) (fun e3 => ⟨_, rfl, ?_⟩)⟩
    · have := of_decide_eq_false (not_t e4)
      exact ⟨_, rfl, r, _, _, _, rfl, rfl, hr', atI_nat (j := 1) rfl, _, rfl, small_log2 sm, _, _, rfl, rfl, len2, say (by rw [tI]; exact decide_eq_false (by omega)) _ rfl⟩
    · refine ⟨_, rfl, bb, fun t' ht' => ?_⟩
      rw [et] at ht'
      rcases List.mem_append.mp ht' with ht' | ht'
      · exact hall2 t' ht'
      · rw [List.mem_singleton.mp ht', tI]
        have h1 := of_decide_eq_true (not_f e4)
        have h2 := of_decide_eq_true e3
        exact decide_eq_true (by omega)
    · have : ¬ 0 ≤ t.2 := fun z => e3 (decide_eq_true z)
      exact ⟨_, rfl, r, _, _, _, rfl, rfl, hr', atI_nat (j := 1) rfl, _, rfl, small_log2 sm, _, _, rfl, rfl, len2, say (by rw [tI]; exact decide_eq_false (by omega)) _ rfl⟩
  rintro σ' H3 ⟨x6', rfl, bb, hall2⟩
  have f3 := hall2 b (by simp)
  have f4 := hall2 e (by simp)
  rw [if_neg (by rw [f3]; simp), if_neg (by rw [f4]; simp)] at B
  have b4 := b3.trans bb
  clear hq2 b3 bb b2
  have hs3 := hs0.new b4
  have d33 := dp_but b4 _ _ (tup_tip _) d3
  have d43 := dp_but b4 _ _ (tup_tip _) d4
  refine ⟨_, rfl, _, rfl, m, c, s, w4, e, rfl, hs3, d43, (hg.keys _).mpr (getM_isSome.mp f2), fun p1 np1 => ?_⟩
  have b5 : But [] H3 (upd H3 p1 (.tup [.int (idx s.order e.1 : Nat), .int e.2])) := But.refl.new np1
  refine ⟨_, rfl, _, rfl, m, c, s, w3, b, rfl, hs3.new b5, dp_but b5 _ _ (tup_tip _) d33, (hg.keys _).mpr (getM_isSome.mp f1), fun p2 np2 => ?_⟩
  refine ⟨p1, p2, [(idx s.order e.1 : Nat), e.2], [(idx s.order b.1 : Nat), b.2], rfl, rfl, sqT_new (SqT.of upd_same) np2, SqT.of upd_same, ?_⟩
  rw [lexLt_spot]
  have b6 := (b0.trans (b4.trans b5)).new (o := .tup [.int (idx s.order b.1 : Nat), .int b.2]) np2
  generalize upd (upd H3 p1 (.tup [.int (idx s.order e.1 : Nat), .int e.2])) p2 (.tup [.int (idx s.order b.1 : Nat), .int b.2]) = H4 at b6
  refine ⟨_, rfl, ite2 (fun z => ?_) (fun z => ?_)⟩
  · exact done b6 (by rw [B, if_pos (not_t z)])
  have f5 := not_f z
  rw [if_neg (by rw [f5]; simp)] at B
  refine chainR rfl ⟨_, rfl, ite2 (fun z => ?_) (fun z => ?_)⟩
  · exact done b6 (by rw [B, if_pos (of_decide_eq_false (not_t z))])
  have f6 := of_decide_eq_true (not_f z)
  rw [if_neg (fun n => n f6)] at B
  have hs4 := hs.new b6
  obtain ⟨ws, wf, hm1, _, _⟩ := id hs4.at_
  obtain ⟨ks, hk1, hk2⟩ := id hs4.cont.sp
  have lk : ks.length = s.spans.length := kv_len hk2
  refine ⟨_, rfl, m, _, rfl, dg_spans hm1, c.sp, ks, rfl, hk1, _, _, rfl, rfl, _, rfl, ite2 (fun z => ?_) (fun z => ?_)⟩
  · have z := of_decide_eq_true z
    exact done b6 (by rw [B, if_pos (by omega)])
  · have z : ¬ (19 : Int) < ks.length := fun y => z (decide_eq_true y)
    rw [if_neg (by omega)] at B
    have := k (.str "") H4 b6 (by dsimp only; rw [bt_none B]; exact .str _)
    exact this
end Bu
set_option Elab.async false
set_option linter.all false
set_option maxRecDepth 100000
set_option maxHeartbeats 4000000
/-! The law's own look at a deed. -/
namespace Bu
open PySem PySem.Spec PyProof.Rows L2
theorem firstBad_at : ∀ {l : List Mo} {k j : Nat}, firstBad l k = some j → k ≤ j ∧ j < k + l.length
  | [], k, j, h => by cases h
  | m :: r, k, j, h => by
    rw [firstBad] at h
    split at h
    · have := firstBad_at h
      rw [List.length_cons]; omega
    · cases h
      rw [List.length_cons]; omega
theorem fault_at {b : Br} {i : Int} (h : fault b = some i) : ∃ n : Nat, i = n ∧ n ≤ 6 := by
  unfold fault at h
  split at h
  · cases h; exact ⟨0, rfl, by decide⟩
  · split at h
    · rename_i j hj
      cases h
      have := firstBad_at hj
      rw [List.length_take] at this
      exact ⟨j, rfl, by omega⟩
    · split at h
      · cases h; exact ⟨6, rfl, by decide⟩
      · cases h
theorem ft_none {b : Br} (h : fault b = none) : faultText b = "" := by unfold faultText; rw [h]
theorem ft_some {b : Br} {i : Int} (h : fault b = some i) : faultText b = (" " : Str) ++ (toString i : Str) := by unfold faultText; rw [h]
theorem ft_len (b : Br) : (faultText b).length ≤ 21 := by
  cases e : fault b with
  | none => rw [ft_none e]; decide
  | some i =>
    obtain ⟨n, rfl, hn⟩ := fault_at e
    have := txt_len n (by omega)
    rw [ft_some e, str_len, show (" " : Str).length = 1 by decide]; omega
theorem ft_ne {b : Br} {i : Int} (h : fault b = some i) : faultText b ≠ "" := fun z => by
  have := congrArg Str.length z
  rw [ft_some h, str_len, show (" " : Str).length = 1 by decide, show ("" : Str).length = 0 by decide] at this
  omega
theorem text_bar {b : Br} {i : Int} (h : fault b = some i) : (eBar i).text = ("bad bar" : Str) ++ faultText b := by
  rw [ft_some h, ← str_assoc]; rfl
def isBB : De → Prop
  | .bar _ _ | .change _ _ | .cut _ | .move _ _ | .fin _ _ => True
  | _ => False
abbrev n_law_bar_bad : List Str := ["_law_m", "_law_deed_here"]
theorem sc_law_bar_bad : FnScope n_law_bar_bad ["_law_m", "_law_deed_here"] d_law_bar_bad.scope := C8.fnScope_by (by decide +kernel)
theorem cal_bar_bad {P : Program} {w : World} {K : PySem.W.Frag} {mg : Str → Option Value} {base : Heap} (C : Cn w K mg)  : Cal P w K mg base CX0 2 "_law_bar_bad" (spLook K isBB fun s d => .str (badText s d)) := by
  refine C.cal 51 51 d_law_bar_bad sc_law_bar_bad (fun _ _ _ _ _ _ us hl => match us, hl with | [_, _], _ => rfl) (fun vs H Q E h => ?_) (fun f cdv A outer s H vs Q E hr h => ?_)
  · obtain ⟨m, c, s, N, v, d, _, _, rfl, _⟩ := h
    rfl
  have nd := sc_law_bar_bad.nd
  refine ⟨_, PSs.nox (pss_cons (ps_if (pt_cmpR op_eq (pe_ix ix_tup (pv 1) pe_int (fun _ _ => rfl)) pe_str (nomark _)) (pss_cons (ps_if (pt_not (pt_chain op_le op_le pe_int (pe_ix ix_tup (pv 1) pe_int (fun _ _ => rfl)) (pe_callB call_len_seq (by rfl) (C.free 67) (by decide +kernel) (pa_cons (pe_dget (hu_of hr) (pv 0) pe_str (fun _ _ => rfl)) pa_nil)))) (pss_one (ps_ret pe_str)) pss_nil) (pss_cons (ps_if (pt_cmpR op_ne (pe_c (cal_fault C) hr (pa_cons (pe_ix ix_tup (pv 1) pe_int (fun _ _ => rfl)) pa_nil)) pe_str (nomark _)) (pss_one (ps_ret (pe_op op_add_str pe_str (pe_c (cal_fault C) hr (pa_cons (pe_ix ix_tup (pv 1) pe_int (fun _ _ => rfl)) pa_nil))))) pss_nil) (pss_one (ps_ret (pe_ifExp (pt_cmpR op_gt (pe_callB call_len_seq (by rfl) (C.free 67) (by decide +kernel) (pa_cons (pe_dget (hu_of hr) (pv 0) pe_str (fun _ _ => rfl)) pa_nil)) pe_int (nomark _)) pe_str pe_str))))) pss_nil) (pss_cons (ps_if (pt_cmp (pc_dnotin (hu_of hr) (pe_ix ix_tup (pv 1) pe_int (fun _ _ => rfl)) (pe_dget (hu_of hr) (pv 0) pe_str (fun _ _ => rfl)))) (pss_one (ps_ret (pe_op op_add_str pe_str (pe_callTy call_str_int (by rfl) (C.free 77) (by decide +kernel) (pa_cons (pe_ix ix_tup (pv 1) pe_int (fun _ _ => rfl)) pa_nil))))) pss_nil) (pss_cons (ps_if (pt_cmpR op_eq (pe_ix ix_tup (pv 1) pe_int (fun _ _ => rfl)) pe_str (nomark _)) (pss_one (ps_ret (pe_ifExp (pt_cmpR op_ne (pe_c (cal_fault C) hr (pa_cons (pe_ix ix_tup (pv 1) pe_int (fun _ _ => rfl)) pa_nil)) pe_str (nomark _)) (pe_op op_add_str pe_str (pe_c (cal_fault C) hr (pa_cons (pe_ix ix_tup (pv 1) pe_int (fun _ _ => rfl)) pa_nil))) pe_str))) pss_nil) (pss_cons (ps_if (pt_cmpR op_eq (pe_ix ix_tup (pv 1) pe_int (fun _ _ => rfl)) pe_str (nomark _)) (pss_one (ps_ret (pe_ifExp (pt_chain op_le op_lt pe_int (pe_ix ix_tup (pv 1) pe_int (fun _ _ => rfl)) (pe_callB call_len_seq (by rfl) (C.free 67) (by decide +kernel) (pa_cons (pe_dget (hu_of hr) (pv 0) pe_str (fun _ _ => rfl)) pa_nil))) pe_str pe_str))) pss_nil) (pss_cons (ps_if (pt_cmpR op_eq (pe_ix ix_tup (pv 1) pe_int (fun _ _ => rfl)) pe_str (nomark _)) (pss_cons (ps_if (pt_cmpR op_notIn_seq (pe_ix ix_tup (pv 1) pe_int (fun _ _ => rfl)) (pe_lst (pa_cons pe_str (pa_cons pe_str (pa_cons pe_str pa_nil)))) rfl) (pss_one (ps_ret pe_str)) pss_nil) (pss_one (ps_ret (pe_ifExp (pt_cmpR op_eq (pe_dget2 (hu_of hr) (pe_dget (hu_of hr) (pv 0) pe_str (fun _ _ => rfl)) (pe_ix ix_tup (pv 1) pe_int (fun _ _ => rfl)) pe_str ⟨rfl, rfl, rfl, rfl⟩) (pe_ix ix_tup (pv 1) pe_int (fun _ _ => rfl)) (nomark _)) pe_str pe_str)))) pss_nil) (pss_one (ps_ret pe_str))))))), ?_⟩
  obtain ⟨m, c, s, N, v, d, his, hpl, rfl, hs, hg, hN, dv, k⟩ := h
  obtain ⟨ws, wf, hm1, _, _⟩ := id hs.at_
  have ho := hs.cont.o
  obtain ⟨ks, hk1, hk2⟩ := id hs.cont.mu
  have done : ∀ {H' : Hp} {er : Er}, But [] H H' → bad s d = some er → Q (.str er.text) H' := fun {H' er} bb hb => by
    have := k (.str er.text) H' bb
    refine this ?_
    dsimp only
    rw [bt_some hb]; exact .str _
  have fine : ∀ {H' : Hp}, But [] H H' → bad s d = none → Q (.str "") H' := fun {H'} bb hb => by
    have := k (.str "") H' bb
    refine this ?_
    dsimp only
    rw [bt_none hb]; exact .str _
  have noB : ∀ {n : Int} {H' : Hp}, Small n → But [] H H' → bad s d = some (eNoBar n) → (("no bar " : Str) : Str).length + (toString n : Str).length ≤ sizeLine ∧ Q (.str (("no bar " : Str) ++ (toString n : Str))) H' := fun {n H'} sm bb hb => by
    have l := small_len sm
    refine ⟨by rw [show ("no bar " : Str).length = 7 by decide, sizeLine_eq]; omega, ?_⟩
    have := done bb hb
    rw [text_noBar] at this
    exact this
  cases d with
  | bar i b =>
    have pl : Plain (.bar i b) := hpl
    obtain ⟨p, vs, rfl, hp, da⟩ := dp_tup dv
    obtain ⟨v1, vs, rfl, d1, da⟩ := dpa_cons da
    obtain ⟨v2, vs, rfl, d2, da⟩ := dpa_cons da
    obtain ⟨v3, vs, rfl, d3, da⟩ := dpa_cons da
    cases dpa_nil da
    cases dp_str d1
    cases dp_int d2
    have B := bad_bar s i b
    refine ⟨_, rfl, p, _, _, _, rfl, rfl, hp, atI_nat (j := 0) rfl, rfl, _, rfl, iteT ?_⟩
    refine ⟨_, rfl, p, _, _, _, rfl, rfl, hp, atI_nat (j := 1) rfl, _, _, rfl, rfl, _, rfl, ite2 (fun e1 => ⟨_, rfl, m, _, rfl, dg_order hm1, c.o, _, rfl, .inl (SqL.of ho), _, _, rfl, rfl, _, rfl, ite2 (fun e2 => ?_) (fun e2 => ?_)⟩) (fun e1 => ⟨_, rfl, ?_⟩)⟩
    · have e2 := of_decide_eq_false (not_t e2)
      rw [List.length_map] at e2
      exact done But.refl (by rw [B, if_pos (by omega)])
    · have e2 := of_decide_eq_true (not_f e2)
      have e1 := of_decide_eq_true e1
      rw [List.length_map] at e2
      rw [if_neg (by omega)] at B
      refine ⟨_, rfl, p, _, _, _, rfl, rfl, hp, atI_nat (j := 2) rfl, v3, b, rfl, d3, pl.1, fun H1 b1 => ⟨rfl, _, rfl, ite2 (fun e3 => ?_) (fun e3 => ?_)⟩⟩
      · have e3 : faultText b ≠ "" := fun z => by rw [z] at e3; simp at e3
        cases hf : fault b with
        | none => exact absurd (ft_none hf) e3
        | some j =>
          refine ⟨_, rfl, p, _, _, _, rfl, rfl, b1.sqT hp, atI_nat (j := 2) rfl, v3, b, rfl, dp_but b1 _ _ (tup_br b) d3, pl.1, fun H2 b2 => ⟨_, _, rfl, rfl, ?_, ?_⟩⟩
          · have := ft_len b
            rw [show ("bad bar" : Str).length = 7 by decide, sizeLine_eq]; omega
          have := done (b1.trans b2) (er := eBar j) (by rw [B]; unfold faultE; rw [hf]; rfl)
          rw [text_bar hf] at this
          exact this
      · have e3 : faultText b = "" := by
          have : decide (V.str (faultText b) = V.str "") = true := by simpa using e3
          exact V.str.inj (of_decide_eq_true this)
        have hf : fault b = none := by
          cases hf : fault b with
          | none => rfl
          | some j => exact absurd e3 (ft_ne hf)
        have B2 : bad s (.bar i b) = if 12 ≤ s.order.length then some eFull else none := by rw [B]; unfold faultE; rw [hf]; rfl
        refine ⟨_, rfl, m, _, rfl, dg_order (b1.keep _ _ hm1 (by simp)), c.o, _, rfl, .inl (SqL.of (b1.keep _ _ ho (by simp))), _, _, rfl, rfl, _, rfl, ite2 (fun e4 => ?_) (fun e4 => ?_)⟩
        · have e4 := of_decide_eq_true e4
          rw [List.length_map] at e4
          exact done b1 (by rw [B2, if_pos (by omega)])
        · have e4 : ¬ (11 : Int) < ((s.order.map V.int).length : Int) := fun z => e4 (decide_eq_true z)
          rw [List.length_map] at e4
          exact fine b1 (by rw [B2, if_neg (by omega)])
    · have e1 : ¬ 0 ≤ i := fun z => e1 (decide_eq_true z)
      exact done But.refl (by rw [B, if_pos (by omega)])
  | change n b =>
    have pl : Plain (.change n b) := hpl
    obtain ⟨p, vs, rfl, hp, da⟩ := dp_tup dv
    obtain ⟨v1, vs, rfl, d1, da⟩ := dpa_cons da
    obtain ⟨v2, vs, rfl, d2, da⟩ := dpa_cons da
    obtain ⟨v3, vs, rfl, d3, da⟩ := dpa_cons da
    cases dpa_nil da
    cases dp_str d1
    cases dp_int d2
    have B := bad_change s n b
    refine ⟨_, rfl, p, _, _, _, rfl, rfl, hp, atI_nat (j := 0) rfl, rfl, _, rfl, iteF ?_⟩
    refine ⟨_, rfl, p, _, _, _, rfl, rfl, hp, atI_nat (j := 1) rfl, _, rfl, m, _, rfl, dg_music hm1, c.mu, _, rfl, DGet.k (k := .inl n) hk1, _, rfl, ?_⟩
    rcases kv_get hk2 n with ⟨e1, e2⟩ | ⟨mm, v, e1, e2, dm⟩
    · rw [e2]
      obtain ⟨l1, q1⟩ := noB (n := n) pl.1 But.refl (by rw [B, if_pos (isNone_t e1)])
      exact ⟨_, rfl, p, _, _, _, rfl, rfl, hp, atI_nat (j := 1) rfl, _, rfl, small_log2 pl.1, _, _, rfl, rfl, l1, q1⟩
    rw [e2]
    rw [if_neg (isNone_f (by rw [e1]; rfl))] at B
    refine ⟨_, rfl, p, _, _, _, rfl, rfl, hp, atI_nat (j := 0) rfl, rfl, _, rfl, iteT ?_⟩
    refine ⟨_, rfl, p, _, _, _, rfl, rfl, hp, atI_nat (j := 2) rfl, v3, b, rfl, d3, pl.2.1, fun H1 b1 => ⟨rfl, _, rfl, ite2 (fun e3 => ?_) (fun e3 => ?_)⟩⟩
    · have e3 : faultText b ≠ "" := fun z => by rw [z] at e3; simp at e3
      cases hf : fault b with
      | none => exact absurd (ft_none hf) e3
      | some j =>
        refine ⟨_, rfl, p, _, _, _, rfl, rfl, b1.sqT hp, atI_nat (j := 2) rfl, v3, b, rfl, dp_but b1 _ _ (tup_br b) d3, pl.2.1, fun H2 b2 => ⟨_, _, rfl, rfl, ?_, ?_⟩⟩
        · have := ft_len b
          rw [show ("bad bar" : Str).length = 7 by decide, sizeLine_eq]; omega
        have := done (b1.trans b2) (er := eBar j) (by rw [B]; unfold faultE; rw [hf]; rfl)
        rw [text_bar hf] at this
        exact this
    · have e3 : faultText b = "" := by
        have : decide (V.str (faultText b) = V.str "") = true := by simpa using e3
        exact V.str.inj (of_decide_eq_true this)
      have hf : fault b = none := by
        cases hf : fault b with
        | none => rfl
        | some j => exact absurd e3 (ft_ne hf)
      exact fine b1 (by rw [B]; unfold faultE; rw [hf]; rfl)
  | cut n =>
    have pl : Small n := hpl
    obtain ⟨p, vs, rfl, hp, da⟩ := dp_tup dv
    obtain ⟨v1, vs, rfl, d1, da⟩ := dpa_cons da
    obtain ⟨v2, vs, rfl, d2, da⟩ := dpa_cons da
    cases dpa_nil da
    cases dp_str d1
    cases dp_int d2
    have B := bad_cut s n
    refine ⟨_, rfl, p, _, _, _, rfl, rfl, hp, atI_nat (j := 0) rfl, rfl, _, rfl, iteF ?_⟩
    refine ⟨_, rfl, p, _, _, _, rfl, rfl, hp, atI_nat (j := 1) rfl, _, rfl, m, _, rfl, dg_music hm1, c.mu, _, rfl, DGet.k (k := .inl n) hk1, _, rfl, ?_⟩
    rcases kv_get hk2 n with ⟨e1, e2⟩ | ⟨mm, v, e1, e2, dm⟩
    · rw [e2]
      obtain ⟨l1, q1⟩ := noB (n := n) pl But.refl (by rw [B, if_pos (isNone_t e1)])
      exact ⟨_, rfl, p, _, _, _, rfl, rfl, hp, atI_nat (j := 1) rfl, _, rfl, small_log2 pl, _, _, rfl, rfl, l1, q1⟩
    rw [e2]
    rw [if_neg (isNone_f (by rw [e1]; rfl))] at B
    refine ⟨_, rfl, p, _, _, _, rfl, rfl, hp, atI_nat (j := 0) rfl, rfl, _, rfl, iteF ?_⟩
    refine ⟨_, rfl, p, _, _, _, rfl, rfl, hp, atI_nat (j := 0) rfl, rfl, _, rfl, iteF ?_⟩
    refine ⟨_, rfl, p, _, _, _, rfl, rfl, hp, atI_nat (j := 0) rfl, rfl, _, rfl, iteF ?_⟩
    exact fine But.refl B
  | move n i =>
    have pl : Small n := hpl
    obtain ⟨p, vs, rfl, hp, da⟩ := dp_tup dv
    obtain ⟨v1, vs, rfl, d1, da⟩ := dpa_cons da
    obtain ⟨v2, vs, rfl, d2, da⟩ := dpa_cons da
    obtain ⟨v3, vs, rfl, d3, da⟩ := dpa_cons da
    cases dpa_nil da
    cases dp_str d1
    cases dp_int d2
    cases dp_int d3
    have B := bad_move s n i
    refine ⟨_, rfl, p, _, _, _, rfl, rfl, hp, atI_nat (j := 0) rfl, rfl, _, rfl, iteF ?_⟩
    refine ⟨_, rfl, p, _, _, _, rfl, rfl, hp, atI_nat (j := 1) rfl, _, rfl, m, _, rfl, dg_music hm1, c.mu, _, rfl, DGet.k (k := .inl n) hk1, _, rfl, ?_⟩
    rcases kv_get hk2 n with ⟨e1, e2⟩ | ⟨mm, v, e1, e2, dm⟩
    · rw [e2]
      obtain ⟨l1, q1⟩ := noB (n := n) pl But.refl (by rw [B, if_pos (isNone_t e1)])
      exact ⟨_, rfl, p, _, _, _, rfl, rfl, hp, atI_nat (j := 1) rfl, _, rfl, small_log2 pl, _, _, rfl, rfl, l1, q1⟩
    rw [e2]
    rw [if_neg (isNone_f (by rw [e1]; rfl))] at B
    refine ⟨_, rfl, p, _, _, _, rfl, rfl, hp, atI_nat (j := 0) rfl, rfl, _, rfl, iteF ?_⟩
    refine ⟨_, rfl, p, _, _, _, rfl, rfl, hp, atI_nat (j := 0) rfl, rfl, _, rfl, iteT ?_⟩
    refine ⟨_, rfl, p, _, _, _, rfl, rfl, hp, atI_nat (j := 2) rfl, _, _, rfl, rfl, _, rfl, ite2 (fun e3 => ⟨_, rfl, m, _, rfl, dg_order hm1, c.o, _, rfl, .inl (SqL.of ho), _, _, rfl, rfl, _, rfl, ite2 (fun e4 => ?_) (fun e4 => ?_)⟩) (fun e3 => ⟨_, rfl, ?_⟩)⟩
    · have e3 := of_decide_eq_true e3
      have e4 := of_decide_eq_true e4
      rw [List.length_map] at e4
      exact fine But.refl (by rw [B, if_neg (by omega)])
    · have e4 : ¬ i < ((s.order.map V.int).length : Int) := fun z => e4 (decide_eq_true z)
      rw [List.length_map] at e4
      exact done But.refl (by rw [B, if_pos (by omega)])
    · have e3 : ¬ 0 ≤ i := fun z => e3 (decide_eq_true z)
      exact done But.refl (by rw [B, if_pos (by omega)])
  | fin n x =>
    have pl : Plain (.fin n x) := hpl
    obtain ⟨p, vs, rfl, hp, da⟩ := dp_tup dv
    obtain ⟨v1, vs, rfl, d1, da⟩ := dpa_cons da
    obtain ⟨v2, vs, rfl, d2, da⟩ := dpa_cons da
    obtain ⟨v3, vs, rfl, d3, da⟩ := dpa_cons da
    cases dpa_nil da
    cases dp_str d1
    cases dp_int d2
    cases dp_str d3
    have B := bad_fin s n x
    refine ⟨_, rfl, p, _, _, _, rfl, rfl, hp, atI_nat (j := 0) rfl, rfl, _, rfl, iteF ?_⟩
    refine ⟨_, rfl, p, _, _, _, rfl, rfl, hp, atI_nat (j := 1) rfl, _, rfl, m, _, rfl, dg_music hm1, c.mu, _, rfl, DGet.k (k := .inl n) hk1, _, rfl, ?_⟩
    rcases kv_get hk2 n with ⟨e1, e2⟩ | ⟨mm, v, e1, e2, dm⟩
    · rw [e2]
      obtain ⟨l1, q1⟩ := noB (n := n) pl.1 But.refl (by rw [B, if_pos (isNone_t e1)])
      exact ⟨_, rfl, p, _, _, _, rfl, rfl, hp, atI_nat (j := 1) rfl, _, rfl, small_log2 pl.1, _, _, rfl, rfl, l1, q1⟩
    rw [e2]
    rw [if_neg (isNone_f (by rw [e1]; rfl))] at B
    refine ⟨_, rfl, p, _, _, _, rfl, rfl, hp, atI_nat (j := 0) rfl, rfl, _, rfl, iteF ?_⟩
    refine ⟨_, rfl, p, _, _, _, rfl, rfl, hp, atI_nat (j := 0) rfl, rfl, _, rfl, iteF ?_⟩
    refine ⟨_, rfl, p, _, _, _, rfl, rfl, hp, atI_nat (j := 0) rfl, rfl, _, rfl, iteT ?_⟩
    refine ⟨_, rfl, p, _, _, _, rfl, rfl, hp, atI_nat (j := 2) rfl, by decide, fun q nq => ?_⟩
    have bq : But [] H (upd H q (.lst [.str "must", .str "never", .str "free"])) := But.refl.new nq
    have hq : (upd H q (.lst [.str "must", .str "never", .str "free"])) q = some (.lst [.str "must", .str "never", .str "free"]) := upd_same
    generalize upd H q (.lst [.str "must", .str "never", .str "free"]) = H1 at bq hq
    have hin : inV (.str x) [.str "must", .str "never", .str "free"] = decide (x ∈ (["must", "never", "free"] : List Str)) := by
      have hx := pl.2
      simp only [List.mem_cons, List.not_mem_nil, or_false] at hx
      rcases hx with rfl | rfl | rfl | rfl | rfl <;> decide
    refine ⟨q, _, rfl, .inl (SqL.of hq), rfl, rfl, _, rfl, ?_⟩
    have hin2 : (inV (.str x) [.str "must", .str "never", .str "free"] != true) = !decide (x ∈ (["must", "never", "free"] : List Str)) := by rw [hin]; simp
    refine ite2 (fun e3 => ?_) (fun e3 => ?_)
    · have hx : x ∉ (["must", "never", "free"] : List Str) := fun z => by
        rw [hin, decide_eq_true z] at e3; simp at e3
      exact done bq (by rw [B, if_pos hx])
    · have hx : x ∈ (["must", "never", "free"] : List Str) := Classical.byContradiction fun z => e3 (by rw [hin, decide_eq_false z]; rfl)
      rw [if_neg (fun z => z hx)] at B
      have hs1 := hs.new bq
      obtain ⟨ws1, wf1, hm11, _, _⟩ := id hs1.at_
      obtain ⟨kb, hb1, hb2⟩ := id hs1.cont.bo
      have hval : (valV kb (.inl n)).getD (.str "free") = .str (boundOf s n) := by
        unfold boundOf
        rcases kv_get hb2 n with ⟨e1, e2⟩ | ⟨w', v', e1, e2, dm⟩
        · rw [e1, e2]; rfl
        · rw [e1, e2]
          show v' = _
          rw [dp_str dm]; rfl
      refine ⟨_, rfl, m, _, rfl, dg_bound hm11, c.bo, rfl, .inl ⟨kb, .inl hb1⟩, _, rfl, p, _, _, _, rfl, rfl, bq.sqT hp, atI_nat (j := 1) rfl, _, DGet.k (k := .inl n) hb1, ?_⟩
      rw [hval]
      refine ⟨_, rfl, p, _, _, _, rfl, rfl, bq.sqT hp, atI_nat (j := 2) rfl, rfl, _, rfl, ite2 (fun e4 => ?_) (fun e4 => ?_)⟩
      · have e4 := V.str.inj (of_decide_eq_true e4)
        exact done bq (by rw [B, if_pos e4])
      · have e4 : boundOf s n ≠ x := fun z => e4 (decide_eq_true (by rw [z]))
        exact fine bq (by rw [B, if_neg e4])
  | _ => exact his.elim
end Bu
set_option Elab.async false
set_option linter.all false
set_option maxRecDepth 100000
set_option maxHeartbeats 4000000
/-! The law's own look at any deed. -/
namespace Bu
open PySem PySem.Spec PyProof.Rows L2
/-- what the law's model says of any deed -/
def badA (s : Sta) (d : De) : Str := if badForm d = true then "bad deed" else badText s d
theorem badA_bad {s : Sta} {d : De} (h : badForm d = true) : badA s d = "bad deed" := by unfold badA; rw [if_pos h]
theorem badA_ok {s : Sta} {d : De} (h : badForm d = false) : badA s d = badText s d := by unfold badA; rw [h]; rfl
def isDe : De → Prop := fun _ => True
theorem tup_parts {l : List De} (h : ∀ d ∈ l, Deed d) : tupDs (l.map De.toD) = true := tup_of fun x hx => by
  obtain ⟨d, hd, rfl⟩ := List.mem_map.mp hx
  exact tup_de (h d hd)
abbrev n_law_bad : List Str := ["_law_m", "_law_deed_here", "_law_good", "_law_k", "_law_odd", "_law_part_of"]
theorem sc_law_bad : FnScope n_law_bad ["_law_m", "_law_deed_here"] d_law_bad.scope := C8.fnScope_by (by decide +kernel)
theorem cal_bad {P : Program} {w : World} {K : PySem.W.Frag} {mg : Str → Option Value} {base : Heap} (C : Cn w K mg)  : Cal P w K mg base CX0 3 "_law_bad" (spLook K isDe fun s d => .str (badA s d)) := by
  refine C.cal 52 52 d_law_bad sc_law_bad (fun _ _ _ _ _ _ us hl => match us, hl with | [_, _], _ => rfl) (fun vs H Q E h => ?_) (fun f cdv A outer s H vs Q E hr h => ?_)
  · obtain ⟨m, c, s, N, v, d, _, _, rfl, _⟩ := h
    rfl
  have nd := sc_law_bad.nd
  refine ⟨_, PSs.nox (pss_cons (ps_if (pt_val (pe_c (cal_formless C) hr (pa_cons (pv 1) pa_nil))) (pss_one (ps_ret pe_str)) pss_nil) (pss_cons (ps_if (pt_cmpR op_eq (pe_ix ix_tup (pv 1) pe_int (fun _ _ => rfl)) pe_str (nomark _)) (pss_one (ps_ret (pe_c (cal_mark_bad C) hr (pa_cons (pv 0) (pa_cons (pv 1) pa_nil))))) pss_nil) (pss_cons (ps_if (pt_cmpR op_eq (pe_ix ix_tup (pv 1) pe_int (fun _ _ => rfl)) pe_str (nomark _)) (pss_one (ps_ret (pe_ifExp (pt_cmp (pc_din (hu_of hr) (pe_ix ix_tup (pv 1) pe_int (fun _ _ => rfl)) (pe_dget (hu_of hr) (pv 0) pe_str (fun _ _ => rfl)))) pe_str (pe_op op_add_str pe_str (pe_callTy call_str_int (by rfl) (C.free 77) (by decide +kernel) (pa_cons (pe_ix ix_tup (pv 1) pe_int (fun _ _ => rfl)) pa_nil)))))) pss_nil) (pss_cons (ps_if (pt_cmpR op_eq (pe_ix ix_tup (pv 1) pe_int (fun _ _ => rfl)) pe_str (nomark _)) (pss_cons (ps_set (i := 2) nd rfl (by first | exact Or.inl rfl | exact Or.inr rfl) (pe_and (pe_chain op_le op_le pe_int (pe_ix ix_tup (pv 1) pe_int (fun _ _ => rfl)) pe_int) (pe_and (pe_chain op_le op_le pe_int (pe_ix ix_tup (pv 1) pe_int (fun _ _ => rfl)) pe_int) (pe_one (pe_callB (cr_all rfl) (by rfl) (C.free 75) (by decide +kernel) (pa_cons (pe_lc (own := [("_law_k", 3)]) (tt := tYes) rfl nd (pi_tup (pe_slice sl_tupA (pv 1) (po_some pe_int) po_none)) (blkOk_by (own := [("_law_k", 3)]) (N := n_law_bad) (sc := d_law_bad.scope) (by decide +kernel)) (fun _ _ _ _ _ => (pg_name (i := 3) nd rfl (by first | exact Or.inl rfl | exact Or.inr rfl))) (fun _ _ _ _ _ => pts_nil) (fun _ _ _ _ _ => (pe_chain op_le op_le pe_int (pv 3) pe_int))) pa_nil)))))) (pss_one (ps_ret (pe_ifExp (pt_val (pv 2)) pe_str pe_str)))) pss_nil) (pss_cons (ps_if (pt_cmpR op_eq (pe_ix ix_tup (pv 1) pe_int (fun _ _ => rfl)) pe_str (nomark _)) (pss_cons (ps_setLc (i := 4) (own := [("_law_part_of", 5)]) rfl nd rfl rfl (sw_true rfl rfl rfl (by decide +kernel)) (pi_tup (pe_ix ix_tup (pv 1) pe_int (fun _ _ => rfl))) (blkOk_by (own := [("_law_part_of", 5)]) (N := n_law_bad) (sc := d_law_bad.scope) (by decide +kernel)) (fun _ _ _ _ _ => (pg_name (i := 5) nd rfl (by first | exact Or.inl rfl | exact Or.inr rfl))) (fun _ _ _ _ _ => (pts_one (PW.pt (pw_or (pt_val (pe_c (cal_formless C) hr (pa_cons (pv 5) pa_nil))) (pw_or1 (pt_cmpR op_eq (pe_ix (v_ix_tup (K := K)) (pv 5) pe_int (fun _ _ => rfl)) pe_str (nomark _))))))) (fun _ _ _ _ _ => (pv 5))) (pss_one (ps_ret (pe_ifExp (PW.pt (pw_or (pt_cmpR (op_eqD hr.units) (pe_ix ix_tup (pv 1) pe_int (fun _ _ => rfl)) (pe_tup pa_nil) (nomark _)) (pw_or1 (pt_cmpR (op_neD hr.units) (pv 4) (pe_lst pa_nil) (nomark _))))) pe_str pe_str)))) pss_nil) (pss_one (ps_ret (pe_c (cal_bar_bad C) hr (pa_cons (pv 0) (pa_cons (pv 1) pa_nil)))))))))), ?_⟩
  obtain ⟨m, c, s, N, v, d, _, hpl, rfl, hs, hg, hN, dv, k⟩ := h
  refine ⟨_, rfl, v, d, rfl, hpl, dv, fun H1 b1 => ⟨_, rfl, ite2 (fun hf => ?_) (fun hf => ?_)⟩⟩
  · have hb : badForm d = true := by cases d <;> first | rfl | cases hf
    exact k _ _ b1 (by dsimp only; rw [badA_bad hb]; exact .str _)
  have hf : formless d = false := by cases z : formless d with
    | false => rfl
    | true => exact absurd z hf
  have hs1 := hs.new b1
  have dv1 := dp_but b1 _ _ (tup_de hpl) dv
  obtain ⟨ws, wf, hm1, _, _⟩ := id hs1.at_
  have done : ∀ {H' : Hp} {x : Str}, But [] H1 H' → badA s d = x → Q (.str x) H' := fun {H' x} bb hb => by
    refine k (.str x) H' (b1.trans bb) ?_
    dsimp only
    rw [hb]; exact .str _
  have five : isBB d → (∃ (x : Str) (rest : List PyData), d.toD = .tuple (.str x :: rest) ∧ x ≠ "mark" ∧ x ≠ "wipe" ∧ x ≠ "paper" ∧ x ≠ "many") := fun h => by
    cases d <;> first | exact h.elim | exact ⟨_, _, rfl, by decide, by decide, by decide, by decide⟩
  by_cases hbb : isBB d
  · obtain ⟨x, rest, eds, n1, n2, n3, n4⟩ := five hbb
    have dv2 := dv1
    rw [eds] at dv2
    obtain ⟨p, vs, rfl, hp, da⟩ := dp_tup dv2
    obtain ⟨v1, vs, rfl, d1, da⟩ := dpa_cons da
    cases dp_str d1
    have ne : ∀ {y : Str}, x ≠ y → ¬ decide (V.str x = V.str y) = true := fun h z => h (V.str.inj (of_decide_eq_true z))
    refine ⟨_, rfl, p, _, _, _, rfl, rfl, hp, atI_nat (j := 0) rfl, rfl, _, rfl, ite2 (fun z => absurd z (ne n1)) fun _ => ?_⟩
    refine ⟨_, rfl, p, _, _, _, rfl, rfl, hp, atI_nat (j := 0) rfl, rfl, _, rfl, ite2 (fun z => absurd z (ne n2)) fun _ => ?_⟩
    refine ⟨_, rfl, p, _, _, _, rfl, rfl, hp, atI_nat (j := 0) rfl, rfl, _, rfl, ite2 (fun z => absurd z (ne n3)) fun _ => ?_⟩
    refine ⟨_, rfl, p, _, _, _, rfl, rfl, hp, atI_nat (j := 0) rfl, rfl, _, rfl, ite2 (fun z => absurd z (ne n4)) fun _ => ?_⟩
    refine ⟨_, rfl, _, rfl, m, c, s, N, .ref p, d, hbb, hpl, rfl, hs1, hg, hN, dv1, fun u H2 b2 du => ?_⟩
    cases dp_str du
    have hbf : badForm d = false := by cases d <;> first | rfl | exact hbb.elim
    exact done b2 (badA_ok hbf)
  cases d with
  | mark sp =>
    have dv2 := dv1
    obtain ⟨p, vs, rfl, hp, da⟩ := dp_tup dv2
    obtain ⟨v1, vs, rfl, d1, da⟩ := dpa_cons da
    cases dp_str d1
    refine ⟨_, rfl, p, _, _, _, rfl, rfl, hp, atI_nat (j := 0) rfl, rfl, _, rfl, iteT ?_⟩
    refine ⟨_, rfl, _, rfl, m, c, s, N, .ref p, .mark sp, ⟨_, rfl⟩, hpl, rfl, hs1, hg, hN, dv1, fun u H2 b2 du => ?_⟩
    cases dp_str du
    exact done b2 (badA_ok rfl)
  | wipe n =>
    have pl : Small n := hpl
    obtain ⟨p, vs, rfl, hp, da⟩ := dp_tup dv1
    obtain ⟨v1, vs, rfl, d1, da⟩ := dpa_cons da
    obtain ⟨v2, vs, rfl, d2, da⟩ := dpa_cons da
    cases dpa_nil da
    cases dp_str d1
    cases dp_int d2
    have B := bad_wipe s n
    obtain ⟨ks, hk1, hk2⟩ := id hs1.cont.sp
    refine ⟨_, rfl, p, _, _, _, rfl, rfl, hp, atI_nat (j := 0) rfl, rfl, _, rfl, iteF ?_⟩
    refine ⟨_, rfl, p, _, _, _, rfl, rfl, hp, atI_nat (j := 0) rfl, rfl, _, rfl, iteT ?_⟩
    refine ⟨_, rfl, p, _, _, _, rfl, rfl, hp, atI_nat (j := 1) rfl, _, rfl, m, _, rfl, dg_spans hm1, c.sp, _, rfl, DGet.k (k := .inl n) hk1, _, rfl, ?_⟩
    rcases kv_get hk2 n with ⟨e1, e2⟩ | ⟨mm, v, e1, e2, dm⟩
    · rw [e2]
      refine ⟨_, rfl, p, _, _, _, rfl, rfl, hp, atI_nat (j := 1) rfl, _, rfl, small_log2 pl, _, _, rfl, rfl, ?_, ?_⟩
      · have := small_len pl
        rw [show ("no mark " : Str).length = 8 by decide, sizeLine_eq]; omega
      · refine done But.refl ?_
        rw [badA_ok rfl, bt_some (by rw [B, if_pos (isNone_t e1)] : bad s (.wipe n) = some (eNoMark n)), text_noMark]
    · rw [e2]
      refine done But.refl ?_
      rw [badA_ok rfl, bt_none (by rw [B, if_neg (isNone_f (by rw [e1]; rfl))] : bad s (.wipe n) = none)]
  | paper sh =>
    obtain ⟨x1, x2, x3, x4, x5, rfl⟩ : ∃ x1 x2 x3 x4 x5, sh = [x1, x2, x3, x4, x5] := by
      match sh, (hpl : sh.length = 5) with
      | [x1, x2, x3, x4, x5], _ => exact ⟨_, _, _, _, _, rfl⟩
    obtain ⟨p, vs, ep, hp, da⟩ := dp_tup dv1
    obtain ⟨v1, vs, rfl, d1, da⟩ := dpa_cons da
    obtain ⟨v2, vs, rfl, d2, da⟩ := dpa_cons da
    obtain ⟨v3, vs, rfl, d3, da⟩ := dpa_cons da
    obtain ⟨v4, vs, rfl, d4, da⟩ := dpa_cons da
    obtain ⟨v5, vs, rfl, d5, da⟩ := dpa_cons da
    obtain ⟨v6, vs, rfl, d6, da⟩ := dpa_cons da
    cases dpa_nil da
    cases dp_str d1
    cases dp_int d2
    cases dp_int d3
    cases dp_int d4
    cases dp_int d5
    cases dp_int d6
    subst ep
    have B := bad_paper s [x1, x2, x3, x4, x5]
    have say : ∀ {H' : Hp} (g : Bool), But [] H1 H' → g = paperOk [x1, x2, x3, x4, x5] → (g = true → Q (.str "") H') ∧ (¬ g = true → Q (.str "bad paper") H') := fun {H'} g bb hgd => by
      subst hgd
      refine ⟨fun z => done bb ?_, fun z => done bb ?_⟩
      · rw [badA_ok rfl, bt_none (by rw [B, z]; rfl)]
      · rw [badA_ok rfl, bt_some (by rw [B]; rw [if_neg z] : bad s (.paper [x1, x2, x3, x4, x5]) = some ePaper)]
        rfl
    refine ⟨_, rfl, p, _, _, _, rfl, rfl, hp, atI_nat (j := 0) rfl, rfl, _, rfl, iteF ?_⟩
    refine ⟨_, rfl, p, _, _, _, rfl, rfl, hp, atI_nat (j := 0) rfl, rfl, _, rfl, iteF ?_⟩
    refine ⟨_, rfl, p, _, _, _, rfl, rfl, hp, atI_nat (j := 0) rfl, rfl, _, rfl, iteT ?_⟩
    have after : ∀ (g : Bool) (H' : Hp), But [] H1 H' → g = paperOk [x1, x2, x3, x4, x5] → (if g = true then Q (.str "") H' else Q (.str "bad paper") H') := fun g H' bb hgd => ite2 (say g bb hgd).1 (say g bb hgd).2
    refine ⟨_, rfl, p, _, _, _, rfl, rfl, hp, atI_nat (j := 1) rfl, _, _, rfl, rfl, _, rfl, ?_⟩
    have pk := paperOk_eq x1 x2 x3 x4 x5
    have bad1 : ¬ (20 ≤ x1 ∧ x1 ≤ 400) → false = paperOk [x1, x2, x3, x4, x5] := fun z => by rw [pk, decide_eq_false z]; rfl
    have bad2 : ¬ (1 ≤ x2 ∧ x2 ≤ 6) → false = paperOk [x1, x2, x3, x4, x5] := fun z => by rw [pk, decide_eq_false z]; simp
    refine ite2 (fun e1 => ⟨_, _, rfl, rfl, _, rfl, ite2 (fun e2 => ?_) (fun e2 => ?_)⟩) (fun e1 => ⟨_, rfl, iteF ⟨_, rfl, _, rfl, after false H1 But.refl (bad1 (by have e1 : ¬ 20 ≤ x1 := fun z => e1 (decide_eq_true z); omega))⟩⟩)
    rotate_left
    · exact ⟨_, rfl, _, rfl, after false H1 But.refl (bad1 (by have e2 : ¬ x1 ≤ 400 := fun z => e2 (decide_eq_true z); omega))⟩
    have e1 := of_decide_eq_true e1
    have e2 := of_decide_eq_true e2
    refine ⟨_, rfl, p, _, _, _, rfl, rfl, hp, atI_nat (j := 2) rfl, _, _, rfl, rfl, _, rfl, ?_⟩
    refine ite2 (fun e3 => ⟨_, _, rfl, rfl, _, rfl, ite2 (fun e4 => ?_) (fun e4 => ?_)⟩) (fun e3 => ⟨_, rfl, iteF ⟨_, rfl, _, rfl, after false H1 But.refl (bad2 (by have e3 : ¬ 1 ≤ x2 := fun z => e3 (decide_eq_true z); omega))⟩⟩)
    rotate_left
    · exact ⟨_, rfl, _, rfl, after false H1 But.refl (bad2 (by have e4 : ¬ x2 ≤ 6 := fun z => e4 (decide_eq_true z); omega))⟩
    have e3 := of_decide_eq_true e3
    have e4 := of_decide_eq_true e4
    have ep : paperOk [x1, x2, x3, x4, x5] = ([x3, x4, x5].map fun n => decide (0 ≤ n ∧ n ≤ 999)).all id := by
      rw [pk, decide_eq_true (show 20 ≤ x1 ∧ x1 ≤ 400 from ⟨e1, e2⟩), decide_eq_true (show 1 ≤ x2 ∧ x2 ≤ 6 from ⟨e3, e4⟩)]; simp
    refine ⟨_, rfl, ?_⟩
    dsimp only [tNoPart]
    refine ⟨_, rfl, ?_⟩
    refine slA_end (lo := some 3) (hi := none) dv1 (tup_ints [x1, x2, x3, x4, x5]) fun vq H2 b2 d2 => ?_
    have ec : cutL (PyData.str "paper" :: [x1, x2, x3, x4, x5].map PyData.int) (some 3) none = [x3, x4, x5].map PyData.int := by
      unfold cutL
      rw [HT.sIx_none, show (some (3 : Int)) = some ((3 : Nat) : Int) from rfl, HT.sIx_nat]; rfl
    rw [ec] at d2
    obtain ⟨q, us, rfl, hq, du⟩ := dp_tup d2
    have eus : us = [x3, x4, x5].map V.int := by
      obtain ⟨w1, us, rfl, f1, du⟩ := dpa_cons du
      obtain ⟨w2, us, rfl, f2, du⟩ := dpa_cons du
      obtain ⟨w3, us, rfl, f3, du⟩ := dpa_cons du
      cases dpa_nil du
      cases dp_int f1
      cases dp_int f2
      cases dp_int f3
      rfl
    subst eus
    refine ⟨q, rfl, ⟨_, hq⟩, fun D nD => ?_⟩
    refine lc_tup (K := K) (a := q) (xs := [x3, x4, x5].map V.int) (fun i H' => Bools H2 D (([x3, x4, x5].take i).map fun n => decide (0 ≤ n ∧ n ≤ 999)) H') (Bools.start nD) (fun i H' _ b => b.but.sqT hq) ?_ ?_
    · intro i x H' hx b
      rw [List.getElem?_map] at hx
      obtain ⟨n, hn, rfl⟩ := Option.map_eq_some_iff.mp hx
      refine ⟨rfl, chainR rfl ?_⟩
      obtain ⟨hD, b'⟩ := b.push (c := decide (0 ≤ n ∧ n ≤ 999)) nD But.refl
      exact ⟨_, hD, by rw [List.length_map, List.length_map, List.length_take, sizeLine_eq]; show min i 3 < 16777216; omega, by rw [take_push _ hn]; exact b'⟩
    · intro H3 b3
      refine ⟨D, _, rfl, SqL.of b3.at_, ?_⟩
      exact ⟨_, rfl, _, rfl, after _ H3 (b2.trans b3.but) (by rw [ep]; rfl)⟩
  | many l =>
    obtain ⟨p, vs, rfl, hp, da⟩ := dp_tup dv1
    obtain ⟨v1, vs, rfl, d1, da⟩ := dpa_cons da
    obtain ⟨v2, vs, rfl, d2, da⟩ := dpa_cons da
    cases dpa_nil da
    cases dp_str d1
    have hparts : ∀ d ∈ l, Deed d := fun d hd => part_deed (hpl.2 d hd)
    obtain ⟨q, us, rfl, hq, du⟩ := dp_tup d2
    have lu := dpa_length du
    rw [toDs_eq, List.length_map] at lu
    rw [toDs_eq] at du
    refine ⟨_, rfl, p, _, _, _, rfl, rfl, hp, atI_nat (j := 0) rfl, rfl, _, rfl, iteF ?_⟩
    refine ⟨_, rfl, p, _, _, _, rfl, rfl, hp, atI_nat (j := 0) rfl, rfl, _, rfl, iteF ?_⟩
    refine ⟨_, rfl, p, _, _, _, rfl, rfl, hp, atI_nat (j := 0) rfl, rfl, _, rfl, iteF ?_⟩
    refine ⟨_, rfl, p, _, _, _, rfl, rfl, hp, atI_nat (j := 0) rfl, rfl, _, rfl, iteT ?_⟩
    refine ⟨_, rfl, p, _, _, _, rfl, rfl, hp, atI_nat (j := 1) rfl, q, rfl, ⟨us, hq⟩, fun D nD => ?_⟩
    have tupF : ∀ i, tupDs ((((l.take i).filter fun d => formless d || isMany d)).map De.toD) = true := fun i => tup_parts fun d hd => hparts d (List.mem_of_mem_take (List.mem_filter.mp hd).1)
    refine lc_tup (K := K) (a := q) (xs := us) (fun i H' => ∃ ys, Acc K [] (upd H1 D (.lst [])) D (((l.take i).filter fun d => formless d || isMany d).map De.toD) H' ys) ⟨_, Acc.start upd_same (by simp)⟩ (fun j H2 _ ⟨_, ac⟩ => (((But.refl.new nD).thn ac.but fun x hx => .inr (by rw [show x = D by simpa using hx]; exact nD)) : But [] H1 H2).sqT hq) ?_ ?_
    · rintro i y H2 hy ⟨ys, ac⟩
      have b2 : But [] H1 H2 := (But.refl.new nD).thn ac.but fun x hx => .inr (by rw [show x = D by simpa using hx]; exact nD)
      obtain ⟨dd, hdd, dy⟩ := dpa_get du hy
      rw [List.getElem?_map] at hdd
      obtain ⟨d, hd', rfl⟩ := Option.map_eq_some_iff.mp hdd
      have hdd' := hparts d (List.mem_of_getElem? hd')
      have dy2 := dp_but b2 _ _ (tup_de hdd') dy
      have et : l.take (i + 1) = l.take i ++ [d] := by rw [List.take_add_one, hd']; rfl
      have few : ys.length < sizeLine := by
        have h1 := dpa_length ac.da
        rw [List.length_map] at h1
        have h2 := List.length_filter_le (fun d => formless d || isMany d) (l.take i)
        rw [List.length_take] at h2
        have h3 : l.length ≤ 100 := hpl.1
        rw [sizeLine_eq]; omega
      have yes : ∀ {H3}, But [] H2 H3 → (formless d || isMany d) = true → ∃ acc, H3 D = some (.lst acc) ∧ acc.length < sizeLine ∧ ∃ ys, Acc K [] (upd H1 D (.lst [])) D (((l.take (i + 1)).filter fun d => formless d || isMany d).map De.toD) (upd H3 D (.lst (acc ++ [y]))) ys := fun {H3} b3 hc => by
        obtain ⟨hD, ac'⟩ := ac.push (y := y) (d := d.toD) b3 (by simp) (dp_but b3 _ _ (tup_de hdd') dy2) (tupF i) (tup_de hdd')
        refine ⟨_, hD, few, ys ++ [y], ?_⟩
        rw [et, List.filter_append, List.map_append, show [d].filter (fun d => formless d || isMany d) = [d] by simp [hc]]
        exact ac'
      have noo : ∀ {H3}, But [] H2 H3 → (formless d || isMany d) = false → ∃ ys, Acc K [] (upd H1 D (.lst [])) D (((l.take (i + 1)).filter fun d => formless d || isMany d).map De.toD) H3 ys := fun {H3} b3 hc => by
        refine ⟨ys, b3.keep _ _ ac.at_ (by simp), ac.but.step b3, ?_⟩
        rw [et, List.filter_append, show [d].filter (fun d => formless d || isMany d) = [] by simp [hc], List.append_nil]
        exact dps_but b3 _ _ (tupF i) ac.da
      refine ⟨rfl, _, rfl, y, d, rfl, hdd', dy2, fun H3 b3 => ⟨_, rfl, ite2 (fun hc => ?_) (fun hc => ?_)⟩⟩
      · refine iteT ⟨_, rfl, ?_⟩
        exact yes b3 (by rw [show formless d = true from hc]; rfl)
      · have hc : formless d = false := by cases z : formless d with
          | false => rfl
          | true => exact absurd z hc
        obtain ⟨x, rest, eds, hx⟩ := de_word hc
        have dy3 := dp_but b3 _ _ (tup_de hdd') dy2
        rw [eds] at dy3
        obtain ⟨r, zs, rfl, hr', dz⟩ := dp_tup dy3
        obtain ⟨z1, zs, rfl, f1, _⟩ := dpa_cons dz
        cases dp_str f1
        refine ⟨_, rfl, r, _, _, _, rfl, rfl, hr', atI_nat (j := 0) rfl, rfl, _, rfl, ite2 (fun e => ⟨_, rfl, ?_⟩) (fun e => ?_)⟩
        · exact yes b3 (by rw [hx.mp (V.str.inj (of_decide_eq_true e)), Bool.or_true])
        · refine noo b3 ?_
          rw [hc, Bool.false_or]
          cases z : isMany d with
          | false => rfl
          | true => exact absurd (decide_eq_true (by rw [hx.mpr z])) e
    · rintro H2 ⟨ys, ac⟩
      rw [lu, List.take_length] at ac
      have b2 : But [] H1 H2 := (But.refl.new nD).thn ac.but fun x hx => .inr (by rw [show x = D by simpa using hx]; exact nD)
      have yes : ∀ {H'}, But [] H2 H' → (l = [] ∨ (l.filter fun d => formless d || isMany d) ≠ []) → Q (.str "bad deed") H' := fun {H'} bb hc => done (b2.trans bb) (badA_bad (by
        show (l.isEmpty || l.any fun d => formless d || isMany d) = true
        rcases hc with rfl | hc
        · rfl
        · rw [Bool.or_eq_true]
          right
          cases e : l.filter fun d => formless d || isMany d with
          | nil => exact absurd e hc
          | cons d r =>
            have : d ∈ l.filter fun d => formless d || isMany d := by rw [e]; simp
            obtain ⟨h1, h2⟩ := List.mem_filter.mp this
            exact List.any_eq_true.mpr ⟨d, h1, h2⟩))
      have noo : ∀ {H'}, But [] H2 H' → l ≠ [] → (l.filter fun d => formless d || isMany d) = [] → Q (.str "") H' := fun {H'} bb h1 h2 => done (b2.trans bb) (by
        rw [badA_ok, bt_none rfl]
        show (l.isEmpty || l.any fun d => formless d || isMany d) = false
        rw [show l.isEmpty = false by cases l <;> first | rfl | exact absurd rfl h1, Bool.false_or]
        refine List.any_eq_false.mpr fun d hd hc => ?_
        have : d ∈ l.filter fun d => formless d || isMany d := List.mem_filter.mpr ⟨hd, hc⟩
        rw [h2] at this; cases this)
      have dl : Dp K H2 (.ref q) (.tuple (l.map De.toD)) := .tup (b2.sqT hq) (dps_but b2 _ _ (tup_parts hparts) du)
      have shl : Sh (.tuple (l.map De.toD)) 9 := (Sh.tup (n := 7) fun x hx => by
        obtain ⟨d, hd, rfl⟩ := List.mem_map.mp hx
        exact sh_de (hparts d hd)).mono (by decide)
      have shf : Sh (.list ((l.filter fun d => formless d || isMany d).map De.toD)) 9 := (Sh.lst (n := 7) fun x hx => by
        obtain ⟨d, hd, rfl⟩ := List.mem_map.mp hx
        exact sh_de (hparts d (List.mem_filter.mp hd).1)).mono (by decide)
      refine ⟨_, rfl, p, _, _, _, rfl, rfl, b2.sqT hp, atI_nat (j := 1) rfl, by decide, fun t nt => ⟨_, .tuple [], dp_but (d := .tuple (l.map De.toD)) (But.refl.new nt) _ (tup_parts hparts) dl, .tup (SqT.of upd_same) .nil, shl.shaped, rfl, _, rfl, ?_⟩⟩
      have bt : But [] H2 (upd H2 t (.tup [])) := But.refl.new nt
      have ee : PyData.eqv (.tuple (l.map De.toD)) (.tuple []) = l.isEmpty := by
        rw [eqv_nilT]
        cases l <;> rfl
      rw [ee]
      refine ite2 (fun e => yes bt (.inl (List.isEmpty_iff.mp e))) (fun e => ?_)
      have hl : l ≠ [] := fun z => e (by rw [z]; rfl)
      have df : Dp K (upd H2 t (.tup [])) (.ref D) (.list ((l.filter fun d => formless d || isMany d).map De.toD)) := .lst (SqL.of (bt.keep _ _ ac.at_ (by simp))) (dps_but bt _ _ (tup_parts fun d hd => hparts d (List.mem_filter.mp hd).1) ac.da)
      refine ⟨_, rfl, by decide, fun u nu => ⟨_, .list [], dp_new (But.refl.new nu) _ _ df, .lst (SqL.of upd_same) .nil, shf.shaped, rfl, _, rfl, ?_⟩⟩
      have bu : But [] H2 (upd (upd H2 t (.tup [])) u (.lst [])) := bt.new nu
      rw [eqv_nilL]
      refine ite2 (fun e2 => ?_) (fun e2 => ?_)
      · refine yes bu (.inr fun z => ?_)
        rw [z] at e2; simp at e2
      · refine noo bu hl ?_
        have e2 : ((l.filter fun d => formless d || isMany d).map De.toD).isEmpty = true := by simpa using e2
        exact List.map_eq_nil_iff.mp (List.isEmpty_iff.mp e2)
  | odd l => cases hf
  | _ => exact absurd trivial hbb
end Bu
set_option Elab.async false
set_option linter.all false
set_option maxRecDepth 100000
set_option maxHeartbeats 4000000
/-! The law's own model swept. -/
namespace Bu
open PySem PySem.Spec PyProof.Rows L2
def mineM (m : Addr) (c : Cnt) : List Addr := [m, c.o, c.mu, c.sp, c.bo]
theorem ModAt.live {K : PySem.W.Frag} {H : Hp} {m : Addr} {c : Cnt} {s : Sta} (h : ModAt K H m c s) : ∀ x ∈ mineM m c, H x ≠ none ∧ ∀ ys, ¬ Rd H x (.tup ys) := by
  obtain ⟨ws, wf, h1, _, _⟩ := h.at_
  obtain ⟨_, h2, _⟩ := h.cont.mu
  obtain ⟨_, h3, _⟩ := h.cont.sp
  obtain ⟨_, h4, _⟩ := h.cont.bo
  intro x hx
  simp only [mineM, List.mem_cons, List.not_mem_nil, or_false] at hx
  rcases hx with rfl | rfl | rfl | rfl | rfl
  · exact ⟨by rw [h1]; simp, nt_dk h1⟩
  · exact ⟨by rw [h.cont.o]; simp, nt_lst h.cont.o⟩
  · exact ⟨by rw [h2]; simp, nt_dk h2⟩
  · exact ⟨by rw [h3]; simp, nt_dk h3⟩
  · exact ⟨by rw [h4]; simp, nt_dk h4⟩
theorem mo_nil {K : PySem.W.Frag} {H : Hp} {m : Addr} {c : Cnt} {s : Sta} (h : ModAt K H m c s) : But (mineM m c) H H := But.nil _ fun x hx => (h.live x hx).2
section
variable {K : PySem.W.Frag} {H : Hp} {m : Addr} {c : Cnt} {s : Sta}
theorem ModAt.nes (h : ModAt K H m c s) : m ≠ c.o ∧ m ≠ c.mu ∧ m ≠ c.sp ∧ m ≠ c.bo ∧ c.o ≠ c.mu ∧ c.o ≠ c.sp ∧ c.o ≠ c.bo := by
  obtain ⟨ws, wf, h1, _, _⟩ := h.at_
  obtain ⟨_, h2, _⟩ := h.cont.mu
  obtain ⟨_, h3, _⟩ := h.cont.sp
  obtain ⟨_, h4, _⟩ := h.cont.bo
  have h5 := h.cont.o
  refine ⟨?_, h.ne.1, h.ne.2.1, h.ne.2.2, ?_, ?_, ?_⟩ <;> intro z
  · rw [z, h5] at h1; cases h1
  · rw [z, h2] at h5; cases h5
  · rw [z, h3] at h5; cases h5
  · rw [z, h4] at h5; cases h5
theorem mo_order (h : ModAt K H m c s) (l : List Int) : ModAt K (upd H c.o (.lst (l.map .int))) m c { s with order := l } := by
  have b : But [c.o] H (upd H c.o (.lst (l.map .int))) := But.one (nt_lst h.cont.o)
  obtain ⟨ws, wf, h1, h2, h3⟩ := h.at_
  obtain ⟨n1, n2, n3, n4, n5, n6, n7⟩ := h.nes
  exact ⟨⟨ws, wf, b.keep _ _ h1 (by simpa using n1), dp_but b _ _ (tup_sheet _) h2, dp_but b _ _ (tup_tip _) h3⟩, ⟨upd_same, h.cont.mu.but b tup_br (by simpa using Ne.symm n5), h.cont.sp.but b tup_span (by simpa using Ne.symm n6), h.cont.bo.but b tup_str (by simpa using Ne.symm n7), h.cont.nd⟩, h.ne⟩
theorem mo_music (h : ModAt K H m c s) {ks : List (Key × V)} {l : List (Int × Br)} (kv : KvD K H brD ks l) : ModAt K (upd H c.mu (.dK ks)) m c { s with music := l } := by
  obtain ⟨_, q, _⟩ := h.cont.mu
  have b : But [c.mu] H (upd H c.mu (.dK ks)) := But.one (nt_dk q)
  obtain ⟨ws, wf, h1, h2, h3⟩ := h.at_
  obtain ⟨n1, n2, n3, n4, n5, n6, n7⟩ := h.nes
  exact ⟨⟨ws, wf, b.keep _ _ h1 (by simpa using n2), dp_but b _ _ (tup_sheet _) h2, dp_but b _ _ (tup_tip _) h3⟩, ⟨b.keep _ _ h.cont.o (by simpa using n5), ⟨ks, upd_same, kv_but b tup_br kv⟩, h.cont.sp.but b tup_span (by simpa using Ne.symm h.cont.nd.1), h.cont.bo.but b tup_str (by simpa using Ne.symm h.cont.nd.2.1), h.cont.nd⟩, h.ne⟩
theorem mo_spans (h : ModAt K H m c s) {ks : List (Key × V)} {l : List (Int × Span)} (kv : KvD K H spanD ks l) : ModAt K (upd H c.sp (.dK ks)) m c { s with spans := l } := by
  obtain ⟨_, q, _⟩ := h.cont.sp
  have b : But [c.sp] H (upd H c.sp (.dK ks)) := But.one (nt_dk q)
  obtain ⟨ws, wf, h1, h2, h3⟩ := h.at_
  obtain ⟨n1, n2, n3, n4, n5, n6, n7⟩ := h.nes
  exact ⟨⟨ws, wf, b.keep _ _ h1 (by simpa using n3), dp_but b _ _ (tup_sheet _) h2, dp_but b _ _ (tup_tip _) h3⟩, ⟨b.keep _ _ h.cont.o (by simpa using n6), h.cont.mu.but b tup_br (by simpa using h.cont.nd.1), ⟨ks, upd_same, kv_but b tup_span kv⟩, h.cont.bo.but b tup_str (by simpa using Ne.symm h.cont.nd.2.2), h.cont.nd⟩, h.ne⟩
theorem mo_bound (h : ModAt K H m c s) {ks : List (Key × V)} {l : List (Int × Str)} (kv : KvD K H PyData.str ks l) : ModAt K (upd H c.bo (.dK ks)) m c { s with bound := l } := by
  obtain ⟨_, q, _⟩ := h.cont.bo
  have b : But [c.bo] H (upd H c.bo (.dK ks)) := But.one (nt_dk q)
  obtain ⟨ws, wf, h1, h2, h3⟩ := h.at_
  obtain ⟨n1, n2, n3, n4, n5, n6, n7⟩ := h.nes
  exact ⟨⟨ws, wf, b.keep _ _ h1 (by simpa using n4), dp_but b _ _ (tup_sheet _) h2, dp_but b _ _ (tup_tip _) h3⟩, ⟨b.keep _ _ h.cont.o (by simpa using n7), h.cont.mu.but b tup_br (by simpa using h.cont.nd.2.1), h.cont.sp.but b tup_span (by simpa using h.cont.nd.2.2), ⟨ks, upd_same, kv_but b tup_str kv⟩, h.cont.nd⟩, h.ne⟩
theorem mo_rec (h : ModAt K H m c s) {vs vf : V} {sh : Sheet} {fr : Tip} (h2 : Dp K H vs (sheetD sh)) (h3 : Dp K H vf (tipD fr)) : ModAt K (upd H m (.dK (mkv (.ref c.o) (.ref c.mu) (.ref c.sp) (.ref c.bo) vs vf))) m c { s with sheet := sh, fresh := fr } := by
  obtain ⟨_, _, q, _, _⟩ := h.at_
  have b : But [m] H (upd H m (.dK (mkv (.ref c.o) (.ref c.mu) (.ref c.sp) (.ref c.bo) vs vf))) := But.one (nt_dk q)
  obtain ⟨n1, n2, n3, n4, n5, n6, n7⟩ := h.nes
  have q2 := h.cont.but b (by simp [Ne.symm n1, Ne.symm n2, Ne.symm n3, Ne.symm n4])
  exact ⟨⟨vs, vf, upd_same, dp_but b _ _ (tup_sheet _) h2, dp_but b _ _ (tup_tip _) h3⟩, ⟨q2.o, q2.mu, q2.sp, q2.bo, q2.nd⟩, h.ne⟩
end
/-- a mark's tip lies in its bar, as the law's own model looks -/
def tipOk (music : List (Int × Br)) (t : Tip) : Bool := match getM music t.1 with
  | none => false
  | some b => decide (t.2 < (b.length : Int))
theorem tipOk_in {music : List (Int × Br)} {t : Tip} (h : 0 ≤ t.2) : tipOk music t = tipIn music t := by
  unfold tipOk tipIn
  cases getM music t.1 with
  | none => rfl
  | some b => exact decide_eq_decide.mpr (by omega)
def spLSweep (K : PySem.W.Frag) : Sp := fun vs H Q _ => ∃ (m : Addr) (c : Cnt) (s : Sta), vs = [.ref m] ∧ ModAt K H m c s ∧ (∀ n, n ∈ s.order ↔ n ∈ s.music.map (·.1)) ∧ (s.spans.map (·.1)).Nodup ∧ s.spans.length ≤ 20 ∧ (∀ p ∈ s.spans, 0 ≤ p.2.2.1.2 ∧ 0 ≤ p.2.2.2.1.2) ∧
  ∀ H', But [c.sp] H H' → ModAt K H' m c (sweep s) → Q .non H'
abbrev n_law_sweep : List Str := ["_law_m", "_law_number_here", "_law_on", "_law_begin", "_law_last", "_law_thick", "_law_there", "_law_tip_here"]
theorem sc_law_sweep : FnScope n_law_sweep ["_law_m"] d_law_sweep.scope := C8.fnScope_by (by decide +kernel)
theorem cal_sweep {P : Program} {w : World} {K : PySem.W.Frag} {mg : Str → Option Value} {base : Heap} (C : Cn w K mg)  : Cal P w K mg base CX0 2 "_law_sweep" (spLSweep K) := by
  refine C.cal 53 53 d_law_sweep sc_law_sweep (fun _ _ _ _ _ _ us hl => match us, hl with | [_], _ => rfl) (fun vs H Q E h => ?_) (fun f cdv A outer s H vs Q E hr h => ?_)
  · obtain ⟨m, c, s, rfl, _⟩ := h
    rfl
  have nd := sc_law_sweep.nd
  refine ⟨_, PSs.nox (pss_one (ps_for PassesOwn.never rfl (pi_list (pe_callTy (call_list_dK rfl) (by rfl) (C.free 69) (by decide +kernel) (pa_cons (pe_dget (hu_of hr) (pv 0) pe_str (fun _ _ => rfl)) pa_nil))) (pg_name (i := 1) nd rfl (by first | exact Or.inl rfl | exact Or.inr rfl)) (pss_cons (ps_asg (pe_dget (hu_of hr) (pe_dget (hu_of hr) (pv 0) pe_str (fun _ _ => rfl)) (pv 1) (fun _ _ => rfl)) (pg_tup rfl (pgs_cons (pg_name (i := 2) nd rfl (by first | exact Or.inl rfl | exact Or.inr rfl)) (pgs_cons (pg_name (i := 3) nd rfl (by first | exact Or.inl rfl | exact Or.inr rfl)) (pgs_cons (pg_name (i := 4) nd rfl (by first | exact Or.inl rfl | exact Or.inr rfl)) (pgs_cons (pg_name (i := 5) nd rfl (by first | exact Or.inl rfl | exact Or.inr rfl)) pgs_nil)))))) (pss_cons (ps_setLc (i := 6) (own := [("_law_tip_here", 7)]) rfl nd rfl rfl (sw_true rfl rfl rfl (by decide +kernel)) (pi_tup (pe_tup (pa_cons (pv 3) (pa_cons (pv 4) pa_nil)))) (blkOk_by (own := [("_law_tip_here", 7)]) (N := n_law_sweep) (sc := d_law_sweep.scope) (by decide +kernel)) (fun _ _ _ _ _ => (pg_name (i := 7) nd rfl (by first | exact Or.inl rfl | exact Or.inr rfl))) (fun _ _ _ _ _ => (pts_one (PW.pt (pw_and (pt_cmp (pc_din (hu_of hr) (pe_ix (v_ix_tup (K := K)) (pv 7) pe_int (fun _ _ => rfl)) (pe_dget (hu_of hr) (pv 0) pe_str (fun _ _ => rfl)))) (pw_and1 (pt_cmpR op_lt (pe_ix (v_ix_tup (K := K)) (pv 7) pe_int (fun _ _ => rfl)) (pe_callB (v_call_len_seq (K := K)) (by rfl) (C.free 67) (by decide +kernel) (pa_cons (pe_dget (hu_of hr) (pe_dget (hu_of hr) (pv 0) pe_str (fun _ _ => rfl)) (pe_ix (v_ix_tup (K := K)) (pv 7) pe_int (fun _ _ => rfl)) (fun _ _ => rfl)) pa_nil)) (nomark _))))))) (fun _ _ _ _ _ => (pv 7))) (pss_one (ps_if (PW.pt (pw_or (pt_cmpR op_lt (pe_callB call_len_seq (by rfl) (C.free 67) (by decide +kernel) (pa_cons (pv 6) pa_nil)) pe_int (nomark _)) (pw_or1 (pt_cmpR (op_ltT hr.units0) (pe_c (cal_spot C) hr (pa_cons (pv 0) (pa_cons (pv 4) pa_nil))) (pe_c (cal_spot C) hr (pa_cons (pv 0) (pa_cons (pv 3) pa_nil))) (nomark _))))) (pss_one (ps_expr (pe_dpop1 (pe_dget (hu_of hr) (pv 0) pe_str (fun _ _ => rfl)) (pv 1) ⟨rfl, rfl, rfl, rfl⟩))) pss_nil)))))), ?_⟩
  obtain ⟨m, c, s, rfl, hs, hk, nds, few, nn, k⟩ := h
  obtain ⟨ws, wf, hm1, _, _⟩ := id hs.at_
  obtain ⟨kp, hp1, hp2⟩ := id hs.cont.sp
  refine ⟨_, rfl, m, _, rfl, dg_spans hm1, c.sp, kp, rfl, hp1, fun q nq => ⟨q, rfl, ⟨_, SqL.of upd_same⟩, ?_⟩⟩
  have ek : kp.map (fun kv => kV kv.1) = (s.spans.map (·.1)).map V.int := by
    have := kv_keys hp2
    have h2 : kp.map (fun kv => kV kv.1) = (kp.map (·.1)).map kV := by rw [List.map_map]; rfl
    rw [h2, this, List.map_map]; rfl
  rw [ek]
  have bq : But [] H (upd H q (.lst ((s.spans.map (·.1)).map V.int))) := But.refl.new nq
  have hq : (upd H q (.lst ((s.spans.map (·.1)).map V.int))) q = some (.lst ((s.spans.map (·.1)).map V.int)) := upd_same
  have hs0 := hs.new bq
  generalize upd H q (.lst ((s.spans.map (·.1)).map V.int)) = H0 at bq hq hs0
  have nqsp : q ≠ c.sp := fun z => by rw [z, hp1] at nq; cases nq
  have nn0 := (hs0.live c.sp (by simp [mineM])).2
  refine for_list (K := K) (a := q) (xs := (s.spans.map (·.1)).map V.int) (D := { nx := _, rt := Q }) (fun i σ' H' => ∃ x1 x2 x3 x4 x5 x6, σ' = [some (.ref m), x1, x2, x3, x4, x5, x6, none] ∧ But [c.sp] H0 H' ∧ ModAt K H' m c { s with spans := (s.spans.take i).filter (fun p => lies s.order s.music p.2) ++ s.spans.drop i }) ⟨none, none, none, none, none, none, rfl, But.nil _ (fun x hx => by rw [show x = c.sp by simpa using hx]; exact nn0), hs0⟩ ?_ ?_ ?_
  · rintro i σ' H' _ ⟨x1, x2, x3, x4, x5, x6, rfl, bb, _⟩
    exact SqL.of (bb.keep _ _ hq (by simpa using nqsp))
  · rintro i x σ' H' hx ⟨x1, x2, x3, x4, x5, x6, rfl, bb, hs'⟩
    rw [List.getElem?_map, List.getElem?_map] at hx
    obtain ⟨n, hn, rfl⟩ := Option.map_eq_some_iff.mp hx
    obtain ⟨⟨n', on, b, e, th⟩, hsp, rfl⟩ := Option.map_eq_some_iff.mp hn
    dsimp only at hn hx
    obtain ⟨hlt, egt⟩ := List.getElem?_eq_some_iff.mp hsp
    have hdr : s.spans.drop i = (n', on, b, e, th) :: s.spans.drop (i + 1) := by rw [List.drop_eq_getElem_cons hlt, egt]
    have mem : (n', on, b, e, th) ∈ s.spans := List.mem_of_getElem? hsp
    obtain ⟨nb, ne⟩ := nn _ mem
    have nb : 0 ≤ b.2 := nb
    have ne : 0 ≤ e.2 := ne
    have hpre : ∀ y ∈ (s.spans.take i).filter (fun p => lies s.order s.music p.2), y.1 ≠ n' := fun y hy => take_fresh nds hsp y (List.mem_filter.mp hy).1
    have hpost : ∀ y ∈ s.spans.drop (i + 1), y.1 ≠ n' := fun y hy z => by
      have nd2 := nds
      rw [← List.take_append_drop i s.spans, List.map_append, hdr, List.map_cons] at nd2
      have nd3 := (List.nodup_append.mp nd2).2.1
      rw [List.nodup_cons] at nd3
      exact nd3.1 (List.mem_map.mpr ⟨y, hy, z⟩)
    have hget : getM ((s.spans.take i).filter (fun p => lies s.order s.music p.2) ++ s.spans.drop i) n' = some (on, b, e, th) := by
      unfold getM
      rw [List.find?_append, List.find?_eq_none.mpr (fun y hy => by simpa using hpre y hy), hdr]
      simp
    have hs'' := hs'
    obtain ⟨ws', wf', hm1', _, _⟩ := id hs'.at_
    obtain ⟨kp', hp1', hp2'⟩ := id hs'.cont.sp
    have hlk : ∃ v, valV kp' (.inl n') = some v ∧ Dp K H' v (spanD (on, b, e, th)) := by
      rcases kv_get hp2' n' with ⟨e1, _⟩ | ⟨y, v, e1, e2, d⟩
      · rw [show getM _ n' = some _ from hget] at e1; cases e1
      · rw [show getM _ n' = some _ from hget] at e1
        cases e1
        exact ⟨v, e2, d⟩
    obtain ⟨v, hv, dv⟩ := hlk
    have hgv : DGet H' c.sp (.int n') (some v) := by
      have := DGet.k (k := .inl n') hp1'
      rw [hv] at this; exact this
    obtain ⟨t, us, rfl, ht, da⟩ := dp_tup dv
    obtain ⟨v1, us, rfl, d1, da⟩ := dpa_cons da
    obtain ⟨v2, us, rfl, d2, da⟩ := dpa_cons da
    obtain ⟨v3, us, rfl, d3, da⟩ := dpa_cons da
    obtain ⟨v4, us, rfl, d4, da⟩ := dpa_cons da
    cases dpa_nil da
    refine ⟨_, rfl, m, _, rfl, dg_spans hm1', _, rfl, c.sp, _, rfl, hgv, t, _, rfl, ht, rfl, _, _, rfl, _, _, rfl, _, _, rfl, _, _, rfl, rfl, ?_⟩
    refine ⟨_, rfl, _, rfl, by show 2 ≤ sizeLine; decide, fun u nu => ⟨u, rfl, ⟨_, SqT.of upd_same⟩, fun D nD => ?_⟩⟩
    have b1 : But [] H' (upd H' u (.tup [v2, v3])) := But.refl.new nu
    have hu : (upd H' u (.tup [v2, v3])) u = some (.tup [v2, v3]) := upd_same
    generalize upd H' u (.tup [v2, v3]) = H1 at b1 hu nD
    have b2 : But [] H1 (upd H1 D (.lst [])) := But.refl.new nD
    refine lc_tup (K := K) (a := u) (xs := [v2, v3]) (fun j H2 => ∃ ys, H2 D = some (.lst ys) ∧ But [] H1 H2 ∧ ys.length = (([b, e].take j).filter (tipOk s.music)).length) ⟨[], upd_same, b2, rfl⟩ (fun j H2 _ ⟨_, _, bj, _⟩ => bj.sqT (SqT.of hu)) ?_ ?_
    · rintro j y H2 hy ⟨ys, hD, bj, hl⟩
      obtain ⟨tp, dt, et, hc⟩ := two_get2 hy (dp_but (b1.trans bj) _ _ (tup_tip _) d2) (dp_but (b1.trans bj) _ _ (tup_tip _) d3)
      obtain ⟨r, rfl, hr'⟩ := dp_tip dt
      have hs2 := hs'.new (b1.trans bj)
      obtain ⟨ws2, wf2, hm2, _, _⟩ := id hs2.at_
      obtain ⟨km, hk1, hk2⟩ := id hs2.cont.mu
      have hk2 : KvD K H2 brD km s.music := hk2
      have hg' : DGet H2 c.mu (.int tp.1) (valV km (.inl tp.1)) := DGet.k (k := .inl tp.1) hk1
      have le2 : (([b, e].take j).filter (tipOk s.music)).length ≤ 2 := Nat.le_trans (List.length_filter_le _ _) (by rw [List.length_take]; exact Nat.min_le_right _ _)
      have yes : tipOk s.music tp = true → ∀ H3, But [] H2 H3 → ∃ acc, H3 D = some (.lst acc) ∧ acc.length < sizeLine ∧ ∃ ys, (upd H3 D (.lst (acc ++ [V.ref r]))) D = some (.lst ys) ∧ But [] H1 (upd H3 D (.lst (acc ++ [V.ref r]))) ∧ ys.length = (([b, e].take (j + 1)).filter (tipOk s.music)).length := fun hok H3 b3 => by
        refine ⟨ys, b3.keep _ _ hD (by simp), by rw [hl, sizeLine_eq]; omega, ys ++ [.ref r], upd_same, (bj.trans b3).young nD, ?_⟩
        rw [List.length_append, hl, et, List.filter_append, List.length_append]
        simp [hok]
      have noo : tipOk s.music tp = false → ∃ ys, H2 D = some (.lst ys) ∧ But [] H1 H2 ∧ ys.length = (([b, e].take (j + 1)).filter (tipOk s.music)).length := fun hok => by
        refine ⟨ys, hD, bj, ?_⟩
        rw [hl, et, List.filter_append, List.length_append]
        simp [hok]
      refine ⟨rfl, _, rfl, r, _, _, _, rfl, rfl, hr', atI_nat (j := 0) rfl, _, rfl, m, _, rfl, dg_music hm2, c.mu, _, rfl, hg', _, rfl, ?_⟩
      rcases kv_get hk2 tp.1 with ⟨e1, e2⟩ | ⟨mm, v, e1, e2, dm⟩
      · rw [e2]
        exact noo (by unfold tipOk; rw [e1])
      · rw [e2] at hg' ⊢
        obtain ⟨z, zs, rfl, hz, dz⟩ := dp_tup dm
        have lz := dpa_length dz
        rw [List.length_map] at lz
        refine ⟨_, rfl, r, _, _, _, rfl, rfl, hr', atI_nat (j := 1) rfl, _, rfl, m, _, rfl, dg_music hm2, _, rfl, r, _, _, _, rfl, rfl, hr', atI_nat (j := 0) rfl, c.mu, _, rfl, hg', z, zs, rfl, .inr hz, _, _, rfl, rfl, _, rfl, ite2 (fun e3 => ?_) (fun e3 => ?_)⟩
        · exact ⟨_, rfl, yes (by unfold tipOk; rw [e1]; have := of_decide_eq_true e3; exact decide_eq_true (by omega)) _ But.refl⟩
        · exact noo (by unfold tipOk; rw [e1]; have : ¬ tp.2 < (zs.length : Int) := fun q => e3 (decide_eq_true q); exact decide_eq_false (by omega))
    rintro H2 ⟨ys, hD, bj, hl⟩
    have hl : ys.length = ([b, e].filter (tipOk s.music)).length := hl
    have b02 := b1.trans bj
    have hs2 := hs'.new b02
    have two : ys.length = 2 ↔ (tipIn s.music b = true ∧ tipIn s.music e = true) := by
      rw [hl, ← tipOk_in nb, ← tipOk_in ne]
      cases h1 : tipOk s.music b <;> cases h2 : tipOk s.music e <;> simp [h1, h2]
    have le2 : ys.length ≤ 2 := by rw [hl]; exact Nat.le_trans (List.length_filter_le _ _) (by simp)
    have keep : ∀ {H3}, But [] H2 H3 → lies s.order s.music (on, b, e, th) = true → But [c.sp] H0 H3 ∧ ModAt K H3 m c { s with spans := (s.spans.take (i + 1)).filter (fun p => lies s.order s.music p.2) ++ s.spans.drop (i + 1) } := fun {H3} b3 hlie => by
      refine ⟨(bb.step b02).step b3, ?_⟩
      have := hs2.new b3
      rw [List.take_add_one, hsp, List.filter_append, show (some ((n', on, b, e, th) : Int × Span)).toList.filter (fun p => lies s.order s.music p.2) = [(n', on, b, e, th)] by simp [hlie], List.append_assoc]
      rw [hdr] at this
      exact this
    have drop : ∀ {H3}, But [] H2 H3 → lies s.order s.music (on, b, e, th) = false → ∃ kvs k v, H3 c.sp = some (.dK kvs) ∧ V.int n' = kV k ∧ valV kvs k = some v ∧ (But [c.sp] H0 (upd H3 c.sp (.dK (dropK kvs k))) ∧ ModAt K (upd H3 c.sp (.dK (dropK kvs k))) m c { s with spans := (s.spans.take (i + 1)).filter (fun p => lies s.order s.music p.2) ++ s.spans.drop (i + 1) }) := fun {H3} b3 hlie => by
      have hs3 := hs2.new b3
      have hp3 := (b02.trans b3).keep _ _ hp1' (by simp)
      refine ⟨kp', .inl n', _, hp3, rfl, hv, ((bb.step b02).step b3).old (by simp), ?_⟩
      have := mo_spans hs3 (kv_drop (n := n') (kv_but (b02.trans b3) tup_span hp2'))
      rw [List.take_add_one, hsp, List.filter_append, show (some ((n', on, b, e, th) : Int × Span)).toList.filter (fun p => lies s.order s.music p.2) = [] by simp [hlie], List.append_nil]
      have ed : dropM ((s.spans.take i).filter (fun p => lies s.order s.music p.2) ++ s.spans.drop i) n' = (s.spans.take i).filter (fun p => lies s.order s.music p.2) ++ s.spans.drop (i + 1) := by
        unfold dropM
        rw [List.filter_append, List.filter_eq_self.mpr (fun y hy => decide_eq_true (hpre y hy)), hdr, List.filter_cons_of_neg (by simp), List.filter_eq_self.mpr (fun y hy => decide_eq_true (hpost y hy))]
      have ed2 : dropM ({ s with spans := (s.spans.take i).filter (fun p => lies s.order s.music p.2) ++ s.spans.drop i } : Sta).spans n' = (s.spans.take i).filter (fun p => lies s.order s.music p.2) ++ s.spans.drop (i + 1) := ed
      rw [ed2] at this
      exact this
    have popR : ∀ {H3 : Hp} {D3 : Ends} {σ3 : L2.St}, But [] H2 H3 → σ3[0]? = some (some (.ref m)) → σ3[1]? = some (some (.int n')) → lies s.order s.music (on, b, e, th) = false → True := fun _ _ _ _ => trivial
    refine ⟨_, rfl, D, ys, rfl, .inl (SqL.of hD), _, _, rfl, rfl, _, rfl, ite2 (fun e3 => ?_) (fun e3 => ?_)⟩
    · have e3 := of_decide_eq_true e3
      have hlie : lies s.order s.music (on, b, e, th) = false := by
        cases hh : lies s.order s.music (on, b, e, th) with
        | false => rfl
        | true =>
          unfold lies at hh
          rw [Bool.and_eq_true, Bool.and_eq_true] at hh
          have := two.mpr ⟨hh.1, hh.2.1⟩
          omega
      obtain ⟨ws2, wf2, hm2, _, _⟩ := id hs2.at_
      obtain ⟨kvs, kk, vv, g1, g2, g3, g4, g5⟩ := drop But.refl hlie
      exact ⟨_, rfl, m, _, rfl, dg_spans hm2, c.sp, rfl, .inl ⟨kvs, .inl g1⟩, _, rfl, kvs, kk, vv, g1, g2, g3, _, _, _, _, _, _, rfl, g4, g5⟩
    · have e3 : ¬ ((ys.length : Nat) : Int) < 2 := fun z => e3 (decide_eq_true z)
      obtain ⟨t1, t2⟩ := two.mp (by omega)
      have o1 : b.1 ∈ s.order := (hk _).mpr (tipIn_key t1)
      have o2 : e.1 ∈ s.order := (hk _).mpr (tipIn_key t2)
      refine ⟨_, rfl, _, rfl, m, c, _, v3, e, rfl, hs2, dp_but b02 _ _ (tup_tip _) d3, o2, fun p1 np1 => ?_⟩
      have b5 : But [] H2 (upd H2 p1 (.tup [.int (idx s.order e.1 : Nat), .int e.2])) := But.refl.new np1
      refine ⟨_, rfl, _, rfl, m, c, _, v2, b, rfl, hs2.new b5, dp_but (b02.trans b5) _ _ (tup_tip _) d2, o1, fun p2 np2 => ?_⟩
      refine ⟨p1, p2, [(idx s.order e.1 : Nat), e.2], [(idx s.order b.1 : Nat), b.2], rfl, rfl, sqT_new (SqT.of upd_same) np2, SqT.of upd_same, ?_⟩
      rw [lexLt_spot]
      have b6 := b5.new (o := .tup [.int (idx s.order b.1 : Nat), .int b.2]) np2
      have hlie : lies s.order s.music (on, b, e, th) = spotLe s.order b e := by unfold lies; rw [t1, t2]; rfl
      refine ⟨_, rfl, ite2 (fun z => ?_) (fun z => ?_)⟩
      · obtain ⟨ws2, wf2, hm2, _, _⟩ := id (hs2.new b6).at_
        obtain ⟨kvs, kk, vv, g1, g2, g3, g4, g5⟩ := drop b6 (by rw [hlie]; exact not_t z)
        exact ⟨_, rfl, m, _, rfl, dg_spans hm2, c.sp, rfl, .inl ⟨kvs, .inl g1⟩, _, rfl, kvs, kk, vv, g1, g2, g3, _, _, _, _, _, _, rfl, g4, g5⟩
      · obtain ⟨g4, g5⟩ := keep b6 (by rw [hlie]; exact not_f z)
        exact ⟨_, _, _, _, _, _, rfl, g4, g5⟩
  · rintro σ' H' ⟨x1, x2, x3, x4, x5, x6, rfl, bb, hs'⟩
    rw [List.length_map, List.length_map, List.take_length, List.drop_length, List.append_nil] at hs'
    refine k H' ?_ hs'
    exact (But.nil [c.sp] (fun x hx => by rw [show x = c.sp by simpa using hx]; exact nt_dk hp1)).thn (bq.thn (M := []) (M1 := []) But.refl (by simp) |>.mono (M' := []) (by simp) (by simp)) (by simp) |>.thn bb fun x hx => .inl hx
end Bu
set_option Elab.async false
set_option linter.all false
set_option maxRecDepth 100000
set_option maxHeartbeats 4000000
/-! The law's own model: a deed put. -/
namespace Bu
open PySem PySem.Spec PyProof.Rows L2
theorem tipIn_nn {music : List (Int × Br)} {t : Tip} (h : tipIn music t = true) : 0 ≤ t.2 := by
  unfold tipIn at h
  cases e : getM music t.1 with
  | none => rw [e] at h; cases h
  | some b => rw [e] at h; exact (of_decide_eq_true h).1
theorem Sta.Good.nn {s : Sta} {N : Int} (g : s.Good N) : ∀ p ∈ s.spans, 0 ≤ p.2.2.1.2 ∧ 0 ≤ p.2.2.2.1.2 := fun p hp => by
  have l := g.lie p hp
  unfold lies at l
  rw [Bool.and_eq_true, Bool.and_eq_true] at l
  exact ⟨tipIn_nn l.1, tipIn_nn l.2.1⟩
theorem sweep_self {s : Sta} (h : ∀ p ∈ s.spans, lies s.order s.music p.2 = true) : sweep s = s := by
  unfold sweep
  rw [List.filter_eq_self.mpr h]
def spLPut (K : PySem.W.Frag) : Sp := fun vs H Q _ => ∃ (m : Addr) (c : Cnt) (s : Sta) (N : Int) (v : V) (d : De), Plain d ∧ formless d = false ∧ bad s d = none ∧ vs = [.ref m, v] ∧ ModAt K H m c s ∧ s.Good N ∧ N < 1000000000000 ∧ Dp K H v d.toD ∧
  ∀ H', But (mineM m c) H H' → ModAt K H' m c (put true s d).1 → Q (tellV (put true s d).2) H'
abbrev n_law_put : List Str := ["_law_m", "_law_deed_here", "_law_name", "_law_number_here"]
theorem sc_law_put : FnScope n_law_put ["_law_m", "_law_deed_here"] d_law_put.scope := C8.fnScope_by (by decide +kernel)
theorem cal_put {P : Program} {w : World} {K : PySem.W.Frag} {mg : Str → Option Value} {base : Heap} (C : Cn w K mg)  : Cal P w K mg base CX0 3 "_law_put" (spLPut K) := by
  refine C.cal 54 54 d_law_put sc_law_put (fun _ _ _ _ _ _ us hl => match us, hl with | [_, _], _ => rfl) (fun vs H Q E h => ?_) (fun f cdv A outer s H vs Q E hr h => ?_)
  · obtain ⟨m, c, s, N, v, d, _, _, _, rfl, _⟩ := h
    rfl
  have nd := sc_law_put.nd
  refine ⟨_, PSs.nox (pss_cons (ps_set (i := 2) nd rfl (by first | exact Or.inl rfl | exact Or.inr rfl) (pe_ix ix_tup (pv 1) pe_int (fun _ _ => rfl))) (pss_cons (ps_if (pt_cmpR op_eq (pv 2) pe_str (nomark _)) (pss_cons (ps_set (i := 3) nd rfl (by first | exact Or.inl rfl | exact Or.inr rfl) (pe_ix ix_tup (pe_dget (hu_of hr) (pv 0) pe_str (fun _ _ => rfl)) pe_int (fun _ _ => rfl))) (pss_cons (ps_expr (pe_bm PySem.F.plainAttrs_list PySem.F.slot_list_insert PySem.F.type_list_insert mt_insert (pe_dget (hu_of hr) (pv 0) pe_str (fun _ _ => rfl)) (pa_cons (pe_ix ix_tup (pv 1) pe_int (fun _ _ => rfl)) (pa_cons (pv 3) pa_nil)))) (pss_cons (ps_dput (hu_of hr) (pe_dget (hu_of hr) (pv 0) pe_str (fun _ _ => rfl)) (pv 3) (pe_ix ix_tup (pv 1) pe_int (fun _ _ => rfl)) rfl) (pss_cons (ps_dput (hu_of hr) (pv 0) pe_str (pe_tup (pa_cons (pe_op op_add (pv 3) pe_int) (pa_cons (pe_ix ix_tup (pe_dget (hu_of hr) (pv 0) pe_str (fun _ _ => rfl)) pe_int (fun _ _ => rfl)) pa_nil))) rfl) (pss_one (ps_ret (pv 3))))))) pss_nil) (pss_cons (ps_if (pt_cmpR op_eq (pv 2) pe_str (nomark _)) (pss_cons (ps_set (i := 3) nd rfl (by first | exact Or.inl rfl | exact Or.inr rfl) (pe_ix ix_tup (pe_dget (hu_of hr) (pv 0) pe_str (fun _ _ => rfl)) pe_int (fun _ _ => rfl))) (pss_cons (ps_dput (hu_of hr) (pe_dget (hu_of hr) (pv 0) pe_str (fun _ _ => rfl)) (pv 3) (pe_slice sl_tupA (pv 1) (po_some pe_int) po_none) rfl) (pss_cons (ps_dput (hu_of hr) (pv 0) pe_str (pe_tup (pa_cons (pe_ix ix_tup (pe_dget (hu_of hr) (pv 0) pe_str (fun _ _ => rfl)) pe_int (fun _ _ => rfl)) (pa_cons (pe_op op_add (pv 3) pe_int) pa_nil))) rfl) (pss_one (ps_ret (pv 3)))))) pss_nil) (pss_cons (ps_if (pt_cmpR op_eq (pv 2) pe_str (nomark _)) (pss_one (ps_dput (hu_of hr) (pe_dget (hu_of hr) (pv 0) pe_str (fun _ _ => rfl)) (pe_ix ix_tup (pv 1) pe_int (fun _ _ => rfl)) (pe_ix ix_tup (pv 1) pe_int (fun _ _ => rfl)) rfl)) (pss_one (ps_if (pt_cmpR op_eq (pv 2) pe_str (nomark _)) (pss_cons (ps_expr (pe_bm PySem.F.plainAttrs_list PySem.F.slot_list_remove PySem.F.type_list_remove mt_remove (pe_dget (hu_of hr) (pv 0) pe_str (fun _ _ => rfl)) (pa_cons (pe_ix ix_tup (pv 1) pe_int (fun _ _ => rfl)) pa_nil))) (pss_cons (ps_expr (pe_dpop1 (pe_dget (hu_of hr) (pv 0) pe_str (fun _ _ => rfl)) (pe_ix ix_tup (pv 1) pe_int (fun _ _ => rfl)) ⟨rfl, rfl, rfl, rfl⟩)) (pss_one (ps_expr (pe_dpop2 (pe_dget (hu_of hr) (pv 0) pe_str (fun _ _ => rfl)) (pe_ix ix_tup (pv 1) pe_int (fun _ _ => rfl)) pe_non ⟨rfl, rfl, rfl, rfl⟩))))) (pss_one (ps_if (pt_cmpR op_eq (pv 2) pe_str (nomark _)) (pss_cons (ps_expr (pe_bm PySem.F.plainAttrs_list PySem.F.slot_list_remove PySem.F.type_list_remove mt_remove (pe_dget (hu_of hr) (pv 0) pe_str (fun _ _ => rfl)) (pa_cons (pe_ix ix_tup (pv 1) pe_int (fun _ _ => rfl)) pa_nil))) (pss_one (ps_expr (pe_bm PySem.F.plainAttrs_list PySem.F.slot_list_insert PySem.F.type_list_insert mt_insert (pe_dget (hu_of hr) (pv 0) pe_str (fun _ _ => rfl)) (pa_cons (pe_ix ix_tup (pv 1) pe_int (fun _ _ => rfl)) (pa_cons (pe_ix ix_tup (pv 1) pe_int (fun _ _ => rfl)) pa_nil)))))) (pss_one (ps_if (pt_cmpR op_eq (pv 2) pe_str (nomark _)) (pss_one (ps_expr (pe_dpop1 (pe_dget (hu_of hr) (pv 0) pe_str (fun _ _ => rfl)) (pe_ix ix_tup (pv 1) pe_int (fun _ _ => rfl)) ⟨rfl, rfl, rfl, rfl⟩))) (pss_one (ps_if (pt_cmpR op_eq (pv 2) pe_str (nomark _)) (pss_one (ps_dput (hu_of hr) (pe_dget (hu_of hr) (pv 0) pe_str (fun _ _ => rfl)) (pe_ix ix_tup (pv 1) pe_int (fun _ _ => rfl)) (pe_ix ix_tup (pv 1) pe_int (fun _ _ => rfl)) rfl)) (pss_one (ps_dput (hu_of hr) (pv 0) pe_str (pe_slice sl_tupA (pv 1) (po_some pe_int) po_none) rfl))))))))))) (pss_cons (ps_expr (pe_c (cal_sweep C) hr (pa_cons (pv 0) pa_nil))) (pss_one (ps_ret pe_non))))))), ?_⟩
  obtain ⟨m, c, s, N, v, d, hpl, hf, hb, rfl, hs, hg, hN, dv, k⟩ := h
  obtain ⟨ws, wf, hm1, hw1, hw2⟩ := id hs.at_
  have ho := hs.cont.o
  have few := hg.few
  have b0 := mo_nil hs
  have lv := hs.live
  obtain ⟨nq1, nq2, nq3, nq4, nq5, nq6, nq7⟩ := hs.nes
  cases d with
  | bar i b =>
    have pl : Plain (.bar i b) := hpl
    obtain ⟨p, vs, rfl, hp, da⟩ := dp_tup dv
    obtain ⟨v1, vs, rfl, d1, da⟩ := dpa_cons da
    obtain ⟨v2, vs, rfl, d2, da⟩ := dpa_cons da
    obtain ⟨v3, vs, rfl, d3, da⟩ := dpa_cons da
    cases dpa_nil da
    cases dp_str d1
    cases dp_int d2
    have hi : 0 ≤ i ∧ i ≤ (s.order.length : Int) := by
      rw [bad_bar] at hb
      split at hb
      · cases hb
      · rename_i h; omega
    obtain ⟨fa_, rfl, h4⟩ := dp_tip hw2
    refine ⟨_, rfl, p, _, _, _, rfl, rfl, hp, atI_nat (j := 0) rfl, _, rfl, rfl, _, rfl, iteT ?_⟩
    refine ⟨_, rfl, m, _, rfl, dg_fresh hm1, fa_, _, _, _, rfl, rfl, h4, atI_nat (j := 0) rfl, ?_⟩
    refine ⟨_, rfl, m, _, rfl, dg_order hm1, .inl ⟨rfl, _, SqL.of ho⟩, _, rfl, p, _, _, _, rfl, rfl, hp, atI_nat (j := 1) rfl, _, rfl, c.o, s.order.map .int, i, .int s.fresh.1, rfl, rfl, ho, by rw [List.length_map, sizeLine_eq]; omega, by omega, by omega, ?_⟩
    rw [ins_map]
    have hs1 := mo_order hs (insAt s.order i s.fresh.1)
    have b1 := b0.old (p := c.o) (o := .lst ((insAt s.order i s.fresh.1).map .int)) (by simp [mineM])
    generalize upd H c.o (.lst ((insAt s.order i s.fresh.1).map .int)) = H1 at hs1 b1
    have hp1 := b1.sqT hp
    have d31 := dp_but b1 _ _ (tup_br b) d3
    obtain ⟨ws1, wf1, hm11, _, _⟩ := id hs1.at_
    obtain ⟨ks, hk1, hk2⟩ := id hs1.cont.mu
    refine ⟨_, rfl, p, _, _, _, rfl, rfl, hp1, atI_nat (j := 2) rfl, _, rfl, m, _, rfl, dg_music hm11, _, rfl, c.mu, _, rfl, .inl ⟨ks, .inl s.fresh.1, hk1, rfl, ?_, rfl⟩, ?_⟩
    · have := hg.mfew
      have e : ks.length = s.music.length := kv_len hk2
      rw [sizeLine_eq]; omega
    have hs2 := mo_music hs1 (kv_put hk2 (n := s.fresh.1) (x := b) d31)
    have b2 := b1.old (p := c.mu) (o := .dK (putK ks (.inl s.fresh.1) v3)) (by simp [mineM])
    generalize upd H1 c.mu (.dK (putK ks (.inl s.fresh.1) v3)) = H2 at hs2 b2
    obtain ⟨ws2, wf2, hm2, hw21, hw22⟩ := id hs2.at_
    obtain ⟨fb, rfl, h5⟩ := dp_tip hw22
    refine ⟨_, rfl, _, _, rfl, rfl, _, rfl, m, _, rfl, dg_fresh hm2, fb, _, _, _, rfl, rfl, h5, atI_nat (j := 1) rfl, by show 2 ≤ sizeLine; decide, fun t nt => ?_⟩
    have bt := But.refl.new (H := H2) (o := .tup [.int (s.fresh.1 + 1), .int s.fresh.2]) nt
    have hs3 := hs2.new bt
    have hm3 := bt.keep _ _ hm2 (by simp)
    have hw31 := dp_but bt _ _ (tup_sheet _) hw21
    have b3 := b2.step bt
    have dt : Dp K (upd H2 t (.tup [.int (s.fresh.1 + 1), .int s.fresh.2])) (.ref t) (tipD (s.fresh.1 + 1, s.fresh.2)) := .tup (SqT.of upd_same) (.cons (.int _) (.cons (.int _) .nil))
    generalize upd H2 t (.tup [.int (s.fresh.1 + 1), .int s.fresh.2]) = H3 at hs3 hm3 hw31 b3 dt
    refine ⟨_, rfl, m, _, rfl, dp_fresh hm3, _, rfl, ?_⟩
    exact k _ (b3.old (by simp [mineM])) (mo_rec hs3 hw31 dt)
  | mark sp =>
    obtain ⟨on, b, e, th⟩ := sp
    obtain ⟨p, vs, ep, hp, da⟩ := dp_tup dv
    obtain ⟨v1, vs, rfl, d1, da⟩ := dpa_cons da
    cases dp_str d1
    subst ep
    obtain ⟨fa_, rfl, h4⟩ := dp_tip hw2
    have sf : s.spans.length ≤ 20 := hg.sfew
    refine ⟨_, rfl, p, _, _, _, rfl, rfl, hp, atI_nat (j := 0) rfl, _, rfl, rfl, _, rfl, iteF ?_⟩
    refine ⟨_, rfl, rfl, _, rfl, iteT ?_⟩
    refine ⟨_, rfl, m, _, rfl, dg_fresh hm1, fa_, _, _, _, rfl, rfl, h4, atI_nat (j := 1) rfl, ?_⟩
    refine ⟨_, rfl, ?_⟩
    dsimp only [tNoPart]
    refine ⟨_, rfl, ?_⟩
    refine slA_end (lo := some 1) (hi := none) dv rfl fun v6 H1 b1 d6 => ?_
    rw [cutL_tail] at d6
    have hs1 := hs.new b1
    have b1 := b0.step b1
    obtain ⟨ws1, wf1, hm11, _, _⟩ := id hs1.at_
    obtain ⟨ks, hk1, hk2⟩ := id hs1.cont.sp
    refine ⟨_, rfl, m, _, rfl, dg_spans hm11, _, rfl, c.sp, _, rfl, .inl ⟨ks, .inl s.fresh.2, hk1, rfl, ?_, rfl⟩, ?_⟩
    · have e : ks.length = s.spans.length := kv_len hk2
      rw [sizeLine_eq]; omega
    have hs2 := mo_spans hs1 (kv_put hk2 (n := s.fresh.2) (x := (on, b, e, th)) d6)
    have b2 := b1.old (p := c.sp) (o := .dK (putK ks (.inl s.fresh.2) v6)) (by simp [mineM])
    generalize upd H1 c.sp (.dK (putK ks (.inl s.fresh.2) v6)) = H2 at hs2 b2
    obtain ⟨ws2, wf2, hm2, hw21, hw22⟩ := id hs2.at_
    obtain ⟨fb, rfl, h5⟩ := dp_tip hw22
    refine ⟨_, rfl, m, _, rfl, dg_fresh hm2, fb, _, _, _, rfl, rfl, h5, atI_nat (j := 0) rfl, _, rfl, _, _, rfl, rfl, by show 2 ≤ sizeLine; decide, fun t nt => ?_⟩
    have bt := But.refl.new (H := H2) (o := .tup [.int s.fresh.1, .int (s.fresh.2 + 1)]) nt
    have hs3 := hs2.new bt
    have hm3 := bt.keep _ _ hm2 (by simp)
    have hw31 := dp_but bt _ _ (tup_sheet _) hw21
    have b3 := b2.step bt
    have dt : Dp K (upd H2 t (.tup [.int s.fresh.1, .int (s.fresh.2 + 1)])) (.ref t) (tipD (s.fresh.1, s.fresh.2 + 1)) := .tup (SqT.of upd_same) (.cons (.int _) (.cons (.int _) .nil))
    generalize upd H2 t (.tup [.int s.fresh.1, .int (s.fresh.2 + 1)]) = H3 at hs3 hm3 hw31 b3 dt
    refine ⟨_, rfl, m, _, rfl, dp_fresh hm3, _, rfl, ?_⟩
    exact k _ (b3.old (by simp [mineM])) (mo_rec hs3 hw31 dt)
  | change n b =>
    have pl : Plain (.change n b) := hpl
    obtain ⟨p, vs, rfl, hp, da⟩ := dp_tup dv
    obtain ⟨v1, vs, rfl, d1, da⟩ := dpa_cons da
    obtain ⟨v2, vs, rfl, d2, da⟩ := dpa_cons da
    obtain ⟨v3, vs, rfl, d3, da⟩ := dpa_cons da
    cases dpa_nil da
    cases dp_str d1
    cases dp_int d2
    have hk : n ∈ s.music.map (·.1) := by
      rw [bad_change] at hb
      split at hb
      · cases hb
      · rename_i h; exact getM_key h
    obtain ⟨ks, hk1, hk2⟩ := id hs.cont.mu
    refine ⟨_, rfl, p, _, _, _, rfl, rfl, hp, atI_nat (j := 0) rfl, _, rfl, rfl, _, rfl, iteF ?_⟩
    refine ⟨_, rfl, rfl, _, rfl, iteF ?_⟩
    refine ⟨_, rfl, rfl, _, rfl, iteT ?_⟩
    refine ⟨_, rfl, p, _, _, _, rfl, rfl, hp, atI_nat (j := 2) rfl, _, rfl, m, _, rfl, dg_music hm1, _, rfl, p, _, _, _, rfl, rfl, hp, atI_nat (j := 1) rfl, c.mu, _, rfl, .inl ⟨ks, .inl n, hk1, rfl, ?_, rfl⟩, ?_⟩
    · have := hg.mfew
      have e : ks.length = s.music.length := kv_len hk2
      rw [sizeLine_eq]; omega
    have hs2 := mo_music hs (kv_put hk2 (n := n) (x := b) d3)
    have b2 := b0.old (p := c.mu) (o := .dK (putK ks (.inl n) v3)) (by simp [mineM])
    generalize upd H c.mu (.dK (putK ks (.inl n) v3)) = H2 at hs2 b2
    refine ⟨_, rfl, m, c, _, rfl, hs2, fun j => ?_, hg.snd, hg.sfew, hg.nn, fun H3 b3 hs3 => ?_⟩
    · show j ∈ s.order ↔ j ∈ (putM s.music n b).map (·.1)
      rw [keys_put hk]; exact hg.keys j
    · exact k H3 (b2.thn b3 fun x hx => .inl (by rw [show x = c.sp by simpa using hx]; simp [mineM])) hs3
  | cut n =>
    obtain ⟨p, vs, rfl, hp, da⟩ := dp_tup dv
    obtain ⟨v1, vs, rfl, d1, da⟩ := dpa_cons da
    obtain ⟨v2, vs, rfl, d2, da⟩ := dpa_cons da
    cases dpa_nil da
    cases dp_str d1
    cases dp_int d2
    have hk : n ∈ s.music.map (·.1) := by
      rw [bad_cut] at hb
      split at hb
      · cases hb
      · rename_i h; exact getM_key h
    have hon : n ∈ s.order := (hg.keys n).mpr hk
    obtain ⟨q1, q2⟩ := idx_lt hon
    refine ⟨_, rfl, p, _, _, _, rfl, rfl, hp, atI_nat (j := 0) rfl, _, rfl, rfl, _, rfl, iteF ?_⟩
    refine ⟨_, rfl, rfl, _, rfl, iteF ?_⟩
    refine ⟨_, rfl, rfl, _, rfl, iteF ?_⟩
    refine ⟨_, rfl, rfl, _, rfl, iteT ?_⟩
    refine ⟨_, rfl, m, _, rfl, dg_order hm1, .inl ⟨rfl, _, SqL.of ho⟩, _, rfl, p, _, _, _, rfl, rfl, hp, atI_nat (j := 1) rfl, c.o, s.order, n, idx s.order n, rfl, rfl, ho, q1, fun j hj z => q2 j n hj z rfl, ?_⟩
    rw [idx_erase hon]
    have hs1 := mo_order hs (s.order.erase n)
    have b1 := b0.old (p := c.o) (o := .lst ((s.order.erase n).map .int)) (by simp [mineM])
    generalize upd H c.o (.lst ((s.order.erase n).map .int)) = H1 at hs1 b1
    have hp1 := b1.sqT hp
    obtain ⟨ws1, wf1, hm11, _, _⟩ := id hs1.at_
    obtain ⟨ks, hk1, hk2⟩ := id hs1.cont.mu
    obtain ⟨xx, hx⟩ := getM_in hk
    obtain ⟨vv, hv⟩ : ∃ vv, valV ks (.inl n) = some vv := by
      rcases kv_get hk2 n with ⟨e1, _⟩ | ⟨_, vv, _, e2, _⟩
      · rw [show getM s.music n = none from e1] at hx; cases hx
      · exact ⟨vv, e2⟩
    refine ⟨_, rfl, m, _, rfl, dg_music hm11, c.mu, rfl, .inl ⟨ks, .inl hk1⟩, _, rfl, p, _, _, _, rfl, rfl, hp1, atI_nat (j := 1) rfl, ks, .inl n, vv, hk1, rfl, hv, ?_⟩
    have hs2 := mo_music hs1 (kv_drop hk2 (n := n))
    have b2 := b1.old (p := c.mu) (o := .dK (dropK ks (.inl n))) (by simp [mineM])
    generalize upd H1 c.mu (.dK (dropK ks (.inl n))) = H2 at hs2 b2
    have hp2 := b2.sqT hp
    obtain ⟨ws2, wf2, hm2, _, _⟩ := id hs2.at_
    obtain ⟨kb, hb1, hb2⟩ := id hs2.cont.bo
    have keys : ∀ j, j ∈ s.order.erase n ↔ j ∈ (dropM s.music n).map (·.1) := fun j => by rw [keys_drop, hg.nd.mem_erase_iff, hg.keys j]
    refine ⟨_, rfl, m, _, rfl, dg_bound hm2, c.bo, rfl, .inl ⟨kb, .inl hb1⟩, _, rfl, p, _, _, _, rfl, rfl, hp2, atI_nat (j := 1) rfl, kb, .inl n, hb1, rfl, fun v'' _ => ?_, fun hno => ?_⟩
    · have hs3 := mo_bound hs2 (kv_drop hb2 (n := n))
      have b3 := b2.old (p := c.bo) (o := .dK (dropK kb (.inl n))) (by simp [mineM])
      exact ⟨_, rfl, m, c, _, rfl, hs3, keys, hg.snd, hg.sfew, hg.nn, fun H4 b4 hs4 => k H4 (b3.thn b4 fun x hx => .inl (by rw [show x = c.sp by simpa using hx]; simp [mineM])) hs4⟩
    · have hs3 : ModAt K H2 m c { s with order := s.order.erase n, music := dropM s.music n, bound := dropM s.bound n } := by
        rcases kv_get hb2 n with ⟨e3, _⟩ | ⟨_, _, _, e4, _⟩
        · have e3 : getM s.bound n = none := e3
          rw [dropM_no e3]; exact hs2
        · rw [e4] at hno; cases hno
      exact ⟨_, rfl, m, c, _, rfl, hs3, keys, hg.snd, hg.sfew, hg.nn, fun H4 b4 hs4 => k H4 (b2.thn b4 fun x hx => .inl (by rw [show x = c.sp by simpa using hx]; simp [mineM])) hs4⟩
  | move n i =>
    obtain ⟨p, vs, rfl, hp, da⟩ := dp_tup dv
    obtain ⟨v1, vs, rfl, d1, da⟩ := dpa_cons da
    obtain ⟨v2, vs, rfl, d2, da⟩ := dpa_cons da
    obtain ⟨v3, vs, rfl, d3, da⟩ := dpa_cons da
    cases dpa_nil da
    cases dp_str d1
    cases dp_int d2
    cases dp_int d3
    have hki : n ∈ s.music.map (·.1) ∧ (0 ≤ i ∧ i < (s.order.length : Int)) := by
      rw [bad_move] at hb
      split at hb
      · cases hb
      · rename_i h
        split at hb
        · cases hb
        · rename_i h2
          exact ⟨getM_key h, by omega⟩
    obtain ⟨hk, hi⟩ := hki
    have hon : n ∈ s.order := (hg.keys n).mpr hk
    obtain ⟨q1, q2⟩ := idx_lt hon
    refine ⟨_, rfl, p, _, _, _, rfl, rfl, hp, atI_nat (j := 0) rfl, _, rfl, rfl, _, rfl, iteF ?_⟩
    refine ⟨_, rfl, rfl, _, rfl, iteF ?_⟩
    refine ⟨_, rfl, rfl, _, rfl, iteF ?_⟩
    refine ⟨_, rfl, rfl, _, rfl, iteF ?_⟩
    refine ⟨_, rfl, rfl, _, rfl, iteT ?_⟩
    refine ⟨_, rfl, m, _, rfl, dg_order hm1, .inl ⟨rfl, _, SqL.of ho⟩, _, rfl, p, _, _, _, rfl, rfl, hp, atI_nat (j := 1) rfl, c.o, s.order, n, idx s.order n, rfl, rfl, ho, q1, fun j hj z => q2 j n hj z rfl, ?_⟩
    rw [idx_erase hon]
    have hs1 := mo_order hs (s.order.erase n)
    have b1 := b0.old (p := c.o) (o := .lst ((s.order.erase n).map .int)) (by simp [mineM])
    generalize upd H c.o (.lst ((s.order.erase n).map .int)) = H1 at hs1 b1
    have hp1 := b1.sqT hp
    obtain ⟨ws1, wf1, hm11, _, _⟩ := id hs1.at_
    have lE : (s.order.erase n).length ≤ 12 := Nat.le_trans (List.length_erase_le) few
    refine ⟨_, rfl, m, _, rfl, dg_order hm11, .inl ⟨rfl, _, SqL.of hs1.cont.o⟩, _, rfl, p, _, _, _, rfl, rfl, hp1, atI_nat (j := 2) rfl, _, rfl, p, _, _, _, rfl, rfl, hp1, atI_nat (j := 1) rfl, c.o, (s.order.erase n).map .int, i, .int n, rfl, rfl, hs1.cont.o, by rw [List.length_map, sizeLine_eq]; omega, by omega, by omega, ?_⟩
    rw [ins_map]
    have hs2 := mo_order hs1 (insAt (s.order.erase n) i n)
    have b2 := b1.old (p := c.o) (o := .lst ((insAt (s.order.erase n) i n).map .int)) (by simp [mineM])
    generalize upd H1 c.o (.lst ((insAt (s.order.erase n) i n).map .int)) = H2 at hs2 b2
    refine ⟨_, rfl, m, c, _, rfl, hs2, fun j => ?_, hg.snd, hg.sfew, hg.nn, fun H3 b3 hs3 => ?_⟩
    · show j ∈ insAt (s.order.erase n) i n ↔ j ∈ s.music.map (·.1)
      rw [mem_insAt, hg.nd.mem_erase_iff, ← hg.keys j]
      constructor
      · rintro (rfl | h)
        · exact hon
        · exact h.2
      · intro h
        by_cases z : j = n
        · exact .inl z
        · exact .inr ⟨z, h⟩
    · exact k H3 (b2.thn b3 fun x hx => .inl (by rw [show x = c.sp by simpa using hx]; simp [mineM])) hs3
  | wipe n =>
    obtain ⟨p, vs, rfl, hp, da⟩ := dp_tup dv
    obtain ⟨v1, vs, rfl, d1, da⟩ := dpa_cons da
    obtain ⟨v2, vs, rfl, d2, da⟩ := dpa_cons da
    cases dpa_nil da
    cases dp_str d1
    cases dp_int d2
    have hk : n ∈ s.spans.map (·.1) := by
      rw [bad_wipe] at hb
      split at hb
      · cases hb
      · rename_i h; exact getM_key h
    refine ⟨_, rfl, p, _, _, _, rfl, rfl, hp, atI_nat (j := 0) rfl, _, rfl, rfl, _, rfl, iteF ?_⟩
    refine ⟨_, rfl, rfl, _, rfl, iteF ?_⟩
    refine ⟨_, rfl, rfl, _, rfl, iteF ?_⟩
    refine ⟨_, rfl, rfl, _, rfl, iteF ?_⟩
    refine ⟨_, rfl, rfl, _, rfl, iteF ?_⟩
    refine ⟨_, rfl, rfl, _, rfl, iteT ?_⟩
    obtain ⟨ks, hk1, hk2⟩ := id hs.cont.sp
    obtain ⟨xx, hx⟩ := getM_in hk
    obtain ⟨vv, hv⟩ : ∃ vv, valV ks (.inl n) = some vv := by
      rcases kv_get hk2 n with ⟨e1, _⟩ | ⟨_, vv, _, e2, _⟩
      · rw [e1] at hx; cases hx
      · exact ⟨vv, e2⟩
    refine ⟨_, rfl, m, _, rfl, dg_spans hm1, c.sp, rfl, .inl ⟨ks, .inl hk1⟩, _, rfl, p, _, _, _, rfl, rfl, hp, atI_nat (j := 1) rfl, ks, .inl n, vv, hk1, rfl, hv, ?_⟩
    have hs2 := mo_spans hs (kv_drop hk2 (n := n))
    have b2 := b0.old (p := c.sp) (o := .dK (dropK ks (.inl n))) (by simp [mineM])
    refine ⟨_, rfl, m, c, _, rfl, hs2, hg.keys, nodup_filter _ hg.snd, Nat.le_trans (List.length_filter_le _ _) hg.sfew, fun q hq => hg.nn q (List.mem_filter.mp hq).1, fun H3 b3 hs3 => ?_⟩
    rw [sweep_self (s := { s with spans := dropM s.spans n }) fun q hq => hg.lie q (List.mem_filter.mp hq).1] at hs3
    exact k H3 (b2.thn b3 fun x hx => .inl (by rw [show x = c.sp by simpa using hx]; simp [mineM])) hs3
  | fin n x =>
    obtain ⟨p, vs, rfl, hp, da⟩ := dp_tup dv
    obtain ⟨v1, vs, rfl, d1, da⟩ := dpa_cons da
    obtain ⟨v2, vs, rfl, d2, da⟩ := dpa_cons da
    obtain ⟨v3, vs, rfl, d3, da⟩ := dpa_cons da
    cases dpa_nil da
    cases dp_str d1
    cases dp_int d2
    obtain ⟨kb, hb1, hb2⟩ := id hs.cont.bo
    refine ⟨_, rfl, p, _, _, _, rfl, rfl, hp, atI_nat (j := 0) rfl, _, rfl, rfl, _, rfl, iteF ?_⟩
    refine ⟨_, rfl, rfl, _, rfl, iteF ?_⟩
    refine ⟨_, rfl, rfl, _, rfl, iteF ?_⟩
    refine ⟨_, rfl, rfl, _, rfl, iteF ?_⟩
    refine ⟨_, rfl, rfl, _, rfl, iteF ?_⟩
    refine ⟨_, rfl, rfl, _, rfl, iteF ?_⟩
    refine ⟨_, rfl, rfl, _, rfl, iteT ?_⟩
    refine ⟨_, rfl, p, _, _, _, rfl, rfl, hp, atI_nat (j := 2) rfl, _, rfl, m, _, rfl, dg_bound hm1, _, rfl, p, _, _, _, rfl, rfl, hp, atI_nat (j := 1) rfl, c.bo, _, rfl, .inl ⟨kb, .inl n, hb1, rfl, ?_, rfl⟩, ?_⟩
    · have := hg.bfew
      rw [kv_len hb2, sizeLine_eq]; omega
    have hs2 := mo_bound hs (kv_put hb2 (n := n) (x := x) d3)
    have b2 := b0.old (p := c.bo) (o := .dK (putK kb (.inl n) v3)) (by simp [mineM])
    refine ⟨_, rfl, m, c, _, rfl, hs2, hg.keys, hg.snd, hg.sfew, hg.nn, fun H3 b3 hs3 => ?_⟩
    rw [sweep_self (s := { s with bound := putM s.bound n x }) hg.lie] at hs3
    refine k H3 (b2.thn b3 fun x hx => .inl (by rw [show x = c.sp by simpa using hx]; simp [mineM])) ?_
    show ModAt K H3 m c { s with bound := if true = false ∧ x = "free" then dropM (putM s.bound n x) n else putM s.bound n x }
    rw [if_neg (fun z => by cases z.1)]
    exact hs3
  | paper sh =>
    obtain ⟨p, vs, ep, hp, da⟩ := dp_tup dv
    obtain ⟨v1, vs, rfl, d1, da⟩ := dpa_cons da
    cases dp_str d1
    subst ep
    refine ⟨_, rfl, p, _, _, _, rfl, rfl, hp, atI_nat (j := 0) rfl, _, rfl, rfl, _, rfl, iteF ?_⟩
    refine ⟨_, rfl, rfl, _, rfl, iteF ?_⟩
    refine ⟨_, rfl, rfl, _, rfl, iteF ?_⟩
    refine ⟨_, rfl, rfl, _, rfl, iteF ?_⟩
    refine ⟨_, rfl, rfl, _, rfl, iteF ?_⟩
    refine ⟨_, rfl, rfl, _, rfl, iteF ?_⟩
    refine ⟨_, rfl, rfl, _, rfl, iteF ?_⟩
    refine ⟨_, rfl, ?_⟩
    dsimp only [tNoPart]
    refine ⟨_, rfl, ?_⟩
    refine slA_end (lo := some 1) (hi := none) dv (tup_plain hpl) fun v6 H1 b1 d6 => ?_
    rw [cutL_tail] at d6
    have hs1 := hs.new b1
    have b1 := b0.step b1
    obtain ⟨ws1, wf1, hm11, hw11, hw12⟩ := id hs1.at_
    refine ⟨_, rfl, m, _, rfl, dp_sheet hm11, ?_⟩
    have hs2 := mo_rec hs1 (sh := sh) d6 hw12
    have b2 := b1.old (p := m) (o := .dK (mkv (.ref c.o) (.ref c.mu) (.ref c.sp) (.ref c.bo) v6 wf1)) (by simp [mineM])
    refine ⟨_, rfl, m, c, _, rfl, hs2, hg.keys, hg.snd, hg.sfew, hg.nn, fun H3 b3 hs3 => ?_⟩
    rw [sweep_self (s := { s with sheet := sh, fresh := s.fresh }) hg.lie] at hs3
    exact k H3 (b2.thn b3 fun x hx => .inl (by rw [show x = c.sp by simpa using hx]; simp [mineM])) hs3
  | odd l => cases hf
  | many l => exact hpl.elim
end Bu
set_option Elab.async false
set_option linter.all false
set_option maxRecDepth 100000
set_option maxHeartbeats 4000000
/-! The law's own model: copied, a deed applied. -/
namespace Bu
open PySem PySem.Spec PyProof.Rows L2
def rUpdD : V → List V → Hp → VK → Prop := fun x vs H Q => ∃ (a b : Addr) (kvs more : List (Key × V)), x = .ref a ∧ vs = [.ref b] ∧ a ≠ b ∧ H a = some (.dK kvs) ∧ H b = some (.dK more) ∧ kvs.length + more.length ≤ 1000 ∧ Q .non (upd H a (.dK (mergeK kvs more)))
/-- d.update(e) -/
theorem mt_update {X : Cx} : MtR X "dict.update" rUpdD := by
  intro pins s σ H x vs v us Q I rx rv h
  obtain ⟨a, b, kvs, more, rfl, rfl, ne, ha, hb, hl, q⟩ := h
  obtain rfl : v = Value.ref a := rx
  obtain ⟨u, rfl, r1⟩ := vals1 rv
  obtain rfl : u = Value.ref b := r1
  obtain ⟨z1, s1, ws, k1, d1⟩ := dk_of I.hok ha
  obtain ⟨z2, s2, rs, k2, d2⟩ := dk_of I.hok hb
  refine call_meetsIn PySem.F.slot_dict_update d1.typeIs PySem.F.entry_dict_update (PySem.F.args_dict_update_2 _ _) (meets_dict_update (mixKind X.prog X.w) a b ne s2) ⟨ws, rs, d1, d2, ?_, fun h' dd' _ hs => ?_⟩
  · rw [← k1.length, ← k2.length, sizeLine_eq]; omega
  have he : ∃ q, h'.get? a = some q := let ⟨q, _, _, hq, _⟩ := dd'; ⟨q, hq⟩
  have hz : (mergeK kvs more).length ≤ sizeLine := by
    have h1 := length_mergeK more kvs
    rw [sizeLine_eq]; omega
  exact ⟨.non, _, d_write I (by rw [ha]; exact True.intro) hs he (dk_new hz s1 (k2.merge k1) dd'), rfl, q⟩
def spCopy (K : PySem.W.Frag) : Sp := fun vs H Q _ => ∃ (m : Addr) (c : Cnt) (s : Sta), vs = [.ref m] ∧ ModAt K H m c s ∧ ∀ f c' H', But [] H H' → (∀ y ∈ mineM f c', H y = none) → ModAt K H' f c' s → Q (.ref f) H'
/-- the copy under way: which of its tables are new -/
structure CopyAt (K : PySem.W.Frag) (H H' : Hp) (f : Addr) (c c' : Cnt) (ws wf : V) (s : Sta) (i : Nat) : Prop where
  at_ : H' f = some (.dK (mkv (.ref c'.o) (.ref c'.mu) (.ref c'.sp) (.ref c'.bo) ws wf))
  o : H c'.o = none ∧ H' c'.o = some (.lst (s.order.map .int))
  mu : 1 ≤ i → H c'.mu = none ∧ IsDk K H' c'.mu brD s.music
  sp : 2 ≤ i → H c'.sp = none ∧ IsDk K H' c'.sp spanD s.spans ∧ c'.mu ≠ c'.sp
  bo : 3 ≤ i → H c'.bo = none ∧ IsDk K H' c'.bo PyData.str s.bound ∧ c'.mu ≠ c'.bo ∧ c'.sp ≠ c'.bo
theorem CopyAt.new {K : PySem.W.Frag} {H H' H2 : Hp} {f : Addr} {c c' : Cnt} {ws wf : V} {s : Sta} {i : Nat} (h : CopyAt K H H' f c c' ws wf s i) (b : But [] H' H2) : CopyAt K H H2 f c c' ws wf s i :=
  ⟨b.keep _ _ h.at_ (by simp), ⟨h.o.1, b.keep _ _ h.o.2 (by simp)⟩, fun q => ⟨(h.mu q).1, (h.mu q).2.but b tup_br (by simp)⟩, fun q => ⟨(h.sp q).1, (h.sp q).2.1.but b tup_span (by simp), (h.sp q).2.2⟩, fun q => ⟨(h.bo q).1, (h.bo q).2.1.but b tup_str (by simp), (h.bo q).2.2⟩⟩
abbrev n_law_copy : List Str := ["_law_m", "_law_found", "_law_key"]
theorem sc_law_copy : FnScope n_law_copy ["_law_m"] d_law_copy.scope := C8.fnScope_by (by decide +kernel)
theorem cal_copy {P : Program} {w : World} {K : PySem.W.Frag} {mg : Str → Option Value} {base : Heap} (C : Cn w K mg)  : Cal P w K mg base CX0 1 "_law_copy" (spCopy K) := by
  refine C.cal 55 55 d_law_copy sc_law_copy (fun _ _ _ _ _ _ us hl => match us, hl with | [_], _ => rfl) (fun vs H Q E h => ?_) (fun f cdv A outer s H vs Q E hr h => ?_)
  · obtain ⟨m, c, s, rfl, _⟩ := h
    rfl
  have nd := sc_law_copy.nd
  refine ⟨_, PSs.nox (pss_cons (ps_set (i := 1) nd rfl (by first | exact Or.inl rfl | exact Or.inr rfl) (pe_callTy call_dictD (by rfl) (C.free 70) (by decide +kernel) (pa_cons (pv 0) pa_nil))) (pss_cons (ps_dput (hu_of hr) (pv 1) pe_str (pe_callTy call_list_of (by rfl) (C.free 69) (by decide +kernel) (pa_cons (pe_dget (hu_of hr) (pv 0) pe_str (fun _ _ => rfl)) pa_nil)) rfl) (pss_cons (ps_for PassesOwn.never rfl (pi_tup (pe_tup (pa_cons pe_str (pa_cons pe_str (pa_cons pe_str pa_nil))))) (pg_name (i := 2) nd rfl (by first | exact Or.inl rfl | exact Or.inr rfl)) (pss_one (ps_dput (hu_of hr) (pv 1) (pv 2) (pe_callTy call_dictD (by rfl) (C.free 70) (by decide +kernel) (pa_cons (pe_dget (hu_of hr) (pv 0) (pv 2) (fun _ _ => rfl)) pa_nil)) rfl))) (pss_one (ps_ret (pv 1)))))), ?_⟩
  obtain ⟨m, c, s, rfl, hs, k⟩ := h
  obtain ⟨ws, wf, hm, hw1, hw2⟩ := id hs.at_
  refine ⟨_, rfl, m, _, rfl, .inl hm, fun f nf => ?_⟩
  have b1 : But [] H (upd H f (.dK (mkv (.ref c.o) (.ref c.mu) (.ref c.sp) (.ref c.bo) ws wf))) := But.refl.new nf
  have hf1 : (upd H f (.dK (mkv (.ref c.o) (.ref c.mu) (.ref c.sp) (.ref c.bo) ws wf))) f = some (.dK (mkv (.ref c.o) (.ref c.mu) (.ref c.sp) (.ref c.bo) ws wf)) := upd_same
  generalize upd H f (.dK (mkv (.ref c.o) (.ref c.mu) (.ref c.sp) (.ref c.bo) ws wf)) = H1 at b1 hf1
  have hs1 := hs.new b1
  have hm1 := b1.keep _ _ hm (by simp)
  refine ⟨_, rfl, m, _, rfl, dg_order hm1, c.o, _, rfl, .inl (SqL.of hs1.cont.o), fun o no => ?_⟩
  have b2 := b1.new (o := .lst (s.order.map .int)) no
  have hf2 := (But.refl.new (H := H1) (o := .lst (s.order.map .int)) no).keep _ _ hf1 (by simp)
  have ho2 : (upd H1 o (.lst (s.order.map .int))) o = some (.lst (s.order.map .int)) := upd_same
  have yo := b1.dom _ no
  have nof : o ≠ f := fun z => by rw [z, hf1] at no; cases no
  generalize upd H1 o (.lst (s.order.map .int)) = H2 at b2 hf2 ho2
  refine ⟨_, rfl, f, _, rfl, dp_order hf2, ?_⟩
  have b3 := b2.young (o := .dK (mkv (.ref o) (.ref c.mu) (.ref c.sp) (.ref c.bo) ws wf)) nf
  have hf3 : (upd H2 f (.dK (mkv (.ref o) (.ref c.mu) (.ref c.sp) (.ref c.bo) ws wf))) f = some (.dK (mkv (.ref o) (.ref c.mu) (.ref c.sp) (.ref c.bo) ws wf)) := upd_same
  have ho3 : (upd H2 f (.dK (mkv (.ref o) (.ref c.mu) (.ref c.sp) (.ref c.bo) ws wf))) o = some (.lst (s.order.map .int)) := (upd_ne nof).trans ho2
  generalize upd H2 f (.dK (mkv (.ref o) (.ref c.mu) (.ref c.sp) (.ref c.bo) ws wf)) = H3 at b3 hf3 ho3
  have C3 : CopyAt K H H3 f c ⟨o, c.mu, c.sp, c.bo⟩ ws wf s 0 := ⟨hf3, ⟨yo, ho3⟩, fun z => absurd z (by decide), fun z => absurd z (by decide), fun z => absurd z (by decide)⟩
  refine ⟨by show 3 ≤ sizeLine; decide, fun t nt => ⟨t, rfl, ⟨_, SqT.of upd_same⟩, ?_⟩⟩
  have bt : But [] H3 (upd H3 t (.tup [.str "music", .str "spans", .str "bound"])) := But.refl.new nt
  have ht : (upd H3 t (.tup [.str "music", .str "spans", .str "bound"])) t = some (.tup [.str "music", .str "spans", .str "bound"]) := upd_same
  have C4 := C3.new bt
  have b4 := b3.trans bt
  generalize upd H3 t (.tup [.str "music", .str "spans", .str "bound"]) = H4 at bt ht C4 b4
  have key : ∀ {i : Nat} {H' : Hp} {c' : Cnt}, But [] H H' → CopyAt K H H' f c c' ws wf s i → (2 > i → c'.sp = c.sp) → (3 > i → c'.bo = c.bo) → True := fun _ _ _ _ => trivial
  refine for_tup (K := K) (a := t) (xs := [.str "music", .str "spans", .str "bound"]) (D := { nx := _, rt := Q }) (fun i σ' H' => ∃ x2 c', σ' = [some (.ref m), some (.ref f), x2] ∧ But [] H H' ∧ H' t = some (.tup [.str "music", .str "spans", .str "bound"]) ∧ CopyAt K H H' f c c' ws wf s i) ⟨none, _, rfl, b4, ht, C4⟩ ?_ ?_ ?_
  · rintro i σ' H' _ ⟨x2, c', rfl, bb, ht', _⟩
    exact SqT.of ht'
  · rintro i x σ' H' hx ⟨x2, c', rfl, bb, ht', Cc⟩
    have hs' := hs.new bb
    have hm' := bb.keep _ _ hm (by simp)
    obtain ⟨km, km1, km2⟩ := id hs'.cont.mu
    obtain ⟨kp, kp1, kp2⟩ := id hs'.cont.sp
    obtain ⟨kb, kb1, kb2⟩ := id hs'.cont.bo
    have ntf : t ≠ f := fun z => by have := Cc.at_; rw [← z, ht'] at this; cases this
    match i, hx with
    | 0, hx =>
      cases hx
      refine ⟨_, rfl, _, rfl, m, _, rfl, dg_music hm', c.mu, km, rfl, .inl km1, fun l nl => ?_⟩
      have bl : But [] H' (upd H' l (.dK km)) := But.refl.new nl
      have hl : (upd H' l (.dK km)) l = some (.dK km) := upd_same
      have yl := bb.dom _ nl
      have Cl := Cc.new bl
      have kvl := kv_but bl tup_br km2
      have htl := bl.keep _ _ ht' (by simp)
      have bbl := bb.trans bl
      generalize upd H' l (.dK km) = H5 at bl hl Cl kvl htl bbl
      have nlf : l ≠ f := fun z => by have := Cc.at_; rw [← z, nl] at this; cases this
      have nlo : l ≠ c'.o := fun z => by have := Cc.o.2; rw [← z, nl] at this; cases this
      refine ⟨_, rfl, _, rfl, f, _, rfl, dp_music Cl.at_, ?_⟩
      have bf : But [f] H5 (upd H5 f (.dK (mkv (.ref c'.o) (.ref l) (.ref c'.sp) (.ref c'.bo) ws wf))) := But.one (nt_dk Cl.at_)
      refine ⟨_, { c' with mu := l }, rfl, bbl.young nf, bf.keep _ _ htl (by simpa using ntf), upd_same, ⟨Cl.o.1, bf.keep _ _ Cl.o.2 ?_⟩, fun _ => ⟨yl, km, bf.keep _ _ hl (by simpa using nlf), kv_but bf tup_br kvl⟩, fun z => absurd z (by decide), fun z => absurd z (by decide)⟩
      intro z
      have := Cl.at_
      rw [← show c'.o = f by simpa using z, Cl.o.2] at this; cases this
    | 1, hx =>
      cases hx
      refine ⟨_, rfl, _, rfl, m, _, rfl, dg_spans hm', c.sp, kp, rfl, .inl kp1, fun l nl => ?_⟩
      have bl : But [] H' (upd H' l (.dK kp)) := But.refl.new nl
      have hl : (upd H' l (.dK kp)) l = some (.dK kp) := upd_same
      have yl := bb.dom _ nl
      have Cl := Cc.new bl
      have kvl := kv_but bl tup_span kp2
      have htl := bl.keep _ _ ht' (by simp)
      have bbl := bb.trans bl
      have nlm : c'.mu ≠ l := fun z => by obtain ⟨_, q, _⟩ := (Cc.mu (by decide)).2; rw [z, nl] at q; cases q
      generalize upd H' l (.dK kp) = H5 at bl hl Cl kvl htl bbl
      have nlf : l ≠ f := fun z => by have := Cc.at_; rw [← z, nl] at this; cases this
      refine ⟨_, rfl, _, rfl, f, _, rfl, dp_spans Cl.at_, ?_⟩
      have bf : But [f] H5 (upd H5 f (.dK (mkv (.ref c'.o) (.ref c'.mu) (.ref l) (.ref c'.bo) ws wf))) := But.one (nt_dk Cl.at_)
      obtain ⟨ym, ms, ms1, ms2⟩ := Cl.mu (by decide)
      have nfo : c'.o ∉ [f] := fun z => by have := Cl.at_; rw [← show c'.o = f by simpa using z, Cl.o.2] at this; cases this
      have nfm : c'.mu ∉ [f] := fun z => by
        have z : c'.mu = f := by simpa using z
        have h1 := (Cc.mu (by decide)).1
        have h2 := Cl.at_
        rw [← z, ms1] at h2
        have h3 := congrArg (fun o => match o with | some (HO.dK ks) => ks.length | _ => 0) h2
        have h4 : ms.length = 6 := h3
        have h5 : ms.map (·.1) = (mkv (.ref c'.o) (.ref c'.mu) (.ref c'.sp) (.ref c'.bo) ws wf).map (·.1) := by
          cases h2; rfl
        have h6 := kv_keys ms2
        rw [h5] at h6
        have h7 : (Sum.inr "order" : Key) ∈ (s.music.map (·.1)).map (Sum.inl : Int → Key) := by rw [← h6]; simp [mkv]
        obtain ⟨_, _, h8⟩ := List.mem_map.mp h7
        cases h8
      refine ⟨_, { c' with sp := l }, rfl, bbl.young nf, bf.keep _ _ htl (by simpa using ntf), upd_same, ⟨Cl.o.1, bf.keep _ _ Cl.o.2 nfo⟩, fun _ => ⟨ym, ms, bf.keep _ _ ms1 nfm, kv_but bf tup_br ms2⟩, fun _ => ⟨yl, ⟨kp, bf.keep _ _ hl (by simpa using nlf), kv_but bf tup_span kvl⟩, nlm⟩, fun z => absurd z (by decide)⟩
    | 2, hx =>
      cases hx
      refine ⟨_, rfl, _, rfl, m, _, rfl, dg_bound hm', c.bo, kb, rfl, .inl kb1, fun l nl => ?_⟩
      have bl : But [] H' (upd H' l (.dK kb)) := But.refl.new nl
      have hl : (upd H' l (.dK kb)) l = some (.dK kb) := upd_same
      have yl := bb.dom _ nl
      have Cl := Cc.new bl
      have kvl := kv_but bl tup_str kb2
      have htl := bl.keep _ _ ht' (by simp)
      have bbl := bb.trans bl
      have nlm : c'.mu ≠ l := fun z => by obtain ⟨_, q, _⟩ := (Cc.mu (by decide)).2; rw [z, nl] at q; cases q
      have nls : c'.sp ≠ l := fun z => by obtain ⟨_, q, _⟩ := (Cc.sp (by decide)).2.1; rw [z, nl] at q; cases q
      generalize upd H' l (.dK kb) = H5 at bl hl Cl kvl htl bbl
      have nlf : l ≠ f := fun z => by have := Cc.at_; rw [← z, nl] at this; cases this
      refine ⟨_, rfl, _, rfl, f, _, rfl, dp_bound Cl.at_, ?_⟩
      have bf : But [f] H5 (upd H5 f (.dK (mkv (.ref c'.o) (.ref c'.mu) (.ref c'.sp) (.ref l) ws wf))) := But.one (nt_dk Cl.at_)
      obtain ⟨ym, ms, ms1, ms2⟩ := Cl.mu (by decide)
      obtain ⟨ysp, ⟨ss, ss1, ss2⟩, nms⟩ := Cl.sp (by decide)
      have nfo : c'.o ∉ [f] := fun z => by have := Cl.at_; rw [← show c'.o = f by simpa using z, Cl.o.2] at this; cases this
      have nfk : ∀ {α : Type} {g : α → PyData} {y : Addr} {ks : List (Key × V)} {ll : List (Int × α)}, H5 y = some (.dK ks) → KvD K H5 g ks ll → y ∉ [f] := fun {α g y ks ll} e1 e2 z => by
        have z : y = f := by simpa using z
        have h2 := Cl.at_
        rw [← z, e1] at h2
        have h5 : ks.map (·.1) = (mkv (.ref c'.o) (.ref c'.mu) (.ref c'.sp) (.ref c'.bo) ws wf).map (·.1) := by
          cases h2; rfl
        have h6 := kv_keys e2
        rw [h5] at h6
        have h7 : (Sum.inr "order" : Key) ∈ (ll.map (·.1)).map (Sum.inl : Int → Key) := by rw [← h6]; simp [mkv]
        obtain ⟨_, _, h8⟩ := List.mem_map.mp h7
        cases h8
      exact ⟨_, { c' with bo := l }, rfl, bbl.young nf, bf.keep _ _ htl (by simpa using ntf), upd_same, ⟨Cl.o.1, bf.keep _ _ Cl.o.2 nfo⟩, fun _ => ⟨ym, ms, bf.keep _ _ ms1 (nfk ms1 ms2), kv_but bf tup_br ms2⟩, fun _ => ⟨ysp, ⟨ss, bf.keep _ _ ss1 (nfk ss1 ss2), kv_but bf tup_span ss2⟩, nms⟩, fun _ => ⟨yl, ⟨kb, bf.keep _ _ hl (by simpa using nlf), kv_but bf tup_str kvl⟩, nlm, nls⟩⟩
    | i + 3, hx => simp at hx
  · rintro σ' H' ⟨x2, c', rfl, bb, ht', Cc⟩
    obtain ⟨ym, im⟩ := Cc.mu (show 1 ≤ 3 by decide)
    obtain ⟨ysp, isp, n1⟩ := Cc.sp (show 2 ≤ 3 by decide)
    obtain ⟨yb, ib, n2, n3⟩ := Cc.bo (show 3 ≤ 3 by decide)
    have hw1' := dp_but bb _ _ (tup_sheet _) hw1
    have hw2' := dp_but bb _ _ (tup_tip _) hw2
    have nfk : ∀ {α : Type} {g : α → PyData} {y : Addr} {ll : List (Int × α)}, IsDk K H' y g ll → f ≠ y := fun {α g y ll} e z => by
      obtain ⟨ks, e1, e2⟩ := e
      have h2 := Cc.at_
      rw [z, e1] at h2
      have h5 : ks.map (·.1) = (mkv (.ref c'.o) (.ref c'.mu) (.ref c'.sp) (.ref c'.bo) ws wf).map (·.1) := by
        cases h2; rfl
      have h6 := kv_keys e2
      rw [h5] at h6
      have h7 : (Sum.inr "order" : Key) ∈ (ll.map (·.1)).map (Sum.inl : Int → Key) := by rw [← h6]; simp [mkv]
      obtain ⟨_, _, h8⟩ := List.mem_map.mp h7
      cases h8
    refine ⟨_, rfl, k f c' H' bb (fun y hy => ?_) ⟨⟨ws, wf, Cc.at_, hw1', hw2'⟩, ⟨Cc.o.2, im, isp, ib, n1, n2, n3⟩, nfk im, nfk isp, nfk ib⟩⟩
    simp only [mineM, List.mem_cons, List.not_mem_nil, or_false] at hy
    rcases hy with rfl | rfl | rfl | rfl | rfl
    · exact nf
    · exact Cc.o.1
    · exact ym
    · exact ysp
    · exact yb
end Bu
set_option Elab.async false
set_option linter.all false
set_option maxRecDepth 100000
set_option maxHeartbeats 4000000
/-! The law's own model: a deed applied. -/
namespace Bu
open PySem PySem.Spec PyProof.Rows L2
/-- the refusals that deeds meet -/
inductive ErOk : Er → Prop
  | plain (e : Er) (h : e ∈ [eDeed, ePlace, eStaff, eSpan, eThick, eWord, eSame, eFull, ePaper]) : ErOk e
  | bar (n : Int) (h : Small n) : ErOk (eBar n)
  | noBar (n : Int) (h : Small n) : ErOk (eNoBar n)
  | noMoment (n : Int) (h : Small n) : ErOk (eNoMoment n)
  | noMark (n : Int) (h : Small n) : ErOk (eNoMark n)
theorem faultE_ok {b : Br} {e : Er} (h : faultE b = some e) : ErOk e := by
  unfold faultE at h
  cases hf : fault b with
  | none => rw [hf] at h; cases h
  | some i =>
    rw [hf] at h
    cases h
    obtain ⟨n, rfl, hn⟩ := fault_at hf
    exact .bar _ (by unfold Small; omega)
theorem bad_ok {s : Sta} {d : De} {e : Er} (pl : Plain d) (h : bad s d = some e) : ErOk e := by
  cases d with
  | bar i b =>
    rw [bad_bar] at h
    split at h
    · cases h; exact .plain _ (by simp)
    split at h
    · rename_i hf; cases h; exact faultE_ok hf
    · split at h
      · cases h; exact .plain _ (by simp)
      · cases h
  | change n b =>
    rw [bad_change] at h
    split at h
    · cases h; exact .noBar _ pl.1
    · exact faultE_ok h
  | cut n =>
    rw [bad_cut] at h
    split at h
    · cases h; exact .noBar _ pl
    · cases h
  | move n i =>
    rw [bad_move] at h
    split at h
    · cases h; exact .noBar _ pl
    split at h
    · cases h; exact .plain _ (by simp)
    · cases h
  | mark sp =>
    obtain ⟨on, b, e', th⟩ := sp
    rw [bad_mark] at h
    split at h
    · cases h; exact .plain _ (by simp)
    split at h
    · cases h; exact .noBar _ pl.1
    split at h
    · cases h; exact .noBar _ pl.2.2.1
    split at h
    · cases h; exact .noMoment _ pl.2.1
    split at h
    · cases h; exact .noMoment _ pl.2.2.2
    split at h
    · cases h; exact .plain _ (by simp)
    split at h
    · cases h; exact .plain _ (by simp)
    split at h
    · cases h; exact .plain _ (by simp)
    · cases h
  | wipe n =>
    rw [bad_wipe] at h
    split at h
    · cases h; exact .noMark _ pl
    · cases h
  | fin n x =>
    rw [bad_fin] at h
    split at h
    · cases h; exact .noBar _ pl.1
    split at h
    · cases h; exact .plain _ (by simp)
    split at h
    · cases h; exact .plain _ (by simp)
    · cases h
  | paper sh =>
    rw [bad_paper] at h
    split at h
    · cases h
    · cases h; exact .plain _ (by simp)
  | odd l => cases h
  | many l => cases h
theorem one_ok {fl : Bool} {s : Sta} {d : De} {e : Er} (pl : Plain d) (h : one fl s d = .error e) : ErOk e := by
  unfold one at h
  cases hb : bad s d with
  | some x => rw [hb] at h; cases h; exact bad_ok pl hb
  | none => rw [hb] at h; cases h
theorem foldE_ok : ∀ {fl : Bool} {l : List De} {s : Sta} {e : Er}, (∀ d ∈ l, Plain d) → foldD fl s l = .error e → ErOk e
  | fl, [], s, e, _, h => by cases h
  | fl, d :: r, s, e, pl, h => by
    rw [fold_cons] at h
    cases ho : one fl s d with
    | error x => rw [ho] at h; cases h; exact one_ok (pl d (by simp)) ho
    | ok y =>
      obtain ⟨s1, t⟩ := y
      rw [ho] at h
      dsimp only at h
      cases hf : foldD fl s1 r with
      | error x => rw [hf] at h; cases h; exact foldE_ok (fun d hd => pl d (by simp [hd])) hf
      | ok y => rw [hf] at h; cases h
theorem many_plain {l : List De} (h : Deed (.many l)) (hb : ¬ (l = [] ∨ (l.any fun d => formless d || isMany d) = true)) : ∀ d ∈ l, Plain d ∧ formless d = false := fun d hd => by
  have hn : ¬ (formless d || isMany d) = true := fun z => hb (.inr (List.any_eq_true.mpr ⟨d, hd, z⟩))
  rw [Bool.or_eq_true] at hn
  have hf : formless d = false := by cases z : formless d with
    | false => rfl
    | true => exact absurd (.inl z) hn
  refine ⟨?_, hf⟩
  rcases h.2 d hd with h | rfl | rfl
  · exact h
  · exact absurd (.inr rfl) hn
  · exact absurd (.inr rfl) hn
theorem apply_ok {fl : Bool} {s : Sta} {d : De} {e : Er} (hd : Deed d) (h : applyD fl s d = .error e) : ErOk e := by
  cases d with
  | odd l => cases h; exact .plain _ (by simp)
  | many l =>
    rw [apply_many] at h
    split at h
    · cases h; exact .plain _ (by simp)
    · rename_i hb
      split at h
      · rename_i hf
        cases h
        exact foldE_ok (fun d hd' => (many_plain hd hb d hd').1) hf
      · cases h
  | _ =>
    rw [apply_plain rfl rfl] at h
    unfold toldX at h
    split at h
    · rename_i ho; cases h; exact one_ok (by exact hd) ho
    · cases h
theorem ErOk.ne {e : Er} (h : ErOk e) : e.text ≠ "" := by
  have key : ∀ (a : Str), 0 < a.length → a ≠ "" := fun a h z => by rw [z] at h; exact absurd h (by decide)
  cases h with
  | plain e h =>
    simp only [List.mem_cons, List.not_mem_nil, or_false] at h
    rcases h with rfl | rfl | rfl | rfl | rfl | rfl | rfl | rfl | rfl <;> decide
  | bar n h =>
    refine key _ ?_
    show 0 < (("bad bar" : Str) ++ (" " : Str) ++ (toString n : Str)).length
    rw [str_len, str_len, show ("bad bar" : Str).length = 7 by decide]; omega
  | noBar n h =>
    refine key _ ?_
    show 0 < (("no bar" : Str) ++ (" " : Str) ++ (toString n : Str)).length
    rw [str_len, str_len, show ("no bar" : Str).length = 6 by decide]; omega
  | noMoment n h =>
    refine key _ ?_
    show 0 < (("no moment" : Str) ++ (" " : Str) ++ (toString n : Str)).length
    rw [str_len, str_len, show ("no moment" : Str).length = 9 by decide]; omega
  | noMark n h =>
    refine key _ ?_
    show 0 < (("no mark" : Str) ++ (" " : Str) ++ (toString n : Str)).length
    rw [str_len, str_len, show ("no mark" : Str).length = 7 by decide]; omega
/-! ### what is told of a deed: the thing and the text -/
abbrev Res := Except Er (Sta × PyData)
def resT : Res → PyData × Str
  | .error e => (.none, e.text)
  | .ok (_, t) => (t, "")
def resS (s : Sta) : Res → Sta
  | .error _ => s
  | .ok (s', _) => s'
def ResAt (K : PySem.W.Frag) (H H' : Hp) (u : V) (r : PyData × Str) : Prop := ∃ (q : Addr) (tv : V), u = .ref q ∧ SqT K H' q [tv, .str r.2] ∧ Told K H H' tv r.1
theorem ResAt.dp {K : PySem.W.Frag} {H H' : Hp} {u : V} {r : PyData × Str} (h : ResAt K H H' u r) : Dp K H' u (.tuple [r.1, .str r.2]) := by
  obtain ⟨q, tv, rfl, h1, h2⟩ := h
  exact .tup h1 (.cons h2.dp (.cons (.str _) .nil))
theorem ResAt.but {K : PySem.W.Frag} {H H' H2 : Hp} {u : V} {r : PyData × Str} {M : List Addr} (h : ResAt K H H' u r) (b : But M H' H2) (n : ∀ x ∈ M, H x ≠ none) : ResAt K H H2 u r := by
  obtain ⟨q, tv, rfl, h1, h2⟩ := h
  exact ⟨q, tv, rfl, b.sqT h1, h2.but b n⟩
theorem ResAt.old {K : PySem.W.Frag} {H0 H H' : Hp} {u : V} {r : PyData × Str} {M : List Addr} (h : ResAt K H H' u r) (b : But M H0 H) : ResAt K H0 H' u r := by
  obtain ⟨q, tv, rfl, h1, h2⟩ := h
  exact ⟨q, tv, rfl, h1, h2.old b⟩
theorem Told.scalar {K : PySem.W.Frag} {H H' : Hp} (n : Option Int) : Told K H H' (tellV n) (tellD n) := .inl ⟨n, rfl, rfl⟩
/-- a promise to apply a deed to a model -/
def spApply (K : PySem.W.Frag) (is : De → Prop) (j : Int) : Sp := fun vs H Q _ => ∃ (m : Addr) (c : Cnt) (s : Sta) (N : Int) (v : V) (d : De), is d ∧ Deed d ∧ vs = [.ref m, v] ∧ ModAt K H m c s ∧ s.Good N ∧ (0 ≤ j ∧ N + j < 1000000000000) ∧ Dp K H v d.toD ∧
  ∀ c' u H', But (mineM m c) H H' → (∀ y ∈ mineM m c', y ∈ mineM m c ∨ H y = none) → ModAt K H' m c' (resS s (applyD true s d)) → ResAt K H H' u (resT (applyD true s d)) → Q u H'
theorem res_bad {s : Sta} {d : De} (hd : Plain d) (h : badA s d ≠ "") : ∃ e, applyD true s d = .error e ∧ badA s d = e.text := by
  cases hf : formless d with
  | true =>
    have hb : badForm d = true := by cases d <;> first | rfl | cases hf
    exact ⟨eDeed, form_bad hb _ _, badA_bad hb⟩
  | false =>
    have hb : badForm d = false := by cases d <;> first | rfl | exact hd.elim | (cases hf; done)
    have hm : isMany d = false := by cases d <;> first | rfl | exact hd.elim
    rw [badA_ok hb] at h ⊢
    cases hbb : bad s d with
    | none => exact absurd (bt_none hbb) h
    | some e =>
      refine ⟨e, ?_, bt_some hbb⟩
      rw [apply_plain hf hm]
      unfold one; rw [hbb]; rfl
theorem res_fine {s : Sta} {d : De} (hd : Plain d) (h : badA s d = "") : formless d = false ∧ bad s d = none ∧ applyD true s d = .ok ((put true s d).1, tellD (put true s d).2) := by
  cases hf : formless d with
  | true =>
    have hb : badForm d = true := by cases d <;> first | rfl | cases hf
    rw [badA_bad hb] at h
    exact absurd h (by decide)
  | false =>
    have hb : badForm d = false := by cases d <;> first | rfl | exact hd.elim | (cases hf; done)
    have hm : isMany d = false := by cases d <;> first | rfl | exact hd.elim
    rw [badA_ok hb] at h
    cases hbb : bad s d with
    | some e => rw [bt_some hbb] at h; exact absurd h (bad_ok hd hbb).ne
    | none =>
      refine ⟨rfl, rfl, ?_⟩
      rw [apply_plain hf hm]
      unfold one; rw [hbb]; rfl
abbrev n_law_apply : List Str := ["_law_m", "_law_deed_here", "_law_bad_here", "_law_later", "_law_told", "_law_part_of", "_law_found"]
theorem sc_law_apply : FnScope n_law_apply ["_law_m", "_law_deed_here"] d_law_apply.scope := C8.fnScope_by (by decide +kernel)
theorem cal_applyP {P : Program} {w : World} {K : PySem.W.Frag} {mg : Str → Option Value} {base : Heap} (C : Cn w K mg)  : Cal P w K mg base CX0 4 "_law_apply" (spApply K Plain 0) := by
  refine C.cal 56 56 d_law_apply sc_law_apply (fun _ _ _ _ _ _ us hl => match us, hl with | [_, _], _ => rfl) (fun vs H Q E h => ?_) (fun f cdv A outer s H vs Q E hr h => ?_)
  · obtain ⟨m, c, s, N, v, d, _, _, rfl, _⟩ := h
    rfl
  have nd := sc_law_apply.nd
  refine ⟨_, PSs.nox (pss_cons (ps_set (i := 2) nd rfl (by first | exact Or.inl rfl | exact Or.inr rfl) (pe_c (cal_bad C) hr (pa_cons (pv 0) (pa_cons (pv 1) pa_nil)))) (pss_cons (ps_if (pt_cmpR op_ne (pv 2) pe_str (nomark _)) (pss_one (ps_ret (pe_tup (pa_cons pe_non (pa_cons (pv 2) pa_nil))))) pss_nil) (pss_cons (ps_if (pt_cmpR op_ne (pe_ix ix_tup (pv 1) pe_int (fun _ _ => rfl)) pe_str (nomark _)) (pss_one (ps_ret (pe_tup (pa_cons (pe_c (cal_put C) hr (pa_cons (pv 0) (pa_cons (pv 1) pa_nil))) (pa_cons pe_str pa_nil))))) pss_nil) (pss_cons ps_never (pss_cons (ps_set (i := 4) nd rfl (by first | exact Or.inl rfl | exact Or.inr rfl) (pe_lst pa_nil)) (pss_cons ps_never (pss_cons ps_never (pss_one (ps_ret (pe_tup (pa_cons (pv 4) (pa_cons pe_str pa_nil)))))))))))), ?_⟩
  obtain ⟨m, c, s, N, v, d, pl, hd, rfl, hs, hg, hN, dv, k⟩ := h
  have b0 := mo_nil hs
  refine ⟨_, rfl, _, rfl, m, c, s, N, v, d, trivial, hd, rfl, hs, hg, by omega, dv, fun u H1 b1 du => ?_⟩
  cases dp_str du
  have hs1 := hs.new b1
  refine ⟨_, rfl, rfl, _, rfl, ite2 (fun e => ?_) (fun e => ?_)⟩
  · have hne : badA s d ≠ "" := fun z => by rw [z] at e; simp at e
    obtain ⟨er, e1, e2⟩ := res_bad pl hne
    refine ⟨_, rfl, by show 2 ≤ sizeLine; decide, fun t nt => ?_⟩
    refine k c _ _ (b0.step (b1.new nt)) (fun y hy => .inl hy) ?_ ?_
    · rw [e1]; exact hs1.new (But.refl.new nt)
    · rw [e1]
      refine ⟨t, .non, rfl, ?_, .scalar none⟩
      rw [← show badA s d = (resT (.error er)).2 from e2]
      exact SqT.of upd_same
  · have he : badA s d = "" := by
      have : decide (V.str (badA s d) = V.str "") = true := by simpa using e
      exact V.str.inj (of_decide_eq_true this)
    obtain ⟨hf, hb, ha⟩ := res_fine pl he
    obtain ⟨x, rest, eds, hx⟩ := de_word hf
    have dv1 := dp_but b1 _ _ (tup_de hd) dv
    have dv2 := dv1
    rw [eds] at dv2
    obtain ⟨p, vs, rfl, hp, da⟩ := dp_tup dv2
    obtain ⟨v1, ws, rfl, d1, dw⟩ := dpa_cons da
    cases dp_str d1
    have hnm : ¬ x = "many" := fun z => by
      have := hx.mp z
      cases d <;> first | exact pl.elim | cases this
    refine ⟨_, rfl, p, _, _, _, rfl, rfl, hp, atI_nat (j := 0) rfl, rfl, _, rfl, ite2 (fun _ => ?_) (fun z => absurd (by rw [decide_eq_false (fun q => hnm (V.str.inj q))]; rfl) z)⟩
    refine ⟨_, rfl, _, rfl, m, c, s, N, .ref p, d, pl, hf, hb, rfl, hs1, hg, by omega, dv1, fun H2 b2 hs2 => ⟨by show 2 ≤ sizeLine; decide, fun t nt => ?_⟩⟩
    refine k c _ _ (((b0.step b1).thn b2 fun y hy => .inl hy).step (But.refl.new nt)) (fun y hy => .inl hy) ?_ ?_
    · rw [ha]; exact hs2.new (But.refl.new nt)
    · rw [ha]
      exact ⟨t, _, rfl, SqT.of upd_same, .scalar _⟩
end Bu
set_option Elab.async false
set_option linter.all false
set_option maxRecDepth 100000
set_option maxHeartbeats 4000000
/-! The law's own model: any deed applied. -/
namespace Bu
open PySem PySem.Spec PyProof.Rows L2
theorem plain_or {d : De} (h : Deed d) : Plain d ∨ ∃ l, d = .many l := by
  cases d with
  | many l => exact .inr ⟨l, rfl⟩
  | _ => exact .inl h
theorem merge_mkv (a b c d e f a' b' c' d' e' f' : V) : mergeK (mkv a b c d e f) (mkv a' b' c' d' e' f') = mkv a' b' c' d' e' f' := by rfl
theorem cal_apply {P : Program} {w : World} {K : PySem.W.Frag} {mg : Str → Option Value} {base : Heap} (C : Cn w K mg)  : Cal P w K mg base CX0 5 "_law_apply" (spApply K isDe 100) := by
  refine C.cal 56 56 d_law_apply sc_law_apply (fun _ _ _ _ _ _ us hl => match us, hl with | [_, _], _ => rfl) (fun vs H Q E h => ?_) (fun f cdv A outer s H vs Q E hr h => ?_)
  · obtain ⟨m, c, s, N, v, d, _, _, rfl, _⟩ := h
    rfl
  have nd := sc_law_apply.nd
  refine ⟨_, PSs.nox (pss_cons (ps_set (i := 2) nd rfl (by first | exact Or.inl rfl | exact Or.inr rfl) (pe_c (cal_bad C) hr (pa_cons (pv 0) (pa_cons (pv 1) pa_nil)))) (pss_cons (ps_if (pt_cmpR op_ne (pv 2) pe_str (nomark _)) (pss_one (ps_ret (pe_tup (pa_cons pe_non (pa_cons (pv 2) pa_nil))))) pss_nil) (pss_cons (ps_if (pt_cmpR op_ne (pe_ix ix_tup (pv 1) pe_int (fun _ _ => rfl)) pe_str (nomark _)) (pss_one (ps_ret (pe_tup (pa_cons (pe_c (cal_put C) hr (pa_cons (pv 0) (pa_cons (pv 1) pa_nil))) (pa_cons pe_str pa_nil))))) pss_nil) (pss_cons (ps_set (i := 3) nd rfl (by first | exact Or.inl rfl | exact Or.inr rfl) (pe_c (cal_copy C) hr (pa_cons (pv 0) pa_nil))) (pss_cons (ps_set (i := 4) nd rfl (by first | exact Or.inl rfl | exact Or.inr rfl) (pe_lst pa_nil)) (pss_cons (ps_for PassesOwn.never rfl (pi_tup (pe_ix ix_tup (pv 1) pe_int (fun _ _ => rfl))) (pg_name (i := 5) nd rfl (by first | exact Or.inl rfl | exact Or.inr rfl)) (pss_cons (ps_set (i := 6) nd rfl (by first | exact Or.inl rfl | exact Or.inr rfl) (pe_c (cal_applyP C) hr (pa_cons (pv 3) (pa_cons (pv 5) pa_nil)))) (pss_cons (ps_if (pt_cmpR op_ne (pe_ix ix_tup (pv 6) pe_int (fun _ _ => rfl)) pe_str (nomark _)) (pss_one (ps_ret (pe_tup (pa_cons pe_non (pa_cons (pe_ix ix_tup (pv 6) pe_int (fun _ _ => rfl)) pa_nil))))) pss_nil) (pss_one (ps_expr (pe_bm PySem.F.plainAttrs_list PySem.F.slot_list_append PySem.F.type_list_append mt_append (pv 4) (pa_cons (pe_ix ix_tup (pv 6) pe_int (fun _ _ => rfl)) pa_nil))))))) (pss_cons (ps_expr (pe_bm PySem.F.plainAttrs_dict PySem.F.slot_dict_update PySem.F.type_dict_update mt_update (pv 0) (pa_cons (pv 3) pa_nil))) (pss_one (ps_ret (pe_tup (pa_cons (pv 4) (pa_cons pe_str pa_nil)))))))))))), ?_⟩
  obtain ⟨m, c, s, N, v, d, _, hd, rfl, hs, hg, hN, dv, k⟩ := h
  have b0 := mo_nil hs
  have lv := hs.live
  refine ⟨_, rfl, _, rfl, m, c, s, N, v, d, trivial, hd, rfl, hs, hg, by omega, dv, fun u H1 b1 du => ?_⟩
  cases dp_str du
  have hs1 := hs.new b1
  refine ⟨_, rfl, rfl, _, rfl, ite2 (fun e => ?_) (fun e => ?_)⟩
  · have hne : badA s d ≠ "" := fun z => by rw [z] at e; simp at e
    obtain ⟨er, e1, e2⟩ : ∃ er, applyD true s d = .error er ∧ badA s d = er.text := by
      rcases plain_or hd with pl | ⟨l, rfl⟩
      · exact res_bad pl hne
      · cases hb : badForm (.many l) with
        | true => exact ⟨eDeed, form_bad hb _ _, badA_bad hb⟩
        | false => exact absurd (badA_ok hb) hne
    refine ⟨_, rfl, by show 2 ≤ sizeLine; decide, fun t nt => ?_⟩
    refine k c _ _ (b0.step (b1.new nt)) (fun y hy => .inl hy) ?_ ?_
    · rw [e1]; exact hs1.new (But.refl.new nt)
    · rw [e1]
      refine ⟨t, .non, rfl, ?_, .scalar none⟩
      rw [← show badA s d = (resT (.error er)).2 from e2]
      exact SqT.of upd_same
  have he : badA s d = "" := by
    have : decide (V.str (badA s d) = V.str "") = true := by simpa using e
    exact V.str.inj (of_decide_eq_true this)
  rcases plain_or hd with pl | ⟨l, rfl⟩
  · obtain ⟨hf, hb, ha⟩ := res_fine pl he
    obtain ⟨x, rest, eds, hx⟩ := de_word hf
    have dv1 := dp_but b1 _ _ (tup_de hd) dv
    have dv2 := dv1
    rw [eds] at dv2
    obtain ⟨p, vs, rfl, hp, da⟩ := dp_tup dv2
    obtain ⟨v1, ws, rfl, d1, dw⟩ := dpa_cons da
    cases dp_str d1
    have hnm : ¬ x = "many" := fun z => by
      have := hx.mp z
      cases d <;> first | exact pl.elim | cases this
    refine ⟨_, rfl, p, _, _, _, rfl, rfl, hp, atI_nat (j := 0) rfl, rfl, _, rfl, ite2 (fun _ => ?_) (fun z => absurd (by rw [decide_eq_false (fun q => hnm (V.str.inj q))]; rfl) z)⟩
    refine ⟨_, rfl, _, rfl, m, c, s, N, .ref p, d, pl, hf, hb, rfl, hs1, hg, by omega, dv1, fun H2 b2 hs2 => ⟨by show 2 ≤ sizeLine; decide, fun t nt => ?_⟩⟩
    refine k c _ _ (((b0.step b1).thn b2 fun y hy => .inl hy).step (But.refl.new nt)) (fun y hy => .inl hy) ?_ ?_
    · rw [ha]; exact hs2.new (But.refl.new nt)
    · rw [ha]
      exact ⟨t, _, rfl, SqT.of upd_same, .scalar _⟩
  · have hbf : badForm (.many l) = false := by
      cases hb : badForm (.many l) with
      | false => rfl
      | true => rw [badA_bad hb] at he; exact absurd he (by decide)
    have hbn : ¬ (l = [] ∨ (l.any fun d => formless d || isMany d) = true) := fun z => by
      have hb : (l.isEmpty || l.any fun d => formless d || isMany d) = false := hbf
      rw [Bool.or_eq_false_iff] at hb
      rcases z with rfl | z
      · cases hb.1
      · rw [z] at hb; cases hb.2
    have pls := many_plain hd hbn
    have dv1 := dp_but b1 _ _ (tup_de hd) dv
    obtain ⟨p, vs, rfl, hp, da⟩ := dp_tup dv1
    obtain ⟨v1, vs, rfl, d1, da⟩ := dpa_cons da
    obtain ⟨v2, vs, rfl, d2, da⟩ := dpa_cons da
    cases dpa_nil da
    cases dp_str d1
    obtain ⟨q, us, rfl, hq, du2⟩ := dp_tup d2
    have lu := dpa_length du2
    rw [toDs_eq, List.length_map] at lu
    rw [toDs_eq] at du2
    have hl100 : l.length ≤ 100 := hd.1
    refine ⟨_, rfl, p, _, _, _, rfl, rfl, hp, atI_nat (j := 0) rfl, rfl, _, rfl, iteF ?_⟩
    refine ⟨_, rfl, m, c, s, rfl, hs1, fun f cf H2 b2 yf hf2 => ?_⟩
    refine ⟨by decide, fun D nD => ?_⟩
    have bD : But [] H2 (upd H2 D (.lst [])) := But.refl.new nD
    have hD3 : (upd H2 D (.lst [])) D = some (.lst []) := upd_same
    have hf3 := hf2.new bD
    have yD := b2.dom _ nD
    have b3 : But [] H1 (upd H2 D (.lst [])) := b2.trans bD
    have dfn : ∀ y ∈ mineM f cf, y ≠ D := fun y hy z => (hf2.live y hy).1 (by rw [z]; exact nD)
    generalize upd H2 D (.lst []) = H3 at bD hD3 hf3 b3
    have apM := apply_many (fl := true) (s := s) (l := l)
    rw [if_neg hbn] at apM
    refine ⟨_, rfl, p, _, _, _, rfl, rfl, b3.sqT hp, atI_nat (j := 1) rfl, q, rfl, ⟨us, b3.sqT hq⟩, ?_⟩
    refine for_tup (K := K) (a := q) (xs := us) (D := { nx := _, rt := Q }) (fun i σ' H' => ∃ x5 x6 si ts ci, σ' = [some (.ref m), some (.ref p), some (.str (badA s (.many l))), some (.ref f), some (.ref D), x5, x6] ∧ But [] H1 H' ∧ foldD true s (l.take i) = .ok (si, ts) ∧ ModAt K H' f ci si ∧ si.Good (N + i) ∧ H' D = some (.lst (ts.map tellV)) ∧ ∀ y ∈ mineM f ci, H1 y = none ∧ y ≠ D) ?_ ?_ ?_ ?_
    · exact ⟨none, none, s, [], cf, rfl, b3, rfl, hf3, by simpa using hg, hD3, fun y hy => ⟨yf y hy, dfn y hy⟩⟩
    · rintro i σ' H' _ ⟨x5, x6, si, ts, ci, rfl, bb, _⟩
      exact bb.sqT hq
    · rintro i y σ' H' hy ⟨x5, x6, si, ts, ci, rfl, bb, hfold, hmi, hgi, hDi, yi⟩
      obtain ⟨dd, hdd, dy⟩ := dpa_get du2 hy
      rw [List.getElem?_map] at hdd
      obtain ⟨d, hd', rfl⟩ := Option.map_eq_some_iff.mp hdd
      have dl : d ∈ l := List.mem_of_getElem? hd'
      obtain ⟨pd, fd⟩ := pls d dl
      have et : l.take (i + 1) = l.take i ++ [d] := by rw [List.take_add_one, hd']; rfl
      have hi : i < l.length := (List.getElem?_eq_some_iff.mp hd').1
      have hm : isMany d = false := by cases d <;> first | rfl | exact pd.elim
      refine ⟨_, rfl, _, rfl, f, ci, si, N + i, y, d, pd, pd.deed, rfl, hmi, hgi, by omega, dp_but bb _ _ (tup_plain pd) dy, fun c' u H4 b4 sub4 hm4 res4 => ?_⟩
      have ap := apply_plain (fl := true) (s := si) fd hm
      have bb4 : But [] H1 H4 := bb.thn b4 fun x hx => .inr (yi x hx).1
      have hD4 := b4.keep _ _ hDi fun z => (yi D z).2 rfl
      have lts := fold_len hfold
      rw [List.length_take] at lts
      obtain ⟨qq, tv, rfl, hqq, htold⟩ := res4
      cases ho : one true si d with
      | error er =>
        have ea : applyD true si d = .error er := by rw [ap, ho]; rfl
        rw [ea] at hqq htold
        have ern := (apply_ok pd.deed ea).ne
        have eF : applyD true s (.many l) = .error er := by
          have h1 : foldD true s (l.take (i + 1)) = .error er := by rw [et, fold_ok hfold, fold_one, ho]
          have h2 := fold_err (r := l.drop (i + 1)) h1
          rw [List.take_append_drop] at h2
          rw [apM, h2]
        refine ⟨_, rfl, qq, _, _, _, rfl, rfl, hqq, atI_nat (j := 1) rfl, rfl, _, rfl, ite2 (fun _ => ?_) (fun z => ?_)⟩
        · refine ⟨_, rfl, qq, _, _, _, rfl, rfl, hqq, atI_nat (j := 1) rfl, by show 2 ≤ sizeLine; decide, fun t nt => ?_⟩
          refine k c _ _ (b0.step ((b1.trans bb4).new nt)) (fun y hy => .inl hy) ?_ ?_
          · rw [eF]; exact (hs1.new bb4).new (But.refl.new nt)
          · rw [eF]
            exact ⟨t, .non, rfl, SqT.of upd_same, .scalar none⟩
        · have z : ¬ (!decide (V.str er.text = V.str "")) = true := z
          exact absurd (by rw [decide_eq_false (fun q => ern (V.str.inj q))]; rfl) z
      | ok r =>
        obtain ⟨s', t'⟩ := r
        have ea : applyD true si d = .ok (s', tellD t') := by rw [ap, ho]; rfl
        rw [ea] at hqq htold hm4
        have etv : tv = tellV t' := by
          rcases htold with ⟨n, h1, h2⟩ | ⟨_, _, _, h2, _⟩
          · have h2 : tellD t' = tellD n := h2
            rw [h1]
            cases n <;> cases t' <;> first | rfl | (cases h2; done) | (cases h2; rfl)
          · have h2 : tellD t' = _ := h2
            cases t' <;> cases h2
        subst etv
        have sp := put_good (fl := true) hgi pd (by
          unfold one at ho
          cases hb : bad si d with
          | none => rfl
          | some e => rw [hb] at ho; cases ho)
        have es : (put true si d).1 = s' := by
          unfold one at ho
          cases hb : bad si d with
          | none =>
            rw [hb] at ho
            have ho : Except.ok (put true si d) = (Except.ok (s', t') : Except Er (Sta × Option Int)) := ho
            have : put true si d = (s', t') := Except.ok.inj ho
            rw [this]
          | some e => rw [hb] at ho; cases ho
        rw [es] at sp
        have nDc : ∀ y ∈ mineM f c', H1 y = none ∧ y ≠ D := fun y hy => by
          rcases sub4 y hy with h | h
          · exact yi y h
          · exact ⟨bb.dom _ h, fun z => by rw [z, hDi] at h; cases h⟩
        refine ⟨_, rfl, qq, _, _, _, rfl, rfl, hqq, atI_nat (j := 1) rfl, rfl, _, rfl, iteF ?_⟩
        refine ⟨_, rfl, .inl ⟨rfl, _, SqL.of hD4⟩, _, rfl, qq, _, _, _, rfl, rfl, hqq, atI_nat (j := 0) rfl, D, _, _, rfl, rfl, hD4, by rw [List.length_map, sizeLine_eq]; omega, ?_⟩
        have bL : But [D] H4 (upd H4 D (.lst (ts.map tellV ++ [tellV t']))) := But.one (nt_lst hD4)
        refine ⟨_, _, s', ts ++ [t'], c', rfl, bb4.young yD, by rw [et, fold_ok hfold, fold_one, ho], ?_, ?_, ?_, nDc⟩
        · exact hm4.but bL (by
            have q := fun y hy => (nDc y hy).2
            simp only [mineM, List.mem_cons, List.not_mem_nil, or_false] at q
            refine ⟨?_, ?_, ?_, ?_, ?_⟩ <;> intro z
            · exact q f (.inl rfl) (by simpa using z)
            · exact q c'.o (.inr (.inl rfl)) (by simpa using z)
            · exact q c'.mu (.inr (.inr (.inl rfl))) (by simpa using z)
            · exact q c'.sp (.inr (.inr (.inr (.inl rfl)))) (by simpa using z)
            · exact q c'.bo (.inr (.inr (.inr (.inr rfl)))) (by simpa using z))
        · rw [show N + ((i + 1 : Nat) : Int) = N + i + 1 by omega]
          exact sp
        · rw [upd_same, List.map_append]; rfl
    · rintro σ' H' ⟨x5, x6, si, ts, ci, rfl, bb, hfold, hmi, hgi, hDi, yi⟩
      rw [lu, List.take_length] at hfold
      have lts := fold_len hfold
      have eF : applyD true s (.many l) = .ok (si, .list (ts.map tellD)) := by rw [apM, hfold]
      obtain ⟨ws, wf, hm1, _, _⟩ := id (hs1.new bb).at_
      obtain ⟨ws2, wf2, hm2, hw1, hw2⟩ := id hmi.at_
      have nmf : m ≠ f := fun z => by
        have := (yi f (by simp [mineM])).1
        obtain ⟨_, _, h3, _, _⟩ := hs1.at_
        rw [← z, h3] at this; cases this
      refine ⟨_, rfl, .inr (.inr (.inl ⟨rfl, .inl ⟨_, hm1⟩⟩)), _, rfl, m, f, _, _, rfl, rfl, nmf, hm1, hm2, by show 12 ≤ 1000; decide, ?_⟩
      rw [merge_mkv]
      have bm : But [m] H' (upd H' m (.dK (mkv (.ref ci.o) (.ref ci.mu) (.ref ci.sp) (.ref ci.bo) ws2 wf2))) := But.one (nt_dk hm1)
      have nD' : D ≠ m := fun z => by rw [z, hm1] at hDi; cases hDi
      have nm : ∀ y ∈ mineM f ci, y ≠ m := fun y hy z => by
        have := (yi y hy).1
        obtain ⟨_, _, h3, _, _⟩ := hs1.at_
        rw [z, h3] at this; cases this
      have nmc : ∀ y ∈ [ci.o, ci.mu, ci.sp, ci.bo], y ∉ [m] := fun y hy z => nm y (by
        simp only [mineM, List.mem_cons, List.not_mem_nil, or_false] at hy ⊢
        exact .inr hy) (by simpa using z)
      have hmF : ModAt K (upd H' m (.dK (mkv (.ref ci.o) (.ref ci.mu) (.ref ci.sp) (.ref ci.bo) ws2 wf2))) m ci si := ⟨⟨ws2, wf2, upd_same, dp_but bm _ _ (tup_sheet _) hw1, dp_but bm _ _ (tup_tip _) hw2⟩, hmi.cont.but bm ⟨nmc _ (by simp), nmc _ (by simp), nmc _ (by simp), nmc _ (by simp)⟩, fun z => nmc ci.mu (by simp) (by simp [z]), fun z => nmc ci.sp (by simp) (by simp [z]), fun z => nmc ci.bo (by simp) (by simp [z])⟩
      have hDF := bm.keep _ _ hDi (by simpa using nD')
      have bF : But (mineM m c) H (upd H' m (.dK (mkv (.ref ci.o) (.ref ci.mu) (.ref ci.sp) (.ref ci.bo) ws2 wf2))) := (b0.step (b1.trans bb)).old (by simp [mineM])
      generalize upd H' m (.dK (mkv (.ref ci.o) (.ref ci.mu) (.ref ci.sp) (.ref ci.bo) ws2 wf2)) = H5 at bm hmF hDF bF
      refine ⟨_, rfl, by show 2 ≤ sizeLine; decide, fun t nt => ?_⟩
      have bt : But [] H5 (upd H5 t (.tup [.ref D, .str ""])) := But.refl.new nt
      refine k ci _ _ (bF.step bt) (fun y hy => ?_) ?_ ?_
      · simp only [mineM, List.mem_cons, List.not_mem_nil, or_false] at hy
        rcases hy with rfl | hy
        · exact .inl (by simp [mineM])
        · exact .inr (b1.dom _ (yi y (by simp only [mineM, List.mem_cons, List.not_mem_nil, or_false]; exact .inr hy)).1)
      · rw [eF]; exact hmF.new bt
      · rw [eF]
        exact ⟨t, .ref D, rfl, SqT.of upd_same, .inr ⟨D, ts, rfl, rfl, b1.dom _ yD, bt.keep _ _ hDF (by simp), by omega⟩⟩
end Bu
set_option Elab.async false
set_option linter.all false
set_option maxRecDepth 100000
set_option maxHeartbeats 4000000
/-! The law's own comparison of data. -/
namespace Bu
open PySem PySem.Spec PyProof.Rows L2
/-- data no deeper than n, nothing in it of more than 1000 things -/
inductive Thin : Nat → PyData → Prop
  | non (n : Nat) : Thin n .none
  | bl (n : Nat) (b : Bool) : Thin n (.bool b)
  | int (n : Nat) (i : Int) : Thin n (.int i)
  | str (n : Nat) (x : Str) : Thin n (.str x)
  | tup (n : Nat) (ds : List PyData) (h : ds.length ≤ 1000) (a : ∀ d ∈ ds, Thin n d) : Thin (n + 1) (.tuple ds)
  | lst (n : Nat) (ds : List PyData) (h : ds.length ≤ 1000) (a : ∀ d ∈ ds, Thin n d) : Thin (n + 1) (.list ds)
def tyN : PyData → String
  | .none => "NoneType"
  | .bool _ => "bool"
  | .int _ => "int"
  | .str _ => "str"
  | .tuple _ => "tuple"
  | .list _ => "list"
  | .dict _ => "dict"
theorem ty_of {K : PySem.W.Frag} {H : Hp} {v : V} {d : PyData} (h : Dp K H v d) : TyX K H v (.type (tyN d)) := by
  cases h with
  | non => exact .base .non
  | bl b => exact .base (.bl b)
  | int i => exact .base (.int i)
  | str x => exact .base (.str x)
  | tup s _ =>
    rcases s with (s | ⟨u, s⟩) | ⟨o, its, n, e, c, _⟩
    · exact .base (.tup s)
    · exact .fTuple s
    · exact .kTuple e c
  | lst s _ =>
    rcases s with (s | ⟨u, s⟩) | ⟨o, its, n, e, c, _⟩
    · exact .base (.lst s)
    · exact .base (.frz s)
    · exact .kList e c
theorem kitLT {K : PySem.W.Frag} {a : String} {b c : Bool} (h1 : kitB a "list" = some b) (h2 : kitB a "tuple" = some c) : PySem.W.kitAny K (.type a) [.type "list", .type "tuple"] = some (b || c) := by
  refine kitAny_cons (kit_ty h1) (fun e => ?_) (fun e => by rw [e]; rfl)
  rw [e, Bool.false_or]
  refine kitAny_cons (kit_ty h2) (fun e => by rw [e]; rfl) (fun e => e)
/-- a type that is no list and no tuple, told apart from bool, int, str -/
def Flat (a : String) : Prop := kitB a "list" = some false ∧ kitB a "tuple" = some false ∧ (∃ b, kitB a "bool" = some b) ∧ (∃ b, kitB a "int" = some b) ∧ ∃ b, kitB a "str" = some b
theorem flat_none : Flat "NoneType" := ⟨by decide +kernel, by decide +kernel, ⟨false, by decide +kernel⟩, ⟨false, by decide +kernel⟩, ⟨false, by decide +kernel⟩⟩
theorem flat_bool : Flat "bool" := ⟨by decide +kernel, by decide +kernel, ⟨true, by decide +kernel⟩, ⟨true, by decide +kernel⟩, ⟨false, by decide +kernel⟩⟩
theorem flat_int : Flat "int" := ⟨by decide +kernel, by decide +kernel, ⟨false, by decide +kernel⟩, ⟨true, by decide +kernel⟩, ⟨false, by decide +kernel⟩⟩
theorem flat_str : Flat "str" := ⟨by decide +kernel, by decide +kernel, ⟨false, by decide +kernel⟩, ⟨false, by decide +kernel⟩, ⟨true, by decide +kernel⟩⟩
theorem v_ix_seq {X : Cx} {K : PySem.W.Frag} (hK : X.K = K := by rfl) : IxR X (rIx K) := by subst hK; exact ix_seq
theorem ne_self (b : Bool) : ¬ (!decide (V.bl b = V.bl b)) = true := by simp
def spSame (K : PySem.W.Frag) (n : Nat) : Sp := fun vs H Q _ => ∃ (v u : V) (d : PyData), vs = [v, u] ∧ Thin n d ∧ Dp K H v d ∧ Dp K H u d ∧ ∀ H', But [] H H' → Q (.bl true) H'
/-- what scalars are alike -/
theorem dp_flat {K : PySem.W.Frag} {H : Hp} {v u : V} {d : PyData} (h1 : Dp K H v d) (h2 : Dp K H u d) (f : d = .none ∨ (∃ b, d = .bool b) ∨ (∃ i, d = .int i) ∨ ∃ x, d = .str x) : v = u ∧ Flat (tyN d) ∧ scal v u = true := by
  rcases f with rfl | ⟨b, rfl⟩ | ⟨i, rfl⟩ | ⟨x, rfl⟩ <;> cases h1 <;> cases h2
  · exact ⟨rfl, flat_none, rfl⟩
  · exact ⟨rfl, flat_bool, rfl⟩
  · exact ⟨rfl, flat_int, rfl⟩
  · exact ⟨rfl, flat_str, rfl⟩
theorem thin0 {d : PyData} (h : Thin 0 d) : d = .none ∨ (∃ b, d = .bool b) ∨ (∃ i, d = .int i) ∨ ∃ x, d = .str x := by
  cases h with
  | non => exact .inl rfl
  | bl b => exact .inr (.inl ⟨_, rfl⟩)
  | int i => exact .inr (.inr (.inl ⟨_, rfl⟩))
  | str x => exact .inr (.inr (.inr ⟨_, rfl⟩))
abbrev n_law_same : List Str := ["_law_found", "_law_due", "_law_k"]
theorem sc_law_same : FnScope n_law_same ["_law_found", "_law_due"] d_law_same.scope := C8.fnScope_by (by decide +kernel)
theorem cal_same0 {P : Program} {w : World} {K : PySem.W.Frag} {mg : Str → Option Value} {base : Heap} (C : Cn w K mg)  : Cal P w K mg base CX0 1 "_law_same" (spSame K 0) := by
  refine C.cal 46 46 d_law_same sc_law_same (fun _ _ _ _ _ _ us hl => match us, hl with | [_, _], _ => rfl) (fun vs H Q E h => ?_) (fun f cdv A outer s H vs Q E hr h => ?_)
  · obtain ⟨v, u, d, rfl, _⟩ := h
    rfl
  have nd := sc_law_same.nd
  refine ⟨_, PSs.nox (pss_cons (ps_if (pt_val (pe_callB call_isiT (by rfl) (C.free 73) (by decide +kernel) (pa_cons (pv 1) (pa_cons (pe_tup (pa_cons (pe_bltn (v := .ty "list") rfl (C.free 69) (by decide +kernel) rfl) (pa_cons (pe_bltn (v := .ty "tuple") rfl (C.free 71) (by decide +kernel) rfl) pa_nil))) pa_nil)))) (pss_cons (ps_if (PW.pt (pw_or (pt_cmpR op_ne (pe_callB call_isi (by rfl) (C.free 73) (by decide +kernel) (pa_cons (pv 0) (pa_cons (pe_bltn (v := .ty "list") rfl (C.free 69) (by decide +kernel) rfl) pa_nil))) (pe_callB call_isi (by rfl) (C.free 73) (by decide +kernel) (pa_cons (pv 1) (pa_cons (pe_bltn (v := .ty "list") rfl (C.free 69) (by decide +kernel) rfl) pa_nil))) (nomark _)) (pw_or1 (pt_cmpR op_ne (pe_callB call_isi (by rfl) (C.free 73) (by decide +kernel) (pa_cons (pv 0) (pa_cons (pe_bltn (v := .ty "tuple") rfl (C.free 71) (by decide +kernel) rfl) pa_nil))) (pe_callB call_isi (by rfl) (C.free 73) (by decide +kernel) (pa_cons (pv 1) (pa_cons (pe_bltn (v := .ty "tuple") rfl (C.free 71) (by decide +kernel) rfl) pa_nil))) (nomark _))))) (pss_one (ps_ret pe_bl)) pss_nil) (pss_one ps_never)) pss_nil) (pss_cons (ps_if (PW.pt (pw_or (pt_cmpR op_isN (pv 1) pe_non (nomark _)) (pw_or1 (pt_cmpR op_isN (pv 0) pe_non (nomark _))))) (pss_one (ps_ret (pe_and (pe_cmpR op_isN (pv 0) pe_non (nomark _)) (pe_one (pe_cmpR op_isN (pv 1) pe_non (nomark _)))))) pss_nil) (pss_cons (ps_if (PW.pt (pw_or (pt_cmpR op_ne (pe_callB call_isi (by rfl) (C.free 73) (by decide +kernel) (pa_cons (pv 1) (pa_cons (pe_bltn (v := .ty "bool") rfl (C.free 79) (by decide +kernel) rfl) pa_nil))) (pe_callB call_isi (by rfl) (C.free 73) (by decide +kernel) (pa_cons (pv 0) (pa_cons (pe_bltn (v := .ty "bool") rfl (C.free 79) (by decide +kernel) rfl) pa_nil))) (nomark _)) (pw_or1 (pt_cmpR op_ne (pe_callB call_isi (by rfl) (C.free 73) (by decide +kernel) (pa_cons (pv 1) (pa_cons (pe_bltn (v := .ty "int") rfl (C.free 81) (by decide +kernel) rfl) pa_nil))) (pe_callB call_isi (by rfl) (C.free 73) (by decide +kernel) (pa_cons (pv 0) (pa_cons (pe_bltn (v := .ty "int") rfl (C.free 81) (by decide +kernel) rfl) pa_nil))) (nomark _))))) (pss_one (ps_ret pe_bl)) pss_nil) (pss_one (ps_ret (pe_and (pe_cmpR op_eq (pe_callB call_isi (by rfl) (C.free 73) (by decide +kernel) (pa_cons (pv 1) (pa_cons (pe_bltn (v := .ty "str") rfl (C.free 77) (by decide +kernel) rfl) pa_nil))) (pe_callB call_isi (by rfl) (C.free 73) (by decide +kernel) (pa_cons (pv 0) (pa_cons (pe_bltn (v := .ty "str") rfl (C.free 77) (by decide +kernel) rfl) pa_nil))) (nomark _)) (pe_one (pe_cmpR op_eq (pv 0) (pv 1) (nomark _))))))))), ?_⟩
  obtain ⟨v, u, d, rfl, th, dv, du, k⟩ := h
  obtain ⟨rfl, ⟨f1, f2, ⟨b1, f3⟩, ⟨b2, f4⟩, ⟨b3, f5⟩⟩, sc⟩ := dp_flat dv du (thin0 th)
  have tx := fun H' (b : But [] H H') => ty_of (dp_new b _ _ dv)
  refine ⟨_, rfl, by decide, fun t nt => ?_⟩
  have bt : But [] H (upd H t (.tup [.ty "list", .ty "tuple"])) := But.refl.new nt
  refine ⟨v, t, _, _, _, _, rfl, upd_same, .cons (.ty _) (.cons (.ty _) .nil), tx _ bt, kitLT f1 f2, _, rfl, iteF ?_⟩
  generalize upd H t (.tup [.ty "list", .ty "tuple"]) = H1 at bt
  have tH := tx _ bt
  refine ⟨_, rfl, rfl, _, rfl, ite2 (fun e => ?_) (fun e => ?_)⟩
  · have e : v = .non := of_decide_eq_true e
    subst e
    exact ⟨_, rfl, rfl, _, rfl, iteT ⟨_, rfl, rfl, k _ bt⟩⟩
  refine ⟨_, rfl, rfl, _, rfl, ite2 (fun e2 => absurd e2 e) (fun _ => ?_)⟩
  refine ⟨_, rfl, v, _, _, _, b1, rfl, .ty _, tH, kit_ty f3, _, rfl, v, _, _, _, b1, rfl, .ty _, tH, kit_ty f3, rfl, _, rfl, ite2 (fun z => absurd z (ne_self b1)) (fun _ => ?_)⟩
  refine ⟨_, rfl, v, _, _, _, b2, rfl, .ty _, tH, kit_ty f4, _, rfl, v, _, _, _, b2, rfl, .ty _, tH, kit_ty f4, rfl, _, rfl, ite2 (fun z => absurd z (ne_self b2)) (fun _ => ?_)⟩
  refine ⟨_, rfl, v, _, _, _, b3, rfl, .ty _, tH, kit_ty f5, _, rfl, v, _, _, _, b3, rfl, .ty _, tH, kit_ty f5, rfl, _, rfl, ?_⟩
  rw [decide_eq_true rfl]
  refine iteT ⟨_, rfl, _, rfl, sc, ?_⟩
  rw [decide_eq_true rfl]
  exact k _ bt
theorem cal_sameS {P : Program} {w : World} {K : PySem.W.Frag} {mg : Str → Option Value} {base : Heap} (C : Cn w K mg) {n : Nat} (ih : Cal P w K mg base CX0 (n + 1) "_law_same" (spSame K n)) : Cal P w K mg base CX0 (n + 1 + 1) "_law_same" (spSame K (n + 1)) := by
  refine C.cal 46 46 d_law_same sc_law_same (fun _ _ _ _ _ _ us hl => match us, hl with | [_, _], _ => rfl) (fun vs H Q E h => ?_) (fun f cdv A outer s H vs Q E hr h => ?_)
  · obtain ⟨v, u, d, rfl, _⟩ := h
    rfl
  have nd := sc_law_same.nd
  refine ⟨_, PSs.nox (pss_cons (ps_if (pt_val (pe_callB call_isiT (by rfl) (C.free 73) (by decide +kernel) (pa_cons (pv 1) (pa_cons (pe_tup (pa_cons (pe_bltn (v := .ty "list") rfl (C.free 69) (by decide +kernel) rfl) (pa_cons (pe_bltn (v := .ty "tuple") rfl (C.free 71) (by decide +kernel) rfl) pa_nil))) pa_nil)))) (pss_cons (ps_if (PW.pt (pw_or (pt_cmpR op_ne (pe_callB call_isi (by rfl) (C.free 73) (by decide +kernel) (pa_cons (pv 0) (pa_cons (pe_bltn (v := .ty "list") rfl (C.free 69) (by decide +kernel) rfl) pa_nil))) (pe_callB call_isi (by rfl) (C.free 73) (by decide +kernel) (pa_cons (pv 1) (pa_cons (pe_bltn (v := .ty "list") rfl (C.free 69) (by decide +kernel) rfl) pa_nil))) (nomark _)) (pw_or1 (pt_cmpR op_ne (pe_callB call_isi (by rfl) (C.free 73) (by decide +kernel) (pa_cons (pv 0) (pa_cons (pe_bltn (v := .ty "tuple") rfl (C.free 71) (by decide +kernel) rfl) pa_nil))) (pe_callB call_isi (by rfl) (C.free 73) (by decide +kernel) (pa_cons (pv 1) (pa_cons (pe_bltn (v := .ty "tuple") rfl (C.free 71) (by decide +kernel) rfl) pa_nil))) (nomark _))))) (pss_one (ps_ret pe_bl)) pss_nil) (pss_one (ps_ret (pe_and (pe_cmpR op_eq (pe_callB call_len_seq (by rfl) (C.free 67) (by decide +kernel) (pa_cons (pv 0) pa_nil)) (pe_callB call_len_seq (by rfl) (C.free 67) (by decide +kernel) (pa_cons (pv 1) pa_nil)) (nomark _)) (pe_one (pe_callB (cr_all rfl) (by rfl) (C.free 75) (by decide +kernel) (pa_cons (pe_lc (own := [("_law_k", 2)]) (tt := tYes) rfl nd (pi_range1 rfl (C.free 68) (pa_cons (pe_callB call_len_seq (by rfl) (C.free 67) (by decide +kernel) (pa_cons (pv 1) pa_nil)) pa_nil)) (blkOk_by (own := [("_law_k", 2)]) (N := n_law_same) (sc := d_law_same.scope) (by decide +kernel)) (fun _ _ _ _ _ => (pg_name (i := 2) nd rfl (by first | exact Or.inl rfl | exact Or.inr rfl))) (fun _ _ _ _ _ => pts_nil) (fun _ _ _ _ _ => (pe_c ih hr (pa_cons (pe_ix (v_ix_seq (K := K)) (pv 0) (pv 2) (fun _ _ => rfl)) (pa_cons (pe_ix (v_ix_seq (K := K)) (pv 1) (pv 2) (fun _ _ => rfl)) pa_nil)) (Nat.le_refl _)))) pa_nil))))))) pss_nil) (pss_cons (ps_if (PW.pt (pw_or (pt_cmpR op_isN (pv 1) pe_non (nomark _)) (pw_or1 (pt_cmpR op_isN (pv 0) pe_non (nomark _))))) (pss_one (ps_ret (pe_and (pe_cmpR op_isN (pv 0) pe_non (nomark _)) (pe_one (pe_cmpR op_isN (pv 1) pe_non (nomark _)))))) pss_nil) (pss_cons (ps_if (PW.pt (pw_or (pt_cmpR op_ne (pe_callB call_isi (by rfl) (C.free 73) (by decide +kernel) (pa_cons (pv 1) (pa_cons (pe_bltn (v := .ty "bool") rfl (C.free 79) (by decide +kernel) rfl) pa_nil))) (pe_callB call_isi (by rfl) (C.free 73) (by decide +kernel) (pa_cons (pv 0) (pa_cons (pe_bltn (v := .ty "bool") rfl (C.free 79) (by decide +kernel) rfl) pa_nil))) (nomark _)) (pw_or1 (pt_cmpR op_ne (pe_callB call_isi (by rfl) (C.free 73) (by decide +kernel) (pa_cons (pv 1) (pa_cons (pe_bltn (v := .ty "int") rfl (C.free 81) (by decide +kernel) rfl) pa_nil))) (pe_callB call_isi (by rfl) (C.free 73) (by decide +kernel) (pa_cons (pv 0) (pa_cons (pe_bltn (v := .ty "int") rfl (C.free 81) (by decide +kernel) rfl) pa_nil))) (nomark _))))) (pss_one (ps_ret pe_bl)) pss_nil) (pss_one (ps_ret (pe_and (pe_cmpR op_eq (pe_callB call_isi (by rfl) (C.free 73) (by decide +kernel) (pa_cons (pv 1) (pa_cons (pe_bltn (v := .ty "str") rfl (C.free 77) (by decide +kernel) rfl) pa_nil))) (pe_callB call_isi (by rfl) (C.free 73) (by decide +kernel) (pa_cons (pv 0) (pa_cons (pe_bltn (v := .ty "str") rfl (C.free 77) (by decide +kernel) rfl) pa_nil))) (nomark _)) (pe_one (pe_cmpR op_eq (pv 0) (pv 1) (nomark _))))))))), ?_⟩
  obtain ⟨v, u, d, rfl, th, dv, du, k⟩ := h
  by_cases hfl : d = .none ∨ (∃ b, d = .bool b) ∨ (∃ i, d = .int i) ∨ ∃ x, d = .str x
  · obtain ⟨rfl, ⟨f1, f2, ⟨b1, f3⟩, ⟨b2, f4⟩, ⟨b3, f5⟩⟩, sc⟩ := dp_flat dv du hfl
    have tx := fun H' (b : But [] H H') => ty_of (dp_new b _ _ dv)
    refine ⟨_, rfl, by decide, fun t nt => ?_⟩
    have bt : But [] H (upd H t (.tup [.ty "list", .ty "tuple"])) := But.refl.new nt
    refine ⟨v, t, _, _, _, _, rfl, upd_same, .cons (.ty _) (.cons (.ty _) .nil), tx _ bt, kitLT f1 f2, _, rfl, iteF ?_⟩
    generalize upd H t (.tup [.ty "list", .ty "tuple"]) = H1 at bt
    have tH := tx _ bt
    refine ⟨_, rfl, rfl, _, rfl, ite2 (fun e => ?_) (fun e => ?_)⟩
    · have e : v = .non := of_decide_eq_true e
      subst e
      exact ⟨_, rfl, rfl, _, rfl, iteT ⟨_, rfl, rfl, k _ bt⟩⟩
    refine ⟨_, rfl, rfl, _, rfl, ite2 (fun e2 => absurd e2 e) (fun _ => ?_)⟩
    refine ⟨_, rfl, v, _, _, _, b1, rfl, .ty _, tH, kit_ty f3, _, rfl, v, _, _, _, b1, rfl, .ty _, tH, kit_ty f3, rfl, _, rfl, ite2 (fun z => absurd z (ne_self b1)) (fun _ => ?_)⟩
    refine ⟨_, rfl, v, _, _, _, b2, rfl, .ty _, tH, kit_ty f4, _, rfl, v, _, _, _, b2, rfl, .ty _, tH, kit_ty f4, rfl, _, rfl, ite2 (fun z => absurd z (ne_self b2)) (fun _ => ?_)⟩
    refine ⟨_, rfl, v, _, _, _, b3, rfl, .ty _, tH, kit_ty f5, _, rfl, v, _, _, _, b3, rfl, .ty _, tH, kit_ty f5, rfl, _, rfl, ?_⟩
    rw [decide_eq_true rfl]
    refine iteT ⟨_, rfl, _, rfl, sc, ?_⟩
    rw [decide_eq_true rfl]
    exact k _ bt
  -- a list or a tuple
  obtain ⟨ds, a, b, xs, ys, g1, g2, rfl, rfl, hl, hall, dxs, dys, hseq, hkl, hkt, hg⟩ : ∃ (ds : List PyData) (a b : Addr) (xs ys : List V) (g1 g2 : Bool), v = .ref a ∧ u = .ref b ∧ ds.length ≤ 1000 ∧ (∀ d ∈ ds, Thin n d) ∧ DpAll K H xs ds ∧ DpAll K H ys ds ∧
      (∀ H', But [] H H' → (SqL K H' a xs ∧ SqL K H' b ys) ∨ (SqT K H' a xs ∧ SqT K H' b ys)) ∧ kitB (tyN d) "list" = some g1 ∧ kitB (tyN d) "tuple" = some g2 ∧ (g1 || g2) = true := by
    cases th with
    | non => exact absurd (.inl rfl) hfl
    | bl b => exact absurd (.inr (.inl ⟨_, rfl⟩)) hfl
    | int i => exact absurd (.inr (.inr (.inl ⟨_, rfl⟩))) hfl
    | str x => exact absurd (.inr (.inr (.inr ⟨_, rfl⟩))) hfl
    | tup _ ds h a =>
      obtain ⟨p, xs, rfl, h1, h2⟩ := dp_tup dv
      obtain ⟨q, ys, rfl, h3, h4⟩ := dp_tup du
      exact ⟨ds, p, q, xs, ys, false, true, rfl, rfl, h, a, h2, h4, fun H' b => .inr ⟨b.sqT h1, b.sqT h3⟩, (by decide +kernel : kitB "tuple" "list" = some false), (by decide +kernel : kitB "tuple" "tuple" = some true), rfl⟩
    | lst _ ds h a =>
      obtain ⟨p, xs, rfl, h1, h2⟩ := dp_lst dv
      obtain ⟨q, ys, rfl, h3, h4⟩ := dp_lst du
      exact ⟨ds, p, q, xs, ys, true, false, rfl, rfl, h, a, h2, h4, fun H' b => .inl ⟨b.sqL h1 (by simp), b.sqL h3 (by simp)⟩, (by decide +kernel : kitB "list" "list" = some true), (by decide +kernel : kitB "list" "tuple" = some false), rfl⟩
  have lx := dpa_length dxs
  have ly := dpa_length dys
  have tx := fun H' (b : But [] H H') => ty_of (dp_new b _ _ dv)
  have ty := fun H' (b : But [] H H') => ty_of (dp_new b _ _ du)
  refine ⟨_, rfl, by decide, fun t nt => ?_⟩
  have bt : But [] H (upd H t (.tup [.ty "list", .ty "tuple"])) := But.refl.new nt
  have kl := kitLT (K := K) hkl hkt
  rw [hg] at kl
  refine ⟨_, t, _, _, _, _, rfl, upd_same, .cons (.ty _) (.cons (.ty _) .nil), ty _ bt, kl, _, rfl, iteT ?_⟩
  generalize upd H t (.tup [.ty "list", .ty "tuple"]) = H1 at bt
  have tH := tx _ bt
  have uH := ty _ bt
  refine ⟨_, rfl, _, _, _, _, g1, rfl, .ty _, tH, kit_ty hkl, _, rfl, _, _, _, _, g1, rfl, .ty _, uH, kit_ty hkl, rfl, _, rfl, ite2 (fun z => absurd z (ne_self g1)) (fun _ => ?_)⟩
  refine ⟨_, rfl, _, _, _, _, g2, rfl, .ty _, tH, kit_ty hkt, _, rfl, _, _, _, _, g2, rfl, .ty _, uH, kit_ty hkt, rfl, _, rfl, ite2 (fun z => absurd z (ne_self g2)) (fun _ => ?_)⟩
  have s1 := hseq H1 bt
  have sa : ∀ H', But [] H H' → SqL K H' a xs ∨ SqT K H' a xs := fun H' b => (hseq H' b).imp (·.1) (·.1)
  have sb : ∀ H', But [] H H' → SqL K H' b ys ∨ SqT K H' b ys := fun H' b => (hseq H' b).imp (·.2) (·.2)
  refine ⟨_, rfl, a, xs, rfl, sa _ bt, _, rfl, b, ys, rfl, sb _ bt, rfl, _, rfl, ?_⟩
  rw [lx, ly, decide_eq_true rfl]
  refine iteT ⟨_, rfl, b, ys, rfl, sb _ bt, _, rfl, by rw [ly]; omega, by rw [ly]; omega, fun D nD => ?_⟩
  rw [ly]
  refine lc_range (lo := 0) (n := ((ds.length : Nat) : Int).toNat) (fun i H2 => Bools H1 D (List.replicate i true) H2) (Bools.start nD) ?_ ?_
  · intro i H2 hi bb
    have hi : i < ds.length := by omega
    have b2 := bt.trans bb.but
    have hx : xs[i]? = some xs[i] := List.getElem?_eq_getElem (by omega)
    have hy : ys[i]? = some ys[i] := List.getElem?_eq_getElem (by omega)
    have hxa : atI xs ((0 : Int) + (i : Nat)) = some xs[i] := by rw [Int.zero_add]; exact atI_nat hx
    have hya : atI ys ((0 : Int) + (i : Nat)) = some ys[i] := by rw [Int.zero_add]; exact atI_nat hy
    obtain ⟨d1, e1, p1⟩ := dpa_get dxs hx
    obtain ⟨d2, e2, p2⟩ := dpa_get dys hy
    rw [e1] at e2
    cases e2
    have fin : ∀ H3, But [] H2 H3 → ∃ acc, H3 D = some (.lst acc) ∧ acc.length < sizeLine ∧ Bools H1 D (List.replicate (i + 1) true) (upd H3 D (.lst (acc ++ [V.bl true]))) := fun H3 b3 => by
      obtain ⟨hD, b'⟩ := bb.push (c := true) nD b3
      refine ⟨_, hD, by rw [List.length_map, List.length_replicate, sizeLine_eq]; omega, ?_⟩
      rw [List.replicate_succ']
      exact b'
    refine ⟨rfl, ?_⟩
    dsimp only [tYes]
    rw [if_pos rfl]
    rcases hseq _ b2 with ⟨q1, q2⟩ | ⟨q1, q2⟩
    · exact ⟨_, rfl, _, rfl, .inl ⟨a, xs, _, _, rfl, rfl, q1, hxa, _, rfl, _, rfl, .inl ⟨b, ys, _, _, rfl, rfl, q2, hya, _, _, d1, rfl, hall d1 (List.mem_of_getElem? e1), dp_new b2 _ _ p1, dp_new b2 _ _ p2, fin⟩⟩⟩
    · exact ⟨_, rfl, _, rfl, .inr (.inl ⟨a, xs, _, _, rfl, rfl, q1, hxa, _, rfl, _, rfl, .inr (.inl ⟨b, ys, _, _, rfl, rfl, q2, hya, _, _, d1, rfl, hall d1 (List.mem_of_getElem? e1), dp_new b2 _ _ p1, dp_new b2 _ _ p2, fin⟩)⟩)⟩
  · intro H2 bb
    refine ⟨D, _, rfl, SqL.of bb.at_, ?_⟩
    have : (List.replicate ((ds.length : Nat) : Int).toNat true).all id = true := List.all_eq_true.mpr fun x hx => (List.mem_replicate.mp hx).2
    rw [this]
    exact k _ (bt.trans bb.but)
theorem cal_same {P : Program} {w : World} {K : PySem.W.Frag} {mg : Str → Option Value} {base : Heap} (C : Cn w K mg) : ∀ n, Cal P w K mg base CX0 (n + 1) "_law_same" (spSame K n)
  | 0 => cal_same0 C
  | n + 1 => cal_sameS C (cal_same C n)
end Bu
set_option Elab.async false
set_option linter.all false
set_option maxRecDepth 100000
set_option maxHeartbeats 4000000
/-! A look at a shop, and all that stands in it, as the law asks. -/
namespace Bu
open PySem PySem.Spec PyProof.Rows L2
/-- [.. for k in a list of numbers], what is told of each being data -/
theorem lc_ints {K : PySem.W.Frag} {H : Hp} {D a : Addr} {ns : List Int} {g : Int → PyData} {j : Nat} {te : TE} {vs : List Nat} {σ : L2.St} {Qd : Hp → Prop} (nD : H D = none) (hl : SqL K H a (ns.map V.int)) (few : ns.length ≤ 1000) (tg : ∀ n, tupD (g n) = true)
    (hw : ∀ x, wipe ((wipe σ vs).set j x) vs = wipe σ vs)
    (he : ∀ n ∈ ns, ∀ H', But [] H H' → ∀ Q' : VK, (∀ y H4, But [] H' H4 → Dp K H4 y (g n) → Q' y H4) → te ((wipe σ vs).set j (some (.int n))) H' Q')
    (k : ∀ H' ys, But [] H H' → H' D = some (.lst ys) → DpAll K H' ys (ns.map g) → Qd H') :
    ∃ W : Nat → Nat → Hp → Prop, (∃ m, W 0 m (upd H D (.lst []))) ∧ ∀ i m H, W i m H →
      ((Itl K a).stop i H ∧ Qd H) ∨ ((Itl K a).go i H ∧ ∃ Nx : Hp → Prop, (∀ H', Nx H' → ∃ m', m' < m ∧ W (i + 1) m' H') ∧ ∀ x H', (Itl K a).yld i H x H' → gName j x (wipe σ vs) H' fun σ2 H2 => wipe σ2 vs = wipe σ vs ∧ tYes σ2 H2 fun b H3 =>
        if b = true then te σ2 H3 fun y H4 => ∃ acc, H4 D = some (.lst acc) ∧ acc.length < sizeLine ∧ Nx (upd H4 D (.lst (acc ++ [y]))) else Nx H3) := by
  have b0 : But [] H (upd H D (.lst [])) := But.refl.new nD
  have base : ∀ {H' : Hp}, But [D] (upd H D (.lst [])) H' → But [] H H' := fun {H'} b => b0.thn b fun x hx => .inr (by rw [show x = D by simpa using hx]; exact nD)
  refine lc_list (K := K) (a := a) (xs := ns.map V.int) (fun i H' => ∃ ys, Acc K [] (upd H D (.lst [])) D ((ns.take i).map g) H' ys) ⟨_, Acc.start upd_same (by simp)⟩ ?_ ?_ ?_
  · rintro i H' _ ⟨ys, ac⟩
    exact (base ac.but).sqL hl (by simp)
  · rintro i x H' hx ⟨ys, ac⟩
    rw [List.getElem?_map] at hx
    obtain ⟨n, hn, rfl⟩ := Option.map_eq_some_iff.mp hx
    refine ⟨hw _, ?_⟩
    dsimp only [tYes]
    rw [if_pos rfl]
    refine he n (List.mem_of_getElem? hn) H' (base ac.but) _ fun y H4 b4 dy => ?_
    obtain ⟨hD, ac'⟩ := ac.push (y := y) (d := g n) b4 (by simp) dy (tupDs_map tg _) (tg n)
    refine ⟨_, hD, ?_, ys ++ [y], ?_⟩
    · have := dpa_length ac.da
      rw [List.length_map, List.length_take] at this
      rw [sizeLine_eq]; omega
    · rw [List.take_add_one, hn, List.map_append]; exact ac'
  · rintro H' ⟨ys, ac⟩
    rw [List.length_map, List.take_length] at ac
    exact k H' ys (base ac.but) ac.at_ ac.da
/-! ### how much of each there is -/
theorem Thin.ints {n : Nat} {l : List Int} (h : l.length ≤ 1000) : Thin (n + 1) (.list (l.map .int)) := .lst n _ (by rw [List.length_map]; exact h) fun d hd => by
  obtain ⟨i, _, rfl⟩ := List.mem_map.mp hd
  exact .int _ _
theorem thin_tip {n : Nat} (t : Tip) : Thin (n + 1) (tipD t) := .tup n _ (by show 2 ≤ 1000; decide) fun d hd => by
  simp only [List.mem_cons, List.not_mem_nil, or_false] at hd
  rcases hd with rfl | rfl <;> exact .int _ _
theorem thin_head {n : Nat} (h : Hd) : Thin (n + 1) (hdD h) := .tup n _ (by show 3 ≤ 1000; decide) fun d hd => by
  simp only [List.mem_cons, List.not_mem_nil, or_false] at hd
  rcases hd with rfl | rfl | rfl
  · exact .int _ _
  · exact .int _ _
  · exact .str _ _
theorem thin_mo {n : Nat} {m : Mo} (ok : Mo.ok m) : Thin (n + 3) (moD m) := .tup (n + 2) _ (by show 3 ≤ 1000; decide) fun d hd => by
  simp only [List.mem_cons, List.not_mem_nil, or_false] at hd
  rcases hd with rfl | rfl | rfl
  · exact .int _ _
  · refine .tup (n + 1) _ (by rw [List.length_map]; have := ok.1; omega) fun d hd => ?_
    obtain ⟨h, _, rfl⟩ := List.mem_map.mp hd
    exact thin_head h
  · exact .int _ _
theorem thin_br {n : Nat} {b : Br} (ok : Br.ok b) (h : b.length ≤ 1000) : Thin (n + 4) (brD b) := .tup (n + 3) _ (by rw [List.length_map]; exact h) fun d hd => by
  obtain ⟨m, hm, rfl⟩ := List.mem_map.mp hd
  exact thin_mo (ok m hm)
theorem thin_span {n : Nat} (s : Span) : Thin (n + 2) (spanD s) := .tup (n + 1) _ (by show 4 ≤ 1000; decide) fun d hd => by
  simp only [List.mem_cons, List.not_mem_nil, or_false] at hd
  rcases hd with rfl | rfl | rfl | rfl
  · exact .int _ _
  · exact thin_tip _
  · exact thin_tip _
  · exact .int _ _
theorem thin_sheet {n : Nat} {s : Sheet} (h : s.length ≤ 1000) : Thin (n + 1) (sheetD s) := .tup n _ (by rw [List.length_map]; exact h) fun d hd => by
  obtain ⟨i, _, rfl⟩ := List.mem_map.mp hd
  exact .int _ _
theorem bar_len {s : Sta} {N : Int} (g : s.Good N) (n : Int) : (barOf s n).length ≤ 6 := by
  unfold barOf
  cases e : getM s.music n with
  | none => exact Nat.zero_le _
  | some b => exact (g.bars _ (getM_mem e)).2.2
theorem len_marks (s : Sta) : (markNos s).length = s.spans.length := by rw [(markNos_perm s).length_eq, List.length_map]
/-! ### a look -/
def lookD (S : ShopS) : PyData := .list [.list (S.past.map (·.d.toD)), .list (S.gone.reverse.map (·.d.toD)), tipD S.now.s.fresh, intsL S.now.s.order, intsL (markNos S.now.s)]
/-- a look as it lies in the heap: its lists are new -/
def LookAt (K : PySem.W.Frag) (H H' : Hp) (v : V) (S : ShopS) : Prop := ∃ t v1 v2 v3 v4 v5, v = .ref t ∧ H t = none ∧ SqL K H' t [v1, v2, v3, v4, v5] ∧ FrL K H H' v1 (.list (S.past.map (·.d.toD))) ∧ FrL K H H' v2 (.list (S.gone.reverse.map (·.d.toD))) ∧ Dp K H' v3 (tipD S.now.s.fresh) ∧ FrL K H H' v4 (intsL S.now.s.order) ∧ FrL K H H' v5 (intsL (markNos S.now.s))
theorem LookAt.but {K : PySem.W.Frag} {H H' H2 : Hp} {v : V} {S : ShopS} {M : List Addr} (h : LookAt K H H' v S) (b : But M H' H2) (n : ∀ x ∈ M, H x ≠ none) : LookAt K H H2 v S := by
  obtain ⟨t, v1, v2, v3, v4, v5, rfl, nt, h0, h1, h2, h3, h4, h5⟩ := h
  exact ⟨t, v1, v2, v3, v4, v5, rfl, nt, b.sqL h0 fun z => n _ z nt, h1.but b n, h2.but b n, dp_but b _ _ (tup_tip _) h3, h4.but b n, h5.but b n⟩
theorem LookAt.dp {K : PySem.W.Frag} {H H' : Hp} {v : V} {S : ShopS} (h : LookAt K H H' v S) : Dp K H' v (lookD S) := by
  obtain ⟨t, v1, v2, v3, v4, v5, rfl, nt, h0, h1, h2, h3, h4, h5⟩ := h
  exact .lst h0 (.cons h1.1 (.cons h2.1 (.cons h3 (.cons h4.1 (.cons h5.1 .nil)))))
def spLookS (K : PySem.W.Frag) : Sp := fun vs H Q _ => ∃ (x : Addr) (S : ShopS) (N : Int), vs = [.ref x] ∧ ShopAt K H x S ∧ S.now.s.Good N ∧ (S.past.length < 1000 ∧ S.gone.length < 1000) ∧ ∀ v H', But [] H H' → LookAt K H H' v S → Q v H'
abbrev n_law_look : List Str := ["_law_shop"]
theorem sc_law_look : FnScope n_law_look ["_law_shop"] d_law_look.scope := C8.fnScope_by (by decide +kernel)
theorem cal_look {P : Program} {w : World} {K : PySem.W.Frag} {mg : Str → Option Value} {base : Heap} (C : Cn w K mg)  : Cal P w K mg base CX0 2 "_law_look" (spLookS K) := by
  refine C.cal 58 58 d_law_look sc_law_look (fun _ _ _ _ _ _ us hl => match us, hl with | [_], _ => rfl) (fun vs H Q E h => ?_) (fun f cdv A outer s H vs Q E hr h => ?_)
  · obtain ⟨x, S, N, rfl, _⟩ := h
    rfl
  have nd := sc_law_look.nd
  refine ⟨_, PSs.nox (pss_one (ps_ret (pe_lst (pa_cons (pe_m0 (met_deedsL C) hr (pv 0)) (pa_cons (pe_m0 (met_undoneL C) hr (pv 0)) (pa_cons (pe_m0 (met_coming C) hr (pv 0)) (pa_cons (pe_m0 (met_barsL C) hr (pv 0)) (pa_cons (pe_m0 (met_marksL C) hr (pv 0)) pa_nil)))))))), ?_⟩
  obtain ⟨x, S, N, rfl, hS, hg, hl, k⟩ := h
  obtain ⟨dx, h1⟩ := hS.at_
  refine ⟨_, rfl, x, dx, _, rfl, h1, rfl, x, S, N, rfl, hS, hg, hl, fun v1 H1 b1 d1 => ?_⟩
  have b01 := b1
  refine ⟨_, rfl, x, dx, _, rfl, b01.keep _ _ h1 (by simp), rfl, x, S, N, rfl, hS.new b01, hg, hl, fun v2 H2 b2 d2 => ?_⟩
  have b02 := b01.trans b2
  refine ⟨_, rfl, x, dx, _, rfl, b02.keep _ _ h1 (by simp), rfl, x, S, N, rfl, hS.new b02, hg, hl, fun v3 H3 b3 d3 => ?_⟩
  have b03 := b02.trans b3
  refine ⟨_, rfl, x, dx, _, rfl, b03.keep _ _ h1 (by simp), rfl, x, S, N, rfl, hS.new b03, hg, hl, fun v4 H4 b4 d4 => ?_⟩
  have b04 := b03.trans b4
  refine ⟨_, rfl, x, dx, _, rfl, b04.keep _ _ h1 (by simp), rfl, x, S, N, rfl, hS.new b04, hg, hl, fun v5 H5 b5 d5 => ⟨by show 5 ≤ sizeLine; decide, fun t nt => ?_⟩⟩
  have bt : But [] H5 (upd H5 t (.lst [v1, v2, v3, v4, v5])) := But.refl.new nt
  have b5t := b5.trans bt
  have b4t := b4.trans b5t
  have b3t := b3.trans b4t
  have a4 := b04.trans b5
  have nl : ∀ {H : Hp}, ∀ x ∈ ([] : List Addr), H x ≠ none := fun x hx => absurd hx (by simp)
  exact k _ _ (a4.trans bt) ⟨t, v1, v2, v3, v4, v5, rfl, a4.free nt, SqL.of upd_same, d1.but (b2.trans b3t) nl, (d2.but b3t nl).old b01, dp_new b4t _ _ d3, (d4.but b5t nl).old b03, (d5.but bt nl).old b04⟩
end Bu
set_option Elab.async false
set_option linter.all false
set_option maxRecDepth 100000
set_option maxHeartbeats 4000000
/-! All that stands in a shop, against the law's own model. -/
namespace Bu
open PySem PySem.Spec PyProof.Rows L2
section
variable {K : PySem.W.Frag} {H : Hp} {m : Addr} {c : Cnt} {s p : Sta}
theorem ModAt.bar (h : ModAt K H m c s) {n : Int} (hn : n ∈ s.music.map (·.1)) : ∃ v, DGet H c.mu (.int n) (some v) ∧ Dp K H v (brD (barOf s n)) := by
  obtain ⟨ks, h1, h2⟩ := h.cont.mu
  obtain ⟨x, hx⟩ := getM_in hn
  have hg : DGet H c.mu (.int n) (valV ks (.inl n)) := DGet.k (k := .inl n) h1
  rcases kv_get h2 n with ⟨e1, _⟩ | ⟨y, v, e1, e2, d⟩
  · rw [e1] at hx; cases hx
  · rw [e2] at hg
    exact ⟨v, hg, by unfold barOf; rw [e1]; exact d⟩
theorem ModAt.span (h : ModAt K H m c s) {n : Int} (hn : n ∈ s.spans.map (·.1)) : ∃ v, DGet H c.sp (.int n) (some v) ∧ Dp K H v (spanD (spanOf s n)) := by
  obtain ⟨ks, h1, h2⟩ := h.cont.sp
  obtain ⟨x, hx⟩ := getM_in hn
  have hg : DGet H c.sp (.int n) (valV ks (.inl n)) := DGet.k (k := .inl n) h1
  rcases kv_get h2 n with ⟨e1, _⟩ | ⟨y, v, e1, e2, d⟩
  · rw [e1] at hx; cases hx
  · rw [e2] at hg
    exact ⟨v, hg, by unfold spanOf; rw [e1]; exact d⟩
theorem ModAt.word (h : ModAt K H m c s) (n : Int) : ∃ (ks : List (Key × V)), H c.bo = some (.dK ks) ∧ DGet H c.bo (.int n) (valV ks (.inl n)) ∧ (valV ks (.inl n)).getD (.str "free") = .str (boundOf s n) := by
  obtain ⟨kb, h1, h2⟩ := h.cont.bo
  refine ⟨kb, h1, DGet.k (k := .inl n) h1, ?_⟩
  unfold boundOf
  rcases kv_get h2 n with ⟨e1, e2⟩ | ⟨w', v', e1, e2, dm⟩
  · rw [e1, e2]; rfl
  · rw [e1, e2]
    show v' = _
    rw [dp_str dm]; rfl
theorem endsT_one (s : Sta) : endsT s 1 = [] := by
  rw [endsT_succ]
  show [] ++ _ = []
  cases s.order[0]? with
  | none => rfl
  | some n => dsimp only; rw [if_neg (fun z => by have := z.1; omega)]; rfl
theorem endsT_all (s : Sta) : endsT s (((s.order.length : Int) - 1).toNat + 1) = endsT s s.order.length := by
  rcases Nat.eq_zero_or_pos s.order.length with e | e
  · rw [e]; exact endsT_one s
  · rw [show ((s.order.length : Int) - 1).toNat + 1 = s.order.length by omega]
theorem rel_marks (r : Rel p s) : markNos p = markNos s := by unfold markNos; rw [r.spans]
theorem rel_bar (r : Rel p s) : barOf p = barOf s := by funext n; unfold barOf; rw [r.music]
theorem rel_span (r : Rel p s) : spanOf p = spanOf s := by funext n; unfold spanOf; rw [r.spans]
theorem rel_bound (r : Rel p s) : boundOf p = boundOf s := funext r.bd
theorem rel_ends (r : Rel p s) (k : Nat) : endsT p k = endsT s k := by unfold endsT; rw [r.order, rel_bound r]
theorem rel_text (r : Rel p s) : shopText p = shopText s := by unfold shopText; rw [r.order, r.spans]
theorem rel_told (r : Rel p s) : toldD p = toldD s := by
  have e1 : barT p = barT s := by funext n; unfold barT; rw [rel_bar r, rel_bound r]
  have e2 : spanT p = spanT s := by funext n; unfold spanT; rw [rel_span r]
  unfold toldD
  rw [r.sheet, r.order, r.fresh, rel_marks r, e1, e2]
end
theorem dpa_ints_inv {K : PySem.W.Frag} {H : Hp} : ∀ {ys : List V} {ns : List Int}, DpAll K H ys (ns.map PyData.int) → ys = ns.map V.int
  | _, [], h => dpa_nil h
  | _, n :: r, h => by
    obtain ⟨v, ws, rfl, h1, h2⟩ := dpa_cons h
    rw [dp_int h1, dpa_ints_inv h2]; rfl
theorem dpa_strs_inv {K : PySem.W.Frag} {H : Hp} {f : Int → Str} : ∀ {ys : List V} {ns : List Int}, DpAll K H ys (ns.map fun n => PyData.str (f n)) → ys = ns.map fun n => V.str (f n)
  | _, [], h => dpa_nil h
  | _, n :: r, h => by
    obtain ⟨v, ws, rfl, h1, h2⟩ := dpa_cons h
    rw [dp_str h1, dpa_strs_inv h2]; rfl
def spStands (K : PySem.W.Frag) : Sp := fun vs H Q _ => ∃ (x : Addr) (S : ShopS) (m : Addr) (c : Cnt) (s : Sta) (N : Int), vs = [.ref x, .ref m] ∧ ShopAt K H x S ∧ ModAt K H m c s ∧ Rel S.now.s s ∧ S.now.s.Good N ∧ s.Good N ∧ (S.past.length < 1000 ∧ S.gone.length < 1000) ∧ ∀ H', But [] H H' → Q (.bl true) H'
abbrev n_law_stands : List Str := ["_law_shop", "_law_m", "_law_kept", "_law_k", "_law_found", "_law_due", "_law_words", "_law_binds", "_law_text"]
theorem sc_law_stands : FnScope n_law_stands ["_law_shop", "_law_m"] d_law_stands.scope := C8.fnScope_by (by decide +kernel)
theorem cal_stands {P : Program} {w : World} {K : PySem.W.Frag} {mg : Str → Option Value} {base : Heap} (C : Cn w K mg)  : Cal P w K mg base CX0 8 "_law_stands" (spStands K) := by
  refine C.cal 59 59 d_law_stands sc_law_stands (fun _ _ _ _ _ _ us hl => match us, hl with | [_, _], _ => rfl) (fun vs H Q E h => ?_) (fun f cdv A outer s H vs Q E hr h => ?_)
  · obtain ⟨x, S, m, c, s, N, rfl, _⟩ := h
    rfl
  have nd := sc_law_stands.nd
  refine ⟨_, PSs.nox (pss_cons (ps_setLc (i := 2) (own := [("_law_k", 3)]) (tt := tYes) rfl nd rfl rfl (sw_true rfl rfl rfl (by decide +kernel)) (pi_list (pe_dget (hu_of hr) (pv 1) pe_str (fun _ _ => rfl))) (blkOk_by (own := [("_law_k", 3)]) (N := n_law_stands) (sc := d_law_stands.scope) (by decide +kernel)) (fun _ _ _ _ _ => (pg_name (i := 3) nd rfl (by first | exact Or.inl rfl | exact Or.inr rfl))) (fun _ _ _ _ _ => pts_nil) (fun _ _ _ _ _ => (pv 3))) (pss_cons (ps_set (i := 4) nd rfl (by first | exact Or.inl rfl | exact Or.inr rfl) (pe_lst (pa_cons (pe_m0 (met_bars C) hr (pv 0)) (pa_cons (pe_m0 (met_marks C) hr (pv 0)) (pa_cons (pe_m0 (met_paper C) hr (pv 0)) (pa_cons (pe_m0 (met_coming C) hr (pv 0)) (pa_cons (pe_m0 (met_piece C) hr (pv 0)) pa_nil))))))) (pss_cons (ps_set (i := 5) nd rfl (by first | exact Or.inl rfl | exact Or.inr rfl) (pe_lst (pa_cons (pv 2) (pa_cons (pe_callB (call_sortedDI rfl) (by rfl) (C.free 72) (by decide +kernel) (pa_cons (pe_dget (hu_of hr) (pv 1) pe_str (fun _ _ => rfl)) pa_nil)) (pa_cons (pe_dget (hu_of hr) (pv 1) pe_str (fun _ _ => rfl)) (pa_cons (pe_dget (hu_of hr) (pv 1) pe_str (fun _ _ => rfl)) (pa_cons (pe_lc (own := [("_law_k", 3)]) (tt := tYes) rfl nd (pi_list (pv 2)) (blkOk_by (own := [("_law_k", 3)]) (N := n_law_stands) (sc := d_law_stands.scope) (by decide +kernel)) (fun _ _ _ _ _ => (pg_name (i := 3) nd rfl (by first | exact Or.inl rfl | exact Or.inr rfl))) (fun _ _ _ _ _ => pts_nil) (fun _ _ _ _ _ => (pe_dget (hu_of hr) (pe_dget (hu_of hr) (pv 1) pe_str (fun _ _ => rfl)) (pv 3) (fun _ _ => rfl)))) pa_nil))))))) (pss_cons (ps_if (PW.pt (pw_or (pt_not (pt_val (pe_c (cal_same C 6) hr (pa_cons (pv 4) (pa_cons (pv 5) pa_nil))))) (pw_or1 (pt_not (pt_val (pe_c (cal_same C 6) hr (pa_cons (pe_lst (pa_cons (pe_callB (call_lenI (met_len C).spc hr) (by rfl) (C.free 67) (by decide +kernel) (pa_cons (pv 0) pa_nil)) (pa_cons (pe_callTy (call_boolI (met_len C).spc C.facts.2.2.1 hr) (by rfl) (C.free 79) (by decide +kernel) (pa_cons (pv 0) pa_nil)) pa_nil))) (pa_cons (pe_lst (pa_cons (pe_callB call_len_seq (by rfl) (C.free 67) (by decide +kernel) (pa_cons (pv 2) pa_nil)) (pa_cons (pe_cmpR (op_neD hr.units) (pv 2) (pe_lst pa_nil) (nomark _)) pa_nil))) pa_nil)))))))) (pss_one (ps_ret pe_bl)) pss_nil) (pss_cons (ps_set (i := 6) nd rfl (Or.inr rfl) (pe_lc (own := [("_law_k", 3)]) (tt := tYes) rfl nd (pi_list (pv 2)) (blkOk_by (own := [("_law_k", 3)]) (N := n_law_stands) (sc := d_law_stands.scope) (by decide +kernel)) (fun _ _ _ _ _ => (pg_name (i := 3) nd rfl (by first | exact Or.inl rfl | exact Or.inr rfl))) (fun _ _ _ _ _ => pts_nil) (fun _ _ _ _ _ => (pe_dget2 (hu_of hr) (pe_dget (hu_of hr) (pv 1) pe_str (fun _ _ => rfl)) (pv 3) pe_str ⟨rfl, rfl, rfl, rfl⟩)))) (pss_cons (ps_if (pt_not (pt_val (pe_c (cal_same C 6) hr (pa_cons (pe_lc (own := [("_law_k", 3)]) (tt := tYes) rfl nd (pi_list (pv 2)) (blkOk_by (own := [("_law_k", 3)]) (N := n_law_stands) (sc := d_law_stands.scope) (by decide +kernel)) (fun _ _ _ _ _ => (pg_name (i := 3) nd rfl (by first | exact Or.inl rfl | exact Or.inr rfl))) (fun _ _ _ _ _ => pts_nil) (fun _ _ _ _ _ => (v_pe_m (met_word C) hr (pv 0) (pa_cons (pv 3) pa_nil) (K := K) (CX := CX0)))) (pa_cons (pv 6) pa_nil))))) (pss_one (ps_ret pe_bl)) pss_nil) (pss_cons (ps_if (pt_not (pt_val (pe_c (cal_same C 6) hr (pa_cons (pe_lc (own := [("_law_k", 3)]) (tt := tYes) rfl nd (pi_list (pv 2)) (blkOk_by (own := [("_law_k", 3)]) (N := n_law_stands) (sc := d_law_stands.scope) (by decide +kernel)) (fun _ _ _ _ _ => (pg_name (i := 3) nd rfl (by first | exact Or.inl rfl | exact Or.inr rfl))) (fun _ _ _ _ _ => pts_nil) (fun _ _ _ _ _ => (v_pe_m (met_bar C) hr (pv 0) (pa_cons (pv 3) pa_nil) (K := K) (CX := CX0)))) (pa_cons (pe_lc (own := [("_law_k", 3)]) (tt := tYes) rfl nd (pi_list (pv 2)) (blkOk_by (own := [("_law_k", 3)]) (N := n_law_stands) (sc := d_law_stands.scope) (by decide +kernel)) (fun _ _ _ _ _ => (pg_name (i := 3) nd rfl (by first | exact Or.inl rfl | exact Or.inr rfl))) (fun _ _ _ _ _ => pts_nil) (fun _ _ _ _ _ => (pe_dget (hu_of hr) (pe_dget (hu_of hr) (pv 1) pe_str (fun _ _ => rfl)) (pv 3) (fun _ _ => rfl)))) pa_nil))))) (pss_one (ps_ret pe_bl)) pss_nil) (pss_cons (ps_if (pt_not (pt_val (pe_c (cal_same C 6) hr (pa_cons (pe_lc (own := [("_law_k", 3)]) (tt := tYes) rfl nd (pi_list (pe_callB (call_sortedDI rfl) (by rfl) (C.free 72) (by decide +kernel) (pa_cons (pe_dget (hu_of hr) (pv 1) pe_str (fun _ _ => rfl)) pa_nil))) (blkOk_by (own := [("_law_k", 3)]) (N := n_law_stands) (sc := d_law_stands.scope) (by decide +kernel)) (fun _ _ _ _ _ => (pg_name (i := 3) nd rfl (by first | exact Or.inl rfl | exact Or.inr rfl))) (fun _ _ _ _ _ => pts_nil) (fun _ _ _ _ _ => (v_pe_m (met_mark C) hr (pv 0) (pa_cons (pv 3) pa_nil) (K := K) (CX := CX0)))) (pa_cons (pe_lc (own := [("_law_k", 3)]) (tt := tYes) rfl nd (pi_list (pe_callB (call_sortedDI rfl) (by rfl) (C.free 72) (by decide +kernel) (pa_cons (pe_dget (hu_of hr) (pv 1) pe_str (fun _ _ => rfl)) pa_nil))) (blkOk_by (own := [("_law_k", 3)]) (N := n_law_stands) (sc := d_law_stands.scope) (by decide +kernel)) (fun _ _ _ _ _ => (pg_name (i := 3) nd rfl (by first | exact Or.inl rfl | exact Or.inr rfl))) (fun _ _ _ _ _ => pts_nil) (fun _ _ _ _ _ => (pe_dget (hu_of hr) (pe_dget (hu_of hr) (pv 1) pe_str (fun _ _ => rfl)) (pv 3) (fun _ _ => rfl)))) pa_nil))))) (pss_one (ps_ret pe_bl)) pss_nil) (pss_cons (ps_setLc (i := 7) (own := [("_law_k", 3)]) rfl nd rfl rfl (sw_true rfl rfl rfl (by decide +kernel)) (pi_range2 rfl (C.free 68) (pa_cons pe_int (pa_cons (pe_callB call_len_seq (by rfl) (C.free 67) (by decide +kernel) (pa_cons (pv 6) pa_nil)) pa_nil))) (blkOk_by (own := [("_law_k", 3)]) (N := n_law_stands) (sc := d_law_stands.scope) (by decide +kernel)) (fun _ _ _ _ _ => (pg_name (i := 3) nd rfl (by first | exact Or.inl rfl | exact Or.inr rfl))) (fun _ _ _ _ _ => (pts_one (pt_cmpR op_ne (pe_ix (v_ix_list (K := K)) (pv 6) (pv 3) (fun _ _ => rfl)) pe_str (nomark _)))) (fun _ _ _ _ _ => (pe_tup (pa_cons (pv 3) (pa_cons (pe_ix (v_ix_list (K := K)) (pv 6) (pv 3) (fun _ _ => rfl)) pa_nil))))) (pss_cons (ps_set (i := 8) nd rfl (by first | exact Or.inl rfl | exact Or.inr rfl) (pe_op op_add_str (pe_op op_add_str (pe_op op_add_str (pe_op op_add_str pe_str (pe_callTy call_str_int (by rfl) (C.free 77) (by decide +kernel) (pa_cons (pe_callB call_len_seq (by rfl) (C.free 67) (by decide +kernel) (pa_cons (pv 2) pa_nil)) pa_nil))) pe_str) (pe_callTy call_str_int (by rfl) (C.free 77) (by decide +kernel) (pa_cons (pe_callB call_lenD (by rfl) (C.free 67) (by decide +kernel) (pa_cons (pe_dget (hu_of hr) (pv 1) pe_str (fun _ _ => rfl)) pa_nil)) pa_nil))) pe_str)) (pss_one (ps_ret (pe_and (pe_c (cal_same C 6) hr (pa_cons (pe_m0 (met_ends C) hr (pv 0)) (pa_cons (pv 7) pa_nil))) (pe_one (pe_c (cal_same C 6) hr (pa_cons (pe_callB (call_reprI (met_repr C).spc hr) (by rfl) (C.free 78) (by decide +kernel) (pa_cons (pv 0) pa_nil)) (pa_cons (pv 8) pa_nil))))))))))))))))), ?_⟩
  obtain ⟨x, S, m, c, s, N, rfl, hS, hM, r, gp, gs, hl, k⟩ := h
  obtain ⟨dx, hx⟩ := hS.at_
  obtain ⟨ws, wf, hm, hw1, hw2⟩ := id hM.at_
  have ho := hM.cont.o
  have few := gs.few
  have sfew := gs.sfew
  obtain ⟨kp, hp1, hp2⟩ := id hM.cont.sp
  have lm := len_marks s
  -- kept
  refine ⟨_, rfl, m, _, rfl, dg_order hm, c.o, rfl, ⟨_, SqL.of ho⟩, fun D nD => ?_⟩
  refine lc_ints (K := K) (g := PyData.int) nD (SqL.of ho) (by omega) (fun _ => rfl) (fun _ => rfl) (fun n hn H' b Q' q => ⟨_, rfl, q _ H' But.refl (.int n)⟩) fun H1 ys b1 hD dys => ?_
  have ey := dpa_ints_inv dys
  subst ey
  -- found
  have sh : ∀ H', But [] H H' → ∃ dx, H' x = some (.ins (He.ga K "Shop") dx (shopFs S.p S.g S.now.a)) := fun H' b => ⟨dx, b.keep _ _ hx (by simp)⟩
  refine ⟨_, rfl, x, dx, _, rfl, b1.keep _ _ hx (by simp), rfl, x, S, N, rfl, hS.new b1, gp, hl, fun v1 H2 c2 d1 => ?_⟩
  have b2 := b1.trans c2
  refine ⟨_, rfl, x, dx, _, rfl, b2.keep _ _ hx (by simp), rfl, x, S, N, rfl, hS.new b2, gp, hl, fun v2 H3 c3 d2 => ?_⟩
  have b3 := b2.trans c3
  refine ⟨_, rfl, x, dx, _, rfl, b3.keep _ _ hx (by simp), rfl, x, S, N, rfl, hS.new b3, gp, hl, fun v3 H4 c4 d3 => ?_⟩
  have b4 := b3.trans c4
  refine ⟨_, rfl, x, dx, _, rfl, b4.keep _ _ hx (by simp), rfl, x, S, N, rfl, hS.new b4, gp, hl, fun v4 H5 c5 d4 => ?_⟩
  have b5 := b4.trans c5
  refine ⟨_, rfl, x, dx, _, rfl, b5.keep _ _ hx (by simp), rfl, x, S, N, rfl, hS.new b5, gp, hl, fun v5 H6 c6 d5 => ⟨by show 5 ≤ sizeLine; decide, fun t nt => ?_⟩⟩
  have b6 := b5.trans c6
  have c7 : But [] H6 (upd H6 t (.lst [v1, v2, v3, v4, v5])) := But.refl.new nt
  have ht : (upd H6 t (.lst [v1, v2, v3, v4, v5])) t = some (.lst [v1, v2, v3, v4, v5]) := upd_same
  generalize upd H6 t (.lst [v1, v2, v3, v4, v5]) = H7 at c7 ht
  have b7 := b6.trans c7
  have e5 := c7
  have e4 := c6.trans e5
  have e3 := c5.trans e4
  have e2 := c4.trans e3
  have e1 := c3.trans e2
  have dF : Dp K H7 (.ref t) (.list [intsL s.order, intsL (markNos s), sheetD s.sheet, tipD s.fresh, .list (s.order.map fun n => brD (barOf s n))]) := by
    have f1 : Dp K H7 v1 (intsL S.now.s.order) := dp_new e1 _ _ d1
    have f2 : Dp K H7 v2 (intsL (markNos S.now.s)) := dp_new e2 _ _ d2
    have f3 : Dp K H7 v3 (sheetD S.now.s.sheet) := dp_new e3 _ _ d3
    have f4 : Dp K H7 v4 (tipD S.now.s.fresh) := dp_new e4 _ _ d4
    have f5 : Dp K H7 v5 (.list (S.now.s.order.map fun n => brD (barOf S.now.s n))) := dp_new e5 _ _ d5
    rw [r.order] at f1 f5
    rw [rel_marks r] at f2
    rw [r.sheet] at f3
    rw [r.fresh] at f4
    rw [rel_bar r] at f5
    exact .lst (SqL.of ht) (.cons f1 (.cons f2 (.cons f3 (.cons f4 (.cons f5 .nil)))))
  have hD7 : H7 D = some (.lst (s.order.map .int)) := (c2.trans (c3.trans (c4.trans (c5.trans (c6.trans c7))))).keep _ _ hD (by simp)
  clear e1 e2 e3 e4 e5 d1 d2 d3 d4 d5 c2 c3 c4 c5 c6 c7 ht
  -- due
  have hm7 := b7.keep _ _ hm (by simp)
  refine ⟨_, rfl, _, rfl, m, _, rfl, dg_spans hm7, c.sp, kp, s.spans.map (·.1), rfl, .inl (b7.keep _ _ hp1 (by simp)), kv_keys hp2, by rw [List.length_map]; omega, fun ys' p hperm hsort np => ?_⟩
  rw [markNos_of hperm hsort]
  have c8 : But [] H7 (upd H7 p (.lst ((markNos s).map .int))) := But.refl.new np
  have hp8 : (upd H7 p (.lst ((markNos s).map .int))) p = some (.lst ((markNos s).map .int)) := upd_same
  generalize upd H7 p (.lst ((markNos s).map .int)) = H8 at c8 hp8
  have b8 := b7.trans c8
  have hm8 := b8.keep _ _ hm (by simp)
  have hD8 := c8.keep _ _ hD7 (by simp)
  refine ⟨_, rfl, m, _, rfl, dg_sheet hm8, _, rfl, m, _, rfl, dg_fresh hm8, _, rfl, D, rfl, ⟨_, SqL.of hD8⟩, fun D2 nD2 => ?_⟩
  refine lc_ints (K := K) (g := fun n => brD (barOf s n)) nD2 (SqL.of hD8) (by omega) (fun _ => tup_br _) (fun _ => rfl) (fun n hn H' b Q' q => ?_) fun H9 ys c9 hD2 dys => ?_
  · have hM' := hM.new (b8.trans b)
    obtain ⟨v, g1, g2⟩ := hM'.bar ((gs.keys n).mp hn)
    exact ⟨_, rfl, m, _, rfl, dg_music ((b8.trans b).keep _ _ hm (by simp)), _, rfl, c.mu, _, rfl, g1, q v H' But.refl g2⟩
  have b9 := b8.trans c9
  refine ⟨by show 5 ≤ sizeLine; decide, fun u nu => ?_⟩
  have c10 : But [] H9 (upd H9 u (.lst [.ref D, .ref p, ws, wf, .ref D2])) := But.refl.new nu
  have hu : (upd H9 u (.lst [.ref D, .ref p, ws, wf, .ref D2])) u = some (.lst [.ref D, .ref p, ws, wf, .ref D2]) := upd_same
  generalize upd H9 u (.lst [.ref D, .ref p, ws, wf, .ref D2]) = H10 at c10 hu
  have b10 := b9.trans c10
  have hD10 := (c9.trans c10).keep _ _ hD8 (by simp)
  have dU : Dp K H10 (.ref u) (.list [intsL s.order, intsL (markNos s), sheetD s.sheet, tipD s.fresh, .list (s.order.map fun n => brD (barOf s n))]) :=
    .lst (SqL.of hu) (.cons (.lst (SqL.of hD10) (dpa_ints _)) (.cons (.lst (SqL.of ((c9.trans c10).keep _ _ hp8 (by simp))) (dpa_ints _)) (.cons (dp_new b10 _ _ hw1) (.cons (dp_new b10 _ _ hw2) (.cons (.lst (SqL.of (c10.keep _ _ hD2 (by simp))) (dps_new c10 _ _ dys)) .nil)))))
  have dF10 := dp_new (c8.trans (c9.trans c10)) _ _ dF
  have th : Thin 6 (.list [intsL s.order, intsL (markNos s), sheetD s.sheet, tipD s.fresh, .list (s.order.map fun n => brD (barOf s n))]) := .lst 5 _ (by show 5 ≤ 1000; decide) fun d hd => by
    simp only [List.mem_cons, List.not_mem_nil, or_false] at hd
    rcases hd with rfl | rfl | rfl | rfl | rfl
    · exact Thin.ints (by omega)
    · exact Thin.ints (by omega)
    · exact thin_sheet (by rw [gs.sh]; decide)
    · exact thin_tip _
    · refine .lst 4 _ (by rw [List.length_map]; omega) fun d hd => ?_
      obtain ⟨n, _, rfl⟩ := List.mem_map.mp hd
      exact thin_br (n := 0) (br_of gs n) (by have := bar_len gs n; omega)
  refine ⟨_, rfl, _, rfl, _, _, _, rfl, th, dF10, dU, fun H11 c11 => ⟨_, rfl, iteF ?_⟩⟩
  have b11 := b10.trans c11
  have hD11 := c11.keep _ _ hD10 (by simp)
  clear dF10 dU dF th hD10 hD8 hD7 hD2 hu hp8 dys
  -- its length, its truth
  refine ⟨_, rfl, x, dx, _, rfl, b11.keep _ _ hx (by simp), x, S, N, rfl, hS.new b11, gp, hl, fun v H12 c12 d => ⟨(S.now.s.order.length : Int), dp_int d, by omega, by have := gp.few; omega, ?_⟩⟩
  have b12 := b11.trans c12
  refine ⟨_, rfl, x, dx, _, rfl, b12.keep _ _ hx (by simp), x, S, N, rfl, hS.new b12, gp, hl, fun v H13 c13 d => ⟨(S.now.s.order.length : Int), dp_int d, by omega, by have := gp.few; omega, ?_⟩⟩
  have b13 := b12.trans c13
  rw [r.order]
  refine ⟨by show 2 ≤ sizeLine; decide, fun t nt => ?_⟩
  have c14 : But [] H13 (upd H13 t (.lst [.int (s.order.length : Nat), .bl (((s.order.length : Nat) : Int) != 0)])) := But.refl.new nt
  have ht : (upd H13 t (.lst [.int (s.order.length : Nat), .bl (((s.order.length : Nat) : Int) != 0)])) t = some (.lst [.int (s.order.length : Nat), .bl (((s.order.length : Nat) : Int) != 0)]) := upd_same
  generalize upd H13 t (.lst [.int (s.order.length : Nat), .bl (((s.order.length : Nat) : Int) != 0)]) = H14 at c14 ht
  have b14 := b13.trans c14
  have hD14 := (c12.trans (c13.trans c14)).keep _ _ hD11 (by simp)
  refine ⟨_, rfl, D, _, rfl, .inl (SqL.of hD14), _, rfl, by decide, fun u nu => ⟨.list (s.order.map .int), .list [], ?_, ?_, shp_ints _, rfl, ?_⟩⟩
  · exact .lst (SqL.of ((But.refl.new nu).keep _ _ hD14 (by simp))) (dpa_ints _)
  · exact .lst (SqL.of upd_same) .nil
  rw [eqv_nilL, List.length_map]
  have eb : (!(s.order.map PyData.int).isEmpty) = (((s.order.length : Nat) : Int) != 0) := by
    cases s.order with
    | nil => rfl
    | cons a l =>
      show true = _
      have : ((((a :: l).length : Nat) : Int) != 0) = true := by
        rw [bne_iff_ne, List.length_cons]; omega
      rw [this]
  rw [eb]
  have c15 : But [] H14 (upd H14 u (.lst [])) := But.refl.new nu
  generalize upd H14 u (.lst []) = H15 at c15
  have b15 := b14.trans c15
  refine ⟨by show 2 ≤ sizeLine; decide, fun z nz => ?_⟩
  have c16 : But [] H15 (upd H15 z (.lst [.int (s.order.length : Nat), .bl (((s.order.length : Nat) : Int) != 0)])) := But.refl.new nz
  have hz : (upd H15 z (.lst [.int (s.order.length : Nat), .bl (((s.order.length : Nat) : Int) != 0)])) z = some (.lst [.int (s.order.length : Nat), .bl (((s.order.length : Nat) : Int) != 0)]) := upd_same
  generalize upd H15 z (.lst [.int (s.order.length : Nat), .bl (((s.order.length : Nat) : Int) != 0)]) = H16 at c16 hz
  have b16 := b15.trans c16
  refine ⟨.ref t, .ref z, .list [.int (s.order.length : Nat), .bool (((s.order.length : Nat) : Int) != 0)], rfl, .lst 5 _ (by show 2 ≤ 1000; decide) (fun d hd => ?_), .lst (SqL.of ((c15.trans c16).keep _ _ ht (by simp))) (.cons (.int _) (.cons (.bl _) .nil)), .lst (SqL.of hz) (.cons (.int _) (.cons (.bl _) .nil)), fun H17 c17 => ⟨_, rfl, iteF ?_⟩⟩
  · simp only [List.mem_cons, List.not_mem_nil, or_false] at hd
    rcases hd with rfl | rfl
    · exact .int _ _
    · exact .bl _ _
  have b17 := b16.trans c17
  have hD17 := (c15.trans (c16.trans c17)).keep _ _ hD14 (by simp)
  clear ht hz hD14 hD11
  -- the words
  refine ⟨_, rfl, D, rfl, ⟨_, SqL.of hD17⟩, fun D3 nD3 => ?_⟩
  refine lc_ints (K := K) (g := fun n => .str (boundOf s n)) nD3 (SqL.of hD17) (by omega) (fun _ => rfl) (fun _ => rfl) (fun n hn H' b Q' q => ?_) fun H18 ys c18 hD3 dys => ?_
  · have bb := b17.trans b
    obtain ⟨ks, g1, g2, g3⟩ := (hM.new bb).word n
    refine ⟨_, rfl, m, _, rfl, dg_bound (bb.keep _ _ hm (by simp)), c.bo, rfl, .inl ⟨ks, .inl g1⟩, _, rfl, _, g2, ?_⟩
    rw [g3]
    exact q _ H' But.refl (.str _)
  have ey := dpa_strs_inv dys
  subst ey
  have b18 := b17.trans c18
  have hD18 := c18.keep _ _ hD17 (by simp)
  have dW : Dp K H18 (.ref D3) (.list (s.order.map fun n => .str (boundOf s n))) := .lst (SqL.of hD3) dys
  refine ⟨_, rfl, D, rfl, ⟨_, SqL.of hD18⟩, fun D4 nD4 => ?_⟩
  refine lc_ints (K := K) (g := fun n => .str (boundOf s n)) nD4 (SqL.of hD18) (by omega) (fun _ => rfl) (fun _ => rfl) (fun n hn H' b Q' q => ?_) fun H19 ys c19 hD4 dys => ?_
  · have bb := b18.trans b
    refine ⟨_, rfl, x, dx, _, rfl, bb.keep _ _ hx (by simp), rfl, _, rfl, x, S, N, n, rfl, hS.new bb, gp, by rw [← r.order] at hn; exact hn, fun y H4 b4 dy => q y H4 b4 ?_⟩
    have dy : Dp K H4 y (.str (boundOf S.now.s n)) := dy
    rw [rel_bound r] at dy
    exact dy
  have b19 := b18.trans c19
  have thW : Thin 6 (.list (s.order.map fun n => .str (boundOf s n))) := .lst 5 _ (by rw [List.length_map]; omega) fun d hd => by
    obtain ⟨n, _, rfl⟩ := List.mem_map.mp hd
    exact .str _ _
  refine ⟨_, rfl, .ref D4, .ref D3, .list (s.order.map fun n => .str (boundOf s n)), rfl, thW, .lst (SqL.of hD4) dys, dp_new c19 _ _ dW, fun H20 c20 => ⟨_, rfl, iteF ?_⟩⟩
  have b20 := b19.trans c20
  have hD20 := (c19.trans c20).keep _ _ hD18 (by simp)
  have hW20 := (c19.trans c20).keep _ _ hD3 (by simp)
  clear hD4 dys dW hD18 hD17 thW hD3
  -- the bars
  refine ⟨_, rfl, D, rfl, ⟨_, SqL.of hD20⟩, fun D5 nD5 => ?_⟩
  refine lc_ints (K := K) (g := fun n => brD (barOf s n)) nD5 (SqL.of hD20) (by omega) (fun _ => tup_br _) (fun _ => rfl) (fun n hn H' b Q' q => ?_) fun H21 ys c21 hD5 dys => ?_
  · have bb := b20.trans b
    refine ⟨_, rfl, x, dx, _, rfl, bb.keep _ _ hx (by simp), rfl, _, rfl, x, S, N, n, rfl, hS.new bb, gp, by rw [← r.order] at hn; exact hn, fun y H4 b4 dy => q y H4 b4 ?_⟩
    have dy : Dp K H4 y (brD (barOf S.now.s n)) := dy
    rw [rel_bar r] at dy
    exact dy
  have b21 := b20.trans c21
  have hD21 := c21.keep _ _ hD20 (by simp)
  refine ⟨_, rfl, D, rfl, ⟨_, SqL.of hD21⟩, fun D6 nD6 => ?_⟩
  refine lc_ints (K := K) (g := fun n => brD (barOf s n)) nD6 (SqL.of hD21) (by omega) (fun _ => tup_br _) (fun _ => rfl) (fun n hn H' b Q' q => ?_) fun H22 ys2 c22 hD6 dys2 => ?_
  · have bb := b21.trans b
    obtain ⟨v, g1, g2⟩ := (hM.new bb).bar ((gs.keys n).mp hn)
    exact ⟨_, rfl, m, _, rfl, dg_music (bb.keep _ _ hm (by simp)), _, rfl, c.mu, _, rfl, g1, q v H' But.refl g2⟩
  have b22 := b21.trans c22
  have thB : Thin 6 (.list (s.order.map fun n => brD (barOf s n))) := .lst 5 _ (by rw [List.length_map]; omega) fun d hd => by
    obtain ⟨n, _, rfl⟩ := List.mem_map.mp hd
    exact thin_br (n := 1) (br_of gs n) (by have := bar_len gs n; omega)
  refine ⟨.ref D5, .ref D6, _, rfl, thB, .lst (SqL.of (c22.keep _ _ hD5 (by simp))) (dps_new c22 _ _ dys), .lst (SqL.of hD6) dys2, fun H23 c23 => ⟨_, rfl, iteF ?_⟩⟩
  have b23 := b22.trans c23
  have hD23 := (c22.trans c23).keep _ _ hD21 (by simp)
  have hW23 := (c21.trans (c22.trans c23)).keep _ _ hW20 (by simp)
  clear hD5 hD6 dys dys2 thB hD21 hD20 hW20
  -- the marks
  have hm23 := b23.keep _ _ hm (by simp)
  refine ⟨_, rfl, m, _, rfl, dg_spans hm23, c.sp, kp, s.spans.map (·.1), rfl, .inl (b23.keep _ _ hp1 (by simp)), kv_keys hp2, by rw [List.length_map]; omega, fun ys' p hperm hsort np => ?_⟩
  rw [markNos_of hperm hsort]
  have c24 : But [] H23 (upd H23 p (.lst ((markNos s).map .int))) := But.refl.new np
  have hp24 : (upd H23 p (.lst ((markNos s).map .int))) p = some (.lst ((markNos s).map .int)) := upd_same
  refine ⟨p, rfl, ⟨_, SqL.of hp24⟩, fun D7 nD7 => ?_⟩
  generalize upd H23 p (.lst ((markNos s).map .int)) = H24 at c24 hp24 nD7
  have b24 := b23.trans c24
  refine lc_ints (K := K) (g := fun n => spanD (spanOf s n)) nD7 (SqL.of hp24) (by omega) (fun _ => tup_span _) (fun _ => rfl) (fun n hn H' b Q' q => ?_) fun H25 ys c25 hD7 dys => ?_
  · have bb := b24.trans b
    refine ⟨_, rfl, x, dx, _, rfl, bb.keep _ _ hx (by simp), rfl, _, rfl, x, S, N, n, rfl, hS.new bb, gp, (by show n ∈ S.now.s.spans.map (·.1); rw [r.spans]; exact mem_markNos.mp hn), fun y H4 b4 dy => q y H4 b4 ?_⟩
    have dy : Dp K H4 y (spanD (spanOf S.now.s n)) := dy
    rw [rel_span r] at dy
    exact dy
  have b25 := b24.trans c25
  have hm25 := b25.keep _ _ hm (by simp)
  refine ⟨_, rfl, m, _, rfl, dg_spans hm25, c.sp, kp, s.spans.map (·.1), rfl, .inl (b25.keep _ _ hp1 (by simp)), kv_keys hp2, by rw [List.length_map]; omega, fun ys' p2 hperm hsort np => ?_⟩
  rw [markNos_of hperm hsort]
  have c26 : But [] H25 (upd H25 p2 (.lst ((markNos s).map .int))) := But.refl.new np
  have hp26 : (upd H25 p2 (.lst ((markNos s).map .int))) p2 = some (.lst ((markNos s).map .int)) := upd_same
  refine ⟨p2, rfl, ⟨_, SqL.of hp26⟩, fun D8 nD8 => ?_⟩
  generalize upd H25 p2 (.lst ((markNos s).map .int)) = H26 at c26 hp26 nD8
  have b26 := b25.trans c26
  refine lc_ints (K := K) (g := fun n => spanD (spanOf s n)) nD8 (SqL.of hp26) (by omega) (fun _ => tup_span _) (fun _ => rfl) (fun n hn H' b Q' q => ?_) fun H27 ys2 c27 hD8 dys2 => ?_
  · have bb := b26.trans b
    obtain ⟨v, g1, g2⟩ := (hM.new bb).span (mem_markNos.mp hn)
    exact ⟨_, rfl, m, _, rfl, dg_spans (bb.keep _ _ hm (by simp)), _, rfl, c.sp, _, rfl, g1, q v H' But.refl g2⟩
  have b27 := b26.trans c27
  have thS : Thin 6 (.list ((markNos s).map fun n => spanD (spanOf s n))) := .lst 5 _ (by rw [List.length_map]; omega) fun d hd => by
    obtain ⟨n, _, rfl⟩ := List.mem_map.mp hd
    exact thin_span (n := 3) _
  have c267 := c26.trans c27
  refine ⟨.ref D7, .ref D8, _, rfl, thS, .lst (SqL.of (c267.keep _ _ hD7 (by simp))) (dps_new c267 _ _ dys), .lst (SqL.of hD8) dys2, fun H28 c28 => ⟨_, rfl, iteF ?_⟩⟩
  have b28 := b27.trans c28
  have c238 := c24.trans (c25.trans (c267.trans c28))
  have hD28 := c238.keep _ _ hD23 (by simp)
  have hW28 := c238.keep _ _ hW23 (by simp)
  clear hD7 hD8 dys dys2 thS hp24 hp26 hm23 hm25 hD23 hW23 c238 c267
  -- the ends
  have lw : ((s.order.map fun n => V.str (boundOf s n)).length) = s.order.length := by rw [List.length_map]
  refine ⟨_, rfl, D3, _, rfl, .inl (SqL.of hW28), 1, _, rfl, ⟨by decide, by decide, by rw [lw]; omega, by rw [lw]; omega⟩, fun D9 nD9 => ?_⟩
  rw [lw]
  have tupE : ∀ i, tupDs (endsT s i) = true := fun i => tup_of fun d hd => by
    obtain ⟨j, _, hd⟩ := List.mem_flatMap.mp hd
    cases e : s.order[j]? with
    | none => rw [e] at hd; cases hd
    | some n =>
      rw [e] at hd
      dsimp only at hd
      split at hd
      · rw [List.mem_singleton.mp hd]; rfl
      · cases hd
  refine lc_range (lo := 1) (n := ((s.order.length : Int) - 1).toNat) (fun i H2 => ∃ ys, Acc K [] (upd H28 D9 (.lst [])) D9 (endsT s (i + 1)) H2 ys) ⟨_, by rw [endsT_one]; exact Acc.start upd_same (by simp)⟩ ?_ ?_
  · rintro i H2 hi ⟨ys, ac⟩
    have hi' : i + 1 < s.order.length := by omega
    have c29 : But [] H28 (upd H28 D9 (.lst [])) := But.refl.new nD9
    have bb : But [] H28 H2 := c29.thn ac.but fun x hx => .inr (by rw [show x = D9 by simpa using hx]; exact nD9)
    have hn : s.order[i + 1]? = some s.order[i + 1] := List.getElem?_eq_getElem hi'
    have q1 : atI (s.order.map fun n => V.str (boundOf s n)) ((1 : Int) + (i : Nat)) = some (.str (boundOf s s.order[i + 1])) := by
      rw [show (1 : Int) + (i : Nat) = ((i + 1 : Nat) : Int) by omega]
      exact atI_nat (by rw [List.getElem?_map, hn]; rfl)
    generalize s.order[i + 1] = n at hn q1
    have hW2 := SqL.of (K := K) (bb.keep _ _ hW28 (by simp))
    have hlen := dpa_length ac.da
    have le := endsT_len s (i + 1)
    refine ⟨rfl, _, rfl, _, rfl, D3, _, _, _, rfl, rfl, hW2, q1, rfl, _, rfl, ?_⟩
    dsimp only
    refine ite2 (fun e4 => ?_) (fun e4 => ?_)
    · have c4 : boundOf s n ≠ "free" := fun z => by rw [z] at e4; simp at e4
      refine ⟨_, rfl, _, rfl, _, rfl, D3, _, _, _, rfl, rfl, hW2, q1, ⟨by show 2 ≤ sizeLine; decide, fun t nt => ?_⟩⟩
      have bt : But [] H2 (upd H2 t (.tup [.int (1 + (i : Nat)), .str (boundOf s n)])) := But.refl.new nt
      obtain ⟨hD, ac'⟩ := ac.push (y := .ref t) (d := .tuple [.int (1 + (i : Nat)), .str (boundOf s n)]) bt (by simp) (.tup (SqT.of upd_same) (.cons (.int _) (.cons (.str _) .nil))) (tupE (i + 1)) rfl
      refine ⟨_, hD, by rw [sizeLine_eq]; omega, ys ++ [.ref t], ?_⟩
      rw [endsT_succ, hn]
      dsimp only
      rw [if_pos ⟨by omega, c4⟩, show ((i + 1 : Nat) : Int) = 1 + (i : Nat) by omega]
      exact ac'
    · have c4 : boundOf s n = "free" := by
        have : decide (V.str (boundOf s n) = V.str "free") = true := by simpa using e4
        exact V.str.inj (of_decide_eq_true this)
      refine ⟨ys, ?_⟩
      rw [endsT_succ, hn]
      dsimp only
      rw [if_neg (fun z => z.2 c4), List.append_nil]
      exact ac
  · rintro H2 ⟨ys, ac⟩
    rw [endsT_all] at ac
    have c29 : But [] H28 (upd H28 D9 (.lst [])) := But.refl.new nD9
    have bb : But [] H28 H2 := c29.thn ac.but fun x hx => .inr (by rw [show x = D9 by simpa using hx]; exact nD9)
    have b29 := b28.trans bb
    have hD29 := bb.keep _ _ hD28 (by simp)
    have hm29 := b29.keep _ _ hm (by simp)
    have l1 := txt_len s.order.length (by omega)
    have l2 := txt_len s.spans.length (by omega)
    have e1 : ("Shop(" : Str).length = 5 := by decide +kernel
    have e2 : (" bars, " : Str).length = 7 := by decide +kernel
    have e3 : (" marks)" : Str).length = 7 := by decide +kernel
    refine ⟨_, rfl, D, _, rfl, .inl (SqL.of hD29), _, rfl, (by rw [List.length_map]; exact log_small (by omega)), ?_⟩
    rw [List.length_map]
    refine ⟨_, _, rfl, rfl, (by rw [e1, sizeLine_eq]; omega), _, _, rfl, rfl, (by rw [str_len, e1, e2, sizeLine_eq]; omega), ?_⟩
    refine ⟨_, rfl, m, _, rfl, dg_spans hm29, c.sp, kp, rfl, b29.keep _ _ hp1 (by simp), _, rfl, (by rw [kv_len hp2]; exact log_small (by omega)), ?_⟩
    rw [kv_len hp2]
    refine ⟨_, _, rfl, rfl, (by rw [str_len, str_len, e1, e2, sizeLine_eq]; omega), _, _, rfl, rfl, (by rw [str_len, str_len, str_len, e1, e2, e3, sizeLine_eq]; omega), ?_⟩
    refine ⟨_, rfl, x, dx, _, rfl, b29.keep _ _ hx (by simp), rfl, x, S, N, rfl, hS.new b29, gp, hl, fun v H30 c30 d => ?_⟩
    have b30 := b29.trans c30
    have d : Dp K H30 v (.list (endsT S.now.s S.now.s.order.length)) := d
    rw [rel_ends r, r.order] at d
    have thE : Thin 6 (.list (endsT s s.order.length)) := .lst 5 _ (by have := endsT_len s s.order.length; omega) fun d hd => by
      obtain ⟨j, _, hd⟩ := List.mem_flatMap.mp hd
      cases e : s.order[j]? with
      | none => rw [e] at hd; cases hd
      | some n =>
        rw [e] at hd
        dsimp only at hd
        split at hd
        · rw [List.mem_singleton.mp hd]
          refine .tup 4 _ (by show 2 ≤ 1000; decide) fun d hd => ?_
          simp only [List.mem_cons, List.not_mem_nil, or_false] at hd
          rcases hd with rfl | rfl
          · exact .int _ _
          · exact .str _ _
        · cases hd
    refine ⟨_, rfl, v, .ref D9, _, rfl, thE, d, .lst (SqL.of (c30.keep _ _ ac.at_ (by simp))) (dps_but c30 _ _ (tupE _) ac.da), fun H31 c31 => ?_⟩
    have b31 := b30.trans c31
    refine ⟨_, rfl, ?_⟩
    rw [if_pos rfl]
    refine ⟨_, rfl, x, dx, _, rfl, b31.keep _ _ hx (by simp), x, S, N, rfl, hS.new b31, gp, hl, fun v H32 c32 d => ⟨shopText S.now.s, dp_str d, ?_⟩⟩
    have b32 := b31.trans c32
    have et : shopText s = (("Shop(" : Str) ++ (toString (s.order.length : Int) : Str) ++ (" bars, " : Str) ++ (toString (s.spans.length : Int) : Str) ++ (" marks)" : Str)) := rfl
    rw [← rel_text r] at et
    refine ⟨_, rfl, .str (shopText S.now.s), .str (shopText S.now.s), .str (shopText S.now.s), ?_, .str _ _, .str _, .str _, fun H33 c33 => k _ (b32.trans c33)⟩
    rw [et]; rfl
end Bu
set_option Elab.async false
set_option linter.all false
set_option maxRecDepth 100000
set_option maxHeartbeats 4000000
/-! A lambda handed over: what stays, told by But; what is tried. -/
namespace Bu
open PySem PySem.Spec PyProof.Rows L2
open LamX (Tabs TabS TabB CodeO LamS lamCx lamEnv)
/-- no table, no code object -/
def Soft (H : Hp) (M : List Addr) : Prop := ∀ x ∈ M, ∀ o, H x = some o → (∀ ps, o ≠ .tbl ps) ∧ ∀ f, o ≠ .ext f
theorem Soft.nil {H : Hp} : Soft H [] := fun _ h => absurd h (by simp)
theorem tabS_but {M : List Addr} {H H' : Hp} {P : Addr} {q : Str} (t : TabS H P q) (b : But M H H') (n : Soft H M) : TabS H' P q := by
  obtain ⟨ps, h1, h2, h3⟩ := t
  refine ⟨ps, b.keep _ _ h1 fun z => (n _ z _ h1).1 ps rfl, h2, fun pos cv hc => ?_⟩
  obtain ⟨c, e1, e2⟩ := h3 pos cv hc
  exact ⟨c, e1, b.keep _ _ e2 fun z => (n _ z _ e2).2 _ rfl⟩
theorem tabs_but {M : List Addr} {T : List (Addr × Str)} {H H' : Hp} (t : Tabs T H) (b : But M H H') (n : Soft H M) : Tabs T H' := fun p hp => tabS_but (t p hp) b n
section
variable {X : Cx} {pins : List (Addr × Obj)} {σ : L2.St} {H : Hp} {s : Shared}
theorem lam_mk {T : List (Addr × Str)} {c P : Addr} {params : Arguments} {body : Expr} {scope : Scope} {pos : Pos} {E : Value → Shared → Prop} {Q : Value → Shared → Prop} (I : Inv X pins σ H s) (TB : TabB X.base X.mg c P) (hcode : X.env.code = .ref c)
    (hm : (P, X.env.qual ++ "<lambda>") ∈ T) (hu : ∀ p ∈ T, p.1 = P → p.2 = X.env.qual ++ "<lambda>") (hT : Tabs T H) (hdef : defaultsOf params X.env = ([], [])) (hfree : ∀ y ∈ scope.names, y.2 = .free → ∃ c, X.env.cells.lookup y.1 = some c)
    (h : ∀ (f c' : Addr) (pm ctv : Value) (H1 : Hp) (s' : Shared), Inv X pins σ H1 s' → But [P] H H1 → Tabs T H1 →
      s'.heap.get? f = some (PySem.W.kla_obj "<lambda>" (X.env.qual ++ "<lambda>") params body scope (cloFrom X.env.cells scope.names []) pm c' ctv) → H1 f = none → f ∉ frs X.stack → H1 c' = some (CodeO c' (X.env.qual ++ "<lambda>")) → Q (.ref f) s') :
    wpAny (model X.prog X.w) X.A (eval (.Lambda params body scope pos) X.env) Q E s := by
  obtain ⟨ps, hP, ht, ha⟩ := hT _ hm
  have ntP : ∀ xs, ¬ Rd H P (.tup xs) := fun xs r => by
    rcases r with r | ⟨u, r⟩ <;> rw [hP] at r <;> cases r
  refine PySem.W.kla_eval hdef ?_
  have bP : s.heap.BuiltinsAt X.mg P := TB.bm.keeps I.bk
  have hP' : s.heap.get? P = some { cls := .none, data := .fields ps } := I.hok P _ hP
  have far : ∀ f, s.heap.objs.size ≤ f → f ∉ frs X.stack := fun f hf z => by
    rcases List.mem_cons.mp (I.stkSub _ z) with e | e
    · have h1 := I.lt
      rw [← e] at h1
      exact Nat.lt_irrefl _ (Nat.lt_of_lt_of_le h1 hf)
    · exact I.nofs hf e
  cases hc : codeAmong pos ps.toList with
  | some cv =>
    obtain ⟨c', rfl, hco⟩ := ha pos cv hc
    refine PySem.W.kla_makeFunctionHit (mg := X.mg) (c := c) (P := P) (ps := ps) (closure_ok hfree) I.ok.glob (I.mod.glob.keeps I.bk) hcode (TB.code.keeps I.bk) hP' ht hc bP fun ctv h' tk hx hsz => ?_
    exact h _ c' _ ctv H _ (I.kept fun b o e => Heap.get?_push_of_some _ (hx b o e)) (But.nil _ fun x hx => by rw [show x = P by simpa using hx]; exact ntP) hT (Heap.get?_push_size _ rfl) (I.hok.fresh hsz) (far _ hsz) hco
  | none =>
    refine PySem.W.kla_makeFunction (mg := X.mg) (c := c) (P := P) (ps := ps) (closure_ok hfree) I.ok.glob (I.mod.glob.keeps I.bk) hcode (TB.code.keeps I.bk) hP' ht hc TB.gP bP fun c' ctv h' tk hx hge hlt hrec htb => ?_
    obtain ⟨c2, oc, vs, t, e2, hoc, hd, hv⟩ := hrec
    cases e2
    have hsz : s.heap.objs.size ≤ h'.objs.size := by omega
    have nC : H c' = none := I.hok.fresh hge
    have hb : But [P] H (upd (upd H P (.tbl (ps ++ #[rawInt pos.line, rawInt pos.col, .ref c']))) c' (CodeO c' (X.env.qual ++ "<lambda>"))) := (But.one ntP).young nC
    have hcP : P ≠ c' := fun z => by rw [← z, hP] at nC; cases nC
    have eL : (ps ++ #[rawInt pos.line, rawInt pos.col, .ref c']).toList = ps.toList ++ [rawInt pos.line, rawInt pos.col, .ref c'] := by simp
    have keepC : ∀ {d : Addr} {q : Str}, H d = some (CodeO d q) → (upd (upd H P (.tbl (ps ++ #[rawInt pos.line, rawInt pos.col, .ref c']))) c' (CodeO c' (X.env.qual ++ "<lambda>"))) d = some (CodeO d q) := fun {d q} e => hb.keep _ _ e fun z => by
      rw [show d = P by simpa using z, hP] at e
      exact LamX.codeO_ne ps (Option.some.inj e).symm
    refine h h'.objs.size c' ((X.mg "__name__").getD .none) ctv _ _ (LamX.inv_table (t' := tk) (more := #[rawInt pos.line, rawInt pos.col, .ref c']) I hP (fun b o hb e => Heap.get?_push_of_some _ (hx b o hb e)) (Heap.get?_push_of_some _ htb) hge ⟨oc, vs, t, Heap.get?_push_of_some _ hoc, hd, hv⟩) hb (fun p hp => ?_) (Heap.get?_push_size _ rfl) ?_ (far _ hsz) upd_same
    · by_cases e : p.1 = P
      · rw [hu p hp e, e]
        refine ⟨_, (upd_ne hcP).trans upd_same, by rw [eL]; exact PySem.TriplesOk_snoc _ _ _ _ ht, fun p' cv hcv => ?_⟩
        rw [eL] at hcv
        rcases LamX.among_app _ ht hcv with z | z
        · obtain ⟨c0, e1, e2⟩ := ha p' cv z
          exact ⟨c0, e1, keepC e2⟩
        · exact ⟨c', z, upd_same⟩
      · obtain ⟨qs, a1, a2, a3⟩ := hT p hp
        refine ⟨qs, hb.keep _ _ a1 (by simpa using e), a2, fun p' cv hcv => ?_⟩
        obtain ⟨c0, e1, e2⟩ := a3 p' cv hcv
        exact ⟨c0, e1, keepC e2⟩
    · have n1 : h'.objs.size ≠ c' := by omega
      have n2 : h'.objs.size ≠ P := Nat.ne_of_gt (Nat.lt_of_lt_of_le (Heap.lt_size hP') hsz)
      rw [upd_ne n1, upd_ne n2]
      exact I.hok.fresh hsz
end
section
variable {X : Cx} {pins : List (Addr × Obj)} {σ : L2.St} {H : Hp} {s : Shared}
/-- x() of a lambda handed over; what it lets out is wished for by the state it is called in -/
theorem pe_actS {CXg : CXT} {Eg : XK} {Ng : List Str} {qg : Str} {sg : Scope} {g f c' : Addr} {cdg pm ctv : Value} {params : Arguments} {body : Expr} {scope : Scope} {k i : Nat} {a : Str} {pn : List (Addr × Obj)} {xe : Value → Shared → Prop} {W : WX} {tb : XK → TE} {p1 p2 : Pos}
    (I : Inv X pins σ H s) (L : LamS X.env.scope scope) (hf : s.heap.get? f = some (PySem.W.kla_obj "<lambda>" (X.env.qual ++ "<lambda>") params body scope (cloFrom X.env.cells scope.names []) pm c' ctv)) (hfn : H f = none) (hfr : f ∉ frs X.stack)
    (hbind : bindArgs (PySem.W.kla_fn "<lambda>" (X.env.qual ++ "<lambda>") params body scope (cloFrom X.env.cells scope.names []) pm (.ref c') ctv) ⟨[], []⟩ = pure [])
    (tk : Takes ((cxOf CXg X.prog X.w X.K X.mg X.base Ng qg sg g cdg X.A X.stack s H Eg).tr pn xe) W) (hr : Room (k + 1) (X.A.deeper (envOfC qg sg s.heap.objs.size g cdg)))
    (hbody : ∀ (E : XK) (A : Around) (outer : List Env) (s : Shared) (H : Hp), Room k (A.deeper (lamEnv X scope s.heap.objs.size f c')) → PE (lamCx X A outer s H E scope f c') body (tb E))
    (hN : Ng[i]? = some a) (hv : Vis sg a) (hd : (a == ("__debug__" : Str)) = false) (hcd : (a == ("__classdict__" : Str)) = false) :
    PE ((cxOf CXg X.prog X.w X.K X.mg X.base Ng qg sg g cdg X.A X.stack s H Eg).tr pn xe) (.Call (.Name a p1) [] [] p2)
      (fun σZ HZ Q => σZ[i]? = some (some (.ref f)) ∧ HZ c' = some (CodeO c' (X.env.qual ++ "<lambda>")) ∧ ∃ E : XK, (∀ cls d H', E cls d H' → W cls d σZ H') ∧ tb E σ HZ Q) := by
  refine ⟨fun pz sz σz Hz Q J h => ?_⟩
  obtain ⟨hs, hc, E, hE, ht⟩ := h
  refine wpAny_Call_Name_kw (thn ((pe_var (pos := p1) (i := i) hN hv hd hcd).run pz sz σz Hz (fun v H1 => v = .ref f ∧ H1 = Hz) J ⟨.ref f, hs, rfl, rfl⟩) fun u s1 ⟨v, H1, J1, r1, ev, eH⟩ => ?_)
  subst ev
  subst eH
  obtain rfl : u = Value.ref f := r1
  have hf1 := J1.base.keep f _ hf hfn hfr (fun z => nomatch (show f ∈ ([] : List Addr) from z))
  refine PySem.W.callWith_F0 ⟨_, _, _, _, hf1⟩ ?_
  obtain ⟨⟨oc, vs, t, hoc, hdc, hvc⟩, _, _⟩ := J1.hok c' _ hc
  have rc : codeAny (model X.prog X.w) (X.A.deeper (envOfC qg sg s.heap.objs.size g cdg)) (.call (.ref f) ⟨[], []⟩) (CR (L2.CX X.prog X.w) (envOfC qg sg s.heap.objs.size g cdg :: X.stack) X.prog X.w H1 s1 Q E) s1 := by
    refine PySem.W.kla_callFunE hr.depth hf1 rfl L.co L.gen rfl ⟨c', oc, vs, t, rfl, hoc, hdc, hvc⟩ ?_
    rw [hbind]
    refine wpAny_pure (wpAny_newFunctionEnv (fun y hy => (L.own y hy).2) (fun y hy => absurd hy (by simp)) (fun h₁ hns hsb => ⟨J1.nolimit.fresh _ hsb, ?_⟩) L.kind)
    show codeAny _ _ (.expr body (lamEnv X scope s1.heap.objs.size f c')) _ _
    have Z := LamX.lam_start2 (A := X.A.deeper (envOfC qg sg s.heap.objs.size g cdg)) (outer := envOfC qg sg s.heap.objs.size g cdg :: X.stack) (E := E) (f := f) (c' := c') (tk := s1.toks + ([] : List (Str × Value)).length) I L J1.env0 hr.hd J1.base hns fun b o e => hsb.extBut b o (Nat.ne_of_lt (Heap.lt_size e)) (Heap.get?_push_of_some _ e)
    refine PySem.W.kla_codeExpr (wpAny_mono ((hbody E _ _ s1 H1 (hr.deeper _)).run [] _ _ H1 Q Z ht) (fun v s' hq => ?_) fun e s' hq => hq)
    obtain ⟨w', H', J', rv, q⟩ := hq
    exact ⟨w', H', J'.os, J'.bare, J'.base, J'.hok, rv, q⟩
  refine wpAny_call (codeAny_mono rc fun r s' hq => ?_)
  cases r with
  | error e => exact tk e s' (XE.of_call J1 (fun cls d H' h => hE cls d H' h) hq)
  | ok fl =>
    cases fl with
    | ret u => exact J1.after hq
    | next => exact False.elim hq
    | brk => exact False.elim hq
    | cont => exact False.elim hq
end
/-- what a def with one parameter makes of a lambda: TT of the lambda's reading -/
def GivesS (X : Cx) (Ng : List Str) (x : Str) (sg : Scope) (g : Addr) (cdg : Value) (bg : List Stmt) (a : Str) (q : Str) (TT : (XK → Hp → VK → Prop) → Hp → VK → Prop) : Prop :=
  ∀ (f c' : Addr) (s : Shared) (H : Hp) (Q : VK) (tl : XK → Hp → VK → Prop),
    (∀ (W : WX) (pn : List (Addr × Obj)) (xe : Value → Shared → Prop) (p1 p2 : Pos), Takes ((cxOf C8.CX0 X.prog X.w X.K X.mg X.base Ng x sg g cdg X.A X.stack s H C8.E0).tr pn xe) W →
      PE ((cxOf C8.CX0 X.prog X.w X.K X.mg X.base Ng x sg g cdg X.A X.stack s H C8.E0).tr pn xe) (.Call (.Name a p1) [] [] p2) (fun σZ HZ Q => σZ[0]? = some (some (.ref f)) ∧ HZ c' = some (CodeO c' q) ∧ ∃ E : XK, (∀ cls d H', E cls d H' → W cls d σZ H') ∧ tl E HZ Q)) →
    H c' = some (CodeO c' q) → TT tl H Q →
    ∃ t, PSs (cxOf C8.CX0 X.prog X.w X.K X.mg X.base Ng x sg g cdg X.A X.stack s H C8.E0).nox bg t ∧ t { nx := fun _ H' => Q .non H', rt := Q } (L2.start Ng [.ref f]) H
/-- what f(lambda: ..) asks: TT is what f makes of the lambda's reading -/
def tLamB (T : List (Addr × Str)) (P : Addr) (TT : (XK → Hp → VK → Prop) → Hp → VK → Prop) (t : XK → TE) : TE := fun σ H Q => Tabs T H ∧ ∀ H1, But [P] H H1 → Tabs T H1 → TT (fun E H' Q' => t E σ H' Q') H1 Q
/-- a def with one parameter, what it makes of a lambda -/
structure CalL (X0 : Program) (w : World) (K : PySem.W.Frag) (mg : Str → Option Value) (base : Heap) (x : Str) (TT : (XK → Hp → VK → Prop) → Hp → VK → Prop) : Prop where
  ex : ∃ (g : Addr) (pg : Arguments) (bg : List Stmt) (sg : Scope) (dV kV doc pm cdv ct oc : Value) (an od : Option Addr) (osl : Array (Option Value)) (Ng : List Str) (a : Str), mg x = some (.ref g) ∧ PySem.W.keepIn K (.ref g) = true ∧
    K.lookup g = some ⟨oc, od, .func (PySem.W.fnOf x x pg bg sg dV kV doc pm an cdv ct), osl⟩ ∧ PySem.W.codeIn K cdv x = true ∧ L2.Binds K (PySem.W.fnOf x x pg bg sg dV kV doc pm an cdv ct) [a] [] ∧ FnScope Ng [a] sg ∧ Ng[0]? = some a ∧ Vis sg a ∧
    (a == ("__debug__" : Str)) = false ∧ (a == ("__classdict__" : Str)) = false ∧
    ∀ (X : Cx) (q : Str), X.prog = X0 → X.w = w → X.K = K → X.mg = mg → X.base = base → GivesS X Ng x sg g cdv bg a q TT
section
variable {X : Cx}
/-- x(lambda: body) -/
theorem pe_lam {T : List (Addr × Str)} {TT : (XK → Hp → VK → Prop) → Hp → VK → Prop} {x : Str} {c P : Addr} {k : Nat} {params : Arguments} {body : Expr} {scope : Scope} {t : XK → TE} {p lpos pos : Pos} (CL : CalL X.prog X.w X.K X.mg X.base x TT)
    (TB : TabB X.base X.mg c P) (hcode : X.env.code = .ref c) (hmT : (P, X.env.qual ++ "<lambda>") ∈ T) (hu : ∀ p ∈ T, p.1 = P → p.2 = X.env.qual ++ "<lambda>") (hr : Room (k + 2) X.A) (L : LamS X.env.scope scope) (hdef : defaultsOf params X.env = ([], []))
    (hbind : ∀ (q : Str) (cl : List (Str × Addr)) (pm cv ctv : Value), bindArgs (PySem.W.kla_fn "<lambda>" q params body scope cl pm cv ctv) ⟨[], []⟩ = pure [])
    (hbody : ∀ (A : Around) (outer : List Env) (s : Shared) (H : Hp) (E : XK) (f c' : Addr), Room k (A.deeper (lamEnv X scope s.heap.objs.size f c')) → PE (lamCx X A outer s H E scope f c') body (t E))
    (hg : Gl X x := by rfl) (hdb : (x == ("__debug__" : Str)) = false := by decide) :
    PE X (.Call (.Name x p) [.Lambda params body scope lpos] [] pos) (tLamB T P TT t) := by
  obtain ⟨g, pg, bg, sg, dV, kV, doc, pm, cdv, ct, oc, an, od, osl, Ng, a, hm, hk, lk, hcg, hb, Sg, hNg, hva, hd, hcd, hG⟩ := CL.ex
  refine ⟨fun pins s σ H Q I h => ?_⟩
  obtain ⟨hT, h⟩ := h
  refine wpAny_Call_Name_kw (ld_glob I hg hm ?_ hdb)
  refine PySem.W.callWith_K (h₀ := X.base) I.ok.mod.kin hk ?_ (by rfl) (by rfl)
  show wpAny _ _ (spliced ((false, eval (.Lambda params body scope lpos) X.env) :: backTo pos (starEach [] X.env))) _ _ s
  refine Calls.spliced_cons (lam_mk I TB hcode hmT hu hT hdef (L.has I.ok) fun f c' pm' ctv H1 s' I1 eN T1 hf hfn hfr hco => ?_)
  refine Calls.spliced_nil ⟨I1.kIn, ?_⟩
  have rc : codeAny (model X.prog X.w) X.A (.call (.ref g) ⟨[.ref f], []⟩) (CR C8.CX0 X.stack X.prog X.w H1 s' Q C8.E0) s' := by
    refine LamX.run_ofS (N := Ng) (ps := [a]) (us := [.ref f]) (vs := [.ref f]) lk hcg Sg hr I1.env0 (hb s' [.ref f] I1.kIn rfl) (.cons rfl .nil) rfl fun hr' => ?_
    obtain ⟨t', ht', hq'⟩ := hG X (X.env.qual ++ "<lambda>") rfl rfl rfl rfl rfl f c' s' H1 Q (fun E H' Q' => t E σ H' Q') (fun W pn xe p1 p2 tk => pe_actS (i := 0) I1 L hf hfn hfr (hbind _ _ _ _ _) tk hr' (fun E A outer s H hr2 => hbody A outer s H E f c' hr2) hNg hva hd hcd) hco (h H1 eN T1)
    exact ⟨t', ht'.nox, hq'⟩
  refine wpAny_call (codeAny_mono rc fun r s2 hq => ?_)
  cases r with
  | error e => exact (show False from hq).elim
  | ok fl =>
    cases fl with
    | ret u => exact I1.after hq
    | next => exact False.elim hq
    | brk => exact False.elim hq
    | cont => exact False.elim hq
end
end Bu
set_option Elab.async false
set_option linter.all false
set_option maxRecDepth 100000
set_option maxHeartbeats 4000000
/-! _law_tried. -/
namespace Bu
open PySem PySem.Spec PyProof.Rows L2
/-- what _law_tried makes of what it is asked to try -/
def okT (Q : VK) : VK := fun v H' => ∀ t, H' t = none → Q (.ref t) (upd H' t (.tup [v, .str ""]))
def excT (K : PySem.W.Frag) (Q : VK) : XK := fun cls d H' => ∃ e, ErOk e ∧ ErAt K e cls d H' ∧ ∀ t, H' t = none → Q (.ref t) (upd H' t (.tup [.non, .str e.text]))
def TTr (K : PySem.W.Frag) : (XK → Hp → VK → Prop) → Hp → VK → Prop := fun tl H Q => tl (excT K Q) H (okT Q)
abbrev n_law_tried : List Str := ["_law_ask", "_law_told", "_law_says", "e"]
theorem sc_law_tried : FnScope n_law_tried ["_law_ask"] d_law_tried.scope := C8.fnScope_by (by decide +kernel)
section
variable {P : Program} {w : World} {K : PySem.W.Frag} {mg : Str → Option Value} {base : Heap}
theorem exm_all (C : Cn w K mg) {e : Er} (h : ErOk e) : ∃ (b1 b2 b3 b4 : Bool), PySem.W.exmOne K (.ref (He.ga K e.cls)) (.ref (He.ga K "BadBar")) = some b1 ∧ PySem.W.exmOne K (.ref (He.ga K e.cls)) (.ref (He.ga K "NoBreak")) = some b2 ∧
    PySem.W.exmOne K (.ref (He.ga K e.cls)) (.ref (He.ga K "BurinError")) = some b3 ∧ PySem.W.exmOne K (.ref (He.ga K e.cls)) (.ref (He.ga K "Missing")) = some b4 ∧ b2 = false ∧
    (b1 = true → ∃ n, Small n ∧ e = eBar n) ∧ (b1 = false → b3 = true → e.num = none) ∧ (b1 = false → b3 = false → b4 = true ∧ ∃ (x y : Str) (n : Int), Small n ∧ y.length ≤ 20 ∧ e = ⟨x, y, some ("number", n)⟩) := by
  cases h with
  | plain e h =>
    simp only [List.mem_cons, List.not_mem_nil, or_false] at h
    rcases h with rfl | rfl | rfl | rfl | rfl | rfl | rfl | rfl | rfl
    · exact ⟨_, _, _, _, C.exm 165, C.exm 166, C.exm 167, C.exm 168, rfl, (fun z => by cases z), (fun _ _ => rfl), fun _ z => by cases z⟩
    · exact ⟨_, _, _, _, C.exm 137, C.exm 138, C.exm 139, C.exm 140, rfl, (fun z => by cases z), (fun _ _ => rfl), fun _ z => by cases z⟩
    · exact ⟨_, _, _, _, C.exm 141, C.exm 142, C.exm 143, C.exm 144, rfl, (fun z => by cases z), (fun _ _ => rfl), fun _ z => by cases z⟩
    · exact ⟨_, _, _, _, C.exm 145, C.exm 146, C.exm 147, C.exm 148, rfl, (fun z => by cases z), (fun _ _ => rfl), fun _ z => by cases z⟩
    · exact ⟨_, _, _, _, C.exm 149, C.exm 150, C.exm 151, C.exm 152, rfl, (fun z => by cases z), (fun _ _ => rfl), fun _ z => by cases z⟩
    · exact ⟨_, _, _, _, C.exm 153, C.exm 154, C.exm 155, C.exm 156, rfl, (fun z => by cases z), (fun _ _ => rfl), fun _ z => by cases z⟩
    · exact ⟨_, _, _, _, C.exm 157, C.exm 158, C.exm 159, C.exm 160, rfl, (fun z => by cases z), (fun _ _ => rfl), fun _ z => by cases z⟩
    · exact ⟨_, _, _, _, C.exm 161, C.exm 162, C.exm 163, C.exm 164, rfl, (fun z => by cases z), (fun _ _ => rfl), fun _ z => by cases z⟩
    · exact ⟨_, _, _, _, C.exm 133, C.exm 134, C.exm 135, C.exm 136, rfl, (fun z => by cases z), (fun _ _ => rfl), fun _ z => by cases z⟩
  | bar n h => exact ⟨_, _, _, _, C.exm 169, C.exm 170, C.exm 171, C.exm 172, rfl, (fun _ => ⟨n, h, rfl⟩), (fun z => by cases z), fun z => by cases z⟩
  | noBar n h => exact ⟨_, _, _, _, C.exm 173, C.exm 174, C.exm 175, C.exm 176, rfl, (fun z => by cases z), (fun _ z => by cases z), fun _ _ => ⟨rfl, _, _, n, h, by decide +kernel, rfl⟩⟩
  | noMoment n h => exact ⟨_, _, _, _, C.exm 177, C.exm 178, C.exm 179, C.exm 180, rfl, (fun z => by cases z), (fun _ z => by cases z), fun _ _ => ⟨rfl, _, _, n, h, by decide +kernel, rfl⟩⟩
  | noMark n h => exact ⟨_, _, _, _, C.exm 181, C.exm 182, C.exm 183, C.exm 184, rfl, (fun z => by cases z), (fun _ z => by cases z), fun _ _ => ⟨rfl, _, _, n, h, by decide +kernel, rfl⟩⟩
theorem ErOk.exf (C : Cn w K mg) {e : Er} (h : ErOk e) : ExF K e.cls := by
  cases h with
  | plain e h =>
    simp only [List.mem_cons, List.not_mem_nil, or_false] at h
    rcases h with rfl | rfl | rfl | rfl | rfl | rfl | rfl | rfl | rfl <;> exact C.exf (by decide +kernel)
  | bar n h => exact C.exf (x := "BadBar") (by decide +kernel)
  | noBar n h => exact C.exf (x := "NoBar") (by decide +kernel)
  | noMoment n h => exact C.exf (x := "NoMoment") (by decide +kernel)
  | noMark n h => exact C.exf (x := "NoMark") (by decide +kernel)
theorem pe_wk {X : Cx} {e : Expr} {te : TE} (h : PE X e te) : PE X e (fun σ H Q => ∃ Q0 : VK, (∀ v H', Q0 v H' → Q v H') ∧ te σ H Q0) :=
  ⟨fun pins s σ H Q I ⟨Q0, hm, ht⟩ => wpAny_mono (h.run pins s σ H Q0 I ht) (fun u s' ⟨v, H1, I1, r1, q1⟩ => ⟨v, H1, I1, r1, hm v H1 q1⟩) fun e s' he => he⟩
theorem tried_gives (C : Cn w K mg) {X : Cx} (g : Addr) (cdv : Value) (q : Str) (eK : X.K = K) (em : X.mg = mg) : GivesS X n_law_tried "_law_tried" d_law_tried.scope g cdv d_law_tried.body "_law_ask" q (TTr K) := by
  intro f c' s H Q tl act hc h
  have nd := sc_law_tried.nd
  subst eK em
  have glo : ∀ {x : Str} (i : Nat), fa[i]? = some (.glo x) → X.mg x = some (.ref (He.ga X.K x)) := fun i h => C.glo i h
  refine ⟨_, pss_cons (ps_set (i := 1) nd rfl (Or.inl rfl) pe_non) (pss_cons (ps_set (i := 2) nd rfl (Or.inl rfl) pe_str) (pss_cons
    (ps_try_asM (n := "e") (i := 3) (l := [(.ref (He.ga X.K "BadBar"), _), (.ref (He.ga X.K "NoBreak"), _), (.ref (He.ga X.K "BurinError"), _), (.ref (He.ga X.K "Missing"), _)])
      (tb := fun W D σ H => σ[0]? = some (some (.ref f)) ∧ H c' = some (LamX.CodeO c' q) ∧ ∃ E : XK, (∀ cls d H', E cls d H' → W cls d σ H') ∧ ∃ Q0 : VK, (∀ v H', Q0 v H' → D.nx (σ.set 1 (some v)) H') ∧ tl E H Q0)
      rfl rfl nd rfl rfl LamX.takes0 (fun W pn xe tk _ => ?_)
      (by
        refine .cons ⟨rfl, by decide, .inl (glo 11 rfl)⟩ (fun a oe cls d pn hz hv => pss_one (ps_set (i := 2) nd rfl (Or.inl rfl) (pe_op op_add_str (pe_op op_add_str (pe_xfA hz hv (pv 3)) pe_str) (pe_callTy call_str_int (by rfl) (C.free 77) (by decide +kernel) (pa_cons (pe_xfA hz hv (pv 3)) pa_nil))))) ?_
        refine .cons ⟨rfl, by decide, .inl (glo 12 rfl)⟩ (fun a oe cls d pn hz hv => pss_one (ps_set (i := 2) nd rfl (Or.inl rfl) (pe_op op_add_str (pe_op op_add_str (pe_xfA hz hv (pv 3)) pe_str) (pe_callTy call_str_int (by rfl) (C.free 77) (by decide +kernel) (pa_cons (pe_xfA hz hv (pv 3)) pa_nil))))) ?_
        refine .cons ⟨rfl, by decide, .inl (glo 0 rfl)⟩ (fun a oe cls d pn hz hv => pss_one (ps_set (i := 2) nd rfl (Or.inl rfl) (pe_xfA hz hv (pv 3)))) ?_
        exact .cons ⟨rfl, by decide, .inl (glo 1 rfl)⟩ (fun a oe cls d pn hz hv => pss_one (ps_set (i := 2) nd rfl (Or.inl rfl) (pe_op op_add_str (pe_op op_add_str (pe_xfA hz hv (pv 3)) pe_str) (pe_callTy call_str_int (by rfl) (C.free 77) (by decide +kernel) (pa_cons (pe_xfA hz hv (pv 3)) pa_nil))))) .nil))
    (pss_one (ps_ret (pe_tup (pa_cons (pv 1) (pa_cons (pv 2) pa_nil))))))), ?_⟩
  · refine ⟨fun pins s' σ H' D I h' => ?_⟩
    obtain ⟨h1, h2, E, h3, Q0, h4, h5⟩ := h'
    exact (pss_one (ps_set (i := 1) nd rfl (Or.inl rfl) (pe_wk (act W pn xe _ _ tk)))).run pins s' σ H' D I ⟨Q0, h4, h1, h2, E, h3, h5⟩
  · refine ⟨rfl, hc, _, ?_, _, ?_, h⟩
    · rintro cls d H' ⟨e, ok, ⟨rfl, dd, rfl, hd⟩, k⟩
      have xf := ok.exf C
      obtain ⟨b1, b2, b3, b4, e1, e2, e3, e4, rfl, f1, f3, f4⟩ := exm_all C ok
      refine ⟨b1, e1, fun hb a na => ?_, fun hb => ⟨false, e2, (fun z => by cases z), fun _ => ⟨b3, e3, fun hb3 a na => ?_, fun hb3 => ⟨b4, e4, fun hb4 a na => ?_, fun hb4 => ?_⟩⟩⟩⟩
      · obtain ⟨n, hn, rfl⟩ := f1 hb
        have l1 : (eBar n).says.length = 7 := by show ("bad bar" : Str).length = 7; decide +kernel
        have l2 : (" " : Str).length = 1 := by decide +kernel
        have l3 := small_len hn
        refine ⟨_, rfl, rfl, _, _, _, _, rfl, xf.xf, nx_s xf.nox, rfl, hd, rfl, _, _, rfl, rfl, by rw [l1, l2, sizeLine_eq]; decide, ?_⟩
        refine ⟨_, rfl, rfl, _, _, _, _, rfl, xf.xf, nx_p xf.nox, rfl, hd, rfl, n, rfl, small_log2 hn, ?_⟩
        refine ⟨_, _, rfl, rfl, by rw [str_len, l1, l2, sizeLine_eq]; omega, ?_⟩
        exact ⟨_, rfl, _, rfl, by show 2 ≤ sizeLine; decide, fun t nt => k t nt⟩
      · have hn := f3 hb hb3
        obtain ⟨x, y, z⟩ := e
        have hn : z = none := hn
        subst hn
        exact ⟨_, rfl, rfl, _, _, _, _, rfl, xf.xf, nx_s xf.nox, rfl, hd, rfl, _, rfl, _, rfl, by show 2 ≤ sizeLine; decide, fun t nt => k t nt⟩
      · obtain ⟨_, x, y, n, hn, l1, rfl⟩ := f4 hb hb3
        have l2 : (" " : Str).length = 1 := by decide +kernel
        have l3 := small_len hn
        have hd : H' dd = some (.xd [("says", .str y), ("number", .int n)]) := hd
        refine ⟨_, rfl, rfl, _, _, _, _, rfl, xf.xf, nx_s xf.nox, rfl, hd, rfl, _, _, rfl, rfl, by rw [l2, sizeLine_eq]; omega, ?_⟩
        refine ⟨_, rfl, rfl, _, _, _, _, rfl, xf.xf, nx_n xf.nox, rfl, hd, rfl, n, rfl, small_log2 hn, ?_⟩
        refine ⟨_, _, rfl, rfl, by rw [str_len, l2, sizeLine_eq]; omega, ?_⟩
        exact ⟨_, rfl, _, rfl, by show 2 ≤ sizeLine; decide, fun t nt => k t nt⟩
      · rw [(f4 hb hb3).1] at hb4; cases hb4
    · intro v H' hv
      exact ⟨_, rfl, _, rfl, by show 2 ≤ sizeLine; decide, fun t nt => hv t nt⟩
theorem cal_tried (C : Cn w K mg) : CalL P w K mg base "_law_tried" (TTr K) := by
  obtain ⟨fd, F⟩ := C.def_ 47 (d := d_law_tried) rfl
  have F0 : FunD K d_law_tried.name d_law_tried.qual d_law_tried.params d_law_tried.body d_law_tried.scope [] (d_law_tried.kws K) (He.fAd K d_law_tried.at_) fd := F
  have hb := F0.bindsN (ps := ["_law_ask"]) (fun _ _ _ _ _ _ us hl => match us, hl with | [_], _ => rfl)
  have kp := F0.kp
  obtain ⟨oc, od, dV, kV, doc, pm, an, cdv, ct, osl, rfl, lk, hcd, _, _⟩ := F0.ex
  exact ⟨He.fAd K d_law_tried.at_, _, _, _, dV, kV, doc, pm, cdv, ct, oc, an, od, osl, n_law_tried, "_law_ask", C.glo 47, kp, lk, hcd, hb, sc_law_tried, rfl, .inl rfl, by decide, by decide,
    fun X q e1 e2 e3 e4 e5 => tried_gives C _ cdv q e3 e4⟩
/-- a def in which a lambda is made: its code object is known -/
theorem Cn.calT (C : Cn w K mg) {CX : CXT} {k : Nat} {sp : Sp} {N ps : List Str} (i j : Nat) {x : Str} (d : He.DefD) (S : FnScope N ps d.scope) (hb : BindF d ps)
    (len : ∀ vs H Q E, sp vs H Q E → vs.length = ps.length)
    (body : ∀ (f : Addr) (cdv : Value) (A : Around) (outer : List Env) (s : Shared) (H : Hp) (vs : List V) (Q : VK) (E : XK), cdv = .ref (He.codeOf K (x, none)) → Room k (A.deeper (envOfC d.qual d.scope s.heap.objs.size f cdv)) → sp vs H Q E →
      ∃ t, PSs (cxOf CX P w K mg base N d.qual d.scope f cdv A outer s H E) d.body t ∧ t { nx := fun _ H' => Q .non H', rt := Q } (L2.start N vs) H)
    (hd : fn[i]? = some d := by rfl) (hx : d.at_ = (x, none) := by rfl) (hf : fa[j]? = some (.glo x) := by rfl) (e1 : d.dfl = [] := by rfl) (e2 : d.kwd = [] := by rfl) :
    ∃ fd, FnOk P w K mg base CX (k + 1) (He.ga K x) fd ps sp ∧ mg x = some (.ref (He.ga K x)) ∧ PySem.W.keepIn K (.ref (He.ga K x)) = true ∧ L2.Binds K fd ps [] ∧ (∀ (s : Shared) (us : List Value), us.length = ps.length → BindsTo s fd ⟨us, []⟩ (ps.zip us)) := by
  obtain ⟨fd, F⟩ := C.def_ i hd
  have F0 : FunD K d.name d.qual d.params d.body d.scope [] (d.kws K) (He.fAd K d.at_) fd := by
    have e : d.dvs K = [] := by unfold He.DefD.dvs; rw [e1]; rfl
    rw [e] at F
    exact F
  have kp := F0.kp
  have bn := F0.bindsN hb
  have b0 := F0.bindsA hb
  obtain ⟨oc, od, dV, kV, doc, pm, an, cdv, ct, osl, rfl, lk, hcd, _, _⟩ := F0.ex
  obtain ⟨c, rfl⟩ := He.codeIn_ref hcd
  have ec : He.codeOf K (x, none) = c := by
    rw [← hx]
    exact He.codeOf_eq lk rfl
  rw [hx] at lk kp
  refine ⟨_, fn_of lk hcd S len fun A outer s H vs Q E hr hsp => body _ _ A outer s H vs Q E (by rw [ec]) hr hsp, C.glo j hf, kp, bn, b0⟩
end
end Bu
set_option Elab.async false
set_option linter.all false
set_option maxRecDepth 100000
set_option maxHeartbeats 4000000
/-! What stands in the heap while the law runs. -/
namespace Bu
open PySem PySem.Spec PyProof.Rows L2
open LamX (Tabs TabS TabB CodeO)
/-- an instance, a list or a dict -/
def Nice (H : Hp) (y : Addr) : Prop := (∃ C dx fs, H y = some (.ins C dx fs)) ∨ (∃ xs, H y = some (.lst xs)) ∨ (∃ ks, H y = some (.dK ks))
section
variable {H H' : Hp} {y : Addr} {M A : List Addr} {K : PySem.W.Frag}
theorem Nice.live (h : Nice H y) : H y ≠ none := by
  rcases h with ⟨_, _, _, h⟩ | ⟨_, h⟩ | ⟨_, h⟩ <;> rw [h] <;> simp
theorem Nice.nt (h : Nice H y) : ∀ ys, ¬ Rd H y (.tup ys) := by
  rcases h with ⟨_, _, _, h⟩ | ⟨_, h⟩ | ⟨_, h⟩
  · exact nt_ins h
  · exact nt_lst h
  · exact nt_dk h
theorem Nice.soft (h : ∀ y ∈ M, Nice H y ∨ H y = none) : Soft H M := fun x hx o ho => by
  rcases h x hx with (⟨_, _, _, e⟩ | ⟨_, e⟩ | ⟨_, e⟩) | e <;> rw [e] at ho <;> cases ho
  · exact ⟨(fun _ z => by cases z), fun _ z => by cases z⟩
  · exact ⟨(fun _ z => by cases z), fun _ z => by cases z⟩
  · exact ⟨(fun _ z => by cases z), fun _ z => by cases z⟩
theorem Nice.ne_tab {P : Addr} {q : Str} (h : Nice H y) (t : TabS H P q) : y ≠ P := by
  rintro rfl
  obtain ⟨ps, e, _⟩ := t
  rcases h with ⟨_, _, _, h⟩ | ⟨_, h⟩ | ⟨_, h⟩ <;> rw [h] at e <;> cases e
/-- a change of what is Nice or not yet there -/
theorem nice_nil (h : ∀ y ∈ M, Nice H y) : But M H H := But.nil _ fun x hx => (h x hx).nt
/-- what is told is new is not counted -/
theorem But.drop {M1 : List Addr} (b : But M H H') (h : ∀ y ∈ M, y ∈ M1 ∨ H y = none) (n : ∀ y ∈ M1, ∀ ys, ¬ Rd H y (.tup ys)) : But M1 H H' := (But.nil M1 n).thn b h
theorem StandAt.nice {a : Addr} {c : Cnt} {s : Sta} (h : StandAt K H a c s) : ∀ y ∈ mine a c, Nice H y := by
  obtain ⟨dx, vs, vf, h1, _, _⟩ := h.at_
  obtain ⟨_, h2, _⟩ := h.cont.mu
  obtain ⟨_, h3, _⟩ := h.cont.sp
  obtain ⟨_, h4, _⟩ := h.cont.bo
  intro y hy
  simp only [mine, List.mem_cons, List.not_mem_nil, or_false] at hy
  rcases hy with rfl | rfl | rfl | rfl | rfl
  · exact .inl ⟨_, _, _, h1⟩
  · exact .inr (.inl ⟨_, h.cont.o⟩)
  · exact .inr (.inr ⟨_, h2⟩)
  · exact .inr (.inr ⟨_, h3⟩)
  · exact .inr (.inr ⟨_, h4⟩)
theorem ModAt.nice {m : Addr} {c : Cnt} {s : Sta} (h : ModAt K H m c s) : ∀ y ∈ mineM m c, Nice H y := by
  obtain ⟨vs, vf, h1, _, _⟩ := h.at_
  obtain ⟨_, h2, _⟩ := h.cont.mu
  obtain ⟨_, h3, _⟩ := h.cont.sp
  obtain ⟨_, h4, _⟩ := h.cont.bo
  intro y hy
  simp only [mineM, List.mem_cons, List.not_mem_nil, or_false] at hy
  rcases hy with rfl | rfl | rfl | rfl | rfl
  · exact .inr (.inr ⟨_, h1⟩)
  · exact .inr (.inl ⟨_, h.cont.o⟩)
  · exact .inr (.inr ⟨_, h2⟩)
  · exact .inr (.inr ⟨_, h3⟩)
  · exact .inr (.inr ⟨_, h4⟩)
theorem ents_nice : ∀ {vs : List V} {es : List Ent}, Paired (EntAt K H) vs es → ∀ y ∈ es.flatMap fun e => stReads e.t, Nice H y
  | _, _, .nil, _, hy => by simp at hy
  | _, _, .cons p r, y, hy => by
    obtain ⟨e', he, hy'⟩ := List.mem_flatMap.mp hy
    rcases List.mem_cons.mp he with rfl | he
    · exact StandAt.nice p.2.2 y hy'
    · exact ents_nice r y (List.mem_flatMap.mpr ⟨e', he, hy'⟩)
/-- all of a shop -/
def aS (x : Addr) (S : ShopS) : List Addr := x :: S.p :: S.g :: S.reads
theorem ShopAt.nice {x : Addr} {S : ShopS} (h : ShopAt K H x S) : ∀ y ∈ aS x S, Nice H y := by
  obtain ⟨dx, h1⟩ := h.at_
  obtain ⟨ps, h2, h3⟩ := h.past
  obtain ⟨gs, h4, h5⟩ := h.gone
  intro y hy
  rcases List.mem_cons.mp hy with rfl | hy
  · exact .inl ⟨_, _, _, h1⟩
  rcases List.mem_cons.mp hy with rfl | hy
  · exact .inr (.inl ⟨_, h2⟩)
  rcases List.mem_cons.mp hy with rfl | hy
  · exact .inr (.inl ⟨_, h4⟩)
  rcases List.mem_append.mp hy with hy | hy
  · exact StandAt.nice h.now y hy
  rcases List.mem_append.mp hy with hy | hy
  · exact ents_nice h3 y hy
  · exact ents_nice h5 y hy
theorem BagAt.nice {b c : Addr} (h : BagAt K H b c) : ∀ y ∈ [b, c], Nice H y := by
  obtain ⟨cells, L, h1, _, h3, _⟩ := h
  intro y hy
  simp only [List.mem_cons, List.not_mem_nil, or_false] at hy
  rcases hy with rfl | rfl
  · exact .inr (.inl ⟨_, h1⟩)
  · exact .inr (.inl ⟨_, h3⟩)
theorem ShopAt.butA {x : Addr} {S : ShopS} (h : ShopAt K H x S) (b : But M H H') (n : ∀ y ∈ aS x S, y ∉ M) : ShopAt K H' x S :=
  h.but b ⟨n _ (by simp [aS]), n _ (by simp [aS]), n _ (by simp [aS])⟩ fun y hy => n y (by simp [aS, hy])
theorem ModAt.butA {m : Addr} {c : Cnt} {s : Sta} (h : ModAt K H m c s) (b : But M H H') (n : ∀ y ∈ mineM m c, y ∉ M) : ModAt K H' m c s :=
  h.but b ⟨n _ (by simp [mineM]), n _ (by simp [mineM]), n _ (by simp [mineM]), n _ (by simp [mineM]), n _ (by simp [mineM])⟩
end
/-- all that the law holds: the bag at b, the shop at x, its own model at m -/
structure Wd (K : PySem.W.Frag) (T : List (Addr × Str)) (H : Hp) (b bc x : Addr) (S : ShopS) (m : Addr) (c : Cnt) (s : Sta) : Prop where
  bag : BagAt K H b bc
  shop : ShopAt K H x S
  mod : ModAt K H m c s
  tabs : Tabs T H
  bS : ∀ y ∈ [b, bc], y ∉ aS x S
  bM : ∀ y ∈ [b, bc], y ∉ mineM m c
  sM : ∀ y ∈ aS x S, y ∉ mineM m c
/-- the two stands alike, and in bounds -/
structure Pf (S : ShopS) (s : Sta) (N : Int) (L : Nat) : Prop where
  rel : Rel S.now.s s
  gp : S.now.s.Good N
  gm : s.Good N
  len : S.past.length ≤ L ∧ S.gone.length ≤ L
theorem Pf.mono {S : ShopS} {s : Sta} {N N' : Int} {L L' : Nat} (h : Pf S s N L) (n : N ≤ N') (l : L ≤ L') : Pf S s N' L' := ⟨h.rel, h.gp.mono n, h.gm.mono n, Nat.le_trans h.len.1 l, Nat.le_trans h.len.2 l⟩
/-- the shop when a deed is done -/
def sDo (S : ShopS) (g' : Addr) (n' : St) (d : De) : ShopS := { S with g := g', now := n', past := S.past ++ [⟨d, S.now⟩], gone := [] }
def sUndo (S : ShopS) (es : List Ent) (e : Ent) : ShopS := { S with now := e.t, past := es, gone := S.gone ++ [⟨e.d, S.now⟩] }
def sRedo (S : ShopS) (es : List Ent) (e : Ent) : ShopS := { S with now := e.t, gone := es, past := S.past ++ [⟨e.d, S.now⟩] }
theorem mem_aS {x y : Addr} {S : ShopS} : y ∈ aS x S ↔ y = x ∨ y = S.p ∨ y = S.g ∨ y ∈ stReads S.now ∨ (∃ e ∈ S.past, y ∈ stReads e.t) ∨ ∃ e ∈ S.gone, y ∈ stReads e.t := by
  simp only [aS, ShopS.reads, List.mem_cons, List.mem_append, List.mem_flatMap]
theorem aS_do {H : Hp} {x g' : Addr} {S : ShopS} {n' : St} {d : De} (h1 : ∀ y ∈ stReads n', H y = none) (h2 : H g' = none) : ∀ y ∈ aS x (sDo S g' n' d), y ∈ aS x S ∨ H y = none := by
  intro y hy
  rw [mem_aS] at hy ⊢
  rcases hy with rfl | rfl | rfl | h | ⟨e, he, h⟩ | ⟨e, he, h⟩
  · exact .inl (.inl rfl)
  · exact .inl (.inr (.inl rfl))
  · exact .inr h2
  · exact .inr (h1 y h)
  · rcases List.mem_append.mp he with he | he
    · exact .inl (.inr (.inr (.inr (.inr (.inl ⟨e, he, h⟩)))))
    · rw [List.mem_singleton.mp he] at h
      exact .inl (.inr (.inr (.inr (.inl h))))
  · cases he
theorem aS_undo {x : Addr} {S : ShopS} {es : List Ent} {e : Ent} (h : S.past = es ++ [e]) : ∀ y ∈ aS x (sUndo S es e), y ∈ aS x S := by
  intro y hy
  rw [mem_aS] at hy ⊢
  rcases hy with rfl | rfl | rfl | q | ⟨e', he, q⟩ | ⟨e', he, q⟩
  · exact .inl rfl
  · exact .inr (.inl rfl)
  · exact .inr (.inr (.inl rfl))
  · exact .inr (.inr (.inr (.inr (.inl ⟨e, by rw [h]; simp, q⟩))))
  · have he : e' ∈ es := he
    exact .inr (.inr (.inr (.inr (.inl ⟨e', by rw [h]; simp [he], q⟩))))
  · rcases List.mem_append.mp he with he | he
    · exact .inr (.inr (.inr (.inr (.inr ⟨e', he, q⟩))))
    · rw [List.mem_singleton.mp he] at q
      exact .inr (.inr (.inr (.inl q)))
theorem aS_redo {x : Addr} {S : ShopS} {es : List Ent} {e : Ent} (h : S.gone = es ++ [e]) : ∀ y ∈ aS x (sRedo S es e), y ∈ aS x S := by
  intro y hy
  rw [mem_aS] at hy ⊢
  rcases hy with rfl | rfl | rfl | q | ⟨e', he, q⟩ | ⟨e', he, q⟩
  · exact .inl rfl
  · exact .inr (.inl rfl)
  · exact .inr (.inr (.inl rfl))
  · exact .inr (.inr (.inr (.inr (.inr ⟨e, by rw [h]; simp, q⟩))))
  · rcases List.mem_append.mp he with he | he
    · exact .inr (.inr (.inr (.inr (.inl ⟨e', he, q⟩))))
    · rw [List.mem_singleton.mp he] at q
      exact .inr (.inr (.inr (.inl q)))
  · have he : e' ∈ es := he
    exact .inr (.inr (.inr (.inr (.inr ⟨e', by rw [h]; simp [he], q⟩))))
section
variable {K : PySem.W.Frag} {T : List (Addr × Str)} {H H' : Hp} {b bc x m : Addr} {S S' : ShopS} {c c' : Cnt} {s s' : Sta} {M : List Addr}
theorem Wd.but (h : Wd K T H b bc x S m c s) (d : But M H H') (n : ∀ y ∈ M, y ∉ [b, bc] ∧ y ∉ aS x S ∧ y ∉ mineM m c) (t : Tabs T H') : Wd K T H' b bc x S m c s :=
  ⟨h.bag.but d (fun z => (n _ z).1 (by simp)) (fun z => (n _ z).1 (by simp)), h.shop.butA d (fun y hy z => (n _ z).2.1 hy), h.mod.butA d (fun y hy z => (n _ z).2.2 hy), t, h.bS, h.bM, h.sM⟩
theorem Wd.new (h : Wd K T H b bc x S m c s) (d : But [] H H') : Wd K T H' b bc x S m c s := h.but d (fun y hy => absurd hy (by simp)) (tabs_but h.tabs d .nil)
/-- the bag goes on -/
theorem Wd.gone (h : Wd K T H b bc x S m c s) (d : Gone K H b bc H') : Wd K T H' b bc x S m c s :=
  ⟨d.2, h.shop.butA d.1 (fun y hy z => h.bS b (by simp) ((show y = b by simpa using z) ▸ hy)), h.mod.butA d.1 (fun y hy z => h.bM b (by simp) ((show y = b by simpa using z) ▸ hy)),
    tabs_but h.tabs d.1 (Nice.soft fun y hy => .inl (h.bag.nice y (by rw [show y = b by simpa using hy]; simp))), h.bS, h.bM, h.sM⟩
/-- a lambda is made -/
theorem Wd.tab {P : Addr} {q : Str} (h : Wd K T H b bc x S m c s) (hp : (P, q) ∈ T) (d : But [P] H H') (t : Tabs T H') : Wd K T H' b bc x S m c s := by
  have tp : TabS H P q := h.tabs _ hp
  refine h.but d (fun y hy => ?_) t
  obtain rfl : y = P := by simpa using hy
  exact ⟨fun z => (h.bag.nice _ z).ne_tab tp rfl, fun z => (h.shop.nice _ z).ne_tab tp rfl, fun z => (h.mod.nice _ z).ne_tab tp rfl⟩
/-- the model alone is changed -/
theorem Wd.model (h : Wd K T H b bc x S m c s) (d : But (mineM m c) H H') (f : ∀ y ∈ mineM m c', y ∈ mineM m c ∨ H y = none) (hm : ModAt K H' m c' s') : Wd K T H' b bc x S m c' s' := by
  refine ⟨h.bag.but d (h.bM _ (by simp)) (h.bM _ (by simp)), h.shop.butA d h.sM, hm, tabs_but h.tabs d (Nice.soft fun y hy => .inl (h.mod.nice y hy)), h.bS, fun y hy z => ?_, fun y hy z => ?_⟩
  · rcases f y z with z | z
    · exact h.bM y hy z
    · exact (h.bag.nice y hy).live z
  · rcases f y z with z | z
    · exact h.sM y hy z
    · exact (h.shop.nice y hy).live z
/-- the shop alone is changed -/
theorem Wd.shp (h : Wd K T H b bc x S m c s) (d : But M H H') (hM : ∀ y ∈ M, y ∈ [x, S.p, S.g] ∨ H y = none) (hs : ShopAt K H' x S') (f : ∀ y ∈ aS x S', y ∈ aS x S ∨ H y = none) : Wd K T H' b bc x S' m c s := by
  have mem : ∀ y ∈ M, y ∈ aS x S ∨ H y = none := fun y hy => (hM y hy).imp (fun z => by
    simp only [List.mem_cons, List.not_mem_nil, or_false] at z
    rcases z with rfl | rfl | rfl <;> simp [aS]) id
  have no : ∀ {y : Addr}, y ∈ M → Nice H y → y ∉ aS x S → False := fun {y} hy hn ha => (mem y hy).elim ha hn.live
  refine ⟨h.bag.but d (fun z => no z (h.bag.nice b (by simp)) (h.bS b (by simp))) (fun z => no z (h.bag.nice bc (by simp)) (h.bS bc (by simp))), hs,
    h.mod.butA d (fun y hy z => no z (h.mod.nice y hy) (fun q => h.sM y q hy)), tabs_but h.tabs d (Nice.soft fun y hy => (mem y hy).imp (fun z => h.shop.nice y z) id), fun y hy z => ?_, h.bM, fun y hy z => ?_⟩
  · rcases f y z with z | z
    · exact h.bS y hy z
    · exact (h.bag.nice y hy).live z
  · rcases f y hy with q | q
    · exact h.sM y q z
    · exact (h.mod.nice y z).live q
end
end Bu
set_option Elab.async false
set_option linter.all false
set_option maxRecDepth 100000
set_option maxHeartbeats 4000000
/-! Deeds tried at a shop, one by one. -/
namespace Bu
open PySem PySem.Spec PyProof.Rows L2
open LamX (Tabs TabS TabB CodeO)
/-- the tables of code objects, and the lambdas' names -/
def Tn (K : PySem.W.Frag) : List (Addr × Str) := [((He.cT K ("law", none)).2, (d_law.qual ++ ".<locals>.") ++ "<lambda>"), ((He.cT K ("_law_one_by_one", none)).2, (d_law_one_by_one.qual ++ ".<locals>.") ++ "<lambda>")]
def TBs (K : PySem.W.Frag) (mg : Str → Option Value) (base : Heap) : Prop := ∀ p ∈ tf, TabB base mg (He.cT K p).1 (He.cT K p).2
abbrev pLaw (K : PySem.W.Frag) : Addr := (He.cT K ("law", none)).2
abbrev pObo (K : PySem.W.Frag) : Addr := (He.cT K ("_law_one_by_one", none)).2
section
variable {P : Program} {w : World} {K : PySem.W.Frag} {mg : Str → Option Value} {base : Heap}
theorem tn_law (C : Cn w K mg) : ∀ p ∈ Tn K, p.1 = pLaw K → p.2 = (d_law.qual ++ ".<locals>.") ++ "<lambda>" := by
  intro p hp e
  simp only [Tn, List.mem_cons, List.not_mem_nil, or_false] at hp
  rcases hp with rfl | rfl
  · rfl
  · exact absurd e.symm C.tabNe
theorem tn_obo (C : Cn w K mg) : ∀ p ∈ Tn K, p.1 = pObo K → p.2 = (d_law_one_by_one.qual ++ ".<locals>.") ++ "<lambda>" := by
  intro p hp e
  simp only [Tn, List.mem_cons, List.not_mem_nil, or_false] at hp
  rcases hp with rfl | rfl
  · exact absurd e C.tabNe
  · rfl
theorem tn_law_mem : (pLaw K, (d_law.qual ++ ".<locals>.") ++ "<lambda>") ∈ Tn K := by simp [Tn]
theorem tn_obo_mem : (pObo K, (d_law_one_by_one.qual ++ ".<locals>.") ++ "<lambda>") ∈ Tn K := by simp [Tn]
theorem apply_good {s s' : Sta} {N : Int} {d : De} {t : PyData} (g : s.Good N) (hd : Deed d) (h : applyD false s d = .ok (s', t)) : s'.Good (N + 100) := by
  have a := apply_alike (Rel.refl s) g g hd
  rw [h] at a
  generalize applyD true s d = y at a
  cases a with
  | ok t r gp gm => exact gp
theorem tNil_i {σ : L2.St} {H : Hp} {k : List V → Hp → Prop} (h : k [] H) : tNil σ H k := h
/-- a deed tried at a shop -/
theorem do_tried {H1 : Hp} {Q : VK} {x : Addr} {S : ShopS} {N : Int} {v : V} {d : De} (hd : Deed d) (hS : ShopAt K H1 x S) (hg : S.now.s.Good N) (hN : N + 100 < 1000000000000) (hl : S.past.length < 1000) (dv : Dp K H1 v d.toD)
    (k1 : ∀ s' t n' g' u H', applyD false S.now.s d = .ok (s', t) → But [x, S.p] H1 H' → n'.s = s' → (∀ y ∈ stReads n', H1 y = none) → H1 g' = none → ShopAt K H' x (sDo S g' n' d) → ResAt K H1 H' u (t, "") → Q u H')
    (k2 : ∀ e u H', applyD false S.now.s d = .error e → ErOk e → But [x] H1 H' → ShopAt K H' x S → ResAt K H1 H' u (.none, e.text) → Q u H') :
    spDo K [.ref x, v] H1 (okT Q) (excT K Q) := by
  have nl := hS.live
  have nx : ∀ y ∈ ([] : List Addr), H1 y ≠ none := fun y hy => absurd hy (by simp)
  refine ⟨x, S, N, v, d, hd, rfl, hS, hg, hN, hl, dv, fun s' t ha n' g' u H' b e1 e2 e3 h4 h5 q nq => ?_, fun e ha c y H' b h4 h5 => ⟨e, apply_ok hd ha, h5, fun q nq => ?_⟩⟩
  · have bq : But [] H' (upd H' q (.tup [u, .str ""])) := But.refl.new nq
    exact k1 s' t n' g' _ _ ha (b.step bq) e1 e2 e3 (h4.new bq) ⟨q, u, rfl, SqT.of upd_same, h5.but bq nx⟩
  · have bq : But [] H' (upd H' q (.tup [.non, .str e.text])) := But.refl.new nq
    exact k2 e _ _ ha (apply_ok hd ha) (b.step bq) (h4.new bq) ⟨q, .non, rfl, SqT.of upd_same, .scalar none⟩
/-- what _law_one_by_one promises -/
def spObo (K : PySem.W.Frag) : Sp := fun vs H Q _ => ∃ (x D : Addr) (S : ShopS) (N : Int) (ws : List V) (l : List De), vs = [.ref x, .ref D] ∧ ShopAt K H x S ∧ S.now.s.Good N ∧ N + 100 * l.length + 100 < 1000000000000 ∧ S.past.length + l.length < 1000 ∧
  H D = some (.lst ws) ∧ DpAll K H ws (l.map De.toD) ∧ (∀ d ∈ l, Deed d) ∧ l.length ≤ 100 ∧ D ≠ x ∧ D ≠ S.p ∧ Tabs (Tn K) H ∧
  ∀ S' u H', But [x, S.p, pObo K] H H' → Tabs (Tn K) H' → ShopAt K H' x S' → (∀ y ∈ aS x S', y ∈ aS x S ∨ H y = none) → ((∀ d ∈ l, Plain d ∧ formless d = false) → ∀ s' ts, foldD false S.now.s l = .ok (s', ts) → S'.now.s = s' ∧ ResAt K H H' u (.list (ts.map tellD), "")) → Q u H'
abbrev n_law_one_by_one : List Str := ["_law_shop", "_law_deeds", "_law_told", "_law_deed_here", "_law_found"]
theorem sc_law_one_by_one : FnScope n_law_one_by_one ["_law_shop", "_law_deeds"] d_law_one_by_one.scope := C8.fnScope_by (by decide +kernel)
theorem Cn.calTC (C : Cn w K mg) {CX : CXT} {k : Nat} {sp : Sp} {N ps : List Str} (i j : Nat) {x : Str} (d : He.DefD) (S : FnScope N ps d.scope) (hb : BindF d ps)
    (len : ∀ vs H Q E, sp vs H Q E → vs.length = ps.length)
    (body : ∀ (f : Addr) (cdv : Value) (A : Around) (outer : List Env) (s : Shared) (H : Hp) (vs : List V) (Q : VK) (E : XK), cdv = .ref (He.codeOf K (x, none)) → Room k (A.deeper (envOfC d.qual d.scope s.heap.objs.size f cdv)) → sp vs H Q E →
      ∃ t, PSs (cxOf CX P w K mg base N d.qual d.scope f cdv A outer s H E) d.body t ∧ t { nx := fun _ H' => Q .non H', rt := Q } (L2.start N vs) H)
    (hd : fn[i]? = some d := by rfl) (hx : d.at_ = (x, none) := by rfl) (hf : fa[j]? = some (.glo x) := by rfl) (e1 : d.dfl = [] := by rfl) (e2 : d.kwd = [] := by rfl) : Cal P w K mg base CX (k + 1) x sp := by
  obtain ⟨fd, F, h2, h3, h4, _⟩ := C.calT i j d S hb len body hd hx hf e1 e2
  exact ⟨⟨_, fd, _, F, h2, h3, h4⟩⟩
theorem cal_obo (C : Cn w K mg) (TB : TBs K mg base) : Cal P w K mg base CX0 12 "_law_one_by_one" (spObo K) := by
  refine C.calTC (k := 11) 57 57 d_law_one_by_one sc_law_one_by_one (fun _ _ _ _ _ _ us hl => match us, hl with | [_, _], _ => rfl) (fun vs H Q E h => ?_) (fun f cdv A outer s H vs Q E hc hr h => ?_)
  · obtain ⟨x, D, S, N, ws, l, rfl, _⟩ := h
    rfl
  have nd := sc_law_one_by_one.nd
  have tb := TB ("_law_one_by_one", none) (by simp [tf])
  refine ⟨_, PSs.nox (pss_cons (ps_set (i := 2) nd rfl (Or.inl rfl) (pe_lst pa_nil)) (pss_cons (ps_for PassesOwn.never rfl (pi_list (pv 1)) (pg_name (i := 3) nd rfl (by first | exact Or.inl rfl | exact Or.inr rfl))
    (pss_cons (ps_set (i := 4) nd rfl (Or.inl rfl) (pe_lam (k := 9) (T := Tn K) (P := pObo K) (t := fun E => tMx (He.ga K "Shop") "do" (spDo K) (WE fun cls d _ H => E cls d H) (tVar 0) (tCons (tVar 3) tNil)) (cal_tried C) tb hc tn_obo_mem (tn_obo C) hr (by exact LamX.lamS_by (sc := d_law_one_by_one.scope) (by decide +kernel)) rfl (fun _ _ _ _ _ => rfl)
      (by intro A outer s H E f c' hr'; exact pe_mx (met_do C) hr' (takes_of rfl rfl rfl rfl) (pv 0) (pa_cons (pv 3) pa_nil))))
    (pss_cons (ps_if (pt_cmpR op_ne (pe_ix ix_tup (pv 4) pe_int (fun _ _ => rfl)) pe_str (nomark _)) (pss_one (ps_ret (pe_tup (pa_cons pe_non (pa_cons (pe_ix ix_tup (pv 4) pe_int (fun _ _ => rfl)) pa_nil))))) pss_nil)
    (pss_one (ps_expr (pe_bm PySem.F.plainAttrs_list PySem.F.slot_list_append PySem.F.type_list_append mt_append (pv 2) (pa_cons (pe_ix ix_tup (pv 4) pe_int (fun _ _ => rfl)) pa_nil)))))))
    (pss_one (ps_ret (pe_tup (pa_cons (pv 2) (pa_cons pe_str pa_nil))))))), ?_⟩
  obtain ⟨x, D, S, N, ws, l, rfl, hS, hg, hN, hl, hD, dws, hdl, hll, nDx, nDp, ht, k⟩ := h
  have lw := dpa_length dws
  rw [List.length_map] at lw
  have hPt : TabS H (pObo K) _ := ht _ tn_obo_mem
  have ntP : ∀ ys, ¬ Rd H (pObo K) (.tup ys) := by
    obtain ⟨ps, e, _⟩ := id hPt
    intro ys r
    rcases r with r | ⟨u, r⟩ <;> rw [e] at r <;> cases r
  have lv := hS.live
  have bM : But [x, S.p, pObo K] H H := But.nil _ fun y hy => by
    simp only [List.mem_cons, List.not_mem_nil, or_false] at hy
    rcases hy with rfl | rfl | rfl
    · exact (lv y (by simp)).2
    · exact (lv S.p (by simp)).2
    · exact ntP
  refine ⟨by decide, fun L nL => ?_⟩
  have c0 : But [] H (upd H L (.lst [])) := But.refl.new nL
  have hL : (upd H L (.lst [])) L = some (.lst []) := upd_same
  have b0 := bM.step c0
  have hS0 := hS.new c0
  have t0 := tabs_but ht c0 .nil
  generalize upd H L (.lst []) = H0 at c0 hL b0 hS0 t0
  have hD0 : ∀ {H'}, But [x, S.p, pObo K] H H' → H' D = some (.lst ws) := fun b => b.keep _ _ hD (by
    simp only [List.mem_cons, List.not_mem_nil, or_false, not_or]
    exact ⟨nDx, nDp, (show Nice H D from .inr (.inl ⟨_, hD⟩)).ne_tab hPt⟩)
  refine ⟨_, rfl, D, rfl, ⟨_, SqL.of (hD0 b0)⟩, ?_⟩
  refine for_list (K := K) (a := D) (xs := ws) (D := { nx := _, rt := Q }) (fun i σ' H' => ∃ x3 x4 Si ys, σ' = [some (.ref x), some (.ref D), some (.ref L), x3, x4] ∧ But [x, S.p, pObo K] H H' ∧ Tabs (Tn K) H' ∧ ShopAt K H' x Si ∧ Si.p = S.p ∧ Si.now.s.Good (N + 100 * i) ∧ Si.past.length ≤ S.past.length + i ∧ (∀ y ∈ aS x Si, (y ∈ aS x S ∨ H y = none) ∧ y ≠ L) ∧ H' L = some (.lst ys) ∧ ys.length = i ∧
    ((∀ d ∈ l, Plain d ∧ formless d = false) → ∃ ts, foldD false S.now.s (l.take i) = .ok (Si.now.s, ts) ∧ ys = ts.map tellV)) ?_ ?_ ?_ ?_
  · exact ⟨none, none, S, [], rfl, b0, t0, hS0, rfl, by simpa using hg, by omega, fun y hy => ⟨.inl hy, fun z => (hS.nice y hy).live (by rw [z]; exact nL)⟩, hL, rfl, fun _ => ⟨[], rfl, rfl⟩⟩
  · rintro i σ' H' _ ⟨x3, x4, Si, ys, rfl, bb, _⟩
    exact SqL.of (hD0 bb)
  · rintro i y σ' H' hy ⟨x3, x4, Si, ys, rfl, bb, tt, hSi, ep, hgi, hli, ai, hLi, hyi, fi⟩
    obtain ⟨dd, hdd, dy⟩ := dpa_get dws hy
    rw [List.getElem?_map] at hdd
    obtain ⟨d, hd', rfl⟩ := Option.map_eq_some_iff.mp hdd
    have dl : d ∈ l := List.mem_of_getElem? hd'
    have et : l.take (i + 1) = l.take i ++ [d] := by rw [List.take_add_one, hd']; rfl
    have hi : i < l.length := (List.getElem?_eq_some_iff.mp hd').1
    have deed := hdl d dl
    refine ⟨tt, fun H1 bP t1 => ?_⟩
    have tPi : TabS H' (pObo K) _ := tt _ tn_obo_mem
    have niL : Nice H' L := .inr (.inl ⟨_, hLi⟩)
    have hS1 := hSi.butA bP (fun y hy z => (hSi.nice y hy).ne_tab tPi (by simpa using z))
    have hL1 := bP.keep _ _ hLi (by simpa using niL.ne_tab tPi)
    have bb1 : But [x, S.p, pObo K] H H1 := bb.thn bP fun y hy => .inl (by rw [show y = pObo K by simpa using hy]; simp)
    obtain ⟨dx, hx1⟩ := hS1.at_
    have dy1 : Dp K H1 y d.toD := dp_but bb1 _ _ (tup_de deed) dy
    have nice1 : ∀ y ∈ [x, Si.p], Nice H1 y := fun y hy => by
      simp only [List.mem_cons, List.not_mem_nil, or_false] at hy
      rcases hy with rfl | rfl
      · exact hS1.nice y (by simp [aS])
      · exact hS1.nice Si.p (by simp [aS])
    refine ⟨_, rfl, x, dx, _, rfl, hx1, rfl, _, rfl, ?_⟩
    refine tNil_i ?_
    refine do_tried (S := Si) (N := N + 100 * i) deed hS1 hgi (by omega) (by omega) dy1 (fun s' t n' g' u H2 ha b2 e1 e2 e3 h4 res => ?_) (fun e u H2 ha ok b2 h4 res => ?_)
    · have bb2 : But [x, S.p, pObo K] H H2 := bb1.thn b2 fun y hy => .inl (by
        simp only [List.mem_cons, List.not_mem_nil, or_false] at hy
        rcases hy with rfl | rfl
        · simp
        · rw [ep]; simp)
      have t2 := tabs_but t1 b2 (Nice.soft fun y hy => .inl (nice1 y hy))
      have hL2 := b2.keep _ _ hL1 (by
        simp only [List.mem_cons, List.not_mem_nil, or_false, not_or]
        exact ⟨fun z => (ai x (by simp [aS])).2 z.symm, fun z => (ai Si.p (by simp [aS])).2 z.symm⟩)
      obtain ⟨q, tv, rfl, hq, htold⟩ := res
      refine ⟨_, rfl, q, _, _, _, rfl, rfl, hq, atI_nat (j := 1) rfl, rfl, _, rfl, iteF ?_⟩
      refine ⟨_, rfl, .inl ⟨rfl, _, SqL.of hL2⟩, _, rfl, q, _, _, _, rfl, rfl, hq, atI_nat (j := 0) rfl, L, _, _, rfl, rfl, hL2, by rw [sizeLine_eq]; omega, ?_⟩
      have bL : But [L] H2 (upd H2 L (.lst (ys ++ [tv]))) := But.one (nt_lst hL2)
      have ar : ∀ y ∈ aS x (sDo Si g' n' d), (y ∈ aS x S ∨ H y = none) ∧ y ≠ L := fun y hy => by
        rcases aS_do e2 e3 y hy with h | h
        · exact ai y h
        · exact ⟨.inr (bb1.dom _ h), fun z => by rw [z, hL1] at h; cases h⟩
      refine ⟨_, _, sDo Si g' n' d, ys ++ [tv], rfl, bb2.young nL, tabs_but t2 bL (Nice.soft fun y hy => .inl (by rw [show y = L by simpa using hy]; exact .inr (.inl ⟨_, hL2⟩))), h4.butA bL (fun y hy z => (ar y hy).2 (by simpa using z)), ep, ?_, ?_, ar, upd_same, by rw [List.length_append, hyi]; rfl, fun pl => ?_⟩
      · show n'.s.Good _
        rw [e1, show N + 100 * ((i + 1 : Nat) : Int) = N + 100 * i + 100 by omega]
        exact apply_good hgi deed ha
      · show (Si.past ++ [_]).length ≤ _
        rw [List.length_append]
        show Si.past.length + 1 ≤ _
        omega
      · obtain ⟨ts, f1, f2⟩ := fi pl
        obtain ⟨pd, fd⟩ := pl d dl
        have hm : isMany d = false := by cases d <;> first | rfl | exact pd.elim
        rw [apply_plain fd hm] at ha
        cases ho : one false Si.now.s d with
        | error er => rw [ho] at ha; cases ha
        | ok r =>
          obtain ⟨s1, t1⟩ := r
          rw [ho] at ha
          have ha : (Except.ok (s1, tellD t1) : Res) = .ok (s', t) := ha
          cases ha
          have etv : tv = tellV t1 := by
            rcases htold with ⟨n, h1, h2⟩ | ⟨_, _, _, h2, _⟩
            · have h2 : tellD t1 = tellD n := h2
              rw [h1]
              cases n <;> cases t1 <;> first | rfl | (cases h2; done) | (cases h2; rfl)
            · have h2 : tellD t1 = _ := h2
              cases t1 <;> cases h2
          refine ⟨ts ++ [t1], ?_, by rw [f2, etv, List.map_append]; rfl⟩
          rw [et, fold_ok f1, fold_one, ho]
          show Except.ok (_, ts ++ [t1]) = Except.ok (n'.s, ts ++ [t1])
          rw [e1]
    · have bb2 : But [x, S.p, pObo K] H H2 := bb1.thn b2 fun y hy => .inl (by rw [show y = x by simpa using hy]; simp)
      have t2 := tabs_but t1 b2 (Nice.soft fun y hy => .inl (nice1 y (by rw [show y = x by simpa using hy]; simp)))
      obtain ⟨q, tv, rfl, hq, htold⟩ := res
      have ern := ok.ne
      refine ⟨_, rfl, q, _, _, _, rfl, rfl, hq, atI_nat (j := 1) rfl, rfl, _, rfl, ite2 (fun _ => ?_) (fun z => ?_)⟩
      · refine ⟨_, rfl, q, _, _, _, rfl, rfl, hq, atI_nat (j := 1) rfl, by show 2 ≤ sizeLine; decide, fun t nt => ?_⟩
        have bt : But [] H2 (upd H2 t (.tup [.non, .str e.text])) := But.refl.new nt
        refine k Si _ _ (bb2.step bt) (tabs_but t2 bt .nil) (h4.new bt) (fun y hy => (ai y hy).1) fun pl s' ts hF => ?_
        obtain ⟨ts1, f1, _⟩ := fi pl
        obtain ⟨pd, fd⟩ := pl d dl
        have hm : isMany d = false := by cases d <;> first | rfl | exact pd.elim
        rw [apply_plain fd hm] at ha
        cases ho : one false Si.now.s d with
        | ok r => rw [ho] at ha; cases ha
        | error er =>
          have h1 : foldD false S.now.s (l.take (i + 1)) = .error er := by rw [et, fold_ok f1, fold_one, ho]
          have h2 := fold_err (r := l.drop (i + 1)) h1
          rw [List.take_append_drop, hF] at h2
          cases h2
      · have z : ¬ (!decide (V.str e.text = V.str "")) = true := z
        exact absurd (by rw [decide_eq_false (fun q => ern (V.str.inj q))]; rfl) z
  · rintro σ' H' ⟨x3, x4, Si, ys, rfl, bb, tt, hSi, ep, hgi, hli, ai, hLi, hyi, fi⟩
    refine ⟨_, rfl, by show 2 ≤ sizeLine; decide, fun t nt => ?_⟩
    have bt : But [] H' (upd H' t (.tup [.ref L, .str ""])) := But.refl.new nt
    refine k Si _ _ (bb.step bt) (tabs_but tt bt .nil) (hSi.new bt) (fun y hy => (ai y hy).1) fun pl s' ts hF => ?_
    obtain ⟨ts1, f1, f2⟩ := fi pl
    rw [lw, List.take_length, hF] at f1
    cases f1
    have lts := fold_len hF
    refine ⟨rfl, t, .ref L, rfl, SqT.of upd_same, .inr ⟨L, ts, rfl, rfl, nL, ?_, by omega⟩⟩
    rw [← f2]
    exact bt.keep _ _ hLi (by simp)
end
end Bu
set_option Elab.async false
set_option linter.all false
set_option maxRecDepth 100000
set_option maxHeartbeats 4000000
/-! The bag and the model made. -/
namespace Bu
open PySem PySem.Spec PyProof.Rows L2
def spBag (K : PySem.W.Frag) : Sp := fun vs H Q _ => ∃ (a : Addr) (ns : List Int), vs = [.ref a] ∧ SqL K H a (ns.map V.int) ∧ ns.length ≤ 63 ∧ ∀ b c H', But [] H H' → BagAt K H' b c → H b = none → H c = none → Q (.ref b) H'
abbrev n_law_bag : List Str := ["_law_script"]
theorem sc_law_bag : FnScope n_law_bag ["_law_script"] d_law_bag.scope := C8.fnScope_by (by decide +kernel)
theorem cal_bag {P : Program} {w : World} {K : PySem.W.Frag} {mg : Str → Option Value} {base : Heap} (C : Cn w K mg)  : Cal P w K mg base CX0 1 "_law_bag" (spBag K) := by
  refine C.cal 33 33 d_law_bag sc_law_bag (fun _ _ _ _ _ _ us hl => match us, hl with | [_], _ => rfl) (fun vs H Q E h => ?_) (fun f cdv A outer s H vs Q E hr h => ?_)
  · obtain ⟨a, ns, rfl, _⟩ := h
    rfl
  have nd := sc_law_bag.nd
  refine ⟨_, PSs.nox (pss_one (ps_ret (pe_lst (pa_cons (pe_callTy call_list_of (by rfl) (C.free 69) (by decide +kernel) (pa_cons (pe_slice sl_list (pv 0) po_none (po_some pe_int)) pa_nil)) (pa_cons pe_int (pa_cons pe_int (pa_cons (pe_op op_add pe_int (pe_op op_mul pe_int (pe_callB call_len_seq (by rfl) (C.free 67) (by decide +kernel) (pa_cons (pe_slice sl_list (pv 0) po_none (po_some pe_int)) pa_nil)))) (pa_cons pe_int pa_nil)))))))), ?_⟩
  obtain ⟨a, ns, rfl, ha, hl, k⟩ := h
  have lc := cutL_len ns none (some 63)
  have ec : cutV (ns.map V.int) none (some 63) = (cutL ns none (some 63)).map V.int := cutL_map V.int ns none (some 63)
  refine ⟨_, rfl, _, rfl, a, _, rfl, ha, fun p np => ⟨p, _, rfl, .inl (SqL.of upd_same), fun c nc => ?_⟩⟩
  rw [ec]
  have b1 : But [] H (upd H p (.lst ((cutL ns none (some 63)).map V.int))) := But.refl.new np
  rw [ec] at nc
  generalize upd H p (.lst ((cutL ns none (some 63)).map V.int)) = H1 at b1 nc
  have b2 : But [] H1 (upd H1 c (.lst ((cutL ns none (some 63)).map V.int))) := But.refl.new nc
  have hc2 : (upd H1 c (.lst ((cutL ns none (some 63)).map V.int))) c = some (.lst ((cutL ns none (some 63)).map V.int)) := upd_same
  generalize upd H1 c (.lst ((cutL ns none (some 63)).map V.int)) = H2 at b2 hc2
  have b02 := b1.trans b2
  refine ⟨_, rfl, _, rfl, a, _, rfl, b02.sqL ha (by simp), fun q nq => ⟨q, _, rfl, .inl (SqL.of upd_same), ?_⟩⟩
  rw [ec, List.length_map]
  have b3 : But [] H2 (upd H2 q (.lst ((cutL ns none (some 63)).map V.int))) := But.refl.new nq
  generalize upd H2 q (.lst ((cutL ns none (some 63)).map V.int)) = H3 at b3
  have hc3 := b3.keep _ _ hc2 (by simp)
  have b03 := b02.trans b3
  refine ⟨_, _, rfl, rfl, ?_, _, _, rfl, rfl, by show 5 ≤ sizeLine; decide, fun b nb => k b c _ (b03.new nb) ⟨cutL ns none (some 63), _, upd_same, ?_, (upd_ne ?_).trans hc3, 0, 0, _, 0, rfl, by omega, by omega, by omega, by omega, by omega⟩ (b03.free nb) (b1.free nc)⟩
  · exact .inl ⟨by decide, by decide⟩
  · intro z
    rw [z, nb] at hc3; cases hc3
  · intro z
    rw [z, nb] at hc3; cases hc3
def spModel (K : PySem.W.Frag) : Sp := fun vs H Q _ => ∃ (v : V) (sh : Sheet), vs = [v] ∧ Dp K H v (sheetD sh) ∧ ∀ m c H', But [] H H' → (∀ y ∈ mineM m c, H y = none) → ModAt K H' m c (empty sh) → Q (.ref m) H'
abbrev n_law_model : List Str := ["_law_sheet_here"]
theorem sc_law_model : FnScope n_law_model ["_law_sheet_here"] d_law_model.scope := C8.fnScope_by (by decide +kernel)
theorem cal_model {P : Program} {w : World} {K : PySem.W.Frag} {mg : Str → Option Value} {base : Heap} (C : Cn w K mg)  : Cal P w K mg base CX0 1 "_law_model" (spModel K) := by
  refine C.cal 34 34 d_law_model sc_law_model (fun _ _ _ _ _ _ us hl => match us, hl with | [_], _ => rfl) (fun vs H Q E h => ?_) (fun f cdv A outer s H vs Q E hr h => ?_)
  · obtain ⟨v, sh, rfl, _⟩ := h
    rfl
  have nd := sc_law_model.nd
  refine ⟨_, PSs.nox (pss_one (ps_ret (pe_disp (pps_cons pe_str (pe_lst pa_nil) (pps_cons pe_str pe_dnewK (pps_cons pe_str pe_dnewK (pps_cons pe_str pe_dnewK (pps_cons pe_str (pv 0) (pps_cons pe_str (pe_tup (pa_cons pe_int (pa_cons pe_int pa_nil))) pps_nil)))))) rfl rfl (fun z => by cases z) (by decide)))), ?_⟩
  obtain ⟨v, sh, rfl, dv, k⟩ := h
  refine fun d nd => ?_
  have b0 : But [] H (upd H d (.dK [])) := But.refl.new nd
  refine ⟨by decide, fun o no => fun mu nmu => fun sp nsp => fun bo nbo => ⟨v, rfl, by decide, fun f nf => ?_⟩⟩
  have hd0 : (upd H d (.dK [])) d = some (.dK []) := upd_same
  generalize upd H d (.dK []) = H0 at b0 hd0 no nmu nsp nbo nf
  have b1 : But [] H0 (upd H0 o (.lst [])) := But.refl.new no
  have ho1 : (upd H0 o (.lst [])) o = some (.lst []) := upd_same
  generalize upd H0 o (.lst []) = H1 at b1 ho1 nmu nsp nbo nf
  have b2 : But [] H1 (upd H1 mu (.dK [])) := But.refl.new nmu
  have hmu2 : (upd H1 mu (.dK [])) mu = some (.dK []) := upd_same
  generalize upd H1 mu (.dK []) = H2 at b2 hmu2 nsp nbo nf
  have b3 : But [] H2 (upd H2 sp (.dK [])) := But.refl.new nsp
  have hsp3 : (upd H2 sp (.dK [])) sp = some (.dK []) := upd_same
  generalize upd H2 sp (.dK []) = H3 at b3 hsp3 nbo nf
  have b4 : But [] H3 (upd H3 bo (.dK [])) := But.refl.new nbo
  have hbo4 : (upd H3 bo (.dK [])) bo = some (.dK []) := upd_same
  generalize upd H3 bo (.dK []) = H4 at b4 hbo4 nf
  have b5 : But [] H4 (upd H4 f (.tup [.int 1, .int 1])) := But.refl.new nf
  have hf5 : (upd H4 f (.tup [.int 1, .int 1])) f = some (.tup [.int 1, .int 1]) := upd_same
  generalize upd H4 f (.tup [.int 1, .int 1]) = H5 at b5 hf5
  have hd5 := (b1.trans (b2.trans (b3.trans (b4.trans b5)))).keep _ _ hd0 (by simp)
  have ho5 := (b2.trans (b3.trans (b4.trans b5))).keep _ _ ho1 (by simp)
  have hmu5 := (b3.trans (b4.trans b5)).keep _ _ hmu2 (by simp)
  have hsp5 := (b4.trans b5).keep _ _ hsp3 (by simp)
  have hbo5 := b5.keep _ _ hbo4 (by simp)
  have d1 := b1.keep _ _ hd0 (by simp)
  have d2 := b2.keep _ _ d1 (by simp)
  have d3 := b3.keep _ _ d2 (by simp)
  have no_d : o ≠ d := fun z => by rw [z, hd0] at no; cases no
  have nmu_d : mu ≠ d := fun z => by rw [z, d1] at nmu; cases nmu
  have nsp_d : sp ≠ d := fun z => by rw [z, d2] at nsp; cases nsp
  have nbo_d : bo ≠ d := fun z => by rw [z, d3] at nbo; cases nbo
  have nsm : mu ≠ sp := fun z => by rw [← z, hmu2] at nsp; cases nsp
  have nmb : mu ≠ bo := fun z => by rw [← z, b3.keep _ _ hmu2 (by simp)] at nbo; cases nbo
  have nsb : sp ≠ bo := fun z => by rw [← z, hsp3] at nbo; cases nbo
  refine ⟨hd5, mkv (.ref o) (.ref mu) (.ref sp) (.ref bo) v (.ref f), rfl, by show 6 ≤ 15; decide, ?_⟩
  have b05 := b0.trans (b1.trans (b2.trans (b3.trans (b4.trans b5))))
  have bd : But [d] H5 (upd H5 d (.dK (mkv (.ref o) (.ref mu) (.ref sp) (.ref bo) v (.ref f)))) := But.one (nt_dk hd5)
  refine k d ⟨o, mu, sp, bo⟩ _ (b05.young nd) (fun y hy => ?_) ⟨⟨v, .ref f, upd_same, dp_but bd _ _ (tup_sheet _) (dp_but b05 _ _ (tup_sheet _) dv), .tup (bd.sqT (SqT.of hf5)) (.cons (.int _) (.cons (.int _) .nil))⟩,
    ⟨(upd_ne no_d).trans ho5, ⟨[], (upd_ne nmu_d).trans hmu5, .nil⟩, ⟨[], (upd_ne nsp_d).trans hsp5, .nil⟩, ⟨[], (upd_ne nbo_d).trans hbo5, .nil⟩, ⟨nsm, nmb, nsb⟩⟩, ⟨Ne.symm nmu_d, Ne.symm nsp_d, Ne.symm nbo_d⟩⟩
  simp only [mineM, List.mem_cons, List.not_mem_nil, or_false] at hy
  rcases hy with rfl | rfl | rfl | rfl | rfl
  · exact nd
  · exact b0.free no
  · exact (b0.trans b1).free nmu
  · exact (b0.trans (b1.trans b2)).free nsp
  · exact (b0.trans (b1.trans (b2.trans b3))).free nbo
end Bu
set_option Elab.async false
set_option linter.all false
set_option maxRecDepth 100000
set_option maxHeartbeats 8000000
/-! The law. -/
namespace Bu
open PySem PySem.Spec PyProof.Rows L2
open LamX (Tabs TabS TabB CodeO)
abbrev n_law : List Str := ["_law_script", "_law_bag_here", "_law_shop", "_law_m", "_law_turn", "_law_deed_here", "_law_deeds", "_law_later", "_law_k", "_law_odd", "_law_due", "_law_twin", "_law_alone", "_law_before", "_law_found"]
theorem sc_law : FnScope n_law ["_law_script"] d_law.scope := C8.fnScope_by (by decide +kernel)
def spLaw (K : PySem.W.Frag) : Sp := fun vs H Q _ => ∃ (a : Addr) (ns : List Int), vs = [.ref a] ∧ SqL K H a (ns.map V.int) ∧ ns.length ≤ 63 ∧ Tabs (Tn K) H ∧ ∀ H', Q (.bl true) H'
theorem empty_good (sh : Sheet) (h : sh.length = 5) : (empty sh).Good 1 := by
  have no : ∀ {α : Type} {x : α}, ¬ x ∈ ([] : List α) := fun {α x} z => by cases z
  exact ⟨fun n => ⟨fun z => absurd z no, fun z => absurd z no⟩, .nil, Nat.zero_le _, fun n z => absurd z no, ⟨by show (0 : Int) < 1; decide, by show (1 : Int) ≤ 1; decide⟩, ⟨by show (0 : Int) < 1; decide, by show (1 : Int) ≤ 1; decide⟩, fun p z => absurd z no, .nil, .nil, Nat.zero_le _, fun n z => absurd z no, fun p z => absurd z no, fun p z => absurd z no, .nil, h⟩
theorem thin_told {K : PySem.W.Frag} {H H' : Hp} {v : V} {t : PyData} (h : Told K H H' v t) : Thin 5 t := by
  have th : ∀ n, Thin 4 (tellD n) ∧ Thin 5 (tellD n) := fun n => by cases n <;> first | exact ⟨.non _, .non _⟩ | exact ⟨.int _ _, .int _ _⟩
  rcases h with ⟨n, _, rfl⟩ | ⟨D, ts, _, rfl, _, _, hl⟩
  · exact (th n).2
  · refine .lst 4 _ (by rw [List.length_map]; omega) fun d hd => ?_
    obtain ⟨n, _, rfl⟩ := List.mem_map.mp hd
    exact (th n).1
theorem thin_res {t : PyData} {x : Str} (h : Thin 5 t) : Thin 6 (.tuple [t, .str x]) := .tup 5 _ (by show 2 ≤ 1000; decide) fun d hd => by
  simp only [List.mem_cons, List.not_mem_nil, or_false] at hd
  rcases hd with rfl | rfl
  · exact h
  · exact .str _ _
theorem Pf.does {S : ShopS} {s m' : Sta} {N : Int} {L : Nat} {g' : Addr} {n' : St} {d : De} (h : Pf S s N L) (r : Rel n'.s m') (gp : n'.s.Good (N + 100)) (gm : m'.Good (N + 100)) : Pf (sDo S g' n' d) m' (N + 100) (L + 1) := by
  refine ⟨r, gp, gm, ?_, Nat.zero_le _⟩
  show (S.past ++ [_]).length ≤ _
  rw [List.length_append]
  exact Nat.succ_le_succ h.len.1
theorem atI_last {α : Type} (ws : List α) (v : α) : atI (ws ++ [v]) (-1) = some v := by
  unfold atI ixN
  rw [if_neg (by decide), List.length_append, List.length_singleton, if_pos (by omega)]
  show (ws ++ [v])[((-1 : Int) + ((ws.length + 1 : Nat) : Int)).toNat]? = some v
  rw [show ((-1 : Int) + ((ws.length + 1 : Nat) : Int)).toNat = ws.length by omega]
  simp
/-- deeds that cannot be done as they are told -/
def oddDs : List De := [.many [.cut 1], .odd [], .odd [.str "cut"], .odd [.str "strike", .int 1], .many []]
theorem oddDs_ok : ∀ e ∈ oddDs, Plain e ∨ e = .many [.cut 1] ∨ e = .many [] := by
  intro e he
  simp only [oddDs, List.mem_cons, List.not_mem_nil, or_false] at he
  rcases he with rfl | rfl | rfl | rfl | rfl
  · exact .inr (.inl rfl)
  · exact .inl (.inl rfl)
  · exact .inl (.inr (.inl rfl))
  · exact .inl (.inr (.inr (.inl rfl)))
  · exact .inr (.inr rfl)
theorem many_ok {s s' : Sta} {l : List De} {t : PyData} (deed : Deed (.many l)) (h : applyD false s (.many l) = .ok (s', t)) : (∀ d ∈ l, Plain d ∧ formless d = false) ∧ ∃ ts, foldD false s l = .ok (s', ts) ∧ t = .list (ts.map tellD) := by
  have e1 : applyD false s (.many l) = if l = [] ∨ (l.any fun d => formless d || isMany d) = true then .error eDeed else match foldD false s l with
      | .error e => .error e
      | .ok (s', ts) => .ok (s', .list (ts.map tellD)) := rfl
  rw [e1] at h
  split at h
  · cases h
  · rename_i hbn
    refine ⟨many_plain deed hbn, ?_⟩
    cases hf : foldD false s l with
    | error e => rw [hf] at h; cases h
    | ok r =>
      obtain ⟨s1, ts⟩ := r
      rw [hf] at h
      cases h
      exact ⟨ts, rfl, rfl⟩
theorem dpa_last {K : PySem.W.Frag} {H : Hp} : ∀ {xs : List V} {ds : List PyData} {d : PyData}, DpAll K H xs (ds ++ [d]) → ∃ ys z, xs = ys ++ [z] ∧ Dp K H z d
  | _, [], d, h => by
    obtain ⟨v, ws, rfl, h1, h2⟩ := dpa_cons h
    cases dpa_nil h2
    exact ⟨[], v, rfl, h1⟩
  | _, e :: ds, d, h => by
    obtain ⟨v, ws, rfl, h1, h2⟩ := dpa_cons h
    obtain ⟨ys, z, rfl, hz⟩ := dpa_last h2
    exact ⟨v :: ys, z, rfl, hz⟩
def lookD3 (S : ShopS) : PyData := .list [.list (S.past.map (·.d.toD)), tipD S.now.s.fresh, intsL S.now.s.order, intsL (markNos S.now.s)]
theorem tab_nt {H : Hp} {P : Addr} {q : Str} (t : TabS H P q) : ∀ ys, ¬ Rd H P (.tup ys) := by
  obtain ⟨ps, e, _⟩ := t
  intro ys r
  rcases r with r | ⟨u, r⟩ <;> rw [e] at r <;> cases r
theorem tab_live {H : Hp} {P : Addr} {q : Str} (t : TabS H P q) : H P ≠ none := by
  obtain ⟨ps, e, _⟩ := t
  rw [e]; simp
theorem many_dp {K : PySem.W.Frag} {H : Hp} {q t : Addr} {ws : List V} {l : List De} (nq : H q = none) (nt : (upd H q (.tup ws)) t = none) (dws : DpAll K H ws (l.map De.toD)) (hd : ∀ d ∈ l, Deed d) :
    But [] H (upd (upd H q (.tup ws)) t (.tup [.str "many", .ref q])) ∧ Dp K (upd (upd H q (.tup ws)) t (.tup [.str "many", .ref q])) (.ref t) (De.many l).toD := by
  have b1 : But [] H (upd H q (.tup ws)) := But.refl.new nq
  have b2 : But [] (upd H q (.tup ws)) (upd (upd H q (.tup ws)) t (.tup [.str "many", .ref q])) := But.refl.new nt
  refine ⟨b1.trans b2, .tup (SqT.of upd_same) (.cons (.str _) (.cons (.tup (b2.sqT (SqT.of upd_same)) ?_) .nil))⟩
  rw [toDs_eq]
  exact dps_but (b1.trans b2) _ _ (tup_parts hd) dws
theorem redo_undo {S : ShopS} {es : List Ent} {e : Ent} (h : S.past = es ++ [e]) : sRedo (sUndo S es e) S.gone ⟨e.d, S.now⟩ = S := by
  obtain ⟨p, g, now, past, gone⟩ := S
  have h : past = es ++ [e] := h
  subst h
  rfl
theorem sh_deeds {K : PySem.W.Frag} {H : Hp} {x : Addr} {S : ShopS} (h : ShopAt K H x S) : Sh (.list (S.past.map (·.d.toD))) 8 ∧ Sh (.list (S.gone.reverse.map (·.d.toD))) 8 := by
  obtain ⟨ps, _, h3⟩ := h.past
  obtain ⟨gs, _, h5⟩ := h.gone
  refine ⟨Sh.lst fun d hd => ?_, Sh.lst fun d hd => ?_⟩
  · obtain ⟨e, he, rfl⟩ := List.mem_map.mp hd
    exact sh_de (ents_ok h3 e he)
  · obtain ⟨e, he, rfl⟩ := List.mem_map.mp hd
    exact sh_de (ents_ok h5 e (List.mem_reverse.mp he))
theorem sh_look {K : PySem.W.Frag} {H : Hp} {x : Addr} {S : ShopS} {s : Sta} {N : Int} (h : ShopAt K H x S) (g : S.now.s.Good N) : Sh (lookD S) 9 := Sh.lst (n := 8) fun d hd => by
  simp only [List.mem_cons, List.not_mem_nil, or_false] at hd
  rcases hd with rfl | rfl | rfl | rfl | rfl
  · exact (sh_deeds h).1
  · exact (sh_deeds h).2
  · exact (sh_tip _).mono (by decide)
  · exact (Sh.lst (n := 0) (sh_ints _)).mono (by decide)
  · exact (Sh.lst (n := 0) (sh_ints _)).mono (by decide)
/-- shop.do(('many', tuple(deeds))) -/
def tLam2 (K : PySem.W.Frag) : XK → TE := fun E => tMx (He.ga K "Shop") "do" (spDo K) (WE fun cls d _ H => E cls d H) (tVar 2) (tCons (tTup (tCons (tC (.str "many")) (tCons (tCB (fun xs H Q => ∃ p ys, xs = [.ref p] ∧ ((SqL K H p ys ∧ ∀ l, H l = none → Q (.ref l) (upd H l (.tup ys))) ∨ (SqT K H p ys ∧ Q (.ref p) H))) (tCons (tVar 6) tNil)) tNil))) tNil)
section
variable {P : Program} {w : World} {K : PySem.W.Frag} {mg : Str → Option Value} {base : Heap}
/-- a def in which a lambda is made, its function object told -/
theorem Cn.calF (C : Cn w K mg) {CX : CXT} {k : Nat} {sp : Sp} {N ps : List Str} {x : Str} (d : He.DefD) {fd : FuncData} (F0 : FunD K d.name d.qual d.params d.body d.scope [] (d.kws K) (He.fAd K d.at_) fd) (S : FnScope N ps d.scope)
    (len : ∀ vs H Q E, sp vs H Q E → vs.length = ps.length)
    (body : ∀ (f : Addr) (cdv : Value) (A : Around) (outer : List Env) (s : Shared) (H : Hp) (vs : List V) (Q : VK) (E : XK), cdv = .ref (He.codeOf K (x, none)) → Room k (A.deeper (envOfC d.qual d.scope s.heap.objs.size f cdv)) → sp vs H Q E →
      ∃ t, PSs (cxOf CX P w K mg base N d.qual d.scope f cdv A outer s H E) d.body t ∧ t { nx := fun _ H' => Q .non H', rt := Q } (L2.start N vs) H) (hx : d.at_ = (x, none) := by rfl) : FnOk P w K mg base CX (k + 1) (He.ga K x) fd ps sp := by
  obtain ⟨oc, od, dV, kV, doc, pm, an, cdv, ct, osl, rfl, lk, hcd, _, _⟩ := F0.ex
  obtain ⟨c, rfl⟩ := He.codeIn_ref hcd
  have ec : He.codeOf K (x, none) = c := by
    rw [← hx]
    exact He.codeOf_eq lk rfl
  rw [hx] at lk
  exact fn_of lk hcd S len fun A outer s H vs Q E hr hsp => body _ _ A outer s H vs Q E (by rw [ec]) hr hsp
theorem law_ok (C : Cn w K mg) (TB : TBs K mg base) {fd : FuncData} (F : FunD K d_law.name d_law.qual d_law.params d_law.body d_law.scope [] (d_law.kws K) (He.fAd K d_law.at_) fd) : FnOk P w K mg base CX0 13 (He.ga K "law") fd ["_law_script"] (spLaw K) := by
  refine C.calF (k := 12) d_law F sc_law (fun vs H Q E h => ?_) (fun f cdv A outer s H vs Q E hc hr h => ?_)
  · obtain ⟨a, ns, rfl, _⟩ := h
    rfl
  have nd := sc_law.nd
  have tb := TB ("law", none) (by simp [tf])
  refine ⟨_, PSs.nox (pss_cons (ps_set (i := 1) nd rfl (by first | exact Or.inl rfl | exact Or.inr rfl) (pe_c (cal_bag C) hr (pa_cons (pv 0) pa_nil))) (pss_cons (ps_set (i := 2) nd rfl (by first | exact Or.inl rfl | exact Or.inr rfl) (pe_mk0 (mk_Shop C) hr)) (pss_cons (ps_set (i := 3) nd rfl (by first | exact Or.inl rfl | exact Or.inr rfl) (pe_c (cal_model C) hr (pa_cons (pe_lit (K := K) (.tup (.cons .int (.cons .int (.cons .int (.cons .int (.cons .int .nil)))))) (pe_tup (pa_cons pe_int (pa_cons pe_int (pa_cons pe_int (pa_cons pe_int (pa_cons pe_int pa_nil))))))) pa_nil))) (pss_cons (ps_for PassesOwn.never rfl (pi_range1 rfl (C.free 68) (pa_cons (pe_c (cal_pull C) hr (pa_cons (pv 1) (pa_cons pe_int pa_nil))) pa_nil)) (pg_name (i := 4) nd rfl (by first | exact Or.inl rfl | exact Or.inr rfl)) (pss_cons (ps_set (i := 5) nd rfl (by first | exact Or.inl rfl | exact Or.inr rfl) (pe_c (cal_deed C) hr (pa_cons (pv 1) (pa_cons (pv 3) (pa_cons pe_int pa_nil))))) (pss_one (ps_if (pt_not (pt_val (pe_c (cal_same C 6) hr (pa_cons (pe_lam (k := 10) (T := Tn K) (P := pLaw K) (t := fun E => tMx (He.ga K "Shop") "do" (spDo K) (WE fun cls d _ H => E cls d H) (tVar 2) (tCons (tVar 5) tNil)) (cal_tried C) tb hc tn_law_mem (tn_law C) hr (by exact LamX.lamS_by (sc := d_law.scope) (by decide +kernel)) rfl (fun _ _ _ _ _ => rfl) (by intro A outer s H E f c' hr'; exact pe_mx (met_do C) hr' (takes_of rfl rfl rfl rfl) (pv 2) (pa_cons (pv 5) pa_nil))) (pa_cons (pe_c (cal_apply C) hr (pa_cons (pv 3) (pa_cons (pv 5) pa_nil))) pa_nil))))) (pss_one (ps_ret pe_bl)) pss_nil)))) (pss_cons (ps_for PassesOwn.never rfl (pi_range1 rfl (C.free 68) (pa_cons (pe_op op_add pe_int (pe_c (cal_pull C) hr (pa_cons (pv 1) (pa_cons pe_int pa_nil)))) pa_nil)) (pg_name (i := 4) nd rfl (by first | exact Or.inl rfl | exact Or.inr rfl)) (C8.pss_cut (ps_if (PW.pt (pw_and (pt_cmpR op_eq (pe_c (cal_pull C) hr (pa_cons (pv 1) (pa_cons pe_int pa_nil))) pe_int (nomark _)) (pw_and1 (pt_cmpR (op_neD hr.units) (pe_m0 (met_deedsL C) hr (pv 2)) (pe_lst pa_nil) (nomark _))))) (pss_cons (ps_expr (pe_m0 (met_undo C) hr (pv 2))) (pss_one (ps_expr (pe_m0 (met_redo C) hr (pv 2))))) pss_nil) (pss_cons (ps_set (i := 6) nd rfl (by first | exact Or.inl rfl | exact Or.inr rfl) (pe_lst pa_nil)) (pss_cons (ps_set (i := 7) nd rfl (by first | exact Or.inl rfl | exact Or.inr rfl) (pe_c (cal_copy C) hr (pa_cons (pv 3) pa_nil))) (pss_cons (ps_for PassesOwn.never rfl (pi_range1 rfl (C.free 68) (pa_cons (pe_op op_add pe_int (pe_c (cal_pull C) hr (pa_cons (pv 1) (pa_cons pe_int pa_nil)))) pa_nil)) (pg_name (i := 8) nd rfl (by first | exact Or.inl rfl | exact Or.inr rfl)) (pss_cons (ps_expr (pe_bm PySem.F.plainAttrs_list PySem.F.slot_list_append PySem.F.type_list_append mt_append (pv 6) (pa_cons (pe_c (cal_deed C) hr (pa_cons (pv 1) (pa_cons (pv 7) (pa_cons pe_int pa_nil)))) pa_nil))) (pss_one (ps_expr (pe_c (cal_apply C) hr (pa_cons (pv 7) (pa_cons (pe_ix ix_list (pv 6) (pe_un un_neg pe_int) (fun _ _ => rfl)) pa_nil))))))) (C8.pss_cut (ps_if (pt_cmpR op_eq (pe_c (cal_pull C) hr (pa_cons (pv 1) (pa_cons pe_int pa_nil))) pe_int (nomark _)) (pss_cons (ps_set (i := 9) nd rfl (by first | exact Or.inl rfl | exact Or.inr rfl) (pe_ix ix_list (pe_litL (K := K) (.cons (.tup (.cons .str (.cons (.tup (.cons (.tup (.cons .str (.cons .int .nil))) .nil)) .nil))) (.cons (.tup .nil) (.cons (.tup (.cons .str .nil)) (.cons (.tup (.cons .str (.cons .int .nil))) (.cons (.tup (.cons .str (.cons (.tup .nil) .nil))) .nil))))) (pe_lst (pa_cons (pe_tup (pa_cons pe_str (pa_cons (pe_tup (pa_cons (pe_tup (pa_cons pe_str (pa_cons pe_int pa_nil))) pa_nil)) pa_nil))) (pa_cons (pe_tup pa_nil) (pa_cons (pe_tup (pa_cons pe_str pa_nil)) (pa_cons (pe_tup (pa_cons pe_str (pa_cons pe_int pa_nil))) (pa_cons (pe_tup (pa_cons pe_str (pa_cons (pe_tup pa_nil) pa_nil))) pa_nil))))))) (pe_c (cal_pull C) hr (pa_cons (pv 1) (pa_cons pe_int pa_nil))) (fun _ _ => rfl))) (pss_one (ps_expr (pe_bm PySem.F.plainAttrs_list PySem.F.slot_list_insert PySem.F.type_list_insert mt_insert (pv 6) (pa_cons (pe_c (cal_pull C) hr (pa_cons (pv 1) (pa_cons (pe_op op_add (pe_callB call_len_seq (by rfl) (C.free 67) (by decide +kernel) (pa_cons (pv 6) pa_nil)) pe_int) pa_nil))) (pa_cons (pv 9) pa_nil)))))) pss_nil) (pss_cons (ps_set (i := 10) nd rfl (by first | exact Or.inl rfl | exact Or.inr rfl) (pe_c (cal_apply C) hr (pa_cons (pv 3) (pa_cons (pe_tup (pa_cons pe_str (pa_cons (pe_callTy call_tuple_of (by rfl) (C.free 71) (by decide +kernel) (pa_cons (pv 6) pa_nil)) pa_nil))) pa_nil)))) (pss_cons (ps_set (i := 11) nd rfl (by first | exact Or.inl rfl | exact Or.inr rfl) (pe_m0 (met_twin C) hr (pv 2))) (pss_cons (ps_set (i := 12) nd rfl (by first | exact Or.inl rfl | exact Or.inr rfl) (pe_c ((cal_obo C TB)) hr (pa_cons (pv 11) (pa_cons (pv 6) pa_nil)))) (pss_cons (ps_set (i := 13) nd rfl (by first | exact Or.inl rfl | exact Or.inr rfl) (pe_c (cal_look C) hr (pa_cons (pv 2) pa_nil))) (pss_cons (ps_set (i := 14) nd rfl (by first | exact Or.inl rfl | exact Or.inr rfl) (pe_lam (k := 10) (T := Tn K) (P := pLaw K) (t := tLam2 K) (cal_tried C) tb hc tn_law_mem (tn_law C) hr (by exact LamX.lamS_by (sc := d_law.scope) (by decide +kernel)) rfl (fun _ _ _ _ _ => rfl) (by intro A outer s H E f c' hr'; exact pe_mx (met_do C) hr' (takes_of rfl rfl rfl rfl) (pv 2) (pa_cons (pe_tup (pa_cons pe_str (pa_cons (pe_callTy (v_call_tuple_of (K := K)) (by rfl) (C.free 71) (by decide +kernel) (pa_cons (pv 6) pa_nil)) pa_nil))) pa_nil)))) (pss_cons (ps_if (PW.pt (pw_or (pt_not (pt_val (pe_c (cal_same C 6) hr (pa_cons (pv 14) (pa_cons (pv 10) pa_nil))))) (pw_or1 (pt_not (pt_val (pe_c (cal_stands C) hr (pa_cons (pv 2) (pa_cons (pv 3) pa_nil)))))))) (pss_one (ps_ret pe_bl)) pss_nil) (pss_cons (ps_if (pt_cmpR op_ne (pe_ix ix_tup (pv 10) pe_int (fun _ _ => rfl)) pe_str (nomark _)) (pss_cons (ps_if (pt_cmpR (op_neD hr.units) (pe_c (cal_look C) hr (pa_cons (pv 2) pa_nil)) (pv 13) (nomark _)) (pss_one (ps_ret pe_bl)) pss_nil) (pss_one ps_continue)) pss_nil) (pss_cons (ps_if (PW.pt (pw_or (pt_not (pt_val (pe_c (cal_same C 6) hr (pa_cons (pv 14) (pa_cons (pv 12) pa_nil))))) (pw_or (pt_cmpR (op_neI (met_eq C).spc C.facts.2.2.2.1 C.facts.2.2.2.2.1 hr) (pv 2) (pv 11) (nomark _)) (pw_or1 (pt_cmpR (op_neD hr.units) (pe_m0 (met_undoneL C) hr (pv 2)) (pe_lst pa_nil) (nomark _)))))) (pss_one (ps_ret pe_bl)) pss_nil) (pss_cons (ps_expr (pe_m0 (met_undo C) hr (pv 2))) (pss_cons (ps_if (pt_cmpR (op_neD hr.units) (pe_op op_cat (pe_slice sl_list (pe_c (cal_look C) hr (pa_cons (pv 2) pa_nil)) po_none (po_some pe_int)) (pe_slice sl_list (pe_c (cal_look C) hr (pa_cons (pv 2) pa_nil)) (po_some pe_int) po_none)) (pe_op op_cat (pe_slice sl_list (pv 13) po_none (po_some pe_int)) (pe_slice sl_list (pv 13) (po_some pe_int) po_none)) (nomark _)) (pss_one (ps_ret pe_bl)) pss_nil) (pss_cons (ps_expr (pe_m0 (met_redo C) hr (pv 2))) (pss_one (ps_if (PW.pt (pw_or (pt_cmpR (op_neI (met_eq C).spc C.facts.2.2.2.1 C.facts.2.2.2.2.1 hr) (pv 2) (pv 11) (nomark _)) (pw_or1 (pt_cmpR (op_neD hr.units) (pe_ix ix_list (pe_m0 (met_deedsL C) hr (pv 2)) (pe_un un_neg pe_int) (fun _ _ => rfl)) (pe_tup (pa_cons pe_str (pa_cons (pe_callTy call_tuple_of (by rfl) (C.free 71) (by decide +kernel) (pa_cons (pv 6) pa_nil)) pa_nil))) (nomark _))))) (pss_one (ps_ret pe_bl)) pss_nil))))))))))))))))))) (pss_one (ps_ret pe_bl))))))), ?_⟩
  obtain ⟨a, ns, rfl, ha, hl, ht, k⟩ := h
  -- the bag, the shop, the model
  refine ⟨_, rfl, a, ns, rfl, ha, hl, fun b bc H1 b1 hb nb nbc => ?_⟩
  refine fun x dx nx ndx ne => ⟨x, dx, rfl, upd_same, fun p g t0 H2 c2 hS et yn => ⟨rfl, ?_⟩⟩
  have b1x : But [] H1 (upd (upd H1 dx (.own x)) x (.ins (He.ga K "Shop") dx [])) := (But.refl.young ndx).young nx
  have b2 : But [] H1 H2 := b1x.thn c2 fun y hy => .inr (by rw [show y = x by simpa using hy]; exact nx)
  have sY : ∀ y ∈ aS x (⟨p, g, t0, [], []⟩ : ShopS), H1 y = none := fun y hy => by
    rw [mem_aS] at hy
    have yn' : ∀ y ∈ [p, g] ++ stReads t0, H1 y = none := fun y hy => b1x.free (yn y hy)
    rcases hy with rfl | rfl | rfl | h | ⟨e, he, _⟩ | ⟨e, he, _⟩
    · exact nx
    · exact yn' _ (by simp)
    · exact yn' _ (by simp)
    · exact yn' y (by simp [h])
    · cases he
    · cases he
  clear c2 yn b1x
  refine fun H3 v b3 dv => ⟨v, sheet0, rfl, dv, fun m c H4 b4 ym hM => ?_⟩
  have t4 := tabs_but ht (b1.trans (b2.trans (b3.trans b4))) .nil
  have W0 : Wd K (Tn K) H4 b bc x ⟨p, g, t0, [], []⟩ m c (empty sheet0) := by
    have hb1 := hb
    refine ⟨hb.but (b2.trans (b3.trans b4)) (by simp) (by simp), hS.new (b3.trans b4), hM, t4, fun y hy z => (hb1.nice y hy).live (sY y z), fun y hy z => (hb1.nice y hy).live (b2.free (b3.free (ym y z))), fun y hy z => (hS.nice y hy).live (b3.free (ym y z))⟩
  have F0 : Pf ⟨p, g, t0, [], []⟩ (empty sheet0) 1 0 := ⟨by show Rel t0.s _; rw [et]; exact .refl _, by show t0.s.Good 1; rw [et]; exact empty_good _ rfl, empty_good _ rfl, ⟨Nat.le_refl _, Nat.le_refl _⟩⟩
  clear hS hM t4 sY ym b3 b4 b2 dv et nb nbc nx ndx ne
  generalize (⟨p, g, t0, [], []⟩ : ShopS) = S0 at W0 F0
  -- the first deeds
  refine ⟨_, rfl, b, bc, 13, rfl, W0.bag, by decide, by decide, fun H5 r g5 r0 r1 => ?_⟩
  have W1 := W0.gone g5
  clear W0 g5 ht ha b1
  refine ⟨r, rfl, by omega, by omega, ?_⟩
  refine for_range (lo := 0) (n := r.toNat) (fun i σ' H' => ∃ x4 x5 S c s, σ' = [some (.ref a), some (.ref b), some (.ref x), some (.ref m), x4, x5, none, none, none, none, none, none, none, none, none] ∧ Wd K (Tn K) H' b bc x S m c s ∧ Pf S s (1 + 100 * i) i) ?_ ?_ ?_
  · exact ⟨none, none, S0, c, _, rfl, W1, F0⟩
  · rintro i σ' H' hi ⟨x4, x5, S, c, s, rfl, W, F⟩
    refine ⟨_, rfl, _, rfl, b, bc, m, c, s, _, rfl, W.bag, W.mod, (fun z => W.bM b (by simp) (by rw [← z]; simp [mineM])), F.gm, by omega, fun H2 v d g2 dv pl => ?_⟩
    have W2 := W.gone g2
    have deed := pl.deed
    refine ⟨W2.tabs, fun H3 bP t3 => ?_⟩
    have W3 := W2.tab tn_law_mem bP t3
    have dv3 := dp_but bP _ _ (tup_de deed) dv
    obtain ⟨dxs, hx3⟩ := W3.shop.at_
    refine ⟨_, rfl, x, dxs, _, rfl, hx3, rfl, _, rfl, ?_⟩
    refine tNil_i ?_
    refine do_tried (S := S) (N := 1 + 100 * i) deed W3.shop F.gp (by omega) (by have := F.len.1; omega) dv3 (fun s' t n' g' u H4 ha b4 e1 e2 e3 h4 res => ?_) (fun e u H4 ha ok b4 h4 res => ?_)
    · have W4 := W3.shp b4 (fun y hy => .inl (by simp only [List.mem_cons, List.not_mem_nil, or_false] at hy ⊢; exact hy.elim .inl (fun z => .inr (.inl z)))) h4 (aS_do e2 e3)
      refine ⟨_, rfl, _, rfl, m, c, s, _, v, d, trivial, deed, rfl, W4.mod, F.gm, ⟨by decide, by omega⟩, dp_but b4 _ _ (tup_de deed) dv3, fun c' u2 H5 b5 sub5 hm5 res5 => ?_⟩
      have al := apply_alike F.rel F.gp F.gm deed
      rw [ha] at al
      generalize applyD true s d = y at al hm5 res5
      cases al with
      | @ok p' m' t r gp gm =>
      have W5 := W4.model b5 sub5 hm5
      have r5 := res.but b5 fun y hy => (W3.mod.nice y hy).live
      obtain ⟨_, _, _, _, told⟩ := id res
      refine ⟨_, _, _, rfl, thin_res (x := "") (thin_told told), r5.dp, res5.dp, fun H6 b6 => ⟨_, rfl, iteF ?_⟩⟩
      refine ⟨_, _, _, c', m', rfl, W5.new b6, ?_⟩
      rw [show (1 : Int) + 100 * ((i + 1 : Nat) : Int) = 1 + 100 * i + 100 by omega]
      exact F.does (by rw [e1]; exact r) (by rw [e1]; exact gp) gm
    · have W4 := W3.shp b4 (fun y hy => .inl (by rw [show y = x by simpa using hy]; simp)) h4 (fun y hy => .inl hy)
      refine ⟨_, rfl, _, rfl, m, c, s, _, v, d, trivial, deed, rfl, W4.mod, F.gm, ⟨by decide, by omega⟩, dp_but b4 _ _ (tup_de deed) dv3, fun c' u2 H5 b5 sub5 hm5 res5 => ?_⟩
      have al := apply_alike F.rel F.gp F.gm deed
      rw [ha] at al
      generalize applyD true s d = y at al hm5 res5
      cases al with
      | err e =>
      have W5 := W4.model b5 sub5 hm5
      have r5 := res.but b5 fun y hy => (W3.mod.nice y hy).live
      refine ⟨_, _, _, rfl, thin_res (x := e.text) (.non _), r5.dp, res5.dp, fun H6 b6 => ⟨_, rfl, iteF ?_⟩⟩
      exact ⟨_, _, S, c', s, rfl, W5.new b6, F.mono (by omega) (by omega)⟩
  · rintro σ' H' ⟨x4, x5, S, c, s, rfl, W, F⟩
    have F := F.mono (N' := 2000 + 100 * ((0 : Nat) : Int)) (L' := 20 + 0) (by omega) (by omega)
    refine ⟨_, rfl, b, bc, 5, rfl, W.bag, by decide, by decide, fun H6 r6 g6 r0 r1 => ⟨_, _, rfl, rfl, 1 + r6, rfl, by omega, by omega, ?_⟩⟩
    have W := W.gone g6
    refine for_range (lo := 0) (n := (1 + r6).toNat) (D := { nx := _, rt := Q }) (fun i σ' H' => ∃ x4 x5 x6 x7 x8 x9 x10 x11 x12 x13 x14 S c s, σ' = [some (.ref a), some (.ref b), some (.ref x), some (.ref m), x4, x5, x6, x7, x8, x9, x10, x11, x12, x13, x14] ∧ Wd K (Tn K) H' b bc x S m c s ∧ Pf S s (2000 + 100 * i) (20 + i)) ?_ ?_ ?_
    · exact ⟨x4, x5, none, none, none, none, none, none, none, none, none, S, c, s, rfl, W, F⟩
    · rintro i σ' H' hi ⟨x4, x5, x6, x7, x8, x9, x10, x11, x12, x13, x14, S, c, s, rfl, W, F⟩
      have hi6 : i < 6 := by omega
      refine ⟨fun σ2 H2 => σ2 = [some (.ref a), some (.ref b), some (.ref x), some (.ref m), some (.int (0 + (i : Nat))), x5, x6, x7, x8, x9, x10, x11, x12, x13, x14] ∧ Wd K (Tn K) H2 b bc x S m c s, ?_, ?_⟩
      · -- at times one back and forth
        refine ⟨_, rfl, b, bc, 3, rfl, W.bag, by decide, by decide, fun H2 r2 g2 r0 r1 => ?_⟩
        have W2 := W.gone g2
        refine ⟨rfl, _, rfl, ite2 (fun _ => ?_) (fun _ => iteF ⟨rfl, W2⟩)⟩
        obtain ⟨dx2, hx2⟩ := W2.shop.at_
        have lens : S.past.length < 1000 ∧ S.gone.length < 1000 := ⟨by have := F.len.1; omega, by have := F.len.2; omega⟩
        refine ⟨_, rfl, x, dx2, _, rfl, hx2, rfl, x, S, _, rfl, W2.shop, F.gp, lens, fun v H3 c3 fr => ⟨by decide, fun q nq => ?_⟩⟩
        have c4 := c3.new (o := .lst []) nq
        have W4 := W2.new c4
        refine ⟨_, .list [], dp_new (But.refl.new nq) _ _ fr.1, .lst (SqL.of upd_same) .nil, (sh_deeds W2.shop).1.shaped, rfl, ?_⟩
        rw [eqv_nilL]
        generalize upd H3 q (.lst []) = H4 at c4 W4
        refine ⟨_, rfl, ite2 (fun e0 => ?_) (fun _ => ⟨rfl, W4⟩)⟩
        rcases List.eq_nil_or_concat S.past with h | ⟨es, e, h⟩
        · rw [h] at e0; cases e0
        have h : S.past = es ++ [e] := by rw [h, List.concat_eq_append]
        obtain ⟨dx4, hx4⟩ := W4.shop.at_
        refine ⟨_, rfl, x, dx4, _, rfl, hx4, rfl, x, S, es, e, rfl, W4.shop, h, lens, fun H5 b5 h5 => ?_⟩
        have W5 := W4.shp b5 (fun y hy => .inl hy) h5 (fun y hy => .inl (aS_undo h y hy))
        obtain ⟨dx5, hx5⟩ := W5.shop.at_
        have les : es.length + 1 = S.past.length := by rw [h, List.length_append]; rfl
        refine ⟨_, rfl, x, dx5, _, rfl, hx5, rfl, x, sUndo S es e, S.gone, ⟨e.d, S.now⟩, rfl, W5.shop, rfl, ⟨by show es.length < 1000; omega, by show (S.gone ++ [_]).length < 1000; rw [List.length_append]; have := F.len.2; show S.gone.length + 1 < 1000; omega⟩, fun H6 b6 h6 => ?_⟩
        have W6 := W5.shp b6 (fun y hy => .inl hy) h6 (fun y hy => .inl (aS_redo rfl y hy))
        rw [show ({ sUndo S es e with now := (⟨e.d, S.now⟩ : Ent).t, gone := S.gone, past := (sUndo S es e).past ++ [⟨(⟨e.d, S.now⟩ : Ent).d, (sUndo S es e).now⟩] } : ShopS) = S from redo_undo h] at W6
        exact ⟨rfl, W6⟩
      · rintro σ2 H2 ⟨rfl, W2⟩
        clear W
        have bB : But [b] H2 H2 := nice_nil fun y hy => W2.bag.nice y (by rw [show y = b by simpa using hy]; simp)
        refine ⟨by decide, fun D2 nD2 => ?_⟩
        have c3 : But [] H2 (upd H2 D2 (.lst [])) := But.refl.new nD2
        have hD3 : (upd H2 D2 (.lst [])) D2 = some (.lst []) := upd_same
        generalize upd H2 D2 (.lst []) = H3 at c3 hD3
        refine ⟨_, rfl, m, c, s, rfl, (W2.new c3).mod, fun f2 cf H4 b4 yf hf => ?_⟩
        have hD4 := b4.keep _ _ hD3 (by simp)
        refine ⟨_, rfl, b, bc, 5, rfl, (W2.new (c3.trans b4)).bag, by decide, by decide, fun H5 r5 g5 r0 r1 => ⟨_, _, rfl, rfl, 1 + r5, rfl, by omega, by omega, ?_⟩⟩
        have nDb : D2 ≠ b := fun z => (W2.bag.nice b (by simp)).live (by rw [← z]; exact nD2)
        have yf2 : ∀ y ∈ mineM f2 cf, H2 y = none ∧ y ≠ D2 := fun y hy => ⟨c3.free (yf y hy), fun z => by
          have := yf y hy
          rw [z, hD3] at this; cases this⟩
        have nb2 : ∀ {y : Addr}, H2 y = none → y ≠ b := fun {y} h z => (W2.bag.nice b (by simp)).live (by rw [← z]; exact h)
        refine for_range (lo := 0) (n := (1 + r5).toNat) (fun j σ' H' => ∃ (y8 : Option V) (l : List De) (ws : List V) (cl : Cnt) (sl : Sta), σ' = [some (.ref a), some (.ref b), some (.ref x), some (.ref m), some (.int (0 + (i : Nat))), x5, some (.ref D2), some (.ref f2), y8, x9, x10, x11, x12, x13, x14] ∧ Gone K H2 b bc H' ∧ H' D2 = some (.lst ws) ∧ DpAll K H' ws (l.map De.toD) ∧ l.length = j ∧ (∀ d ∈ l, Plain d) ∧ ModAt K H' f2 cl sl ∧ sl.Good (2000 + 100 * i + 100 * j) ∧ ∀ y ∈ mineM f2 cl, H2 y = none ∧ y ≠ D2) ?_ ?_ ?_
        · refine ⟨x8, [], [], cf, s, rfl, ⟨((bB.step c3).step b4).thn g5.1 fun y hy => .inl hy, g5.2⟩, g5.1.keep _ _ hD4 (by simpa using nDb), .nil, rfl, (fun d hd => by cases hd), hf.butA g5.1 (fun y hy z => nb2 (yf2 y hy).1 (by simpa using z)), F.gm.mono (by omega), yf2⟩
        · rintro j σ' H' hj ⟨y8, l, ws, cl, sl, rfl, gg, hD, dws, hlj, pls, hml, gl, yl⟩
          have nfb : ∀ y ∈ mineM f2 cl, y ∉ [b] := fun y hy z => nb2 (yl y hy).1 (by simpa using z)
          refine ⟨_, rfl, .inl ⟨rfl, _, SqL.of hD⟩, _, rfl, _, rfl, b, bc, f2, cl, sl, _, rfl, gg.2, hml, (fun z => nfb cl.o (by simp [mineM]) (by simp [z])), gl, by omega, fun H6 v d g6 dv pl => ⟨D2, _, _, rfl, rfl, g6.1.keep _ _ hD (by simpa using nDb), by have := dpa_length dws; rw [List.length_map] at this; rw [sizeLine_eq]; omega, ?_⟩⟩
          have deed := pl.deed
          have hD6 := g6.1.keep _ _ hD (by simpa using nDb)
          have b7 : But [D2] H6 (upd H6 D2 (.lst (ws ++ [v]))) := But.one (nt_lst hD6)
          have hD7 : (upd H6 D2 (.lst (ws ++ [v]))) D2 = some (.lst (ws ++ [v])) := upd_same
          have gd7 : But [b] H2 (upd H6 D2 (.lst (ws ++ [v]))) := (gg.1.thn g6.1 fun y hy => .inl hy).young nD2
          generalize upd H6 D2 (.lst (ws ++ [v])) = H7 at b7 hD7 gd7
          have hm7 := (hml.butA g6.1 nfb).butA b7 fun y hy z => (yl y hy).2 (by simpa using z)
          have bg7 := g6.2.but b7 (by simpa using Ne.symm nDb) (by
            have := (W2.bag.nice bc (by simp)).live
            intro z
            rw [show bc = D2 by simpa using z] at this
            exact this nD2)
          have dv7 := dp_but b7 _ _ (tup_de deed) dv
          have dws7 : DpAll K H7 (ws ++ [v]) ((l ++ [d]).map De.toD) := by
            rw [List.map_append]
            exact dpa_app (dps_but b7 _ _ (tup_parts fun e he => (pls e he).deed) (dps_but g6.1 _ _ (tup_parts fun e he => (pls e he).deed) dws)) (.cons dv7 .nil)
          refine ⟨_, rfl, _, rfl, _, rfl, D2, _, _, _, rfl, rfl, SqL.of hD7, atI_last ws v, f2, cl, sl, _, v, d, trivial, deed, rfl, hm7, gl, ⟨by decide, by omega⟩, dv7, fun c' u H8 b8 sub8 hm8 res8 => ?_⟩
          have al := apply_alike (Rel.refl sl) gl gl deed
          have g8 : (resS sl (applyD true sl d)).Good (2000 + 100 * i + 100 * ((j + 1 : Nat) : Int)) := by
            generalize applyD false sl d = y1 at al
            generalize applyD true sl d = y2 at al
            cases al with
            | err e => exact gl.mono (by omega)
            | ok t r gp gm => exact gm.mono (by omega)
          have dead : ∀ y ∈ [b, bc], y ∉ mineM f2 cl := fun y hy z => (W2.bag.nice y hy).live (yl y z).1
          refine ⟨_, l ++ [d], ws ++ [v], c', _, rfl, ⟨gd7.thn b8 fun y hy => .inr (yl y hy).1, bg7.but b8 (dead b (by simp)) (dead bc (by simp))⟩, b8.keep _ _ hD7 (fun z => (yl D2 z).2 rfl), dps_but b8 _ _ (tup_parts fun e he => ?_) dws7, by rw [List.length_append, hlj]; rfl, fun e he => ?_, hm8, g8, fun y hy => ?_⟩
          · rcases List.mem_append.mp he with he | he
            · exact (pls e he).deed
            · rw [List.mem_singleton.mp he]; exact deed
          · rcases List.mem_append.mp he with he | he
            · exact pls e he
            · rw [List.mem_singleton.mp he]; exact pl
          · rcases sub8 y hy with h | h
            · exact yl y h
            · exact ⟨gd7.free h, fun z => by rw [z, hD7] at h; cases h⟩
        · rintro σ' H' ⟨y8, l, ws, cl, sl, rfl, gg, hD, dws, hlj, pls, hml, gl, yl⟩
          have hl5 : l.length ≤ 5 := by omega
          have lws := dpa_length dws
          rw [List.length_map] at lws
          clear hml gl yl
          refine ⟨fun σ3 H3 => ∃ (y9 : Option V) (l : List De) (ws : List V), σ3 = [some (.ref a), some (.ref b), some (.ref x), some (.ref m), some (.int (0 + (i : Nat))), x5, some (.ref D2), some (.ref f2), y8, y9, x10, x11, x12, x13, x14] ∧ Gone K H2 b bc H3 ∧ H3 D2 = some (.lst ws) ∧ DpAll K H3 ws (l.map De.toD) ∧ l.length ≤ 6 ∧ ∀ d ∈ l, Plain d ∨ d = .many [.cut 1] ∨ d = .many [], ?_, ?_⟩
          · -- an odd one, at times
            refine ⟨_, rfl, b, bc, 5, rfl, gg.2, by decide, by decide, fun H6 r6 g6 r0 r1 => ?_⟩
            have gg6 : Gone K H2 b bc H6 := ⟨gg.1.thn g6.1 fun y hy => .inl hy, g6.2⟩
            have hD6 := g6.1.keep _ _ hD (by simpa using nDb)
            have tl := tup_parts fun e he => (pls e he).deed
            have dws6 := dps_but g6.1 _ _ tl dws
            refine ⟨rfl, _, rfl, ite2 (fun _ => ?_) (fun _ => ⟨x9, l, ws, rfl, gg6, hD6, dws6, by omega, fun d hd => .inl (pls d hd)⟩)⟩
            refine fun H7 vs p c7 dvs np => ?_
            have dvs : DpAll K H7 vs (oddDs.map De.toD) := dvs
            have lvs := dpa_length dvs
            have lvs : vs.length = 5 := lvs
            have c8 : But [] H6 (upd H7 p (.lst vs)) := c7.new np
            have hp8 : (upd H7 p (.lst vs)) p = some (.lst vs) := upd_same
            have dvs8 : DpAll K (upd H7 p (.lst vs)) vs (oddDs.map De.toD) := dps_but (But.refl.new np) _ _ (tup_parts fun e he => part_deed (oddDs_ok e he)) dvs
            generalize upd H7 p (.lst vs) = H8 at c8 hp8 dvs8
            have gg8 : Gone K H2 b bc H8 := ⟨gg6.1.step c8, gg6.2.but c8 (by simp) (by simp)⟩
            have hD8 := c8.keep _ _ hD6 (by simp)
            refine ⟨_, rfl, b, bc, 5, rfl, gg8.2, by decide, by decide, fun H9 r9 g9 q0 q1 => ?_⟩
            obtain ⟨k9, rfl⟩ : ∃ k9 : Nat, r9 = k9 := ⟨r9.toNat, by omega⟩
            have hv : vs[k9]? = some vs[k9] := List.getElem?_eq_getElem (by omega)
            generalize vs[k9] = v at hv
            obtain ⟨dd, hdd, dv⟩ := dpa_get dvs8 hv
            rw [List.getElem?_map] at hdd
            obtain ⟨e, he, rfl⟩ := Option.map_eq_some_iff.mp hdd
            have eok := oddDs_ok e (List.mem_of_getElem? he)
            have npb : p ≠ b := fun z => by
              obtain ⟨_, _, h1, _⟩ := id g6.2
              have := c7.free np
              rw [z, h1] at this; cases this
            have gg9 : Gone K H2 b bc H9 := ⟨gg8.1.thn g9.1 fun y hy => .inl hy, g9.2⟩
            have hD9 := g9.1.keep _ _ hD8 (by simpa using nDb)
            have dv9 := dp_but g9.1 _ _ (tup_de (part_deed eok)) dv
            have dws9 := dps_but g9.1 _ _ tl (dps_but c8 _ _ tl dws6)
            refine ⟨p, vs, _, _, rfl, rfl, SqL.of (g9.1.keep _ _ hp8 (by simpa using npb)), atI_nat hv, ?_⟩
            refine ⟨_, rfl, .inl ⟨rfl, _, SqL.of hD9⟩, _, rfl, _, rfl, D2, ws, rfl, .inl (SqL.of hD9), _, _, rfl, rfl, b, bc, (ws.length : Int) + 1, rfl, gg9.2, by omega, by omega, fun H10 r10 g10 q0 q1 => ?_⟩
            have gg10 : Gone K H2 b bc H10 := ⟨gg9.1.thn g10.1 fun y hy => .inl hy, g10.2⟩
            have hD10 := g10.1.keep _ _ hD9 (by simpa using nDb)
            have dv10 := dp_but g10.1 _ _ (tup_de (part_deed eok)) dv9
            have dws10 := dps_but g10.1 _ _ tl dws9
            refine ⟨_, rfl, D2, ws, r10, v, rfl, rfl, hD10, by rw [sizeLine_eq]; omega, q0, by omega, ?_⟩
            have b11 : But [D2] H10 (upd H10 D2 (.lst (ws.take r10.toNat ++ [v] ++ ws.drop r10.toNat))) := But.one (nt_lst hD10)
            refine ⟨some v, l.take r10.toNat ++ [e] ++ l.drop r10.toNat, ws.take r10.toNat ++ [v] ++ ws.drop r10.toNat, rfl, ⟨gg10.1.young nD2, gg10.2.but b11 (by simpa using Ne.symm nDb) (by
                have := (W2.bag.nice bc (by simp)).live
                intro z
                rw [show bc = D2 by simpa using z] at this
                exact this nD2)⟩, upd_same, ?_, ?_, ?_⟩
            · rw [List.map_append, List.map_append, List.map_take, List.map_drop]
              exact dps_but b11 _ _ (tup_of fun z hz => by
                have one : ∀ {d : De}, d ∈ l → tupD d.toD = true := fun hd => tup_de (pls _ hd).deed
                rcases List.mem_append.mp hz with hz | hz
                · rcases List.mem_append.mp hz with hz | hz
                  · obtain ⟨d, hd, rfl⟩ := List.mem_map.mp (List.mem_of_mem_take hz)
                    exact one hd
                  · rw [List.mem_singleton.mp hz]; exact tup_de (part_deed eok)
                · obtain ⟨d, hd, rfl⟩ := List.mem_map.mp (List.mem_of_mem_drop hz)
                  exact one hd) (dpa_app (dpa_app (dpa_take _ dws10) (.cons dv10 .nil)) (dpa_drop _ dws10))
            · simp only [List.length_append, List.length_take, List.length_drop, List.length_singleton]
              omega
            · intro d hd
              rcases List.mem_append.mp hd with hd | hd
              · rcases List.mem_append.mp hd with hd | hd
                · exact .inl (pls d (List.mem_of_mem_take hd))
                · rw [List.mem_singleton.mp hd]; exact eok
              · exact .inl (pls d (List.mem_of_mem_drop hd))
          · rintro σ3 H3 ⟨y9, l, ws, rfl, gg, hD, dws, hl6, pls⟩
            have W3 := W2.gone gg
            have deeds : ∀ d ∈ l, Deed d := fun d hd => part_deed (pls d hd)
            have deed : Deed (.many l) := ⟨by omega, pls⟩
            have lens : S.past.length < 1000 ∧ S.gone.length < 1000 := ⟨by have := F.len.1; omega, by have := F.len.2; omega⟩
            -- what the model answers
            refine ⟨_, rfl, _, rfl, D2, ws, rfl, .inl ⟨SqL.of hD, fun q nq => ⟨by show 2 ≤ sizeLine; decide, fun t nt => ?_⟩⟩⟩
            obtain ⟨c5, dm5⟩ := many_dp nq nt dws deeds
            generalize upd (upd H3 q (.tup ws)) t (.tup [.str "many", .ref q]) = H5 at c5 dm5
            have W5 := W3.new c5
            have hD5 := c5.keep _ _ hD (by simp)
            have dws5 := dps_but c5 _ _ (tup_parts deeds) dws
            refine ⟨m, c, s, _, .ref t, .many l, trivial, deed, rfl, W5.mod, F.gm, ⟨by decide, by omega⟩, dm5, fun c' u H6 b6 sub6 hm6 res6 => ?_⟩
            have W6 := W5.model b6 sub6 hm6
            have nDm : D2 ∉ mineM m c := fun z => (W2.mod.nice D2 z).live nD2
            have hD6 := b6.keep _ _ hD5 nDm
            have dws6 := dps_but b6 _ _ (tup_parts deeds) dws5
            have al := apply_alike F.rel F.gp F.gm deed
            obtain ⟨qd, tvd, rfl, sqd, told6⟩ := id res6
            -- the twin
            obtain ⟨dx6, hx6⟩ := W6.shop.at_
            refine ⟨_, rfl, x, dx6, _, rfl, hx6, rfl, x, S, rfl, W6.shop, fun y p2 g2 H7 b7 yn hT => ?_⟩
            have W7 := W6.new b7
            have hD7 := b7.keep _ _ hD6 (by simp)
            have dws7 := dps_but b7 _ _ (tup_parts deeds) dws6
            have ny : H6 y = none := yn y (by simp)
            have np2 : H6 p2 = none := yn p2 (by simp)
            have ng2 : H6 g2 = none := yn g2 (by simp)
            have nD6 : ∀ {z : Addr}, H6 z = none → D2 ≠ z := fun {z} h e => by rw [← e, hD6] at h; cases h
            refine ⟨_, rfl, _, rfl, y, D2, { S with p := p2, g := g2 }, 2000 + 100 * i, ws, l, rfl, hT, F.gp, by omega, by have := lens.1; have := F.len.1; show S.past.length + l.length < 1000; omega, hD7, dws7, deeds, by omega, nD6 ny, nD6 np2, W7.tabs, fun S2 u8 H8 b8 t8 hT8 ar8 al8 => ?_⟩
            have tO7 : TabS H7 (pObo K) _ := W7.tabs _ tn_obo_mem
            have out8 : ∀ z ∈ [y, p2, pObo K], ∀ {w : Addr}, Nice H6 w → w ≠ z := fun z hz w nw e => by
              simp only [List.mem_cons, List.not_mem_nil, or_false] at hz
              rcases hz with rfl | rfl | rfl
              · exact nw.live (by rw [e]; exact ny)
              · exact nw.live (by rw [e]; exact np2)
              · exact nw.ne_tab (W6.tabs _ tn_obo_mem) e
            have W8 := W7.but b8 (fun z hz => ⟨fun h => out8 z hz (W6.bag.nice z h) rfl, fun h => out8 z hz (W6.shop.nice z h) rfl, fun h => out8 z hz (W6.mod.nice z h) rfl⟩) t8
            have hD8 := b8.keep _ _ hD7 (fun z => out8 D2 z (.inr (.inl ⟨_, hD6⟩)) rfl)
            have dws8 := dps_but b8 _ _ (tup_parts deeds) dws7
            -- a look ahead of it
            refine ⟨_, rfl, x, S, _, rfl, W8.shop, F.gp, lens, fun v9 H9 b9 lk9 => ?_⟩
            have W9 := W8.new b9
            -- the deeds as one, tried
            refine ⟨W9.tabs, fun H10 b10 t10 => ?_⟩
            have W10 := W9.tab tn_law_mem b10 t10
            have tL8 : TabS H8 (pLaw K) _ := W8.tabs _ tn_law_mem
            have hD10 := b10.keep _ _ (b9.keep _ _ hD8 (by simp)) (by simpa using (show Nice H9 D2 from .inr (.inl ⟨_, b9.keep _ _ hD8 (by simp)⟩)).ne_tab (W9.tabs _ tn_law_mem))
            have dws10 := dps_but b10 _ _ (tup_parts deeds) (dps_but b9 _ _ (tup_parts deeds) dws8)
            obtain ⟨dx10, hx10⟩ := W10.shop.at_
            refine ⟨_, rfl, x, dx10, _, rfl, hx10, rfl, _, rfl, D2, ws, rfl, .inl ⟨SqL.of hD10, fun q2 nq2 => ⟨by show 2 ≤ sizeLine; decide, fun t2 nt2 => ?_⟩⟩⟩
            obtain ⟨c11, dm11⟩ := many_dp nq2 nt2 dws10 deeds
            have hD11 := c11.keep _ _ hD10 (by simp)
            have dws11 := dps_but c11 _ _ (tup_parts deeds) dws10
            generalize upd (upd H10 q2 (.tup ws)) t2 (.tup [.str "many", .ref q2]) = H11 at c11 dm11 hD11 dws11
            have W11 := W10.new c11
            refine tNil_i ?_
            have bL : But [pLaw K] H8 H11 := (((But.nil [pLaw K] (fun z hz => by rw [show z = pLaw K by simpa using hz]; exact tab_nt tL8)).step b9).thn b10 fun z hz => .inl hz).step c11
            have nLw : ∀ {H : Hp} {q : Str}, TabS H (pLaw K) q → ∀ z ∈ [pLaw K], H z ≠ none := fun {H q} t z hz => by rw [show z = pLaw K by simpa using hz]; exact tab_live t
            have lk11 : LookAt K H8 H11 v9 S := (lk9.but b10 (nLw tL8)).but c11 (by simp)
            have twin11 : ShopAt K H11 y S2 := hT8.butA bL fun z hz e => (hT8.nice z hz).ne_tab tL8 (by simpa using e)
            have b68 : But [pObo K] H6 H8 := by
              refine ((But.nil [pObo K] (fun z hz => by rw [show z = pObo K by simpa using hz]; exact tab_nt (W6.tabs _ tn_obo_mem))).step b7).thn b8 fun z hz => ?_
              simp only [List.mem_cons, List.not_mem_nil, or_false] at hz
              rcases hz with rfl | rfl | rfl
              · exact .inr ny
              · exact .inr np2
              · exact .inl (List.mem_singleton.mpr rfl)
            have due11 : ResAt K H5 H11 (.ref qd) (resT (applyD true s (.many l))) := (res6.but b68 (fun z hz => by rw [show z = pObo K by simpa using hz]; exact tab_live (W5.tabs _ tn_obo_mem))).but bL (nLw (W5.tabs _ tn_law_mem))
            refine do_tried (S := S) (N := 2000 + 100 * i) deed W11.shop F.gp (by omega) lens.1 dm11 (fun s' t n' g' u H12 ha b12 e1 e2 e3 h12 res12 => ?_) (fun e u H12 ha ok b12 h12 res12 => ?_)
            · -- done
              obtain ⟨pl, ts, hF, rfl⟩ := many_ok deed ha
              obtain ⟨eS2, al9⟩ := al8 pl s' ts hF
              have nxp : ∀ {H : Hp} {c : Cnt} {s : Sta}, Wd K (Tn K) H b bc x S m c s → ∀ z ∈ [x, S.p], H z ≠ none := fun {H c s} W z hz => by
                simp only [List.mem_cons, List.not_mem_nil, or_false] at hz
                rcases hz with rfl | rfl
                · exact (W.shop.nice z (by simp [aS])).live
                · exact (W.shop.nice S.p (by simp [aS])).live
              have tw : ∀ z ∈ aS y S2, z ∉ [x, S.p] := fun z hz hq => by
                rcases ar8 z hz with h | h
                · rw [mem_aS] at h
                  have h6 := nxp W6 z hq
                  have sp := W6.shop.sep z
                  have hr : z ∈ S.reads → False := fun h => by
                    obtain ⟨h1, h2, _⟩ := sp h
                    simp only [List.mem_cons, List.not_mem_nil, or_false] at hq
                    exact hq.elim h1 h2
                  rcases h with rfl | h | h | h | ⟨e, he, h⟩ | ⟨e, he, h⟩
                  · exact h6 ny
                  · exact h6 (by rw [h]; exact np2)
                  · exact h6 (by rw [h]; exact ng2)
                  · exact hr (List.mem_append_left _ h)
                  · exact hr (List.mem_append_right _ (List.mem_append_left _ (List.mem_flatMap.mpr ⟨e, he, h⟩)))
                  · exact hr (List.mem_append_right _ (List.mem_append_right _ (List.mem_flatMap.mpr ⟨e, he, h⟩)))
                · exact nxp W7 z hq h
              have nDx : D2 ∉ [x, S.p] := fun z => nxp W2 D2 z nD2
              have W12 := W11.shp b12 (fun z hz => .inl (by simp only [List.mem_cons, List.not_mem_nil, or_false] at hz ⊢; exact hz.elim .inl (fun z => .inr (.inl z)))) h12 (aS_do e2 e3)
              have al11 := al9.but bL (nLw (W7.tabs _ tn_law_mem))
              have al12 := al11.but b12 (nxp W7)
              rw [ha] at al
              generalize applyD true s (.many l) = A at al hm6 res6 told6 sqd due11 W5 W6 W7 W8 W9 W10 W11 W12
              cases al with
              | @ok p' m' t r gp gm =>
              have due12 := due11.but b12 (nxp W5)
              have F12 : Pf (sDo S g' n' (.many l)) m' (2000 + 100 * i + 100) (20 + i + 1) := F.does (by rw [e1]; exact r) (by rw [e1]; exact gp) gm
              have lens' : (sDo S g' n' (.many l)).past.length < 1000 ∧ (sDo S g' n' (.many l)).gone.length < 1000 := ⟨by have := F12.len.1; omega, by have := F12.len.2; omega⟩
              have th6 : Thin 6 (.tuple [.list (ts.map tellD), .str ""]) := by
                obtain ⟨_, _, _, _, told⟩ := id res12
                exact thin_res (thin_told told)
              refine ⟨_, rfl, _, rfl, _, _, _, rfl, th6, res12.dp, due12.dp, fun H13 b13 => ⟨_, rfl, iteF ?_⟩⟩
              have W13 := W12.new b13
              refine ⟨_, rfl, _, rfl, x, sDo S g' n' (.many l), m, c', m', _, rfl, W13.shop, W13.mod, F12.rel, F12.gp, F12.gm, lens', fun H14 b14 => ⟨_, rfl, iteF ?_⟩⟩
              have W14 := W13.new b14
              have due14 := (due12.but b13 (by simp)).but b14 (by simp)
              have al14 := (al12.but b13 (by simp)).but b14 (by simp)
              have res14 := (res12.but b13 (by simp)).but b14 (by simp)
              have B14 := (b12.step b13).step b14
              obtain ⟨q', tv', e', sq14, _⟩ := due14
              cases e'
              refine ⟨_, rfl, qd, _, _, _, rfl, rfl, sq14, atI_nat (j := 1) rfl, rfl, _, rfl, iteF ?_⟩
              -- against the twin
              refine ⟨_, rfl, _, rfl, _, _, _, rfl, th6, res14.dp, al14.dp, fun H15 b15 => ⟨_, rfl, iteF ?_⟩⟩
              have W15 := W14.new b15
              have B15 := B14.step b15
              have twin15 := twin11.butA B15 tw
              obtain ⟨dx15, hx15⟩ := W15.shop.at_
              obtain ⟨dy15, hy15⟩ := twin15.at_
              have eT : toldD n'.s = toldD S2.now.s := by rw [e1, eS2]
              have gT : S2.now.s.Good (2000 + 100 * i + 100) := by rw [eS2, ← e1]; exact F12.gp
              refine ⟨_, rfl, _, rfl, x, y, dx15, dy15, _, _, rfl, rfl, hx15, hy15, x, y, _, S2, _, rfl, W15.shop, twin15, F12.gp, gT, eT, fun H16 b16 => ⟨true, rfl, _, rfl, iteF ?_⟩⟩
              have W16 := W15.new b16
              have B16 := B15.step b16
              obtain ⟨dx16, hx16⟩ := W16.shop.at_
              refine ⟨_, rfl, x, dx16, _, rfl, hx16, rfl, x, _, _, rfl, W16.shop, F12.gp, lens', fun v17 H17 b17 fr17 => ⟨by decide, fun q17 nq17 => ?_⟩⟩
              refine ⟨_, .list [], dp_new (But.refl.new nq17) _ _ fr17.1, .lst (SqL.of upd_same) .nil, (sh_deeds W16.shop).2.shaped, rfl, ?_⟩
              rw [eqv_nilL]
              have c17 := b17.new (o := .lst []) nq17
              generalize upd H17 q17 (.lst []) = H18 at c17
              refine ⟨_, rfl, iteF ?_⟩
              have W18 := W16.new c17
              have B18 := B16.step c17
              clear W12 W13 W14 W15 W16 fr17 b17 nq17 v17 H17
              -- taken back
              obtain ⟨dx18, hx18⟩ := W18.shop.at_
              refine ⟨_, rfl, x, dx18, _, rfl, hx18, rfl, x, sDo S g' n' (.many l), S.past, ⟨.many l, S.now⟩, rfl, W18.shop, rfl, lens', fun H19 b19 h19 => ?_⟩
              have W19 : Wd K (Tn K) H19 b bc x (sUndo (sDo S g' n' (.many l)) S.past ⟨.many l, S.now⟩) m c' m' := W18.shp b19 (fun z hz => .inl hz) h19 (fun z hz => .inl (aS_undo rfl z hz))
              have back : ∀ z ∈ [x, S.p, g'], z ∈ [x, S.p] ∨ H11 z = none := fun z hz => by
                simp only [List.mem_cons, List.not_mem_nil, or_false] at hz ⊢
                rcases hz with h | h | h
                · exact .inl (.inl h)
                · exact .inl (.inr h)
                · exact .inr (by rw [h]; exact e3)
              have B19 := B18.thn b19 back
              have lens19 : (sUndo (sDo S g' n' (.many l)) S.past ⟨.many l, S.now⟩).past.length < 1000 ∧ (sUndo (sDo S g' n' (.many l)) S.past ⟨.many l, S.now⟩).gone.length < 1000 := ⟨lens.1, by show 1 < 1000; decide⟩
              refine ⟨_, rfl, x, _, _, rfl, W19.shop, F.gp, lens19, fun va H20 b20 lka => ?_⟩
              obtain ⟨ta, a1, a2, a3, a4, a5, rfl, _, sqa, fa1, _, _, _, _⟩ := lka
              refine ⟨_, rfl, ta, _, rfl, sqa, fun p1 np1 => ?_⟩
              rw [show cutV [a1, a2, a3, a4, a5] none (some 1) = [a1] from rfl]
              have c21 : But [] H20 (upd H20 p1 (.lst [a1])) := But.refl.new np1
              have hp1 : (upd H20 p1 (.lst [a1])) p1 = some (.lst [a1]) := upd_same
              generalize upd H20 p1 (.lst [a1]) = H21 at c21 hp1
              have W21 := W19.new (b20.trans c21)
              refine ⟨_, rfl, x, _, _, rfl, W21.shop, F.gp, lens19, fun vb H22 b22 lkb => ?_⟩
              obtain ⟨tb2, b1', b2', b3', b4', b5', rfl, _, sqb, _, _, fb3, fb4, fb5⟩ := lkb
              refine ⟨_, rfl, tb2, _, rfl, sqb, fun p2' np2' => ?_⟩
              rw [show cutV [b1', b2', b3', b4', b5'] (some 2) none = [b3', b4', b5'] from rfl]
              have c23 : But [] H22 (upd H22 p2' (.lst [b3', b4', b5'])) := But.refl.new np2'
              have hp2 : (upd H22 p2' (.lst [b3', b4', b5'])) p2' = some (.lst [b3', b4', b5']) := upd_same
              generalize upd H22 p2' (.lst [b3', b4', b5']) = H23 at c23 hp2
              refine ⟨p1, p2', [a1], [b3', b4', b5'], rfl, rfl, c23.keep _ _ (b22.keep _ _ hp1 (by simp)) (by simp), hp2, by show 4 ≤ sizeLine; decide, fun p3 np3 => ?_⟩
              have c24 : But [] H23 (upd H23 p3 (.lst ([a1] ++ [b3', b4', b5']))) := But.refl.new np3
              have hp3 : (upd H23 p3 (.lst ([a1] ++ [b3', b4', b5']))) p3 = some (.lst [a1, b3', b4', b5']) := upd_same
              generalize upd H23 p3 (.lst ([a1] ++ [b3', b4', b5'])) = H24 at c24 hp3
              have c22_24 := c23.trans c24
              have c20_24 := c21.trans (b22.trans c22_24)
              have B24 := (B19.step b20).step c20_24
              obtain ⟨t9, z1, z2, z3, z4, z5, rfl, _, sq9, fz1, _, fz3, fz4, fz5⟩ := lk11.but B24 (nxp W8)
              refine ⟨_, rfl, _, rfl, t9, _, rfl, sq9, fun p4 np4 => ?_⟩
              rw [show cutV [z1, z2, z3, z4, z5] none (some 1) = [z1] from rfl]
              have c25 : But [] H24 (upd H24 p4 (.lst [z1])) := But.refl.new np4
              have hp4 : (upd H24 p4 (.lst [z1])) p4 = some (.lst [z1]) := upd_same
              generalize upd H24 p4 (.lst [z1]) = H25 at c25 hp4
              refine ⟨_, rfl, _, rfl, t9, _, rfl, c25.sqL sq9 (by simp), fun p5 np5 => ?_⟩
              rw [show cutV [z1, z2, z3, z4, z5] (some 2) none = [z3, z4, z5] from rfl]
              have c26 : But [] H25 (upd H25 p5 (.lst [z3, z4, z5])) := But.refl.new np5
              have hp5 : (upd H25 p5 (.lst [z3, z4, z5])) p5 = some (.lst [z3, z4, z5]) := upd_same
              generalize upd H25 p5 (.lst [z3, z4, z5]) = H26 at c26 hp5
              refine ⟨p4, p5, [z1], [z3, z4, z5], rfl, rfl, c26.keep _ _ hp4 (by simp), hp5, by show 4 ≤ sizeLine; decide, fun p6 np6 => ?_⟩
              have c27 : But [] H26 (upd H26 p6 (.lst ([z1] ++ [z3, z4, z5]))) := But.refl.new np6
              have hp6 : (upd H26 p6 (.lst ([z1] ++ [z3, z4, z5]))) p6 = some (.lst [z1, z3, z4, z5]) := upd_same
              generalize upd H26 p6 (.lst ([z1] ++ [z3, z4, z5])) = H27 at c27 hp6
              have c24_27 := c25.trans (c26.trans c27)
              have c20_27 := c20_24.trans c24_27
              have c22_27 := c22_24.trans c24_27
              have slk : Sh (lookD3 S) 9 := Sh.lst (n := 8) fun d hd => by
                simp only [List.mem_cons, List.not_mem_nil, or_false] at hd
                rcases hd with rfl | rfl | rfl | rfl
                · exact (sh_deeds W11.shop).1
                · exact (sh_tip _).mono (by decide)
                · exact (Sh.lst (n := 0) (sh_ints _)).mono (by decide)
                · exact (Sh.lst (n := 0) (sh_ints _)).mono (by decide)
              refine ⟨lookD3 S, lookD3 S, .lst (SqL.of (c24_27.keep _ _ hp3 (by simp))) (.cons (dp_new c20_27 _ _ fa1.1) (.cons (dp_new c22_27 _ _ fb3) (.cons (dp_new c22_27 _ _ fb4.1) (.cons (dp_new c22_27 _ _ fb5.1) .nil)))), .lst (SqL.of hp6) (.cons (dp_new c24_27 _ _ fz1.1) (.cons (dp_new c24_27 _ _ fz3) (.cons (dp_new c24_27 _ _ fz4.1) (.cons (dp_new c24_27 _ _ fz5.1) .nil)))), slk.shaped, slk.shaped, ?_⟩
              rw [slk.refl]
              refine ⟨_, rfl, iteF ?_⟩
              have W27 := W19.new (b20.trans c20_27)
              have B27 := B24.step c24_27
              -- done again
              obtain ⟨dx27, hx27⟩ := W27.shop.at_
              refine ⟨_, rfl, x, dx27, _, rfl, hx27, rfl, x, _, [], ⟨.many l, n'⟩, rfl, W27.shop, rfl, lens19, fun H28 b28 h28 => ?_⟩
              have W28 : Wd K (Tn K) H28 b bc x (sDo S g' n' (.many l)) m c' m' := W27.shp b28 (fun z hz => .inl hz) h28 (fun z hz => .inl (aS_redo (es := []) (e := ⟨.many l, n'⟩) rfl z hz))
              have B28 := B27.thn b28 back
              have twin28 := twin11.butA B28 tw
              obtain ⟨dx28, hx28⟩ := W28.shop.at_
              obtain ⟨dy28, hy28⟩ := twin28.at_
              refine ⟨_, rfl, _, rfl, x, y, dx28, dy28, _, _, rfl, rfl, hx28, hy28, x, y, _, S2, _, rfl, W28.shop, twin28, F12.gp, gT, eT, fun H29 b29 => ⟨true, rfl, _, rfl, iteF ?_⟩⟩
              have W29 := W28.new b29
              obtain ⟨dx29, hx29⟩ := W29.shop.at_
              refine ⟨_, rfl, x, dx29, _, rfl, hx29, rfl, x, _, _, rfl, W29.shop, F12.gp, lens', fun v30 H30 b30 fr30 => ?_⟩
              have fr30 : Dp K H30 v30 (.list ((S.past ++ [(⟨.many l, S.now⟩ : Ent)]).map (·.d.toD))) := fr30.1
              rw [List.map_append] at fr30
              obtain ⟨D30, xs30, rfl, sq30, da30⟩ := dp_lst fr30
              obtain ⟨ys30, zl, rfl, dz⟩ := dpa_last da30
              have B30 := (B28.step b29).step b30
              have hD30 := B30.keep _ _ hD11 nDx
              refine ⟨_, rfl, D30, _, _, _, rfl, rfl, sq30, atI_last _ _, ?_⟩
              refine ⟨_, rfl, D2, ws, rfl, .inl ⟨SqL.of hD30, fun q31 nq31 => ⟨by show 2 ≤ sizeLine; decide, fun t31 nt31 => ?_⟩⟩⟩
              obtain ⟨c31, dm31⟩ := many_dp nq31 nt31 (dps_but B30 _ _ (tup_parts deeds) dws11) deeds
              generalize upd (upd H30 q31 (.tup ws)) t31 (.tup [.str "many", .ref q31]) = H31 at c31 dm31
              refine ⟨_, _, dp_new c31 _ _ dz, dm31, (sh_de deed).shaped, (sh_de deed).shaped, ?_⟩
              rw [show PyData.eqv (De.many l).toD (De.many l).toD = true from (sh_de deed).refl]
              refine ⟨_, rfl, iteF ?_⟩
              exact ⟨_, _, _, _, _, _, _, _, _, _, _, _, c', m', rfl, (W29.new b30).new c31, F12.mono (by omega) (by omega)⟩
            · -- refused
              have W12 := W11.shp b12 (fun z hz => .inl (by rw [show z = x by simpa using hz]; simp)) h12 (fun z hz => .inl hz)
              have nx : ∀ {H : Hp} {c : Cnt} {s : Sta}, Wd K (Tn K) H b bc x S m c s → ∀ z ∈ [x], H z ≠ none := fun {H c s} W z hz => by rw [show z = x by simpa using hz]; exact (W.shop.nice x (by simp [aS])).live
              rw [ha] at al
              generalize applyD true s (.many l) = A at al hm6 res6 told6 sqd due11 W5 W6 W7 W8 W9 W10 W11 W12
              cases al with
              | err e =>
              have due12 := due11.but b12 (nx W5)
              have lk12 := lk11.but b12 (nx W8)
              refine ⟨_, rfl, _, rfl, _, _, _, rfl, thin_res (x := e.text) (.non _), res12.dp, due12.dp, fun H13 b13 => ⟨_, rfl, iteF ?_⟩⟩
              have W13 := W12.new b13
              refine ⟨_, rfl, _, rfl, x, S, m, c', s, _, rfl, W13.shop, W13.mod, F.rel, F.gp, F.gm, lens, fun H14 b14 => ⟨_, rfl, iteF ?_⟩⟩
              have W14 := W13.new b14
              have due14 := (due12.but b13 (by simp)).but b14 (by simp)
              have lk14 := (lk12.but b13 (by simp)).but b14 (by simp)
              obtain ⟨q', tv', e', sq14, _⟩ := due14
              cases e'
              refine ⟨_, rfl, qd, _, _, _, rfl, rfl, sq14, atI_nat (j := 1) rfl, rfl, _, rfl, ite2 (fun _ => ?_) (fun z => ?_)⟩
              · refine ⟨_, rfl, x, S, _, rfl, W14.shop, F.gp, lens, fun v15 H15 b15 lk15 => ?_⟩
                have sl := sh_look (s := s) W14.shop F.gp
                refine ⟨_, rfl, lookD S, lookD S, lk15.dp, (lk14.but b15 (by simp)).dp, sl.shaped, sl.shaped, ?_⟩
                rw [sl.refl]
                refine ⟨_, rfl, iteF ?_⟩
                exact ⟨_, _, _, _, _, _, _, _, _, _, _, S, c', s, rfl, W14.new b15, F.mono (by omega) (by omega)⟩
              · have z : ¬ (!decide (V.str e.text = V.str "")) = true := z
                exact absurd (by rw [decide_eq_false (fun q => ok.ne (V.str.inj q))]; rfl) z
    · rintro σ' H' ⟨x4, x5, x6, x7, x8, x9, x10, x11, x12, x13, x14, S, c, s, rfl, W, F⟩
      exact k _
end
end Bu
set_option Elab.async false
set_option linter.all false
set_option maxRecDepth 100000
set_option maxHeartbeats 0
/-! The head: the top's run, the law behind it. -/
namespace Bu
open PySem PySem.Spec PyProof.Rows L2
theorem obs_join {g : Addr → Option Obj} {w : World} (h3 : (((fn.take 44).all fun d => d.ok (Kf g)) && ((fa4 ++ (fa5 ++ fa6)).all fun f => f.ok (Kf g))) = true) (h4 : (((fn.drop 44).all fun d => d.ok (Kf g)) && ((fa0 ++ fa1).all fun f => f.ok (Kf g))) = true)
    (h5 : (fn.map fun d => He.fnW (Kf g) d.at_) = fn.map He.DefD.val) (h6 : ((((exB (Kf g) && tabs g (Kf g)) && ((fa2 ++ (fa3 ++ (fa7 ++ (fa8 ++ fa9)))).all fun f => f.ok (Kf g)))), (ts.map fun t => He.dicW (Kf g) (t.1 (Kf g)))) = (true, ts.map fun t => some (He.keysIn w.params t.2))) : obsB g = valB w := by
  have e6 := congrArg Prod.fst h6
  have e7 := congrArg Prod.snd h6
  simp only [Bool.and_eq_true, List.all_append] at h3 h4 e6
  have f1 : (fn.all fun d => d.ok (Kf g)) = true := by
    rw [← List.take_append_drop 44 fn, List.all_append, h3.1, h4.1]; rfl
  have f2 : (fa.all fun f => f.ok (Kf g)) = true := by
    unfold fa
    simp only [List.all_append, Bool.and_eq_true]
    exact ⟨h4.2.1, h4.2.2, e6.2.1, e6.2.2.1, h3.2.1, h3.2.2.1, h3.2.2.2, e6.2.2.2.1, e6.2.2.2.2.1, e6.2.2.2.2.2⟩
  show ((((fa.all fun f => f.ok (Kf g)) && fn.all fun d => d.ok (Kf g), fn.map fun d => He.fnW (Kf g) d.at_), ts.map fun t => He.dicW (Kf g) (t.1 (Kf g))), exB (Kf g) && tabs g (Kf g)) = (((true, fn.map He.DefD.val), ts.map fun t => some (He.keysIn w.params t.2)), true)
  rw [f1, f2, h5, show (ts.map fun t => He.dicW (Kf g) (t.1 (Kf g))) = _ from e7, show (exB (Kf g) && tabs g (Kf g)) = true by rw [e6.1.1, e6.1.2]; rfl]
  rfl
theorem run_of {w : World} (h1 : run1 w) (h2 : run2 w) (h3 : run3 w) (h4 : run4 w) (h5 : run5 w) (h6 : run6 w) : HandSHeadRun.RunEq R qv hkB ob 12000 names w := fun os => by
  have h1 := h1 os
  have h2 := h2 os
  have h3 := h3 os
  have h4 := h4 os
  have h5 := h5 os
  have h6 := h6 os
  generalize HandSHeadRun.endF (HandSHeadRun.stepQ (HandSHeadRun.denQ HandSHeadRun.tabQ) R.prog w) 12000 R.prog w os = o at h1 h2 h3 h4 h5 h6 ⊢
  cases o with
  | none => cases h1
  | some s =>
    have e1 := Option.some.inj h1
    have e2 := Option.some.inj h2
    have e := obs_join (w := w) (Option.some.inj h3) (Option.some.inj h4) (Option.some.inj h5) (Option.some.inj h6)
    show some (_, _, obsB (HandSHeadRun.getT s)) = some (true, PySem.W.openGood qv names, valB w)
    rw [e]
    exact congrArg some (congr (congrArg Prod.mk e1) (congr (congrArg Prod.mk e2) rfl))
theorem run_all (w : World) : HandSHeadRun.RunEq R qv hkB ob 12000 names w :=
  PySem.W.byRow2 "special-get-raises" (P := fun w => HandSHeadRun.RunEq R qv hkB ob 12000 names w) (fun w => run_of (run1_f w) (run2_f w) (run3_f w) (run4_f w) (run5_f w) (run6_f w)) (fun w => run_of (run1_t w) (run2_t w) (run3_t w) (run4_t w) (run5_t w) (run6_t w)) w
theorem law_at {w : World} {mg : Str → Option Value} {fa0 : Addr} {h : Heap} (Y : hkB.says w h) (G : h.Ns mainGlobals mg) (hmg : mg ("law" : Str) = some (.ref fa0)) : ∃ K : PySem.W.Frag, K.In h ∧ LamX.LawAtS RL w K CX0 13 63 "_law_script" mg fa0 h := by
  obtain ⟨K, KX, c⟩ := Y
  have C : Cn w K mg := Cn.of KX G c
  obtain ⟨fd, F⟩ := C.def_ 60 (d := d_law) rfl
  have F0 : FunD K d_law.name d_law.qual d_law.params d_law.body d_law.scope [] (d_law.kws K) (He.fAd K d_law.at_) fd := F
  have e : fa0 = He.ga K "law" := by
    have q := (C.glo 60 (x := "law") rfl).symm.trans hmg
    exact (Value.ref.inj (Option.some.inj q)).symm
  subst e
  have b0 := F0.bindsA (ps := ["_law_script"]) (fun _ _ _ _ _ _ us hl => match us, hl with | [_], _ => rfl)
  refine ⟨K, KX, fd, tf.map (He.cT K), spLaw K, fun p hp => ?_, fun p hp => ?_, fun p hp => ?_, fun s u => b0 s [u] rfl, fun H a ns hl _ hT hS => ?_, fun base KB GB TB => ?_⟩
  · obtain ⟨q, hq, rfl⟩ := List.mem_map.mp hp
    exact c.empty q hq
  · obtain ⟨q, hq, rfl⟩ := List.mem_map.mp hp
    exact c.out q hq
  · obtain ⟨q, hq, rfl⟩ := List.mem_map.mp hp
    exact PySem.W.codeHd_of_K KX (c.hd q hq)
  · refine ⟨a, ns, rfl, hS, hl, fun p hp => ?_, fun _ => rfl⟩
    simp only [Tn, List.mem_cons, List.not_mem_nil, or_false] at hp
    rcases hp with rfl | rfl
    · exact LamX.TabS.nil (hT (He.cT K ("law", none)) (List.mem_map.mpr ⟨("law", none), by simp [tf], rfl⟩))
    · exact LamX.TabS.nil (hT (He.cT K ("_law_one_by_one", none)) (List.mem_map.mpr ⟨("_law_one_by_one", none), by simp [tf], rfl⟩))
  · exact law_ok C (fun p hp => TB _ (List.mem_map.mpr ⟨p, hp, rfl⟩)) F0
end Bu
open PySem PySem.W PySem.Calls PyProof.Rows
theorem PySem.Challenge.cw_burinleaf_k52_whole_many_deeds_as_one_holds : PySem.Challenge.rw_burinleaf_k52_whole_many_deeds_as_one.Holds := by
  w_on; o_law
  refine HandSHeadRun.head_any (r := OpenLaw.row PySem.Challenge.rw_burinleaf_k52_whole_many_deeds_as_one) (q := Bu.qv) (H := Bu.hkB) (ob := Bu.ob) (M := 12000) (loose := Bu.names) (d := HandSHeadRun.topDef (OpenLaw.row PySem.Challenge.rw_burinleaf_k52_whole_many_deeds_as_one).prog 164) (kwd := []) Bu.ob_eq
    (by kernel_rfl) (fun s => by kernel_rfl) Bu.run_all (by kernel_rfl) (by kernel_rfl) (by kernel_rfl) (by rfl) (by first | assumption | decide +kernel) (by decide +kernel) ⟨rfl, rfl, rfl, rfl, rfl, by decide +kernel⟩ ?hw ?hc
  case hw => w_witness2
  case hc =>
    refine LamX.walk_ofTsE (l := PySem.Challenge.rw_burinleaf_k52_whole_many_deeds_as_one) (n := 63) (k := 13) (x := "_law_script") (CX := fun _ => L2.CX0) rfl (by decide) (by kernel_rfl) ⟨rfl, by decide, by decide⟩ ?F (fun _ _ _ _ _ z => z)
    intro w mg fa h Y G hmg0
    have hmg : mg ("law" : PySem.Str) = some (.ref fa) := by
      have e : (HandSHeadRun.topDef (OpenLaw.row PySem.Challenge.rw_burinleaf_k52_whole_many_deeds_as_one).prog 164).name = ("law" : PySem.Str) := by kernel_rfl
      rw [← e]
      exact hmg0
    exact Bu.law_at Y G hmg
