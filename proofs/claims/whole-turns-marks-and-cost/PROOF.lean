import PyProof.Rows.All
import Wide.All
import OpenK.AllK
import Wide.FinOn
import KE.KStateDown
import HandS.ForMost
import HandS.Exc
import HandS.TryOnly
import HandS.ExcOwn
import HandS.WordsExc
import HandS.ExcInit
import HandS.IsInst
import HandS.Conv
import HandS.Style
import HandS.Flow
import HandS.ListItems
import HandS.DictComp
import HandS.Defaults
import HandS.Head0
import HandS.Head1
import HandS.Head2
import HandS.HeadEnd
import HandS.HeadHook1
import HandS.HeadHook2
import HandS.Steps
import HandS.Wide
import HandS.WideBits
import HandS.Codes
import HandS.Walk
import HandS.More
import PySem.Challenge.RW_overwise_k73_whole_turns_marks_and_cost
import HandS.ExcField
set_option Elab.async false
set_option linter.all false
set_option maxRecDepth 100000
set_option maxHeartbeats 4000000
namespace K73
open PySem PySem.Spec PyProof.Rows L2
abbrev prg : Program := PySem.Challenge.pw_overwise_k73_whole_turns_marks_and_cost
def top (i : Nat) : Stmt := prg.main.body.getD i (.Pass ⟨0, 0, 0, 0⟩)
abbrev smNoPrices_init : Stmt := inClass (top 3) 0
abbrev sf_is_whole : Stmt := top 10
abbrev sf_need_width : Stmt := top 11
abbrev sf_cut : Stmt := top 12
abbrev sf_sum_of : Stmt := top 13
abbrev sf_gap_of : Stmt := top 14
abbrev sf_low_product : Stmt := top 15
abbrev sf_high_product : Stmt := top 16
abbrev sf_left : Stmt := top 17
abbrev sf_right : Stmt := top 18
abbrev sf_slide : Stmt := top 19
abbrev sf_row_words : Stmt := top 23
abbrev sf_need_prices : Stmt := top 24
abbrev sf_is_register : Stmt := top 31
abbrev sf_within : Stmt := top 32
abbrev smSet_init : Stmt := inClass (top 34) 0
abbrev smSet_word : Stmt := inClass (top 34) 1
abbrev smSet_told : Stmt := inClass (top 34) 2
abbrev smSet_fits : Stmt := inClass (top 34) 3
abbrev smSet_do : Stmt := inClass (top 34) 4
abbrev smCopy_init : Stmt := inClass (top 35) 0
abbrev smCopy_word : Stmt := inClass (top 35) 1
abbrev smCopy_told : Stmt := inClass (top 35) 2
abbrev smCopy_fits : Stmt := inClass (top 35) 3
abbrev smCopy_do : Stmt := inClass (top 35) 4
abbrev smPair_init : Stmt := inClass (top 36) 0
abbrev smPair_told : Stmt := inClass (top 36) 1
abbrev smPair_fits : Stmt := inClass (top 36) 2
abbrev smPair_worth : Stmt := inClass (top 36) 3
abbrev smPair_do : Stmt := inClass (top 36) 4
abbrev smLow_word : Stmt := inClass (top 37) 0
abbrev smLow_worth : Stmt := inClass (top 37) 1
abbrev smHigh_word : Stmt := inClass (top 38) 0
abbrev smHigh_worth : Stmt := inClass (top 38) 1
abbrev smAnd_word : Stmt := inClass (top 39) 0
abbrev smAnd_worth : Stmt := inClass (top 39) 1
abbrev smOr_word : Stmt := inClass (top 40) 0
abbrev smOr_worth : Stmt := inClass (top 40) 1
abbrev smUnlike_word : Stmt := inClass (top 41) 0
abbrev smUnlike_worth : Stmt := inClass (top 41) 1
abbrev smUnder_word : Stmt := inClass (top 42) 0
abbrev smUnder_worth : Stmt := inClass (top 42) 1
abbrev smCarrying_init : Stmt := inClass (top 43) 0
abbrev smCarrying_told : Stmt := inClass (top 43) 1
abbrev smCarrying_fits : Stmt := inClass (top 43) 2
abbrev smCarrying_both : Stmt := inClass (top 43) 3
abbrev smCarrying_do : Stmt := inClass (top 43) 4
abbrev smSum_word : Stmt := inClass (top 44) 0
abbrev smSum_both : Stmt := inClass (top 44) 1
abbrev smGap_word : Stmt := inClass (top 45) 0
abbrev smGap_both : Stmt := inClass (top 45) 1
abbrev smShift_init : Stmt := inClass (top 46) 0
abbrev smShift_told : Stmt := inClass (top 46) 1
abbrev smShift_fits : Stmt := inClass (top 46) 2
abbrev smShift_moved : Stmt := inClass (top 46) 3
abbrev smShift_do : Stmt := inClass (top 46) 4
abbrev smLeft_word : Stmt := inClass (top 47) 0
abbrev smLeft_moved : Stmt := inClass (top 47) 1
abbrev smRight_word : Stmt := inClass (top 48) 0
abbrev smRight_moved : Stmt := inClass (top 48) 1
abbrev smSlide_word : Stmt := inClass (top 49) 0
abbrev smSlide_moved : Stmt := inClass (top 49) 1
abbrev smPick_init : Stmt := inClass (top 50) 0
abbrev smPick_word : Stmt := inClass (top 50) 1
abbrev smPick_told : Stmt := inClass (top 50) 2
abbrev smPick_fits : Stmt := inClass (top 50) 3
abbrev smPick_do : Stmt := inClass (top 50) 4
abbrev smMark_init : Stmt := inClass (top 51) 0
abbrev smMark_word : Stmt := inClass (top 51) 1
abbrev smMark_told : Stmt := inClass (top 51) 2
abbrev smMark_fits : Stmt := inClass (top 51) 3
abbrev smMark_do : Stmt := inClass (top 51) 4
abbrev smTurns_init : Stmt := inClass (top 52) 0
abbrev smTurns_word : Stmt := inClass (top 52) 1
abbrev smTurns_told : Stmt := inClass (top 52) 2
abbrev smTurns_fits : Stmt := inClass (top 52) 3
abbrev sf_walked : Stmt := top 56
abbrev sf_check_steps : Stmt := top 57
abbrev sf_need_registers : Stmt := top 58
abbrev sf_go : Stmt := top 59
abbrev sf_run_steps : Stmt := top 60
abbrev sf_summed : Stmt := top 61
abbrev sf_cost_of : Stmt := top 62
abbrev sf_law_cell : Stmt := top 64
abbrev sf_law_begun : Stmt := top 65
abbrev sf_law_draw : Stmt := top 66
abbrev sf_law_whole : Stmt := top 67
abbrev sf_law_word : Stmt := top 68
abbrev sf_law_names : Stmt := top 69
abbrev sf_law_name : Stmt := top 70
abbrev sf_law_row : Stmt := top 71
abbrev sf_law_sorts : Stmt := top 72
abbrev sf_law_tree : Stmt := top 73
abbrev sf_law_shut : Stmt := top 74
abbrev sf_law_made_pair : Stmt := top 75
abbrev sf_law_made : Stmt := top 76
abbrev sf_law_pair_word : Stmt := top 77
abbrev sf_law_moved : Stmt := top 78
abbrev sf_law_done : Stmt := top 79
abbrev sf_law_words : Stmt := top 80
abbrev sf_law_same : Stmt := top 81
abbrev sf_law_run : Stmt := top 82
abbrev sf_law_flat : Stmt := top 83
abbrev sf_law_costs : Stmt := top 84
abbrev sf_law_dear : Stmt := top 85
abbrev sf_law_counted : Stmt := top 86
abbrev sf_law_held : Stmt := top 87
abbrev sf_law : Stmt := top 88
def dmNoPrices_init : He.DefD := ⟨("NoPrices", some "__init__"), "__init__", "NoPrices.__init__", defArgs smNoPrices_init, defBody smNoPrices_init, defScope smNoPrices_init, [], []⟩
def df_is_whole : He.DefD := ⟨("is_whole", none), "is_whole", "is_whole", defArgs sf_is_whole, defBody sf_is_whole, defScope sf_is_whole, [], []⟩
def df_need_width : He.DefD := ⟨("need_width", none), "need_width", "need_width", defArgs sf_need_width, defBody sf_need_width, defScope sf_need_width, [], []⟩
def df_cut : He.DefD := ⟨("cut", none), "cut", "cut", defArgs sf_cut, defBody sf_cut, defScope sf_cut, [], []⟩
def df_sum_of : He.DefD := ⟨("sum_of", none), "sum_of", "sum_of", defArgs sf_sum_of, defBody sf_sum_of, defScope sf_sum_of, [], []⟩
def df_gap_of : He.DefD := ⟨("gap_of", none), "gap_of", "gap_of", defArgs sf_gap_of, defBody sf_gap_of, defScope sf_gap_of, [], []⟩
def df_low_product : He.DefD := ⟨("low_product", none), "low_product", "low_product", defArgs sf_low_product, defBody sf_low_product, defScope sf_low_product, [], []⟩
def df_high_product : He.DefD := ⟨("high_product", none), "high_product", "high_product", defArgs sf_high_product, defBody sf_high_product, defScope sf_high_product, [], []⟩
def df_left : He.DefD := ⟨("left", none), "left", "left", defArgs sf_left, defBody sf_left, defScope sf_left, [], []⟩
def df_right : He.DefD := ⟨("right", none), "right", "right", defArgs sf_right, defBody sf_right, defScope sf_right, [], []⟩
def df_slide : He.DefD := ⟨("slide", none), "slide", "slide", defArgs sf_slide, defBody sf_slide, defScope sf_slide, [], []⟩
def df_row_words : He.DefD := ⟨("row_words", none), "row_words", "row_words", defArgs sf_row_words, defBody sf_row_words, defScope sf_row_words, [], []⟩
def df_need_prices : He.DefD := ⟨("need_prices", none), "need_prices", "need_prices", defArgs sf_need_prices, defBody sf_need_prices, defScope sf_need_prices, [], []⟩
def df_is_register : He.DefD := ⟨("is_register", none), "is_register", "is_register", defArgs sf_is_register, defBody sf_is_register, defScope sf_is_register, [], []⟩
def df_within : He.DefD := ⟨("within", none), "within", "within", defArgs sf_within, defBody sf_within, defScope sf_within, [], []⟩
def dmSet_init : He.DefD := ⟨("Set", some "__init__"), "__init__", "Set.__init__", defArgs smSet_init, defBody smSet_init, defScope smSet_init, [], []⟩
def dmSet_word : He.DefD := ⟨("Set", some "word"), "word", "Set.word", defArgs smSet_word, defBody smSet_word, defScope smSet_word, [], []⟩
def dmSet_told : He.DefD := ⟨("Set", some "told"), "told", "Set.told", defArgs smSet_told, defBody smSet_told, defScope smSet_told, [], []⟩
def dmSet_fits : He.DefD := ⟨("Set", some "fits"), "fits", "Set.fits", defArgs smSet_fits, defBody smSet_fits, defScope smSet_fits, [], []⟩
def dmSet_do : He.DefD := ⟨("Set", some "do"), "do", "Set.do", defArgs smSet_do, defBody smSet_do, defScope smSet_do, [], []⟩
def dmCopy_init : He.DefD := ⟨("Copy", some "__init__"), "__init__", "Copy.__init__", defArgs smCopy_init, defBody smCopy_init, defScope smCopy_init, [], []⟩
def dmCopy_word : He.DefD := ⟨("Copy", some "word"), "word", "Copy.word", defArgs smCopy_word, defBody smCopy_word, defScope smCopy_word, [], []⟩
def dmCopy_told : He.DefD := ⟨("Copy", some "told"), "told", "Copy.told", defArgs smCopy_told, defBody smCopy_told, defScope smCopy_told, [], []⟩
def dmCopy_fits : He.DefD := ⟨("Copy", some "fits"), "fits", "Copy.fits", defArgs smCopy_fits, defBody smCopy_fits, defScope smCopy_fits, [], []⟩
def dmCopy_do : He.DefD := ⟨("Copy", some "do"), "do", "Copy.do", defArgs smCopy_do, defBody smCopy_do, defScope smCopy_do, [], []⟩
def dmPair_init : He.DefD := ⟨("Pair", some "__init__"), "__init__", "Pair.__init__", defArgs smPair_init, defBody smPair_init, defScope smPair_init, [], []⟩
def dmPair_told : He.DefD := ⟨("Pair", some "told"), "told", "Pair.told", defArgs smPair_told, defBody smPair_told, defScope smPair_told, [], []⟩
def dmPair_fits : He.DefD := ⟨("Pair", some "fits"), "fits", "Pair.fits", defArgs smPair_fits, defBody smPair_fits, defScope smPair_fits, [], []⟩
def dmPair_worth : He.DefD := ⟨("Pair", some "worth"), "worth", "Pair.worth", defArgs smPair_worth, defBody smPair_worth, defScope smPair_worth, [], []⟩
def dmPair_do : He.DefD := ⟨("Pair", some "do"), "do", "Pair.do", defArgs smPair_do, defBody smPair_do, defScope smPair_do, [], []⟩
def dmLow_word : He.DefD := ⟨("Low", some "word"), "word", "Low.word", defArgs smLow_word, defBody smLow_word, defScope smLow_word, [], []⟩
def dmLow_worth : He.DefD := ⟨("Low", some "worth"), "worth", "Low.worth", defArgs smLow_worth, defBody smLow_worth, defScope smLow_worth, [], []⟩
def dmHigh_word : He.DefD := ⟨("High", some "word"), "word", "High.word", defArgs smHigh_word, defBody smHigh_word, defScope smHigh_word, [], []⟩
def dmHigh_worth : He.DefD := ⟨("High", some "worth"), "worth", "High.worth", defArgs smHigh_worth, defBody smHigh_worth, defScope smHigh_worth, [], []⟩
def dmAnd_word : He.DefD := ⟨("And", some "word"), "word", "And.word", defArgs smAnd_word, defBody smAnd_word, defScope smAnd_word, [], []⟩
def dmAnd_worth : He.DefD := ⟨("And", some "worth"), "worth", "And.worth", defArgs smAnd_worth, defBody smAnd_worth, defScope smAnd_worth, [], []⟩
def dmOr_word : He.DefD := ⟨("Or", some "word"), "word", "Or.word", defArgs smOr_word, defBody smOr_word, defScope smOr_word, [], []⟩
def dmOr_worth : He.DefD := ⟨("Or", some "worth"), "worth", "Or.worth", defArgs smOr_worth, defBody smOr_worth, defScope smOr_worth, [], []⟩
def dmUnlike_word : He.DefD := ⟨("Unlike", some "word"), "word", "Unlike.word", defArgs smUnlike_word, defBody smUnlike_word, defScope smUnlike_word, [], []⟩
def dmUnlike_worth : He.DefD := ⟨("Unlike", some "worth"), "worth", "Unlike.worth", defArgs smUnlike_worth, defBody smUnlike_worth, defScope smUnlike_worth, [], []⟩
def dmUnder_word : He.DefD := ⟨("Under", some "word"), "word", "Under.word", defArgs smUnder_word, defBody smUnder_word, defScope smUnder_word, [], []⟩
def dmUnder_worth : He.DefD := ⟨("Under", some "worth"), "worth", "Under.worth", defArgs smUnder_worth, defBody smUnder_worth, defScope smUnder_worth, [], []⟩
def dmCarrying_init : He.DefD := ⟨("Carrying", some "__init__"), "__init__", "Carrying.__init__", defArgs smCarrying_init, defBody smCarrying_init, defScope smCarrying_init, [], []⟩
def dmCarrying_told : He.DefD := ⟨("Carrying", some "told"), "told", "Carrying.told", defArgs smCarrying_told, defBody smCarrying_told, defScope smCarrying_told, [], []⟩
def dmCarrying_fits : He.DefD := ⟨("Carrying", some "fits"), "fits", "Carrying.fits", defArgs smCarrying_fits, defBody smCarrying_fits, defScope smCarrying_fits, [], []⟩
def dmCarrying_both : He.DefD := ⟨("Carrying", some "both"), "both", "Carrying.both", defArgs smCarrying_both, defBody smCarrying_both, defScope smCarrying_both, [], []⟩
def dmCarrying_do : He.DefD := ⟨("Carrying", some "do"), "do", "Carrying.do", defArgs smCarrying_do, defBody smCarrying_do, defScope smCarrying_do, [], []⟩
def dmSum_word : He.DefD := ⟨("Sum", some "word"), "word", "Sum.word", defArgs smSum_word, defBody smSum_word, defScope smSum_word, [], []⟩
def dmSum_both : He.DefD := ⟨("Sum", some "both"), "both", "Sum.both", defArgs smSum_both, defBody smSum_both, defScope smSum_both, [], []⟩
def dmGap_word : He.DefD := ⟨("Gap", some "word"), "word", "Gap.word", defArgs smGap_word, defBody smGap_word, defScope smGap_word, [], []⟩
def dmGap_both : He.DefD := ⟨("Gap", some "both"), "both", "Gap.both", defArgs smGap_both, defBody smGap_both, defScope smGap_both, [], []⟩
def dmShift_init : He.DefD := ⟨("Shift", some "__init__"), "__init__", "Shift.__init__", defArgs smShift_init, defBody smShift_init, defScope smShift_init, [], []⟩
def dmShift_told : He.DefD := ⟨("Shift", some "told"), "told", "Shift.told", defArgs smShift_told, defBody smShift_told, defScope smShift_told, [], []⟩
def dmShift_fits : He.DefD := ⟨("Shift", some "fits"), "fits", "Shift.fits", defArgs smShift_fits, defBody smShift_fits, defScope smShift_fits, [], []⟩
def dmShift_moved : He.DefD := ⟨("Shift", some "moved"), "moved", "Shift.moved", defArgs smShift_moved, defBody smShift_moved, defScope smShift_moved, [], []⟩
def dmShift_do : He.DefD := ⟨("Shift", some "do"), "do", "Shift.do", defArgs smShift_do, defBody smShift_do, defScope smShift_do, [], []⟩
def dmLeft_word : He.DefD := ⟨("Left", some "word"), "word", "Left.word", defArgs smLeft_word, defBody smLeft_word, defScope smLeft_word, [], []⟩
def dmLeft_moved : He.DefD := ⟨("Left", some "moved"), "moved", "Left.moved", defArgs smLeft_moved, defBody smLeft_moved, defScope smLeft_moved, [], []⟩
def dmRight_word : He.DefD := ⟨("Right", some "word"), "word", "Right.word", defArgs smRight_word, defBody smRight_word, defScope smRight_word, [], []⟩
def dmRight_moved : He.DefD := ⟨("Right", some "moved"), "moved", "Right.moved", defArgs smRight_moved, defBody smRight_moved, defScope smRight_moved, [], []⟩
def dmSlide_word : He.DefD := ⟨("Slide", some "word"), "word", "Slide.word", defArgs smSlide_word, defBody smSlide_word, defScope smSlide_word, [], []⟩
def dmSlide_moved : He.DefD := ⟨("Slide", some "moved"), "moved", "Slide.moved", defArgs smSlide_moved, defBody smSlide_moved, defScope smSlide_moved, [], []⟩
def dmPick_init : He.DefD := ⟨("Pick", some "__init__"), "__init__", "Pick.__init__", defArgs smPick_init, defBody smPick_init, defScope smPick_init, [], []⟩
def dmPick_word : He.DefD := ⟨("Pick", some "word"), "word", "Pick.word", defArgs smPick_word, defBody smPick_word, defScope smPick_word, [], []⟩
def dmPick_told : He.DefD := ⟨("Pick", some "told"), "told", "Pick.told", defArgs smPick_told, defBody smPick_told, defScope smPick_told, [], []⟩
def dmPick_fits : He.DefD := ⟨("Pick", some "fits"), "fits", "Pick.fits", defArgs smPick_fits, defBody smPick_fits, defScope smPick_fits, [], []⟩
def dmPick_do : He.DefD := ⟨("Pick", some "do"), "do", "Pick.do", defArgs smPick_do, defBody smPick_do, defScope smPick_do, [], []⟩
def dmMark_init : He.DefD := ⟨("Mark", some "__init__"), "__init__", "Mark.__init__", defArgs smMark_init, defBody smMark_init, defScope smMark_init, [], []⟩
def dmMark_word : He.DefD := ⟨("Mark", some "word"), "word", "Mark.word", defArgs smMark_word, defBody smMark_word, defScope smMark_word, [], []⟩
def dmMark_told : He.DefD := ⟨("Mark", some "told"), "told", "Mark.told", defArgs smMark_told, defBody smMark_told, defScope smMark_told, [], []⟩
def dmMark_fits : He.DefD := ⟨("Mark", some "fits"), "fits", "Mark.fits", defArgs smMark_fits, defBody smMark_fits, defScope smMark_fits, [], []⟩
def dmMark_do : He.DefD := ⟨("Mark", some "do"), "do", "Mark.do", defArgs smMark_do, defBody smMark_do, defScope smMark_do, [], []⟩
def dmTurns_init : He.DefD := ⟨("Turns", some "__init__"), "__init__", "Turns.__init__", defArgs smTurns_init, defBody smTurns_init, defScope smTurns_init, [], []⟩
def dmTurns_word : He.DefD := ⟨("Turns", some "word"), "word", "Turns.word", defArgs smTurns_word, defBody smTurns_word, defScope smTurns_word, [], []⟩
def dmTurns_told : He.DefD := ⟨("Turns", some "told"), "told", "Turns.told", defArgs smTurns_told, defBody smTurns_told, defScope smTurns_told, [], []⟩
def dmTurns_fits : He.DefD := ⟨("Turns", some "fits"), "fits", "Turns.fits", defArgs smTurns_fits, defBody smTurns_fits, defScope smTurns_fits, [], []⟩
def df_walked : He.DefD := ⟨("walked", none), "walked", "walked", defArgs sf_walked, defBody sf_walked, defScope sf_walked, [], []⟩
def df_check_steps : He.DefD := ⟨("check_steps", none), "check_steps", "check_steps", defArgs sf_check_steps, defBody sf_check_steps, defScope sf_check_steps, [], []⟩
def df_need_registers : He.DefD := ⟨("need_registers", none), "need_registers", "need_registers", defArgs sf_need_registers, defBody sf_need_registers, defScope sf_need_registers, [], []⟩
def df_go : He.DefD := ⟨("go", none), "go", "go", defArgs sf_go, defBody sf_go, defScope sf_go, [], []⟩
def df_run_steps : He.DefD := ⟨("run_steps", none), "run_steps", "run_steps", defArgs sf_run_steps, defBody sf_run_steps, defScope sf_run_steps, [], []⟩
def df_summed : He.DefD := ⟨("summed", none), "summed", "summed", defArgs sf_summed, defBody sf_summed, defScope sf_summed, [], []⟩
def df_cost_of : He.DefD := ⟨("cost_of", none), "cost_of", "cost_of", defArgs sf_cost_of, defBody sf_cost_of, defScope sf_cost_of, [], []⟩
def df_law_cell : He.DefD := ⟨("_law_cell", none), "_law_cell", "_law_cell", defArgs sf_law_cell, defBody sf_law_cell, defScope sf_law_cell, [], []⟩
def df_law_begun : He.DefD := ⟨("_law_begun", none), "_law_begun", "_law_begun", defArgs sf_law_begun, defBody sf_law_begun, defScope sf_law_begun, [], []⟩
def df_law_draw : He.DefD := ⟨("_law_draw", none), "_law_draw", "_law_draw", defArgs sf_law_draw, defBody sf_law_draw, defScope sf_law_draw, [], []⟩
def df_law_whole : He.DefD := ⟨("_law_whole", none), "_law_whole", "_law_whole", defArgs sf_law_whole, defBody sf_law_whole, defScope sf_law_whole, [], []⟩
def df_law_word : He.DefD := ⟨("_law_word", none), "_law_word", "_law_word", defArgs sf_law_word, defBody sf_law_word, defScope sf_law_word, [], []⟩
def df_law_names : He.DefD := ⟨("_law_names", none), "_law_names", "_law_names", defArgs sf_law_names, defBody sf_law_names, defScope sf_law_names, [], []⟩
def df_law_name : He.DefD := ⟨("_law_name", none), "_law_name", "_law_name", defArgs sf_law_name, defBody sf_law_name, defScope sf_law_name, [], []⟩
def df_law_row : He.DefD := ⟨("_law_row", none), "_law_row", "_law_row", defArgs sf_law_row, defBody sf_law_row, defScope sf_law_row, [], []⟩
def df_law_sorts : He.DefD := ⟨("_law_sorts", none), "_law_sorts", "_law_sorts", defArgs sf_law_sorts, defBody sf_law_sorts, defScope sf_law_sorts, [], []⟩
def df_law_tree : He.DefD := ⟨("_law_tree", none), "_law_tree", "_law_tree", defArgs sf_law_tree, defBody sf_law_tree, defScope sf_law_tree, [], []⟩
def df_law_shut : He.DefD := ⟨("_law_shut", none), "_law_shut", "_law_shut", defArgs sf_law_shut, defBody sf_law_shut, defScope sf_law_shut, [], []⟩
def df_law_made_pair : He.DefD := ⟨("_law_made_pair", none), "_law_made_pair", "_law_made_pair", defArgs sf_law_made_pair, defBody sf_law_made_pair, defScope sf_law_made_pair, [], []⟩
def df_law_made : He.DefD := ⟨("_law_made", none), "_law_made", "_law_made", defArgs sf_law_made, defBody sf_law_made, defScope sf_law_made, [], []⟩
def df_law_pair_word : He.DefD := ⟨("_law_pair_word", none), "_law_pair_word", "_law_pair_word", defArgs sf_law_pair_word, defBody sf_law_pair_word, defScope sf_law_pair_word, [], []⟩
def df_law_moved : He.DefD := ⟨("_law_moved", none), "_law_moved", "_law_moved", defArgs sf_law_moved, defBody sf_law_moved, defScope sf_law_moved, [], []⟩
def df_law_done : He.DefD := ⟨("_law_done", none), "_law_done", "_law_done", defArgs sf_law_done, defBody sf_law_done, defScope sf_law_done, [], []⟩
def df_law_words : He.DefD := ⟨("_law_words", none), "_law_words", "_law_words", defArgs sf_law_words, defBody sf_law_words, defScope sf_law_words, [], []⟩
def df_law_same : He.DefD := ⟨("_law_same", none), "_law_same", "_law_same", defArgs sf_law_same, defBody sf_law_same, defScope sf_law_same, [], []⟩
def df_law_run : He.DefD := ⟨("_law_run", none), "_law_run", "_law_run", defArgs sf_law_run, defBody sf_law_run, defScope sf_law_run, [], []⟩
def df_law_flat : He.DefD := ⟨("_law_flat", none), "_law_flat", "_law_flat", defArgs sf_law_flat, defBody sf_law_flat, defScope sf_law_flat, [], []⟩
def df_law_costs : He.DefD := ⟨("_law_costs", none), "_law_costs", "_law_costs", defArgs sf_law_costs, defBody sf_law_costs, defScope sf_law_costs, [], []⟩
def df_law_dear : He.DefD := ⟨("_law_dear", none), "_law_dear", "_law_dear", defArgs sf_law_dear, defBody sf_law_dear, defScope sf_law_dear, [], []⟩
def df_law_counted : He.DefD := ⟨("_law_counted", none), "_law_counted", "_law_counted", defArgs sf_law_counted, defBody sf_law_counted, defScope sf_law_counted, [], []⟩
def df_law_held : He.DefD := ⟨("_law_held", none), "_law_held", "_law_held", defArgs sf_law_held, defBody sf_law_held, defScope sf_law_held, [], []⟩
def df_law : He.DefD := ⟨("law", none), "law", "law", defArgs sf_law, defBody sf_law, defScope sf_law, [], []⟩
def fn : List He.DefD := [dmNoPrices_init, df_is_whole, df_need_width, df_cut, df_sum_of, df_gap_of, df_low_product, df_high_product, df_left, df_right, df_slide, df_row_words, df_need_prices, df_is_register, df_within, dmSet_init, dmSet_word, dmSet_told, dmSet_fits, dmSet_do, dmCopy_init, dmCopy_word, dmCopy_told, dmCopy_fits, dmCopy_do, dmPair_init, dmPair_told, dmPair_fits, dmPair_worth, dmPair_do, dmLow_word, dmLow_worth, dmHigh_word, dmHigh_worth, dmAnd_word, dmAnd_worth, dmOr_word, dmOr_worth, dmUnlike_word, dmUnlike_worth, dmUnder_word, dmUnder_worth, dmCarrying_init, dmCarrying_told, dmCarrying_fits, dmCarrying_both, dmCarrying_do, dmSum_word, dmSum_both, dmGap_word, dmGap_both, dmShift_init, dmShift_told, dmShift_fits, dmShift_moved, dmShift_do, dmLeft_word, dmLeft_moved, dmRight_word, dmRight_moved, dmSlide_word, dmSlide_moved, dmPick_init, dmPick_word, dmPick_told, dmPick_fits, dmPick_do, dmMark_init, dmMark_word, dmMark_told, dmMark_fits, dmMark_do, dmTurns_init, dmTurns_word, dmTurns_told, dmTurns_fits, df_walked, df_check_steps, df_need_registers, df_go, df_run_steps, df_summed, df_cost_of, df_law_cell, df_law_begun, df_law_draw, df_law_whole, df_law_word, df_law_names, df_law_name, df_law_row, df_law_sorts, df_law_tree, df_law_shut, df_law_made_pair, df_law_made, df_law_pair_word, df_law_moved, df_law_done, df_law_words, df_law_same, df_law_run, df_law_flat, df_law_costs, df_law_dear, df_law_counted, df_law_held, df_law]
def fa : List He.Fa := [.glo "is_whole",
  .glo "need_width",
  .glo "cut",
  .glo "sum_of",
  .glo "gap_of",
  .glo "low_product",
  .glo "high_product",
  .glo "left",
  .glo "right",
  .glo "slide",
  .glo "row_words",
  .glo "need_prices",
  .glo "is_register",
  .glo "within",
  .glo "walked",
  .glo "check_steps",
  .glo "need_registers",
  .glo "go",
  .glo "run_steps",
  .glo "summed",
  .glo "cost_of",
  .glo "_law_cell",
  .glo "_law_begun",
  .glo "_law_draw",
  .glo "_law_whole",
  .glo "_law_word",
  .glo "_law_names",
  .glo "_law_name",
  .glo "_law_row",
  .glo "_law_sorts",
  .glo "_law_tree",
  .glo "_law_shut",
  .glo "_law_made_pair",
  .glo "_law_made",
  .glo "_law_pair_word",
  .glo "_law_moved",
  .glo "_law_done",
  .glo "_law_words",
  .glo "_law_same",
  .glo "_law_run",
  .glo "_law_flat",
  .glo "_law_costs",
  .glo "_law_dear",
  .glo "_law_counted",
  .glo "_law_held",
  .glo "law",
  .glo "Set",
  .glo "Copy",
  .glo "Sum",
  .glo "Gap",
  .glo "Low",
  .glo "High",
  .glo "Left",
  .glo "Right",
  .glo "Slide",
  .glo "And",
  .glo "Or",
  .glo "Unlike",
  .glo "Under",
  .glo "Pick",
  .glo "Mark",
  .glo "Turns",
  .glo "Step",
  .glo "NoPrices",
  .glo "WiseError",
  .glo "ROW_WORDS",
  .free "isinstance",
  .free "int",
  .free "bool",
  .free "list",
  .free "dict",
  .free "tuple",
  .free "str",
  .free "len",
  .free "all",
  .free "range",
  .free "max",
  .free "min",
  .free "sorted",
  .free "sum",
  .int "LEAST_WIDTH" 4,
  .int "GREATEST_WIDTH" 32,
  .int "MOST_PRICE" 1000,
  .str "LETTERS" "abcdefghijklmnopqrstuvwxyz",
  .str "FIGURES" "0123456789",
  .int "LONGEST_NAME" 8,
  .int "MOST_LINE" 9999,
  .int "MOST_TIMES" 64,
  .int "DEEPEST" 5,
  .int "MOST_RUN" 1000000,
  .cls "Set",
  .mkr "Set",
  .noat "Set" "goal",
  .noat "Set" "bits",
  .meth "Set" "word",
  .meth "Set" "told",
  .meth "Set" "fits",
  .meth "Set" "do",
  .cls "Copy",
  .mkr "Copy",
  .noat "Copy" "goal",
  .noat "Copy" "one",
  .meth "Copy" "word",
  .meth "Copy" "told",
  .meth "Copy" "fits",
  .meth "Copy" "do",
  .cls "Sum",
  .mkr "Sum",
  .noat "Sum" "goal",
  .noat "Sum" "carry",
  .noat "Sum" "one",
  .noat "Sum" "other",
  .meth "Sum" "word",
  .meth "Sum" "told",
  .meth "Sum" "fits",
  .meth "Sum" "do",
  .meth "Sum" "both",
  .cls "Gap",
  .mkr "Gap",
  .noat "Gap" "goal",
  .noat "Gap" "carry",
  .noat "Gap" "one",
  .noat "Gap" "other",
  .meth "Gap" "word",
  .meth "Gap" "told",
  .meth "Gap" "fits",
  .meth "Gap" "do",
  .meth "Gap" "both",
  .cls "Low",
  .mkr "Low",
  .noat "Low" "goal",
  .noat "Low" "one",
  .noat "Low" "other",
  .meth "Low" "word",
  .meth "Low" "told",
  .meth "Low" "fits",
  .meth "Low" "do",
  .meth "Low" "worth",
  .cls "High",
  .mkr "High",
  .noat "High" "goal",
  .noat "High" "one",
  .noat "High" "other",
  .meth "High" "word",
  .meth "High" "told",
  .meth "High" "fits",
  .meth "High" "do",
  .meth "High" "worth",
  .cls "Left",
  .mkr "Left",
  .noat "Left" "goal",
  .noat "Left" "one",
  .noat "Left" "k",
  .meth "Left" "word",
  .meth "Left" "told",
  .meth "Left" "fits",
  .meth "Left" "do",
  .meth "Left" "moved",
  .cls "Right",
  .mkr "Right",
  .noat "Right" "goal",
  .noat "Right" "one",
  .noat "Right" "k",
  .meth "Right" "word",
  .meth "Right" "told",
  .meth "Right" "fits",
  .meth "Right" "do",
  .meth "Right" "moved",
  .cls "Slide",
  .mkr "Slide",
  .noat "Slide" "goal",
  .noat "Slide" "one",
  .noat "Slide" "k",
  .meth "Slide" "word",
  .meth "Slide" "told",
  .meth "Slide" "fits",
  .meth "Slide" "do",
  .meth "Slide" "moved",
  .cls "And",
  .mkr "And",
  .noat "And" "goal",
  .noat "And" "one",
  .noat "And" "other",
  .meth "And" "word",
  .meth "And" "told",
  .meth "And" "fits",
  .meth "And" "do",
  .meth "And" "worth",
  .cls "Or",
  .mkr "Or",
  .noat "Or" "goal",
  .noat "Or" "one",
  .noat "Or" "other",
  .meth "Or" "word",
  .meth "Or" "told",
  .meth "Or" "fits",
  .meth "Or" "do",
  .meth "Or" "worth",
  .cls "Unlike",
  .mkr "Unlike",
  .noat "Unlike" "goal",
  .noat "Unlike" "one",
  .noat "Unlike" "other",
  .meth "Unlike" "word",
  .meth "Unlike" "told",
  .meth "Unlike" "fits",
  .meth "Unlike" "do",
  .meth "Unlike" "worth",
  .cls "Under",
  .mkr "Under",
  .noat "Under" "goal",
  .noat "Under" "one",
  .noat "Under" "other",
  .meth "Under" "word",
  .meth "Under" "told",
  .meth "Under" "fits",
  .meth "Under" "do",
  .meth "Under" "worth",
  .cls "Pick",
  .mkr "Pick",
  .noat "Pick" "goal",
  .noat "Pick" "by",
  .noat "Pick" "one",
  .noat "Pick" "other",
  .meth "Pick" "word",
  .meth "Pick" "told",
  .meth "Pick" "fits",
  .meth "Pick" "do",
  .cls "Mark",
  .mkr "Mark",
  .noat "Mark" "line",
  .noat "Mark" "mark",
  .noat "Mark" "by",
  .meth "Mark" "word",
  .meth "Mark" "told",
  .meth "Mark" "fits",
  .meth "Mark" "do",
  .cls "Turns",
  .mkr "Turns",
  .noat "Turns" "times",
  .noat "Turns" "steps",
  .meth "Turns" "word",
  .meth "Turns" "told",
  .meth "Turns" "fits"]
/-- NoPrices, a class over WiseError over ValueError -/
def oexB (K : PySem.W.Frag) (C : Addr) : Bool := (match K.lookup C with
  | some ⟨.type "type", _, .cls cd, sl⟩ => (match cd.mro, sl.toList with
    | .ref C' :: bm, [_, _, _, _, some (.builtin n), _] => C' == C && (n == "ValueError.__new__" && (!cd.hasDel && (cd.hasDict && PySem.HandSPX.refsVE bm)))
    | _, _ => false)
  | _ => false) && (decide (PySem.W.findIn K (.ref C) "__setattr__" = some (some (.builtin "object.__setattr__"))) && (decide (PySem.W.subIn K (.ref C) (.type "BaseException") = some true) && (decide (PySem.W.typeIn K (.ref C) = some (.type "type")) && PySem.W.keepIn K (.ref C))))
def exs : List (PySem.W.Frag → Bool) := [fun K => decide (He.ma K (He.ga K "Sum") "told" = He.ma K (He.ga K "Carrying") "told"),
  fun K => decide (He.ma K (He.ga K "Sum") "fits" = He.ma K (He.ga K "Carrying") "fits"),
  fun K => decide (He.ma K (He.ga K "Sum") "do" = He.ma K (He.ga K "Carrying") "do"),
  fun K => decide (He.ma K (He.ga K "Sum") "__init__" = He.ma K (He.ga K "Carrying") "__init__"),
  fun K => decide (He.ma K (He.ga K "Gap") "told" = He.ma K (He.ga K "Carrying") "told"),
  fun K => decide (He.ma K (He.ga K "Gap") "fits" = He.ma K (He.ga K "Carrying") "fits"),
  fun K => decide (He.ma K (He.ga K "Gap") "do" = He.ma K (He.ga K "Carrying") "do"),
  fun K => decide (He.ma K (He.ga K "Gap") "__init__" = He.ma K (He.ga K "Carrying") "__init__"),
  fun K => decide (He.ma K (He.ga K "Low") "told" = He.ma K (He.ga K "Pair") "told"),
  fun K => decide (He.ma K (He.ga K "Low") "fits" = He.ma K (He.ga K "Pair") "fits"),
  fun K => decide (He.ma K (He.ga K "Low") "do" = He.ma K (He.ga K "Pair") "do"),
  fun K => decide (He.ma K (He.ga K "Low") "__init__" = He.ma K (He.ga K "Pair") "__init__"),
  fun K => decide (He.ma K (He.ga K "High") "told" = He.ma K (He.ga K "Pair") "told"),
  fun K => decide (He.ma K (He.ga K "High") "fits" = He.ma K (He.ga K "Pair") "fits"),
  fun K => decide (He.ma K (He.ga K "High") "do" = He.ma K (He.ga K "Pair") "do"),
  fun K => decide (He.ma K (He.ga K "High") "__init__" = He.ma K (He.ga K "Pair") "__init__"),
  fun K => decide (He.ma K (He.ga K "Left") "told" = He.ma K (He.ga K "Shift") "told"),
  fun K => decide (He.ma K (He.ga K "Left") "fits" = He.ma K (He.ga K "Shift") "fits"),
  fun K => decide (He.ma K (He.ga K "Left") "do" = He.ma K (He.ga K "Shift") "do"),
  fun K => decide (He.ma K (He.ga K "Left") "__init__" = He.ma K (He.ga K "Shift") "__init__"),
  fun K => decide (He.ma K (He.ga K "Right") "told" = He.ma K (He.ga K "Shift") "told"),
  fun K => decide (He.ma K (He.ga K "Right") "fits" = He.ma K (He.ga K "Shift") "fits"),
  fun K => decide (He.ma K (He.ga K "Right") "do" = He.ma K (He.ga K "Shift") "do"),
  fun K => decide (He.ma K (He.ga K "Right") "__init__" = He.ma K (He.ga K "Shift") "__init__"),
  fun K => decide (He.ma K (He.ga K "Slide") "told" = He.ma K (He.ga K "Shift") "told"),
  fun K => decide (He.ma K (He.ga K "Slide") "fits" = He.ma K (He.ga K "Shift") "fits"),
  fun K => decide (He.ma K (He.ga K "Slide") "do" = He.ma K (He.ga K "Shift") "do"),
  fun K => decide (He.ma K (He.ga K "Slide") "__init__" = He.ma K (He.ga K "Shift") "__init__"),
  fun K => decide (He.ma K (He.ga K "And") "told" = He.ma K (He.ga K "Pair") "told"),
  fun K => decide (He.ma K (He.ga K "And") "fits" = He.ma K (He.ga K "Pair") "fits"),
  fun K => decide (He.ma K (He.ga K "And") "do" = He.ma K (He.ga K "Pair") "do"),
  fun K => decide (He.ma K (He.ga K "And") "__init__" = He.ma K (He.ga K "Pair") "__init__"),
  fun K => decide (He.ma K (He.ga K "Or") "told" = He.ma K (He.ga K "Pair") "told"),
  fun K => decide (He.ma K (He.ga K "Or") "fits" = He.ma K (He.ga K "Pair") "fits"),
  fun K => decide (He.ma K (He.ga K "Or") "do" = He.ma K (He.ga K "Pair") "do"),
  fun K => decide (He.ma K (He.ga K "Or") "__init__" = He.ma K (He.ga K "Pair") "__init__"),
  fun K => decide (He.ma K (He.ga K "Unlike") "told" = He.ma K (He.ga K "Pair") "told"),
  fun K => decide (He.ma K (He.ga K "Unlike") "fits" = He.ma K (He.ga K "Pair") "fits"),
  fun K => decide (He.ma K (He.ga K "Unlike") "do" = He.ma K (He.ga K "Pair") "do"),
  fun K => decide (He.ma K (He.ga K "Unlike") "__init__" = He.ma K (He.ga K "Pair") "__init__"),
  fun K => decide (He.ma K (He.ga K "Under") "told" = He.ma K (He.ga K "Pair") "told"),
  fun K => decide (He.ma K (He.ga K "Under") "fits" = He.ma K (He.ga K "Pair") "fits"),
  fun K => decide (He.ma K (He.ga K "Under") "do" = He.ma K (He.ga K "Pair") "do"),
  fun K => decide (He.ma K (He.ga K "Under") "__init__" = He.ma K (He.ga K "Pair") "__init__"),
  fun K => decide (PySem.W.kitOne K (.ref (He.ga K "Set")) (.ref (He.ga K "Step")) = some true),
  fun K => decide (PySem.W.kitOne K (.ref (He.ga K "Set")) (.ref (He.ga K "Turns")) = some false),
  fun K => decide (PySem.W.kitOne K (.ref (He.ga K "Copy")) (.ref (He.ga K "Step")) = some true),
  fun K => decide (PySem.W.kitOne K (.ref (He.ga K "Copy")) (.ref (He.ga K "Turns")) = some false),
  fun K => decide (PySem.W.kitOne K (.ref (He.ga K "Sum")) (.ref (He.ga K "Step")) = some true),
  fun K => decide (PySem.W.kitOne K (.ref (He.ga K "Sum")) (.ref (He.ga K "Turns")) = some false),
  fun K => decide (PySem.W.kitOne K (.ref (He.ga K "Gap")) (.ref (He.ga K "Step")) = some true),
  fun K => decide (PySem.W.kitOne K (.ref (He.ga K "Gap")) (.ref (He.ga K "Turns")) = some false),
  fun K => decide (PySem.W.kitOne K (.ref (He.ga K "Low")) (.ref (He.ga K "Step")) = some true),
  fun K => decide (PySem.W.kitOne K (.ref (He.ga K "Low")) (.ref (He.ga K "Turns")) = some false),
  fun K => decide (PySem.W.kitOne K (.ref (He.ga K "High")) (.ref (He.ga K "Step")) = some true),
  fun K => decide (PySem.W.kitOne K (.ref (He.ga K "High")) (.ref (He.ga K "Turns")) = some false),
  fun K => decide (PySem.W.kitOne K (.ref (He.ga K "Left")) (.ref (He.ga K "Step")) = some true),
  fun K => decide (PySem.W.kitOne K (.ref (He.ga K "Left")) (.ref (He.ga K "Turns")) = some false),
  fun K => decide (PySem.W.kitOne K (.ref (He.ga K "Right")) (.ref (He.ga K "Step")) = some true),
  fun K => decide (PySem.W.kitOne K (.ref (He.ga K "Right")) (.ref (He.ga K "Turns")) = some false),
  fun K => decide (PySem.W.kitOne K (.ref (He.ga K "Slide")) (.ref (He.ga K "Step")) = some true),
  fun K => decide (PySem.W.kitOne K (.ref (He.ga K "Slide")) (.ref (He.ga K "Turns")) = some false),
  fun K => decide (PySem.W.kitOne K (.ref (He.ga K "And")) (.ref (He.ga K "Step")) = some true),
  fun K => decide (PySem.W.kitOne K (.ref (He.ga K "And")) (.ref (He.ga K "Turns")) = some false),
  fun K => decide (PySem.W.kitOne K (.ref (He.ga K "Or")) (.ref (He.ga K "Step")) = some true),
  fun K => decide (PySem.W.kitOne K (.ref (He.ga K "Or")) (.ref (He.ga K "Turns")) = some false),
  fun K => decide (PySem.W.kitOne K (.ref (He.ga K "Unlike")) (.ref (He.ga K "Step")) = some true),
  fun K => decide (PySem.W.kitOne K (.ref (He.ga K "Unlike")) (.ref (He.ga K "Turns")) = some false),
  fun K => decide (PySem.W.kitOne K (.ref (He.ga K "Under")) (.ref (He.ga K "Step")) = some true),
  fun K => decide (PySem.W.kitOne K (.ref (He.ga K "Under")) (.ref (He.ga K "Turns")) = some false),
  fun K => decide (PySem.W.kitOne K (.ref (He.ga K "Pick")) (.ref (He.ga K "Step")) = some true),
  fun K => decide (PySem.W.kitOne K (.ref (He.ga K "Pick")) (.ref (He.ga K "Turns")) = some false),
  fun K => decide (PySem.W.kitOne K (.ref (He.ga K "Mark")) (.ref (He.ga K "Step")) = some true),
  fun K => decide (PySem.W.kitOne K (.ref (He.ga K "Mark")) (.ref (He.ga K "Turns")) = some false),
  fun K => decide (PySem.W.kitOne K (.ref (He.ga K "Turns")) (.ref (He.ga K "Step")) = some true),
  fun K => decide (PySem.W.kitOne K (.ref (He.ga K "Turns")) (.ref (He.ga K "Turns")) = some true),
  fun K => decide (PySem.W.findIn K (.ref (He.ga K "Set")) "__class__" = some (some (.builtin "object.__class__"))),
  fun K => decide (PySem.W.mroIn K (He.ga K "Set") (.type "object") = some true),
  fun K => decide (PySem.W.findIn K (.ref (He.ga K "Copy")) "__class__" = some (some (.builtin "object.__class__"))),
  fun K => decide (PySem.W.mroIn K (He.ga K "Copy") (.type "object") = some true),
  fun K => decide (PySem.W.findIn K (.ref (He.ga K "Sum")) "__class__" = some (some (.builtin "object.__class__"))),
  fun K => decide (PySem.W.mroIn K (He.ga K "Sum") (.type "object") = some true),
  fun K => decide (PySem.W.findIn K (.ref (He.ga K "Gap")) "__class__" = some (some (.builtin "object.__class__"))),
  fun K => decide (PySem.W.mroIn K (He.ga K "Gap") (.type "object") = some true),
  fun K => decide (PySem.W.findIn K (.ref (He.ga K "Low")) "__class__" = some (some (.builtin "object.__class__"))),
  fun K => decide (PySem.W.mroIn K (He.ga K "Low") (.type "object") = some true),
  fun K => decide (PySem.W.findIn K (.ref (He.ga K "High")) "__class__" = some (some (.builtin "object.__class__"))),
  fun K => decide (PySem.W.mroIn K (He.ga K "High") (.type "object") = some true),
  fun K => decide (PySem.W.findIn K (.ref (He.ga K "Left")) "__class__" = some (some (.builtin "object.__class__"))),
  fun K => decide (PySem.W.mroIn K (He.ga K "Left") (.type "object") = some true),
  fun K => decide (PySem.W.findIn K (.ref (He.ga K "Right")) "__class__" = some (some (.builtin "object.__class__"))),
  fun K => decide (PySem.W.mroIn K (He.ga K "Right") (.type "object") = some true),
  fun K => decide (PySem.W.findIn K (.ref (He.ga K "Slide")) "__class__" = some (some (.builtin "object.__class__"))),
  fun K => decide (PySem.W.mroIn K (He.ga K "Slide") (.type "object") = some true),
  fun K => decide (PySem.W.findIn K (.ref (He.ga K "And")) "__class__" = some (some (.builtin "object.__class__"))),
  fun K => decide (PySem.W.mroIn K (He.ga K "And") (.type "object") = some true),
  fun K => decide (PySem.W.findIn K (.ref (He.ga K "Or")) "__class__" = some (some (.builtin "object.__class__"))),
  fun K => decide (PySem.W.mroIn K (He.ga K "Or") (.type "object") = some true),
  fun K => decide (PySem.W.findIn K (.ref (He.ga K "Unlike")) "__class__" = some (some (.builtin "object.__class__"))),
  fun K => decide (PySem.W.mroIn K (He.ga K "Unlike") (.type "object") = some true),
  fun K => decide (PySem.W.findIn K (.ref (He.ga K "Under")) "__class__" = some (some (.builtin "object.__class__"))),
  fun K => decide (PySem.W.mroIn K (He.ga K "Under") (.type "object") = some true),
  fun K => decide (PySem.W.findIn K (.ref (He.ga K "Pick")) "__class__" = some (some (.builtin "object.__class__"))),
  fun K => decide (PySem.W.mroIn K (He.ga K "Pick") (.type "object") = some true),
  fun K => decide (PySem.W.findIn K (.ref (He.ga K "Mark")) "__class__" = some (some (.builtin "object.__class__"))),
  fun K => decide (PySem.W.mroIn K (He.ga K "Mark") (.type "object") = some true),
  fun K => decide (PySem.W.findIn K (.ref (He.ga K "Turns")) "__class__" = some (some (.builtin "object.__class__"))),
  fun K => decide (PySem.W.mroIn K (He.ga K "Turns") (.type "object") = some true),
  fun K => decide (PySem.W.specialIn K (.builtin "object.__class__") "__get__" = some (some (.builtin "getset_descriptor.__get__"))),
  fun K => decide (PySem.W.takesIn K (.builtin "object.__class__") = some true),
  fun K => He.tupB K "ROW_WORDS" [.str "set", .str "copy", .str "sum", .str "gap", .str "low", .str "high", .str "left", .str "right", .str "slide", .str "and", .str "or", .str "unlike", .str "under", .str "pick", .str "mark", .str "turns"],
  fun K => oexB K (He.ga K "NoPrices"),
  fun K => decide (PySem.W.findIn K (.ref (He.ga K "NoPrices")) "found" = some none),
  fun K => decide (PySem.W.findIn K (.ref (He.ga K "NoPrices")) "__init__" = some (some (.ref (He.ma K (He.ga K "NoPrices") "__init__")))),
  fun K => decide (PySem.W.typeIn K (.ref (He.ma K (He.ga K "NoPrices") "__init__")) = some (.type "function")),
  fun K => decide (PySem.W.findIn K (.ref (He.ga K "NoPrices")) "__getattribute__" = some (some (.builtin "BaseException.__getattribute__"))),
  fun K => decide (PySem.W.findIn K (.ref (He.ga K "NoPrices")) "__getattr__" = some none),
  fun K => PySem.W.hasDictIn K (He.ga K "NoPrices"),
  fun K => decide (PySem.W.exmOne K (.ref (He.ga K "NoPrices")) (.ref (He.ga K "NoPrices")) = some true),
  fun K => (match PySem.W.findCls K (.ref (He.ga K "WiseError")) (.type "type") "__init__" with | some (.val (.builtin n)) => n == "ValueError.__init__" | _ => false),
  fun K => PySem.W.keepIn K (.ref (He.ga K "WiseError")),
  fun K => PySem.W.readsIn K (He.ga K "WiseError") (.type "type"),
  fun K => decide (PySem.W.specialIn K (.ref (He.ga K "WiseError")) "__getattribute__" = some (some (.builtin "type.__getattribute__")))]
def exB (K : PySem.W.Frag) : Bool := exs.all fun f => f K

/-! ### the Hook -/
abbrev AlM : Type := He.AlD × Bool
def obsM (K : PySem.W.Frag) : AlM := (He.obsD fa fn K, exB K)
def valM : AlM := (He.valD fn, true)
def refM (o : Obj) : List Addr := match o.data with
  | .dict es _ => es.toList.flatMap fun e => He.refV e.val
  | .func fd => He.refV fd.code
  | .cls cd => [cd.ns]
  | _ => []
def stM (g : Addr → Option Obj) (as : List Addr) : List Addr := as.flatMap fun a => match g a with
  | some o => refM o
  | none => []
/-- the module's names; code objects, the classes' own names; methods; their code objects -/
def asM (g : Addr → Option Obj) : List Addr := mainGlobals :: (stM g [mainGlobals] ++ (stM g (stM g [mainGlobals]) ++ (stM g (stM g (stM g [mainGlobals])) ++ (stM g (stM g (stM g (stM g [mainGlobals]))) ++ [PySem.cStatics]))))
def obsMG (g : Addr → Option Obj) : AlM := obsM (He.frG g (asM g))
def SaysM (K : PySem.W.Frag) : Prop := obsM K = valM
def hookM : PySem.W.Hook where
  α := AlM
  obs := fun s => obsMG s.heap.get?
  val := fun _ => valM
  says := fun _ h => ∃ K : PySem.W.Frag, K.In h ∧ SaysM K
  of := fun _ _ e => ⟨_, He.frG_in, e⟩
  keeps := fun _ _ _ ⟨K, hK, c⟩ k => ⟨K, PySem.W.Frag.In.keeps hK k, c⟩
theorem obsMG_eq {g : Addr → Option Obj} {s : Shared} (h : ∀ a, g a = s.heap.get? a) : obsMG g = hookM.obs s := by
  have e : g = s.heap.get? := funext h
  rw [e] <;> rfl
theorem SaysM.d {K : PySem.W.Frag} (c : SaysM K) : He.SaysD fa fn K := congrArg (fun z : AlM => z.1) c
theorem SaysM.x {K : PySem.W.Frag} (c : SaysM K) (i : Nat) {f : PySem.W.Frag → Bool} (h : exs[i]? = some f := by rfl) : f K = true := by
  have c1 : exB K = true := congrArg (fun z : AlM => z.2) c
  exact List.all_eq_true.mp c1 f (List.mem_of_getElem? h)
end K73

set_option maxHeartbeats 0
namespace K73
open PySem PySem.W PySem.Calls PyProof.Rows
def names0 : List PySem.Str := ["WiseError", "NoWidth", "NoPrices", "TooMuch", "NoRegister", "NoRow", "LEAST_WIDTH", "GREATEST_WIDTH", "is_whole", "need_width", "cut", "sum_of", "gap_of", "low_product", "high_product", "left", "right", "slide", "ROW_WORDS", "MOST_PRICE", "row_words", "need_prices", "LETTERS", "FIGURES", "LONGEST_NAME", "MOST_LINE", "MOST_TIMES", "is_register", "within", "Step"]
def names1 : List PySem.Str := ["Set", "Copy", "Pair", "Low", "High", "And", "Or", "Unlike", "Under", "Carrying", "Sum", "Gap", "Shift", "Left", "Right", "Slide", "Pick", "Mark", "Turns", "DEEPEST", "MOST_RUN", "walked", "check_steps", "need_registers", "go", "run_steps", "summed", "cost_of", "_law_cell", "_law_begun"]
def names2 : List PySem.Str := ["_law_draw", "_law_whole", "_law_word", "_law_names", "_law_name", "_law_row", "_law_sorts", "_law_tree", "_law_shut", "_law_made_pair", "_law_made", "_law_pair_word", "_law_moved", "_law_done", "_law_words", "_law_same", "_law_run", "_law_flat", "_law_costs", "_law_dear", "_law_counted", "_law_held"]
def names : List PySem.Str := names0 ++ names1 ++ names2
abbrev R : PySem.W.OpenRow := PySem.W.OpenLaw.row PySem.Challenge.rw_overwise_k73_whole_turns_marks_and_cost
abbrev hk : PySem.W.Hook := hookM
def ob (s : PySem.W.SharedT) : AlM := obsMG (HandSHeadRun.getT s)
theorem ob_eq (s : PySem.W.SharedT) : ob s = hk.obs s.abs := obsMG_eq (HandSHeadRun.getT_eq s)
/-! the run looked at four times, joined: each look by itself takes less memory -/
noncomputable abbrev endK (w : World) (os : OsState) : Option PySem.W.SharedT := HandSHeadRun.endF (HandSHeadRun.stepQ (HandSHeadRun.denQ HandSHeadRun.tabQ) R.prog w) 20000 R.prog w os
abbrev fragK (s : PySem.W.SharedT) : PySem.W.Frag := He.frG (HandSHeadRun.getT s) (asM (HandSHeadRun.getT s))
def look1 (s : PySem.W.SharedT) : Bool := fa.all fun f => f.ok (fragK s)
def look2 (s : PySem.W.SharedT) : Bool × List He.FnW := (fn.all fun d => d.ok (fragK s), fn.map fun d => He.fnW (fragK s) d.at_)
def look3 (s : PySem.W.SharedT) : Bool := exB (fragK s)
theorem ob_looks (s : PySem.W.SharedT) : ob s = ((look1 s && (look2 s).1, (look2 s).2), look3 s) := rfl
theorem fourLooks {A B : Type} {o : Option PySem.W.SharedT} {f : PySem.W.SharedT → A} {g : PySem.W.SharedT → B} {a : A} {b : B} (x : o.map (fun s => (f s, g s, ())) = some (a, b, ())) (x1 : o.map look1 = some true) (x2 : o.map look2 = some (true, fn.map He.DefD.val)) (x3 : o.map look3 = some true) : o.map (fun s => (f s, g s, ob s)) = some (a, b, valM) := by
  cases o with
  | none => cases x
  | some s =>
    have x := Option.some.inj x
    have y1 : look1 s = true := Option.some.inj x1
    have y2 : look2 s = (true, fn.map He.DefD.val) := Option.some.inj x2
    have y3 : look3 s = true := Option.some.inj x3
    have e1 : f s = a := congrArg (fun z : A × B × Unit => z.1) x
    have e2 : g s = b := congrArg (fun z : A × B × Unit => z.2.1) x
    have e3 : ob s = valM := by
      rw [ob_looks, y1, y2, y3]
      rfl
    show some (f s, g s, ob s) = some (a, b, valM)
    rw [e1, e2, e3]
theorem run0 (w : World) : HandSHeadRun.RunEq R (PySem.W.view R.prog [88]) PySem.W.Hook.none (fun _ => ()) 20000 names w := by
  intro os
  kernel_rfl
theorem run1 (w : World) (os : OsState) : (endK w os).map look1 = some true := by
  kernel_rfl
theorem run2 (w : World) (os : OsState) : (endK w os).map look2 = some (true, fn.map He.DefD.val) := by
  kernel_rfl
theorem run3 (w : World) (os : OsState) : (endK w os).map look3 = some true := by
  kernel_rfl
theorem run (w : World) : HandSHeadRun.RunEq R (PySem.W.view R.prog [88]) hk ob 20000 names w :=
  fun os => fourLooks (run0 w os) (run1 w os) (run2 w os) (run3 w os)
end K73

set_option maxHeartbeats 4000000
namespace K73
open PySem PySem.Spec PyProof.Rows L2
/-- what the top has left -/
structure Txt (K : PySem.W.Frag) (mg : Str → Option Value) : Prop where
  c : SaysM K
  g : ∃ h : Heap, K.In h ∧ h.Ns mainGlobals mg
section
variable {K : PySem.W.Frag} {mg : Str → Option Value} (T : Txt K mg)
include T
theorem Txt.gl {x : Str} (h : (He.Fa.glo x).ok K = true) : mg x = some (.ref (He.ga K x)) := by
  obtain ⟨hp, X, G⟩ := T.g
  exact He.glo_ok X G h
theorem Txt.fr {x : Str} (h : (He.Fa.free x).ok K = true) : mg x = none := by
  obtain ⟨hp, X, G⟩ := T.g
  exact He.free_ok X G h
theorem Txt.it {x : Str} {i : Int} (h : (He.Fa.int x i).ok K = true) : ∃ u, mg x = some u ∧ RelV (.int i) u := by
  obtain ⟨hp, X, G⟩ := T.g
  obtain ⟨t, e⟩ := He.int_ok X G h
  exact ⟨_, e, t, rfl⟩
theorem Txt.sr {x z : Str} (h : (He.Fa.str x z).ok K = true) : ∃ u, mg x = some u ∧ RelV (.str z) u := by
  obtain ⟨hp, X, G⟩ := T.g
  obtain ⟨t, e⟩ := He.str_ok X G h
  exact ⟨_, e, t, rfl⟩
theorem Txt.fa (i : Nat) {f : He.Fa} (h : fa[i]? = some f) : f.ok K = true := T.c.d.fact i h
theorem Txt.g_is_whole : mg "is_whole" = some (.ref (He.ga K "is_whole")) := T.gl (T.fa 0 rfl)
theorem Txt.v_is_whole : ∃ u, mg "is_whole" = some u ∧ RelV (.ref (He.ga K "is_whole")) u := ⟨_, T.g_is_whole, rfl⟩
theorem Txt.g_need_width : mg "need_width" = some (.ref (He.ga K "need_width")) := T.gl (T.fa 1 rfl)
theorem Txt.v_need_width : ∃ u, mg "need_width" = some u ∧ RelV (.ref (He.ga K "need_width")) u := ⟨_, T.g_need_width, rfl⟩
theorem Txt.g_cut : mg "cut" = some (.ref (He.ga K "cut")) := T.gl (T.fa 2 rfl)
theorem Txt.v_cut : ∃ u, mg "cut" = some u ∧ RelV (.ref (He.ga K "cut")) u := ⟨_, T.g_cut, rfl⟩
theorem Txt.g_sum_of : mg "sum_of" = some (.ref (He.ga K "sum_of")) := T.gl (T.fa 3 rfl)
theorem Txt.v_sum_of : ∃ u, mg "sum_of" = some u ∧ RelV (.ref (He.ga K "sum_of")) u := ⟨_, T.g_sum_of, rfl⟩
theorem Txt.g_gap_of : mg "gap_of" = some (.ref (He.ga K "gap_of")) := T.gl (T.fa 4 rfl)
theorem Txt.v_gap_of : ∃ u, mg "gap_of" = some u ∧ RelV (.ref (He.ga K "gap_of")) u := ⟨_, T.g_gap_of, rfl⟩
theorem Txt.g_low_product : mg "low_product" = some (.ref (He.ga K "low_product")) := T.gl (T.fa 5 rfl)
theorem Txt.v_low_product : ∃ u, mg "low_product" = some u ∧ RelV (.ref (He.ga K "low_product")) u := ⟨_, T.g_low_product, rfl⟩
theorem Txt.g_high_product : mg "high_product" = some (.ref (He.ga K "high_product")) := T.gl (T.fa 6 rfl)
theorem Txt.v_high_product : ∃ u, mg "high_product" = some u ∧ RelV (.ref (He.ga K "high_product")) u := ⟨_, T.g_high_product, rfl⟩
theorem Txt.g_left : mg "left" = some (.ref (He.ga K "left")) := T.gl (T.fa 7 rfl)
theorem Txt.v_left : ∃ u, mg "left" = some u ∧ RelV (.ref (He.ga K "left")) u := ⟨_, T.g_left, rfl⟩
theorem Txt.g_right : mg "right" = some (.ref (He.ga K "right")) := T.gl (T.fa 8 rfl)
theorem Txt.v_right : ∃ u, mg "right" = some u ∧ RelV (.ref (He.ga K "right")) u := ⟨_, T.g_right, rfl⟩
theorem Txt.g_slide : mg "slide" = some (.ref (He.ga K "slide")) := T.gl (T.fa 9 rfl)
theorem Txt.v_slide : ∃ u, mg "slide" = some u ∧ RelV (.ref (He.ga K "slide")) u := ⟨_, T.g_slide, rfl⟩
theorem Txt.g_row_words : mg "row_words" = some (.ref (He.ga K "row_words")) := T.gl (T.fa 10 rfl)
theorem Txt.v_row_words : ∃ u, mg "row_words" = some u ∧ RelV (.ref (He.ga K "row_words")) u := ⟨_, T.g_row_words, rfl⟩
theorem Txt.g_need_prices : mg "need_prices" = some (.ref (He.ga K "need_prices")) := T.gl (T.fa 11 rfl)
theorem Txt.v_need_prices : ∃ u, mg "need_prices" = some u ∧ RelV (.ref (He.ga K "need_prices")) u := ⟨_, T.g_need_prices, rfl⟩
theorem Txt.g_is_register : mg "is_register" = some (.ref (He.ga K "is_register")) := T.gl (T.fa 12 rfl)
theorem Txt.v_is_register : ∃ u, mg "is_register" = some u ∧ RelV (.ref (He.ga K "is_register")) u := ⟨_, T.g_is_register, rfl⟩
theorem Txt.g_within : mg "within" = some (.ref (He.ga K "within")) := T.gl (T.fa 13 rfl)
theorem Txt.v_within : ∃ u, mg "within" = some u ∧ RelV (.ref (He.ga K "within")) u := ⟨_, T.g_within, rfl⟩
theorem Txt.g_walked : mg "walked" = some (.ref (He.ga K "walked")) := T.gl (T.fa 14 rfl)
theorem Txt.v_walked : ∃ u, mg "walked" = some u ∧ RelV (.ref (He.ga K "walked")) u := ⟨_, T.g_walked, rfl⟩
theorem Txt.g_check_steps : mg "check_steps" = some (.ref (He.ga K "check_steps")) := T.gl (T.fa 15 rfl)
theorem Txt.v_check_steps : ∃ u, mg "check_steps" = some u ∧ RelV (.ref (He.ga K "check_steps")) u := ⟨_, T.g_check_steps, rfl⟩
theorem Txt.g_need_registers : mg "need_registers" = some (.ref (He.ga K "need_registers")) := T.gl (T.fa 16 rfl)
theorem Txt.v_need_registers : ∃ u, mg "need_registers" = some u ∧ RelV (.ref (He.ga K "need_registers")) u := ⟨_, T.g_need_registers, rfl⟩
theorem Txt.g_go : mg "go" = some (.ref (He.ga K "go")) := T.gl (T.fa 17 rfl)
theorem Txt.v_go : ∃ u, mg "go" = some u ∧ RelV (.ref (He.ga K "go")) u := ⟨_, T.g_go, rfl⟩
theorem Txt.g_run_steps : mg "run_steps" = some (.ref (He.ga K "run_steps")) := T.gl (T.fa 18 rfl)
theorem Txt.v_run_steps : ∃ u, mg "run_steps" = some u ∧ RelV (.ref (He.ga K "run_steps")) u := ⟨_, T.g_run_steps, rfl⟩
theorem Txt.g_summed : mg "summed" = some (.ref (He.ga K "summed")) := T.gl (T.fa 19 rfl)
theorem Txt.v_summed : ∃ u, mg "summed" = some u ∧ RelV (.ref (He.ga K "summed")) u := ⟨_, T.g_summed, rfl⟩
theorem Txt.g_cost_of : mg "cost_of" = some (.ref (He.ga K "cost_of")) := T.gl (T.fa 20 rfl)
theorem Txt.v_cost_of : ∃ u, mg "cost_of" = some u ∧ RelV (.ref (He.ga K "cost_of")) u := ⟨_, T.g_cost_of, rfl⟩
theorem Txt.g__law_cell : mg "_law_cell" = some (.ref (He.ga K "_law_cell")) := T.gl (T.fa 21 rfl)
theorem Txt.v__law_cell : ∃ u, mg "_law_cell" = some u ∧ RelV (.ref (He.ga K "_law_cell")) u := ⟨_, T.g__law_cell, rfl⟩
theorem Txt.g__law_begun : mg "_law_begun" = some (.ref (He.ga K "_law_begun")) := T.gl (T.fa 22 rfl)
theorem Txt.v__law_begun : ∃ u, mg "_law_begun" = some u ∧ RelV (.ref (He.ga K "_law_begun")) u := ⟨_, T.g__law_begun, rfl⟩
theorem Txt.g__law_draw : mg "_law_draw" = some (.ref (He.ga K "_law_draw")) := T.gl (T.fa 23 rfl)
theorem Txt.v__law_draw : ∃ u, mg "_law_draw" = some u ∧ RelV (.ref (He.ga K "_law_draw")) u := ⟨_, T.g__law_draw, rfl⟩
theorem Txt.g__law_whole : mg "_law_whole" = some (.ref (He.ga K "_law_whole")) := T.gl (T.fa 24 rfl)
theorem Txt.v__law_whole : ∃ u, mg "_law_whole" = some u ∧ RelV (.ref (He.ga K "_law_whole")) u := ⟨_, T.g__law_whole, rfl⟩
theorem Txt.g__law_word : mg "_law_word" = some (.ref (He.ga K "_law_word")) := T.gl (T.fa 25 rfl)
theorem Txt.v__law_word : ∃ u, mg "_law_word" = some u ∧ RelV (.ref (He.ga K "_law_word")) u := ⟨_, T.g__law_word, rfl⟩
theorem Txt.g__law_names : mg "_law_names" = some (.ref (He.ga K "_law_names")) := T.gl (T.fa 26 rfl)
theorem Txt.v__law_names : ∃ u, mg "_law_names" = some u ∧ RelV (.ref (He.ga K "_law_names")) u := ⟨_, T.g__law_names, rfl⟩
theorem Txt.g__law_name : mg "_law_name" = some (.ref (He.ga K "_law_name")) := T.gl (T.fa 27 rfl)
theorem Txt.v__law_name : ∃ u, mg "_law_name" = some u ∧ RelV (.ref (He.ga K "_law_name")) u := ⟨_, T.g__law_name, rfl⟩
theorem Txt.g__law_row : mg "_law_row" = some (.ref (He.ga K "_law_row")) := T.gl (T.fa 28 rfl)
theorem Txt.v__law_row : ∃ u, mg "_law_row" = some u ∧ RelV (.ref (He.ga K "_law_row")) u := ⟨_, T.g__law_row, rfl⟩
theorem Txt.g__law_sorts : mg "_law_sorts" = some (.ref (He.ga K "_law_sorts")) := T.gl (T.fa 29 rfl)
theorem Txt.v__law_sorts : ∃ u, mg "_law_sorts" = some u ∧ RelV (.ref (He.ga K "_law_sorts")) u := ⟨_, T.g__law_sorts, rfl⟩
theorem Txt.g__law_tree : mg "_law_tree" = some (.ref (He.ga K "_law_tree")) := T.gl (T.fa 30 rfl)
theorem Txt.v__law_tree : ∃ u, mg "_law_tree" = some u ∧ RelV (.ref (He.ga K "_law_tree")) u := ⟨_, T.g__law_tree, rfl⟩
theorem Txt.g__law_shut : mg "_law_shut" = some (.ref (He.ga K "_law_shut")) := T.gl (T.fa 31 rfl)
theorem Txt.v__law_shut : ∃ u, mg "_law_shut" = some u ∧ RelV (.ref (He.ga K "_law_shut")) u := ⟨_, T.g__law_shut, rfl⟩
theorem Txt.g__law_made_pair : mg "_law_made_pair" = some (.ref (He.ga K "_law_made_pair")) := T.gl (T.fa 32 rfl)
theorem Txt.v__law_made_pair : ∃ u, mg "_law_made_pair" = some u ∧ RelV (.ref (He.ga K "_law_made_pair")) u := ⟨_, T.g__law_made_pair, rfl⟩
theorem Txt.g__law_made : mg "_law_made" = some (.ref (He.ga K "_law_made")) := T.gl (T.fa 33 rfl)
theorem Txt.v__law_made : ∃ u, mg "_law_made" = some u ∧ RelV (.ref (He.ga K "_law_made")) u := ⟨_, T.g__law_made, rfl⟩
theorem Txt.g__law_pair_word : mg "_law_pair_word" = some (.ref (He.ga K "_law_pair_word")) := T.gl (T.fa 34 rfl)
theorem Txt.v__law_pair_word : ∃ u, mg "_law_pair_word" = some u ∧ RelV (.ref (He.ga K "_law_pair_word")) u := ⟨_, T.g__law_pair_word, rfl⟩
theorem Txt.g__law_moved : mg "_law_moved" = some (.ref (He.ga K "_law_moved")) := T.gl (T.fa 35 rfl)
theorem Txt.v__law_moved : ∃ u, mg "_law_moved" = some u ∧ RelV (.ref (He.ga K "_law_moved")) u := ⟨_, T.g__law_moved, rfl⟩
theorem Txt.g__law_done : mg "_law_done" = some (.ref (He.ga K "_law_done")) := T.gl (T.fa 36 rfl)
theorem Txt.v__law_done : ∃ u, mg "_law_done" = some u ∧ RelV (.ref (He.ga K "_law_done")) u := ⟨_, T.g__law_done, rfl⟩
theorem Txt.g__law_words : mg "_law_words" = some (.ref (He.ga K "_law_words")) := T.gl (T.fa 37 rfl)
theorem Txt.v__law_words : ∃ u, mg "_law_words" = some u ∧ RelV (.ref (He.ga K "_law_words")) u := ⟨_, T.g__law_words, rfl⟩
theorem Txt.g__law_same : mg "_law_same" = some (.ref (He.ga K "_law_same")) := T.gl (T.fa 38 rfl)
theorem Txt.v__law_same : ∃ u, mg "_law_same" = some u ∧ RelV (.ref (He.ga K "_law_same")) u := ⟨_, T.g__law_same, rfl⟩
theorem Txt.g__law_run : mg "_law_run" = some (.ref (He.ga K "_law_run")) := T.gl (T.fa 39 rfl)
theorem Txt.v__law_run : ∃ u, mg "_law_run" = some u ∧ RelV (.ref (He.ga K "_law_run")) u := ⟨_, T.g__law_run, rfl⟩
theorem Txt.g__law_flat : mg "_law_flat" = some (.ref (He.ga K "_law_flat")) := T.gl (T.fa 40 rfl)
theorem Txt.v__law_flat : ∃ u, mg "_law_flat" = some u ∧ RelV (.ref (He.ga K "_law_flat")) u := ⟨_, T.g__law_flat, rfl⟩
theorem Txt.g__law_costs : mg "_law_costs" = some (.ref (He.ga K "_law_costs")) := T.gl (T.fa 41 rfl)
theorem Txt.v__law_costs : ∃ u, mg "_law_costs" = some u ∧ RelV (.ref (He.ga K "_law_costs")) u := ⟨_, T.g__law_costs, rfl⟩
theorem Txt.g__law_dear : mg "_law_dear" = some (.ref (He.ga K "_law_dear")) := T.gl (T.fa 42 rfl)
theorem Txt.v__law_dear : ∃ u, mg "_law_dear" = some u ∧ RelV (.ref (He.ga K "_law_dear")) u := ⟨_, T.g__law_dear, rfl⟩
theorem Txt.g__law_counted : mg "_law_counted" = some (.ref (He.ga K "_law_counted")) := T.gl (T.fa 43 rfl)
theorem Txt.v__law_counted : ∃ u, mg "_law_counted" = some u ∧ RelV (.ref (He.ga K "_law_counted")) u := ⟨_, T.g__law_counted, rfl⟩
theorem Txt.g__law_held : mg "_law_held" = some (.ref (He.ga K "_law_held")) := T.gl (T.fa 44 rfl)
theorem Txt.v__law_held : ∃ u, mg "_law_held" = some u ∧ RelV (.ref (He.ga K "_law_held")) u := ⟨_, T.g__law_held, rfl⟩
theorem Txt.g_law : mg "law" = some (.ref (He.ga K "law")) := T.gl (T.fa 45 rfl)
theorem Txt.v_law : ∃ u, mg "law" = some u ∧ RelV (.ref (He.ga K "law")) u := ⟨_, T.g_law, rfl⟩
theorem Txt.g_Set : mg "Set" = some (.ref (He.ga K "Set")) := T.gl (T.fa 46 rfl)
theorem Txt.v_Set : ∃ u, mg "Set" = some u ∧ RelV (.ref (He.ga K "Set")) u := ⟨_, T.g_Set, rfl⟩
theorem Txt.g_Copy : mg "Copy" = some (.ref (He.ga K "Copy")) := T.gl (T.fa 47 rfl)
theorem Txt.v_Copy : ∃ u, mg "Copy" = some u ∧ RelV (.ref (He.ga K "Copy")) u := ⟨_, T.g_Copy, rfl⟩
theorem Txt.g_Sum : mg "Sum" = some (.ref (He.ga K "Sum")) := T.gl (T.fa 48 rfl)
theorem Txt.v_Sum : ∃ u, mg "Sum" = some u ∧ RelV (.ref (He.ga K "Sum")) u := ⟨_, T.g_Sum, rfl⟩
theorem Txt.g_Gap : mg "Gap" = some (.ref (He.ga K "Gap")) := T.gl (T.fa 49 rfl)
theorem Txt.v_Gap : ∃ u, mg "Gap" = some u ∧ RelV (.ref (He.ga K "Gap")) u := ⟨_, T.g_Gap, rfl⟩
theorem Txt.g_Low : mg "Low" = some (.ref (He.ga K "Low")) := T.gl (T.fa 50 rfl)
theorem Txt.v_Low : ∃ u, mg "Low" = some u ∧ RelV (.ref (He.ga K "Low")) u := ⟨_, T.g_Low, rfl⟩
theorem Txt.g_High : mg "High" = some (.ref (He.ga K "High")) := T.gl (T.fa 51 rfl)
theorem Txt.v_High : ∃ u, mg "High" = some u ∧ RelV (.ref (He.ga K "High")) u := ⟨_, T.g_High, rfl⟩
theorem Txt.g_Left : mg "Left" = some (.ref (He.ga K "Left")) := T.gl (T.fa 52 rfl)
theorem Txt.v_Left : ∃ u, mg "Left" = some u ∧ RelV (.ref (He.ga K "Left")) u := ⟨_, T.g_Left, rfl⟩
theorem Txt.g_Right : mg "Right" = some (.ref (He.ga K "Right")) := T.gl (T.fa 53 rfl)
theorem Txt.v_Right : ∃ u, mg "Right" = some u ∧ RelV (.ref (He.ga K "Right")) u := ⟨_, T.g_Right, rfl⟩
theorem Txt.g_Slide : mg "Slide" = some (.ref (He.ga K "Slide")) := T.gl (T.fa 54 rfl)
theorem Txt.v_Slide : ∃ u, mg "Slide" = some u ∧ RelV (.ref (He.ga K "Slide")) u := ⟨_, T.g_Slide, rfl⟩
theorem Txt.g_And : mg "And" = some (.ref (He.ga K "And")) := T.gl (T.fa 55 rfl)
theorem Txt.v_And : ∃ u, mg "And" = some u ∧ RelV (.ref (He.ga K "And")) u := ⟨_, T.g_And, rfl⟩
theorem Txt.g_Or : mg "Or" = some (.ref (He.ga K "Or")) := T.gl (T.fa 56 rfl)
theorem Txt.v_Or : ∃ u, mg "Or" = some u ∧ RelV (.ref (He.ga K "Or")) u := ⟨_, T.g_Or, rfl⟩
theorem Txt.g_Unlike : mg "Unlike" = some (.ref (He.ga K "Unlike")) := T.gl (T.fa 57 rfl)
theorem Txt.v_Unlike : ∃ u, mg "Unlike" = some u ∧ RelV (.ref (He.ga K "Unlike")) u := ⟨_, T.g_Unlike, rfl⟩
theorem Txt.g_Under : mg "Under" = some (.ref (He.ga K "Under")) := T.gl (T.fa 58 rfl)
theorem Txt.v_Under : ∃ u, mg "Under" = some u ∧ RelV (.ref (He.ga K "Under")) u := ⟨_, T.g_Under, rfl⟩
theorem Txt.g_Pick : mg "Pick" = some (.ref (He.ga K "Pick")) := T.gl (T.fa 59 rfl)
theorem Txt.v_Pick : ∃ u, mg "Pick" = some u ∧ RelV (.ref (He.ga K "Pick")) u := ⟨_, T.g_Pick, rfl⟩
theorem Txt.g_Mark : mg "Mark" = some (.ref (He.ga K "Mark")) := T.gl (T.fa 60 rfl)
theorem Txt.v_Mark : ∃ u, mg "Mark" = some u ∧ RelV (.ref (He.ga K "Mark")) u := ⟨_, T.g_Mark, rfl⟩
theorem Txt.g_Turns : mg "Turns" = some (.ref (He.ga K "Turns")) := T.gl (T.fa 61 rfl)
theorem Txt.v_Turns : ∃ u, mg "Turns" = some u ∧ RelV (.ref (He.ga K "Turns")) u := ⟨_, T.g_Turns, rfl⟩
theorem Txt.g_Step : mg "Step" = some (.ref (He.ga K "Step")) := T.gl (T.fa 62 rfl)
theorem Txt.v_Step : ∃ u, mg "Step" = some u ∧ RelV (.ref (He.ga K "Step")) u := ⟨_, T.g_Step, rfl⟩
theorem Txt.g_NoPrices : mg "NoPrices" = some (.ref (He.ga K "NoPrices")) := T.gl (T.fa 63 rfl)
theorem Txt.v_NoPrices : ∃ u, mg "NoPrices" = some u ∧ RelV (.ref (He.ga K "NoPrices")) u := ⟨_, T.g_NoPrices, rfl⟩
theorem Txt.g_WiseError : mg "WiseError" = some (.ref (He.ga K "WiseError")) := T.gl (T.fa 64 rfl)
theorem Txt.v_WiseError : ∃ u, mg "WiseError" = some u ∧ RelV (.ref (He.ga K "WiseError")) u := ⟨_, T.g_WiseError, rfl⟩
theorem Txt.g_ROW_WORDS : mg "ROW_WORDS" = some (.ref (He.ga K "ROW_WORDS")) := T.gl (T.fa 65 rfl)
theorem Txt.v_ROW_WORDS : ∃ u, mg "ROW_WORDS" = some u ∧ RelV (.ref (He.ga K "ROW_WORDS")) u := ⟨_, T.g_ROW_WORDS, rfl⟩
theorem Txt.f_isinstance : mg "isinstance" = none := T.fr (T.fa 66 rfl)
theorem Txt.f_int : mg "int" = none := T.fr (T.fa 67 rfl)
theorem Txt.f_bool : mg "bool" = none := T.fr (T.fa 68 rfl)
theorem Txt.f_list : mg "list" = none := T.fr (T.fa 69 rfl)
theorem Txt.f_dict : mg "dict" = none := T.fr (T.fa 70 rfl)
theorem Txt.f_tuple : mg "tuple" = none := T.fr (T.fa 71 rfl)
theorem Txt.f_str : mg "str" = none := T.fr (T.fa 72 rfl)
theorem Txt.f_len : mg "len" = none := T.fr (T.fa 73 rfl)
theorem Txt.f_all : mg "all" = none := T.fr (T.fa 74 rfl)
theorem Txt.f_range : mg "range" = none := T.fr (T.fa 75 rfl)
theorem Txt.f_max : mg "max" = none := T.fr (T.fa 76 rfl)
theorem Txt.f_min : mg "min" = none := T.fr (T.fa 77 rfl)
theorem Txt.f_sorted : mg "sorted" = none := T.fr (T.fa 78 rfl)
theorem Txt.f_sum : mg "sum" = none := T.fr (T.fa 79 rfl)
theorem Txt.v_LEAST_WIDTH : ∃ u, mg "LEAST_WIDTH" = some u ∧ RelV (.int 4) u := T.it (T.fa 80 rfl)
theorem Txt.v_GREATEST_WIDTH : ∃ u, mg "GREATEST_WIDTH" = some u ∧ RelV (.int 32) u := T.it (T.fa 81 rfl)
theorem Txt.v_MOST_PRICE : ∃ u, mg "MOST_PRICE" = some u ∧ RelV (.int 1000) u := T.it (T.fa 82 rfl)
theorem Txt.v_LETTERS : ∃ u, mg "LETTERS" = some u ∧ RelV (.str "abcdefghijklmnopqrstuvwxyz") u := T.sr (T.fa 83 rfl)
theorem Txt.v_FIGURES : ∃ u, mg "FIGURES" = some u ∧ RelV (.str "0123456789") u := T.sr (T.fa 84 rfl)
theorem Txt.v_LONGEST_NAME : ∃ u, mg "LONGEST_NAME" = some u ∧ RelV (.int 8) u := T.it (T.fa 85 rfl)
theorem Txt.v_MOST_LINE : ∃ u, mg "MOST_LINE" = some u ∧ RelV (.int 9999) u := T.it (T.fa 86 rfl)
theorem Txt.v_MOST_TIMES : ∃ u, mg "MOST_TIMES" = some u ∧ RelV (.int 64) u := T.it (T.fa 87 rfl)
theorem Txt.v_DEEPEST : ∃ u, mg "DEEPEST" = some u ∧ RelV (.int 5) u := T.it (T.fa 88 rfl)
theorem Txt.v_MOST_RUN : ∃ u, mg "MOST_RUN" = some u ∧ RelV (.int 1000000) u := T.it (T.fa 89 rfl)
theorem Txt.cl_Set : Cls K (He.ga K "Set") := He.cls_ok (T.fa 90 rfl)
theorem Txt.mk_Set : Mk K (He.ga K "Set") (He.ma K (He.ga K "Set") "__init__") := He.mkr_ok (T.fa 91 rfl)
theorem Txt.na_Set_goal : NoAttr K (He.ga K "Set") "goal" := He.noat_ok (T.fa 92 rfl)
theorem Txt.na_Set_bits : NoAttr K (He.ga K "Set") "bits" := He.noat_ok (T.fa 93 rfl)
theorem Txt.me_Set_word : Meth K (He.ga K "Set") "word" (He.ma K (He.ga K "Set") "word") := He.meth_ok (T.fa 94 rfl)
theorem Txt.me_Set_told : Meth K (He.ga K "Set") "told" (He.ma K (He.ga K "Set") "told") := He.meth_ok (T.fa 95 rfl)
theorem Txt.me_Set_fits : Meth K (He.ga K "Set") "fits" (He.ma K (He.ga K "Set") "fits") := He.meth_ok (T.fa 96 rfl)
theorem Txt.me_Set_do : Meth K (He.ga K "Set") "do" (He.ma K (He.ga K "Set") "do") := He.meth_ok (T.fa 97 rfl)
theorem Txt.cl_Copy : Cls K (He.ga K "Copy") := He.cls_ok (T.fa 98 rfl)
theorem Txt.mk_Copy : Mk K (He.ga K "Copy") (He.ma K (He.ga K "Copy") "__init__") := He.mkr_ok (T.fa 99 rfl)
theorem Txt.na_Copy_goal : NoAttr K (He.ga K "Copy") "goal" := He.noat_ok (T.fa 100 rfl)
theorem Txt.na_Copy_one : NoAttr K (He.ga K "Copy") "one" := He.noat_ok (T.fa 101 rfl)
theorem Txt.me_Copy_word : Meth K (He.ga K "Copy") "word" (He.ma K (He.ga K "Copy") "word") := He.meth_ok (T.fa 102 rfl)
theorem Txt.me_Copy_told : Meth K (He.ga K "Copy") "told" (He.ma K (He.ga K "Copy") "told") := He.meth_ok (T.fa 103 rfl)
theorem Txt.me_Copy_fits : Meth K (He.ga K "Copy") "fits" (He.ma K (He.ga K "Copy") "fits") := He.meth_ok (T.fa 104 rfl)
theorem Txt.me_Copy_do : Meth K (He.ga K "Copy") "do" (He.ma K (He.ga K "Copy") "do") := He.meth_ok (T.fa 105 rfl)
theorem Txt.cl_Sum : Cls K (He.ga K "Sum") := He.cls_ok (T.fa 106 rfl)
theorem Txt.mk_Sum : Mk K (He.ga K "Sum") (He.ma K (He.ga K "Sum") "__init__") := He.mkr_ok (T.fa 107 rfl)
theorem Txt.na_Sum_goal : NoAttr K (He.ga K "Sum") "goal" := He.noat_ok (T.fa 108 rfl)
theorem Txt.na_Sum_carry : NoAttr K (He.ga K "Sum") "carry" := He.noat_ok (T.fa 109 rfl)
theorem Txt.na_Sum_one : NoAttr K (He.ga K "Sum") "one" := He.noat_ok (T.fa 110 rfl)
theorem Txt.na_Sum_other : NoAttr K (He.ga K "Sum") "other" := He.noat_ok (T.fa 111 rfl)
theorem Txt.me_Sum_word : Meth K (He.ga K "Sum") "word" (He.ma K (He.ga K "Sum") "word") := He.meth_ok (T.fa 112 rfl)
theorem Txt.me_Sum_told : Meth K (He.ga K "Sum") "told" (He.ma K (He.ga K "Sum") "told") := He.meth_ok (T.fa 113 rfl)
theorem Txt.me_Sum_fits : Meth K (He.ga K "Sum") "fits" (He.ma K (He.ga K "Sum") "fits") := He.meth_ok (T.fa 114 rfl)
theorem Txt.me_Sum_do : Meth K (He.ga K "Sum") "do" (He.ma K (He.ga K "Sum") "do") := He.meth_ok (T.fa 115 rfl)
theorem Txt.me_Sum_both : Meth K (He.ga K "Sum") "both" (He.ma K (He.ga K "Sum") "both") := He.meth_ok (T.fa 116 rfl)
theorem Txt.cl_Gap : Cls K (He.ga K "Gap") := He.cls_ok (T.fa 117 rfl)
theorem Txt.mk_Gap : Mk K (He.ga K "Gap") (He.ma K (He.ga K "Gap") "__init__") := He.mkr_ok (T.fa 118 rfl)
theorem Txt.na_Gap_goal : NoAttr K (He.ga K "Gap") "goal" := He.noat_ok (T.fa 119 rfl)
theorem Txt.na_Gap_carry : NoAttr K (He.ga K "Gap") "carry" := He.noat_ok (T.fa 120 rfl)
theorem Txt.na_Gap_one : NoAttr K (He.ga K "Gap") "one" := He.noat_ok (T.fa 121 rfl)
theorem Txt.na_Gap_other : NoAttr K (He.ga K "Gap") "other" := He.noat_ok (T.fa 122 rfl)
theorem Txt.me_Gap_word : Meth K (He.ga K "Gap") "word" (He.ma K (He.ga K "Gap") "word") := He.meth_ok (T.fa 123 rfl)
theorem Txt.me_Gap_told : Meth K (He.ga K "Gap") "told" (He.ma K (He.ga K "Gap") "told") := He.meth_ok (T.fa 124 rfl)
theorem Txt.me_Gap_fits : Meth K (He.ga K "Gap") "fits" (He.ma K (He.ga K "Gap") "fits") := He.meth_ok (T.fa 125 rfl)
theorem Txt.me_Gap_do : Meth K (He.ga K "Gap") "do" (He.ma K (He.ga K "Gap") "do") := He.meth_ok (T.fa 126 rfl)
theorem Txt.me_Gap_both : Meth K (He.ga K "Gap") "both" (He.ma K (He.ga K "Gap") "both") := He.meth_ok (T.fa 127 rfl)
theorem Txt.cl_Low : Cls K (He.ga K "Low") := He.cls_ok (T.fa 128 rfl)
theorem Txt.mk_Low : Mk K (He.ga K "Low") (He.ma K (He.ga K "Low") "__init__") := He.mkr_ok (T.fa 129 rfl)
theorem Txt.na_Low_goal : NoAttr K (He.ga K "Low") "goal" := He.noat_ok (T.fa 130 rfl)
theorem Txt.na_Low_one : NoAttr K (He.ga K "Low") "one" := He.noat_ok (T.fa 131 rfl)
theorem Txt.na_Low_other : NoAttr K (He.ga K "Low") "other" := He.noat_ok (T.fa 132 rfl)
theorem Txt.me_Low_word : Meth K (He.ga K "Low") "word" (He.ma K (He.ga K "Low") "word") := He.meth_ok (T.fa 133 rfl)
theorem Txt.me_Low_told : Meth K (He.ga K "Low") "told" (He.ma K (He.ga K "Low") "told") := He.meth_ok (T.fa 134 rfl)
theorem Txt.me_Low_fits : Meth K (He.ga K "Low") "fits" (He.ma K (He.ga K "Low") "fits") := He.meth_ok (T.fa 135 rfl)
theorem Txt.me_Low_do : Meth K (He.ga K "Low") "do" (He.ma K (He.ga K "Low") "do") := He.meth_ok (T.fa 136 rfl)
theorem Txt.me_Low_worth : Meth K (He.ga K "Low") "worth" (He.ma K (He.ga K "Low") "worth") := He.meth_ok (T.fa 137 rfl)
theorem Txt.cl_High : Cls K (He.ga K "High") := He.cls_ok (T.fa 138 rfl)
theorem Txt.mk_High : Mk K (He.ga K "High") (He.ma K (He.ga K "High") "__init__") := He.mkr_ok (T.fa 139 rfl)
theorem Txt.na_High_goal : NoAttr K (He.ga K "High") "goal" := He.noat_ok (T.fa 140 rfl)
theorem Txt.na_High_one : NoAttr K (He.ga K "High") "one" := He.noat_ok (T.fa 141 rfl)
theorem Txt.na_High_other : NoAttr K (He.ga K "High") "other" := He.noat_ok (T.fa 142 rfl)
theorem Txt.me_High_word : Meth K (He.ga K "High") "word" (He.ma K (He.ga K "High") "word") := He.meth_ok (T.fa 143 rfl)
theorem Txt.me_High_told : Meth K (He.ga K "High") "told" (He.ma K (He.ga K "High") "told") := He.meth_ok (T.fa 144 rfl)
theorem Txt.me_High_fits : Meth K (He.ga K "High") "fits" (He.ma K (He.ga K "High") "fits") := He.meth_ok (T.fa 145 rfl)
theorem Txt.me_High_do : Meth K (He.ga K "High") "do" (He.ma K (He.ga K "High") "do") := He.meth_ok (T.fa 146 rfl)
theorem Txt.me_High_worth : Meth K (He.ga K "High") "worth" (He.ma K (He.ga K "High") "worth") := He.meth_ok (T.fa 147 rfl)
theorem Txt.cl_Left : Cls K (He.ga K "Left") := He.cls_ok (T.fa 148 rfl)
theorem Txt.mk_Left : Mk K (He.ga K "Left") (He.ma K (He.ga K "Left") "__init__") := He.mkr_ok (T.fa 149 rfl)
theorem Txt.na_Left_goal : NoAttr K (He.ga K "Left") "goal" := He.noat_ok (T.fa 150 rfl)
theorem Txt.na_Left_one : NoAttr K (He.ga K "Left") "one" := He.noat_ok (T.fa 151 rfl)
theorem Txt.na_Left_k : NoAttr K (He.ga K "Left") "k" := He.noat_ok (T.fa 152 rfl)
theorem Txt.me_Left_word : Meth K (He.ga K "Left") "word" (He.ma K (He.ga K "Left") "word") := He.meth_ok (T.fa 153 rfl)
theorem Txt.me_Left_told : Meth K (He.ga K "Left") "told" (He.ma K (He.ga K "Left") "told") := He.meth_ok (T.fa 154 rfl)
theorem Txt.me_Left_fits : Meth K (He.ga K "Left") "fits" (He.ma K (He.ga K "Left") "fits") := He.meth_ok (T.fa 155 rfl)
theorem Txt.me_Left_do : Meth K (He.ga K "Left") "do" (He.ma K (He.ga K "Left") "do") := He.meth_ok (T.fa 156 rfl)
theorem Txt.me_Left_moved : Meth K (He.ga K "Left") "moved" (He.ma K (He.ga K "Left") "moved") := He.meth_ok (T.fa 157 rfl)
theorem Txt.cl_Right : Cls K (He.ga K "Right") := He.cls_ok (T.fa 158 rfl)
theorem Txt.mk_Right : Mk K (He.ga K "Right") (He.ma K (He.ga K "Right") "__init__") := He.mkr_ok (T.fa 159 rfl)
theorem Txt.na_Right_goal : NoAttr K (He.ga K "Right") "goal" := He.noat_ok (T.fa 160 rfl)
theorem Txt.na_Right_one : NoAttr K (He.ga K "Right") "one" := He.noat_ok (T.fa 161 rfl)
theorem Txt.na_Right_k : NoAttr K (He.ga K "Right") "k" := He.noat_ok (T.fa 162 rfl)
theorem Txt.me_Right_word : Meth K (He.ga K "Right") "word" (He.ma K (He.ga K "Right") "word") := He.meth_ok (T.fa 163 rfl)
theorem Txt.me_Right_told : Meth K (He.ga K "Right") "told" (He.ma K (He.ga K "Right") "told") := He.meth_ok (T.fa 164 rfl)
theorem Txt.me_Right_fits : Meth K (He.ga K "Right") "fits" (He.ma K (He.ga K "Right") "fits") := He.meth_ok (T.fa 165 rfl)
theorem Txt.me_Right_do : Meth K (He.ga K "Right") "do" (He.ma K (He.ga K "Right") "do") := He.meth_ok (T.fa 166 rfl)
theorem Txt.me_Right_moved : Meth K (He.ga K "Right") "moved" (He.ma K (He.ga K "Right") "moved") := He.meth_ok (T.fa 167 rfl)
theorem Txt.cl_Slide : Cls K (He.ga K "Slide") := He.cls_ok (T.fa 168 rfl)
theorem Txt.mk_Slide : Mk K (He.ga K "Slide") (He.ma K (He.ga K "Slide") "__init__") := He.mkr_ok (T.fa 169 rfl)
theorem Txt.na_Slide_goal : NoAttr K (He.ga K "Slide") "goal" := He.noat_ok (T.fa 170 rfl)
theorem Txt.na_Slide_one : NoAttr K (He.ga K "Slide") "one" := He.noat_ok (T.fa 171 rfl)
theorem Txt.na_Slide_k : NoAttr K (He.ga K "Slide") "k" := He.noat_ok (T.fa 172 rfl)
theorem Txt.me_Slide_word : Meth K (He.ga K "Slide") "word" (He.ma K (He.ga K "Slide") "word") := He.meth_ok (T.fa 173 rfl)
theorem Txt.me_Slide_told : Meth K (He.ga K "Slide") "told" (He.ma K (He.ga K "Slide") "told") := He.meth_ok (T.fa 174 rfl)
theorem Txt.me_Slide_fits : Meth K (He.ga K "Slide") "fits" (He.ma K (He.ga K "Slide") "fits") := He.meth_ok (T.fa 175 rfl)
theorem Txt.me_Slide_do : Meth K (He.ga K "Slide") "do" (He.ma K (He.ga K "Slide") "do") := He.meth_ok (T.fa 176 rfl)
theorem Txt.me_Slide_moved : Meth K (He.ga K "Slide") "moved" (He.ma K (He.ga K "Slide") "moved") := He.meth_ok (T.fa 177 rfl)
theorem Txt.cl_And : Cls K (He.ga K "And") := He.cls_ok (T.fa 178 rfl)
theorem Txt.mk_And : Mk K (He.ga K "And") (He.ma K (He.ga K "And") "__init__") := He.mkr_ok (T.fa 179 rfl)
theorem Txt.na_And_goal : NoAttr K (He.ga K "And") "goal" := He.noat_ok (T.fa 180 rfl)
theorem Txt.na_And_one : NoAttr K (He.ga K "And") "one" := He.noat_ok (T.fa 181 rfl)
theorem Txt.na_And_other : NoAttr K (He.ga K "And") "other" := He.noat_ok (T.fa 182 rfl)
theorem Txt.me_And_word : Meth K (He.ga K "And") "word" (He.ma K (He.ga K "And") "word") := He.meth_ok (T.fa 183 rfl)
theorem Txt.me_And_told : Meth K (He.ga K "And") "told" (He.ma K (He.ga K "And") "told") := He.meth_ok (T.fa 184 rfl)
theorem Txt.me_And_fits : Meth K (He.ga K "And") "fits" (He.ma K (He.ga K "And") "fits") := He.meth_ok (T.fa 185 rfl)
theorem Txt.me_And_do : Meth K (He.ga K "And") "do" (He.ma K (He.ga K "And") "do") := He.meth_ok (T.fa 186 rfl)
theorem Txt.me_And_worth : Meth K (He.ga K "And") "worth" (He.ma K (He.ga K "And") "worth") := He.meth_ok (T.fa 187 rfl)
theorem Txt.cl_Or : Cls K (He.ga K "Or") := He.cls_ok (T.fa 188 rfl)
theorem Txt.mk_Or : Mk K (He.ga K "Or") (He.ma K (He.ga K "Or") "__init__") := He.mkr_ok (T.fa 189 rfl)
theorem Txt.na_Or_goal : NoAttr K (He.ga K "Or") "goal" := He.noat_ok (T.fa 190 rfl)
theorem Txt.na_Or_one : NoAttr K (He.ga K "Or") "one" := He.noat_ok (T.fa 191 rfl)
theorem Txt.na_Or_other : NoAttr K (He.ga K "Or") "other" := He.noat_ok (T.fa 192 rfl)
theorem Txt.me_Or_word : Meth K (He.ga K "Or") "word" (He.ma K (He.ga K "Or") "word") := He.meth_ok (T.fa 193 rfl)
theorem Txt.me_Or_told : Meth K (He.ga K "Or") "told" (He.ma K (He.ga K "Or") "told") := He.meth_ok (T.fa 194 rfl)
theorem Txt.me_Or_fits : Meth K (He.ga K "Or") "fits" (He.ma K (He.ga K "Or") "fits") := He.meth_ok (T.fa 195 rfl)
theorem Txt.me_Or_do : Meth K (He.ga K "Or") "do" (He.ma K (He.ga K "Or") "do") := He.meth_ok (T.fa 196 rfl)
theorem Txt.me_Or_worth : Meth K (He.ga K "Or") "worth" (He.ma K (He.ga K "Or") "worth") := He.meth_ok (T.fa 197 rfl)
theorem Txt.cl_Unlike : Cls K (He.ga K "Unlike") := He.cls_ok (T.fa 198 rfl)
theorem Txt.mk_Unlike : Mk K (He.ga K "Unlike") (He.ma K (He.ga K "Unlike") "__init__") := He.mkr_ok (T.fa 199 rfl)
theorem Txt.na_Unlike_goal : NoAttr K (He.ga K "Unlike") "goal" := He.noat_ok (T.fa 200 rfl)
theorem Txt.na_Unlike_one : NoAttr K (He.ga K "Unlike") "one" := He.noat_ok (T.fa 201 rfl)
theorem Txt.na_Unlike_other : NoAttr K (He.ga K "Unlike") "other" := He.noat_ok (T.fa 202 rfl)
theorem Txt.me_Unlike_word : Meth K (He.ga K "Unlike") "word" (He.ma K (He.ga K "Unlike") "word") := He.meth_ok (T.fa 203 rfl)
theorem Txt.me_Unlike_told : Meth K (He.ga K "Unlike") "told" (He.ma K (He.ga K "Unlike") "told") := He.meth_ok (T.fa 204 rfl)
theorem Txt.me_Unlike_fits : Meth K (He.ga K "Unlike") "fits" (He.ma K (He.ga K "Unlike") "fits") := He.meth_ok (T.fa 205 rfl)
theorem Txt.me_Unlike_do : Meth K (He.ga K "Unlike") "do" (He.ma K (He.ga K "Unlike") "do") := He.meth_ok (T.fa 206 rfl)
theorem Txt.me_Unlike_worth : Meth K (He.ga K "Unlike") "worth" (He.ma K (He.ga K "Unlike") "worth") := He.meth_ok (T.fa 207 rfl)
theorem Txt.cl_Under : Cls K (He.ga K "Under") := He.cls_ok (T.fa 208 rfl)
theorem Txt.mk_Under : Mk K (He.ga K "Under") (He.ma K (He.ga K "Under") "__init__") := He.mkr_ok (T.fa 209 rfl)
theorem Txt.na_Under_goal : NoAttr K (He.ga K "Under") "goal" := He.noat_ok (T.fa 210 rfl)
theorem Txt.na_Under_one : NoAttr K (He.ga K "Under") "one" := He.noat_ok (T.fa 211 rfl)
theorem Txt.na_Under_other : NoAttr K (He.ga K "Under") "other" := He.noat_ok (T.fa 212 rfl)
theorem Txt.me_Under_word : Meth K (He.ga K "Under") "word" (He.ma K (He.ga K "Under") "word") := He.meth_ok (T.fa 213 rfl)
theorem Txt.me_Under_told : Meth K (He.ga K "Under") "told" (He.ma K (He.ga K "Under") "told") := He.meth_ok (T.fa 214 rfl)
theorem Txt.me_Under_fits : Meth K (He.ga K "Under") "fits" (He.ma K (He.ga K "Under") "fits") := He.meth_ok (T.fa 215 rfl)
theorem Txt.me_Under_do : Meth K (He.ga K "Under") "do" (He.ma K (He.ga K "Under") "do") := He.meth_ok (T.fa 216 rfl)
theorem Txt.me_Under_worth : Meth K (He.ga K "Under") "worth" (He.ma K (He.ga K "Under") "worth") := He.meth_ok (T.fa 217 rfl)
theorem Txt.cl_Pick : Cls K (He.ga K "Pick") := He.cls_ok (T.fa 218 rfl)
theorem Txt.mk_Pick : Mk K (He.ga K "Pick") (He.ma K (He.ga K "Pick") "__init__") := He.mkr_ok (T.fa 219 rfl)
theorem Txt.na_Pick_goal : NoAttr K (He.ga K "Pick") "goal" := He.noat_ok (T.fa 220 rfl)
theorem Txt.na_Pick_by : NoAttr K (He.ga K "Pick") "by" := He.noat_ok (T.fa 221 rfl)
theorem Txt.na_Pick_one : NoAttr K (He.ga K "Pick") "one" := He.noat_ok (T.fa 222 rfl)
theorem Txt.na_Pick_other : NoAttr K (He.ga K "Pick") "other" := He.noat_ok (T.fa 223 rfl)
theorem Txt.me_Pick_word : Meth K (He.ga K "Pick") "word" (He.ma K (He.ga K "Pick") "word") := He.meth_ok (T.fa 224 rfl)
theorem Txt.me_Pick_told : Meth K (He.ga K "Pick") "told" (He.ma K (He.ga K "Pick") "told") := He.meth_ok (T.fa 225 rfl)
theorem Txt.me_Pick_fits : Meth K (He.ga K "Pick") "fits" (He.ma K (He.ga K "Pick") "fits") := He.meth_ok (T.fa 226 rfl)
theorem Txt.me_Pick_do : Meth K (He.ga K "Pick") "do" (He.ma K (He.ga K "Pick") "do") := He.meth_ok (T.fa 227 rfl)
theorem Txt.cl_Mark : Cls K (He.ga K "Mark") := He.cls_ok (T.fa 228 rfl)
theorem Txt.mk_Mark : Mk K (He.ga K "Mark") (He.ma K (He.ga K "Mark") "__init__") := He.mkr_ok (T.fa 229 rfl)
theorem Txt.na_Mark_line : NoAttr K (He.ga K "Mark") "line" := He.noat_ok (T.fa 230 rfl)
theorem Txt.na_Mark_mark : NoAttr K (He.ga K "Mark") "mark" := He.noat_ok (T.fa 231 rfl)
theorem Txt.na_Mark_by : NoAttr K (He.ga K "Mark") "by" := He.noat_ok (T.fa 232 rfl)
theorem Txt.me_Mark_word : Meth K (He.ga K "Mark") "word" (He.ma K (He.ga K "Mark") "word") := He.meth_ok (T.fa 233 rfl)
theorem Txt.me_Mark_told : Meth K (He.ga K "Mark") "told" (He.ma K (He.ga K "Mark") "told") := He.meth_ok (T.fa 234 rfl)
theorem Txt.me_Mark_fits : Meth K (He.ga K "Mark") "fits" (He.ma K (He.ga K "Mark") "fits") := He.meth_ok (T.fa 235 rfl)
theorem Txt.me_Mark_do : Meth K (He.ga K "Mark") "do" (He.ma K (He.ga K "Mark") "do") := He.meth_ok (T.fa 236 rfl)
theorem Txt.cl_Turns : Cls K (He.ga K "Turns") := He.cls_ok (T.fa 237 rfl)
theorem Txt.mk_Turns : Mk K (He.ga K "Turns") (He.ma K (He.ga K "Turns") "__init__") := He.mkr_ok (T.fa 238 rfl)
theorem Txt.na_Turns_times : NoAttr K (He.ga K "Turns") "times" := He.noat_ok (T.fa 239 rfl)
theorem Txt.na_Turns_steps : NoAttr K (He.ga K "Turns") "steps" := He.noat_ok (T.fa 240 rfl)
theorem Txt.me_Turns_word : Meth K (He.ga K "Turns") "word" (He.ma K (He.ga K "Turns") "word") := He.meth_ok (T.fa 241 rfl)
theorem Txt.me_Turns_told : Meth K (He.ga K "Turns") "told" (He.ma K (He.ga K "Turns") "told") := He.meth_ok (T.fa 242 rfl)
theorem Txt.me_Turns_fits : Meth K (He.ga K "Turns") "fits" (He.ma K (He.ga K "Turns") "fits") := He.meth_ok (T.fa 243 rfl)
theorem Txt.eq_Sum_told : He.ma K (He.ga K "Sum") "told" = He.ma K (He.ga K "Carrying") "told" := of_decide_eq_true (T.c.x 0 rfl)
theorem Txt.eq_Sum_fits : He.ma K (He.ga K "Sum") "fits" = He.ma K (He.ga K "Carrying") "fits" := of_decide_eq_true (T.c.x 1 rfl)
theorem Txt.eq_Sum_do : He.ma K (He.ga K "Sum") "do" = He.ma K (He.ga K "Carrying") "do" := of_decide_eq_true (T.c.x 2 rfl)
theorem Txt.eq_Sum___init__ : He.ma K (He.ga K "Sum") "__init__" = He.ma K (He.ga K "Carrying") "__init__" := of_decide_eq_true (T.c.x 3 rfl)
theorem Txt.eq_Gap_told : He.ma K (He.ga K "Gap") "told" = He.ma K (He.ga K "Carrying") "told" := of_decide_eq_true (T.c.x 4 rfl)
theorem Txt.eq_Gap_fits : He.ma K (He.ga K "Gap") "fits" = He.ma K (He.ga K "Carrying") "fits" := of_decide_eq_true (T.c.x 5 rfl)
theorem Txt.eq_Gap_do : He.ma K (He.ga K "Gap") "do" = He.ma K (He.ga K "Carrying") "do" := of_decide_eq_true (T.c.x 6 rfl)
theorem Txt.eq_Gap___init__ : He.ma K (He.ga K "Gap") "__init__" = He.ma K (He.ga K "Carrying") "__init__" := of_decide_eq_true (T.c.x 7 rfl)
theorem Txt.eq_Low_told : He.ma K (He.ga K "Low") "told" = He.ma K (He.ga K "Pair") "told" := of_decide_eq_true (T.c.x 8 rfl)
theorem Txt.eq_Low_fits : He.ma K (He.ga K "Low") "fits" = He.ma K (He.ga K "Pair") "fits" := of_decide_eq_true (T.c.x 9 rfl)
theorem Txt.eq_Low_do : He.ma K (He.ga K "Low") "do" = He.ma K (He.ga K "Pair") "do" := of_decide_eq_true (T.c.x 10 rfl)
theorem Txt.eq_Low___init__ : He.ma K (He.ga K "Low") "__init__" = He.ma K (He.ga K "Pair") "__init__" := of_decide_eq_true (T.c.x 11 rfl)
theorem Txt.eq_High_told : He.ma K (He.ga K "High") "told" = He.ma K (He.ga K "Pair") "told" := of_decide_eq_true (T.c.x 12 rfl)
theorem Txt.eq_High_fits : He.ma K (He.ga K "High") "fits" = He.ma K (He.ga K "Pair") "fits" := of_decide_eq_true (T.c.x 13 rfl)
theorem Txt.eq_High_do : He.ma K (He.ga K "High") "do" = He.ma K (He.ga K "Pair") "do" := of_decide_eq_true (T.c.x 14 rfl)
theorem Txt.eq_High___init__ : He.ma K (He.ga K "High") "__init__" = He.ma K (He.ga K "Pair") "__init__" := of_decide_eq_true (T.c.x 15 rfl)
theorem Txt.eq_Left_told : He.ma K (He.ga K "Left") "told" = He.ma K (He.ga K "Shift") "told" := of_decide_eq_true (T.c.x 16 rfl)
theorem Txt.eq_Left_fits : He.ma K (He.ga K "Left") "fits" = He.ma K (He.ga K "Shift") "fits" := of_decide_eq_true (T.c.x 17 rfl)
theorem Txt.eq_Left_do : He.ma K (He.ga K "Left") "do" = He.ma K (He.ga K "Shift") "do" := of_decide_eq_true (T.c.x 18 rfl)
theorem Txt.eq_Left___init__ : He.ma K (He.ga K "Left") "__init__" = He.ma K (He.ga K "Shift") "__init__" := of_decide_eq_true (T.c.x 19 rfl)
theorem Txt.eq_Right_told : He.ma K (He.ga K "Right") "told" = He.ma K (He.ga K "Shift") "told" := of_decide_eq_true (T.c.x 20 rfl)
theorem Txt.eq_Right_fits : He.ma K (He.ga K "Right") "fits" = He.ma K (He.ga K "Shift") "fits" := of_decide_eq_true (T.c.x 21 rfl)
theorem Txt.eq_Right_do : He.ma K (He.ga K "Right") "do" = He.ma K (He.ga K "Shift") "do" := of_decide_eq_true (T.c.x 22 rfl)
theorem Txt.eq_Right___init__ : He.ma K (He.ga K "Right") "__init__" = He.ma K (He.ga K "Shift") "__init__" := of_decide_eq_true (T.c.x 23 rfl)
theorem Txt.eq_Slide_told : He.ma K (He.ga K "Slide") "told" = He.ma K (He.ga K "Shift") "told" := of_decide_eq_true (T.c.x 24 rfl)
theorem Txt.eq_Slide_fits : He.ma K (He.ga K "Slide") "fits" = He.ma K (He.ga K "Shift") "fits" := of_decide_eq_true (T.c.x 25 rfl)
theorem Txt.eq_Slide_do : He.ma K (He.ga K "Slide") "do" = He.ma K (He.ga K "Shift") "do" := of_decide_eq_true (T.c.x 26 rfl)
theorem Txt.eq_Slide___init__ : He.ma K (He.ga K "Slide") "__init__" = He.ma K (He.ga K "Shift") "__init__" := of_decide_eq_true (T.c.x 27 rfl)
theorem Txt.eq_And_told : He.ma K (He.ga K "And") "told" = He.ma K (He.ga K "Pair") "told" := of_decide_eq_true (T.c.x 28 rfl)
theorem Txt.eq_And_fits : He.ma K (He.ga K "And") "fits" = He.ma K (He.ga K "Pair") "fits" := of_decide_eq_true (T.c.x 29 rfl)
theorem Txt.eq_And_do : He.ma K (He.ga K "And") "do" = He.ma K (He.ga K "Pair") "do" := of_decide_eq_true (T.c.x 30 rfl)
theorem Txt.eq_And___init__ : He.ma K (He.ga K "And") "__init__" = He.ma K (He.ga K "Pair") "__init__" := of_decide_eq_true (T.c.x 31 rfl)
theorem Txt.eq_Or_told : He.ma K (He.ga K "Or") "told" = He.ma K (He.ga K "Pair") "told" := of_decide_eq_true (T.c.x 32 rfl)
theorem Txt.eq_Or_fits : He.ma K (He.ga K "Or") "fits" = He.ma K (He.ga K "Pair") "fits" := of_decide_eq_true (T.c.x 33 rfl)
theorem Txt.eq_Or_do : He.ma K (He.ga K "Or") "do" = He.ma K (He.ga K "Pair") "do" := of_decide_eq_true (T.c.x 34 rfl)
theorem Txt.eq_Or___init__ : He.ma K (He.ga K "Or") "__init__" = He.ma K (He.ga K "Pair") "__init__" := of_decide_eq_true (T.c.x 35 rfl)
theorem Txt.eq_Unlike_told : He.ma K (He.ga K "Unlike") "told" = He.ma K (He.ga K "Pair") "told" := of_decide_eq_true (T.c.x 36 rfl)
theorem Txt.eq_Unlike_fits : He.ma K (He.ga K "Unlike") "fits" = He.ma K (He.ga K "Pair") "fits" := of_decide_eq_true (T.c.x 37 rfl)
theorem Txt.eq_Unlike_do : He.ma K (He.ga K "Unlike") "do" = He.ma K (He.ga K "Pair") "do" := of_decide_eq_true (T.c.x 38 rfl)
theorem Txt.eq_Unlike___init__ : He.ma K (He.ga K "Unlike") "__init__" = He.ma K (He.ga K "Pair") "__init__" := of_decide_eq_true (T.c.x 39 rfl)
theorem Txt.eq_Under_told : He.ma K (He.ga K "Under") "told" = He.ma K (He.ga K "Pair") "told" := of_decide_eq_true (T.c.x 40 rfl)
theorem Txt.eq_Under_fits : He.ma K (He.ga K "Under") "fits" = He.ma K (He.ga K "Pair") "fits" := of_decide_eq_true (T.c.x 41 rfl)
theorem Txt.eq_Under_do : He.ma K (He.ga K "Under") "do" = He.ma K (He.ga K "Pair") "do" := of_decide_eq_true (T.c.x 42 rfl)
theorem Txt.eq_Under___init__ : He.ma K (He.ga K "Under") "__init__" = He.ma K (He.ga K "Pair") "__init__" := of_decide_eq_true (T.c.x 43 rfl)
theorem Txt.kit_Set_Step : PySem.W.kitOne K (.ref (He.ga K "Set")) (.ref (He.ga K "Step")) = some true := of_decide_eq_true (T.c.x 44 rfl)
theorem Txt.kit_Set_Turns : PySem.W.kitOne K (.ref (He.ga K "Set")) (.ref (He.ga K "Turns")) = some false := of_decide_eq_true (T.c.x 45 rfl)
theorem Txt.kit_Copy_Step : PySem.W.kitOne K (.ref (He.ga K "Copy")) (.ref (He.ga K "Step")) = some true := of_decide_eq_true (T.c.x 46 rfl)
theorem Txt.kit_Copy_Turns : PySem.W.kitOne K (.ref (He.ga K "Copy")) (.ref (He.ga K "Turns")) = some false := of_decide_eq_true (T.c.x 47 rfl)
theorem Txt.kit_Sum_Step : PySem.W.kitOne K (.ref (He.ga K "Sum")) (.ref (He.ga K "Step")) = some true := of_decide_eq_true (T.c.x 48 rfl)
theorem Txt.kit_Sum_Turns : PySem.W.kitOne K (.ref (He.ga K "Sum")) (.ref (He.ga K "Turns")) = some false := of_decide_eq_true (T.c.x 49 rfl)
theorem Txt.kit_Gap_Step : PySem.W.kitOne K (.ref (He.ga K "Gap")) (.ref (He.ga K "Step")) = some true := of_decide_eq_true (T.c.x 50 rfl)
theorem Txt.kit_Gap_Turns : PySem.W.kitOne K (.ref (He.ga K "Gap")) (.ref (He.ga K "Turns")) = some false := of_decide_eq_true (T.c.x 51 rfl)
theorem Txt.kit_Low_Step : PySem.W.kitOne K (.ref (He.ga K "Low")) (.ref (He.ga K "Step")) = some true := of_decide_eq_true (T.c.x 52 rfl)
theorem Txt.kit_Low_Turns : PySem.W.kitOne K (.ref (He.ga K "Low")) (.ref (He.ga K "Turns")) = some false := of_decide_eq_true (T.c.x 53 rfl)
theorem Txt.kit_High_Step : PySem.W.kitOne K (.ref (He.ga K "High")) (.ref (He.ga K "Step")) = some true := of_decide_eq_true (T.c.x 54 rfl)
theorem Txt.kit_High_Turns : PySem.W.kitOne K (.ref (He.ga K "High")) (.ref (He.ga K "Turns")) = some false := of_decide_eq_true (T.c.x 55 rfl)
theorem Txt.kit_Left_Step : PySem.W.kitOne K (.ref (He.ga K "Left")) (.ref (He.ga K "Step")) = some true := of_decide_eq_true (T.c.x 56 rfl)
theorem Txt.kit_Left_Turns : PySem.W.kitOne K (.ref (He.ga K "Left")) (.ref (He.ga K "Turns")) = some false := of_decide_eq_true (T.c.x 57 rfl)
theorem Txt.kit_Right_Step : PySem.W.kitOne K (.ref (He.ga K "Right")) (.ref (He.ga K "Step")) = some true := of_decide_eq_true (T.c.x 58 rfl)
theorem Txt.kit_Right_Turns : PySem.W.kitOne K (.ref (He.ga K "Right")) (.ref (He.ga K "Turns")) = some false := of_decide_eq_true (T.c.x 59 rfl)
theorem Txt.kit_Slide_Step : PySem.W.kitOne K (.ref (He.ga K "Slide")) (.ref (He.ga K "Step")) = some true := of_decide_eq_true (T.c.x 60 rfl)
theorem Txt.kit_Slide_Turns : PySem.W.kitOne K (.ref (He.ga K "Slide")) (.ref (He.ga K "Turns")) = some false := of_decide_eq_true (T.c.x 61 rfl)
theorem Txt.kit_And_Step : PySem.W.kitOne K (.ref (He.ga K "And")) (.ref (He.ga K "Step")) = some true := of_decide_eq_true (T.c.x 62 rfl)
theorem Txt.kit_And_Turns : PySem.W.kitOne K (.ref (He.ga K "And")) (.ref (He.ga K "Turns")) = some false := of_decide_eq_true (T.c.x 63 rfl)
theorem Txt.kit_Or_Step : PySem.W.kitOne K (.ref (He.ga K "Or")) (.ref (He.ga K "Step")) = some true := of_decide_eq_true (T.c.x 64 rfl)
theorem Txt.kit_Or_Turns : PySem.W.kitOne K (.ref (He.ga K "Or")) (.ref (He.ga K "Turns")) = some false := of_decide_eq_true (T.c.x 65 rfl)
theorem Txt.kit_Unlike_Step : PySem.W.kitOne K (.ref (He.ga K "Unlike")) (.ref (He.ga K "Step")) = some true := of_decide_eq_true (T.c.x 66 rfl)
theorem Txt.kit_Unlike_Turns : PySem.W.kitOne K (.ref (He.ga K "Unlike")) (.ref (He.ga K "Turns")) = some false := of_decide_eq_true (T.c.x 67 rfl)
theorem Txt.kit_Under_Step : PySem.W.kitOne K (.ref (He.ga K "Under")) (.ref (He.ga K "Step")) = some true := of_decide_eq_true (T.c.x 68 rfl)
theorem Txt.kit_Under_Turns : PySem.W.kitOne K (.ref (He.ga K "Under")) (.ref (He.ga K "Turns")) = some false := of_decide_eq_true (T.c.x 69 rfl)
theorem Txt.kit_Pick_Step : PySem.W.kitOne K (.ref (He.ga K "Pick")) (.ref (He.ga K "Step")) = some true := of_decide_eq_true (T.c.x 70 rfl)
theorem Txt.kit_Pick_Turns : PySem.W.kitOne K (.ref (He.ga K "Pick")) (.ref (He.ga K "Turns")) = some false := of_decide_eq_true (T.c.x 71 rfl)
theorem Txt.kit_Mark_Step : PySem.W.kitOne K (.ref (He.ga K "Mark")) (.ref (He.ga K "Step")) = some true := of_decide_eq_true (T.c.x 72 rfl)
theorem Txt.kit_Mark_Turns : PySem.W.kitOne K (.ref (He.ga K "Mark")) (.ref (He.ga K "Turns")) = some false := of_decide_eq_true (T.c.x 73 rfl)
theorem Txt.kit_Turns_Step : PySem.W.kitOne K (.ref (He.ga K "Turns")) (.ref (He.ga K "Step")) = some true := of_decide_eq_true (T.c.x 74 rfl)
theorem Txt.kit_Turns_Turns : PySem.W.kitOne K (.ref (He.ga K "Turns")) (.ref (He.ga K "Turns")) = some true := of_decide_eq_true (T.c.x 75 rfl)
theorem Txt.cs_Set : PySem.W.findIn K (.ref (He.ga K "Set")) "__class__" = some (some (.builtin "object.__class__")) := of_decide_eq_true (T.c.x 76 rfl)
theorem Txt.ob_Set : PySem.W.mroIn K (He.ga K "Set") (.type "object") = some true := of_decide_eq_true (T.c.x 77 rfl)
theorem Txt.cs_Copy : PySem.W.findIn K (.ref (He.ga K "Copy")) "__class__" = some (some (.builtin "object.__class__")) := of_decide_eq_true (T.c.x 78 rfl)
theorem Txt.ob_Copy : PySem.W.mroIn K (He.ga K "Copy") (.type "object") = some true := of_decide_eq_true (T.c.x 79 rfl)
theorem Txt.cs_Sum : PySem.W.findIn K (.ref (He.ga K "Sum")) "__class__" = some (some (.builtin "object.__class__")) := of_decide_eq_true (T.c.x 80 rfl)
theorem Txt.ob_Sum : PySem.W.mroIn K (He.ga K "Sum") (.type "object") = some true := of_decide_eq_true (T.c.x 81 rfl)
theorem Txt.cs_Gap : PySem.W.findIn K (.ref (He.ga K "Gap")) "__class__" = some (some (.builtin "object.__class__")) := of_decide_eq_true (T.c.x 82 rfl)
theorem Txt.ob_Gap : PySem.W.mroIn K (He.ga K "Gap") (.type "object") = some true := of_decide_eq_true (T.c.x 83 rfl)
theorem Txt.cs_Low : PySem.W.findIn K (.ref (He.ga K "Low")) "__class__" = some (some (.builtin "object.__class__")) := of_decide_eq_true (T.c.x 84 rfl)
theorem Txt.ob_Low : PySem.W.mroIn K (He.ga K "Low") (.type "object") = some true := of_decide_eq_true (T.c.x 85 rfl)
theorem Txt.cs_High : PySem.W.findIn K (.ref (He.ga K "High")) "__class__" = some (some (.builtin "object.__class__")) := of_decide_eq_true (T.c.x 86 rfl)
theorem Txt.ob_High : PySem.W.mroIn K (He.ga K "High") (.type "object") = some true := of_decide_eq_true (T.c.x 87 rfl)
theorem Txt.cs_Left : PySem.W.findIn K (.ref (He.ga K "Left")) "__class__" = some (some (.builtin "object.__class__")) := of_decide_eq_true (T.c.x 88 rfl)
theorem Txt.ob_Left : PySem.W.mroIn K (He.ga K "Left") (.type "object") = some true := of_decide_eq_true (T.c.x 89 rfl)
theorem Txt.cs_Right : PySem.W.findIn K (.ref (He.ga K "Right")) "__class__" = some (some (.builtin "object.__class__")) := of_decide_eq_true (T.c.x 90 rfl)
theorem Txt.ob_Right : PySem.W.mroIn K (He.ga K "Right") (.type "object") = some true := of_decide_eq_true (T.c.x 91 rfl)
theorem Txt.cs_Slide : PySem.W.findIn K (.ref (He.ga K "Slide")) "__class__" = some (some (.builtin "object.__class__")) := of_decide_eq_true (T.c.x 92 rfl)
theorem Txt.ob_Slide : PySem.W.mroIn K (He.ga K "Slide") (.type "object") = some true := of_decide_eq_true (T.c.x 93 rfl)
theorem Txt.cs_And : PySem.W.findIn K (.ref (He.ga K "And")) "__class__" = some (some (.builtin "object.__class__")) := of_decide_eq_true (T.c.x 94 rfl)
theorem Txt.ob_And : PySem.W.mroIn K (He.ga K "And") (.type "object") = some true := of_decide_eq_true (T.c.x 95 rfl)
theorem Txt.cs_Or : PySem.W.findIn K (.ref (He.ga K "Or")) "__class__" = some (some (.builtin "object.__class__")) := of_decide_eq_true (T.c.x 96 rfl)
theorem Txt.ob_Or : PySem.W.mroIn K (He.ga K "Or") (.type "object") = some true := of_decide_eq_true (T.c.x 97 rfl)
theorem Txt.cs_Unlike : PySem.W.findIn K (.ref (He.ga K "Unlike")) "__class__" = some (some (.builtin "object.__class__")) := of_decide_eq_true (T.c.x 98 rfl)
theorem Txt.ob_Unlike : PySem.W.mroIn K (He.ga K "Unlike") (.type "object") = some true := of_decide_eq_true (T.c.x 99 rfl)
theorem Txt.cs_Under : PySem.W.findIn K (.ref (He.ga K "Under")) "__class__" = some (some (.builtin "object.__class__")) := of_decide_eq_true (T.c.x 100 rfl)
theorem Txt.ob_Under : PySem.W.mroIn K (He.ga K "Under") (.type "object") = some true := of_decide_eq_true (T.c.x 101 rfl)
theorem Txt.cs_Pick : PySem.W.findIn K (.ref (He.ga K "Pick")) "__class__" = some (some (.builtin "object.__class__")) := of_decide_eq_true (T.c.x 102 rfl)
theorem Txt.ob_Pick : PySem.W.mroIn K (He.ga K "Pick") (.type "object") = some true := of_decide_eq_true (T.c.x 103 rfl)
theorem Txt.cs_Mark : PySem.W.findIn K (.ref (He.ga K "Mark")) "__class__" = some (some (.builtin "object.__class__")) := of_decide_eq_true (T.c.x 104 rfl)
theorem Txt.ob_Mark : PySem.W.mroIn K (He.ga K "Mark") (.type "object") = some true := of_decide_eq_true (T.c.x 105 rfl)
theorem Txt.cs_Turns : PySem.W.findIn K (.ref (He.ga K "Turns")) "__class__" = some (some (.builtin "object.__class__")) := of_decide_eq_true (T.c.x 106 rfl)
theorem Txt.ob_Turns : PySem.W.mroIn K (He.ga K "Turns") (.type "object") = some true := of_decide_eq_true (T.c.x 107 rfl)
theorem Txt.sg : PySem.W.specialIn K (.builtin "object.__class__") "__get__" = some (some (.builtin "getset_descriptor.__get__")) := of_decide_eq_true (T.c.x 108 rfl)
theorem Txt.tk : PySem.W.takesIn K (.builtin "object.__class__") = some true := of_decide_eq_true (T.c.x 109 rfl)
theorem Txt.ex_110 : (fun K : PySem.W.Frag => He.tupB K "ROW_WORDS" [.str "set", .str "copy", .str "sum", .str "gap", .str "low", .str "high", .str "left", .str "right", .str "slide", .str "and", .str "or", .str "unlike", .str "under", .str "pick", .str "mark", .str "turns"]) K = true := T.c.x 110 rfl
theorem Txt.ex_111 : (fun K : PySem.W.Frag => oexB K (He.ga K "NoPrices")) K = true := T.c.x 111 rfl
theorem Txt.ex_112 : (fun K : PySem.W.Frag => decide (PySem.W.findIn K (.ref (He.ga K "NoPrices")) "found" = some none)) K = true := T.c.x 112 rfl
theorem Txt.ex_113 : (fun K : PySem.W.Frag => decide (PySem.W.findIn K (.ref (He.ga K "NoPrices")) "__init__" = some (some (.ref (He.ma K (He.ga K "NoPrices") "__init__"))))) K = true := T.c.x 113 rfl
theorem Txt.ex_114 : (fun K : PySem.W.Frag => decide (PySem.W.typeIn K (.ref (He.ma K (He.ga K "NoPrices") "__init__")) = some (.type "function"))) K = true := T.c.x 114 rfl
theorem Txt.ex_115 : (fun K : PySem.W.Frag => decide (PySem.W.findIn K (.ref (He.ga K "NoPrices")) "__getattribute__" = some (some (.builtin "BaseException.__getattribute__")))) K = true := T.c.x 115 rfl
theorem Txt.ex_116 : (fun K : PySem.W.Frag => decide (PySem.W.findIn K (.ref (He.ga K "NoPrices")) "__getattr__" = some none)) K = true := T.c.x 116 rfl
theorem Txt.ex_117 : (fun K : PySem.W.Frag => PySem.W.hasDictIn K (He.ga K "NoPrices")) K = true := T.c.x 117 rfl
theorem Txt.ex_118 : (fun K : PySem.W.Frag => decide (PySem.W.exmOne K (.ref (He.ga K "NoPrices")) (.ref (He.ga K "NoPrices")) = some true)) K = true := T.c.x 118 rfl
theorem Txt.ex_119 : (fun K : PySem.W.Frag => (match PySem.W.findCls K (.ref (He.ga K "WiseError")) (.type "type") "__init__" with | some (.val (.builtin n)) => n == "ValueError.__init__" | _ => false)) K = true := T.c.x 119 rfl
theorem Txt.ex_120 : (fun K : PySem.W.Frag => PySem.W.keepIn K (.ref (He.ga K "WiseError"))) K = true := T.c.x 120 rfl
theorem Txt.ex_121 : (fun K : PySem.W.Frag => PySem.W.readsIn K (He.ga K "WiseError") (.type "type")) K = true := T.c.x 121 rfl
theorem Txt.ex_122 : (fun K : PySem.W.Frag => decide (PySem.W.specialIn K (.ref (He.ga K "WiseError")) "__getattribute__" = some (some (.builtin "type.__getattribute__")))) K = true := T.c.x 122 rfl
end
end K73

set_option maxHeartbeats 4000000
/-! the data and the mathematics: rows, their words, what a run does -/
namespace K73
open PySem PySem.Spec PyProof.Rows L2

/-! ### the sixteen classes -/
inductive Cl where
  | set | copy | sum | gap | low | high | left | right | slide | and_ | or_ | unlike | under | pick | mark | turns
  deriving DecidableEq
def Cl.nm : Cl → Str
  | .set => "Set" | .copy => "Copy" | .sum => "Sum" | .gap => "Gap" | .low => "Low" | .high => "High" | .left => "Left" | .right => "Right" | .slide => "Slide"
  | .and_ => "And" | .or_ => "Or" | .unlike => "Unlike" | .under => "Under" | .pick => "Pick" | .mark => "Mark" | .turns => "Turns"
def Cl.wd : Cl → Str
  | .set => "set" | .copy => "copy" | .sum => "sum" | .gap => "gap" | .low => "low" | .high => "high" | .left => "left" | .right => "right" | .slide => "slide"
  | .and_ => "and" | .or_ => "or" | .unlike => "unlike" | .under => "under" | .pick => "pick" | .mark => "mark" | .turns => "turns"
def Cl.ad (K : PySem.W.Frag) (c : Cl) : Addr := He.ga K c.nm
/-- the sixteen words in their order -/
def allCl : List Cl := [.set, .copy, .sum, .gap, .low, .high, .left, .right, .slide, .and_, .or_, .unlike, .under, .pick, .mark, .turns]
def words : List Str := allCl.map Cl.wd
theorem wd_inj : ∀ a b : Cl, a.wd = b.wd → a = b := by
  intro a b h
  cases a <;> cases b <;> first | rfl | exact absurd h (by decide +kernel)
theorem mem_allCl (c : Cl) : c ∈ allCl := by cases c <;> decide
inductive PO where
  | low | high | and_ | or_ | unlike | under
inductive CO where
  | sum | gap
inductive SO where
  | left | right | slide
def PO.cl : PO → Cl
  | .low => .low | .high => .high | .and_ => .and_ | .or_ => .or_ | .unlike => .unlike | .under => .under
def CO.cl : CO → Cl
  | .sum => .sum | .gap => .gap
def SO.cl : SO → Cl
  | .left => .left | .right => .right | .slide => .slide
def PO.f (w : Nat) (a b : Int) : PO → Int
  | .low => a * b % 2 ^ w
  | .high => a * b / 2 ^ w
  | .and_ => Builtin.bitAnd a b
  | .or_ => Builtin.bitOr a b
  | .unlike => Builtin.bitXor a b
  | .under => if a < b then 1 else 0
def CO.v (w : Nat) (a b : Int) : CO → Int
  | .sum => (a + b) % 2 ^ w
  | .gap => (a - b) % 2 ^ w
def CO.c (w : Nat) (a b : Int) : CO → Int
  | .sum => if 2 ^ w ≤ a + b then 1 else 0
  | .gap => if a < b then 1 else 0
def sgn (w : Nat) (a : Int) : Int := if (2 : Int) ^ w ≤ 2 * a then a - 2 ^ w else a
def SO.f (w : Nat) (a k : Int) : SO → Int
  | .left => a * 2 ^ k.toNat % 2 ^ w
  | .right => a / 2 ^ k.toNat
  | .slide => sgn w a / 2 ^ k.toNat % 2 ^ w
/-- a row that is no Turns -/
inductive Leaf where
  | set (g : Str) (b : Int)
  | copy (g o : Str)
  | pair (c : PO) (g a b : Str)
  | carry (c : CO) (g : Str) (k : Option Str) (a b : Str)
  | shift (c : SO) (g a : Str) (k : Int)
  | pick (g y a b : Str)
  | mark (ln : Int) (m y : Str)
def Leaf.cl : Leaf → Cl
  | .set .. => .set
  | .copy .. => .copy
  | .pair c .. => c.cl
  | .carry c .. => c.cl
  | .shift c .. => c.cl
  | .pick .. => .pick
  | .mark .. => .mark
theorem leaf_not_turns (r : Leaf) : r.cl ≠ .turns := by
  cases r with
  | pair c => cases c <;> intro h <;> cases h
  | carry c => cases c <;> intro h <;> cases h
  | shift c => cases c <;> intro h <;> cases h
  | _ => intro h; cases h
abbrev Leaf.wd (r : Leaf) : Str := r.cl.wd
def optV : Option Str → V
  | none => .non
  | some z => .str z
/-- what the row's tuple holds behind its word -/
def Leaf.args : Leaf → List V
  | .set g b => [.str g, .int b]
  | .copy g o => [.str g, .str o]
  | .pair _ g a b => [.str g, .str a, .str b]
  | .carry _ g k a b => [.str g, optV k, .str a, .str b]
  | .shift _ g a k => [.str g, .str a, .int k]
  | .pick g y a b => [.str g, .str y, .str a, .str b]
  | .mark ln m y => [.int ln, .str m, .str y]
def Leaf.vals (r : Leaf) : List V := .str r.wd :: r.args
/-- the fields of the row's object -/
def Leaf.flds : Leaf → List (Str × V)
  | .set g b => [("goal", .str g), ("bits", .int b)]
  | .copy g o => [("goal", .str g), ("one", .str o)]
  | .pair _ g a b => [("goal", .str g), ("one", .str a), ("other", .str b)]
  | .carry _ g k a b => [("goal", .str g), ("carry", optV k), ("one", .str a), ("other", .str b)]
  | .shift _ g a k => [("goal", .str g), ("one", .str a), ("k", .int k)]
  | .pick g y a b => [("goal", .str g), ("by", .str y), ("one", .str a), ("other", .str b)]
  | .mark ln m y => [("line", .int ln), ("mark", .str m), ("by", .str y)]

/-! ### names -/
def letters : Str := "abcdefghijklmnopqrstuvwxyz"
def figures : Str := "0123456789"
structure IsReg (z : Str) : Prop where
  len1 : 1 ≤ z.length
  len8 : z.length ≤ 8
  hd : ∃ c, z.cps.toList[0]? = some c ∧ c ∈ letters.cps.toList
  all_ : ∀ c ∈ z.cps.toList, c ∈ (letters ++ figures).cps.toList
def IsMk (m : Str) : Prop := m = "round" ∨ m = "stop" ∨ m = "nothing"
def Leaf.Good (w : Nat) : Leaf → Prop
  | .set g b => IsReg g ∧ 0 ≤ b ∧ b < 2 ^ w
  | .copy g o => IsReg g ∧ IsReg o
  | .pair _ g a b => IsReg g ∧ IsReg a ∧ IsReg b
  | .carry _ g k a b => IsReg g ∧ (∀ z, k = some z → IsReg z) ∧ IsReg a ∧ IsReg b
  | .shift _ g a k => IsReg g ∧ IsReg a ∧ 0 ≤ k ∧ k < w
  | .pick g y a b => IsReg g ∧ IsReg y ∧ IsReg a ∧ IsReg b
  | .mark ln m y => 0 ≤ ln ∧ ln ≤ 9999 ∧ IsMk m ∧ IsReg y

/-! ### rows in rows -/
inductive Fo where
  | nil
  | leaf (r : Leaf) (t : Fo)
  | turns (n : Nat) (b t : Fo)
def Fo.depth : Fo → Nat
  | .nil => 0
  | .leaf _ t => t.depth
  | .turns _ b t => max (b.depth + 1) t.depth
def Fo.cost : Fo → Nat
  | .nil => 0
  | .leaf _ t => 1 + t.cost
  | .turns n b t => n * (1 + b.cost) + t.cost
def Fo.Good (w : Nat) : Fo → Prop
  | .nil => True
  | .leaf r t => r.Good w ∧ t.Good w
  | .turns n b t => (1 ≤ n ∧ n ≤ 64 ∧ b ≠ .nil) ∧ b.Good w ∧ t.Good w
def Fo.app : Fo → Fo → Fo
  | .nil, u => u
  | .leaf r t, u => .leaf r (t.app u)
  | .turns n b t, u => .turns n b (t.app u)
def Fo.len : Fo → Nat
  | .nil => 0
  | .leaf _ t => t.len + 1
  | .turns _ _ t => t.len + 1
def rep (n : Nat) (l : List Leaf) : List Leaf := (List.replicate n l).flatten
def Fo.flat : Fo → List Leaf
  | .nil => []
  | .leaf r t => r :: t.flat
  | .turns n b t => rep n b.flat ++ t.flat
theorem app_depth (a b : Fo) : (a.app b).depth = max a.depth b.depth := by
  induction a with
  | nil => simp [Fo.app, Fo.depth]
  | leaf r t ih => simpa [Fo.app, Fo.depth] using ih
  | turns n c t _ ih => simp only [Fo.app, Fo.depth, ih]; omega
theorem app_cost (a b : Fo) : (a.app b).cost = a.cost + b.cost := by
  induction a with
  | nil => simp [Fo.app, Fo.cost]
  | leaf r t ih => simp only [Fo.app, Fo.cost, ih]; omega
  | turns n c t _ ih => simp only [Fo.app, Fo.cost, ih]; omega
theorem app_good (w : Nat) (a b : Fo) : (a.app b).Good w ↔ a.Good w ∧ b.Good w := by
  induction a with
  | nil => simp [Fo.app, Fo.Good]
  | leaf r t ih => simp only [Fo.app, Fo.Good, ih, and_assoc]
  | turns n c t _ ih => simp only [Fo.app, Fo.Good, ih, and_assoc]
theorem app_len (a b : Fo) : (a.app b).len = a.len + b.len := by
  induction a with
  | nil => simp [Fo.app, Fo.len]
  | leaf r t ih => simp only [Fo.app, Fo.len, ih]; omega
  | turns n c t _ ih => simp only [Fo.app, Fo.len, ih]; omega
theorem len_nil {a : Fo} (h : a.len = 0) : a = .nil := by cases a <;> simp_all [Fo.len]
theorem len_cost {w : Nat} : ∀ a : Fo, a.Good w → a.len ≤ a.cost
  | .nil, _ => Nat.le_refl _
  | .leaf r t, h => by have := len_cost t h.2; simp only [Fo.len, Fo.cost]; omega
  | .turns n b t, h => by
    have := len_cost t h.2.2
    have h1 : 1 * 1 ≤ n * (1 + b.cost) := Nat.mul_le_mul h.1.1 (by omega)
    simp only [Fo.len, Fo.cost]; omega
theorem rep_len (n : Nat) (l : List Leaf) : (rep n l).length = n * l.length := by
  unfold rep
  induction n with
  | zero => simp
  | succ n ih => rw [List.replicate_succ, List.flatten_cons, List.length_append, ih, Nat.succ_mul]; omega
theorem flat_len : ∀ a : Fo, a.flat.length ≤ a.cost
  | .nil => Nat.le_refl _
  | .leaf r t => by have := flat_len t; simp only [Fo.flat, Fo.cost, List.length_cons]; omega
  | .turns n b t => by
    have h1 := flat_len t
    have h2 : n * b.flat.length ≤ n * (1 + b.cost) := Nat.mul_le_mul_left n (by have := flat_len b; omega)
    simp only [Fo.flat, Fo.cost, List.length_append, rep_len]; omega

/-! ### what a run does -/
def getI (kv : List (Key × V)) (z : Str) : Int := match valV kv (Sum.inr z) with
  | some (.int i) => i
  | _ => 0
def Leaf.put (w : Nat) (kv : List (Key × V)) : Leaf → List (Key × V)
  | .set g b => putK kv (Sum.inr g) (.int b)
  | .copy g o => putK kv (Sum.inr g) (.int (getI kv o))
  | .pair c g a b => putK kv (Sum.inr g) (.int (c.f w (getI kv a) (getI kv b)))
  | .carry c g none a b => putK kv (Sum.inr g) (.int (c.v w (getI kv a) (getI kv b)))
  | .carry c g (some y) a b => putK (putK kv (Sum.inr g) (.int (c.v w (getI kv a) (getI kv b)))) (Sum.inr y) (.int (c.c w (getI kv a) (getI kv b)))
  | .shift c g a k => putK kv (Sum.inr g) (.int (c.f w (getI kv a) k))
  | .pick g y a b => putK kv (Sum.inr g) (.int (if getI kv y = 0 then getI kv b else getI kv a))
  | .mark .. => kv
def Leaf.mks (kv : List (Key × V)) : Leaf → List (Int × Str)
  | .mark ln m y => if getI kv y = 0 then [] else [(ln, m)]
  | _ => []
structure Sta where
  kv : List (Key × V)
  ms : List (Int × Str)
  cn : Str → Int
def up (cn : Str → Int) (x : Str) : Str → Int := fun y => if y = x then cn y + 1 else cn y
def Leaf.run (w : Nat) (r : Leaf) (s : Sta) : Sta := ⟨r.put w s.kv, s.ms ++ r.mks s.kv, up s.cn r.wd⟩
def iter (f : Sta → Sta) : Nat → Sta → Sta
  | 0, s => s
  | n + 1, s => iter f n (f s)
def tick (s : Sta) : Sta := ⟨s.kv, s.ms, up s.cn "turns"⟩
def Fo.run (w : Nat) : Fo → Sta → Sta
  | .nil, s => s
  | .leaf r t, s => t.run w (r.run w s)
  | .turns n b t, s => t.run w (iter (fun s => b.run w (tick s)) n s)

/-! ### registers hold words -/
structure Wk (w : Nat) (kv : List (Key × V)) : Prop where
  nd : (kv.map (·.1)).Nodup
  ok : ∀ p ∈ kv, ∃ z i, p.1 = Sum.inr z ∧ IsReg z ∧ p.2 = .int i ∧ 0 ≤ i ∧ i < 2 ^ w
theorem valV_mem {kv : List (Key × V)} {k : Key} {v : V} (h : valV kv k = some v) : (k, v) ∈ kv := by
  unfold valV at h
  cases e : kv.find? (fun kv => decide (kv.1 = k)) with
  | none => rw [e] at h; cases h
  | some p =>
    rw [e] at h
    have h2 : p.2 = v := Option.some.inj h
    have h1 : p.1 = k := of_decide_eq_true (List.find?_some (p := fun kv : Key × V => decide (kv.1 = k)) e)
    have := List.mem_of_find?_eq_some e
    rw [← h1, ← h2]; exact this
theorem mem_valV {kv : List (Key × V)} (nd : (kv.map (·.1)).Nodup) {p : Key × V} (h : p ∈ kv) : valV kv p.1 = some p.2 := by
  induction kv with
  | nil => cases h
  | cons q r ih =>
    rw [List.map_cons, List.nodup_cons] at nd
    rcases List.mem_cons.mp h with rfl | h
    · exact valV_pos rfl
    · have : ¬ q.1 = p.1 := fun e => nd.1 (by rw [e]; exact List.mem_map_of_mem (f := (·.1)) h)
      rw [valV_neg this]; exact ih nd.2 h
theorem Wk.get {w : Nat} {kv : List (Key × V)} (h : Wk w kv) (z : Str) : (valV kv (Sum.inr z)).getD (.int 0) = .int (getI kv z) := by
  unfold getI
  cases e : valV kv (Sum.inr z) with
  | none => rfl
  | some v =>
    obtain ⟨_, i, _, _, h3, _⟩ := h.ok _ (valV_mem e)
    have h3 : v = .int i := h3
    subst h3; rfl
theorem two_pos (w : Nat) : (0 : Int) < 2 ^ w := Int.pow_pos (by decide)
theorem Wk.rng {w : Nat} {kv : List (Key × V)} (h : Wk w kv) (z : Str) : 0 ≤ getI kv z ∧ getI kv z < 2 ^ w := by
  unfold getI
  cases e : valV kv (Sum.inr z) with
  | none => exact ⟨Int.le_refl _, two_pos w⟩
  | some v =>
    obtain ⟨_, i, _, _, h3, h4⟩ := h.ok _ (valV_mem e)
    have h3 : v = .int i := h3
    subst h3; exact h4
theorem nd_put {kv : List (Key × V)} (nd : (kv.map (·.1)).Nodup) (k : Key) (v : V) : ((putK kv k v).map (·.1)).Nodup := by
  cases e : valV kv k with
  | none => exact nd_putK v nd e
  | some u =>
    have h1 : (kv.any fun kv => decide (kv.1 = k)) = true := by rw [valV_any, e]; rfl
    have h2 : (putK kv k v).map (·.1) = kv.map (·.1) := by
      unfold putK
      rw [if_pos h1, List.map_map]
      congr 1
      funext p
      show (if p.1 = k then (p.1, v) else p).1 = p.1
      split <;> rfl
    rw [h2]; exact nd
theorem mem_putK {kv : List (Key × V)} {k : Key} {v : V} {p : Key × V} (h : p ∈ putK kv k v) : p = (k, v) ∨ p ∈ kv := by
  unfold putK at h
  split at h
  · obtain ⟨q, hq, e⟩ := List.mem_map.mp h
    split at e
    · rename_i ek
      left; rw [← e, ek]
    · right; rw [← e]; exact hq
  · rcases List.mem_append.mp h with h | h
    · exact .inr h
    · left; simpa using h
theorem Wk.put {w : Nat} {kv : List (Key × V)} (h : Wk w kv) {g : Str} {i : Int} (hg : IsReg g) (h0 : 0 ≤ i) (h1 : i < 2 ^ w) : Wk w (putK kv (Sum.inr g) (.int i)) :=
  ⟨nd_put h.nd _ _, fun p hp => by
    rcases mem_putK hp with rfl | hp
    · exact ⟨g, i, rfl, hg, rfl, h0, h1⟩
    · exact h.ok p hp⟩
theorem nat_lt_of {a : Int} {w : Nat} (h : a < 2 ^ w) : a.toNat < 2 ^ w := by
  have h2 : ((2 ^ w : Nat) : Int) = (2 : Int) ^ w := by norm_cast
  have h3 : (0 : Nat) < 2 ^ w := Nat.two_pow_pos w
  omega
theorem PO.rng {w : Nat} {a b : Int} (ha : 0 ≤ a ∧ a < 2 ^ w) (hb : 0 ≤ b ∧ b < 2 ^ w) (hw : 1 ≤ w) (c : PO) : 0 ≤ c.f w a b ∧ c.f w a b < 2 ^ w := by
  have p := two_pos w
  have e : ((2 ^ w : Nat) : Int) = (2 : Int) ^ w := by norm_cast
  have na := nat_lt_of ha.2
  have nb := nat_lt_of hb.2
  cases c with
  | low => exact ⟨Int.emod_nonneg _ (by omega), Int.emod_lt_of_pos _ p⟩
  | high =>
    refine ⟨Int.ediv_nonneg (Int.mul_nonneg ha.1 hb.1) (by omega), ?_⟩
    refine Int.ediv_lt_of_lt_mul p ?_
    exact Int.lt_of_le_of_lt (Int.mul_le_mul_of_nonneg_right (Int.le_of_lt ha.2) hb.1) (Int.mul_lt_mul_of_pos_left hb.2 p)
  | and_ =>
    have h : Builtin.bitAnd a b = ((a.toNat &&& b.toNat : Nat) : Int) := by
      unfold Builtin.bitAnd; rw [decide_eq_true ha.1, decide_eq_true hb.1]
    show 0 ≤ Builtin.bitAnd a b ∧ _
    rw [show PO.f w a b .and_ = Builtin.bitAnd a b from rfl, h]
    have := Nat.and_lt_two_pow a.toNat nb
    omega
  | or_ =>
    rw [show PO.f w a b .or_ = Builtin.bitOr a b from rfl, bitOr_nn ha.1 hb.1]
    have := Nat.or_lt_two_pow na nb
    omega
  | unlike =>
    rw [show PO.f w a b .unlike = Builtin.bitXor a b from rfl, Bits.bitXor_pp ha.1 hb.1]
    have := Nat.xor_lt_two_pow na nb
    omega
  | under =>
    have h2 : (2 : Int) ^ 1 ≤ 2 ^ w := by
      have : (2 : Nat) ^ 1 ≤ 2 ^ w := Nat.pow_le_pow_right (by decide) hw
      omega
    show 0 ≤ (if a < b then 1 else 0 : Int) ∧ (if a < b then 1 else 0 : Int) < 2 ^ w
    split <;> omega
theorem one_lt_two {w : Nat} (hw : 1 ≤ w) : (1 : Int) < 2 ^ w := by
  have e : ((2 ^ w : Nat) : Int) = (2 : Int) ^ w := by norm_cast
  have : (2 : Nat) ^ 1 ≤ 2 ^ w := Nat.pow_le_pow_right (by decide) hw
  omega
theorem CO.rngv {w : Nat} {a b : Int} (c : CO) : 0 ≤ c.v w a b ∧ c.v w a b < 2 ^ w := by
  have p := two_pos w
  cases c <;> exact ⟨Int.emod_nonneg _ (by omega), Int.emod_lt_of_pos _ p⟩
theorem CO.rngc {w : Nat} {a b : Int} (hw : 1 ≤ w) (c : CO) : 0 ≤ c.c w a b ∧ c.c w a b < 2 ^ w := by
  have := one_lt_two hw
  cases c with
  | sum => show 0 ≤ (if 2 ^ w ≤ a + b then 1 else 0 : Int) ∧ (if 2 ^ w ≤ a + b then 1 else 0 : Int) < 2 ^ w; split <;> omega
  | gap => show 0 ≤ (if a < b then 1 else 0 : Int) ∧ (if a < b then 1 else 0 : Int) < 2 ^ w; split <;> omega
theorem SO.rng {w : Nat} {a k : Int} (ha : 0 ≤ a ∧ a < 2 ^ w) (c : SO) : 0 ≤ c.f w a k ∧ c.f w a k < 2 ^ w := by
  have p := two_pos w
  have pk := two_pos k.toNat
  cases c with
  | left => exact ⟨Int.emod_nonneg _ (by omega), Int.emod_lt_of_pos _ p⟩
  | right => exact ⟨Int.ediv_nonneg ha.1 (by omega), Int.lt_of_le_of_lt (Int.ediv_le_self _ ha.1) ha.2⟩
  | slide => exact ⟨Int.emod_nonneg _ (by omega), Int.emod_lt_of_pos _ p⟩
theorem Wk.step {w : Nat} (hw : 1 ≤ w) {kv : List (Key × V)} (h : Wk w kv) {r : Leaf} (g : r.Good w) : Wk w (r.put w kv) := by
  cases r with
  | set z b => exact h.put g.1 g.2.1 g.2.2
  | copy z o => exact h.put g.1 (h.rng o).1 (h.rng o).2
  | pair c z a b => exact h.put g.1 (c.rng (h.rng a) (h.rng b) hw).1 (c.rng (h.rng a) (h.rng b) hw).2
  | carry c z k a b =>
    have h1 := h.put (i := c.v w (getI kv a) (getI kv b)) g.1 c.rngv.1 c.rngv.2
    cases k with
    | none => exact h1
    | some y => exact h1.put (g.2.1 y rfl) (c.rngc hw).1 (c.rngc hw).2
  | shift c z a k => exact h.put g.1 (c.rng (h.rng a)).1 (c.rng (h.rng a)).2
  | pick z y a b =>
    refine h.put g.1 ?_ ?_
    · split
      · exact (h.rng b).1
      · exact (h.rng a).1
    · split
      · exact (h.rng b).2
      · exact (h.rng a).2
  | mark ln m y => exact h
theorem put_len (w : Nat) (kv : List (Key × V)) (r : Leaf) : (r.put w kv).length ≤ kv.length + 2 := by
  cases r with
  | mark ln m y => exact Nat.le_add_right _ _
  | carry c z k a b =>
    cases k with
    | none => exact Nat.le_trans (length_putK _ _ _) (by omega)
    | some y => exact Nat.le_trans (length_putK _ _ _) (by have := length_putK kv (Sum.inr z) (V.int (c.v w (getI kv a) (getI kv b))); omega)
  | _ => exact Nat.le_trans (length_putK _ _ _) (by omega)
theorem mks_len (kv : List (Key × V)) (r : Leaf) : (r.mks kv).length ≤ 1 := by
  cases r with
  | mark ln m y => show (if getI kv y = 0 then [] else [(ln, m)] : List (Int × Str)).length ≤ 1; split <;> simp
  | _ => exact Nat.zero_le _
end K73

set_option maxHeartbeats 4000000
/-! small defs: words, prices -/
namespace K73
open PySem PySem.Spec PyProof.Rows L2
open C8 (Cal Mak Met pe_c pe_mk pe_mt pe_mt0 pe_gc)

section
variable {X : Cx} {k j : Nat} {x : Str} {sp : Sp} {dvs : List V} {p pos : Pos}
/-- f() -/
theorem pe_c0 (c : Cal X.prog X.w X.K X.mg X.base k x sp dvs) (hr : Room j X.A) (hk : k ≤ j) (hg : Gl X x) (hdb : (x == ("__debug__" : Str)) = false := by decide) : PE X (.Call (.Name x p) [] [] pos) (tCall sp dvs E0 tNil) := by
  obtain ⟨f, fd, ps, ds, F, hm, kp, b, d⟩ := c.ex
  exact pe_call0 F (hr.mono hk) hg hm kp b d pass0 hdb
end
theorem iteD {c A B : Prop} [Decidable c] (h1 : c → A) (h2 : ¬ c → B) : if decide c = true then A else B := by
  by_cases h : c
  · rw [decide_eq_true h]; exact iteT (h1 h)
  · rw [decide_eq_false h]; exact iteF (h2 h)
theorem iteND {c A B : Prop} [Decidable c] (h1 : ¬ c → A) (h2 : c → B) : if (!decide c) = true then A else B := by
  by_cases h : c
  · rw [decide_eq_true h]; exact iteF (h2 h)
  · rw [decide_eq_false h]; exact iteT (h1 h)

theorem iteDt {c A B : Prop} [Decidable c] (hc : c) (h : A) : if decide c = true then A else B := by
  rw [decide_eq_true hc]; exact iteT h
theorem iteDf {c A B : Prop} [Decidable c] (hc : ¬ c) (h : B) : if decide c = true then A else B := by
  rw [decide_eq_false hc]; exact iteF h
theorem iteNt {c A B : Prop} [Decidable c] (hc : ¬ c) (h : A) : if (!decide c) = true then A else B := by
  rw [decide_eq_false hc]; exact iteT h
theorem iteNf {c A B : Prop} [Decidable c] (hc : c) (h : B) : if (!decide c) = true then A else B := by
  rw [decide_eq_true hc]; exact iteF h
theorem le_sz {n : Nat} (h : n ≤ 1000) : n ≤ sizeLine := Nat.le_trans h (by decide)
theorem kit_ss {K : PySem.W.Frag} : PySem.W.kitOne K (.type "str") (.type "str") = some true := kit_ty (by decide +kernel)
theorem kit_ll {K : PySem.W.Frag} : PySem.W.kitOne K (.type "list") (.type "list") = some true := kit_ty (by decide +kernel)
theorem kit_dd {K : PySem.W.Frag} : PySem.W.kitOne K (.type "dict") (.type "dict") = some true := kit_ty (by decide +kernel)
theorem kit_tt {K : PySem.W.Frag} : PySem.W.kitOne K (.type "tuple") (.type "tuple") = some true := kit_ty (by decide +kernel)
theorem same_new {H : Hp} {p : Addr} {o : HO} (h : H p = none) : Same H (upd H p o) := fun a u e => by
  rw [upd_ne (ne_of_none e h)]
  exact e
theorem same_mut {H H' : Hp} {p : Addr} {o : HO} (s : Same H H') (h : H p = none) : Same H (upd H' p o) := fun a u e => by
  rw [upd_ne (ne_of_none e h)]
  exact s a u e
local macro_rules | `(tactic| walk_at "rd") => `(tactic| repeat (first | refine ⟨_, rfl, ?_⟩ | refine ⟨_, _, rfl, rfl, ?_⟩ | refine ⟨_, rfl, rfl, ?_⟩ | refine ⟨_, _, rfl, ?_⟩ | refine ⟨_, _, _, rfl, ?_⟩ | refine ⟨_, _, _, _, rfl, ?_⟩ | refine And.intro rfl ?_ | refine And.intro trivial ?_ | refine And.intro (le_sz (Nat.le_of_ble_eq_true rfl)) ?_ | refine And.intro (le_sz (by omega)) ?_ | refine iteT ?_ | refine iteF ?_ | refine iteDt (by omega) ?_ | refine iteDf (by omega) ?_ | refine iteNt (by omega) ?_ | refine iteNf (by omega) ?_ | refine And.intro (by omega) ?_ | refine ⟨_, _, _, _, _, rfl, .ty _, .base (.str _), kit_ss, ?_⟩ | refine ⟨_, _, _, _, _, rfl, .ty _, .base (.lst (by assumption)), kit_ll, ?_⟩ | refine ⟨_, _, _, _, _, rfl, .ty _, .base (.dK (by assumption)), kit_dd, ?_⟩ | refine ⟨_, _, _, _, _, rfl, .ty _, .base (.tup (by assumption)), kit_tt, ?_⟩))

section
variable {P : Program} {w : World} {K : PySem.W.Frag} {mg : Str → Option Value} {base : Heap}

/-! ### is_whole -/
def isInt : V → Bool
  | .int _ => true
  | _ => false
def PlainT (H : Hp) : V → Prop
  | .int _ => True
  | .bl _ => True
  | .non => True
  | .str _ => True
  | .ref a => ∃ xs, H a = some (.lst xs)
  | _ => False
def tyOf : V → String
  | .int _ => "int"
  | .bl _ => "bool"
  | .non => "NoneType"
  | .str _ => "str"
  | _ => "list"
theorem PlainT.ty {H : Hp} {x : V} (h : PlainT H x) : TyX K H x (.type (tyOf x)) := by
  cases x with
  | int i => exact .base (.int i)
  | bl i => exact .base (.bl i)
  | non => exact .base .non
  | str i => exact .base (.str i)
  | ref a =>
    obtain ⟨xs, e⟩ := h
    exact .base (.lst e)
  | _ => exact h.elim
def kI (x : V) : Bool := match x with
  | .int _ => true
  | .bl _ => true
  | _ => false
def kB (x : V) : Bool := match x with
  | .bl _ => true
  | _ => false
theorem kit_int {H : Hp} {x : V} (h : PlainT H x) : PySem.W.kitOne K (.type (tyOf x)) (.type "int") = some (kI x) := by
  cases x with
  | int i => exact kit_ty (a := "int") (r := true) (by decide +kernel)
  | bl i => exact kit_ty (a := "bool") (r := true) (by decide +kernel)
  | non => exact kit_ty (a := "NoneType") (r := false) (by decide +kernel)
  | str i => exact kit_ty (a := "str") (r := false) (by decide +kernel)
  | ref a => exact kit_ty (a := "list") (r := false) (by decide +kernel)
  | _ => exact h.elim
theorem kit_bool {H : Hp} {x : V} (h : PlainT H x) : PySem.W.kitOne K (.type (tyOf x)) (.type "bool") = some (kB x) := by
  cases x with
  | int i => exact kit_ty (a := "int") (r := false) (by decide +kernel)
  | bl i => exact kit_ty (a := "bool") (r := true) (by decide +kernel)
  | non => exact kit_ty (a := "NoneType") (r := false) (by decide +kernel)
  | str i => exact kit_ty (a := "str") (r := false) (by decide +kernel)
  | ref a => exact kit_ty (a := "list") (r := false) (by decide +kernel)
  | _ => exact h.elim
def spWhole : Sp := fun vs H Q _ => ∃ x, vs = [x] ∧ PlainT H x ∧ Q (.bl (isInt x)) H
theorem sc_f_is_whole : FnScope ["thing"] ["thing"] (defScope sf_is_whole) := ⟨rfl, rfl, rfl, by decide +kernel, rfl, by decide +kernel, by decide +kernel⟩
theorem cal_f_is_whole (T : Txt K mg) : Cal P w K mg base (1) "is_whole" (spWhole) [] := by
  obtain ⟨fd, F0⟩ := T.c.d.def_ 1 (d := df_is_whole) rfl
  have F : FunD K "is_whole" "is_whole" (defArgs sf_is_whole) (defBody sf_is_whole) (defScope sf_is_whole) [] [] (He.fAd K df_is_whole.at_) fd := F0
  have G : FnOk P w K mg base CX0 1 (He.fAd K df_is_whole.at_) fd ["thing"] (spWhole) := by
    refine F.ok (CX := CX0) sc_f_is_whole (fun vs H Q E h => ?_) (fun cdv A outer s H vs Q E hr h => ⟨_, PSs.nox (by exact (pss_one (ps_ret (pe_and (pe_callB call_isi rfl T.f_isinstance (by decide +kernel) (pa_cons (pv 0) (pa_cons (pe_bltn (v := .ty "int") rfl T.f_int (by decide +kernel) rfl) pa_nil))) (pe_one (pe_not (pe_callB call_isi rfl T.f_isinstance (by decide +kernel) (pa_cons (pv 0) (pa_cons (pe_bltn (v := .ty "bool") rfl T.f_bool (by decide +kernel) rfl) pa_nil))))))))), ?_⟩)
    · first
      | (obtain ⟨e, _⟩ := h; subst e; rfl)
      | (obtain ⟨_, e, _⟩ := h; subst e; rfl)
      | (obtain ⟨_, _, e, _⟩ := h; subst e; rfl)
      | (obtain ⟨_, _, _, e, _⟩ := h; subst e; rfl)
      | (obtain ⟨_, _, _, _, e, _⟩ := h; subst e; rfl)
      | (obtain ⟨_, _, _, _, _, e, _⟩ := h; subst e; rfl)
      | (obtain ⟨_, _, _, _, _, _, e, _⟩ := h; subst e; rfl)
      | (obtain ⟨_, _, _, _, _, _, _, e, _⟩ := h; subst e; rfl)
      | (obtain ⟨_, _, _, _, _, _, _, _, e, _⟩ := h; subst e; rfl)
      | (obtain ⟨_, _, _, _, _, _, _, _, _, e, _⟩ := h; subst e; rfl)
      | (obtain ⟨_, _, _, _, _, _, _, _, _, _, e, _⟩ := h; subst e; rfl)
      | (obtain ⟨_, _, _, _, _, _, _, _, _, _, _, e, _⟩ := h; subst e; rfl)
      | (obtain ⟨_, _, _, _, _, _, _, _, _, _, _, _, e, _⟩ := h; subst e; rfl)
      | (obtain ⟨_, _, _, _, _, _, _, _, _, _, _, _, _, e, _⟩ := h; subst e; rfl)
    · skip
      obtain ⟨x, rfl, hx, k⟩ := h
      refine ⟨_, rfl, ⟨x, _, _, _, kI x, rfl, .ty "int", hx.ty, kit_int hx, kI x, rfl, ?_⟩⟩
      cases x with
      | bl b => exact iteT ⟨_, rfl, _, _, _, _, _, rfl, .ty "bool", hx.ty, kit_bool hx, _, rfl, k⟩
      | int i => exact iteT ⟨_, rfl, _, _, _, _, _, rfl, .ty "bool", hx.ty, kit_bool hx, _, rfl, k⟩
      | non => exact iteF k
      | str z => exact iteF k
      | ref a => exact iteF k
      | _ => exact hx.elim
  exact ⟨_, fd, _, [], G, T.g_is_whole, F.kp, F.bindsN (fun _ _ _ _ _ _ us hl => match us, hl with | [_], _ => rfl), .nil⟩
def spNeedW : Sp := fun vs H Q _ => ∃ w : Nat, vs = [.int w] ∧ 4 ≤ w ∧ w ≤ 32 ∧ Q .non H
theorem sc_f_need_width : FnScope ["width"] ["width"] (defScope sf_need_width) := ⟨rfl, rfl, rfl, by decide +kernel, rfl, by decide +kernel, by decide +kernel⟩
theorem cal_f_need_width (T : Txt K mg) : Cal P w K mg base (2) "need_width" (spNeedW) [] := by
  obtain ⟨fd, F0⟩ := T.c.d.def_ 2 (d := df_need_width) rfl
  have F : FunD K "need_width" "need_width" (defArgs sf_need_width) (defBody sf_need_width) (defScope sf_need_width) [] [] (He.fAd K df_need_width.at_) fd := F0
  have G : FnOk P w K mg base CX0 2 (He.fAd K df_need_width.at_) fd ["width"] (spNeedW) := by
    refine F.ok (CX := CX0) sc_f_need_width (fun vs H Q E h => ?_) (fun cdv A outer s H vs Q E hr h => ⟨_, PSs.nox (by exact (pss_one (ps_if (PW.pt (pw_or (pt_not (pt_val (pe_c (cal_f_is_whole T) hr (by decide) rfl (pa_cons (pv 0) pa_nil)))) (pw_or1 (pt_not (pt_chain op_le op_le (pe_gc rfl T.v_LEAST_WIDTH) (pv 0) (pe_gc rfl T.v_GREATEST_WIDTH)))))) (pss_one ps_never) pss_nil))), ?_⟩)
    · first
      | (obtain ⟨e, _⟩ := h; subst e; rfl)
      | (obtain ⟨_, e, _⟩ := h; subst e; rfl)
      | (obtain ⟨_, _, e, _⟩ := h; subst e; rfl)
      | (obtain ⟨_, _, _, e, _⟩ := h; subst e; rfl)
      | (obtain ⟨_, _, _, _, e, _⟩ := h; subst e; rfl)
      | (obtain ⟨_, _, _, _, _, e, _⟩ := h; subst e; rfl)
      | (obtain ⟨_, _, _, _, _, _, e, _⟩ := h; subst e; rfl)
      | (obtain ⟨_, _, _, _, _, _, _, e, _⟩ := h; subst e; rfl)
      | (obtain ⟨_, _, _, _, _, _, _, _, e, _⟩ := h; subst e; rfl)
      | (obtain ⟨_, _, _, _, _, _, _, _, _, e, _⟩ := h; subst e; rfl)
      | (obtain ⟨_, _, _, _, _, _, _, _, _, _, e, _⟩ := h; subst e; rfl)
      | (obtain ⟨_, _, _, _, _, _, _, _, _, _, _, e, _⟩ := h; subst e; rfl)
      | (obtain ⟨_, _, _, _, _, _, _, _, _, _, _, _, e, _⟩ := h; subst e; rfl)
      | (obtain ⟨_, _, _, _, _, _, _, _, _, _, _, _, _, e, _⟩ := h; subst e; rfl)
    · skip
      obtain ⟨w, rfl, h4, h32, k⟩ := h
      walk_at "rd"
      exact k
  exact ⟨_, fd, _, [], G, T.g_need_width, F.kp, F.bindsN (fun _ _ _ _ _ _ us hl => match us, hl with | [_], _ => rfl), .nil⟩
def spCut : Sp := fun vs H Q _ => ∃ (w : Nat) (n : Int), vs = [.int w, .int n] ∧ w ≤ 32 ∧ Q (.int (n % 2 ^ w)) H
theorem sc_f_cut : FnScope ["width", "number"] ["width", "number"] (defScope sf_cut) := ⟨rfl, rfl, rfl, by decide +kernel, rfl, by decide +kernel, by decide +kernel⟩
theorem cal_f_cut (T : Txt K mg) : Cal P w K mg base (1) "cut" (spCut) [] := by
  obtain ⟨fd, F0⟩ := T.c.d.def_ 3 (d := df_cut) rfl
  have F : FunD K "cut" "cut" (defArgs sf_cut) (defBody sf_cut) (defScope sf_cut) [] [] (He.fAd K df_cut.at_) fd := F0
  have G : FnOk P w K mg base CX0 1 (He.fAd K df_cut.at_) fd ["width", "number"] (spCut) := by
    refine F.ok (CX := CX0) sc_f_cut (fun vs H Q E h => ?_) (fun cdv A outer s H vs Q E hr h => ⟨_, PSs.nox (by exact (pss_one (ps_ret (pe_op op_andM (pv 1) (pe_op op_sub (pe_op op_oneShl pe_int (pv 0)) pe_int))))), ?_⟩)
    · first
      | (obtain ⟨e, _⟩ := h; subst e; rfl)
      | (obtain ⟨_, e, _⟩ := h; subst e; rfl)
      | (obtain ⟨_, _, e, _⟩ := h; subst e; rfl)
      | (obtain ⟨_, _, _, e, _⟩ := h; subst e; rfl)
      | (obtain ⟨_, _, _, _, e, _⟩ := h; subst e; rfl)
      | (obtain ⟨_, _, _, _, _, e, _⟩ := h; subst e; rfl)
      | (obtain ⟨_, _, _, _, _, _, e, _⟩ := h; subst e; rfl)
      | (obtain ⟨_, _, _, _, _, _, _, e, _⟩ := h; subst e; rfl)
      | (obtain ⟨_, _, _, _, _, _, _, _, e, _⟩ := h; subst e; rfl)
      | (obtain ⟨_, _, _, _, _, _, _, _, _, e, _⟩ := h; subst e; rfl)
      | (obtain ⟨_, _, _, _, _, _, _, _, _, _, e, _⟩ := h; subst e; rfl)
      | (obtain ⟨_, _, _, _, _, _, _, _, _, _, _, e, _⟩ := h; subst e; rfl)
      | (obtain ⟨_, _, _, _, _, _, _, _, _, _, _, _, e, _⟩ := h; subst e; rfl)
      | (obtain ⟨_, _, _, _, _, _, _, _, _, _, _, _, _, e, _⟩ := h; subst e; rfl)
    · skip
      obtain ⟨w, n, rfl, h32, k⟩ := h
      walk_at "rd"
      exact k
  exact ⟨_, fd, _, [], G, T.g_cut, F.kp, F.bindsN (fun _ _ _ _ _ _ us hl => match us, hl with | [_, _], _ => rfl), .nil⟩
/-- a def that makes a pair of ints (new) -/
def spCarry (c : CO) : Sp := fun vs H Q _ => ∃ (w : Nat) (a b : Int), vs = [.int w, .int a, .int b] ∧ (4 ≤ w ∧ w ≤ 32 ∧ 0 ≤ a ∧ a < 2 ^ w ∧ 0 ≤ b ∧ b < 2 ^ w) ∧ ∀ p, H p = none → Q (.ref p) (upd H p (.tup [.int (c.v w a b), .int (c.c w a b)]))
theorem sum_carry {w : Nat} {a b : Int} (h : 0 ≤ a ∧ a < 2 ^ w ∧ 0 ≤ b ∧ b < 2 ^ w) : (a + b) / 2 ^ w = if 2 ^ w ≤ a + b then 1 else 0 := by
  have p := two_pos w
  split
  · rename_i h1
    have : (a + b) / 2 ^ w < 2 := Int.ediv_lt_of_lt_mul p (by omega)
    have : 1 ≤ (a + b) / 2 ^ w := Int.le_ediv_of_mul_le p (by omega)
    omega
  · exact Int.ediv_eq_zero_of_lt (by omega) (by omega)
theorem sc_f_sum_of : FnScope ["width", "a", "b"] ["width", "a", "b"] (defScope sf_sum_of) := ⟨rfl, rfl, rfl, by decide +kernel, rfl, by decide +kernel, by decide +kernel⟩
theorem cal_f_sum_of (T : Txt K mg) : Cal P w K mg base (3) "sum_of" (spCarry .sum) [] := by
  obtain ⟨fd, F0⟩ := T.c.d.def_ 4 (d := df_sum_of) rfl
  have F : FunD K "sum_of" "sum_of" (defArgs sf_sum_of) (defBody sf_sum_of) (defScope sf_sum_of) [] [] (He.fAd K df_sum_of.at_) fd := F0
  have G : FnOk P w K mg base CX0 3 (He.fAd K df_sum_of.at_) fd ["width", "a", "b"] (spCarry .sum) := by
    refine F.ok (CX := CX0) sc_f_sum_of (fun vs H Q E h => ?_) (fun cdv A outer s H vs Q E hr h => ⟨_, PSs.nox (by exact (pss_cons (ps_expr (pe_c (cal_f_need_width T) hr (by decide) rfl (pa_cons (pv 0) pa_nil)))
      (pss_one (ps_ret (pe_tup (pa_cons (pe_c (cal_f_cut T) hr (by decide) rfl (pa_cons (pv 0) (pa_cons (pe_op op_add (pv 1) (pv 2)) pa_nil))) (pa_cons (pe_op op_shrN (pe_op op_add (pv 1) (pv 2)) (pv 0)) pa_nil))))))), ?_⟩)
    · first
      | (obtain ⟨e, _⟩ := h; subst e; rfl)
      | (obtain ⟨_, e, _⟩ := h; subst e; rfl)
      | (obtain ⟨_, _, e, _⟩ := h; subst e; rfl)
      | (obtain ⟨_, _, _, e, _⟩ := h; subst e; rfl)
      | (obtain ⟨_, _, _, _, e, _⟩ := h; subst e; rfl)
      | (obtain ⟨_, _, _, _, _, e, _⟩ := h; subst e; rfl)
      | (obtain ⟨_, _, _, _, _, _, e, _⟩ := h; subst e; rfl)
      | (obtain ⟨_, _, _, _, _, _, _, e, _⟩ := h; subst e; rfl)
      | (obtain ⟨_, _, _, _, _, _, _, _, e, _⟩ := h; subst e; rfl)
      | (obtain ⟨_, _, _, _, _, _, _, _, _, e, _⟩ := h; subst e; rfl)
      | (obtain ⟨_, _, _, _, _, _, _, _, _, _, e, _⟩ := h; subst e; rfl)
      | (obtain ⟨_, _, _, _, _, _, _, _, _, _, _, e, _⟩ := h; subst e; rfl)
      | (obtain ⟨_, _, _, _, _, _, _, _, _, _, _, _, e, _⟩ := h; subst e; rfl)
      | (obtain ⟨_, _, _, _, _, _, _, _, _, _, _, _, _, e, _⟩ := h; subst e; rfl)
    · skip
      obtain ⟨w, a, b, rfl, ⟨h4, h32, h⟩, k⟩ := h
      walk_at "rd"
      rw [sum_carry h]
      exact k
  exact ⟨_, fd, _, [], G, T.g_sum_of, F.kp, F.bindsN (fun _ _ _ _ _ _ us hl => match us, hl with | [_, _, _], _ => rfl), .nil⟩
theorem b2i_eq {c : Prop} [Decidable c] : (if decide c = true then 1 else 0 : Int) = if c then 1 else 0 := by
  by_cases h : c <;> simp [h]
theorem sc_f_gap_of : FnScope ["width", "a", "b"] ["width", "a", "b"] (defScope sf_gap_of) := ⟨rfl, rfl, rfl, by decide +kernel, rfl, by decide +kernel, by decide +kernel⟩
theorem cal_f_gap_of (T : Txt K mg) : Cal P w K mg base (3) "gap_of" (spCarry .gap) [] := by
  obtain ⟨fd, F0⟩ := T.c.d.def_ 5 (d := df_gap_of) rfl
  have F : FunD K "gap_of" "gap_of" (defArgs sf_gap_of) (defBody sf_gap_of) (defScope sf_gap_of) [] [] (He.fAd K df_gap_of.at_) fd := F0
  have G : FnOk P w K mg base CX0 3 (He.fAd K df_gap_of.at_) fd ["width", "a", "b"] (spCarry .gap) := by
    refine F.ok (CX := CX0) sc_f_gap_of (fun vs H Q E h => ?_) (fun cdv A outer s H vs Q E hr h => ⟨_, PSs.nox (by exact (pss_cons (ps_expr (pe_c (cal_f_need_width T) hr (by decide) rfl (pa_cons (pv 0) pa_nil)))
      (pss_one (ps_ret (pe_tup (pa_cons (pe_c (cal_f_cut T) hr (by decide) rfl (pa_cons (pv 0) (pa_cons (pe_op op_sub (pv 1) (pv 2)) pa_nil))) (pa_cons (pe_callTy call_int1 rfl T.f_int (by decide +kernel) (pa_cons (pe_cmpR op_lt (pv 1) (pv 2) (nomark _)) pa_nil)) pa_nil))))))), ?_⟩)
    · first
      | (obtain ⟨e, _⟩ := h; subst e; rfl)
      | (obtain ⟨_, e, _⟩ := h; subst e; rfl)
      | (obtain ⟨_, _, e, _⟩ := h; subst e; rfl)
      | (obtain ⟨_, _, _, e, _⟩ := h; subst e; rfl)
      | (obtain ⟨_, _, _, _, e, _⟩ := h; subst e; rfl)
      | (obtain ⟨_, _, _, _, _, e, _⟩ := h; subst e; rfl)
      | (obtain ⟨_, _, _, _, _, _, e, _⟩ := h; subst e; rfl)
      | (obtain ⟨_, _, _, _, _, _, _, e, _⟩ := h; subst e; rfl)
      | (obtain ⟨_, _, _, _, _, _, _, _, e, _⟩ := h; subst e; rfl)
      | (obtain ⟨_, _, _, _, _, _, _, _, _, e, _⟩ := h; subst e; rfl)
      | (obtain ⟨_, _, _, _, _, _, _, _, _, _, e, _⟩ := h; subst e; rfl)
      | (obtain ⟨_, _, _, _, _, _, _, _, _, _, _, e, _⟩ := h; subst e; rfl)
      | (obtain ⟨_, _, _, _, _, _, _, _, _, _, _, _, e, _⟩ := h; subst e; rfl)
      | (obtain ⟨_, _, _, _, _, _, _, _, _, _, _, _, _, e, _⟩ := h; subst e; rfl)
    · skip
      obtain ⟨w, a, b, rfl, ⟨h4, h32, h⟩, k⟩ := h
      walk_at "rd"
      refine Or.inr ⟨_, rfl, ?_⟩
      walk_at "rd"
      rw [b2i_eq]
      exact k
  exact ⟨_, fd, _, [], G, T.g_gap_of, F.kp, F.bindsN (fun _ _ _ _ _ _ us hl => match us, hl with | [_, _, _], _ => rfl), .nil⟩
/-- a def of two words that tells a word -/
def spPO (c : PO) : Sp := fun vs H Q _ => ∃ (w : Nat) (a b : Int), vs = [.int w, .int a, .int b] ∧ (4 ≤ w ∧ w ≤ 32 ∧ 0 ≤ a ∧ a < 2 ^ w ∧ 0 ≤ b ∧ b < 2 ^ w) ∧ Q (.int (c.f w a b)) H
theorem lt64 {w : Nat} {a : Int} (h32 : w ≤ 32) (h : a < 2 ^ w) : a < 2 ^ 64 := by
  have : (2 : Nat) ^ w ≤ 2 ^ 64 := Nat.pow_le_pow_right (by decide) (by omega)
  have e : ((2 ^ w : Nat) : Int) = (2 : Int) ^ w := by norm_cast
  have e2 : ((2 ^ 64 : Nat) : Int) = (2 : Int) ^ 64 := by norm_cast
  omega
theorem sc_f_low_product : FnScope ["width", "a", "b"] ["width", "a", "b"] (defScope sf_low_product) := ⟨rfl, rfl, rfl, by decide +kernel, rfl, by decide +kernel, by decide +kernel⟩
theorem cal_f_low_product (T : Txt K mg) : Cal P w K mg base (3) "low_product" (spPO .low) [] := by
  obtain ⟨fd, F0⟩ := T.c.d.def_ 6 (d := df_low_product) rfl
  have F : FunD K "low_product" "low_product" (defArgs sf_low_product) (defBody sf_low_product) (defScope sf_low_product) [] [] (He.fAd K df_low_product.at_) fd := F0
  have G : FnOk P w K mg base CX0 3 (He.fAd K df_low_product.at_) fd ["width", "a", "b"] (spPO .low) := by
    refine F.ok (CX := CX0) sc_f_low_product (fun vs H Q E h => ?_) (fun cdv A outer s H vs Q E hr h => ⟨_, PSs.nox (by exact (pss_cons (ps_expr (pe_c (cal_f_need_width T) hr (by decide) rfl (pa_cons (pv 0) pa_nil)))
      (pss_one (ps_ret (pe_c (cal_f_cut T) hr (by decide) rfl (pa_cons (pv 0) (pa_cons (pe_op op_mul (pv 1) (pv 2)) pa_nil))))))), ?_⟩)
    · first
      | (obtain ⟨e, _⟩ := h; subst e; rfl)
      | (obtain ⟨_, e, _⟩ := h; subst e; rfl)
      | (obtain ⟨_, _, e, _⟩ := h; subst e; rfl)
      | (obtain ⟨_, _, _, e, _⟩ := h; subst e; rfl)
      | (obtain ⟨_, _, _, _, e, _⟩ := h; subst e; rfl)
      | (obtain ⟨_, _, _, _, _, e, _⟩ := h; subst e; rfl)
      | (obtain ⟨_, _, _, _, _, _, e, _⟩ := h; subst e; rfl)
      | (obtain ⟨_, _, _, _, _, _, _, e, _⟩ := h; subst e; rfl)
      | (obtain ⟨_, _, _, _, _, _, _, _, e, _⟩ := h; subst e; rfl)
      | (obtain ⟨_, _, _, _, _, _, _, _, _, e, _⟩ := h; subst e; rfl)
      | (obtain ⟨_, _, _, _, _, _, _, _, _, _, e, _⟩ := h; subst e; rfl)
      | (obtain ⟨_, _, _, _, _, _, _, _, _, _, _, e, _⟩ := h; subst e; rfl)
      | (obtain ⟨_, _, _, _, _, _, _, _, _, _, _, _, e, _⟩ := h; subst e; rfl)
      | (obtain ⟨_, _, _, _, _, _, _, _, _, _, _, _, _, e, _⟩ := h; subst e; rfl)
    · skip
      obtain ⟨w, a, b, rfl, ⟨h4, h32, h⟩, k⟩ := h
      walk_at "rd"
      refine ⟨.inl ⟨by omega, lt64 h32 h.2.1⟩, ?_⟩
      walk_at "rd"
      exact k
  exact ⟨_, fd, _, [], G, T.g_low_product, F.kp, F.bindsN (fun _ _ _ _ _ _ us hl => match us, hl with | [_, _, _], _ => rfl), .nil⟩
theorem sc_f_high_product : FnScope ["width", "a", "b"] ["width", "a", "b"] (defScope sf_high_product) := ⟨rfl, rfl, rfl, by decide +kernel, rfl, by decide +kernel, by decide +kernel⟩
theorem cal_f_high_product (T : Txt K mg) : Cal P w K mg base (3) "high_product" (spPO .high) [] := by
  obtain ⟨fd, F0⟩ := T.c.d.def_ 7 (d := df_high_product) rfl
  have F : FunD K "high_product" "high_product" (defArgs sf_high_product) (defBody sf_high_product) (defScope sf_high_product) [] [] (He.fAd K df_high_product.at_) fd := F0
  have G : FnOk P w K mg base CX0 3 (He.fAd K df_high_product.at_) fd ["width", "a", "b"] (spPO .high) := by
    refine F.ok (CX := CX0) sc_f_high_product (fun vs H Q E h => ?_) (fun cdv A outer s H vs Q E hr h => ⟨_, PSs.nox (by exact (pss_cons (ps_expr (pe_c (cal_f_need_width T) hr (by decide) rfl (pa_cons (pv 0) pa_nil)))
      (pss_one (ps_ret (pe_op op_shrN (pe_op op_mul (pv 1) (pv 2)) (pv 0)))))), ?_⟩)
    · first
      | (obtain ⟨e, _⟩ := h; subst e; rfl)
      | (obtain ⟨_, e, _⟩ := h; subst e; rfl)
      | (obtain ⟨_, _, e, _⟩ := h; subst e; rfl)
      | (obtain ⟨_, _, _, e, _⟩ := h; subst e; rfl)
      | (obtain ⟨_, _, _, _, e, _⟩ := h; subst e; rfl)
      | (obtain ⟨_, _, _, _, _, e, _⟩ := h; subst e; rfl)
      | (obtain ⟨_, _, _, _, _, _, e, _⟩ := h; subst e; rfl)
      | (obtain ⟨_, _, _, _, _, _, _, e, _⟩ := h; subst e; rfl)
      | (obtain ⟨_, _, _, _, _, _, _, _, e, _⟩ := h; subst e; rfl)
      | (obtain ⟨_, _, _, _, _, _, _, _, _, e, _⟩ := h; subst e; rfl)
      | (obtain ⟨_, _, _, _, _, _, _, _, _, _, e, _⟩ := h; subst e; rfl)
      | (obtain ⟨_, _, _, _, _, _, _, _, _, _, _, e, _⟩ := h; subst e; rfl)
      | (obtain ⟨_, _, _, _, _, _, _, _, _, _, _, _, e, _⟩ := h; subst e; rfl)
      | (obtain ⟨_, _, _, _, _, _, _, _, _, _, _, _, _, e, _⟩ := h; subst e; rfl)
    · skip
      obtain ⟨w, a, b, rfl, ⟨h4, h32, h⟩, k⟩ := h
      walk_at "rd"
      refine ⟨.inl ⟨by omega, lt64 h32 h.2.1⟩, ?_⟩
      walk_at "rd"
      exact k
  exact ⟨_, fd, _, [], G, T.g_high_product, F.kp, F.bindsN (fun _ _ _ _ _ _ us hl => match us, hl with | [_, _, _], _ => rfl), .nil⟩
def spSO (c : SO) : Sp := fun vs H Q _ => ∃ (w : Nat) (a j : Int), vs = [.int w, .int a, .int j] ∧ (4 ≤ w ∧ w ≤ 32 ∧ 0 ≤ a ∧ a < 2 ^ w ∧ 0 ≤ j ∧ j < w) ∧ Q (.int (c.f w a j)) H
theorem sc_f_left : FnScope ["width", "a", "k"] ["width", "a", "k"] (defScope sf_left) := ⟨rfl, rfl, rfl, by decide +kernel, rfl, by decide +kernel, by decide +kernel⟩
theorem cal_f_left (T : Txt K mg) : Cal P w K mg base (3) "left" (spSO .left) [] := by
  obtain ⟨fd, F0⟩ := T.c.d.def_ 8 (d := df_left) rfl
  have F : FunD K "left" "left" (defArgs sf_left) (defBody sf_left) (defScope sf_left) [] [] (He.fAd K df_left.at_) fd := F0
  have G : FnOk P w K mg base CX0 3 (He.fAd K df_left.at_) fd ["width", "a", "k"] (spSO .left) := by
    refine F.ok (CX := CX0) sc_f_left (fun vs H Q E h => ?_) (fun cdv A outer s H vs Q E hr h => ⟨_, PSs.nox (by exact (pss_cons (ps_expr (pe_c (cal_f_need_width T) hr (by decide) rfl (pa_cons (pv 0) pa_nil)))
      (pss_one (ps_ret (pe_c (cal_f_cut T) hr (by decide) rfl (pa_cons (pv 0) (pa_cons (pe_op op_shl (pv 1) (pv 2)) pa_nil))))))), ?_⟩)
    · first
      | (obtain ⟨e, _⟩ := h; subst e; rfl)
      | (obtain ⟨_, e, _⟩ := h; subst e; rfl)
      | (obtain ⟨_, _, e, _⟩ := h; subst e; rfl)
      | (obtain ⟨_, _, _, e, _⟩ := h; subst e; rfl)
      | (obtain ⟨_, _, _, _, e, _⟩ := h; subst e; rfl)
      | (obtain ⟨_, _, _, _, _, e, _⟩ := h; subst e; rfl)
      | (obtain ⟨_, _, _, _, _, _, e, _⟩ := h; subst e; rfl)
      | (obtain ⟨_, _, _, _, _, _, _, e, _⟩ := h; subst e; rfl)
      | (obtain ⟨_, _, _, _, _, _, _, _, e, _⟩ := h; subst e; rfl)
      | (obtain ⟨_, _, _, _, _, _, _, _, _, e, _⟩ := h; subst e; rfl)
      | (obtain ⟨_, _, _, _, _, _, _, _, _, _, e, _⟩ := h; subst e; rfl)
      | (obtain ⟨_, _, _, _, _, _, _, _, _, _, _, e, _⟩ := h; subst e; rfl)
      | (obtain ⟨_, _, _, _, _, _, _, _, _, _, _, _, e, _⟩ := h; subst e; rfl)
      | (obtain ⟨_, _, _, _, _, _, _, _, _, _, _, _, _, e, _⟩ := h; subst e; rfl)
    · skip
      obtain ⟨w, a, j, rfl, ⟨h4, h32, h⟩, k⟩ := h
      walk_at "rd"
      have q := lt64 h32 h.2.1
      refine ⟨⟨by omega, by omega, by omega⟩, ?_⟩
      walk_at "rd"
      exact k
  exact ⟨_, fd, _, [], G, T.g_left, F.kp, F.bindsN (fun _ _ _ _ _ _ us hl => match us, hl with | [_, _, _], _ => rfl), .nil⟩
theorem sc_f_right : FnScope ["width", "a", "k"] ["width", "a", "k"] (defScope sf_right) := ⟨rfl, rfl, rfl, by decide +kernel, rfl, by decide +kernel, by decide +kernel⟩
theorem cal_f_right (T : Txt K mg) : Cal P w K mg base (3) "right" (spSO .right) [] := by
  obtain ⟨fd, F0⟩ := T.c.d.def_ 9 (d := df_right) rfl
  have F : FunD K "right" "right" (defArgs sf_right) (defBody sf_right) (defScope sf_right) [] [] (He.fAd K df_right.at_) fd := F0
  have G : FnOk P w K mg base CX0 3 (He.fAd K df_right.at_) fd ["width", "a", "k"] (spSO .right) := by
    refine F.ok (CX := CX0) sc_f_right (fun vs H Q E h => ?_) (fun cdv A outer s H vs Q E hr h => ⟨_, PSs.nox (by exact (pss_cons (ps_expr (pe_c (cal_f_need_width T) hr (by decide) rfl (pa_cons (pv 0) pa_nil)))
      (pss_one (ps_ret (pe_op op_shr (pv 1) (pv 2)))))), ?_⟩)
    · first
      | (obtain ⟨e, _⟩ := h; subst e; rfl)
      | (obtain ⟨_, e, _⟩ := h; subst e; rfl)
      | (obtain ⟨_, _, e, _⟩ := h; subst e; rfl)
      | (obtain ⟨_, _, _, e, _⟩ := h; subst e; rfl)
      | (obtain ⟨_, _, _, _, e, _⟩ := h; subst e; rfl)
      | (obtain ⟨_, _, _, _, _, e, _⟩ := h; subst e; rfl)
      | (obtain ⟨_, _, _, _, _, _, e, _⟩ := h; subst e; rfl)
      | (obtain ⟨_, _, _, _, _, _, _, e, _⟩ := h; subst e; rfl)
      | (obtain ⟨_, _, _, _, _, _, _, _, e, _⟩ := h; subst e; rfl)
      | (obtain ⟨_, _, _, _, _, _, _, _, _, e, _⟩ := h; subst e; rfl)
      | (obtain ⟨_, _, _, _, _, _, _, _, _, _, e, _⟩ := h; subst e; rfl)
      | (obtain ⟨_, _, _, _, _, _, _, _, _, _, _, e, _⟩ := h; subst e; rfl)
      | (obtain ⟨_, _, _, _, _, _, _, _, _, _, _, _, e, _⟩ := h; subst e; rfl)
      | (obtain ⟨_, _, _, _, _, _, _, _, _, _, _, _, _, e, _⟩ := h; subst e; rfl)
    · skip
      obtain ⟨w, a, j, rfl, ⟨h4, h32, h⟩, k⟩ := h
      walk_at "rd"
      exact k
  exact ⟨_, fd, _, [], G, T.g_right, F.kp, F.bindsN (fun _ _ _ _ _ _ us hl => match us, hl with | [_, _, _], _ => rfl), .nil⟩
theorem half_bit {w : Nat} {a : Int} (hw : 1 ≤ w) (h0 : 0 ≤ a) (h1 : a < 2 ^ w) : a / 2 ^ ((w : Int) - 1).toNat = 1 ↔ 2 ^ w ≤ 2 * a := by
  have e : ((w : Int) - 1).toNat = w - 1 := by omega
  have p := two_pos (w - 1)
  have e2 : (2 : Int) ^ w = 2 * 2 ^ (w - 1) := by
    obtain ⟨v, rfl⟩ : ∃ v, w = v + 1 := ⟨w - 1, by omega⟩
    rw [show v + 1 - 1 = v from rfl, Int.pow_succ, Int.mul_comm]
  rw [e]
  constructor
  · intro h
    have := Int.mul_ediv_self_le (x := a) (k := 2 ^ (w - 1)) (by omega)
    rw [h] at this
    omega
  · intro h
    have h2 : a / 2 ^ (w - 1) < 2 := Int.ediv_lt_of_lt_mul p (by omega)
    have h3 : 1 ≤ a / 2 ^ (w - 1) := Int.le_ediv_of_mul_le p (by omega)
    omega
theorem sc_f_slide : FnScope ["width", "a", "k"] ["width", "a", "k"] (defScope sf_slide) := ⟨rfl, rfl, rfl, by decide +kernel, rfl, by decide +kernel, by decide +kernel⟩
theorem cal_f_slide (T : Txt K mg) : Cal P w K mg base (3) "slide" (spSO .slide) [] := by
  obtain ⟨fd, F0⟩ := T.c.d.def_ 10 (d := df_slide) rfl
  have F : FunD K "slide" "slide" (defArgs sf_slide) (defBody sf_slide) (defScope sf_slide) [] [] (He.fAd K df_slide.at_) fd := F0
  have G : FnOk P w K mg base CX0 3 (He.fAd K df_slide.at_) fd ["width", "a", "k"] (spSO .slide) := by
    refine F.ok (CX := CX0) sc_f_slide (fun vs H Q E h => ?_) (fun cdv A outer s H vs Q E hr h => ⟨_, PSs.nox (by exact (pss_cons (ps_expr (pe_c (cal_f_need_width T) hr (by decide) rfl (pa_cons (pv 0) pa_nil)))
      (pss_cons (ps_if (pt_cmpR op_eq (pe_op op_shr (pv 1) (pe_op op_sub (pv 0) pe_int)) pe_int (nomark _)) (pss_one (ps_set (i := 1) sc_f_slide.nd rfl (Or.inl rfl) (pe_op op_sub (pv 1) (pe_op op_oneShl pe_int (pv 0))))) pss_nil)
      (pss_one (ps_ret (pe_c (cal_f_cut T) hr (by decide) rfl (pa_cons (pv 0) (pa_cons (pe_op op_shr (pv 1) (pv 2)) pa_nil)))))))), ?_⟩)
    · first
      | (obtain ⟨e, _⟩ := h; subst e; rfl)
      | (obtain ⟨_, e, _⟩ := h; subst e; rfl)
      | (obtain ⟨_, _, e, _⟩ := h; subst e; rfl)
      | (obtain ⟨_, _, _, e, _⟩ := h; subst e; rfl)
      | (obtain ⟨_, _, _, _, e, _⟩ := h; subst e; rfl)
      | (obtain ⟨_, _, _, _, _, e, _⟩ := h; subst e; rfl)
      | (obtain ⟨_, _, _, _, _, _, e, _⟩ := h; subst e; rfl)
      | (obtain ⟨_, _, _, _, _, _, _, e, _⟩ := h; subst e; rfl)
      | (obtain ⟨_, _, _, _, _, _, _, _, e, _⟩ := h; subst e; rfl)
      | (obtain ⟨_, _, _, _, _, _, _, _, _, e, _⟩ := h; subst e; rfl)
      | (obtain ⟨_, _, _, _, _, _, _, _, _, _, e, _⟩ := h; subst e; rfl)
      | (obtain ⟨_, _, _, _, _, _, _, _, _, _, _, e, _⟩ := h; subst e; rfl)
      | (obtain ⟨_, _, _, _, _, _, _, _, _, _, _, _, e, _⟩ := h; subst e; rfl)
      | (obtain ⟨_, _, _, _, _, _, _, _, _, _, _, _, _, e, _⟩ := h; subst e; rfl)
    · skip
      obtain ⟨w, a, j, rfl, ⟨h4, h32, h⟩, k⟩ := h
      walk_at "rd"
      have hb := half_bit (w := w) (by omega) h.1 h.2.1
      refine iteD (fun c => ?_) (fun c => ?_)
      · have c1 : 2 ^ w ≤ 2 * a := hb.mp (V.int.inj c)
        walk_at "rd"
        have e : sgn w a = a - 2 ^ w := if_pos c1
        have k2 : Q (.int ((a - 2 ^ w) / 2 ^ j.toNat % 2 ^ w)) H := by rw [← e]; exact k
        exact k2
      · have c1 : ¬ 2 ^ w ≤ 2 * a := fun z => c (congrArg V.int (hb.mpr z))
        walk_at "rd"
        have e : sgn w a = a := if_neg c1
        have k2 : Q (.int (a / 2 ^ j.toNat % 2 ^ w)) H := by rw [← e]; exact k
        exact k2
  exact ⟨_, fd, _, [], G, T.g_slide, F.kp, F.bindsN (fun _ _ _ _ _ _ us hl => match us, hl with | [_, _, _], _ => rfl), .nil⟩
def spWithin : Sp := fun vs H Q _ => ∃ a lo hi : Int, vs = [.int a, .int lo, .int hi] ∧ lo ≤ a ∧ a ≤ hi ∧ Q (.bl true) H
theorem sc_f_within : FnScope ["thing", "least", "greatest"] ["thing", "least", "greatest"] (defScope sf_within) := ⟨rfl, rfl, rfl, by decide +kernel, rfl, by decide +kernel, by decide +kernel⟩
theorem cal_f_within (T : Txt K mg) : Cal P w K mg base (2) "within" (spWithin) [] := by
  obtain ⟨fd, F0⟩ := T.c.d.def_ 14 (d := df_within) rfl
  have F : FunD K "within" "within" (defArgs sf_within) (defBody sf_within) (defScope sf_within) [] [] (He.fAd K df_within.at_) fd := F0
  have G : FnOk P w K mg base CX0 2 (He.fAd K df_within.at_) fd ["thing", "least", "greatest"] (spWithin) := by
    refine F.ok (CX := CX0) sc_f_within (fun vs H Q E h => ?_) (fun cdv A outer s H vs Q E hr h => ⟨_, PSs.nox (by exact (pss_one (ps_ret (pe_and (pe_c (cal_f_is_whole T) hr (by decide) rfl (pa_cons (pv 0) pa_nil)) (pe_one (pe_chain op_le op_le (pv 1) (pv 0) (pv 2))))))), ?_⟩)
    · first
      | (obtain ⟨e, _⟩ := h; subst e; rfl)
      | (obtain ⟨_, e, _⟩ := h; subst e; rfl)
      | (obtain ⟨_, _, e, _⟩ := h; subst e; rfl)
      | (obtain ⟨_, _, _, e, _⟩ := h; subst e; rfl)
      | (obtain ⟨_, _, _, _, e, _⟩ := h; subst e; rfl)
      | (obtain ⟨_, _, _, _, _, e, _⟩ := h; subst e; rfl)
      | (obtain ⟨_, _, _, _, _, _, e, _⟩ := h; subst e; rfl)
      | (obtain ⟨_, _, _, _, _, _, _, e, _⟩ := h; subst e; rfl)
      | (obtain ⟨_, _, _, _, _, _, _, _, e, _⟩ := h; subst e; rfl)
      | (obtain ⟨_, _, _, _, _, _, _, _, _, e, _⟩ := h; subst e; rfl)
      | (obtain ⟨_, _, _, _, _, _, _, _, _, _, e, _⟩ := h; subst e; rfl)
      | (obtain ⟨_, _, _, _, _, _, _, _, _, _, _, e, _⟩ := h; subst e; rfl)
      | (obtain ⟨_, _, _, _, _, _, _, _, _, _, _, _, e, _⟩ := h; subst e; rfl)
      | (obtain ⟨_, _, _, _, _, _, _, _, _, _, _, _, _, e, _⟩ := h; subst e; rfl)
    · skip
      obtain ⟨a, lo, hi, rfl, h1, h2, k⟩ := h
      walk_at "rd"
      show Q (.bl (decide (a ≤ hi))) H
      rw [decide_eq_true h2]
      exact k
  exact ⟨_, fd, _, [], G, T.g_within, F.kp, F.bindsN (fun _ _ _ _ _ _ us hl => match us, hl with | [_, _, _], _ => rfl), .nil⟩
def spRowWords : Sp := fun vs H Q _ => vs = [] ∧ ∀ p, H p = none → Q (.ref p) (upd H p (.lst (words.map V.str)))
theorem sc_f_row_words : FnScope [] [] (defScope sf_row_words) := ⟨rfl, rfl, rfl, by decide +kernel, rfl, by decide +kernel, by decide +kernel⟩
theorem cal_f_row_words (T : Txt K mg) : Cal P w K mg base (1) "row_words" (spRowWords) [] := by
  obtain ⟨fd, F0⟩ := T.c.d.def_ 11 (d := df_row_words) rfl
  have F : FunD K "row_words" "row_words" (defArgs sf_row_words) (defBody sf_row_words) (defScope sf_row_words) [] [] (He.fAd K df_row_words.at_) fd := F0
  have G : FnOk P w K mg base CX0 1 (He.fAd K df_row_words.at_) fd [] (spRowWords) := by
    refine F.ok (CX := CX0) sc_f_row_words (fun vs H Q E h => ?_) (fun cdv A outer s H vs Q E hr h => ⟨_, PSs.nox (by exact (pss_one (ps_ret (pe_callTy call_list_of rfl T.f_list (by decide +kernel) (pa_cons (pe_gc rfl T.v_ROW_WORDS) pa_nil))))), ?_⟩)
    · first
      | (obtain ⟨e, _⟩ := h; subst e; rfl)
      | (obtain ⟨_, e, _⟩ := h; subst e; rfl)
      | (obtain ⟨_, _, e, _⟩ := h; subst e; rfl)
      | (obtain ⟨_, _, _, e, _⟩ := h; subst e; rfl)
      | (obtain ⟨_, _, _, _, e, _⟩ := h; subst e; rfl)
      | (obtain ⟨_, _, _, _, _, e, _⟩ := h; subst e; rfl)
      | (obtain ⟨_, _, _, _, _, _, e, _⟩ := h; subst e; rfl)
      | (obtain ⟨_, _, _, _, _, _, _, e, _⟩ := h; subst e; rfl)
      | (obtain ⟨_, _, _, _, _, _, _, _, e, _⟩ := h; subst e; rfl)
      | (obtain ⟨_, _, _, _, _, _, _, _, _, e, _⟩ := h; subst e; rfl)
      | (obtain ⟨_, _, _, _, _, _, _, _, _, _, e, _⟩ := h; subst e; rfl)
      | (obtain ⟨_, _, _, _, _, _, _, _, _, _, _, e, _⟩ := h; subst e; rfl)
      | (obtain ⟨_, _, _, _, _, _, _, _, _, _, _, _, e, _⟩ := h; subst e; rfl)
      | (obtain ⟨_, _, _, _, _, _, _, _, _, _, _, _, _, e, _⟩ := h; subst e; rfl)
    · skip
      obtain ⟨rfl, k⟩ := h
      exact ⟨_, _, rfl, .inr (He.tupB_ok T.ex_110 _), k⟩
  exact ⟨_, fd, _, [], G, T.g_row_words, F.kp, F.bindsN (fun _ _ _ _ _ _ us hl => match us, hl with | [], _ => rfl), .nil⟩
def spIsReg : Sp := fun vs H Q _ => ∃ z, vs = [.str z] ∧ IsReg z ∧ ∀ H', Same H H' → Q (.bl true) H'
theorem sc_f_is_register : FnScope ["thing", "sign"] ["thing"] (defScope sf_is_register) := ⟨rfl, rfl, rfl, by decide +kernel, rfl, by decide +kernel, by decide +kernel⟩
theorem cal_f_is_register (T : Txt K mg) : Cal P w K mg base (1) "is_register" (spIsReg) [] := by
  obtain ⟨fd, F0⟩ := T.c.d.def_ 13 (d := df_is_register) rfl
  have F : FunD K "is_register" "is_register" (defArgs sf_is_register) (defBody sf_is_register) (defScope sf_is_register) [] [] (He.fAd K df_is_register.at_) fd := F0
  have G : FnOk P w K mg base CX0 1 (He.fAd K df_is_register.at_) fd ["thing"] (spIsReg) := by
    refine F.ok (CX := CX0) sc_f_is_register (fun vs H Q E h => ?_) (fun cdv A outer s H vs Q E hr h => ⟨_, PSs.nox (by exact (pss_cons (ps_if (PW.pt (pw_or (pt_not (pt_val (pe_callB call_isi rfl T.f_isinstance (by decide +kernel) (pa_cons (pv 0) (pa_cons (pe_bltn (v := .ty "str") rfl T.f_str (by decide +kernel) rfl) pa_nil))))) (pw_or (pt_not (pt_chain op_le op_le pe_int (pe_callB call_len_str rfl T.f_len (by decide +kernel) (pa_cons (pv 0) pa_nil)) (pe_gc rfl T.v_LONGEST_NAME))) (pw_or1 (pt_cmpR op_notIn_sign (pe_ix ix_str (pv 0) pe_int (fun _ _ => rfl)) (pe_gc rfl T.v_LETTERS) (by with_unfolding_all rfl)))))) (pss_one (ps_ret pe_bl)) pss_nil)
      (pss_one (ps_ret (pe_callB (cr_all rfl) rfl T.f_all (by decide +kernel) (pa_cons (pe_lc (own := [("sign", 1)]) (g := gName 1) (tt := tYes) rfl sc_f_is_register.nd (pi_str (pv 0)) (blkOk_by (N := ["thing", "sign"]) (sc := defScope sf_is_register) (by decide +kernel)) (fun _ _ _ _ _ => pg_name (i := 1) sc_f_is_register.nd rfl (Or.inl rfl)) (fun _ _ _ _ _ => pts_nil) (fun _ _ _ _ _ => (pe_cmpR op_in_sign (pv 1) (pe_op op_add_str (pe_gc rfl T.v_LETTERS) (pe_gc rfl T.v_FIGURES)) (by with_unfolding_all rfl)))) pa_nil)))))), ?_⟩)
    · first
      | (obtain ⟨e, _⟩ := h; subst e; rfl)
      | (obtain ⟨_, e, _⟩ := h; subst e; rfl)
      | (obtain ⟨_, _, e, _⟩ := h; subst e; rfl)
      | (obtain ⟨_, _, _, e, _⟩ := h; subst e; rfl)
      | (obtain ⟨_, _, _, _, e, _⟩ := h; subst e; rfl)
      | (obtain ⟨_, _, _, _, _, e, _⟩ := h; subst e; rfl)
      | (obtain ⟨_, _, _, _, _, _, e, _⟩ := h; subst e; rfl)
      | (obtain ⟨_, _, _, _, _, _, _, e, _⟩ := h; subst e; rfl)
      | (obtain ⟨_, _, _, _, _, _, _, _, e, _⟩ := h; subst e; rfl)
      | (obtain ⟨_, _, _, _, _, _, _, _, _, e, _⟩ := h; subst e; rfl)
      | (obtain ⟨_, _, _, _, _, _, _, _, _, _, e, _⟩ := h; subst e; rfl)
      | (obtain ⟨_, _, _, _, _, _, _, _, _, _, _, e, _⟩ := h; subst e; rfl)
      | (obtain ⟨_, _, _, _, _, _, _, _, _, _, _, _, e, _⟩ := h; subst e; rfl)
      | (obtain ⟨_, _, _, _, _, _, _, _, _, _, _, _, _, e, _⟩ := h; subst e; rfl)
    · skip
      obtain ⟨z, rfl, hz, k⟩ := h
      have h1 := hz.len1
      have h8 := hz.len8
      obtain ⟨c, hc, hcl⟩ := hz.hd
      walk_at "rd"
      refine ⟨_, _, c, rfl, rfl, le_sz (by omega), atI_nat (j := 0) hc, ?_⟩
      walk_at "rd"
      refine iteNf hcl ?_
      walk_at "rd"
      intro D hD
      refine lc_it (walk_str (z := z)) (fun i H' => H' D = some (.lst ((List.replicate i true).map V.bl)) ∧ Same H H') ⟨upd_same, same_new hD⟩ (fun _ _ _ _ => trivial) ?_ ?_
      · rintro i x H1 H2 hi ⟨h1, h2⟩ ⟨rfl, c', hc', rfl⟩
        walk_at "rd"
        have hm : c' ∈ (letters ++ figures).cps.toList := hz.all_ c' (by rw [← Array.mem_def]; exact Array.mem_of_getElem? hc')
        have hb : (V.bl (decide (c' ∈ (Str.ofString "abcdefghijklmnopqrstuvwxyz" ++ Str.ofString "0123456789").cps.toList))) = V.bl true := congrArg V.bl (decide_eq_true hm)
        have hi2 : i < z.length := hi
        refine ⟨_, h1, ?_, ?_, same_mut h2 hD⟩
        · rw [List.length_map, List.length_replicate]
          exact Nat.lt_of_lt_of_le hi2 (le_sz (by omega))
        · rw [upd_same, hb, List.replicate_succ', List.map_append]
          rfl
      · rintro H1 ⟨h1, h2⟩
        refine ⟨_, _, rfl, SqL.of h1, ?_⟩
        rw [show ((List.replicate z.cps.size true).all id) = true by simp]
        exact k _ h2
  exact ⟨_, fd, _, [], G, T.g_is_register, F.kp, F.bindsN (fun _ _ _ _ _ _ us hl => match us, hl with | [_], _ => rfl), .nil⟩
end
end K73

set_option maxHeartbeats 4000000
/-! the rows' classes: their methods -/
namespace K73
open PySem PySem.Spec PyProof.Rows L2
open C8 (Cal Mak Met pe_c pe_mk pe_mt pe_mt0 pe_gc)
local macro_rules | `(tactic| walk_at "rd") => `(tactic| repeat (first | refine ⟨_, rfl, ?_⟩ | refine ⟨_, _, rfl, rfl, ?_⟩ | refine ⟨_, rfl, rfl, ?_⟩ | refine ⟨_, _, rfl, ?_⟩ | refine ⟨_, _, _, rfl, ?_⟩ | refine ⟨_, _, _, _, rfl, ?_⟩ | refine And.intro rfl ?_ | refine And.intro trivial ?_ | refine And.intro (le_sz (Nat.le_of_ble_eq_true rfl)) ?_ | refine And.intro (le_sz (by omega)) ?_ | refine iteT ?_ | refine iteF ?_ | refine iteDt (by omega) ?_ | refine iteDf (by omega) ?_ | refine iteNt (by omega) ?_ | refine iteNf (by omega) ?_ | refine And.intro (by omega) ?_ | refine ⟨_, _, _, _, _, rfl, .ty _, .base (.str _), kit_ss, ?_⟩ | refine ⟨_, _, _, _, _, rfl, .ty _, .base (.lst (by assumption)), kit_ll, ?_⟩ | refine ⟨_, _, _, _, _, rfl, .ty _, .base (.dK (by assumption)), kit_dd, ?_⟩ | refine ⟨_, _, _, _, _, rfl, .ty _, .base (.tup (by assumption)), kit_tt, ?_⟩))

section
variable {K : PySem.W.Frag} {mg : Str → Option Value} (T : Txt K mg)
include T
theorem Txt.cls (c : Cl) : Cls K (c.ad K) := by
  cases c
  · exact T.cl_Set
  · exact T.cl_Copy
  · exact T.cl_Sum
  · exact T.cl_Gap
  · exact T.cl_Low
  · exact T.cl_High
  · exact T.cl_Left
  · exact T.cl_Right
  · exact T.cl_Slide
  · exact T.cl_And
  · exact T.cl_Or
  · exact T.cl_Unlike
  · exact T.cl_Under
  · exact T.cl_Pick
  · exact T.cl_Mark
  · exact T.cl_Turns
theorem Txt.na_PO_goal (c : PO) : NoAttr K (c.cl.ad K) "goal" := by
  cases c
  · exact T.na_Low_goal
  · exact T.na_High_goal
  · exact T.na_And_goal
  · exact T.na_Or_goal
  · exact T.na_Unlike_goal
  · exact T.na_Under_goal
theorem Txt.na_PO_one (c : PO) : NoAttr K (c.cl.ad K) "one" := by
  cases c
  · exact T.na_Low_one
  · exact T.na_High_one
  · exact T.na_And_one
  · exact T.na_Or_one
  · exact T.na_Unlike_one
  · exact T.na_Under_one
theorem Txt.na_PO_other (c : PO) : NoAttr K (c.cl.ad K) "other" := by
  cases c
  · exact T.na_Low_other
  · exact T.na_High_other
  · exact T.na_And_other
  · exact T.na_Or_other
  · exact T.na_Unlike_other
  · exact T.na_Under_other
theorem Txt.na_CO_goal (c : CO) : NoAttr K (c.cl.ad K) "goal" := by
  cases c
  · exact T.na_Sum_goal
  · exact T.na_Gap_goal
theorem Txt.na_CO_carry (c : CO) : NoAttr K (c.cl.ad K) "carry" := by
  cases c
  · exact T.na_Sum_carry
  · exact T.na_Gap_carry
theorem Txt.na_CO_one (c : CO) : NoAttr K (c.cl.ad K) "one" := by
  cases c
  · exact T.na_Sum_one
  · exact T.na_Gap_one
theorem Txt.na_CO_other (c : CO) : NoAttr K (c.cl.ad K) "other" := by
  cases c
  · exact T.na_Sum_other
  · exact T.na_Gap_other
theorem Txt.na_SO_goal (c : SO) : NoAttr K (c.cl.ad K) "goal" := by
  cases c
  · exact T.na_Left_goal
  · exact T.na_Right_goal
  · exact T.na_Slide_goal
theorem Txt.na_SO_one (c : SO) : NoAttr K (c.cl.ad K) "one" := by
  cases c
  · exact T.na_Left_one
  · exact T.na_Right_one
  · exact T.na_Slide_one
theorem Txt.na_SO_k (c : SO) : NoAttr K (c.cl.ad K) "k" := by
  cases c
  · exact T.na_Left_k
  · exact T.na_Right_k
  · exact T.na_Slide_k
end

section
variable {X : Cx}
/-- a value of one of several classes -/
def tDyn {I : Type} (t : I → TE) : TE := fun σ H Q => ∃ i, t i σ H Q
theorem pe_any {I : Type} {e : Expr} {t : I → TE} (h : ∀ i, PE X e (t i)) : PE X e (tDyn t) := by
  refine ⟨fun pins s σ H Q J q => ?_⟩
  obtain ⟨i, q⟩ := q
  exact (h i).run pins s σ H Q J q
end

section
variable {P : Program} {w : World} {K : PySem.W.Frag} {mg : Str → Option Value} {base : Heap}
def spWord (c : Cl) : Sp := fun vs H Q _ => ∃ p : Addr, vs = [.ref p] ∧ Q (.str c.wd) H
theorem sc_mSet_word : FnScope ["self"] ["self"] (defScope smSet_word) := ⟨rfl, rfl, rfl, by decide +kernel, rfl, by decide +kernel, by decide +kernel⟩
theorem fnk_mSet_word (T : Txt K mg) : ∃ fd, FnOk P w K mg base CX0 (1) (He.fAd K dmSet_word.at_) fd ["self"] (spWord .set) ∧ Binds K fd ["self"] [] ∧ PySem.W.keepIn K (.ref (He.fAd K dmSet_word.at_)) = true := by
  obtain ⟨fd, F0⟩ := T.c.d.def_ 16 (d := dmSet_word) rfl
  have F : FunD K "word" "Set.word" (defArgs smSet_word) (defBody smSet_word) (defScope smSet_word) [] [] (He.fAd K dmSet_word.at_) fd := F0
  have G : FnOk P w K mg base CX0 1 (He.fAd K dmSet_word.at_) fd ["self"] (spWord .set) := by
    refine F.ok (CX := CX0) sc_mSet_word (fun vs H Q E h => ?_) (fun cdv A outer s H vs Q E hr h => ⟨_, PSs.nox (by exact (pss_one (ps_ret pe_str))), ?_⟩)
    · first
      | (obtain ⟨e, _⟩ := h; subst e; rfl)
      | (obtain ⟨_, e, _⟩ := h; subst e; rfl)
      | (obtain ⟨_, _, e, _⟩ := h; subst e; rfl)
      | (obtain ⟨_, _, _, e, _⟩ := h; subst e; rfl)
      | (obtain ⟨_, _, _, _, e, _⟩ := h; subst e; rfl)
      | (obtain ⟨_, _, _, _, _, e, _⟩ := h; subst e; rfl)
      | (obtain ⟨_, _, _, _, _, _, e, _⟩ := h; subst e; rfl)
      | (obtain ⟨_, _, _, _, _, _, _, e, _⟩ := h; subst e; rfl)
      | (obtain ⟨_, _, _, _, _, _, _, _, e, _⟩ := h; subst e; rfl)
      | (obtain ⟨_, _, _, _, _, _, _, _, _, e, _⟩ := h; subst e; rfl)
      | (obtain ⟨_, _, _, _, _, _, _, _, _, _, e, _⟩ := h; subst e; rfl)
      | (obtain ⟨_, _, _, _, _, _, _, _, _, _, _, e, _⟩ := h; subst e; rfl)
      | (obtain ⟨_, _, _, _, _, _, _, _, _, _, _, _, e, _⟩ := h; subst e; rfl)
      | (obtain ⟨_, _, _, _, _, _, _, _, _, _, _, _, _, e, _⟩ := h; subst e; rfl)
    · skip
      obtain ⟨p, rfl, k⟩ := h
      exact k
  exact ⟨fd, G, F.bindsN (fun _ _ _ _ _ _ us hl => match us, hl with | [_], _ => rfl), F.kp⟩
theorem sc_mCopy_word : FnScope ["self"] ["self"] (defScope smCopy_word) := ⟨rfl, rfl, rfl, by decide +kernel, rfl, by decide +kernel, by decide +kernel⟩
theorem fnk_mCopy_word (T : Txt K mg) : ∃ fd, FnOk P w K mg base CX0 (1) (He.fAd K dmCopy_word.at_) fd ["self"] (spWord .copy) ∧ Binds K fd ["self"] [] ∧ PySem.W.keepIn K (.ref (He.fAd K dmCopy_word.at_)) = true := by
  obtain ⟨fd, F0⟩ := T.c.d.def_ 21 (d := dmCopy_word) rfl
  have F : FunD K "word" "Copy.word" (defArgs smCopy_word) (defBody smCopy_word) (defScope smCopy_word) [] [] (He.fAd K dmCopy_word.at_) fd := F0
  have G : FnOk P w K mg base CX0 1 (He.fAd K dmCopy_word.at_) fd ["self"] (spWord .copy) := by
    refine F.ok (CX := CX0) sc_mCopy_word (fun vs H Q E h => ?_) (fun cdv A outer s H vs Q E hr h => ⟨_, PSs.nox (by exact (pss_one (ps_ret pe_str))), ?_⟩)
    · first
      | (obtain ⟨e, _⟩ := h; subst e; rfl)
      | (obtain ⟨_, e, _⟩ := h; subst e; rfl)
      | (obtain ⟨_, _, e, _⟩ := h; subst e; rfl)
      | (obtain ⟨_, _, _, e, _⟩ := h; subst e; rfl)
      | (obtain ⟨_, _, _, _, e, _⟩ := h; subst e; rfl)
      | (obtain ⟨_, _, _, _, _, e, _⟩ := h; subst e; rfl)
      | (obtain ⟨_, _, _, _, _, _, e, _⟩ := h; subst e; rfl)
      | (obtain ⟨_, _, _, _, _, _, _, e, _⟩ := h; subst e; rfl)
      | (obtain ⟨_, _, _, _, _, _, _, _, e, _⟩ := h; subst e; rfl)
      | (obtain ⟨_, _, _, _, _, _, _, _, _, e, _⟩ := h; subst e; rfl)
      | (obtain ⟨_, _, _, _, _, _, _, _, _, _, e, _⟩ := h; subst e; rfl)
      | (obtain ⟨_, _, _, _, _, _, _, _, _, _, _, e, _⟩ := h; subst e; rfl)
      | (obtain ⟨_, _, _, _, _, _, _, _, _, _, _, _, e, _⟩ := h; subst e; rfl)
      | (obtain ⟨_, _, _, _, _, _, _, _, _, _, _, _, _, e, _⟩ := h; subst e; rfl)
    · skip
      obtain ⟨p, rfl, k⟩ := h
      exact k
  exact ⟨fd, G, F.bindsN (fun _ _ _ _ _ _ us hl => match us, hl with | [_], _ => rfl), F.kp⟩
theorem sc_mSum_word : FnScope ["self"] ["self"] (defScope smSum_word) := ⟨rfl, rfl, rfl, by decide +kernel, rfl, by decide +kernel, by decide +kernel⟩
theorem fnk_mSum_word (T : Txt K mg) : ∃ fd, FnOk P w K mg base CX0 (1) (He.fAd K dmSum_word.at_) fd ["self"] (spWord .sum) ∧ Binds K fd ["self"] [] ∧ PySem.W.keepIn K (.ref (He.fAd K dmSum_word.at_)) = true := by
  obtain ⟨fd, F0⟩ := T.c.d.def_ 47 (d := dmSum_word) rfl
  have F : FunD K "word" "Sum.word" (defArgs smSum_word) (defBody smSum_word) (defScope smSum_word) [] [] (He.fAd K dmSum_word.at_) fd := F0
  have G : FnOk P w K mg base CX0 1 (He.fAd K dmSum_word.at_) fd ["self"] (spWord .sum) := by
    refine F.ok (CX := CX0) sc_mSum_word (fun vs H Q E h => ?_) (fun cdv A outer s H vs Q E hr h => ⟨_, PSs.nox (by exact (pss_one (ps_ret pe_str))), ?_⟩)
    · first
      | (obtain ⟨e, _⟩ := h; subst e; rfl)
      | (obtain ⟨_, e, _⟩ := h; subst e; rfl)
      | (obtain ⟨_, _, e, _⟩ := h; subst e; rfl)
      | (obtain ⟨_, _, _, e, _⟩ := h; subst e; rfl)
      | (obtain ⟨_, _, _, _, e, _⟩ := h; subst e; rfl)
      | (obtain ⟨_, _, _, _, _, e, _⟩ := h; subst e; rfl)
      | (obtain ⟨_, _, _, _, _, _, e, _⟩ := h; subst e; rfl)
      | (obtain ⟨_, _, _, _, _, _, _, e, _⟩ := h; subst e; rfl)
      | (obtain ⟨_, _, _, _, _, _, _, _, e, _⟩ := h; subst e; rfl)
      | (obtain ⟨_, _, _, _, _, _, _, _, _, e, _⟩ := h; subst e; rfl)
      | (obtain ⟨_, _, _, _, _, _, _, _, _, _, e, _⟩ := h; subst e; rfl)
      | (obtain ⟨_, _, _, _, _, _, _, _, _, _, _, e, _⟩ := h; subst e; rfl)
      | (obtain ⟨_, _, _, _, _, _, _, _, _, _, _, _, e, _⟩ := h; subst e; rfl)
      | (obtain ⟨_, _, _, _, _, _, _, _, _, _, _, _, _, e, _⟩ := h; subst e; rfl)
    · skip
      obtain ⟨p, rfl, k⟩ := h
      exact k
  exact ⟨fd, G, F.bindsN (fun _ _ _ _ _ _ us hl => match us, hl with | [_], _ => rfl), F.kp⟩
theorem sc_mGap_word : FnScope ["self"] ["self"] (defScope smGap_word) := ⟨rfl, rfl, rfl, by decide +kernel, rfl, by decide +kernel, by decide +kernel⟩
theorem fnk_mGap_word (T : Txt K mg) : ∃ fd, FnOk P w K mg base CX0 (1) (He.fAd K dmGap_word.at_) fd ["self"] (spWord .gap) ∧ Binds K fd ["self"] [] ∧ PySem.W.keepIn K (.ref (He.fAd K dmGap_word.at_)) = true := by
  obtain ⟨fd, F0⟩ := T.c.d.def_ 49 (d := dmGap_word) rfl
  have F : FunD K "word" "Gap.word" (defArgs smGap_word) (defBody smGap_word) (defScope smGap_word) [] [] (He.fAd K dmGap_word.at_) fd := F0
  have G : FnOk P w K mg base CX0 1 (He.fAd K dmGap_word.at_) fd ["self"] (spWord .gap) := by
    refine F.ok (CX := CX0) sc_mGap_word (fun vs H Q E h => ?_) (fun cdv A outer s H vs Q E hr h => ⟨_, PSs.nox (by exact (pss_one (ps_ret pe_str))), ?_⟩)
    · first
      | (obtain ⟨e, _⟩ := h; subst e; rfl)
      | (obtain ⟨_, e, _⟩ := h; subst e; rfl)
      | (obtain ⟨_, _, e, _⟩ := h; subst e; rfl)
      | (obtain ⟨_, _, _, e, _⟩ := h; subst e; rfl)
      | (obtain ⟨_, _, _, _, e, _⟩ := h; subst e; rfl)
      | (obtain ⟨_, _, _, _, _, e, _⟩ := h; subst e; rfl)
      | (obtain ⟨_, _, _, _, _, _, e, _⟩ := h; subst e; rfl)
      | (obtain ⟨_, _, _, _, _, _, _, e, _⟩ := h; subst e; rfl)
      | (obtain ⟨_, _, _, _, _, _, _, _, e, _⟩ := h; subst e; rfl)
      | (obtain ⟨_, _, _, _, _, _, _, _, _, e, _⟩ := h; subst e; rfl)
      | (obtain ⟨_, _, _, _, _, _, _, _, _, _, e, _⟩ := h; subst e; rfl)
      | (obtain ⟨_, _, _, _, _, _, _, _, _, _, _, e, _⟩ := h; subst e; rfl)
      | (obtain ⟨_, _, _, _, _, _, _, _, _, _, _, _, e, _⟩ := h; subst e; rfl)
      | (obtain ⟨_, _, _, _, _, _, _, _, _, _, _, _, _, e, _⟩ := h; subst e; rfl)
    · skip
      obtain ⟨p, rfl, k⟩ := h
      exact k
  exact ⟨fd, G, F.bindsN (fun _ _ _ _ _ _ us hl => match us, hl with | [_], _ => rfl), F.kp⟩
theorem sc_mLow_word : FnScope ["self"] ["self"] (defScope smLow_word) := ⟨rfl, rfl, rfl, by decide +kernel, rfl, by decide +kernel, by decide +kernel⟩
theorem fnk_mLow_word (T : Txt K mg) : ∃ fd, FnOk P w K mg base CX0 (1) (He.fAd K dmLow_word.at_) fd ["self"] (spWord .low) ∧ Binds K fd ["self"] [] ∧ PySem.W.keepIn K (.ref (He.fAd K dmLow_word.at_)) = true := by
  obtain ⟨fd, F0⟩ := T.c.d.def_ 30 (d := dmLow_word) rfl
  have F : FunD K "word" "Low.word" (defArgs smLow_word) (defBody smLow_word) (defScope smLow_word) [] [] (He.fAd K dmLow_word.at_) fd := F0
  have G : FnOk P w K mg base CX0 1 (He.fAd K dmLow_word.at_) fd ["self"] (spWord .low) := by
    refine F.ok (CX := CX0) sc_mLow_word (fun vs H Q E h => ?_) (fun cdv A outer s H vs Q E hr h => ⟨_, PSs.nox (by exact (pss_one (ps_ret pe_str))), ?_⟩)
    · first
      | (obtain ⟨e, _⟩ := h; subst e; rfl)
      | (obtain ⟨_, e, _⟩ := h; subst e; rfl)
      | (obtain ⟨_, _, e, _⟩ := h; subst e; rfl)
      | (obtain ⟨_, _, _, e, _⟩ := h; subst e; rfl)
      | (obtain ⟨_, _, _, _, e, _⟩ := h; subst e; rfl)
      | (obtain ⟨_, _, _, _, _, e, _⟩ := h; subst e; rfl)
      | (obtain ⟨_, _, _, _, _, _, e, _⟩ := h; subst e; rfl)
      | (obtain ⟨_, _, _, _, _, _, _, e, _⟩ := h; subst e; rfl)
      | (obtain ⟨_, _, _, _, _, _, _, _, e, _⟩ := h; subst e; rfl)
      | (obtain ⟨_, _, _, _, _, _, _, _, _, e, _⟩ := h; subst e; rfl)
      | (obtain ⟨_, _, _, _, _, _, _, _, _, _, e, _⟩ := h; subst e; rfl)
      | (obtain ⟨_, _, _, _, _, _, _, _, _, _, _, e, _⟩ := h; subst e; rfl)
      | (obtain ⟨_, _, _, _, _, _, _, _, _, _, _, _, e, _⟩ := h; subst e; rfl)
      | (obtain ⟨_, _, _, _, _, _, _, _, _, _, _, _, _, e, _⟩ := h; subst e; rfl)
    · skip
      obtain ⟨p, rfl, k⟩ := h
      exact k
  exact ⟨fd, G, F.bindsN (fun _ _ _ _ _ _ us hl => match us, hl with | [_], _ => rfl), F.kp⟩
theorem sc_mHigh_word : FnScope ["self"] ["self"] (defScope smHigh_word) := ⟨rfl, rfl, rfl, by decide +kernel, rfl, by decide +kernel, by decide +kernel⟩
theorem fnk_mHigh_word (T : Txt K mg) : ∃ fd, FnOk P w K mg base CX0 (1) (He.fAd K dmHigh_word.at_) fd ["self"] (spWord .high) ∧ Binds K fd ["self"] [] ∧ PySem.W.keepIn K (.ref (He.fAd K dmHigh_word.at_)) = true := by
  obtain ⟨fd, F0⟩ := T.c.d.def_ 32 (d := dmHigh_word) rfl
  have F : FunD K "word" "High.word" (defArgs smHigh_word) (defBody smHigh_word) (defScope smHigh_word) [] [] (He.fAd K dmHigh_word.at_) fd := F0
  have G : FnOk P w K mg base CX0 1 (He.fAd K dmHigh_word.at_) fd ["self"] (spWord .high) := by
    refine F.ok (CX := CX0) sc_mHigh_word (fun vs H Q E h => ?_) (fun cdv A outer s H vs Q E hr h => ⟨_, PSs.nox (by exact (pss_one (ps_ret pe_str))), ?_⟩)
    · first
      | (obtain ⟨e, _⟩ := h; subst e; rfl)
      | (obtain ⟨_, e, _⟩ := h; subst e; rfl)
      | (obtain ⟨_, _, e, _⟩ := h; subst e; rfl)
      | (obtain ⟨_, _, _, e, _⟩ := h; subst e; rfl)
      | (obtain ⟨_, _, _, _, e, _⟩ := h; subst e; rfl)
      | (obtain ⟨_, _, _, _, _, e, _⟩ := h; subst e; rfl)
      | (obtain ⟨_, _, _, _, _, _, e, _⟩ := h; subst e; rfl)
      | (obtain ⟨_, _, _, _, _, _, _, e, _⟩ := h; subst e; rfl)
      | (obtain ⟨_, _, _, _, _, _, _, _, e, _⟩ := h; subst e; rfl)
      | (obtain ⟨_, _, _, _, _, _, _, _, _, e, _⟩ := h; subst e; rfl)
      | (obtain ⟨_, _, _, _, _, _, _, _, _, _, e, _⟩ := h; subst e; rfl)
      | (obtain ⟨_, _, _, _, _, _, _, _, _, _, _, e, _⟩ := h; subst e; rfl)
      | (obtain ⟨_, _, _, _, _, _, _, _, _, _, _, _, e, _⟩ := h; subst e; rfl)
      | (obtain ⟨_, _, _, _, _, _, _, _, _, _, _, _, _, e, _⟩ := h; subst e; rfl)
    · skip
      obtain ⟨p, rfl, k⟩ := h
      exact k
  exact ⟨fd, G, F.bindsN (fun _ _ _ _ _ _ us hl => match us, hl with | [_], _ => rfl), F.kp⟩
theorem sc_mLeft_word : FnScope ["self"] ["self"] (defScope smLeft_word) := ⟨rfl, rfl, rfl, by decide +kernel, rfl, by decide +kernel, by decide +kernel⟩
theorem fnk_mLeft_word (T : Txt K mg) : ∃ fd, FnOk P w K mg base CX0 (1) (He.fAd K dmLeft_word.at_) fd ["self"] (spWord .left) ∧ Binds K fd ["self"] [] ∧ PySem.W.keepIn K (.ref (He.fAd K dmLeft_word.at_)) = true := by
  obtain ⟨fd, F0⟩ := T.c.d.def_ 56 (d := dmLeft_word) rfl
  have F : FunD K "word" "Left.word" (defArgs smLeft_word) (defBody smLeft_word) (defScope smLeft_word) [] [] (He.fAd K dmLeft_word.at_) fd := F0
  have G : FnOk P w K mg base CX0 1 (He.fAd K dmLeft_word.at_) fd ["self"] (spWord .left) := by
    refine F.ok (CX := CX0) sc_mLeft_word (fun vs H Q E h => ?_) (fun cdv A outer s H vs Q E hr h => ⟨_, PSs.nox (by exact (pss_one (ps_ret pe_str))), ?_⟩)
    · first
      | (obtain ⟨e, _⟩ := h; subst e; rfl)
      | (obtain ⟨_, e, _⟩ := h; subst e; rfl)
      | (obtain ⟨_, _, e, _⟩ := h; subst e; rfl)
      | (obtain ⟨_, _, _, e, _⟩ := h; subst e; rfl)
      | (obtain ⟨_, _, _, _, e, _⟩ := h; subst e; rfl)
      | (obtain ⟨_, _, _, _, _, e, _⟩ := h; subst e; rfl)
      | (obtain ⟨_, _, _, _, _, _, e, _⟩ := h; subst e; rfl)
      | (obtain ⟨_, _, _, _, _, _, _, e, _⟩ := h; subst e; rfl)
      | (obtain ⟨_, _, _, _, _, _, _, _, e, _⟩ := h; subst e; rfl)
      | (obtain ⟨_, _, _, _, _, _, _, _, _, e, _⟩ := h; subst e; rfl)
      | (obtain ⟨_, _, _, _, _, _, _, _, _, _, e, _⟩ := h; subst e; rfl)
      | (obtain ⟨_, _, _, _, _, _, _, _, _, _, _, e, _⟩ := h; subst e; rfl)
      | (obtain ⟨_, _, _, _, _, _, _, _, _, _, _, _, e, _⟩ := h; subst e; rfl)
      | (obtain ⟨_, _, _, _, _, _, _, _, _, _, _, _, _, e, _⟩ := h; subst e; rfl)
    · skip
      obtain ⟨p, rfl, k⟩ := h
      exact k
  exact ⟨fd, G, F.bindsN (fun _ _ _ _ _ _ us hl => match us, hl with | [_], _ => rfl), F.kp⟩
theorem sc_mRight_word : FnScope ["self"] ["self"] (defScope smRight_word) := ⟨rfl, rfl, rfl, by decide +kernel, rfl, by decide +kernel, by decide +kernel⟩
theorem fnk_mRight_word (T : Txt K mg) : ∃ fd, FnOk P w K mg base CX0 (1) (He.fAd K dmRight_word.at_) fd ["self"] (spWord .right) ∧ Binds K fd ["self"] [] ∧ PySem.W.keepIn K (.ref (He.fAd K dmRight_word.at_)) = true := by
  obtain ⟨fd, F0⟩ := T.c.d.def_ 58 (d := dmRight_word) rfl
  have F : FunD K "word" "Right.word" (defArgs smRight_word) (defBody smRight_word) (defScope smRight_word) [] [] (He.fAd K dmRight_word.at_) fd := F0
  have G : FnOk P w K mg base CX0 1 (He.fAd K dmRight_word.at_) fd ["self"] (spWord .right) := by
    refine F.ok (CX := CX0) sc_mRight_word (fun vs H Q E h => ?_) (fun cdv A outer s H vs Q E hr h => ⟨_, PSs.nox (by exact (pss_one (ps_ret pe_str))), ?_⟩)
    · first
      | (obtain ⟨e, _⟩ := h; subst e; rfl)
      | (obtain ⟨_, e, _⟩ := h; subst e; rfl)
      | (obtain ⟨_, _, e, _⟩ := h; subst e; rfl)
      | (obtain ⟨_, _, _, e, _⟩ := h; subst e; rfl)
      | (obtain ⟨_, _, _, _, e, _⟩ := h; subst e; rfl)
      | (obtain ⟨_, _, _, _, _, e, _⟩ := h; subst e; rfl)
      | (obtain ⟨_, _, _, _, _, _, e, _⟩ := h; subst e; rfl)
      | (obtain ⟨_, _, _, _, _, _, _, e, _⟩ := h; subst e; rfl)
      | (obtain ⟨_, _, _, _, _, _, _, _, e, _⟩ := h; subst e; rfl)
      | (obtain ⟨_, _, _, _, _, _, _, _, _, e, _⟩ := h; subst e; rfl)
      | (obtain ⟨_, _, _, _, _, _, _, _, _, _, e, _⟩ := h; subst e; rfl)
      | (obtain ⟨_, _, _, _, _, _, _, _, _, _, _, e, _⟩ := h; subst e; rfl)
      | (obtain ⟨_, _, _, _, _, _, _, _, _, _, _, _, e, _⟩ := h; subst e; rfl)
      | (obtain ⟨_, _, _, _, _, _, _, _, _, _, _, _, _, e, _⟩ := h; subst e; rfl)
    · skip
      obtain ⟨p, rfl, k⟩ := h
      exact k
  exact ⟨fd, G, F.bindsN (fun _ _ _ _ _ _ us hl => match us, hl with | [_], _ => rfl), F.kp⟩
theorem sc_mSlide_word : FnScope ["self"] ["self"] (defScope smSlide_word) := ⟨rfl, rfl, rfl, by decide +kernel, rfl, by decide +kernel, by decide +kernel⟩
theorem fnk_mSlide_word (T : Txt K mg) : ∃ fd, FnOk P w K mg base CX0 (1) (He.fAd K dmSlide_word.at_) fd ["self"] (spWord .slide) ∧ Binds K fd ["self"] [] ∧ PySem.W.keepIn K (.ref (He.fAd K dmSlide_word.at_)) = true := by
  obtain ⟨fd, F0⟩ := T.c.d.def_ 60 (d := dmSlide_word) rfl
  have F : FunD K "word" "Slide.word" (defArgs smSlide_word) (defBody smSlide_word) (defScope smSlide_word) [] [] (He.fAd K dmSlide_word.at_) fd := F0
  have G : FnOk P w K mg base CX0 1 (He.fAd K dmSlide_word.at_) fd ["self"] (spWord .slide) := by
    refine F.ok (CX := CX0) sc_mSlide_word (fun vs H Q E h => ?_) (fun cdv A outer s H vs Q E hr h => ⟨_, PSs.nox (by exact (pss_one (ps_ret pe_str))), ?_⟩)
    · first
      | (obtain ⟨e, _⟩ := h; subst e; rfl)
      | (obtain ⟨_, e, _⟩ := h; subst e; rfl)
      | (obtain ⟨_, _, e, _⟩ := h; subst e; rfl)
      | (obtain ⟨_, _, _, e, _⟩ := h; subst e; rfl)
      | (obtain ⟨_, _, _, _, e, _⟩ := h; subst e; rfl)
      | (obtain ⟨_, _, _, _, _, e, _⟩ := h; subst e; rfl)
      | (obtain ⟨_, _, _, _, _, _, e, _⟩ := h; subst e; rfl)
      | (obtain ⟨_, _, _, _, _, _, _, e, _⟩ := h; subst e; rfl)
      | (obtain ⟨_, _, _, _, _, _, _, _, e, _⟩ := h; subst e; rfl)
      | (obtain ⟨_, _, _, _, _, _, _, _, _, e, _⟩ := h; subst e; rfl)
      | (obtain ⟨_, _, _, _, _, _, _, _, _, _, e, _⟩ := h; subst e; rfl)
      | (obtain ⟨_, _, _, _, _, _, _, _, _, _, _, e, _⟩ := h; subst e; rfl)
      | (obtain ⟨_, _, _, _, _, _, _, _, _, _, _, _, e, _⟩ := h; subst e; rfl)
      | (obtain ⟨_, _, _, _, _, _, _, _, _, _, _, _, _, e, _⟩ := h; subst e; rfl)
    · skip
      obtain ⟨p, rfl, k⟩ := h
      exact k
  exact ⟨fd, G, F.bindsN (fun _ _ _ _ _ _ us hl => match us, hl with | [_], _ => rfl), F.kp⟩
theorem sc_mAnd_word : FnScope ["self"] ["self"] (defScope smAnd_word) := ⟨rfl, rfl, rfl, by decide +kernel, rfl, by decide +kernel, by decide +kernel⟩
theorem fnk_mAnd_word (T : Txt K mg) : ∃ fd, FnOk P w K mg base CX0 (1) (He.fAd K dmAnd_word.at_) fd ["self"] (spWord .and_) ∧ Binds K fd ["self"] [] ∧ PySem.W.keepIn K (.ref (He.fAd K dmAnd_word.at_)) = true := by
  obtain ⟨fd, F0⟩ := T.c.d.def_ 34 (d := dmAnd_word) rfl
  have F : FunD K "word" "And.word" (defArgs smAnd_word) (defBody smAnd_word) (defScope smAnd_word) [] [] (He.fAd K dmAnd_word.at_) fd := F0
  have G : FnOk P w K mg base CX0 1 (He.fAd K dmAnd_word.at_) fd ["self"] (spWord .and_) := by
    refine F.ok (CX := CX0) sc_mAnd_word (fun vs H Q E h => ?_) (fun cdv A outer s H vs Q E hr h => ⟨_, PSs.nox (by exact (pss_one (ps_ret pe_str))), ?_⟩)
    · first
      | (obtain ⟨e, _⟩ := h; subst e; rfl)
      | (obtain ⟨_, e, _⟩ := h; subst e; rfl)
      | (obtain ⟨_, _, e, _⟩ := h; subst e; rfl)
      | (obtain ⟨_, _, _, e, _⟩ := h; subst e; rfl)
      | (obtain ⟨_, _, _, _, e, _⟩ := h; subst e; rfl)
      | (obtain ⟨_, _, _, _, _, e, _⟩ := h; subst e; rfl)
      | (obtain ⟨_, _, _, _, _, _, e, _⟩ := h; subst e; rfl)
      | (obtain ⟨_, _, _, _, _, _, _, e, _⟩ := h; subst e; rfl)
      | (obtain ⟨_, _, _, _, _, _, _, _, e, _⟩ := h; subst e; rfl)
      | (obtain ⟨_, _, _, _, _, _, _, _, _, e, _⟩ := h; subst e; rfl)
      | (obtain ⟨_, _, _, _, _, _, _, _, _, _, e, _⟩ := h; subst e; rfl)
      | (obtain ⟨_, _, _, _, _, _, _, _, _, _, _, e, _⟩ := h; subst e; rfl)
      | (obtain ⟨_, _, _, _, _, _, _, _, _, _, _, _, e, _⟩ := h; subst e; rfl)
      | (obtain ⟨_, _, _, _, _, _, _, _, _, _, _, _, _, e, _⟩ := h; subst e; rfl)
    · skip
      obtain ⟨p, rfl, k⟩ := h
      exact k
  exact ⟨fd, G, F.bindsN (fun _ _ _ _ _ _ us hl => match us, hl with | [_], _ => rfl), F.kp⟩
theorem sc_mOr_word : FnScope ["self"] ["self"] (defScope smOr_word) := ⟨rfl, rfl, rfl, by decide +kernel, rfl, by decide +kernel, by decide +kernel⟩
theorem fnk_mOr_word (T : Txt K mg) : ∃ fd, FnOk P w K mg base CX0 (1) (He.fAd K dmOr_word.at_) fd ["self"] (spWord .or_) ∧ Binds K fd ["self"] [] ∧ PySem.W.keepIn K (.ref (He.fAd K dmOr_word.at_)) = true := by
  obtain ⟨fd, F0⟩ := T.c.d.def_ 36 (d := dmOr_word) rfl
  have F : FunD K "word" "Or.word" (defArgs smOr_word) (defBody smOr_word) (defScope smOr_word) [] [] (He.fAd K dmOr_word.at_) fd := F0
  have G : FnOk P w K mg base CX0 1 (He.fAd K dmOr_word.at_) fd ["self"] (spWord .or_) := by
    refine F.ok (CX := CX0) sc_mOr_word (fun vs H Q E h => ?_) (fun cdv A outer s H vs Q E hr h => ⟨_, PSs.nox (by exact (pss_one (ps_ret pe_str))), ?_⟩)
    · first
      | (obtain ⟨e, _⟩ := h; subst e; rfl)
      | (obtain ⟨_, e, _⟩ := h; subst e; rfl)
      | (obtain ⟨_, _, e, _⟩ := h; subst e; rfl)
      | (obtain ⟨_, _, _, e, _⟩ := h; subst e; rfl)
      | (obtain ⟨_, _, _, _, e, _⟩ := h; subst e; rfl)
      | (obtain ⟨_, _, _, _, _, e, _⟩ := h; subst e; rfl)
      | (obtain ⟨_, _, _, _, _, _, e, _⟩ := h; subst e; rfl)
      | (obtain ⟨_, _, _, _, _, _, _, e, _⟩ := h; subst e; rfl)
      | (obtain ⟨_, _, _, _, _, _, _, _, e, _⟩ := h; subst e; rfl)
      | (obtain ⟨_, _, _, _, _, _, _, _, _, e, _⟩ := h; subst e; rfl)
      | (obtain ⟨_, _, _, _, _, _, _, _, _, _, e, _⟩ := h; subst e; rfl)
      | (obtain ⟨_, _, _, _, _, _, _, _, _, _, _, e, _⟩ := h; subst e; rfl)
      | (obtain ⟨_, _, _, _, _, _, _, _, _, _, _, _, e, _⟩ := h; subst e; rfl)
      | (obtain ⟨_, _, _, _, _, _, _, _, _, _, _, _, _, e, _⟩ := h; subst e; rfl)
    · skip
      obtain ⟨p, rfl, k⟩ := h
      exact k
  exact ⟨fd, G, F.bindsN (fun _ _ _ _ _ _ us hl => match us, hl with | [_], _ => rfl), F.kp⟩
theorem sc_mUnlike_word : FnScope ["self"] ["self"] (defScope smUnlike_word) := ⟨rfl, rfl, rfl, by decide +kernel, rfl, by decide +kernel, by decide +kernel⟩
theorem fnk_mUnlike_word (T : Txt K mg) : ∃ fd, FnOk P w K mg base CX0 (1) (He.fAd K dmUnlike_word.at_) fd ["self"] (spWord .unlike) ∧ Binds K fd ["self"] [] ∧ PySem.W.keepIn K (.ref (He.fAd K dmUnlike_word.at_)) = true := by
  obtain ⟨fd, F0⟩ := T.c.d.def_ 38 (d := dmUnlike_word) rfl
  have F : FunD K "word" "Unlike.word" (defArgs smUnlike_word) (defBody smUnlike_word) (defScope smUnlike_word) [] [] (He.fAd K dmUnlike_word.at_) fd := F0
  have G : FnOk P w K mg base CX0 1 (He.fAd K dmUnlike_word.at_) fd ["self"] (spWord .unlike) := by
    refine F.ok (CX := CX0) sc_mUnlike_word (fun vs H Q E h => ?_) (fun cdv A outer s H vs Q E hr h => ⟨_, PSs.nox (by exact (pss_one (ps_ret pe_str))), ?_⟩)
    · first
      | (obtain ⟨e, _⟩ := h; subst e; rfl)
      | (obtain ⟨_, e, _⟩ := h; subst e; rfl)
      | (obtain ⟨_, _, e, _⟩ := h; subst e; rfl)
      | (obtain ⟨_, _, _, e, _⟩ := h; subst e; rfl)
      | (obtain ⟨_, _, _, _, e, _⟩ := h; subst e; rfl)
      | (obtain ⟨_, _, _, _, _, e, _⟩ := h; subst e; rfl)
      | (obtain ⟨_, _, _, _, _, _, e, _⟩ := h; subst e; rfl)
      | (obtain ⟨_, _, _, _, _, _, _, e, _⟩ := h; subst e; rfl)
      | (obtain ⟨_, _, _, _, _, _, _, _, e, _⟩ := h; subst e; rfl)
      | (obtain ⟨_, _, _, _, _, _, _, _, _, e, _⟩ := h; subst e; rfl)
      | (obtain ⟨_, _, _, _, _, _, _, _, _, _, e, _⟩ := h; subst e; rfl)
      | (obtain ⟨_, _, _, _, _, _, _, _, _, _, _, e, _⟩ := h; subst e; rfl)
      | (obtain ⟨_, _, _, _, _, _, _, _, _, _, _, _, e, _⟩ := h; subst e; rfl)
      | (obtain ⟨_, _, _, _, _, _, _, _, _, _, _, _, _, e, _⟩ := h; subst e; rfl)
    · skip
      obtain ⟨p, rfl, k⟩ := h
      exact k
  exact ⟨fd, G, F.bindsN (fun _ _ _ _ _ _ us hl => match us, hl with | [_], _ => rfl), F.kp⟩
theorem sc_mUnder_word : FnScope ["self"] ["self"] (defScope smUnder_word) := ⟨rfl, rfl, rfl, by decide +kernel, rfl, by decide +kernel, by decide +kernel⟩
theorem fnk_mUnder_word (T : Txt K mg) : ∃ fd, FnOk P w K mg base CX0 (1) (He.fAd K dmUnder_word.at_) fd ["self"] (spWord .under) ∧ Binds K fd ["self"] [] ∧ PySem.W.keepIn K (.ref (He.fAd K dmUnder_word.at_)) = true := by
  obtain ⟨fd, F0⟩ := T.c.d.def_ 40 (d := dmUnder_word) rfl
  have F : FunD K "word" "Under.word" (defArgs smUnder_word) (defBody smUnder_word) (defScope smUnder_word) [] [] (He.fAd K dmUnder_word.at_) fd := F0
  have G : FnOk P w K mg base CX0 1 (He.fAd K dmUnder_word.at_) fd ["self"] (spWord .under) := by
    refine F.ok (CX := CX0) sc_mUnder_word (fun vs H Q E h => ?_) (fun cdv A outer s H vs Q E hr h => ⟨_, PSs.nox (by exact (pss_one (ps_ret pe_str))), ?_⟩)
    · first
      | (obtain ⟨e, _⟩ := h; subst e; rfl)
      | (obtain ⟨_, e, _⟩ := h; subst e; rfl)
      | (obtain ⟨_, _, e, _⟩ := h; subst e; rfl)
      | (obtain ⟨_, _, _, e, _⟩ := h; subst e; rfl)
      | (obtain ⟨_, _, _, _, e, _⟩ := h; subst e; rfl)
      | (obtain ⟨_, _, _, _, _, e, _⟩ := h; subst e; rfl)
      | (obtain ⟨_, _, _, _, _, _, e, _⟩ := h; subst e; rfl)
      | (obtain ⟨_, _, _, _, _, _, _, e, _⟩ := h; subst e; rfl)
      | (obtain ⟨_, _, _, _, _, _, _, _, e, _⟩ := h; subst e; rfl)
      | (obtain ⟨_, _, _, _, _, _, _, _, _, e, _⟩ := h; subst e; rfl)
      | (obtain ⟨_, _, _, _, _, _, _, _, _, _, e, _⟩ := h; subst e; rfl)
      | (obtain ⟨_, _, _, _, _, _, _, _, _, _, _, e, _⟩ := h; subst e; rfl)
      | (obtain ⟨_, _, _, _, _, _, _, _, _, _, _, _, e, _⟩ := h; subst e; rfl)
      | (obtain ⟨_, _, _, _, _, _, _, _, _, _, _, _, _, e, _⟩ := h; subst e; rfl)
    · skip
      obtain ⟨p, rfl, k⟩ := h
      exact k
  exact ⟨fd, G, F.bindsN (fun _ _ _ _ _ _ us hl => match us, hl with | [_], _ => rfl), F.kp⟩
theorem sc_mPick_word : FnScope ["self"] ["self"] (defScope smPick_word) := ⟨rfl, rfl, rfl, by decide +kernel, rfl, by decide +kernel, by decide +kernel⟩
theorem fnk_mPick_word (T : Txt K mg) : ∃ fd, FnOk P w K mg base CX0 (1) (He.fAd K dmPick_word.at_) fd ["self"] (spWord .pick) ∧ Binds K fd ["self"] [] ∧ PySem.W.keepIn K (.ref (He.fAd K dmPick_word.at_)) = true := by
  obtain ⟨fd, F0⟩ := T.c.d.def_ 63 (d := dmPick_word) rfl
  have F : FunD K "word" "Pick.word" (defArgs smPick_word) (defBody smPick_word) (defScope smPick_word) [] [] (He.fAd K dmPick_word.at_) fd := F0
  have G : FnOk P w K mg base CX0 1 (He.fAd K dmPick_word.at_) fd ["self"] (spWord .pick) := by
    refine F.ok (CX := CX0) sc_mPick_word (fun vs H Q E h => ?_) (fun cdv A outer s H vs Q E hr h => ⟨_, PSs.nox (by exact (pss_one (ps_ret pe_str))), ?_⟩)
    · first
      | (obtain ⟨e, _⟩ := h; subst e; rfl)
      | (obtain ⟨_, e, _⟩ := h; subst e; rfl)
      | (obtain ⟨_, _, e, _⟩ := h; subst e; rfl)
      | (obtain ⟨_, _, _, e, _⟩ := h; subst e; rfl)
      | (obtain ⟨_, _, _, _, e, _⟩ := h; subst e; rfl)
      | (obtain ⟨_, _, _, _, _, e, _⟩ := h; subst e; rfl)
      | (obtain ⟨_, _, _, _, _, _, e, _⟩ := h; subst e; rfl)
      | (obtain ⟨_, _, _, _, _, _, _, e, _⟩ := h; subst e; rfl)
      | (obtain ⟨_, _, _, _, _, _, _, _, e, _⟩ := h; subst e; rfl)
      | (obtain ⟨_, _, _, _, _, _, _, _, _, e, _⟩ := h; subst e; rfl)
      | (obtain ⟨_, _, _, _, _, _, _, _, _, _, e, _⟩ := h; subst e; rfl)
      | (obtain ⟨_, _, _, _, _, _, _, _, _, _, _, e, _⟩ := h; subst e; rfl)
      | (obtain ⟨_, _, _, _, _, _, _, _, _, _, _, _, e, _⟩ := h; subst e; rfl)
      | (obtain ⟨_, _, _, _, _, _, _, _, _, _, _, _, _, e, _⟩ := h; subst e; rfl)
    · skip
      obtain ⟨p, rfl, k⟩ := h
      exact k
  exact ⟨fd, G, F.bindsN (fun _ _ _ _ _ _ us hl => match us, hl with | [_], _ => rfl), F.kp⟩
theorem sc_mMark_word : FnScope ["self"] ["self"] (defScope smMark_word) := ⟨rfl, rfl, rfl, by decide +kernel, rfl, by decide +kernel, by decide +kernel⟩
theorem fnk_mMark_word (T : Txt K mg) : ∃ fd, FnOk P w K mg base CX0 (1) (He.fAd K dmMark_word.at_) fd ["self"] (spWord .mark) ∧ Binds K fd ["self"] [] ∧ PySem.W.keepIn K (.ref (He.fAd K dmMark_word.at_)) = true := by
  obtain ⟨fd, F0⟩ := T.c.d.def_ 68 (d := dmMark_word) rfl
  have F : FunD K "word" "Mark.word" (defArgs smMark_word) (defBody smMark_word) (defScope smMark_word) [] [] (He.fAd K dmMark_word.at_) fd := F0
  have G : FnOk P w K mg base CX0 1 (He.fAd K dmMark_word.at_) fd ["self"] (spWord .mark) := by
    refine F.ok (CX := CX0) sc_mMark_word (fun vs H Q E h => ?_) (fun cdv A outer s H vs Q E hr h => ⟨_, PSs.nox (by exact (pss_one (ps_ret pe_str))), ?_⟩)
    · first
      | (obtain ⟨e, _⟩ := h; subst e; rfl)
      | (obtain ⟨_, e, _⟩ := h; subst e; rfl)
      | (obtain ⟨_, _, e, _⟩ := h; subst e; rfl)
      | (obtain ⟨_, _, _, e, _⟩ := h; subst e; rfl)
      | (obtain ⟨_, _, _, _, e, _⟩ := h; subst e; rfl)
      | (obtain ⟨_, _, _, _, _, e, _⟩ := h; subst e; rfl)
      | (obtain ⟨_, _, _, _, _, _, e, _⟩ := h; subst e; rfl)
      | (obtain ⟨_, _, _, _, _, _, _, e, _⟩ := h; subst e; rfl)
      | (obtain ⟨_, _, _, _, _, _, _, _, e, _⟩ := h; subst e; rfl)
      | (obtain ⟨_, _, _, _, _, _, _, _, _, e, _⟩ := h; subst e; rfl)
      | (obtain ⟨_, _, _, _, _, _, _, _, _, _, e, _⟩ := h; subst e; rfl)
      | (obtain ⟨_, _, _, _, _, _, _, _, _, _, _, e, _⟩ := h; subst e; rfl)
      | (obtain ⟨_, _, _, _, _, _, _, _, _, _, _, _, e, _⟩ := h; subst e; rfl)
      | (obtain ⟨_, _, _, _, _, _, _, _, _, _, _, _, _, e, _⟩ := h; subst e; rfl)
    · skip
      obtain ⟨p, rfl, k⟩ := h
      exact k
  exact ⟨fd, G, F.bindsN (fun _ _ _ _ _ _ us hl => match us, hl with | [_], _ => rfl), F.kp⟩
theorem sc_mTurns_word : FnScope ["self"] ["self"] (defScope smTurns_word) := ⟨rfl, rfl, rfl, by decide +kernel, rfl, by decide +kernel, by decide +kernel⟩
theorem fnk_mTurns_word (T : Txt K mg) : ∃ fd, FnOk P w K mg base CX0 (1) (He.fAd K dmTurns_word.at_) fd ["self"] (spWord .turns) ∧ Binds K fd ["self"] [] ∧ PySem.W.keepIn K (.ref (He.fAd K dmTurns_word.at_)) = true := by
  obtain ⟨fd, F0⟩ := T.c.d.def_ 73 (d := dmTurns_word) rfl
  have F : FunD K "word" "Turns.word" (defArgs smTurns_word) (defBody smTurns_word) (defScope smTurns_word) [] [] (He.fAd K dmTurns_word.at_) fd := F0
  have G : FnOk P w K mg base CX0 1 (He.fAd K dmTurns_word.at_) fd ["self"] (spWord .turns) := by
    refine F.ok (CX := CX0) sc_mTurns_word (fun vs H Q E h => ?_) (fun cdv A outer s H vs Q E hr h => ⟨_, PSs.nox (by exact (pss_one (ps_ret pe_str))), ?_⟩)
    · first
      | (obtain ⟨e, _⟩ := h; subst e; rfl)
      | (obtain ⟨_, e, _⟩ := h; subst e; rfl)
      | (obtain ⟨_, _, e, _⟩ := h; subst e; rfl)
      | (obtain ⟨_, _, _, e, _⟩ := h; subst e; rfl)
      | (obtain ⟨_, _, _, _, e, _⟩ := h; subst e; rfl)
      | (obtain ⟨_, _, _, _, _, e, _⟩ := h; subst e; rfl)
      | (obtain ⟨_, _, _, _, _, _, e, _⟩ := h; subst e; rfl)
      | (obtain ⟨_, _, _, _, _, _, _, e, _⟩ := h; subst e; rfl)
      | (obtain ⟨_, _, _, _, _, _, _, _, e, _⟩ := h; subst e; rfl)
      | (obtain ⟨_, _, _, _, _, _, _, _, _, e, _⟩ := h; subst e; rfl)
      | (obtain ⟨_, _, _, _, _, _, _, _, _, _, e, _⟩ := h; subst e; rfl)
      | (obtain ⟨_, _, _, _, _, _, _, _, _, _, _, e, _⟩ := h; subst e; rfl)
      | (obtain ⟨_, _, _, _, _, _, _, _, _, _, _, _, e, _⟩ := h; subst e; rfl)
      | (obtain ⟨_, _, _, _, _, _, _, _, _, _, _, _, _, e, _⟩ := h; subst e; rfl)
    · skip
      obtain ⟨p, rfl, k⟩ := h
      exact k
  exact ⟨fd, G, F.bindsN (fun _ _ _ _ _ _ us hl => match us, hl with | [_], _ => rfl), F.kp⟩
def spI_Set (K : PySem.W.Frag) : Sp := fun vs H Q _ => ∃ (p dx : Addr) (g : Str) (b : Int), vs = [.ref p, .str g, .int b] ∧ H p = some (.ins (Cl.ad K .set) dx []) ∧ Q .non (upd H p (.ins (Cl.ad K .set) dx (Leaf.flds (.set g b))))
theorem sc_mSet_init : FnScope ["self", "goal", "bits"] ["self", "goal", "bits"] (defScope smSet_init) := ⟨rfl, rfl, rfl, by decide +kernel, rfl, by decide +kernel, by decide +kernel⟩
theorem fnk_mSet_init (T : Txt K mg) : ∃ fd, FnOk P w K mg base CX0 (1) (He.fAd K dmSet_init.at_) fd ["self", "goal", "bits"] (spI_Set K) ∧ Binds K fd ["self", "goal", "bits"] [] ∧ PySem.W.keepIn K (.ref (He.fAd K dmSet_init.at_)) = true := by
  obtain ⟨fd, F0⟩ := T.c.d.def_ 15 (d := dmSet_init) rfl
  have F : FunD K "__init__" "Set.__init__" (defArgs smSet_init) (defBody smSet_init) (defScope smSet_init) [] [] (He.fAd K dmSet_init.at_) fd := F0
  have G : FnOk P w K mg base CX0 1 (He.fAd K dmSet_init.at_) fd ["self", "goal", "bits"] (spI_Set K) := by
    refine F.ok (CX := CX0) sc_mSet_init (fun vs H Q E h => ?_) (fun cdv A outer s H vs Q E hr h => ⟨_, PSs.nox (by exact (pss_cons (ps_fld (pv 0) (pv 1) rfl)
      (pss_one (ps_fld (pv 0) (pv 2) rfl)))), ?_⟩)
    · first
      | (obtain ⟨e, _⟩ := h; subst e; rfl)
      | (obtain ⟨_, e, _⟩ := h; subst e; rfl)
      | (obtain ⟨_, _, e, _⟩ := h; subst e; rfl)
      | (obtain ⟨_, _, _, e, _⟩ := h; subst e; rfl)
      | (obtain ⟨_, _, _, _, e, _⟩ := h; subst e; rfl)
      | (obtain ⟨_, _, _, _, _, e, _⟩ := h; subst e; rfl)
      | (obtain ⟨_, _, _, _, _, _, e, _⟩ := h; subst e; rfl)
      | (obtain ⟨_, _, _, _, _, _, _, e, _⟩ := h; subst e; rfl)
      | (obtain ⟨_, _, _, _, _, _, _, _, e, _⟩ := h; subst e; rfl)
      | (obtain ⟨_, _, _, _, _, _, _, _, _, e, _⟩ := h; subst e; rfl)
      | (obtain ⟨_, _, _, _, _, _, _, _, _, _, e, _⟩ := h; subst e; rfl)
      | (obtain ⟨_, _, _, _, _, _, _, _, _, _, _, e, _⟩ := h; subst e; rfl)
      | (obtain ⟨_, _, _, _, _, _, _, _, _, _, _, _, e, _⟩ := h; subst e; rfl)
      | (obtain ⟨_, _, _, _, _, _, _, _, _, _, _, _, _, e, _⟩ := h; subst e; rfl)
    · skip
      obtain ⟨p, dx, g, b, rfl, hp, k⟩ := h
      refine ⟨_, rfl, _, rfl, _, _, _, _, rfl, hp, T.cls _, T.na_Set_goal, Nat.lt_of_lt_of_le (Nat.lt_succ_self _) (Nat.le_of_ble_eq_true rfl), ?_⟩
      refine ⟨_, rfl, _, rfl, _, _, _, _, rfl, upd_same, T.cls _, T.na_Set_bits, Nat.lt_of_lt_of_le (Nat.lt_succ_self _) (Nat.le_of_ble_eq_true rfl), ?_⟩
      rw [upd_upd]
      exact k
  exact ⟨fd, G, F.bindsN (fun _ _ _ _ _ _ us hl => match us, hl with | [_, _, _], _ => rfl), F.kp⟩
def spI_Copy (K : PySem.W.Frag) : Sp := fun vs H Q _ => ∃ (p dx : Addr) (g a : Str), vs = [.ref p, .str g, .str a] ∧ H p = some (.ins (Cl.ad K .copy) dx []) ∧ Q .non (upd H p (.ins (Cl.ad K .copy) dx (Leaf.flds (.copy g a))))
theorem sc_mCopy_init : FnScope ["self", "goal", "one"] ["self", "goal", "one"] (defScope smCopy_init) := ⟨rfl, rfl, rfl, by decide +kernel, rfl, by decide +kernel, by decide +kernel⟩
theorem fnk_mCopy_init (T : Txt K mg) : ∃ fd, FnOk P w K mg base CX0 (1) (He.fAd K dmCopy_init.at_) fd ["self", "goal", "one"] (spI_Copy K) ∧ Binds K fd ["self", "goal", "one"] [] ∧ PySem.W.keepIn K (.ref (He.fAd K dmCopy_init.at_)) = true := by
  obtain ⟨fd, F0⟩ := T.c.d.def_ 20 (d := dmCopy_init) rfl
  have F : FunD K "__init__" "Copy.__init__" (defArgs smCopy_init) (defBody smCopy_init) (defScope smCopy_init) [] [] (He.fAd K dmCopy_init.at_) fd := F0
  have G : FnOk P w K mg base CX0 1 (He.fAd K dmCopy_init.at_) fd ["self", "goal", "one"] (spI_Copy K) := by
    refine F.ok (CX := CX0) sc_mCopy_init (fun vs H Q E h => ?_) (fun cdv A outer s H vs Q E hr h => ⟨_, PSs.nox (by exact (pss_cons (ps_fld (pv 0) (pv 1) rfl)
      (pss_one (ps_fld (pv 0) (pv 2) rfl)))), ?_⟩)
    · first
      | (obtain ⟨e, _⟩ := h; subst e; rfl)
      | (obtain ⟨_, e, _⟩ := h; subst e; rfl)
      | (obtain ⟨_, _, e, _⟩ := h; subst e; rfl)
      | (obtain ⟨_, _, _, e, _⟩ := h; subst e; rfl)
      | (obtain ⟨_, _, _, _, e, _⟩ := h; subst e; rfl)
      | (obtain ⟨_, _, _, _, _, e, _⟩ := h; subst e; rfl)
      | (obtain ⟨_, _, _, _, _, _, e, _⟩ := h; subst e; rfl)
      | (obtain ⟨_, _, _, _, _, _, _, e, _⟩ := h; subst e; rfl)
      | (obtain ⟨_, _, _, _, _, _, _, _, e, _⟩ := h; subst e; rfl)
      | (obtain ⟨_, _, _, _, _, _, _, _, _, e, _⟩ := h; subst e; rfl)
      | (obtain ⟨_, _, _, _, _, _, _, _, _, _, e, _⟩ := h; subst e; rfl)
      | (obtain ⟨_, _, _, _, _, _, _, _, _, _, _, e, _⟩ := h; subst e; rfl)
      | (obtain ⟨_, _, _, _, _, _, _, _, _, _, _, _, e, _⟩ := h; subst e; rfl)
      | (obtain ⟨_, _, _, _, _, _, _, _, _, _, _, _, _, e, _⟩ := h; subst e; rfl)
    · skip
      obtain ⟨p, dx, g, a, rfl, hp, k⟩ := h
      refine ⟨_, rfl, _, rfl, _, _, _, _, rfl, hp, T.cls _, T.na_Copy_goal, Nat.lt_of_lt_of_le (Nat.lt_succ_self _) (Nat.le_of_ble_eq_true rfl), ?_⟩
      refine ⟨_, rfl, _, rfl, _, _, _, _, rfl, upd_same, T.cls _, T.na_Copy_one, Nat.lt_of_lt_of_le (Nat.lt_succ_self _) (Nat.le_of_ble_eq_true rfl), ?_⟩
      rw [upd_upd]
      exact k
  exact ⟨fd, G, F.bindsN (fun _ _ _ _ _ _ us hl => match us, hl with | [_, _, _], _ => rfl), F.kp⟩
def spI_Pair (K : PySem.W.Frag) : Sp := fun vs H Q _ => ∃ (p dx : Addr) (c : PO) (g a b : Str), vs = [.ref p, .str g, .str a, .str b] ∧ H p = some (.ins (Cl.ad K c.cl) dx []) ∧ Q .non (upd H p (.ins (Cl.ad K c.cl) dx (Leaf.flds (.pair c g a b))))
theorem sc_mPair_init : FnScope ["self", "goal", "one", "other"] ["self", "goal", "one", "other"] (defScope smPair_init) := ⟨rfl, rfl, rfl, by decide +kernel, rfl, by decide +kernel, by decide +kernel⟩
theorem fnk_mPair_init (T : Txt K mg) : ∃ fd, FnOk P w K mg base CX0 (1) (He.fAd K dmPair_init.at_) fd ["self", "goal", "one", "other"] (spI_Pair K) ∧ Binds K fd ["self", "goal", "one", "other"] [] ∧ PySem.W.keepIn K (.ref (He.fAd K dmPair_init.at_)) = true := by
  obtain ⟨fd, F0⟩ := T.c.d.def_ 25 (d := dmPair_init) rfl
  have F : FunD K "__init__" "Pair.__init__" (defArgs smPair_init) (defBody smPair_init) (defScope smPair_init) [] [] (He.fAd K dmPair_init.at_) fd := F0
  have G : FnOk P w K mg base CX0 1 (He.fAd K dmPair_init.at_) fd ["self", "goal", "one", "other"] (spI_Pair K) := by
    refine F.ok (CX := CX0) sc_mPair_init (fun vs H Q E h => ?_) (fun cdv A outer s H vs Q E hr h => ⟨_, PSs.nox (by exact (pss_cons (ps_fld (pv 0) (pv 1) rfl)
      (pss_cons (ps_fld (pv 0) (pv 2) rfl)
      (pss_one (ps_fld (pv 0) (pv 3) rfl))))), ?_⟩)
    · first
      | (obtain ⟨e, _⟩ := h; subst e; rfl)
      | (obtain ⟨_, e, _⟩ := h; subst e; rfl)
      | (obtain ⟨_, _, e, _⟩ := h; subst e; rfl)
      | (obtain ⟨_, _, _, e, _⟩ := h; subst e; rfl)
      | (obtain ⟨_, _, _, _, e, _⟩ := h; subst e; rfl)
      | (obtain ⟨_, _, _, _, _, e, _⟩ := h; subst e; rfl)
      | (obtain ⟨_, _, _, _, _, _, e, _⟩ := h; subst e; rfl)
      | (obtain ⟨_, _, _, _, _, _, _, e, _⟩ := h; subst e; rfl)
      | (obtain ⟨_, _, _, _, _, _, _, _, e, _⟩ := h; subst e; rfl)
      | (obtain ⟨_, _, _, _, _, _, _, _, _, e, _⟩ := h; subst e; rfl)
      | (obtain ⟨_, _, _, _, _, _, _, _, _, _, e, _⟩ := h; subst e; rfl)
      | (obtain ⟨_, _, _, _, _, _, _, _, _, _, _, e, _⟩ := h; subst e; rfl)
      | (obtain ⟨_, _, _, _, _, _, _, _, _, _, _, _, e, _⟩ := h; subst e; rfl)
      | (obtain ⟨_, _, _, _, _, _, _, _, _, _, _, _, _, e, _⟩ := h; subst e; rfl)
    · skip
      obtain ⟨p, dx, c, g, a, b, rfl, hp, k⟩ := h
      refine ⟨_, rfl, _, rfl, _, _, _, _, rfl, hp, T.cls _, T.na_PO_goal c, Nat.lt_of_lt_of_le (Nat.lt_succ_self _) (Nat.le_of_ble_eq_true rfl), ?_⟩
      refine ⟨_, rfl, _, rfl, _, _, _, _, rfl, upd_same, T.cls _, T.na_PO_one c, Nat.lt_of_lt_of_le (Nat.lt_succ_self _) (Nat.le_of_ble_eq_true rfl), ?_⟩
      rw [upd_upd]
      refine ⟨_, rfl, _, rfl, _, _, _, _, rfl, upd_same, T.cls _, T.na_PO_other c, Nat.lt_of_lt_of_le (Nat.lt_succ_self _) (Nat.le_of_ble_eq_true rfl), ?_⟩
      rw [upd_upd]
      exact k
  exact ⟨fd, G, F.bindsN (fun _ _ _ _ _ _ us hl => match us, hl with | [_, _, _, _], _ => rfl), F.kp⟩
def spI_Carrying (K : PySem.W.Frag) : Sp := fun vs H Q _ => ∃ (p dx : Addr) (c : CO) (g : Str) (y : Option Str) (a b : Str), vs = [.ref p, .str g, optV y, .str a, .str b] ∧ H p = some (.ins (Cl.ad K c.cl) dx []) ∧ Q .non (upd H p (.ins (Cl.ad K c.cl) dx (Leaf.flds (.carry c g y a b))))
theorem sc_mCarrying_init : FnScope ["self", "goal", "carry", "one", "other"] ["self", "goal", "carry", "one", "other"] (defScope smCarrying_init) := ⟨rfl, rfl, rfl, by decide +kernel, rfl, by decide +kernel, by decide +kernel⟩
theorem fnk_mCarrying_init (T : Txt K mg) : ∃ fd, FnOk P w K mg base CX0 (1) (He.fAd K dmCarrying_init.at_) fd ["self", "goal", "carry", "one", "other"] (spI_Carrying K) ∧ Binds K fd ["self", "goal", "carry", "one", "other"] [] ∧ PySem.W.keepIn K (.ref (He.fAd K dmCarrying_init.at_)) = true := by
  obtain ⟨fd, F0⟩ := T.c.d.def_ 42 (d := dmCarrying_init) rfl
  have F : FunD K "__init__" "Carrying.__init__" (defArgs smCarrying_init) (defBody smCarrying_init) (defScope smCarrying_init) [] [] (He.fAd K dmCarrying_init.at_) fd := F0
  have G : FnOk P w K mg base CX0 1 (He.fAd K dmCarrying_init.at_) fd ["self", "goal", "carry", "one", "other"] (spI_Carrying K) := by
    refine F.ok (CX := CX0) sc_mCarrying_init (fun vs H Q E h => ?_) (fun cdv A outer s H vs Q E hr h => ⟨_, PSs.nox (by exact (pss_cons (ps_fld (pv 0) (pv 1) rfl)
      (pss_cons (ps_fld (pv 0) (pv 2) rfl)
      (pss_cons (ps_fld (pv 0) (pv 3) rfl)
      (pss_one (ps_fld (pv 0) (pv 4) rfl)))))), ?_⟩)
    · first
      | (obtain ⟨e, _⟩ := h; subst e; rfl)
      | (obtain ⟨_, e, _⟩ := h; subst e; rfl)
      | (obtain ⟨_, _, e, _⟩ := h; subst e; rfl)
      | (obtain ⟨_, _, _, e, _⟩ := h; subst e; rfl)
      | (obtain ⟨_, _, _, _, e, _⟩ := h; subst e; rfl)
      | (obtain ⟨_, _, _, _, _, e, _⟩ := h; subst e; rfl)
      | (obtain ⟨_, _, _, _, _, _, e, _⟩ := h; subst e; rfl)
      | (obtain ⟨_, _, _, _, _, _, _, e, _⟩ := h; subst e; rfl)
      | (obtain ⟨_, _, _, _, _, _, _, _, e, _⟩ := h; subst e; rfl)
      | (obtain ⟨_, _, _, _, _, _, _, _, _, e, _⟩ := h; subst e; rfl)
      | (obtain ⟨_, _, _, _, _, _, _, _, _, _, e, _⟩ := h; subst e; rfl)
      | (obtain ⟨_, _, _, _, _, _, _, _, _, _, _, e, _⟩ := h; subst e; rfl)
      | (obtain ⟨_, _, _, _, _, _, _, _, _, _, _, _, e, _⟩ := h; subst e; rfl)
      | (obtain ⟨_, _, _, _, _, _, _, _, _, _, _, _, _, e, _⟩ := h; subst e; rfl)
    · skip
      obtain ⟨p, dx, c, g, y, a, b, rfl, hp, k⟩ := h
      refine ⟨_, rfl, _, rfl, _, _, _, _, rfl, hp, T.cls _, T.na_CO_goal c, Nat.lt_of_lt_of_le (Nat.lt_succ_self _) (Nat.le_of_ble_eq_true rfl), ?_⟩
      refine ⟨_, rfl, _, rfl, _, _, _, _, rfl, upd_same, T.cls _, T.na_CO_carry c, Nat.lt_of_lt_of_le (Nat.lt_succ_self _) (Nat.le_of_ble_eq_true rfl), ?_⟩
      rw [upd_upd]
      refine ⟨_, rfl, _, rfl, _, _, _, _, rfl, upd_same, T.cls _, T.na_CO_one c, Nat.lt_of_lt_of_le (Nat.lt_succ_self _) (Nat.le_of_ble_eq_true rfl), ?_⟩
      rw [upd_upd]
      refine ⟨_, rfl, _, rfl, _, _, _, _, rfl, upd_same, T.cls _, T.na_CO_other c, Nat.lt_of_lt_of_le (Nat.lt_succ_self _) (Nat.le_of_ble_eq_true rfl), ?_⟩
      rw [upd_upd]
      exact k
  exact ⟨fd, G, F.bindsN (fun _ _ _ _ _ _ us hl => match us, hl with | [_, _, _, _, _], _ => rfl), F.kp⟩
def spI_Shift (K : PySem.W.Frag) : Sp := fun vs H Q _ => ∃ (p dx : Addr) (c : SO) (g a : Str) (j : Int), vs = [.ref p, .str g, .str a, .int j] ∧ H p = some (.ins (Cl.ad K c.cl) dx []) ∧ Q .non (upd H p (.ins (Cl.ad K c.cl) dx (Leaf.flds (.shift c g a j))))
theorem sc_mShift_init : FnScope ["self", "goal", "one", "k"] ["self", "goal", "one", "k"] (defScope smShift_init) := ⟨rfl, rfl, rfl, by decide +kernel, rfl, by decide +kernel, by decide +kernel⟩
theorem fnk_mShift_init (T : Txt K mg) : ∃ fd, FnOk P w K mg base CX0 (1) (He.fAd K dmShift_init.at_) fd ["self", "goal", "one", "k"] (spI_Shift K) ∧ Binds K fd ["self", "goal", "one", "k"] [] ∧ PySem.W.keepIn K (.ref (He.fAd K dmShift_init.at_)) = true := by
  obtain ⟨fd, F0⟩ := T.c.d.def_ 51 (d := dmShift_init) rfl
  have F : FunD K "__init__" "Shift.__init__" (defArgs smShift_init) (defBody smShift_init) (defScope smShift_init) [] [] (He.fAd K dmShift_init.at_) fd := F0
  have G : FnOk P w K mg base CX0 1 (He.fAd K dmShift_init.at_) fd ["self", "goal", "one", "k"] (spI_Shift K) := by
    refine F.ok (CX := CX0) sc_mShift_init (fun vs H Q E h => ?_) (fun cdv A outer s H vs Q E hr h => ⟨_, PSs.nox (by exact (pss_cons (ps_fld (pv 0) (pv 1) rfl)
      (pss_cons (ps_fld (pv 0) (pv 2) rfl)
      (pss_one (ps_fld (pv 0) (pv 3) rfl))))), ?_⟩)
    · first
      | (obtain ⟨e, _⟩ := h; subst e; rfl)
      | (obtain ⟨_, e, _⟩ := h; subst e; rfl)
      | (obtain ⟨_, _, e, _⟩ := h; subst e; rfl)
      | (obtain ⟨_, _, _, e, _⟩ := h; subst e; rfl)
      | (obtain ⟨_, _, _, _, e, _⟩ := h; subst e; rfl)
      | (obtain ⟨_, _, _, _, _, e, _⟩ := h; subst e; rfl)
      | (obtain ⟨_, _, _, _, _, _, e, _⟩ := h; subst e; rfl)
      | (obtain ⟨_, _, _, _, _, _, _, e, _⟩ := h; subst e; rfl)
      | (obtain ⟨_, _, _, _, _, _, _, _, e, _⟩ := h; subst e; rfl)
      | (obtain ⟨_, _, _, _, _, _, _, _, _, e, _⟩ := h; subst e; rfl)
      | (obtain ⟨_, _, _, _, _, _, _, _, _, _, e, _⟩ := h; subst e; rfl)
      | (obtain ⟨_, _, _, _, _, _, _, _, _, _, _, e, _⟩ := h; subst e; rfl)
      | (obtain ⟨_, _, _, _, _, _, _, _, _, _, _, _, e, _⟩ := h; subst e; rfl)
      | (obtain ⟨_, _, _, _, _, _, _, _, _, _, _, _, _, e, _⟩ := h; subst e; rfl)
    · skip
      obtain ⟨p, dx, c, g, a, j, rfl, hp, k⟩ := h
      refine ⟨_, rfl, _, rfl, _, _, _, _, rfl, hp, T.cls _, T.na_SO_goal c, Nat.lt_of_lt_of_le (Nat.lt_succ_self _) (Nat.le_of_ble_eq_true rfl), ?_⟩
      refine ⟨_, rfl, _, rfl, _, _, _, _, rfl, upd_same, T.cls _, T.na_SO_one c, Nat.lt_of_lt_of_le (Nat.lt_succ_self _) (Nat.le_of_ble_eq_true rfl), ?_⟩
      rw [upd_upd]
      refine ⟨_, rfl, _, rfl, _, _, _, _, rfl, upd_same, T.cls _, T.na_SO_k c, Nat.lt_of_lt_of_le (Nat.lt_succ_self _) (Nat.le_of_ble_eq_true rfl), ?_⟩
      rw [upd_upd]
      exact k
  exact ⟨fd, G, F.bindsN (fun _ _ _ _ _ _ us hl => match us, hl with | [_, _, _, _], _ => rfl), F.kp⟩
def spI_Pick (K : PySem.W.Frag) : Sp := fun vs H Q _ => ∃ (p dx : Addr) (g y a b : Str), vs = [.ref p, .str g, .str y, .str a, .str b] ∧ H p = some (.ins (Cl.ad K .pick) dx []) ∧ Q .non (upd H p (.ins (Cl.ad K .pick) dx (Leaf.flds (.pick g y a b))))
theorem sc_mPick_init : FnScope ["self", "goal", "by", "one", "other"] ["self", "goal", "by", "one", "other"] (defScope smPick_init) := ⟨rfl, rfl, rfl, by decide +kernel, rfl, by decide +kernel, by decide +kernel⟩
theorem fnk_mPick_init (T : Txt K mg) : ∃ fd, FnOk P w K mg base CX0 (1) (He.fAd K dmPick_init.at_) fd ["self", "goal", "by", "one", "other"] (spI_Pick K) ∧ Binds K fd ["self", "goal", "by", "one", "other"] [] ∧ PySem.W.keepIn K (.ref (He.fAd K dmPick_init.at_)) = true := by
  obtain ⟨fd, F0⟩ := T.c.d.def_ 62 (d := dmPick_init) rfl
  have F : FunD K "__init__" "Pick.__init__" (defArgs smPick_init) (defBody smPick_init) (defScope smPick_init) [] [] (He.fAd K dmPick_init.at_) fd := F0
  have G : FnOk P w K mg base CX0 1 (He.fAd K dmPick_init.at_) fd ["self", "goal", "by", "one", "other"] (spI_Pick K) := by
    refine F.ok (CX := CX0) sc_mPick_init (fun vs H Q E h => ?_) (fun cdv A outer s H vs Q E hr h => ⟨_, PSs.nox (by exact (pss_cons (ps_fld (pv 0) (pv 1) rfl)
      (pss_cons (ps_fld (pv 0) (pv 2) rfl)
      (pss_cons (ps_fld (pv 0) (pv 3) rfl)
      (pss_one (ps_fld (pv 0) (pv 4) rfl)))))), ?_⟩)
    · first
      | (obtain ⟨e, _⟩ := h; subst e; rfl)
      | (obtain ⟨_, e, _⟩ := h; subst e; rfl)
      | (obtain ⟨_, _, e, _⟩ := h; subst e; rfl)
      | (obtain ⟨_, _, _, e, _⟩ := h; subst e; rfl)
      | (obtain ⟨_, _, _, _, e, _⟩ := h; subst e; rfl)
      | (obtain ⟨_, _, _, _, _, e, _⟩ := h; subst e; rfl)
      | (obtain ⟨_, _, _, _, _, _, e, _⟩ := h; subst e; rfl)
      | (obtain ⟨_, _, _, _, _, _, _, e, _⟩ := h; subst e; rfl)
      | (obtain ⟨_, _, _, _, _, _, _, _, e, _⟩ := h; subst e; rfl)
      | (obtain ⟨_, _, _, _, _, _, _, _, _, e, _⟩ := h; subst e; rfl)
      | (obtain ⟨_, _, _, _, _, _, _, _, _, _, e, _⟩ := h; subst e; rfl)
      | (obtain ⟨_, _, _, _, _, _, _, _, _, _, _, e, _⟩ := h; subst e; rfl)
      | (obtain ⟨_, _, _, _, _, _, _, _, _, _, _, _, e, _⟩ := h; subst e; rfl)
      | (obtain ⟨_, _, _, _, _, _, _, _, _, _, _, _, _, e, _⟩ := h; subst e; rfl)
    · skip
      obtain ⟨p, dx, g, y, a, b, rfl, hp, k⟩ := h
      refine ⟨_, rfl, _, rfl, _, _, _, _, rfl, hp, T.cls _, T.na_Pick_goal, Nat.lt_of_lt_of_le (Nat.lt_succ_self _) (Nat.le_of_ble_eq_true rfl), ?_⟩
      refine ⟨_, rfl, _, rfl, _, _, _, _, rfl, upd_same, T.cls _, T.na_Pick_by, Nat.lt_of_lt_of_le (Nat.lt_succ_self _) (Nat.le_of_ble_eq_true rfl), ?_⟩
      rw [upd_upd]
      refine ⟨_, rfl, _, rfl, _, _, _, _, rfl, upd_same, T.cls _, T.na_Pick_one, Nat.lt_of_lt_of_le (Nat.lt_succ_self _) (Nat.le_of_ble_eq_true rfl), ?_⟩
      rw [upd_upd]
      refine ⟨_, rfl, _, rfl, _, _, _, _, rfl, upd_same, T.cls _, T.na_Pick_other, Nat.lt_of_lt_of_le (Nat.lt_succ_self _) (Nat.le_of_ble_eq_true rfl), ?_⟩
      rw [upd_upd]
      exact k
  exact ⟨fd, G, F.bindsN (fun _ _ _ _ _ _ us hl => match us, hl with | [_, _, _, _, _], _ => rfl), F.kp⟩
def spI_Mark (K : PySem.W.Frag) : Sp := fun vs H Q _ => ∃ (p dx : Addr) (ln : Int) (m y : Str), vs = [.ref p, .int ln, .str m, .str y] ∧ H p = some (.ins (Cl.ad K .mark) dx []) ∧ Q .non (upd H p (.ins (Cl.ad K .mark) dx (Leaf.flds (.mark ln m y))))
theorem sc_mMark_init : FnScope ["self", "line", "mark", "by"] ["self", "line", "mark", "by"] (defScope smMark_init) := ⟨rfl, rfl, rfl, by decide +kernel, rfl, by decide +kernel, by decide +kernel⟩
theorem fnk_mMark_init (T : Txt K mg) : ∃ fd, FnOk P w K mg base CX0 (1) (He.fAd K dmMark_init.at_) fd ["self", "line", "mark", "by"] (spI_Mark K) ∧ Binds K fd ["self", "line", "mark", "by"] [] ∧ PySem.W.keepIn K (.ref (He.fAd K dmMark_init.at_)) = true := by
  obtain ⟨fd, F0⟩ := T.c.d.def_ 67 (d := dmMark_init) rfl
  have F : FunD K "__init__" "Mark.__init__" (defArgs smMark_init) (defBody smMark_init) (defScope smMark_init) [] [] (He.fAd K dmMark_init.at_) fd := F0
  have G : FnOk P w K mg base CX0 1 (He.fAd K dmMark_init.at_) fd ["self", "line", "mark", "by"] (spI_Mark K) := by
    refine F.ok (CX := CX0) sc_mMark_init (fun vs H Q E h => ?_) (fun cdv A outer s H vs Q E hr h => ⟨_, PSs.nox (by exact (pss_cons (ps_fld (pv 0) (pv 1) rfl)
      (pss_cons (ps_fld (pv 0) (pv 2) rfl)
      (pss_one (ps_fld (pv 0) (pv 3) rfl))))), ?_⟩)
    · first
      | (obtain ⟨e, _⟩ := h; subst e; rfl)
      | (obtain ⟨_, e, _⟩ := h; subst e; rfl)
      | (obtain ⟨_, _, e, _⟩ := h; subst e; rfl)
      | (obtain ⟨_, _, _, e, _⟩ := h; subst e; rfl)
      | (obtain ⟨_, _, _, _, e, _⟩ := h; subst e; rfl)
      | (obtain ⟨_, _, _, _, _, e, _⟩ := h; subst e; rfl)
      | (obtain ⟨_, _, _, _, _, _, e, _⟩ := h; subst e; rfl)
      | (obtain ⟨_, _, _, _, _, _, _, e, _⟩ := h; subst e; rfl)
      | (obtain ⟨_, _, _, _, _, _, _, _, e, _⟩ := h; subst e; rfl)
      | (obtain ⟨_, _, _, _, _, _, _, _, _, e, _⟩ := h; subst e; rfl)
      | (obtain ⟨_, _, _, _, _, _, _, _, _, _, e, _⟩ := h; subst e; rfl)
      | (obtain ⟨_, _, _, _, _, _, _, _, _, _, _, e, _⟩ := h; subst e; rfl)
      | (obtain ⟨_, _, _, _, _, _, _, _, _, _, _, _, e, _⟩ := h; subst e; rfl)
      | (obtain ⟨_, _, _, _, _, _, _, _, _, _, _, _, _, e, _⟩ := h; subst e; rfl)
    · skip
      obtain ⟨p, dx, ln, m, y, rfl, hp, k⟩ := h
      refine ⟨_, rfl, _, rfl, _, _, _, _, rfl, hp, T.cls _, T.na_Mark_line, Nat.lt_of_lt_of_le (Nat.lt_succ_self _) (Nat.le_of_ble_eq_true rfl), ?_⟩
      refine ⟨_, rfl, _, rfl, _, _, _, _, rfl, upd_same, T.cls _, T.na_Mark_mark, Nat.lt_of_lt_of_le (Nat.lt_succ_self _) (Nat.le_of_ble_eq_true rfl), ?_⟩
      rw [upd_upd]
      refine ⟨_, rfl, _, rfl, _, _, _, _, rfl, upd_same, T.cls _, T.na_Mark_by, Nat.lt_of_lt_of_le (Nat.lt_succ_self _) (Nat.le_of_ble_eq_true rfl), ?_⟩
      rw [upd_upd]
      exact k
  exact ⟨fd, G, F.bindsN (fun _ _ _ _ _ _ us hl => match us, hl with | [_, _, _, _], _ => rfl), F.kp⟩
/-- a list against the empty one -/
def rNeNil (K : PySem.W.Frag) : R2 := fun x y H Q => ∃ a b xs, x = .ref a ∧ y = .ref b ∧ SqL K H a xs ∧ SqL K H b [] ∧ Q (.bl (!xs.isEmpty)) H
theorem op_neNil {X : Cx} (hu : X.A.units < cLine) : OpR X (compareOp .NotEq) (rNeNil X.K) := by
  intro pins s σ H x y v u Q I rx ry h
  obtain ⟨a, b, xs, rfl, rfl, h1, h2, q⟩ := h
  obtain rfl : v = Value.ref a := rx
  obtain rfl : u = Value.ref b := ry
  obtain ⟨its, r1, p1, _⟩ := I.list h1
  obtain ⟨its2, r2, p2, _⟩ := I.list h2
  have l1 := r1.length
  have l2 := r2.length
  cases xs with
  | nil =>
    have e1 : its = [] := List.length_eq_zero_iff.mp l1.symm
    have e2 : its2 = [] := List.length_eq_zero_iff.mp l2.symm
    subst e1 e2
    exact SeqAt.RcNeAt.lists (e := fun _ => true) p1.isList p2.isList rfl hu (fun j h1 h2 => absurd h1 (Nat.not_lt_zero _)) _ _ _ _ ⟨.bl _, H, I, rfl, q⟩
  | cons z r =>
    have e2 : its2 = [] := List.length_eq_zero_iff.mp l2.symm
    subst e2
    refine SeqAt.RcNeAt.lists_lengths p1.isList p2.isList ?_ hu _ _ _ _ ⟨.bl _, H, I, rfl, q⟩
    rw [List.size_toArray, ← l1]
    rfl
theorem met_word (T : Txt K mg) (c : Cl) : Met P w K mg base 1 (c.ad K) "word" (spWord c) [] := by
  cases c
  · obtain ⟨fd, G, b, _⟩ := fnk_mSet_word (P := P) (w := w) (base := base) T
    exact ⟨_, fd, _, [], T.cl_Set, T.me_Set_word, G, b, .nil⟩
  · obtain ⟨fd, G, b, _⟩ := fnk_mCopy_word (P := P) (w := w) (base := base) T
    exact ⟨_, fd, _, [], T.cl_Copy, T.me_Copy_word, G, b, .nil⟩
  · obtain ⟨fd, G, b, _⟩ := fnk_mSum_word (P := P) (w := w) (base := base) T
    exact ⟨_, fd, _, [], T.cl_Sum, T.me_Sum_word, G, b, .nil⟩
  · obtain ⟨fd, G, b, _⟩ := fnk_mGap_word (P := P) (w := w) (base := base) T
    exact ⟨_, fd, _, [], T.cl_Gap, T.me_Gap_word, G, b, .nil⟩
  · obtain ⟨fd, G, b, _⟩ := fnk_mLow_word (P := P) (w := w) (base := base) T
    exact ⟨_, fd, _, [], T.cl_Low, T.me_Low_word, G, b, .nil⟩
  · obtain ⟨fd, G, b, _⟩ := fnk_mHigh_word (P := P) (w := w) (base := base) T
    exact ⟨_, fd, _, [], T.cl_High, T.me_High_word, G, b, .nil⟩
  · obtain ⟨fd, G, b, _⟩ := fnk_mLeft_word (P := P) (w := w) (base := base) T
    exact ⟨_, fd, _, [], T.cl_Left, T.me_Left_word, G, b, .nil⟩
  · obtain ⟨fd, G, b, _⟩ := fnk_mRight_word (P := P) (w := w) (base := base) T
    exact ⟨_, fd, _, [], T.cl_Right, T.me_Right_word, G, b, .nil⟩
  · obtain ⟨fd, G, b, _⟩ := fnk_mSlide_word (P := P) (w := w) (base := base) T
    exact ⟨_, fd, _, [], T.cl_Slide, T.me_Slide_word, G, b, .nil⟩
  · obtain ⟨fd, G, b, _⟩ := fnk_mAnd_word (P := P) (w := w) (base := base) T
    exact ⟨_, fd, _, [], T.cl_And, T.me_And_word, G, b, .nil⟩
  · obtain ⟨fd, G, b, _⟩ := fnk_mOr_word (P := P) (w := w) (base := base) T
    exact ⟨_, fd, _, [], T.cl_Or, T.me_Or_word, G, b, .nil⟩
  · obtain ⟨fd, G, b, _⟩ := fnk_mUnlike_word (P := P) (w := w) (base := base) T
    exact ⟨_, fd, _, [], T.cl_Unlike, T.me_Unlike_word, G, b, .nil⟩
  · obtain ⟨fd, G, b, _⟩ := fnk_mUnder_word (P := P) (w := w) (base := base) T
    exact ⟨_, fd, _, [], T.cl_Under, T.me_Under_word, G, b, .nil⟩
  · obtain ⟨fd, G, b, _⟩ := fnk_mPick_word (P := P) (w := w) (base := base) T
    exact ⟨_, fd, _, [], T.cl_Pick, T.me_Pick_word, G, b, .nil⟩
  · obtain ⟨fd, G, b, _⟩ := fnk_mMark_word (P := P) (w := w) (base := base) T
    exact ⟨_, fd, _, [], T.cl_Mark, T.me_Mark_word, G, b, .nil⟩
  · obtain ⟨fd, G, b, _⟩ := fnk_mTurns_word (P := P) (w := w) (base := base) T
    exact ⟨_, fd, _, [], T.cl_Turns, T.me_Turns_word, G, b, .nil⟩
section
variable {X : Cx} {o e : Expr} {es : List Expr} {ta : TE} {t : TA} {pos apos : Pos} {k : Nat}
/-- o.word(), whatever its class -/
theorem pe_word {pl : Sem Bool} (T : Txt X.K X.mg) (hr : Room k X.A) (hk : 1 ≤ k) (he : PE X o ta)
    (ht : eval (.Call (.Attribute o "word" apos) [] [] pos) X.env = (do
      let ov ← eval o X.env
      standAt apos.atName
      let (f, first) ← holding [ov] (getMethod ov "word" pl)
      callWith pos f first (backTo pos (starEach [] X.env)) (backToKw pos (keywordEach [] X.env))) := by rfl) :
    PE X (.Call (.Attribute o "word" apos) [] [] pos) (tDyn fun c : Cl => tMeth (c.ad X.K) "word" (spWord c) [] C8.E0 ta tNil) := pe_any fun c => pe_mt0 (met_word T c) hr hk he ht
end
def spT_Set (K : PySem.W.Frag) : Sp := fun vs H Q _ => ∃ (p dx : Addr) (g : Str) (b : Int), vs = [.ref p] ∧ H p = some (.ins (Cl.ad K .set) dx (Leaf.flds (.set g b))) ∧ ∀ q, H q = none → Q (.ref q) (upd H q (.tup (Leaf.vals (.set g b))))
theorem sc_mSet_told : FnScope ["self"] ["self"] (defScope smSet_told) := ⟨rfl, rfl, rfl, by decide +kernel, rfl, by decide +kernel, by decide +kernel⟩
theorem fnk_mSet_told (T : Txt K mg) : ∃ fd, FnOk P w K mg base CX0 (1) (He.fAd K dmSet_told.at_) fd ["self"] (spT_Set K) ∧ Binds K fd ["self"] [] ∧ PySem.W.keepIn K (.ref (He.fAd K dmSet_told.at_)) = true := by
  obtain ⟨fd, F0⟩ := T.c.d.def_ 17 (d := dmSet_told) rfl
  have F : FunD K "told" "Set.told" (defArgs smSet_told) (defBody smSet_told) (defScope smSet_told) [] [] (He.fAd K dmSet_told.at_) fd := F0
  have G : FnOk P w K mg base CX0 1 (He.fAd K dmSet_told.at_) fd ["self"] (spT_Set K) := by
    refine F.ok (CX := CX0) sc_mSet_told (fun vs H Q E h => ?_) (fun cdv A outer s H vs Q E hr h => ⟨_, PSs.nox (by exact (pss_one (ps_ret (pe_tup (pa_cons pe_str (pa_cons (pe_fld (pv 0) rfl) (pa_cons (pe_fld (pv 0) rfl) pa_nil))))))), ?_⟩)
    · first
      | (obtain ⟨e, _⟩ := h; subst e; rfl)
      | (obtain ⟨_, e, _⟩ := h; subst e; rfl)
      | (obtain ⟨_, _, e, _⟩ := h; subst e; rfl)
      | (obtain ⟨_, _, _, e, _⟩ := h; subst e; rfl)
      | (obtain ⟨_, _, _, _, e, _⟩ := h; subst e; rfl)
      | (obtain ⟨_, _, _, _, _, e, _⟩ := h; subst e; rfl)
      | (obtain ⟨_, _, _, _, _, _, e, _⟩ := h; subst e; rfl)
      | (obtain ⟨_, _, _, _, _, _, _, e, _⟩ := h; subst e; rfl)
      | (obtain ⟨_, _, _, _, _, _, _, _, e, _⟩ := h; subst e; rfl)
      | (obtain ⟨_, _, _, _, _, _, _, _, _, e, _⟩ := h; subst e; rfl)
      | (obtain ⟨_, _, _, _, _, _, _, _, _, _, e, _⟩ := h; subst e; rfl)
      | (obtain ⟨_, _, _, _, _, _, _, _, _, _, _, e, _⟩ := h; subst e; rfl)
      | (obtain ⟨_, _, _, _, _, _, _, _, _, _, _, _, e, _⟩ := h; subst e; rfl)
      | (obtain ⟨_, _, _, _, _, _, _, _, _, _, _, _, _, e, _⟩ := h; subst e; rfl)
    · skip
      obtain ⟨p, dx, g, b, rfl, hp, k⟩ := h
      exact ⟨_, rfl, _, _, _, _, _, rfl, hp, T.cls _, T.na_Set_goal, rfl, _, rfl, _, _, _, _, _, rfl, hp, T.cls _, T.na_Set_bits, rfl, le_sz (Nat.le_of_ble_eq_true rfl), k⟩
  exact ⟨fd, G, F.bindsN (fun _ _ _ _ _ _ us hl => match us, hl with | [_], _ => rfl), F.kp⟩
def spT_Copy (K : PySem.W.Frag) : Sp := fun vs H Q _ => ∃ (p dx : Addr) (g a : Str), vs = [.ref p] ∧ H p = some (.ins (Cl.ad K .copy) dx (Leaf.flds (.copy g a))) ∧ ∀ q, H q = none → Q (.ref q) (upd H q (.tup (Leaf.vals (.copy g a))))
theorem sc_mCopy_told : FnScope ["self"] ["self"] (defScope smCopy_told) := ⟨rfl, rfl, rfl, by decide +kernel, rfl, by decide +kernel, by decide +kernel⟩
theorem fnk_mCopy_told (T : Txt K mg) : ∃ fd, FnOk P w K mg base CX0 (1) (He.fAd K dmCopy_told.at_) fd ["self"] (spT_Copy K) ∧ Binds K fd ["self"] [] ∧ PySem.W.keepIn K (.ref (He.fAd K dmCopy_told.at_)) = true := by
  obtain ⟨fd, F0⟩ := T.c.d.def_ 22 (d := dmCopy_told) rfl
  have F : FunD K "told" "Copy.told" (defArgs smCopy_told) (defBody smCopy_told) (defScope smCopy_told) [] [] (He.fAd K dmCopy_told.at_) fd := F0
  have G : FnOk P w K mg base CX0 1 (He.fAd K dmCopy_told.at_) fd ["self"] (spT_Copy K) := by
    refine F.ok (CX := CX0) sc_mCopy_told (fun vs H Q E h => ?_) (fun cdv A outer s H vs Q E hr h => ⟨_, PSs.nox (by exact (pss_one (ps_ret (pe_tup (pa_cons pe_str (pa_cons (pe_fld (pv 0) rfl) (pa_cons (pe_fld (pv 0) rfl) pa_nil))))))), ?_⟩)
    · first
      | (obtain ⟨e, _⟩ := h; subst e; rfl)
      | (obtain ⟨_, e, _⟩ := h; subst e; rfl)
      | (obtain ⟨_, _, e, _⟩ := h; subst e; rfl)
      | (obtain ⟨_, _, _, e, _⟩ := h; subst e; rfl)
      | (obtain ⟨_, _, _, _, e, _⟩ := h; subst e; rfl)
      | (obtain ⟨_, _, _, _, _, e, _⟩ := h; subst e; rfl)
      | (obtain ⟨_, _, _, _, _, _, e, _⟩ := h; subst e; rfl)
      | (obtain ⟨_, _, _, _, _, _, _, e, _⟩ := h; subst e; rfl)
      | (obtain ⟨_, _, _, _, _, _, _, _, e, _⟩ := h; subst e; rfl)
      | (obtain ⟨_, _, _, _, _, _, _, _, _, e, _⟩ := h; subst e; rfl)
      | (obtain ⟨_, _, _, _, _, _, _, _, _, _, e, _⟩ := h; subst e; rfl)
      | (obtain ⟨_, _, _, _, _, _, _, _, _, _, _, e, _⟩ := h; subst e; rfl)
      | (obtain ⟨_, _, _, _, _, _, _, _, _, _, _, _, e, _⟩ := h; subst e; rfl)
      | (obtain ⟨_, _, _, _, _, _, _, _, _, _, _, _, _, e, _⟩ := h; subst e; rfl)
    · skip
      obtain ⟨p, dx, g, a, rfl, hp, k⟩ := h
      exact ⟨_, rfl, _, _, _, _, _, rfl, hp, T.cls _, T.na_Copy_goal, rfl, _, rfl, _, _, _, _, _, rfl, hp, T.cls _, T.na_Copy_one, rfl, le_sz (Nat.le_of_ble_eq_true rfl), k⟩
  exact ⟨fd, G, F.bindsN (fun _ _ _ _ _ _ us hl => match us, hl with | [_], _ => rfl), F.kp⟩
def spT_Pair (K : PySem.W.Frag) : Sp := fun vs H Q _ => ∃ (p dx : Addr) (c : PO) (g a b : Str), vs = [.ref p] ∧ H p = some (.ins (Cl.ad K c.cl) dx (Leaf.flds (.pair c g a b))) ∧ ∀ q, H q = none → Q (.ref q) (upd H q (.tup (Leaf.vals (.pair c g a b))))
theorem sc_mPair_told : FnScope ["self"] ["self"] (defScope smPair_told) := ⟨rfl, rfl, rfl, by decide +kernel, rfl, by decide +kernel, by decide +kernel⟩
theorem fnk_mPair_told (T : Txt K mg) : ∃ fd, FnOk P w K mg base CX0 (2) (He.fAd K dmPair_told.at_) fd ["self"] (spT_Pair K) ∧ Binds K fd ["self"] [] ∧ PySem.W.keepIn K (.ref (He.fAd K dmPair_told.at_)) = true := by
  obtain ⟨fd, F0⟩ := T.c.d.def_ 26 (d := dmPair_told) rfl
  have F : FunD K "told" "Pair.told" (defArgs smPair_told) (defBody smPair_told) (defScope smPair_told) [] [] (He.fAd K dmPair_told.at_) fd := F0
  have G : FnOk P w K mg base CX0 2 (He.fAd K dmPair_told.at_) fd ["self"] (spT_Pair K) := by
    refine F.ok (CX := CX0) sc_mPair_told (fun vs H Q E h => ?_) (fun cdv A outer s H vs Q E hr h => ⟨_, PSs.nox (by exact (pss_one (ps_ret (pe_tup (pa_cons (pe_word T hr (by decide) (pv 0)) (pa_cons (pe_fld (pv 0) rfl) (pa_cons (pe_fld (pv 0) rfl) (pa_cons (pe_fld (pv 0) rfl) pa_nil)))))))), ?_⟩)
    · first
      | (obtain ⟨e, _⟩ := h; subst e; rfl)
      | (obtain ⟨_, e, _⟩ := h; subst e; rfl)
      | (obtain ⟨_, _, e, _⟩ := h; subst e; rfl)
      | (obtain ⟨_, _, _, e, _⟩ := h; subst e; rfl)
      | (obtain ⟨_, _, _, _, e, _⟩ := h; subst e; rfl)
      | (obtain ⟨_, _, _, _, _, e, _⟩ := h; subst e; rfl)
      | (obtain ⟨_, _, _, _, _, _, e, _⟩ := h; subst e; rfl)
      | (obtain ⟨_, _, _, _, _, _, _, e, _⟩ := h; subst e; rfl)
      | (obtain ⟨_, _, _, _, _, _, _, _, e, _⟩ := h; subst e; rfl)
      | (obtain ⟨_, _, _, _, _, _, _, _, _, e, _⟩ := h; subst e; rfl)
      | (obtain ⟨_, _, _, _, _, _, _, _, _, _, e, _⟩ := h; subst e; rfl)
      | (obtain ⟨_, _, _, _, _, _, _, _, _, _, _, e, _⟩ := h; subst e; rfl)
      | (obtain ⟨_, _, _, _, _, _, _, _, _, _, _, _, e, _⟩ := h; subst e; rfl)
      | (obtain ⟨_, _, _, _, _, _, _, _, _, _, _, _, _, e, _⟩ := h; subst e; rfl)
    · skip
      obtain ⟨p, dx, c, g, a, b, rfl, hp, k⟩ := h
      exact ⟨c.cl, _, rfl, _, _, _, rfl, hp, rfl, _, rfl, _, rfl, _, _, _, _, _, rfl, hp, T.cls _, T.na_PO_goal c, rfl, _, rfl, _, _, _, _, _, rfl, hp, T.cls _, T.na_PO_one c, rfl, _, rfl, _, _, _, _, _, rfl, hp, T.cls _, T.na_PO_other c, rfl, le_sz (Nat.le_of_ble_eq_true rfl), k⟩
  exact ⟨fd, G, F.bindsN (fun _ _ _ _ _ _ us hl => match us, hl with | [_], _ => rfl), F.kp⟩
def spT_Carrying (K : PySem.W.Frag) : Sp := fun vs H Q _ => ∃ (p dx : Addr) (c : CO) (g : Str) (y : Option Str) (a b : Str), vs = [.ref p] ∧ H p = some (.ins (Cl.ad K c.cl) dx (Leaf.flds (.carry c g y a b))) ∧ ∀ q, H q = none → Q (.ref q) (upd H q (.tup (Leaf.vals (.carry c g y a b))))
theorem sc_mCarrying_told : FnScope ["self"] ["self"] (defScope smCarrying_told) := ⟨rfl, rfl, rfl, by decide +kernel, rfl, by decide +kernel, by decide +kernel⟩
theorem fnk_mCarrying_told (T : Txt K mg) : ∃ fd, FnOk P w K mg base CX0 (2) (He.fAd K dmCarrying_told.at_) fd ["self"] (spT_Carrying K) ∧ Binds K fd ["self"] [] ∧ PySem.W.keepIn K (.ref (He.fAd K dmCarrying_told.at_)) = true := by
  obtain ⟨fd, F0⟩ := T.c.d.def_ 43 (d := dmCarrying_told) rfl
  have F : FunD K "told" "Carrying.told" (defArgs smCarrying_told) (defBody smCarrying_told) (defScope smCarrying_told) [] [] (He.fAd K dmCarrying_told.at_) fd := F0
  have G : FnOk P w K mg base CX0 2 (He.fAd K dmCarrying_told.at_) fd ["self"] (spT_Carrying K) := by
    refine F.ok (CX := CX0) sc_mCarrying_told (fun vs H Q E h => ?_) (fun cdv A outer s H vs Q E hr h => ⟨_, PSs.nox (by exact (pss_one (ps_ret (pe_tup (pa_cons (pe_word T hr (by decide) (pv 0)) (pa_cons (pe_fld (pv 0) rfl) (pa_cons (pe_fld (pv 0) rfl) (pa_cons (pe_fld (pv 0) rfl) (pa_cons (pe_fld (pv 0) rfl) pa_nil))))))))), ?_⟩)
    · first
      | (obtain ⟨e, _⟩ := h; subst e; rfl)
      | (obtain ⟨_, e, _⟩ := h; subst e; rfl)
      | (obtain ⟨_, _, e, _⟩ := h; subst e; rfl)
      | (obtain ⟨_, _, _, e, _⟩ := h; subst e; rfl)
      | (obtain ⟨_, _, _, _, e, _⟩ := h; subst e; rfl)
      | (obtain ⟨_, _, _, _, _, e, _⟩ := h; subst e; rfl)
      | (obtain ⟨_, _, _, _, _, _, e, _⟩ := h; subst e; rfl)
      | (obtain ⟨_, _, _, _, _, _, _, e, _⟩ := h; subst e; rfl)
      | (obtain ⟨_, _, _, _, _, _, _, _, e, _⟩ := h; subst e; rfl)
      | (obtain ⟨_, _, _, _, _, _, _, _, _, e, _⟩ := h; subst e; rfl)
      | (obtain ⟨_, _, _, _, _, _, _, _, _, _, e, _⟩ := h; subst e; rfl)
      | (obtain ⟨_, _, _, _, _, _, _, _, _, _, _, e, _⟩ := h; subst e; rfl)
      | (obtain ⟨_, _, _, _, _, _, _, _, _, _, _, _, e, _⟩ := h; subst e; rfl)
      | (obtain ⟨_, _, _, _, _, _, _, _, _, _, _, _, _, e, _⟩ := h; subst e; rfl)
    · skip
      obtain ⟨p, dx, c, g, y, a, b, rfl, hp, k⟩ := h
      exact ⟨c.cl, _, rfl, _, _, _, rfl, hp, rfl, _, rfl, _, rfl, _, _, _, _, _, rfl, hp, T.cls _, T.na_CO_goal c, rfl, _, rfl, _, _, _, _, _, rfl, hp, T.cls _, T.na_CO_carry c, rfl, _, rfl, _, _, _, _, _, rfl, hp, T.cls _, T.na_CO_one c, rfl, _, rfl, _, _, _, _, _, rfl, hp, T.cls _, T.na_CO_other c, rfl, le_sz (Nat.le_of_ble_eq_true rfl), k⟩
  exact ⟨fd, G, F.bindsN (fun _ _ _ _ _ _ us hl => match us, hl with | [_], _ => rfl), F.kp⟩
def spT_Shift (K : PySem.W.Frag) : Sp := fun vs H Q _ => ∃ (p dx : Addr) (c : SO) (g a : Str) (j : Int), vs = [.ref p] ∧ H p = some (.ins (Cl.ad K c.cl) dx (Leaf.flds (.shift c g a j))) ∧ ∀ q, H q = none → Q (.ref q) (upd H q (.tup (Leaf.vals (.shift c g a j))))
theorem sc_mShift_told : FnScope ["self"] ["self"] (defScope smShift_told) := ⟨rfl, rfl, rfl, by decide +kernel, rfl, by decide +kernel, by decide +kernel⟩
theorem fnk_mShift_told (T : Txt K mg) : ∃ fd, FnOk P w K mg base CX0 (2) (He.fAd K dmShift_told.at_) fd ["self"] (spT_Shift K) ∧ Binds K fd ["self"] [] ∧ PySem.W.keepIn K (.ref (He.fAd K dmShift_told.at_)) = true := by
  obtain ⟨fd, F0⟩ := T.c.d.def_ 52 (d := dmShift_told) rfl
  have F : FunD K "told" "Shift.told" (defArgs smShift_told) (defBody smShift_told) (defScope smShift_told) [] [] (He.fAd K dmShift_told.at_) fd := F0
  have G : FnOk P w K mg base CX0 2 (He.fAd K dmShift_told.at_) fd ["self"] (spT_Shift K) := by
    refine F.ok (CX := CX0) sc_mShift_told (fun vs H Q E h => ?_) (fun cdv A outer s H vs Q E hr h => ⟨_, PSs.nox (by exact (pss_one (ps_ret (pe_tup (pa_cons (pe_word T hr (by decide) (pv 0)) (pa_cons (pe_fld (pv 0) rfl) (pa_cons (pe_fld (pv 0) rfl) (pa_cons (pe_fld (pv 0) rfl) pa_nil)))))))), ?_⟩)
    · first
      | (obtain ⟨e, _⟩ := h; subst e; rfl)
      | (obtain ⟨_, e, _⟩ := h; subst e; rfl)
      | (obtain ⟨_, _, e, _⟩ := h; subst e; rfl)
      | (obtain ⟨_, _, _, e, _⟩ := h; subst e; rfl)
      | (obtain ⟨_, _, _, _, e, _⟩ := h; subst e; rfl)
      | (obtain ⟨_, _, _, _, _, e, _⟩ := h; subst e; rfl)
      | (obtain ⟨_, _, _, _, _, _, e, _⟩ := h; subst e; rfl)
      | (obtain ⟨_, _, _, _, _, _, _, e, _⟩ := h; subst e; rfl)
      | (obtain ⟨_, _, _, _, _, _, _, _, e, _⟩ := h; subst e; rfl)
      | (obtain ⟨_, _, _, _, _, _, _, _, _, e, _⟩ := h; subst e; rfl)
      | (obtain ⟨_, _, _, _, _, _, _, _, _, _, e, _⟩ := h; subst e; rfl)
      | (obtain ⟨_, _, _, _, _, _, _, _, _, _, _, e, _⟩ := h; subst e; rfl)
      | (obtain ⟨_, _, _, _, _, _, _, _, _, _, _, _, e, _⟩ := h; subst e; rfl)
      | (obtain ⟨_, _, _, _, _, _, _, _, _, _, _, _, _, e, _⟩ := h; subst e; rfl)
    · skip
      obtain ⟨p, dx, c, g, a, j, rfl, hp, k⟩ := h
      exact ⟨c.cl, _, rfl, _, _, _, rfl, hp, rfl, _, rfl, _, rfl, _, _, _, _, _, rfl, hp, T.cls _, T.na_SO_goal c, rfl, _, rfl, _, _, _, _, _, rfl, hp, T.cls _, T.na_SO_one c, rfl, _, rfl, _, _, _, _, _, rfl, hp, T.cls _, T.na_SO_k c, rfl, le_sz (Nat.le_of_ble_eq_true rfl), k⟩
  exact ⟨fd, G, F.bindsN (fun _ _ _ _ _ _ us hl => match us, hl with | [_], _ => rfl), F.kp⟩
def spT_Pick (K : PySem.W.Frag) : Sp := fun vs H Q _ => ∃ (p dx : Addr) (g y a b : Str), vs = [.ref p] ∧ H p = some (.ins (Cl.ad K .pick) dx (Leaf.flds (.pick g y a b))) ∧ ∀ q, H q = none → Q (.ref q) (upd H q (.tup (Leaf.vals (.pick g y a b))))
theorem sc_mPick_told : FnScope ["self"] ["self"] (defScope smPick_told) := ⟨rfl, rfl, rfl, by decide +kernel, rfl, by decide +kernel, by decide +kernel⟩
theorem fnk_mPick_told (T : Txt K mg) : ∃ fd, FnOk P w K mg base CX0 (1) (He.fAd K dmPick_told.at_) fd ["self"] (spT_Pick K) ∧ Binds K fd ["self"] [] ∧ PySem.W.keepIn K (.ref (He.fAd K dmPick_told.at_)) = true := by
  obtain ⟨fd, F0⟩ := T.c.d.def_ 64 (d := dmPick_told) rfl
  have F : FunD K "told" "Pick.told" (defArgs smPick_told) (defBody smPick_told) (defScope smPick_told) [] [] (He.fAd K dmPick_told.at_) fd := F0
  have G : FnOk P w K mg base CX0 1 (He.fAd K dmPick_told.at_) fd ["self"] (spT_Pick K) := by
    refine F.ok (CX := CX0) sc_mPick_told (fun vs H Q E h => ?_) (fun cdv A outer s H vs Q E hr h => ⟨_, PSs.nox (by exact (pss_one (ps_ret (pe_tup (pa_cons pe_str (pa_cons (pe_fld (pv 0) rfl) (pa_cons (pe_fld (pv 0) rfl) (pa_cons (pe_fld (pv 0) rfl) (pa_cons (pe_fld (pv 0) rfl) pa_nil))))))))), ?_⟩)
    · first
      | (obtain ⟨e, _⟩ := h; subst e; rfl)
      | (obtain ⟨_, e, _⟩ := h; subst e; rfl)
      | (obtain ⟨_, _, e, _⟩ := h; subst e; rfl)
      | (obtain ⟨_, _, _, e, _⟩ := h; subst e; rfl)
      | (obtain ⟨_, _, _, _, e, _⟩ := h; subst e; rfl)
      | (obtain ⟨_, _, _, _, _, e, _⟩ := h; subst e; rfl)
      | (obtain ⟨_, _, _, _, _, _, e, _⟩ := h; subst e; rfl)
      | (obtain ⟨_, _, _, _, _, _, _, e, _⟩ := h; subst e; rfl)
      | (obtain ⟨_, _, _, _, _, _, _, _, e, _⟩ := h; subst e; rfl)
      | (obtain ⟨_, _, _, _, _, _, _, _, _, e, _⟩ := h; subst e; rfl)
      | (obtain ⟨_, _, _, _, _, _, _, _, _, _, e, _⟩ := h; subst e; rfl)
      | (obtain ⟨_, _, _, _, _, _, _, _, _, _, _, e, _⟩ := h; subst e; rfl)
      | (obtain ⟨_, _, _, _, _, _, _, _, _, _, _, _, e, _⟩ := h; subst e; rfl)
      | (obtain ⟨_, _, _, _, _, _, _, _, _, _, _, _, _, e, _⟩ := h; subst e; rfl)
    · skip
      obtain ⟨p, dx, g, y, a, b, rfl, hp, k⟩ := h
      exact ⟨_, rfl, _, _, _, _, _, rfl, hp, T.cls _, T.na_Pick_goal, rfl, _, rfl, _, _, _, _, _, rfl, hp, T.cls _, T.na_Pick_by, rfl, _, rfl, _, _, _, _, _, rfl, hp, T.cls _, T.na_Pick_one, rfl, _, rfl, _, _, _, _, _, rfl, hp, T.cls _, T.na_Pick_other, rfl, le_sz (Nat.le_of_ble_eq_true rfl), k⟩
  exact ⟨fd, G, F.bindsN (fun _ _ _ _ _ _ us hl => match us, hl with | [_], _ => rfl), F.kp⟩
def spT_Mark (K : PySem.W.Frag) : Sp := fun vs H Q _ => ∃ (p dx : Addr) (ln : Int) (m y : Str), vs = [.ref p] ∧ H p = some (.ins (Cl.ad K .mark) dx (Leaf.flds (.mark ln m y))) ∧ ∀ q, H q = none → Q (.ref q) (upd H q (.tup (Leaf.vals (.mark ln m y))))
theorem sc_mMark_told : FnScope ["self"] ["self"] (defScope smMark_told) := ⟨rfl, rfl, rfl, by decide +kernel, rfl, by decide +kernel, by decide +kernel⟩
theorem fnk_mMark_told (T : Txt K mg) : ∃ fd, FnOk P w K mg base CX0 (1) (He.fAd K dmMark_told.at_) fd ["self"] (spT_Mark K) ∧ Binds K fd ["self"] [] ∧ PySem.W.keepIn K (.ref (He.fAd K dmMark_told.at_)) = true := by
  obtain ⟨fd, F0⟩ := T.c.d.def_ 69 (d := dmMark_told) rfl
  have F : FunD K "told" "Mark.told" (defArgs smMark_told) (defBody smMark_told) (defScope smMark_told) [] [] (He.fAd K dmMark_told.at_) fd := F0
  have G : FnOk P w K mg base CX0 1 (He.fAd K dmMark_told.at_) fd ["self"] (spT_Mark K) := by
    refine F.ok (CX := CX0) sc_mMark_told (fun vs H Q E h => ?_) (fun cdv A outer s H vs Q E hr h => ⟨_, PSs.nox (by exact (pss_one (ps_ret (pe_tup (pa_cons pe_str (pa_cons (pe_fld (pv 0) rfl) (pa_cons (pe_fld (pv 0) rfl) (pa_cons (pe_fld (pv 0) rfl) pa_nil)))))))), ?_⟩)
    · first
      | (obtain ⟨e, _⟩ := h; subst e; rfl)
      | (obtain ⟨_, e, _⟩ := h; subst e; rfl)
      | (obtain ⟨_, _, e, _⟩ := h; subst e; rfl)
      | (obtain ⟨_, _, _, e, _⟩ := h; subst e; rfl)
      | (obtain ⟨_, _, _, _, e, _⟩ := h; subst e; rfl)
      | (obtain ⟨_, _, _, _, _, e, _⟩ := h; subst e; rfl)
      | (obtain ⟨_, _, _, _, _, _, e, _⟩ := h; subst e; rfl)
      | (obtain ⟨_, _, _, _, _, _, _, e, _⟩ := h; subst e; rfl)
      | (obtain ⟨_, _, _, _, _, _, _, _, e, _⟩ := h; subst e; rfl)
      | (obtain ⟨_, _, _, _, _, _, _, _, _, e, _⟩ := h; subst e; rfl)
      | (obtain ⟨_, _, _, _, _, _, _, _, _, _, e, _⟩ := h; subst e; rfl)
      | (obtain ⟨_, _, _, _, _, _, _, _, _, _, _, e, _⟩ := h; subst e; rfl)
      | (obtain ⟨_, _, _, _, _, _, _, _, _, _, _, _, e, _⟩ := h; subst e; rfl)
      | (obtain ⟨_, _, _, _, _, _, _, _, _, _, _, _, _, e, _⟩ := h; subst e; rfl)
    · skip
      obtain ⟨p, dx, ln, m, y, rfl, hp, k⟩ := h
      exact ⟨_, rfl, _, _, _, _, _, rfl, hp, T.cls _, T.na_Mark_line, rfl, _, rfl, _, _, _, _, _, rfl, hp, T.cls _, T.na_Mark_mark, rfl, _, rfl, _, _, _, _, _, rfl, hp, T.cls _, T.na_Mark_by, rfl, le_sz (Nat.le_of_ble_eq_true rfl), k⟩
  exact ⟨fd, G, F.bindsN (fun _ _ _ _ _ _ us hl => match us, hl with | [_], _ => rfl), F.kp⟩
def spF_Set (K : PySem.W.Frag) : Sp := fun vs H Q _ => ∃ (p dx : Addr) (g : Str) (b : Int) (w : Nat), vs = [.ref p, .int w] ∧ H p = some (.ins (Cl.ad K .set) dx (Leaf.flds (.set g b))) ∧ (4 ≤ w ∧ w ≤ 32) ∧ Leaf.Good w (.set g b) ∧ ∀ H', Same H H' → Q (.bl true) H'
theorem sc_mSet_fits : FnScope ["self", "width"] ["self", "width"] (defScope smSet_fits) := ⟨rfl, rfl, rfl, by decide +kernel, rfl, by decide +kernel, by decide +kernel⟩
theorem fnk_mSet_fits (T : Txt K mg) : ∃ fd, FnOk P w K mg base CX0 (3) (He.fAd K dmSet_fits.at_) fd ["self", "width"] (spF_Set K) ∧ Binds K fd ["self", "width"] [] ∧ PySem.W.keepIn K (.ref (He.fAd K dmSet_fits.at_)) = true := by
  obtain ⟨fd, F0⟩ := T.c.d.def_ 18 (d := dmSet_fits) rfl
  have F : FunD K "fits" "Set.fits" (defArgs smSet_fits) (defBody smSet_fits) (defScope smSet_fits) [] [] (He.fAd K dmSet_fits.at_) fd := F0
  have G : FnOk P w K mg base CX0 3 (He.fAd K dmSet_fits.at_) fd ["self", "width"] (spF_Set K) := by
    refine F.ok (CX := CX0) sc_mSet_fits (fun vs H Q E h => ?_) (fun cdv A outer s H vs Q E hr h => ⟨_, PSs.nox (by exact (pss_one (ps_ret (pe_and (pe_c (cal_f_is_register T) hr (by decide) rfl (pa_cons (pe_fld (pv 0) rfl) pa_nil)) (pe_one (pe_c (cal_f_within T) hr (by decide) rfl (pa_cons (pe_fld (pv 0) rfl) (pa_cons pe_int (pa_cons (pe_op op_sub (pe_op op_oneShl pe_int (pv 1)) pe_int) pa_nil))))))))), ?_⟩)
    · first
      | (obtain ⟨e, _⟩ := h; subst e; rfl)
      | (obtain ⟨_, e, _⟩ := h; subst e; rfl)
      | (obtain ⟨_, _, e, _⟩ := h; subst e; rfl)
      | (obtain ⟨_, _, _, e, _⟩ := h; subst e; rfl)
      | (obtain ⟨_, _, _, _, e, _⟩ := h; subst e; rfl)
      | (obtain ⟨_, _, _, _, _, e, _⟩ := h; subst e; rfl)
      | (obtain ⟨_, _, _, _, _, _, e, _⟩ := h; subst e; rfl)
      | (obtain ⟨_, _, _, _, _, _, _, e, _⟩ := h; subst e; rfl)
      | (obtain ⟨_, _, _, _, _, _, _, _, e, _⟩ := h; subst e; rfl)
      | (obtain ⟨_, _, _, _, _, _, _, _, _, e, _⟩ := h; subst e; rfl)
      | (obtain ⟨_, _, _, _, _, _, _, _, _, _, e, _⟩ := h; subst e; rfl)
      | (obtain ⟨_, _, _, _, _, _, _, _, _, _, _, e, _⟩ := h; subst e; rfl)
      | (obtain ⟨_, _, _, _, _, _, _, _, _, _, _, _, e, _⟩ := h; subst e; rfl)
      | (obtain ⟨_, _, _, _, _, _, _, _, _, _, _, _, _, e, _⟩ := h; subst e; rfl)
    · skip
      obtain ⟨p, dx, g, b, w, rfl, hp, hw, gd, k⟩ := h
      refine ⟨_, rfl, _, _, _, _, _, rfl, hp, T.cls _, T.na_Set_goal, rfl, _, rfl, gd.1, fun H1 s1 => ?_⟩
      refine ⟨_, rfl, iteT ?_⟩
      have := gd.2.1; have := gd.2.2
      refine ⟨_, rfl, _, _, _, _, _, rfl, (s1 _ _ hp), T.cls _, T.na_Set_bits, rfl, ?_⟩
      walk_at "rd"
      exact k _ s1
  exact ⟨fd, G, F.bindsN (fun _ _ _ _ _ _ us hl => match us, hl with | [_, _], _ => rfl), F.kp⟩
def spF_Copy (K : PySem.W.Frag) : Sp := fun vs H Q _ => ∃ (p dx : Addr) (g a : Str) (w : Nat), vs = [.ref p, .int w] ∧ H p = some (.ins (Cl.ad K .copy) dx (Leaf.flds (.copy g a))) ∧ (4 ≤ w ∧ w ≤ 32) ∧ Leaf.Good w (.copy g a) ∧ ∀ H', Same H H' → Q (.bl true) H'
theorem sc_mCopy_fits : FnScope ["self", "width"] ["self", "width"] (defScope smCopy_fits) := ⟨rfl, rfl, rfl, by decide +kernel, rfl, by decide +kernel, by decide +kernel⟩
theorem fnk_mCopy_fits (T : Txt K mg) : ∃ fd, FnOk P w K mg base CX0 (3) (He.fAd K dmCopy_fits.at_) fd ["self", "width"] (spF_Copy K) ∧ Binds K fd ["self", "width"] [] ∧ PySem.W.keepIn K (.ref (He.fAd K dmCopy_fits.at_)) = true := by
  obtain ⟨fd, F0⟩ := T.c.d.def_ 23 (d := dmCopy_fits) rfl
  have F : FunD K "fits" "Copy.fits" (defArgs smCopy_fits) (defBody smCopy_fits) (defScope smCopy_fits) [] [] (He.fAd K dmCopy_fits.at_) fd := F0
  have G : FnOk P w K mg base CX0 3 (He.fAd K dmCopy_fits.at_) fd ["self", "width"] (spF_Copy K) := by
    refine F.ok (CX := CX0) sc_mCopy_fits (fun vs H Q E h => ?_) (fun cdv A outer s H vs Q E hr h => ⟨_, PSs.nox (by exact (pss_one (ps_ret (pe_and (pe_c (cal_f_is_register T) hr (by decide) rfl (pa_cons (pe_fld (pv 0) rfl) pa_nil)) (pe_one (pe_c (cal_f_is_register T) hr (by decide) rfl (pa_cons (pe_fld (pv 0) rfl) pa_nil))))))), ?_⟩)
    · first
      | (obtain ⟨e, _⟩ := h; subst e; rfl)
      | (obtain ⟨_, e, _⟩ := h; subst e; rfl)
      | (obtain ⟨_, _, e, _⟩ := h; subst e; rfl)
      | (obtain ⟨_, _, _, e, _⟩ := h; subst e; rfl)
      | (obtain ⟨_, _, _, _, e, _⟩ := h; subst e; rfl)
      | (obtain ⟨_, _, _, _, _, e, _⟩ := h; subst e; rfl)
      | (obtain ⟨_, _, _, _, _, _, e, _⟩ := h; subst e; rfl)
      | (obtain ⟨_, _, _, _, _, _, _, e, _⟩ := h; subst e; rfl)
      | (obtain ⟨_, _, _, _, _, _, _, _, e, _⟩ := h; subst e; rfl)
      | (obtain ⟨_, _, _, _, _, _, _, _, _, e, _⟩ := h; subst e; rfl)
      | (obtain ⟨_, _, _, _, _, _, _, _, _, _, e, _⟩ := h; subst e; rfl)
      | (obtain ⟨_, _, _, _, _, _, _, _, _, _, _, e, _⟩ := h; subst e; rfl)
      | (obtain ⟨_, _, _, _, _, _, _, _, _, _, _, _, e, _⟩ := h; subst e; rfl)
      | (obtain ⟨_, _, _, _, _, _, _, _, _, _, _, _, _, e, _⟩ := h; subst e; rfl)
    · skip
      obtain ⟨p, dx, g, a, w, rfl, hp, hw, gd, k⟩ := h
      refine ⟨_, rfl, _, _, _, _, _, rfl, hp, T.cls _, T.na_Copy_goal, rfl, _, rfl, gd.1, fun H1 s1 => ?_⟩
      refine ⟨_, rfl, iteT ?_⟩
      refine ⟨_, rfl, _, _, _, _, _, rfl, (s1 _ _ hp), T.cls _, T.na_Copy_one, rfl, _, rfl, gd.2, fun H2 s2' => ?_⟩
      have s2 := s1.trans s2'
      exact k _ s2
  exact ⟨fd, G, F.bindsN (fun _ _ _ _ _ _ us hl => match us, hl with | [_, _], _ => rfl), F.kp⟩
def spF_Pair (K : PySem.W.Frag) : Sp := fun vs H Q _ => ∃ (p dx : Addr) (c : PO) (g a b : Str) (w : Nat), vs = [.ref p, .int w] ∧ H p = some (.ins (Cl.ad K c.cl) dx (Leaf.flds (.pair c g a b))) ∧ (4 ≤ w ∧ w ≤ 32) ∧ Leaf.Good w (.pair c g a b) ∧ ∀ H', Same H H' → Q (.bl true) H'
theorem sc_mPair_fits : FnScope ["self", "width"] ["self", "width"] (defScope smPair_fits) := ⟨rfl, rfl, rfl, by decide +kernel, rfl, by decide +kernel, by decide +kernel⟩
theorem fnk_mPair_fits (T : Txt K mg) : ∃ fd, FnOk P w K mg base CX0 (3) (He.fAd K dmPair_fits.at_) fd ["self", "width"] (spF_Pair K) ∧ Binds K fd ["self", "width"] [] ∧ PySem.W.keepIn K (.ref (He.fAd K dmPair_fits.at_)) = true := by
  obtain ⟨fd, F0⟩ := T.c.d.def_ 27 (d := dmPair_fits) rfl
  have F : FunD K "fits" "Pair.fits" (defArgs smPair_fits) (defBody smPair_fits) (defScope smPair_fits) [] [] (He.fAd K dmPair_fits.at_) fd := F0
  have G : FnOk P w K mg base CX0 3 (He.fAd K dmPair_fits.at_) fd ["self", "width"] (spF_Pair K) := by
    refine F.ok (CX := CX0) sc_mPair_fits (fun vs H Q E h => ?_) (fun cdv A outer s H vs Q E hr h => ⟨_, PSs.nox (by exact (pss_one (ps_ret (pe_and (pe_c (cal_f_is_register T) hr (by decide) rfl (pa_cons (pe_fld (pv 0) rfl) pa_nil)) (pe_and (pe_c (cal_f_is_register T) hr (by decide) rfl (pa_cons (pe_fld (pv 0) rfl) pa_nil)) (pe_one (pe_c (cal_f_is_register T) hr (by decide) rfl (pa_cons (pe_fld (pv 0) rfl) pa_nil)))))))), ?_⟩)
    · first
      | (obtain ⟨e, _⟩ := h; subst e; rfl)
      | (obtain ⟨_, e, _⟩ := h; subst e; rfl)
      | (obtain ⟨_, _, e, _⟩ := h; subst e; rfl)
      | (obtain ⟨_, _, _, e, _⟩ := h; subst e; rfl)
      | (obtain ⟨_, _, _, _, e, _⟩ := h; subst e; rfl)
      | (obtain ⟨_, _, _, _, _, e, _⟩ := h; subst e; rfl)
      | (obtain ⟨_, _, _, _, _, _, e, _⟩ := h; subst e; rfl)
      | (obtain ⟨_, _, _, _, _, _, _, e, _⟩ := h; subst e; rfl)
      | (obtain ⟨_, _, _, _, _, _, _, _, e, _⟩ := h; subst e; rfl)
      | (obtain ⟨_, _, _, _, _, _, _, _, _, e, _⟩ := h; subst e; rfl)
      | (obtain ⟨_, _, _, _, _, _, _, _, _, _, e, _⟩ := h; subst e; rfl)
      | (obtain ⟨_, _, _, _, _, _, _, _, _, _, _, e, _⟩ := h; subst e; rfl)
      | (obtain ⟨_, _, _, _, _, _, _, _, _, _, _, _, e, _⟩ := h; subst e; rfl)
      | (obtain ⟨_, _, _, _, _, _, _, _, _, _, _, _, _, e, _⟩ := h; subst e; rfl)
    · skip
      obtain ⟨p, dx, c, g, a, b, w, rfl, hp, hw, gd, k⟩ := h
      refine ⟨_, rfl, _, _, _, _, _, rfl, hp, T.cls _, T.na_PO_goal c, rfl, _, rfl, gd.1, fun H1 s1 => ?_⟩
      refine ⟨_, rfl, iteT ?_⟩
      refine ⟨_, rfl, _, _, _, _, _, rfl, (s1 _ _ hp), T.cls _, T.na_PO_one c, rfl, _, rfl, gd.2.1, fun H2 s2' => ?_⟩
      have s2 := s1.trans s2'
      refine ⟨_, rfl, iteT ?_⟩
      refine ⟨_, rfl, _, _, _, _, _, rfl, (s2 _ _ hp), T.cls _, T.na_PO_other c, rfl, _, rfl, gd.2.2, fun H3 s3' => ?_⟩
      have s3 := s2.trans s3'
      exact k _ s3
  exact ⟨fd, G, F.bindsN (fun _ _ _ _ _ _ us hl => match us, hl with | [_, _], _ => rfl), F.kp⟩
def spF_Carrying (K : PySem.W.Frag) : Sp := fun vs H Q _ => ∃ (p dx : Addr) (c : CO) (g : Str) (y : Option Str) (a b : Str) (w : Nat), vs = [.ref p, .int w] ∧ H p = some (.ins (Cl.ad K c.cl) dx (Leaf.flds (.carry c g y a b))) ∧ (4 ≤ w ∧ w ≤ 32) ∧ Leaf.Good w (.carry c g y a b) ∧ ∀ H', Same H H' → Q (.bl true) H'
theorem sc_mCarrying_fits : FnScope ["self", "width"] ["self", "width"] (defScope smCarrying_fits) := ⟨rfl, rfl, rfl, by decide +kernel, rfl, by decide +kernel, by decide +kernel⟩
theorem fnk_mCarrying_fits (T : Txt K mg) : ∃ fd, FnOk P w K mg base CX0 (3) (He.fAd K dmCarrying_fits.at_) fd ["self", "width"] (spF_Carrying K) ∧ Binds K fd ["self", "width"] [] ∧ PySem.W.keepIn K (.ref (He.fAd K dmCarrying_fits.at_)) = true := by
  obtain ⟨fd, F0⟩ := T.c.d.def_ 44 (d := dmCarrying_fits) rfl
  have F : FunD K "fits" "Carrying.fits" (defArgs smCarrying_fits) (defBody smCarrying_fits) (defScope smCarrying_fits) [] [] (He.fAd K dmCarrying_fits.at_) fd := F0
  have G : FnOk P w K mg base CX0 3 (He.fAd K dmCarrying_fits.at_) fd ["self", "width"] (spF_Carrying K) := by
    refine F.ok (CX := CX0) sc_mCarrying_fits (fun vs H Q E h => ?_) (fun cdv A outer s H vs Q E hr h => ⟨_, PSs.nox (by exact (pss_cons (ps_if (PW.pt (pw_and (pt_cmpR op_notN (pe_fld (pv 0) rfl) pe_non (nomark _)) (pw_and1 (pt_not (pt_val (pe_c (cal_f_is_register T) hr (by decide) rfl (pa_cons (pe_fld (pv 0) rfl) pa_nil))))))) (pss_one (ps_ret pe_bl)) pss_nil)
      (pss_one (ps_ret (pe_and (pe_c (cal_f_is_register T) hr (by decide) rfl (pa_cons (pe_fld (pv 0) rfl) pa_nil)) (pe_and (pe_c (cal_f_is_register T) hr (by decide) rfl (pa_cons (pe_fld (pv 0) rfl) pa_nil)) (pe_one (pe_c (cal_f_is_register T) hr (by decide) rfl (pa_cons (pe_fld (pv 0) rfl) pa_nil))))))))), ?_⟩)
    · first
      | (obtain ⟨e, _⟩ := h; subst e; rfl)
      | (obtain ⟨_, e, _⟩ := h; subst e; rfl)
      | (obtain ⟨_, _, e, _⟩ := h; subst e; rfl)
      | (obtain ⟨_, _, _, e, _⟩ := h; subst e; rfl)
      | (obtain ⟨_, _, _, _, e, _⟩ := h; subst e; rfl)
      | (obtain ⟨_, _, _, _, _, e, _⟩ := h; subst e; rfl)
      | (obtain ⟨_, _, _, _, _, _, e, _⟩ := h; subst e; rfl)
      | (obtain ⟨_, _, _, _, _, _, _, e, _⟩ := h; subst e; rfl)
      | (obtain ⟨_, _, _, _, _, _, _, _, e, _⟩ := h; subst e; rfl)
      | (obtain ⟨_, _, _, _, _, _, _, _, _, e, _⟩ := h; subst e; rfl)
      | (obtain ⟨_, _, _, _, _, _, _, _, _, _, e, _⟩ := h; subst e; rfl)
      | (obtain ⟨_, _, _, _, _, _, _, _, _, _, _, e, _⟩ := h; subst e; rfl)
      | (obtain ⟨_, _, _, _, _, _, _, _, _, _, _, _, e, _⟩ := h; subst e; rfl)
      | (obtain ⟨_, _, _, _, _, _, _, _, _, _, _, _, _, e, _⟩ := h; subst e; rfl)
    · skip
      obtain ⟨p, dx, c, g, y, a, b, w, rfl, hp, hw, gd, k⟩ := h
      have fin : ∀ H0, Same H H0 → _ := fun H0 s0 => k H0 s0
      cases y with
      | none =>
        refine ⟨_, rfl, _, _, _, _, _, rfl, hp, T.cls _, T.na_CO_carry c, rfl, rfl, _, rfl, iteF ?_⟩
        refine ⟨_, rfl, _, _, _, _, _, rfl, hp, T.cls _, T.na_CO_goal c, rfl, _, rfl, gd.1, fun H1 s1 => ?_⟩
        refine ⟨_, rfl, iteT ?_⟩
        refine ⟨_, rfl, _, _, _, _, _, rfl, (s1 _ _ hp), T.cls _, T.na_CO_one c, rfl, _, rfl, gd.2.2.1, fun H2 s2' => ?_⟩
        have s2 := s1.trans s2'
        refine ⟨_, rfl, iteT ?_⟩
        refine ⟨_, rfl, _, _, _, _, _, rfl, (s2 _ _ hp), T.cls _, T.na_CO_other c, rfl, _, rfl, gd.2.2.2, fun H3 s3' => ?_⟩
        have s3 := s2.trans s3'
        exact k _ s3
      | some y =>
        refine ⟨_, rfl, _, _, _, _, _, rfl, hp, T.cls _, T.na_CO_carry c, rfl, rfl, _, rfl, iteT ?_⟩
        refine ⟨_, rfl, _, _, _, _, _, rfl, hp, T.cls _, T.na_CO_carry c, rfl, _, rfl, gd.2.1 y rfl, fun H0 s0 => ?_⟩
        refine ⟨_, rfl, iteF ?_⟩
        refine ⟨_, rfl, _, _, _, _, _, rfl, (s0 _ _ hp), T.cls _, T.na_CO_goal c, rfl, _, rfl, gd.1, fun H1 s1' => ?_⟩
        have s1 := s0.trans s1'
        refine ⟨_, rfl, iteT ?_⟩
        refine ⟨_, rfl, _, _, _, _, _, rfl, (s1 _ _ hp), T.cls _, T.na_CO_one c, rfl, _, rfl, gd.2.2.1, fun H2 s2' => ?_⟩
        have s2 := s1.trans s2'
        refine ⟨_, rfl, iteT ?_⟩
        refine ⟨_, rfl, _, _, _, _, _, rfl, (s2 _ _ hp), T.cls _, T.na_CO_other c, rfl, _, rfl, gd.2.2.2, fun H3 s3' => ?_⟩
        have s3 := s2.trans s3'
        exact k _ s3
  exact ⟨fd, G, F.bindsN (fun _ _ _ _ _ _ us hl => match us, hl with | [_, _], _ => rfl), F.kp⟩
def spF_Shift (K : PySem.W.Frag) : Sp := fun vs H Q _ => ∃ (p dx : Addr) (c : SO) (g a : Str) (j : Int) (w : Nat), vs = [.ref p, .int w] ∧ H p = some (.ins (Cl.ad K c.cl) dx (Leaf.flds (.shift c g a j))) ∧ (4 ≤ w ∧ w ≤ 32) ∧ Leaf.Good w (.shift c g a j) ∧ ∀ H', Same H H' → Q (.bl true) H'
theorem sc_mShift_fits : FnScope ["self", "width"] ["self", "width"] (defScope smShift_fits) := ⟨rfl, rfl, rfl, by decide +kernel, rfl, by decide +kernel, by decide +kernel⟩
theorem fnk_mShift_fits (T : Txt K mg) : ∃ fd, FnOk P w K mg base CX0 (3) (He.fAd K dmShift_fits.at_) fd ["self", "width"] (spF_Shift K) ∧ Binds K fd ["self", "width"] [] ∧ PySem.W.keepIn K (.ref (He.fAd K dmShift_fits.at_)) = true := by
  obtain ⟨fd, F0⟩ := T.c.d.def_ 53 (d := dmShift_fits) rfl
  have F : FunD K "fits" "Shift.fits" (defArgs smShift_fits) (defBody smShift_fits) (defScope smShift_fits) [] [] (He.fAd K dmShift_fits.at_) fd := F0
  have G : FnOk P w K mg base CX0 3 (He.fAd K dmShift_fits.at_) fd ["self", "width"] (spF_Shift K) := by
    refine F.ok (CX := CX0) sc_mShift_fits (fun vs H Q E h => ?_) (fun cdv A outer s H vs Q E hr h => ⟨_, PSs.nox (by exact (pss_one (ps_ret (pe_and (pe_c (cal_f_is_register T) hr (by decide) rfl (pa_cons (pe_fld (pv 0) rfl) pa_nil)) (pe_and (pe_c (cal_f_is_register T) hr (by decide) rfl (pa_cons (pe_fld (pv 0) rfl) pa_nil)) (pe_one (pe_c (cal_f_within T) hr (by decide) rfl (pa_cons (pe_fld (pv 0) rfl) (pa_cons pe_int (pa_cons (pe_op op_sub (pv 1) pe_int) pa_nil)))))))))), ?_⟩)
    · first
      | (obtain ⟨e, _⟩ := h; subst e; rfl)
      | (obtain ⟨_, e, _⟩ := h; subst e; rfl)
      | (obtain ⟨_, _, e, _⟩ := h; subst e; rfl)
      | (obtain ⟨_, _, _, e, _⟩ := h; subst e; rfl)
      | (obtain ⟨_, _, _, _, e, _⟩ := h; subst e; rfl)
      | (obtain ⟨_, _, _, _, _, e, _⟩ := h; subst e; rfl)
      | (obtain ⟨_, _, _, _, _, _, e, _⟩ := h; subst e; rfl)
      | (obtain ⟨_, _, _, _, _, _, _, e, _⟩ := h; subst e; rfl)
      | (obtain ⟨_, _, _, _, _, _, _, _, e, _⟩ := h; subst e; rfl)
      | (obtain ⟨_, _, _, _, _, _, _, _, _, e, _⟩ := h; subst e; rfl)
      | (obtain ⟨_, _, _, _, _, _, _, _, _, _, e, _⟩ := h; subst e; rfl)
      | (obtain ⟨_, _, _, _, _, _, _, _, _, _, _, e, _⟩ := h; subst e; rfl)
      | (obtain ⟨_, _, _, _, _, _, _, _, _, _, _, _, e, _⟩ := h; subst e; rfl)
      | (obtain ⟨_, _, _, _, _, _, _, _, _, _, _, _, _, e, _⟩ := h; subst e; rfl)
    · skip
      obtain ⟨p, dx, c, g, a, j, w, rfl, hp, hw, gd, k⟩ := h
      refine ⟨_, rfl, _, _, _, _, _, rfl, hp, T.cls _, T.na_SO_goal c, rfl, _, rfl, gd.1, fun H1 s1 => ?_⟩
      refine ⟨_, rfl, iteT ?_⟩
      refine ⟨_, rfl, _, _, _, _, _, rfl, (s1 _ _ hp), T.cls _, T.na_SO_one c, rfl, _, rfl, gd.2.1, fun H2 s2' => ?_⟩
      have s2 := s1.trans s2'
      refine ⟨_, rfl, iteT ?_⟩
      have := gd.2.2.1; have := gd.2.2.2
      refine ⟨_, rfl, _, _, _, _, _, rfl, (s2 _ _ hp), T.cls _, T.na_SO_k c, rfl, ?_⟩
      walk_at "rd"
      exact k _ s2
  exact ⟨fd, G, F.bindsN (fun _ _ _ _ _ _ us hl => match us, hl with | [_, _], _ => rfl), F.kp⟩
def spF_Pick (K : PySem.W.Frag) : Sp := fun vs H Q _ => ∃ (p dx : Addr) (g y a b : Str) (w : Nat), vs = [.ref p, .int w] ∧ H p = some (.ins (Cl.ad K .pick) dx (Leaf.flds (.pick g y a b))) ∧ (4 ≤ w ∧ w ≤ 32) ∧ Leaf.Good w (.pick g y a b) ∧ ∀ H', Same H H' → Q (.bl true) H'
theorem sc_mPick_fits : FnScope ["self", "width", "name"] ["self", "width"] (defScope smPick_fits) := ⟨rfl, rfl, rfl, by decide +kernel, rfl, by decide +kernel, by decide +kernel⟩
theorem fnk_mPick_fits (T : Txt K mg) : ∃ fd, FnOk P w K mg base CX0 (3) (He.fAd K dmPick_fits.at_) fd ["self", "width"] (spF_Pick K) ∧ Binds K fd ["self", "width"] [] ∧ PySem.W.keepIn K (.ref (He.fAd K dmPick_fits.at_)) = true := by
  obtain ⟨fd, F0⟩ := T.c.d.def_ 65 (d := dmPick_fits) rfl
  have F : FunD K "fits" "Pick.fits" (defArgs smPick_fits) (defBody smPick_fits) (defScope smPick_fits) [] [] (He.fAd K dmPick_fits.at_) fd := F0
  have G : FnOk P w K mg base CX0 3 (He.fAd K dmPick_fits.at_) fd ["self", "width"] (spF_Pick K) := by
    refine F.ok (CX := CX0) sc_mPick_fits (fun vs H Q E h => ?_) (fun cdv A outer s H vs Q E hr h => ⟨_, PSs.nox (by exact (pss_one (ps_ret (pe_callB (cr_all rfl) rfl T.f_all (by decide +kernel) (pa_cons (pe_lc (own := [("name", 2)]) (g := gName 2) (tt := tYes) rfl sc_mPick_fits.nd (pi_list (pe_lst (pa_cons (pe_fld (pv 0) rfl) (pa_cons (pe_fld (pv 0) rfl) (pa_cons (pe_fld (pv 0) rfl) (pa_cons (pe_fld (pv 0) rfl) pa_nil)))))) (blkOk_by (N := ["self", "width", "name"]) (sc := defScope smPick_fits) (by decide +kernel)) (fun _ _ _ _ _ => pg_name (i := 2) sc_mPick_fits.nd rfl (Or.inl rfl)) (fun _ _ _ _ _ => pts_nil) (fun _ _ _ _ _ => (pe_c (cal_f_is_register T) hr (by decide) rfl (pa_cons (pv 2) pa_nil)))) pa_nil))))), ?_⟩)
    · first
      | (obtain ⟨e, _⟩ := h; subst e; rfl)
      | (obtain ⟨_, e, _⟩ := h; subst e; rfl)
      | (obtain ⟨_, _, e, _⟩ := h; subst e; rfl)
      | (obtain ⟨_, _, _, e, _⟩ := h; subst e; rfl)
      | (obtain ⟨_, _, _, _, e, _⟩ := h; subst e; rfl)
      | (obtain ⟨_, _, _, _, _, e, _⟩ := h; subst e; rfl)
      | (obtain ⟨_, _, _, _, _, _, e, _⟩ := h; subst e; rfl)
      | (obtain ⟨_, _, _, _, _, _, _, e, _⟩ := h; subst e; rfl)
      | (obtain ⟨_, _, _, _, _, _, _, _, e, _⟩ := h; subst e; rfl)
      | (obtain ⟨_, _, _, _, _, _, _, _, _, e, _⟩ := h; subst e; rfl)
      | (obtain ⟨_, _, _, _, _, _, _, _, _, _, e, _⟩ := h; subst e; rfl)
      | (obtain ⟨_, _, _, _, _, _, _, _, _, _, _, e, _⟩ := h; subst e; rfl)
      | (obtain ⟨_, _, _, _, _, _, _, _, _, _, _, _, e, _⟩ := h; subst e; rfl)
      | (obtain ⟨_, _, _, _, _, _, _, _, _, _, _, _, _, e, _⟩ := h; subst e; rfl)
    · skip
      obtain ⟨p, dx, g, y, a, b, w, rfl, hp, hw, gd, k⟩ := h
      refine ⟨_, rfl, _, _, _, _, _, rfl, hp, T.cls _, T.na_Pick_goal, rfl, _, rfl, _, _, _, _, _, rfl, hp, T.cls _, T.na_Pick_by, rfl, _, rfl, _, _, _, _, _, rfl, hp, T.cls _, T.na_Pick_one, rfl, _, rfl, _, _, _, _, _, rfl, hp, T.cls _, T.na_Pick_other, rfl, le_sz (Nat.le_of_ble_eq_true rfl), fun l hl => ?_⟩
      have hx : ∀ x ∈ [V.str g, V.str y, V.str a, V.str b], ∃ z, x = V.str z ∧ IsReg z := fun x hx => by
        rcases List.mem_cons.mp hx with rfl | hx
        · exact ⟨g, rfl, gd.1⟩
        rcases List.mem_cons.mp hx with rfl | hx
        · exact ⟨y, rfl, gd.2.1⟩
        rcases List.mem_cons.mp hx with rfl | hx
        · exact ⟨a, rfl, gd.2.2.1⟩
        rcases List.mem_cons.mp hx with rfl | hx
        · exact ⟨b, rfl, gd.2.2.2⟩
        · cases hx
      refine ⟨l, rfl, ⟨_, SqL.of upd_same⟩, fun D hD => ?_⟩
      refine lc_list (K := K) (a := l) (xs := [V.str g, V.str y, V.str a, V.str b]) (fun i H' => H' D = some (.lst ((List.replicate i true).map V.bl)) ∧ Same (upd H l (.lst [V.str g, V.str y, V.str a, V.str b])) H') ⟨upd_same, same_new hD⟩ (fun _ _ _ q => SqL.of (q.2 _ _ upd_same)) ?_ ?_
      · rintro i x H1 hi ⟨h1, h2⟩
        obtain ⟨z, rfl, hz⟩ := hx x (List.mem_of_getElem? hi)
        have hi4 : i < 4 := (List.getElem?_eq_some_iff.mp hi).1
        walk_at "rd"
        intro H2 s2
        refine (fun q => q) ⟨_, s2 _ _ h1, ?_, ?_, same_mut (h2.trans s2) hD⟩
        /- refine ⟨hz, fun H2 s2 => ⟨_, s2 _ _ h1, ?_, ?_, same_mut (h2.trans s2) hD⟩⟩ -/
        · rw [List.length_map, List.length_replicate]
          exact Nat.lt_of_lt_of_le hi4 (le_sz (by decide))
        · rw [upd_same, List.replicate_succ', List.map_append]
          rfl
      · rintro H1 ⟨h1, h2⟩
        exact ⟨_, _, rfl, SqL.of h1, k _ ((same_new hl).trans h2)⟩
  exact ⟨fd, G, F.bindsN (fun _ _ _ _ _ _ us hl => match us, hl with | [_, _], _ => rfl), F.kp⟩
def spF_Mark (K : PySem.W.Frag) : Sp := fun vs H Q _ => ∃ (p dx : Addr) (ln : Int) (m y : Str) (w : Nat), vs = [.ref p, .int w] ∧ H p = some (.ins (Cl.ad K .mark) dx (Leaf.flds (.mark ln m y))) ∧ (4 ≤ w ∧ w ≤ 32) ∧ Leaf.Good w (.mark ln m y) ∧ ∀ H', Same H H' → Q (.bl true) H'
theorem sc_mMark_fits : FnScope ["self", "width"] ["self", "width"] (defScope smMark_fits) := ⟨rfl, rfl, rfl, by decide +kernel, rfl, by decide +kernel, by decide +kernel⟩
theorem fnk_mMark_fits (T : Txt K mg) : ∃ fd, FnOk P w K mg base CX0 (3) (He.fAd K dmMark_fits.at_) fd ["self", "width"] (spF_Mark K) ∧ Binds K fd ["self", "width"] [] ∧ PySem.W.keepIn K (.ref (He.fAd K dmMark_fits.at_)) = true := by
  obtain ⟨fd, F0⟩ := T.c.d.def_ 70 (d := dmMark_fits) rfl
  have F : FunD K "fits" "Mark.fits" (defArgs smMark_fits) (defBody smMark_fits) (defScope smMark_fits) [] [] (He.fAd K dmMark_fits.at_) fd := F0
  have G : FnOk P w K mg base CX0 3 (He.fAd K dmMark_fits.at_) fd ["self", "width"] (spF_Mark K) := by
    refine F.ok (CX := CX0) sc_mMark_fits (fun vs H Q E h => ?_) (fun cdv A outer s H vs Q E hr h => ⟨_, PSs.nox (by exact (pss_cons (ps_if (PW.pt (pw_or (pt_not (pt_val (pe_callB call_isi rfl T.f_isinstance (by decide +kernel) (pa_cons (pe_fld (pv 0) rfl) (pa_cons (pe_bltn (v := .ty "str") rfl T.f_str (by decide +kernel) rfl) pa_nil))))) (pw_or1 (pt_cmpR op_notIn_seq (pe_fld (pv 0) rfl) (pe_tup (pa_cons pe_str (pa_cons pe_str (pa_cons pe_str pa_nil)))) (by with_unfolding_all rfl))))) (pss_one (ps_ret pe_bl)) pss_nil)
      (pss_one (ps_ret (pe_and (pe_c (cal_f_within T) hr (by decide) rfl (pa_cons (pe_fld (pv 0) rfl) (pa_cons pe_int (pa_cons (pe_gc rfl T.v_MOST_LINE) pa_nil)))) (pe_one (pe_c (cal_f_is_register T) hr (by decide) rfl (pa_cons (pe_fld (pv 0) rfl) pa_nil)))))))), ?_⟩)
    · first
      | (obtain ⟨e, _⟩ := h; subst e; rfl)
      | (obtain ⟨_, e, _⟩ := h; subst e; rfl)
      | (obtain ⟨_, _, e, _⟩ := h; subst e; rfl)
      | (obtain ⟨_, _, _, e, _⟩ := h; subst e; rfl)
      | (obtain ⟨_, _, _, _, e, _⟩ := h; subst e; rfl)
      | (obtain ⟨_, _, _, _, _, e, _⟩ := h; subst e; rfl)
      | (obtain ⟨_, _, _, _, _, _, e, _⟩ := h; subst e; rfl)
      | (obtain ⟨_, _, _, _, _, _, _, e, _⟩ := h; subst e; rfl)
      | (obtain ⟨_, _, _, _, _, _, _, _, e, _⟩ := h; subst e; rfl)
      | (obtain ⟨_, _, _, _, _, _, _, _, _, e, _⟩ := h; subst e; rfl)
      | (obtain ⟨_, _, _, _, _, _, _, _, _, _, e, _⟩ := h; subst e; rfl)
      | (obtain ⟨_, _, _, _, _, _, _, _, _, _, _, e, _⟩ := h; subst e; rfl)
      | (obtain ⟨_, _, _, _, _, _, _, _, _, _, _, _, e, _⟩ := h; subst e; rfl)
      | (obtain ⟨_, _, _, _, _, _, _, _, _, _, _, _, _, e, _⟩ := h; subst e; rfl)
    · skip
      obtain ⟨p, dx, ln, m, y, w, rfl, hp, hw, gd, k⟩ := h
      have key : ∀ q : Addr, H q = none → ∀ o : HO, (upd H q o) p = some (.ins (Cl.ad K .mark) dx (Leaf.flds (.mark ln m y))) := fun q hq o => by
        rw [upd_ne (ne_of_none hp hq)]
        exact hp
      have h1 := gd.1
      have h2 := gd.2.1
      refine ⟨_, rfl, _, _, _, _, _, rfl, hp, T.cls _, T.na_Mark_mark, rfl, ?_⟩
      walk_at "rd"
      refine ⟨_, _, _, _, _, rfl, hp, T.cls _, T.na_Mark_mark, rfl, le_sz (Nat.le_of_ble_eq_true rfl), fun q hq => ?_⟩
      refine ⟨_, _, rfl, .inr (SqT.of upd_same), rfl, rfl, _, rfl, ?_⟩
      have e : inV (V.str m) [V.str "round", V.str "stop", V.str "nothing"] = true := by
        rcases gd.2.2.1 with rfl | rfl | rfl <;> decide +kernel
      have e2 : (if true = true then !inV (V.str m) [V.str "round", V.str "stop", V.str "nothing"] else inV (V.str m) [V.str "round", V.str "stop", V.str "nothing"]) = false := by rw [e]; rfl
      rw [e2]
      refine iteF ?_
      refine ⟨_, rfl, _, _, _, _, _, rfl, (key q hq _), T.cls _, T.na_Mark_line, rfl, _, _, _, rfl, h1, h2, _, rfl, iteT ?_⟩
      exact ⟨_, rfl, _, _, _, _, _, rfl, (key q hq _), T.cls _, T.na_Mark_by, rfl, _, rfl, gd.2.2.2, fun H1 s1 => k _ ((same_new hq).trans s1)⟩
  exact ⟨fd, G, F.bindsN (fun _ _ _ _ _ _ us hl => match us, hl with | [_, _], _ => rfl), F.kp⟩
def spWorth (c : PO) : Sp := fun vs H Q _ => ∃ (p : Addr) (w : Nat) (a b : Int), vs = [.ref p, .int w, .int a, .int b] ∧ (4 ≤ w ∧ w ≤ 32 ∧ 0 ≤ a ∧ a < 2 ^ w ∧ 0 ≤ b ∧ b < 2 ^ w) ∧ Q (.int (c.f w a b)) H
theorem sc_mLow_worth : FnScope ["self", "width", "a", "b"] ["self", "width", "a", "b"] (defScope smLow_worth) := ⟨rfl, rfl, rfl, by decide +kernel, rfl, by decide +kernel, by decide +kernel⟩
theorem fnk_mLow_worth (T : Txt K mg) : ∃ fd, FnOk P w K mg base CX0 (4) (He.fAd K dmLow_worth.at_) fd ["self", "width", "a", "b"] (spWorth .low) ∧ Binds K fd ["self", "width", "a", "b"] [] ∧ PySem.W.keepIn K (.ref (He.fAd K dmLow_worth.at_)) = true := by
  obtain ⟨fd, F0⟩ := T.c.d.def_ 31 (d := dmLow_worth) rfl
  have F : FunD K "worth" "Low.worth" (defArgs smLow_worth) (defBody smLow_worth) (defScope smLow_worth) [] [] (He.fAd K dmLow_worth.at_) fd := F0
  have G : FnOk P w K mg base CX0 4 (He.fAd K dmLow_worth.at_) fd ["self", "width", "a", "b"] (spWorth .low) := by
    refine F.ok (CX := CX0) sc_mLow_worth (fun vs H Q E h => ?_) (fun cdv A outer s H vs Q E hr h => ⟨_, PSs.nox (by exact (pss_one (ps_ret (pe_c (cal_f_low_product T) hr (by decide) rfl (pa_cons (pv 1) (pa_cons (pv 2) (pa_cons (pv 3) pa_nil))))))), ?_⟩)
    · first
      | (obtain ⟨e, _⟩ := h; subst e; rfl)
      | (obtain ⟨_, e, _⟩ := h; subst e; rfl)
      | (obtain ⟨_, _, e, _⟩ := h; subst e; rfl)
      | (obtain ⟨_, _, _, e, _⟩ := h; subst e; rfl)
      | (obtain ⟨_, _, _, _, e, _⟩ := h; subst e; rfl)
      | (obtain ⟨_, _, _, _, _, e, _⟩ := h; subst e; rfl)
      | (obtain ⟨_, _, _, _, _, _, e, _⟩ := h; subst e; rfl)
      | (obtain ⟨_, _, _, _, _, _, _, e, _⟩ := h; subst e; rfl)
      | (obtain ⟨_, _, _, _, _, _, _, _, e, _⟩ := h; subst e; rfl)
      | (obtain ⟨_, _, _, _, _, _, _, _, _, e, _⟩ := h; subst e; rfl)
      | (obtain ⟨_, _, _, _, _, _, _, _, _, _, e, _⟩ := h; subst e; rfl)
      | (obtain ⟨_, _, _, _, _, _, _, _, _, _, _, e, _⟩ := h; subst e; rfl)
      | (obtain ⟨_, _, _, _, _, _, _, _, _, _, _, _, e, _⟩ := h; subst e; rfl)
      | (obtain ⟨_, _, _, _, _, _, _, _, _, _, _, _, _, e, _⟩ := h; subst e; rfl)
    · skip
      obtain ⟨p, w, a, b, rfl, hr4, k⟩ := h
      exact ⟨_, rfl, _, rfl, _, rfl, _, _, _, rfl, hr4, k⟩
  exact ⟨fd, G, F.bindsN (fun _ _ _ _ _ _ us hl => match us, hl with | [_, _, _, _], _ => rfl), F.kp⟩
theorem sc_mHigh_worth : FnScope ["self", "width", "a", "b"] ["self", "width", "a", "b"] (defScope smHigh_worth) := ⟨rfl, rfl, rfl, by decide +kernel, rfl, by decide +kernel, by decide +kernel⟩
theorem fnk_mHigh_worth (T : Txt K mg) : ∃ fd, FnOk P w K mg base CX0 (4) (He.fAd K dmHigh_worth.at_) fd ["self", "width", "a", "b"] (spWorth .high) ∧ Binds K fd ["self", "width", "a", "b"] [] ∧ PySem.W.keepIn K (.ref (He.fAd K dmHigh_worth.at_)) = true := by
  obtain ⟨fd, F0⟩ := T.c.d.def_ 33 (d := dmHigh_worth) rfl
  have F : FunD K "worth" "High.worth" (defArgs smHigh_worth) (defBody smHigh_worth) (defScope smHigh_worth) [] [] (He.fAd K dmHigh_worth.at_) fd := F0
  have G : FnOk P w K mg base CX0 4 (He.fAd K dmHigh_worth.at_) fd ["self", "width", "a", "b"] (spWorth .high) := by
    refine F.ok (CX := CX0) sc_mHigh_worth (fun vs H Q E h => ?_) (fun cdv A outer s H vs Q E hr h => ⟨_, PSs.nox (by exact (pss_one (ps_ret (pe_c (cal_f_high_product T) hr (by decide) rfl (pa_cons (pv 1) (pa_cons (pv 2) (pa_cons (pv 3) pa_nil))))))), ?_⟩)
    · first
      | (obtain ⟨e, _⟩ := h; subst e; rfl)
      | (obtain ⟨_, e, _⟩ := h; subst e; rfl)
      | (obtain ⟨_, _, e, _⟩ := h; subst e; rfl)
      | (obtain ⟨_, _, _, e, _⟩ := h; subst e; rfl)
      | (obtain ⟨_, _, _, _, e, _⟩ := h; subst e; rfl)
      | (obtain ⟨_, _, _, _, _, e, _⟩ := h; subst e; rfl)
      | (obtain ⟨_, _, _, _, _, _, e, _⟩ := h; subst e; rfl)
      | (obtain ⟨_, _, _, _, _, _, _, e, _⟩ := h; subst e; rfl)
      | (obtain ⟨_, _, _, _, _, _, _, _, e, _⟩ := h; subst e; rfl)
      | (obtain ⟨_, _, _, _, _, _, _, _, _, e, _⟩ := h; subst e; rfl)
      | (obtain ⟨_, _, _, _, _, _, _, _, _, _, e, _⟩ := h; subst e; rfl)
      | (obtain ⟨_, _, _, _, _, _, _, _, _, _, _, e, _⟩ := h; subst e; rfl)
      | (obtain ⟨_, _, _, _, _, _, _, _, _, _, _, _, e, _⟩ := h; subst e; rfl)
      | (obtain ⟨_, _, _, _, _, _, _, _, _, _, _, _, _, e, _⟩ := h; subst e; rfl)
    · skip
      obtain ⟨p, w, a, b, rfl, hr4, k⟩ := h
      exact ⟨_, rfl, _, rfl, _, rfl, _, _, _, rfl, hr4, k⟩
  exact ⟨fd, G, F.bindsN (fun _ _ _ _ _ _ us hl => match us, hl with | [_, _, _, _], _ => rfl), F.kp⟩
theorem sc_mAnd_worth : FnScope ["self", "width", "a", "b"] ["self", "width", "a", "b"] (defScope smAnd_worth) := ⟨rfl, rfl, rfl, by decide +kernel, rfl, by decide +kernel, by decide +kernel⟩
theorem fnk_mAnd_worth (T : Txt K mg) : ∃ fd, FnOk P w K mg base CX0 (4) (He.fAd K dmAnd_worth.at_) fd ["self", "width", "a", "b"] (spWorth .and_) ∧ Binds K fd ["self", "width", "a", "b"] [] ∧ PySem.W.keepIn K (.ref (He.fAd K dmAnd_worth.at_)) = true := by
  obtain ⟨fd, F0⟩ := T.c.d.def_ 35 (d := dmAnd_worth) rfl
  have F : FunD K "worth" "And.worth" (defArgs smAnd_worth) (defBody smAnd_worth) (defScope smAnd_worth) [] [] (He.fAd K dmAnd_worth.at_) fd := F0
  have G : FnOk P w K mg base CX0 4 (He.fAd K dmAnd_worth.at_) fd ["self", "width", "a", "b"] (spWorth .and_) := by
    refine F.ok (CX := CX0) sc_mAnd_worth (fun vs H Q E h => ?_) (fun cdv A outer s H vs Q E hr h => ⟨_, PSs.nox (by exact (pss_one (ps_ret (pe_op op_and (pv 2) (pv 3))))), ?_⟩)
    · first
      | (obtain ⟨e, _⟩ := h; subst e; rfl)
      | (obtain ⟨_, e, _⟩ := h; subst e; rfl)
      | (obtain ⟨_, _, e, _⟩ := h; subst e; rfl)
      | (obtain ⟨_, _, _, e, _⟩ := h; subst e; rfl)
      | (obtain ⟨_, _, _, _, e, _⟩ := h; subst e; rfl)
      | (obtain ⟨_, _, _, _, _, e, _⟩ := h; subst e; rfl)
      | (obtain ⟨_, _, _, _, _, _, e, _⟩ := h; subst e; rfl)
      | (obtain ⟨_, _, _, _, _, _, _, e, _⟩ := h; subst e; rfl)
      | (obtain ⟨_, _, _, _, _, _, _, _, e, _⟩ := h; subst e; rfl)
      | (obtain ⟨_, _, _, _, _, _, _, _, _, e, _⟩ := h; subst e; rfl)
      | (obtain ⟨_, _, _, _, _, _, _, _, _, _, e, _⟩ := h; subst e; rfl)
      | (obtain ⟨_, _, _, _, _, _, _, _, _, _, _, e, _⟩ := h; subst e; rfl)
      | (obtain ⟨_, _, _, _, _, _, _, _, _, _, _, _, e, _⟩ := h; subst e; rfl)
      | (obtain ⟨_, _, _, _, _, _, _, _, _, _, _, _, _, e, _⟩ := h; subst e; rfl)
    · skip
      obtain ⟨p, w, a, b, rfl, hr4, k⟩ := h
      walk_at "rd"
      exact k
  exact ⟨fd, G, F.bindsN (fun _ _ _ _ _ _ us hl => match us, hl with | [_, _, _, _], _ => rfl), F.kp⟩
theorem sc_mOr_worth : FnScope ["self", "width", "a", "b"] ["self", "width", "a", "b"] (defScope smOr_worth) := ⟨rfl, rfl, rfl, by decide +kernel, rfl, by decide +kernel, by decide +kernel⟩
theorem fnk_mOr_worth (T : Txt K mg) : ∃ fd, FnOk P w K mg base CX0 (4) (He.fAd K dmOr_worth.at_) fd ["self", "width", "a", "b"] (spWorth .or_) ∧ Binds K fd ["self", "width", "a", "b"] [] ∧ PySem.W.keepIn K (.ref (He.fAd K dmOr_worth.at_)) = true := by
  obtain ⟨fd, F0⟩ := T.c.d.def_ 37 (d := dmOr_worth) rfl
  have F : FunD K "worth" "Or.worth" (defArgs smOr_worth) (defBody smOr_worth) (defScope smOr_worth) [] [] (He.fAd K dmOr_worth.at_) fd := F0
  have G : FnOk P w K mg base CX0 4 (He.fAd K dmOr_worth.at_) fd ["self", "width", "a", "b"] (spWorth .or_) := by
    refine F.ok (CX := CX0) sc_mOr_worth (fun vs H Q E h => ?_) (fun cdv A outer s H vs Q E hr h => ⟨_, PSs.nox (by exact (pss_one (ps_ret (pe_op op_or (pv 2) (pv 3))))), ?_⟩)
    · first
      | (obtain ⟨e, _⟩ := h; subst e; rfl)
      | (obtain ⟨_, e, _⟩ := h; subst e; rfl)
      | (obtain ⟨_, _, e, _⟩ := h; subst e; rfl)
      | (obtain ⟨_, _, _, e, _⟩ := h; subst e; rfl)
      | (obtain ⟨_, _, _, _, e, _⟩ := h; subst e; rfl)
      | (obtain ⟨_, _, _, _, _, e, _⟩ := h; subst e; rfl)
      | (obtain ⟨_, _, _, _, _, _, e, _⟩ := h; subst e; rfl)
      | (obtain ⟨_, _, _, _, _, _, _, e, _⟩ := h; subst e; rfl)
      | (obtain ⟨_, _, _, _, _, _, _, _, e, _⟩ := h; subst e; rfl)
      | (obtain ⟨_, _, _, _, _, _, _, _, _, e, _⟩ := h; subst e; rfl)
      | (obtain ⟨_, _, _, _, _, _, _, _, _, _, e, _⟩ := h; subst e; rfl)
      | (obtain ⟨_, _, _, _, _, _, _, _, _, _, _, e, _⟩ := h; subst e; rfl)
      | (obtain ⟨_, _, _, _, _, _, _, _, _, _, _, _, e, _⟩ := h; subst e; rfl)
      | (obtain ⟨_, _, _, _, _, _, _, _, _, _, _, _, _, e, _⟩ := h; subst e; rfl)
    · skip
      obtain ⟨p, w, a, b, rfl, hr4, k⟩ := h
      walk_at "rd"
      exact k
  exact ⟨fd, G, F.bindsN (fun _ _ _ _ _ _ us hl => match us, hl with | [_, _, _, _], _ => rfl), F.kp⟩
theorem sc_mUnlike_worth : FnScope ["self", "width", "a", "b"] ["self", "width", "a", "b"] (defScope smUnlike_worth) := ⟨rfl, rfl, rfl, by decide +kernel, rfl, by decide +kernel, by decide +kernel⟩
theorem fnk_mUnlike_worth (T : Txt K mg) : ∃ fd, FnOk P w K mg base CX0 (4) (He.fAd K dmUnlike_worth.at_) fd ["self", "width", "a", "b"] (spWorth .unlike) ∧ Binds K fd ["self", "width", "a", "b"] [] ∧ PySem.W.keepIn K (.ref (He.fAd K dmUnlike_worth.at_)) = true := by
  obtain ⟨fd, F0⟩ := T.c.d.def_ 39 (d := dmUnlike_worth) rfl
  have F : FunD K "worth" "Unlike.worth" (defArgs smUnlike_worth) (defBody smUnlike_worth) (defScope smUnlike_worth) [] [] (He.fAd K dmUnlike_worth.at_) fd := F0
  have G : FnOk P w K mg base CX0 4 (He.fAd K dmUnlike_worth.at_) fd ["self", "width", "a", "b"] (spWorth .unlike) := by
    refine F.ok (CX := CX0) sc_mUnlike_worth (fun vs H Q E h => ?_) (fun cdv A outer s H vs Q E hr h => ⟨_, PSs.nox (by exact (pss_one (ps_ret (pe_op op_xor (pv 2) (pv 3))))), ?_⟩)
    · first
      | (obtain ⟨e, _⟩ := h; subst e; rfl)
      | (obtain ⟨_, e, _⟩ := h; subst e; rfl)
      | (obtain ⟨_, _, e, _⟩ := h; subst e; rfl)
      | (obtain ⟨_, _, _, e, _⟩ := h; subst e; rfl)
      | (obtain ⟨_, _, _, _, e, _⟩ := h; subst e; rfl)
      | (obtain ⟨_, _, _, _, _, e, _⟩ := h; subst e; rfl)
      | (obtain ⟨_, _, _, _, _, _, e, _⟩ := h; subst e; rfl)
      | (obtain ⟨_, _, _, _, _, _, _, e, _⟩ := h; subst e; rfl)
      | (obtain ⟨_, _, _, _, _, _, _, _, e, _⟩ := h; subst e; rfl)
      | (obtain ⟨_, _, _, _, _, _, _, _, _, e, _⟩ := h; subst e; rfl)
      | (obtain ⟨_, _, _, _, _, _, _, _, _, _, e, _⟩ := h; subst e; rfl)
      | (obtain ⟨_, _, _, _, _, _, _, _, _, _, _, e, _⟩ := h; subst e; rfl)
      | (obtain ⟨_, _, _, _, _, _, _, _, _, _, _, _, e, _⟩ := h; subst e; rfl)
      | (obtain ⟨_, _, _, _, _, _, _, _, _, _, _, _, _, e, _⟩ := h; subst e; rfl)
    · skip
      obtain ⟨p, w, a, b, rfl, hr4, k⟩ := h
      walk_at "rd"
      exact k
  exact ⟨fd, G, F.bindsN (fun _ _ _ _ _ _ us hl => match us, hl with | [_, _, _, _], _ => rfl), F.kp⟩
theorem sc_mUnder_worth : FnScope ["self", "width", "a", "b"] ["self", "width", "a", "b"] (defScope smUnder_worth) := ⟨rfl, rfl, rfl, by decide +kernel, rfl, by decide +kernel, by decide +kernel⟩
theorem fnk_mUnder_worth (T : Txt K mg) : ∃ fd, FnOk P w K mg base CX0 (4) (He.fAd K dmUnder_worth.at_) fd ["self", "width", "a", "b"] (spWorth .under) ∧ Binds K fd ["self", "width", "a", "b"] [] ∧ PySem.W.keepIn K (.ref (He.fAd K dmUnder_worth.at_)) = true := by
  obtain ⟨fd, F0⟩ := T.c.d.def_ 41 (d := dmUnder_worth) rfl
  have F : FunD K "worth" "Under.worth" (defArgs smUnder_worth) (defBody smUnder_worth) (defScope smUnder_worth) [] [] (He.fAd K dmUnder_worth.at_) fd := F0
  have G : FnOk P w K mg base CX0 4 (He.fAd K dmUnder_worth.at_) fd ["self", "width", "a", "b"] (spWorth .under) := by
    refine F.ok (CX := CX0) sc_mUnder_worth (fun vs H Q E h => ?_) (fun cdv A outer s H vs Q E hr h => ⟨_, PSs.nox (by exact (pss_one (ps_ret (pe_callTy call_int1 rfl T.f_int (by decide +kernel) (pa_cons (pe_cmpR op_lt (pv 2) (pv 3) (nomark _)) pa_nil))))), ?_⟩)
    · first
      | (obtain ⟨e, _⟩ := h; subst e; rfl)
      | (obtain ⟨_, e, _⟩ := h; subst e; rfl)
      | (obtain ⟨_, _, e, _⟩ := h; subst e; rfl)
      | (obtain ⟨_, _, _, e, _⟩ := h; subst e; rfl)
      | (obtain ⟨_, _, _, _, e, _⟩ := h; subst e; rfl)
      | (obtain ⟨_, _, _, _, _, e, _⟩ := h; subst e; rfl)
      | (obtain ⟨_, _, _, _, _, _, e, _⟩ := h; subst e; rfl)
      | (obtain ⟨_, _, _, _, _, _, _, e, _⟩ := h; subst e; rfl)
      | (obtain ⟨_, _, _, _, _, _, _, _, e, _⟩ := h; subst e; rfl)
      | (obtain ⟨_, _, _, _, _, _, _, _, _, e, _⟩ := h; subst e; rfl)
      | (obtain ⟨_, _, _, _, _, _, _, _, _, _, e, _⟩ := h; subst e; rfl)
      | (obtain ⟨_, _, _, _, _, _, _, _, _, _, _, e, _⟩ := h; subst e; rfl)
      | (obtain ⟨_, _, _, _, _, _, _, _, _, _, _, _, e, _⟩ := h; subst e; rfl)
      | (obtain ⟨_, _, _, _, _, _, _, _, _, _, _, _, _, e, _⟩ := h; subst e; rfl)
    · skip
      obtain ⟨p, w, a, b, rfl, hr4, k⟩ := h
      walk_at "rd"
      refine Or.inr ⟨_, rfl, ?_⟩
      rw [b2i_eq]
      exact k
  exact ⟨fd, G, F.bindsN (fun _ _ _ _ _ _ us hl => match us, hl with | [_, _, _, _], _ => rfl), F.kp⟩
def spBoth (c : CO) : Sp := fun vs H Q _ => ∃ (p : Addr) (w : Nat) (a b : Int), vs = [.ref p, .int w, .int a, .int b] ∧ (4 ≤ w ∧ w ≤ 32 ∧ 0 ≤ a ∧ a < 2 ^ w ∧ 0 ≤ b ∧ b < 2 ^ w) ∧ ∀ q, H q = none → Q (.ref q) (upd H q (.tup [.int (c.v w a b), .int (c.c w a b)]))
theorem sc_mSum_both : FnScope ["self", "width", "a", "b"] ["self", "width", "a", "b"] (defScope smSum_both) := ⟨rfl, rfl, rfl, by decide +kernel, rfl, by decide +kernel, by decide +kernel⟩
theorem fnk_mSum_both (T : Txt K mg) : ∃ fd, FnOk P w K mg base CX0 (4) (He.fAd K dmSum_both.at_) fd ["self", "width", "a", "b"] (spBoth .sum) ∧ Binds K fd ["self", "width", "a", "b"] [] ∧ PySem.W.keepIn K (.ref (He.fAd K dmSum_both.at_)) = true := by
  obtain ⟨fd, F0⟩ := T.c.d.def_ 48 (d := dmSum_both) rfl
  have F : FunD K "both" "Sum.both" (defArgs smSum_both) (defBody smSum_both) (defScope smSum_both) [] [] (He.fAd K dmSum_both.at_) fd := F0
  have G : FnOk P w K mg base CX0 4 (He.fAd K dmSum_both.at_) fd ["self", "width", "a", "b"] (spBoth .sum) := by
    refine F.ok (CX := CX0) sc_mSum_both (fun vs H Q E h => ?_) (fun cdv A outer s H vs Q E hr h => ⟨_, PSs.nox (by exact (pss_one (ps_ret (pe_c (cal_f_sum_of T) hr (by decide) rfl (pa_cons (pv 1) (pa_cons (pv 2) (pa_cons (pv 3) pa_nil))))))), ?_⟩)
    · first
      | (obtain ⟨e, _⟩ := h; subst e; rfl)
      | (obtain ⟨_, e, _⟩ := h; subst e; rfl)
      | (obtain ⟨_, _, e, _⟩ := h; subst e; rfl)
      | (obtain ⟨_, _, _, e, _⟩ := h; subst e; rfl)
      | (obtain ⟨_, _, _, _, e, _⟩ := h; subst e; rfl)
      | (obtain ⟨_, _, _, _, _, e, _⟩ := h; subst e; rfl)
      | (obtain ⟨_, _, _, _, _, _, e, _⟩ := h; subst e; rfl)
      | (obtain ⟨_, _, _, _, _, _, _, e, _⟩ := h; subst e; rfl)
      | (obtain ⟨_, _, _, _, _, _, _, _, e, _⟩ := h; subst e; rfl)
      | (obtain ⟨_, _, _, _, _, _, _, _, _, e, _⟩ := h; subst e; rfl)
      | (obtain ⟨_, _, _, _, _, _, _, _, _, _, e, _⟩ := h; subst e; rfl)
      | (obtain ⟨_, _, _, _, _, _, _, _, _, _, _, e, _⟩ := h; subst e; rfl)
      | (obtain ⟨_, _, _, _, _, _, _, _, _, _, _, _, e, _⟩ := h; subst e; rfl)
      | (obtain ⟨_, _, _, _, _, _, _, _, _, _, _, _, _, e, _⟩ := h; subst e; rfl)
    · skip
      obtain ⟨p, w, a, b, rfl, hr4, k⟩ := h
      exact ⟨_, rfl, _, rfl, _, rfl, _, _, _, rfl, hr4, k⟩
  exact ⟨fd, G, F.bindsN (fun _ _ _ _ _ _ us hl => match us, hl with | [_, _, _, _], _ => rfl), F.kp⟩
theorem sc_mGap_both : FnScope ["self", "width", "a", "b"] ["self", "width", "a", "b"] (defScope smGap_both) := ⟨rfl, rfl, rfl, by decide +kernel, rfl, by decide +kernel, by decide +kernel⟩
theorem fnk_mGap_both (T : Txt K mg) : ∃ fd, FnOk P w K mg base CX0 (4) (He.fAd K dmGap_both.at_) fd ["self", "width", "a", "b"] (spBoth .gap) ∧ Binds K fd ["self", "width", "a", "b"] [] ∧ PySem.W.keepIn K (.ref (He.fAd K dmGap_both.at_)) = true := by
  obtain ⟨fd, F0⟩ := T.c.d.def_ 50 (d := dmGap_both) rfl
  have F : FunD K "both" "Gap.both" (defArgs smGap_both) (defBody smGap_both) (defScope smGap_both) [] [] (He.fAd K dmGap_both.at_) fd := F0
  have G : FnOk P w K mg base CX0 4 (He.fAd K dmGap_both.at_) fd ["self", "width", "a", "b"] (spBoth .gap) := by
    refine F.ok (CX := CX0) sc_mGap_both (fun vs H Q E h => ?_) (fun cdv A outer s H vs Q E hr h => ⟨_, PSs.nox (by exact (pss_one (ps_ret (pe_c (cal_f_gap_of T) hr (by decide) rfl (pa_cons (pv 1) (pa_cons (pv 2) (pa_cons (pv 3) pa_nil))))))), ?_⟩)
    · first
      | (obtain ⟨e, _⟩ := h; subst e; rfl)
      | (obtain ⟨_, e, _⟩ := h; subst e; rfl)
      | (obtain ⟨_, _, e, _⟩ := h; subst e; rfl)
      | (obtain ⟨_, _, _, e, _⟩ := h; subst e; rfl)
      | (obtain ⟨_, _, _, _, e, _⟩ := h; subst e; rfl)
      | (obtain ⟨_, _, _, _, _, e, _⟩ := h; subst e; rfl)
      | (obtain ⟨_, _, _, _, _, _, e, _⟩ := h; subst e; rfl)
      | (obtain ⟨_, _, _, _, _, _, _, e, _⟩ := h; subst e; rfl)
      | (obtain ⟨_, _, _, _, _, _, _, _, e, _⟩ := h; subst e; rfl)
      | (obtain ⟨_, _, _, _, _, _, _, _, _, e, _⟩ := h; subst e; rfl)
      | (obtain ⟨_, _, _, _, _, _, _, _, _, _, e, _⟩ := h; subst e; rfl)
      | (obtain ⟨_, _, _, _, _, _, _, _, _, _, _, e, _⟩ := h; subst e; rfl)
      | (obtain ⟨_, _, _, _, _, _, _, _, _, _, _, _, e, _⟩ := h; subst e; rfl)
      | (obtain ⟨_, _, _, _, _, _, _, _, _, _, _, _, _, e, _⟩ := h; subst e; rfl)
    · skip
      obtain ⟨p, w, a, b, rfl, hr4, k⟩ := h
      exact ⟨_, rfl, _, rfl, _, rfl, _, _, _, rfl, hr4, k⟩
  exact ⟨fd, G, F.bindsN (fun _ _ _ _ _ _ us hl => match us, hl with | [_, _, _, _], _ => rfl), F.kp⟩
def spMoved (K : PySem.W.Frag) (c : SO) : Sp := fun vs H Q _ => ∃ (p dx : Addr) (w : Nat) (a : Int) (g o : Str) (j : Int), vs = [.ref p, .int w, .int a] ∧ H p = some (.ins (c.cl.ad K) dx (Leaf.flds (.shift c g o j))) ∧ (4 ≤ w ∧ w ≤ 32 ∧ 0 ≤ a ∧ a < 2 ^ w ∧ 0 ≤ j ∧ j < w) ∧ Q (.int (c.f w a j)) H
theorem sc_mLeft_moved : FnScope ["self", "width", "a"] ["self", "width", "a"] (defScope smLeft_moved) := ⟨rfl, rfl, rfl, by decide +kernel, rfl, by decide +kernel, by decide +kernel⟩
theorem fnk_mLeft_moved (T : Txt K mg) : ∃ fd, FnOk P w K mg base CX0 (4) (He.fAd K dmLeft_moved.at_) fd ["self", "width", "a"] (spMoved K .left) ∧ Binds K fd ["self", "width", "a"] [] ∧ PySem.W.keepIn K (.ref (He.fAd K dmLeft_moved.at_)) = true := by
  obtain ⟨fd, F0⟩ := T.c.d.def_ 57 (d := dmLeft_moved) rfl
  have F : FunD K "moved" "Left.moved" (defArgs smLeft_moved) (defBody smLeft_moved) (defScope smLeft_moved) [] [] (He.fAd K dmLeft_moved.at_) fd := F0
  have G : FnOk P w K mg base CX0 4 (He.fAd K dmLeft_moved.at_) fd ["self", "width", "a"] (spMoved K .left) := by
    refine F.ok (CX := CX0) sc_mLeft_moved (fun vs H Q E h => ?_) (fun cdv A outer s H vs Q E hr h => ⟨_, PSs.nox (by exact (pss_one (ps_ret (pe_c (cal_f_left T) hr (by decide) rfl (pa_cons (pv 1) (pa_cons (pv 2) (pa_cons (pe_fld (pv 0) rfl) pa_nil))))))), ?_⟩)
    · first
      | (obtain ⟨e, _⟩ := h; subst e; rfl)
      | (obtain ⟨_, e, _⟩ := h; subst e; rfl)
      | (obtain ⟨_, _, e, _⟩ := h; subst e; rfl)
      | (obtain ⟨_, _, _, e, _⟩ := h; subst e; rfl)
      | (obtain ⟨_, _, _, _, e, _⟩ := h; subst e; rfl)
      | (obtain ⟨_, _, _, _, _, e, _⟩ := h; subst e; rfl)
      | (obtain ⟨_, _, _, _, _, _, e, _⟩ := h; subst e; rfl)
      | (obtain ⟨_, _, _, _, _, _, _, e, _⟩ := h; subst e; rfl)
      | (obtain ⟨_, _, _, _, _, _, _, _, e, _⟩ := h; subst e; rfl)
      | (obtain ⟨_, _, _, _, _, _, _, _, _, e, _⟩ := h; subst e; rfl)
      | (obtain ⟨_, _, _, _, _, _, _, _, _, _, e, _⟩ := h; subst e; rfl)
      | (obtain ⟨_, _, _, _, _, _, _, _, _, _, _, e, _⟩ := h; subst e; rfl)
      | (obtain ⟨_, _, _, _, _, _, _, _, _, _, _, _, e, _⟩ := h; subst e; rfl)
      | (obtain ⟨_, _, _, _, _, _, _, _, _, _, _, _, _, e, _⟩ := h; subst e; rfl)
    · skip
      obtain ⟨p, dx, w, a, g, o, j, rfl, hp, hr4, k⟩ := h
      exact ⟨_, rfl, _, rfl, _, rfl, _, _, _, _, _, rfl, hp, T.cls _, T.na_SO_k .left, rfl, _, _, _, rfl, hr4, k⟩
  exact ⟨fd, G, F.bindsN (fun _ _ _ _ _ _ us hl => match us, hl with | [_, _, _], _ => rfl), F.kp⟩
theorem sc_mRight_moved : FnScope ["self", "width", "a"] ["self", "width", "a"] (defScope smRight_moved) := ⟨rfl, rfl, rfl, by decide +kernel, rfl, by decide +kernel, by decide +kernel⟩
theorem fnk_mRight_moved (T : Txt K mg) : ∃ fd, FnOk P w K mg base CX0 (4) (He.fAd K dmRight_moved.at_) fd ["self", "width", "a"] (spMoved K .right) ∧ Binds K fd ["self", "width", "a"] [] ∧ PySem.W.keepIn K (.ref (He.fAd K dmRight_moved.at_)) = true := by
  obtain ⟨fd, F0⟩ := T.c.d.def_ 59 (d := dmRight_moved) rfl
  have F : FunD K "moved" "Right.moved" (defArgs smRight_moved) (defBody smRight_moved) (defScope smRight_moved) [] [] (He.fAd K dmRight_moved.at_) fd := F0
  have G : FnOk P w K mg base CX0 4 (He.fAd K dmRight_moved.at_) fd ["self", "width", "a"] (spMoved K .right) := by
    refine F.ok (CX := CX0) sc_mRight_moved (fun vs H Q E h => ?_) (fun cdv A outer s H vs Q E hr h => ⟨_, PSs.nox (by exact (pss_one (ps_ret (pe_c (cal_f_right T) hr (by decide) rfl (pa_cons (pv 1) (pa_cons (pv 2) (pa_cons (pe_fld (pv 0) rfl) pa_nil))))))), ?_⟩)
    · first
      | (obtain ⟨e, _⟩ := h; subst e; rfl)
      | (obtain ⟨_, e, _⟩ := h; subst e; rfl)
      | (obtain ⟨_, _, e, _⟩ := h; subst e; rfl)
      | (obtain ⟨_, _, _, e, _⟩ := h; subst e; rfl)
      | (obtain ⟨_, _, _, _, e, _⟩ := h; subst e; rfl)
      | (obtain ⟨_, _, _, _, _, e, _⟩ := h; subst e; rfl)
      | (obtain ⟨_, _, _, _, _, _, e, _⟩ := h; subst e; rfl)
      | (obtain ⟨_, _, _, _, _, _, _, e, _⟩ := h; subst e; rfl)
      | (obtain ⟨_, _, _, _, _, _, _, _, e, _⟩ := h; subst e; rfl)
      | (obtain ⟨_, _, _, _, _, _, _, _, _, e, _⟩ := h; subst e; rfl)
      | (obtain ⟨_, _, _, _, _, _, _, _, _, _, e, _⟩ := h; subst e; rfl)
      | (obtain ⟨_, _, _, _, _, _, _, _, _, _, _, e, _⟩ := h; subst e; rfl)
      | (obtain ⟨_, _, _, _, _, _, _, _, _, _, _, _, e, _⟩ := h; subst e; rfl)
      | (obtain ⟨_, _, _, _, _, _, _, _, _, _, _, _, _, e, _⟩ := h; subst e; rfl)
    · skip
      obtain ⟨p, dx, w, a, g, o, j, rfl, hp, hr4, k⟩ := h
      exact ⟨_, rfl, _, rfl, _, rfl, _, _, _, _, _, rfl, hp, T.cls _, T.na_SO_k .right, rfl, _, _, _, rfl, hr4, k⟩
  exact ⟨fd, G, F.bindsN (fun _ _ _ _ _ _ us hl => match us, hl with | [_, _, _], _ => rfl), F.kp⟩
theorem sc_mSlide_moved : FnScope ["self", "width", "a"] ["self", "width", "a"] (defScope smSlide_moved) := ⟨rfl, rfl, rfl, by decide +kernel, rfl, by decide +kernel, by decide +kernel⟩
theorem fnk_mSlide_moved (T : Txt K mg) : ∃ fd, FnOk P w K mg base CX0 (4) (He.fAd K dmSlide_moved.at_) fd ["self", "width", "a"] (spMoved K .slide) ∧ Binds K fd ["self", "width", "a"] [] ∧ PySem.W.keepIn K (.ref (He.fAd K dmSlide_moved.at_)) = true := by
  obtain ⟨fd, F0⟩ := T.c.d.def_ 61 (d := dmSlide_moved) rfl
  have F : FunD K "moved" "Slide.moved" (defArgs smSlide_moved) (defBody smSlide_moved) (defScope smSlide_moved) [] [] (He.fAd K dmSlide_moved.at_) fd := F0
  have G : FnOk P w K mg base CX0 4 (He.fAd K dmSlide_moved.at_) fd ["self", "width", "a"] (spMoved K .slide) := by
    refine F.ok (CX := CX0) sc_mSlide_moved (fun vs H Q E h => ?_) (fun cdv A outer s H vs Q E hr h => ⟨_, PSs.nox (by exact (pss_one (ps_ret (pe_c (cal_f_slide T) hr (by decide) rfl (pa_cons (pv 1) (pa_cons (pv 2) (pa_cons (pe_fld (pv 0) rfl) pa_nil))))))), ?_⟩)
    · first
      | (obtain ⟨e, _⟩ := h; subst e; rfl)
      | (obtain ⟨_, e, _⟩ := h; subst e; rfl)
      | (obtain ⟨_, _, e, _⟩ := h; subst e; rfl)
      | (obtain ⟨_, _, _, e, _⟩ := h; subst e; rfl)
      | (obtain ⟨_, _, _, _, e, _⟩ := h; subst e; rfl)
      | (obtain ⟨_, _, _, _, _, e, _⟩ := h; subst e; rfl)
      | (obtain ⟨_, _, _, _, _, _, e, _⟩ := h; subst e; rfl)
      | (obtain ⟨_, _, _, _, _, _, _, e, _⟩ := h; subst e; rfl)
      | (obtain ⟨_, _, _, _, _, _, _, _, e, _⟩ := h; subst e; rfl)
      | (obtain ⟨_, _, _, _, _, _, _, _, _, e, _⟩ := h; subst e; rfl)
      | (obtain ⟨_, _, _, _, _, _, _, _, _, _, e, _⟩ := h; subst e; rfl)
      | (obtain ⟨_, _, _, _, _, _, _, _, _, _, _, e, _⟩ := h; subst e; rfl)
      | (obtain ⟨_, _, _, _, _, _, _, _, _, _, _, _, e, _⟩ := h; subst e; rfl)
      | (obtain ⟨_, _, _, _, _, _, _, _, _, _, _, _, _, e, _⟩ := h; subst e; rfl)
    · skip
      obtain ⟨p, dx, w, a, g, o, j, rfl, hp, hr4, k⟩ := h
      exact ⟨_, rfl, _, rfl, _, rfl, _, _, _, _, _, rfl, hp, T.cls _, T.na_SO_k .slide, rfl, _, _, _, rfl, hr4, k⟩
  exact ⟨fd, G, F.bindsN (fun _ _ _ _ _ _ us hl => match us, hl with | [_, _, _], _ => rfl), F.kp⟩
theorem met_worth (T : Txt K mg) (c : PO) : Met P w K mg base 4 (c.cl.ad K) "worth" (spWorth c) [] := by
  cases c
  · obtain ⟨fd, G, b, _⟩ := fnk_mLow_worth (P := P) (w := w) (base := base) T
    exact ⟨_, fd, _, [], T.cl_Low, T.me_Low_worth, G, b, .nil⟩
  · obtain ⟨fd, G, b, _⟩ := fnk_mHigh_worth (P := P) (w := w) (base := base) T
    exact ⟨_, fd, _, [], T.cl_High, T.me_High_worth, G, b, .nil⟩
  · obtain ⟨fd, G, b, _⟩ := fnk_mAnd_worth (P := P) (w := w) (base := base) T
    exact ⟨_, fd, _, [], T.cl_And, T.me_And_worth, G, b, .nil⟩
  · obtain ⟨fd, G, b, _⟩ := fnk_mOr_worth (P := P) (w := w) (base := base) T
    exact ⟨_, fd, _, [], T.cl_Or, T.me_Or_worth, G, b, .nil⟩
  · obtain ⟨fd, G, b, _⟩ := fnk_mUnlike_worth (P := P) (w := w) (base := base) T
    exact ⟨_, fd, _, [], T.cl_Unlike, T.me_Unlike_worth, G, b, .nil⟩
  · obtain ⟨fd, G, b, _⟩ := fnk_mUnder_worth (P := P) (w := w) (base := base) T
    exact ⟨_, fd, _, [], T.cl_Under, T.me_Under_worth, G, b, .nil⟩
section
variable {X : Cx} {o e : Expr} {es : List Expr} {ta : TE} {t : TA} {pos apos : Pos} {k : Nat}
theorem pe_worth {pl : Sem Bool} (T : Txt X.K X.mg) (hr : Room k X.A) (hk : 4 ≤ k) (he : PE X o ta) (ha : PA X (e :: es) t)
    (hst : starEach (e :: es) X.env = (false, eval e X.env) :: starEach es X.env := by rfl) (hpl : (backTo pos (starEach es X.env)).any (·.1) = false := by rfl)
    (ht : eval (.Call (.Attribute o "worth" apos) (e :: es) [] pos) X.env = (do
      let ov ← eval o X.env
      standAt apos.atName
      let (f, first) ← holding [ov] (getMethod ov "worth" pl)
      callWith pos f first (backTo pos (starEach (e :: es) X.env)) (backToKw pos (keywordEach [] X.env))) := by rfl) :
    PE X (.Call (.Attribute o "worth" apos) (e :: es) [] pos) (tDyn fun c : PO => tMeth (c.cl.ad X.K) "worth" (spWorth c) [] C8.E0 ta t) := pe_any fun c => pe_mt (met_worth T c) hr hk he ha hst hpl ht
end
theorem met_both (T : Txt K mg) (c : CO) : Met P w K mg base 4 (c.cl.ad K) "both" (spBoth c) [] := by
  cases c
  · obtain ⟨fd, G, b, _⟩ := fnk_mSum_both (P := P) (w := w) (base := base) T
    exact ⟨_, fd, _, [], T.cl_Sum, T.me_Sum_both, G, b, .nil⟩
  · obtain ⟨fd, G, b, _⟩ := fnk_mGap_both (P := P) (w := w) (base := base) T
    exact ⟨_, fd, _, [], T.cl_Gap, T.me_Gap_both, G, b, .nil⟩
section
variable {X : Cx} {o e : Expr} {es : List Expr} {ta : TE} {t : TA} {pos apos : Pos} {k : Nat}
theorem pe_both {pl : Sem Bool} (T : Txt X.K X.mg) (hr : Room k X.A) (hk : 4 ≤ k) (he : PE X o ta) (ha : PA X (e :: es) t)
    (hst : starEach (e :: es) X.env = (false, eval e X.env) :: starEach es X.env := by rfl) (hpl : (backTo pos (starEach es X.env)).any (·.1) = false := by rfl)
    (ht : eval (.Call (.Attribute o "both" apos) (e :: es) [] pos) X.env = (do
      let ov ← eval o X.env
      standAt apos.atName
      let (f, first) ← holding [ov] (getMethod ov "both" pl)
      callWith pos f first (backTo pos (starEach (e :: es) X.env)) (backToKw pos (keywordEach [] X.env))) := by rfl) :
    PE X (.Call (.Attribute o "both" apos) (e :: es) [] pos) (tDyn fun c : CO => tMeth (c.cl.ad X.K) "both" (spBoth c) [] C8.E0 ta t) := pe_any fun c => pe_mt (met_both T c) hr hk he ha hst hpl ht
end
theorem met_moved (T : Txt K mg) (c : SO) : Met P w K mg base 4 (c.cl.ad K) "moved" (spMoved K c) [] := by
  cases c
  · obtain ⟨fd, G, b, _⟩ := fnk_mLeft_moved (P := P) (w := w) (base := base) T
    exact ⟨_, fd, _, [], T.cl_Left, T.me_Left_moved, G, b, .nil⟩
  · obtain ⟨fd, G, b, _⟩ := fnk_mRight_moved (P := P) (w := w) (base := base) T
    exact ⟨_, fd, _, [], T.cl_Right, T.me_Right_moved, G, b, .nil⟩
  · obtain ⟨fd, G, b, _⟩ := fnk_mSlide_moved (P := P) (w := w) (base := base) T
    exact ⟨_, fd, _, [], T.cl_Slide, T.me_Slide_moved, G, b, .nil⟩
section
variable {X : Cx} {o e : Expr} {es : List Expr} {ta : TE} {t : TA} {pos apos : Pos} {k : Nat}
theorem pe_moved {pl : Sem Bool} (T : Txt X.K X.mg) (hr : Room k X.A) (hk : 4 ≤ k) (he : PE X o ta) (ha : PA X (e :: es) t)
    (hst : starEach (e :: es) X.env = (false, eval e X.env) :: starEach es X.env := by rfl) (hpl : (backTo pos (starEach es X.env)).any (·.1) = false := by rfl)
    (ht : eval (.Call (.Attribute o "moved" apos) (e :: es) [] pos) X.env = (do
      let ov ← eval o X.env
      standAt apos.atName
      let (f, first) ← holding [ov] (getMethod ov "moved" pl)
      callWith pos f first (backTo pos (starEach (e :: es) X.env)) (backToKw pos (keywordEach [] X.env))) := by rfl) :
    PE X (.Call (.Attribute o "moved" apos) (e :: es) [] pos) (tDyn fun c : SO => tMeth (c.cl.ad X.K) "moved" (spMoved X.K c) [] C8.E0 ta t) := pe_any fun c => pe_mt (met_moved T c) hr hk he ha hst hpl ht
end
/-- the marks' list -/
def MkL (H : Hp) : List V → List (Int × Str) → Prop
  | [], [] => True
  | v :: vs, q :: qs => (∃ p, v = .ref p ∧ H p = some (.tup [.int q.1, .str q.2])) ∧ MkL H vs qs
  | _, _ => False
structure DoPost (w : Nat) (r : Leaf) (kv : List (Key × V)) (h m : Addr) (mv : List V) (H H' : Hp) : Prop where
  hd : H' h = some (.dK (r.put w kv))
  mks : ∃ new, H' m = some (.lst (mv ++ new)) ∧ MkL H' new (r.mks kv)
  kp : ∀ b o, b ≠ h → b ≠ m → H b = some o → H' b = some o
structure DoPre (w : Nat) (r : Leaf) (kv : List (Key × V)) (h m : Addr) (mv : List V) (H : Hp) : Prop where
  w4 : 4 ≤ w
  w32 : w ≤ 32
  good : r.Good w
  hd : H h = some (.dK kv)
  wk : Wk w kv
  len : kv.length ≤ 10000
  mks : H m = some (.lst mv)
  mlen : mv.length ≤ 10000
theorem lt_sz {n : Nat} (h : n ≤ 100000) : n < sizeLine := Nat.lt_of_le_of_lt h (by decide)
theorem DoPre.ne {w : Nat} {r : Leaf} {kv : List (Key × V)} {h m : Addr} {mv : List V} {H : Hp} (p : DoPre w r kv h m mv H) : m ≠ h := ne_of p.mks p.hd (by intro z; cases z)
theorem DoPre.post {w : Nat} {r : Leaf} {kv : List (Key × V)} {h m : Addr} {mv : List V} {H H1 : Hp} (p : DoPre w r kv h m mv H) (s : Same H H1) (e : r.mks kv = []) : DoPost w r kv h m mv H (upd H1 h (.dK (r.put w kv))) :=
  ⟨upd_same, ⟨[], by rw [upd_ne p.ne, List.append_nil]; exact s _ _ p.mks, by rw [e]; exact True.intro⟩, fun b o h1 _ q => by rw [upd_ne h1]; exact s _ _ q⟩
def spD_Set (K : PySem.W.Frag) : Sp := fun vs H Q _ => ∃ (p dx h l : Addr) (g : Str) (b : Int) (w : Nat) (kv : List (Key × V)) (mv : List V), vs = [.ref p, .int w, .ref h, .ref l] ∧ H p = some (.ins (Cl.ad K .set) dx (Leaf.flds (.set g b))) ∧ DoPre w (.set g b) kv h l mv H ∧ ∀ H', DoPost w (.set g b) kv h l mv H H' → Q .non H'
theorem sc_mSet_do : FnScope ["self", "width", "held", "marks"] ["self", "width", "held", "marks"] (defScope smSet_do) := ⟨rfl, rfl, rfl, by decide +kernel, rfl, by decide +kernel, by decide +kernel⟩
theorem fnk_mSet_do (T : Txt K mg) : ∃ fd, FnOk P w K mg base CX0 (5) (He.fAd K dmSet_do.at_) fd ["self", "width", "held", "marks"] (spD_Set K) ∧ Binds K fd ["self", "width", "held", "marks"] [] ∧ PySem.W.keepIn K (.ref (He.fAd K dmSet_do.at_)) = true := by
  obtain ⟨fd, F0⟩ := T.c.d.def_ 19 (d := dmSet_do) rfl
  have F : FunD K "do" "Set.do" (defArgs smSet_do) (defBody smSet_do) (defScope smSet_do) [] [] (He.fAd K dmSet_do.at_) fd := F0
  have G : FnOk P w K mg base CX0 5 (He.fAd K dmSet_do.at_) fd ["self", "width", "held", "marks"] (spD_Set K) := by
    refine F.ok (CX := CX0) sc_mSet_do (fun vs H Q E h => ?_) (fun cdv A outer s H vs Q E hr h => ⟨_, PSs.nox (by exact (pss_one (ps_dput (hu_of hr) (pv 2) (pe_fld (pv 0) rfl) (pe_fld (pv 0) rfl) rfl))), ?_⟩)
    · first
      | (obtain ⟨e, _⟩ := h; subst e; rfl)
      | (obtain ⟨_, e, _⟩ := h; subst e; rfl)
      | (obtain ⟨_, _, e, _⟩ := h; subst e; rfl)
      | (obtain ⟨_, _, _, e, _⟩ := h; subst e; rfl)
      | (obtain ⟨_, _, _, _, e, _⟩ := h; subst e; rfl)
      | (obtain ⟨_, _, _, _, _, e, _⟩ := h; subst e; rfl)
      | (obtain ⟨_, _, _, _, _, _, e, _⟩ := h; subst e; rfl)
      | (obtain ⟨_, _, _, _, _, _, _, e, _⟩ := h; subst e; rfl)
      | (obtain ⟨_, _, _, _, _, _, _, _, e, _⟩ := h; subst e; rfl)
      | (obtain ⟨_, _, _, _, _, _, _, _, _, e, _⟩ := h; subst e; rfl)
      | (obtain ⟨_, _, _, _, _, _, _, _, _, _, e, _⟩ := h; subst e; rfl)
      | (obtain ⟨_, _, _, _, _, _, _, _, _, _, _, e, _⟩ := h; subst e; rfl)
      | (obtain ⟨_, _, _, _, _, _, _, _, _, _, _, _, e, _⟩ := h; subst e; rfl)
      | (obtain ⟨_, _, _, _, _, _, _, _, _, _, _, _, _, e, _⟩ := h; subst e; rfl)
    · skip
      obtain ⟨p, dx, h, l, g, b, w, kv, mv, rfl, hp, d, k⟩ := h
      have hh := d.hd
      have hl := lt_sz (Nat.le_trans d.len (by decide))
      refine ⟨_, rfl, _, _, _, _, _, rfl, hp, T.cls _, T.na_Set_bits, rfl, _, rfl, _, rfl, _, _, _, _, _, rfl, hp, T.cls _, T.na_Set_goal, rfl, _, _, rfl, DPut.k (k := Sum.inr g) hh hl, ?_⟩
      exact k _ (d.post (Same.refl _) rfl)
  exact ⟨fd, G, F.bindsN (fun _ _ _ _ _ _ us hl => match us, hl with | [_, _, _, _], _ => rfl), F.kp⟩
def spD_Copy (K : PySem.W.Frag) : Sp := fun vs H Q _ => ∃ (p dx h l : Addr) (g a : Str) (w : Nat) (kv : List (Key × V)) (mv : List V), vs = [.ref p, .int w, .ref h, .ref l] ∧ H p = some (.ins (Cl.ad K .copy) dx (Leaf.flds (.copy g a))) ∧ DoPre w (.copy g a) kv h l mv H ∧ ∀ H', DoPost w (.copy g a) kv h l mv H H' → Q .non H'
theorem sc_mCopy_do : FnScope ["self", "width", "held", "marks"] ["self", "width", "held", "marks"] (defScope smCopy_do) := ⟨rfl, rfl, rfl, by decide +kernel, rfl, by decide +kernel, by decide +kernel⟩
theorem fnk_mCopy_do (T : Txt K mg) : ∃ fd, FnOk P w K mg base CX0 (5) (He.fAd K dmCopy_do.at_) fd ["self", "width", "held", "marks"] (spD_Copy K) ∧ Binds K fd ["self", "width", "held", "marks"] [] ∧ PySem.W.keepIn K (.ref (He.fAd K dmCopy_do.at_)) = true := by
  obtain ⟨fd, F0⟩ := T.c.d.def_ 24 (d := dmCopy_do) rfl
  have F : FunD K "do" "Copy.do" (defArgs smCopy_do) (defBody smCopy_do) (defScope smCopy_do) [] [] (He.fAd K dmCopy_do.at_) fd := F0
  have G : FnOk P w K mg base CX0 5 (He.fAd K dmCopy_do.at_) fd ["self", "width", "held", "marks"] (spD_Copy K) := by
    refine F.ok (CX := CX0) sc_mCopy_do (fun vs H Q E h => ?_) (fun cdv A outer s H vs Q E hr h => ⟨_, PSs.nox (by exact (pss_one (ps_dput (hu_of hr) (pv 2) (pe_fld (pv 0) rfl) (pe_dget2 (hu_of hr) (pv 2) (pe_fld (pv 0) rfl) pe_int ⟨rfl, rfl, rfl, rfl⟩) rfl))), ?_⟩)
    · first
      | (obtain ⟨e, _⟩ := h; subst e; rfl)
      | (obtain ⟨_, e, _⟩ := h; subst e; rfl)
      | (obtain ⟨_, _, e, _⟩ := h; subst e; rfl)
      | (obtain ⟨_, _, _, e, _⟩ := h; subst e; rfl)
      | (obtain ⟨_, _, _, _, e, _⟩ := h; subst e; rfl)
      | (obtain ⟨_, _, _, _, _, e, _⟩ := h; subst e; rfl)
      | (obtain ⟨_, _, _, _, _, _, e, _⟩ := h; subst e; rfl)
      | (obtain ⟨_, _, _, _, _, _, _, e, _⟩ := h; subst e; rfl)
      | (obtain ⟨_, _, _, _, _, _, _, _, e, _⟩ := h; subst e; rfl)
      | (obtain ⟨_, _, _, _, _, _, _, _, _, e, _⟩ := h; subst e; rfl)
      | (obtain ⟨_, _, _, _, _, _, _, _, _, _, e, _⟩ := h; subst e; rfl)
      | (obtain ⟨_, _, _, _, _, _, _, _, _, _, _, e, _⟩ := h; subst e; rfl)
      | (obtain ⟨_, _, _, _, _, _, _, _, _, _, _, _, e, _⟩ := h; subst e; rfl)
      | (obtain ⟨_, _, _, _, _, _, _, _, _, _, _, _, _, e, _⟩ := h; subst e; rfl)
    · skip
      obtain ⟨p, dx, h, l, g, a, w, kv, mv, rfl, hp, d, k⟩ := h
      have hh := d.hd
      have hl := lt_sz (Nat.le_trans d.len (by decide))
      refine ⟨_, rfl, _, rfl, .inl ⟨_, .inl hh⟩, _, rfl, _, _, _, _, _, rfl, hp, T.cls _, T.na_Copy_one, rfl, _, DGet.k (k := Sum.inr a) hh, ?_⟩
      rw [d.wk.get a]
      refine ⟨_, rfl, _, rfl, _, _, _, _, _, rfl, hp, T.cls _, T.na_Copy_goal, rfl, _, _, rfl, DPut.k (k := Sum.inr g) hh hl, ?_⟩
      exact k _ (d.post (Same.refl _) rfl)
  exact ⟨fd, G, F.bindsN (fun _ _ _ _ _ _ us hl => match us, hl with | [_, _, _, _], _ => rfl), F.kp⟩
def spD_Pair (K : PySem.W.Frag) : Sp := fun vs H Q _ => ∃ (p dx h l : Addr) (c : PO) (g a b : Str) (w : Nat) (kv : List (Key × V)) (mv : List V), vs = [.ref p, .int w, .ref h, .ref l] ∧ H p = some (.ins (Cl.ad K c.cl) dx (Leaf.flds (.pair c g a b))) ∧ DoPre w (.pair c g a b) kv h l mv H ∧ ∀ H', DoPost w (.pair c g a b) kv h l mv H H' → Q .non H'
theorem sc_mPair_do : FnScope ["self", "width", "held", "marks"] ["self", "width", "held", "marks"] (defScope smPair_do) := ⟨rfl, rfl, rfl, by decide +kernel, rfl, by decide +kernel, by decide +kernel⟩
theorem fnk_mPair_do (T : Txt K mg) : ∃ fd, FnOk P w K mg base CX0 (5) (He.fAd K dmPair_do.at_) fd ["self", "width", "held", "marks"] (spD_Pair K) ∧ Binds K fd ["self", "width", "held", "marks"] [] ∧ PySem.W.keepIn K (.ref (He.fAd K dmPair_do.at_)) = true := by
  obtain ⟨fd, F0⟩ := T.c.d.def_ 29 (d := dmPair_do) rfl
  have F : FunD K "do" "Pair.do" (defArgs smPair_do) (defBody smPair_do) (defScope smPair_do) [] [] (He.fAd K dmPair_do.at_) fd := F0
  have G : FnOk P w K mg base CX0 5 (He.fAd K dmPair_do.at_) fd ["self", "width", "held", "marks"] (spD_Pair K) := by
    refine F.ok (CX := CX0) sc_mPair_do (fun vs H Q E h => ?_) (fun cdv A outer s H vs Q E hr h => ⟨_, PSs.nox (by exact (pss_one (ps_dput (hu_of hr) (pv 2) (pe_fld (pv 0) rfl) (pe_worth T hr (by decide) (pv 0) (pa_cons (pv 1) (pa_cons (pe_dget2 (hu_of hr) (pv 2) (pe_fld (pv 0) rfl) pe_int ⟨rfl, rfl, rfl, rfl⟩) (pa_cons (pe_dget2 (hu_of hr) (pv 2) (pe_fld (pv 0) rfl) pe_int ⟨rfl, rfl, rfl, rfl⟩) pa_nil)))) rfl))), ?_⟩)
    · first
      | (obtain ⟨e, _⟩ := h; subst e; rfl)
      | (obtain ⟨_, e, _⟩ := h; subst e; rfl)
      | (obtain ⟨_, _, e, _⟩ := h; subst e; rfl)
      | (obtain ⟨_, _, _, e, _⟩ := h; subst e; rfl)
      | (obtain ⟨_, _, _, _, e, _⟩ := h; subst e; rfl)
      | (obtain ⟨_, _, _, _, _, e, _⟩ := h; subst e; rfl)
      | (obtain ⟨_, _, _, _, _, _, e, _⟩ := h; subst e; rfl)
      | (obtain ⟨_, _, _, _, _, _, _, e, _⟩ := h; subst e; rfl)
      | (obtain ⟨_, _, _, _, _, _, _, _, e, _⟩ := h; subst e; rfl)
      | (obtain ⟨_, _, _, _, _, _, _, _, _, e, _⟩ := h; subst e; rfl)
      | (obtain ⟨_, _, _, _, _, _, _, _, _, _, e, _⟩ := h; subst e; rfl)
      | (obtain ⟨_, _, _, _, _, _, _, _, _, _, _, e, _⟩ := h; subst e; rfl)
      | (obtain ⟨_, _, _, _, _, _, _, _, _, _, _, _, e, _⟩ := h; subst e; rfl)
      | (obtain ⟨_, _, _, _, _, _, _, _, _, _, _, _, _, e, _⟩ := h; subst e; rfl)
    · skip
      obtain ⟨p, dx, h, l, c, g, a, b, w, kv, mv, rfl, hp, d, k⟩ := h
      have hh := d.hd
      have hl := lt_sz (Nat.le_trans d.len (by decide))
      refine ⟨c, _, rfl, _, _, _, rfl, hp, rfl, _, rfl, _, rfl, _, rfl, .inl ⟨_, .inl hh⟩, _, rfl, _, _, _, _, _, rfl, hp, T.cls _, T.na_PO_one c, rfl, _, DGet.k (k := Sum.inr a) hh, ?_⟩
      rw [d.wk.get a]
      refine ⟨_, rfl, _, rfl, .inl ⟨_, .inl hh⟩, _, rfl, _, _, _, _, _, rfl, hp, T.cls _, T.na_PO_other c, rfl, _, DGet.k (k := Sum.inr b) hh, ?_⟩
      rw [d.wk.get b]
      refine ⟨_, _, _, _, rfl, ⟨d.w4, d.w32, (d.wk.rng a).1, (d.wk.rng a).2, (d.wk.rng b).1, (d.wk.rng b).2⟩, ?_⟩
      refine ⟨_, rfl, _, rfl, _, _, _, _, _, rfl, hp, T.cls _, T.na_PO_goal c, rfl, _, _, rfl, DPut.k (k := Sum.inr g) hh hl, ?_⟩
      exact k _ (d.post (Same.refl _) rfl)
  exact ⟨fd, G, F.bindsN (fun _ _ _ _ _ _ us hl => match us, hl with | [_, _, _, _], _ => rfl), F.kp⟩
def spD_Carrying (K : PySem.W.Frag) : Sp := fun vs H Q _ => ∃ (p dx h l : Addr) (c : CO) (g : Str) (y : Option Str) (a b : Str) (w : Nat) (kv : List (Key × V)) (mv : List V), vs = [.ref p, .int w, .ref h, .ref l] ∧ H p = some (.ins (Cl.ad K c.cl) dx (Leaf.flds (.carry c g y a b))) ∧ DoPre w (.carry c g y a b) kv h l mv H ∧ ∀ H', DoPost w (.carry c g y a b) kv h l mv H H' → Q .non H'
theorem sc_mCarrying_do : FnScope ["self", "width", "held", "marks", "worth", "carried"] ["self", "width", "held", "marks"] (defScope smCarrying_do) := ⟨rfl, rfl, rfl, by decide +kernel, rfl, by decide +kernel, by decide +kernel⟩
theorem fnk_mCarrying_do (T : Txt K mg) : ∃ fd, FnOk P w K mg base CX0 (5) (He.fAd K dmCarrying_do.at_) fd ["self", "width", "held", "marks"] (spD_Carrying K) ∧ Binds K fd ["self", "width", "held", "marks"] [] ∧ PySem.W.keepIn K (.ref (He.fAd K dmCarrying_do.at_)) = true := by
  obtain ⟨fd, F0⟩ := T.c.d.def_ 46 (d := dmCarrying_do) rfl
  have F : FunD K "do" "Carrying.do" (defArgs smCarrying_do) (defBody smCarrying_do) (defScope smCarrying_do) [] [] (He.fAd K dmCarrying_do.at_) fd := F0
  have G : FnOk P w K mg base CX0 5 (He.fAd K dmCarrying_do.at_) fd ["self", "width", "held", "marks"] (spD_Carrying K) := by
    refine F.ok (CX := CX0) sc_mCarrying_do (fun vs H Q E h => ?_) (fun cdv A outer s H vs Q E hr h => ⟨_, PSs.nox (by exact (pss_cons (ps_asg (pe_both T hr (by decide) (pv 0) (pa_cons (pv 1) (pa_cons (pe_dget2 (hu_of hr) (pv 2) (pe_fld (pv 0) rfl) pe_int ⟨rfl, rfl, rfl, rfl⟩) (pa_cons (pe_dget2 (hu_of hr) (pv 2) (pe_fld (pv 0) rfl) pe_int ⟨rfl, rfl, rfl, rfl⟩) pa_nil)))) (pg_tup rfl (pgs_cons (pg_name (i := 4) sc_mCarrying_do.nd rfl (Or.inl rfl)) (pgs_cons (pg_name (i := 5) sc_mCarrying_do.nd rfl (Or.inl rfl)) pgs_nil))))
      (pss_cons (ps_dput (hu_of hr) (pv 2) (pe_fld (pv 0) rfl) (pv 4) rfl)
      (pss_one (ps_if (pt_cmpR op_notN (pe_fld (pv 0) rfl) pe_non (nomark _)) (pss_one (ps_dput (hu_of hr) (pv 2) (pe_fld (pv 0) rfl) (pv 5) rfl)) pss_nil))))), ?_⟩)
    · first
      | (obtain ⟨e, _⟩ := h; subst e; rfl)
      | (obtain ⟨_, e, _⟩ := h; subst e; rfl)
      | (obtain ⟨_, _, e, _⟩ := h; subst e; rfl)
      | (obtain ⟨_, _, _, e, _⟩ := h; subst e; rfl)
      | (obtain ⟨_, _, _, _, e, _⟩ := h; subst e; rfl)
      | (obtain ⟨_, _, _, _, _, e, _⟩ := h; subst e; rfl)
      | (obtain ⟨_, _, _, _, _, _, e, _⟩ := h; subst e; rfl)
      | (obtain ⟨_, _, _, _, _, _, _, e, _⟩ := h; subst e; rfl)
      | (obtain ⟨_, _, _, _, _, _, _, _, e, _⟩ := h; subst e; rfl)
      | (obtain ⟨_, _, _, _, _, _, _, _, _, e, _⟩ := h; subst e; rfl)
      | (obtain ⟨_, _, _, _, _, _, _, _, _, _, e, _⟩ := h; subst e; rfl)
      | (obtain ⟨_, _, _, _, _, _, _, _, _, _, _, e, _⟩ := h; subst e; rfl)
      | (obtain ⟨_, _, _, _, _, _, _, _, _, _, _, _, e, _⟩ := h; subst e; rfl)
      | (obtain ⟨_, _, _, _, _, _, _, _, _, _, _, _, _, e, _⟩ := h; subst e; rfl)
    · skip
      obtain ⟨p, dx, h, l, c, g, y, a, b, w, kv, mv, rfl, hp, d, k⟩ := h
      have hh := d.hd
      have hl := lt_sz (Nat.le_trans d.len (by decide))
      refine ⟨c, _, rfl, _, _, _, rfl, hp, rfl, _, rfl, _, rfl, _, rfl, .inl ⟨_, .inl hh⟩, _, rfl, _, _, _, _, _, rfl, hp, T.cls _, T.na_CO_one c, rfl, _, DGet.k (k := Sum.inr a) hh, ?_⟩
      rw [d.wk.get a]
      refine ⟨_, rfl, _, rfl, .inl ⟨_, .inl hh⟩, _, rfl, _, _, _, _, _, rfl, hp, T.cls _, T.na_CO_other c, rfl, _, DGet.k (k := Sum.inr b) hh, ?_⟩
      rw [d.wk.get b]
      refine ⟨_, _, _, _, rfl, ⟨d.w4, d.w32, (d.wk.rng a).1, (d.wk.rng a).2, (d.wk.rng b).1, (d.wk.rng b).2⟩, fun q hq => ?_⟩
      have s1 : Same H (upd H q (.tup [.int (c.v w (getI kv a) (getI kv b)), .int (c.c w (getI kv a) (getI kv b))])) := same_new hq
      refine ⟨_, _, rfl, SqT.of upd_same, rfl, _, _, rfl, _, _, rfl, rfl, ?_⟩
      refine ⟨_, rfl, _, rfl, _, rfl, _, _, _, _, _, rfl, (s1 _ _ hp), T.cls _, T.na_CO_goal c, rfl, _, _, rfl, DPut.k (k := Sum.inr g) (s1 _ _ hh) hl, ?_⟩
      have nph : p ≠ h := ne_of hp hh (by intro z; cases z)
      have hp2 : (upd (upd H q (.tup [.int (c.v w (getI kv a) (getI kv b)), .int (c.c w (getI kv a) (getI kv b))])) h (.dK (putK kv (Sum.inr g) (.int (c.v w (getI kv a) (getI kv b)))))) p = some (.ins (Cl.ad K c.cl) dx (Leaf.flds (.carry c g y a b))) := by
        rw [upd_ne nph]
        exact s1 _ _ hp
      cases y with
      | none =>
        refine ⟨_, rfl, _, _, _, _, _, rfl, hp2, T.cls _, T.na_CO_carry c, rfl, rfl, _, rfl, iteF ?_⟩
        exact k _ (d.post s1 rfl)
      | some y =>
        refine ⟨_, rfl, _, _, _, _, _, rfl, hp2, T.cls _, T.na_CO_carry c, rfl, rfl, _, rfl, iteT ?_⟩
        refine ⟨_, rfl, _, rfl, _, rfl, _, _, _, _, _, rfl, hp2, T.cls _, T.na_CO_carry c, rfl, _, _, rfl, DPut.k (k := Sum.inr y) upd_same (lt_sz (by have := length_putK kv (Sum.inr g) (.int (c.v w (getI kv a) (getI kv b))); have := d.len; omega)), ?_⟩
        rw [upd_upd]
        exact k _ (d.post s1 rfl)
  exact ⟨fd, G, F.bindsN (fun _ _ _ _ _ _ us hl => match us, hl with | [_, _, _, _], _ => rfl), F.kp⟩
def spD_Shift (K : PySem.W.Frag) : Sp := fun vs H Q _ => ∃ (p dx h l : Addr) (c : SO) (g a : Str) (j : Int) (w : Nat) (kv : List (Key × V)) (mv : List V), vs = [.ref p, .int w, .ref h, .ref l] ∧ H p = some (.ins (Cl.ad K c.cl) dx (Leaf.flds (.shift c g a j))) ∧ DoPre w (.shift c g a j) kv h l mv H ∧ ∀ H', DoPost w (.shift c g a j) kv h l mv H H' → Q .non H'
theorem sc_mShift_do : FnScope ["self", "width", "held", "marks"] ["self", "width", "held", "marks"] (defScope smShift_do) := ⟨rfl, rfl, rfl, by decide +kernel, rfl, by decide +kernel, by decide +kernel⟩
theorem fnk_mShift_do (T : Txt K mg) : ∃ fd, FnOk P w K mg base CX0 (5) (He.fAd K dmShift_do.at_) fd ["self", "width", "held", "marks"] (spD_Shift K) ∧ Binds K fd ["self", "width", "held", "marks"] [] ∧ PySem.W.keepIn K (.ref (He.fAd K dmShift_do.at_)) = true := by
  obtain ⟨fd, F0⟩ := T.c.d.def_ 55 (d := dmShift_do) rfl
  have F : FunD K "do" "Shift.do" (defArgs smShift_do) (defBody smShift_do) (defScope smShift_do) [] [] (He.fAd K dmShift_do.at_) fd := F0
  have G : FnOk P w K mg base CX0 5 (He.fAd K dmShift_do.at_) fd ["self", "width", "held", "marks"] (spD_Shift K) := by
    refine F.ok (CX := CX0) sc_mShift_do (fun vs H Q E h => ?_) (fun cdv A outer s H vs Q E hr h => ⟨_, PSs.nox (by exact (pss_one (ps_dput (hu_of hr) (pv 2) (pe_fld (pv 0) rfl) (pe_moved T hr (by decide) (pv 0) (pa_cons (pv 1) (pa_cons (pe_dget2 (hu_of hr) (pv 2) (pe_fld (pv 0) rfl) pe_int ⟨rfl, rfl, rfl, rfl⟩) pa_nil))) rfl))), ?_⟩)
    · first
      | (obtain ⟨e, _⟩ := h; subst e; rfl)
      | (obtain ⟨_, e, _⟩ := h; subst e; rfl)
      | (obtain ⟨_, _, e, _⟩ := h; subst e; rfl)
      | (obtain ⟨_, _, _, e, _⟩ := h; subst e; rfl)
      | (obtain ⟨_, _, _, _, e, _⟩ := h; subst e; rfl)
      | (obtain ⟨_, _, _, _, _, e, _⟩ := h; subst e; rfl)
      | (obtain ⟨_, _, _, _, _, _, e, _⟩ := h; subst e; rfl)
      | (obtain ⟨_, _, _, _, _, _, _, e, _⟩ := h; subst e; rfl)
      | (obtain ⟨_, _, _, _, _, _, _, _, e, _⟩ := h; subst e; rfl)
      | (obtain ⟨_, _, _, _, _, _, _, _, _, e, _⟩ := h; subst e; rfl)
      | (obtain ⟨_, _, _, _, _, _, _, _, _, _, e, _⟩ := h; subst e; rfl)
      | (obtain ⟨_, _, _, _, _, _, _, _, _, _, _, e, _⟩ := h; subst e; rfl)
      | (obtain ⟨_, _, _, _, _, _, _, _, _, _, _, _, e, _⟩ := h; subst e; rfl)
      | (obtain ⟨_, _, _, _, _, _, _, _, _, _, _, _, _, e, _⟩ := h; subst e; rfl)
    · skip
      obtain ⟨p, dx, h, l, c, g, a, j, w, kv, mv, rfl, hp, d, k⟩ := h
      have hh := d.hd
      have hl := lt_sz (Nat.le_trans d.len (by decide))
      refine ⟨c, _, rfl, _, _, _, rfl, hp, rfl, _, rfl, _, rfl, _, rfl, .inl ⟨_, .inl hh⟩, _, rfl, _, _, _, _, _, rfl, hp, T.cls _, T.na_SO_one c, rfl, _, DGet.k (k := Sum.inr a) hh, ?_⟩
      rw [d.wk.get a]
      refine ⟨_, _, _, _, _, _, _, rfl, hp, ⟨d.w4, d.w32, (d.wk.rng a).1, (d.wk.rng a).2, d.good.2.2.1, d.good.2.2.2⟩, ?_⟩
      refine ⟨_, rfl, _, rfl, _, _, _, _, _, rfl, hp, T.cls _, T.na_SO_goal c, rfl, _, _, rfl, DPut.k (k := Sum.inr g) hh hl, ?_⟩
      exact k _ (d.post (Same.refl _) rfl)
  exact ⟨fd, G, F.bindsN (fun _ _ _ _ _ _ us hl => match us, hl with | [_, _, _, _], _ => rfl), F.kp⟩
def spD_Pick (K : PySem.W.Frag) : Sp := fun vs H Q _ => ∃ (p dx h l : Addr) (g y a b : Str) (w : Nat) (kv : List (Key × V)) (mv : List V), vs = [.ref p, .int w, .ref h, .ref l] ∧ H p = some (.ins (Cl.ad K .pick) dx (Leaf.flds (.pick g y a b))) ∧ DoPre w (.pick g y a b) kv h l mv H ∧ ∀ H', DoPost w (.pick g y a b) kv h l mv H H' → Q .non H'
theorem sc_mPick_do : FnScope ["self", "width", "held", "marks"] ["self", "width", "held", "marks"] (defScope smPick_do) := ⟨rfl, rfl, rfl, by decide +kernel, rfl, by decide +kernel, by decide +kernel⟩
theorem fnk_mPick_do (T : Txt K mg) : ∃ fd, FnOk P w K mg base CX0 (5) (He.fAd K dmPick_do.at_) fd ["self", "width", "held", "marks"] (spD_Pick K) ∧ Binds K fd ["self", "width", "held", "marks"] [] ∧ PySem.W.keepIn K (.ref (He.fAd K dmPick_do.at_)) = true := by
  obtain ⟨fd, F0⟩ := T.c.d.def_ 66 (d := dmPick_do) rfl
  have F : FunD K "do" "Pick.do" (defArgs smPick_do) (defBody smPick_do) (defScope smPick_do) [] [] (He.fAd K dmPick_do.at_) fd := F0
  have G : FnOk P w K mg base CX0 5 (He.fAd K dmPick_do.at_) fd ["self", "width", "held", "marks"] (spD_Pick K) := by
    refine F.ok (CX := CX0) sc_mPick_do (fun vs H Q E h => ?_) (fun cdv A outer s H vs Q E hr h => ⟨_, PSs.nox (by exact (pss_one (ps_if (pt_cmpR op_ne (pe_dget2 (hu_of hr) (pv 2) (pe_fld (pv 0) rfl) pe_int ⟨rfl, rfl, rfl, rfl⟩) pe_int (nomark _)) (pss_one (ps_dput (hu_of hr) (pv 2) (pe_fld (pv 0) rfl) (pe_dget2 (hu_of hr) (pv 2) (pe_fld (pv 0) rfl) pe_int ⟨rfl, rfl, rfl, rfl⟩) rfl)) (pss_one (ps_dput (hu_of hr) (pv 2) (pe_fld (pv 0) rfl) (pe_dget2 (hu_of hr) (pv 2) (pe_fld (pv 0) rfl) pe_int ⟨rfl, rfl, rfl, rfl⟩) rfl))))), ?_⟩)
    · first
      | (obtain ⟨e, _⟩ := h; subst e; rfl)
      | (obtain ⟨_, e, _⟩ := h; subst e; rfl)
      | (obtain ⟨_, _, e, _⟩ := h; subst e; rfl)
      | (obtain ⟨_, _, _, e, _⟩ := h; subst e; rfl)
      | (obtain ⟨_, _, _, _, e, _⟩ := h; subst e; rfl)
      | (obtain ⟨_, _, _, _, _, e, _⟩ := h; subst e; rfl)
      | (obtain ⟨_, _, _, _, _, _, e, _⟩ := h; subst e; rfl)
      | (obtain ⟨_, _, _, _, _, _, _, e, _⟩ := h; subst e; rfl)
      | (obtain ⟨_, _, _, _, _, _, _, _, e, _⟩ := h; subst e; rfl)
      | (obtain ⟨_, _, _, _, _, _, _, _, _, e, _⟩ := h; subst e; rfl)
      | (obtain ⟨_, _, _, _, _, _, _, _, _, _, e, _⟩ := h; subst e; rfl)
      | (obtain ⟨_, _, _, _, _, _, _, _, _, _, _, e, _⟩ := h; subst e; rfl)
      | (obtain ⟨_, _, _, _, _, _, _, _, _, _, _, _, e, _⟩ := h; subst e; rfl)
      | (obtain ⟨_, _, _, _, _, _, _, _, _, _, _, _, _, e, _⟩ := h; subst e; rfl)
    · skip
      obtain ⟨p, dx, h, l, g, y, a, b, w, kv, mv, rfl, hp, d, k⟩ := h
      have hh := d.hd
      have hl := lt_sz (Nat.le_trans d.len (by decide))
      refine ⟨_, rfl, _, rfl, .inl ⟨_, .inl hh⟩, _, rfl, _, _, _, _, _, rfl, hp, T.cls _, T.na_Pick_by, rfl, _, DGet.k (k := Sum.inr y) hh, ?_⟩
      rw [d.wk.get y]
      refine ⟨rfl, _, rfl, ?_⟩
      refine iteND (fun c => ?_) (fun c => ?_)
      · have c1 : ¬ getI kv y = 0 := fun z => c (congrArg V.int z)
        refine ⟨_, rfl, _, rfl, .inl ⟨_, .inl hh⟩, _, rfl, _, _, _, _, _, rfl, hp, T.cls _, T.na_Pick_one, rfl, _, DGet.k (k := Sum.inr a) hh, ?_⟩
        rw [d.wk.get a]
        refine ⟨_, rfl, _, rfl, _, _, _, _, _, rfl, hp, T.cls _, T.na_Pick_goal, rfl, _, _, rfl, DPut.k (k := Sum.inr g) hh hl, ?_⟩
        have e : Leaf.put w kv (.pick g y a b) = putK kv (Sum.inr g) (.int (getI kv a)) := by
          show putK kv (Sum.inr g) (.int (if getI kv y = 0 then getI kv b else getI kv a)) = _
          rw [if_neg c1]
        have z := d.post (Same.refl _) rfl
        rw [e] at z
        exact k _ z
      · have c1 : getI kv y = 0 := V.int.inj c
        refine ⟨_, rfl, _, rfl, .inl ⟨_, .inl hh⟩, _, rfl, _, _, _, _, _, rfl, hp, T.cls _, T.na_Pick_other, rfl, _, DGet.k (k := Sum.inr b) hh, ?_⟩
        rw [d.wk.get b]
        refine ⟨_, rfl, _, rfl, _, _, _, _, _, rfl, hp, T.cls _, T.na_Pick_goal, rfl, _, _, rfl, DPut.k (k := Sum.inr g) hh hl, ?_⟩
        have e : Leaf.put w kv (.pick g y a b) = putK kv (Sum.inr g) (.int (getI kv b)) := by
          show putK kv (Sum.inr g) (.int (if getI kv y = 0 then getI kv b else getI kv a)) = _
          rw [if_pos c1]
        have z := d.post (Same.refl _) rfl
        rw [e] at z
        exact k _ z
  exact ⟨fd, G, F.bindsN (fun _ _ _ _ _ _ us hl => match us, hl with | [_, _, _, _], _ => rfl), F.kp⟩
def spD_Mark (K : PySem.W.Frag) : Sp := fun vs H Q _ => ∃ (p dx h l : Addr) (ln : Int) (m y : Str) (w : Nat) (kv : List (Key × V)) (mv : List V), vs = [.ref p, .int w, .ref h, .ref l] ∧ H p = some (.ins (Cl.ad K .mark) dx (Leaf.flds (.mark ln m y))) ∧ DoPre w (.mark ln m y) kv h l mv H ∧ ∀ H', DoPost w (.mark ln m y) kv h l mv H H' → Q .non H'
theorem sc_mMark_do : FnScope ["self", "width", "held", "marks"] ["self", "width", "held", "marks"] (defScope smMark_do) := ⟨rfl, rfl, rfl, by decide +kernel, rfl, by decide +kernel, by decide +kernel⟩
theorem fnk_mMark_do (T : Txt K mg) : ∃ fd, FnOk P w K mg base CX0 (5) (He.fAd K dmMark_do.at_) fd ["self", "width", "held", "marks"] (spD_Mark K) ∧ Binds K fd ["self", "width", "held", "marks"] [] ∧ PySem.W.keepIn K (.ref (He.fAd K dmMark_do.at_)) = true := by
  obtain ⟨fd, F0⟩ := T.c.d.def_ 71 (d := dmMark_do) rfl
  have F : FunD K "do" "Mark.do" (defArgs smMark_do) (defBody smMark_do) (defScope smMark_do) [] [] (He.fAd K dmMark_do.at_) fd := F0
  have G : FnOk P w K mg base CX0 5 (He.fAd K dmMark_do.at_) fd ["self", "width", "held", "marks"] (spD_Mark K) := by
    refine F.ok (CX := CX0) sc_mMark_do (fun vs H Q E h => ?_) (fun cdv A outer s H vs Q E hr h => ⟨_, PSs.nox (by exact (pss_one (ps_if (pt_cmpR op_ne (pe_dget2 (hu_of hr) (pv 2) (pe_fld (pv 0) rfl) pe_int ⟨rfl, rfl, rfl, rfl⟩) pe_int (nomark _)) (pss_one (ps_expr (pe_bm PySem.F.plainAttrs_list PySem.F.slot_list_append PySem.F.type_list_append mt_append (pv 3) (pa_cons (pe_tup (pa_cons (pe_fld (pv 0) rfl) (pa_cons (pe_fld (pv 0) rfl) pa_nil))) pa_nil)))) pss_nil))), ?_⟩)
    · first
      | (obtain ⟨e, _⟩ := h; subst e; rfl)
      | (obtain ⟨_, e, _⟩ := h; subst e; rfl)
      | (obtain ⟨_, _, e, _⟩ := h; subst e; rfl)
      | (obtain ⟨_, _, _, e, _⟩ := h; subst e; rfl)
      | (obtain ⟨_, _, _, _, e, _⟩ := h; subst e; rfl)
      | (obtain ⟨_, _, _, _, _, e, _⟩ := h; subst e; rfl)
      | (obtain ⟨_, _, _, _, _, _, e, _⟩ := h; subst e; rfl)
      | (obtain ⟨_, _, _, _, _, _, _, e, _⟩ := h; subst e; rfl)
      | (obtain ⟨_, _, _, _, _, _, _, _, e, _⟩ := h; subst e; rfl)
      | (obtain ⟨_, _, _, _, _, _, _, _, _, e, _⟩ := h; subst e; rfl)
      | (obtain ⟨_, _, _, _, _, _, _, _, _, _, e, _⟩ := h; subst e; rfl)
      | (obtain ⟨_, _, _, _, _, _, _, _, _, _, _, e, _⟩ := h; subst e; rfl)
      | (obtain ⟨_, _, _, _, _, _, _, _, _, _, _, _, e, _⟩ := h; subst e; rfl)
      | (obtain ⟨_, _, _, _, _, _, _, _, _, _, _, _, _, e, _⟩ := h; subst e; rfl)
    · skip
      obtain ⟨p, dx, h, l, ln, m, y, w, kv, mv, rfl, hp, d, k⟩ := h
      have hh := d.hd
      have hl := lt_sz (Nat.le_trans d.len (by decide))
      refine ⟨_, rfl, _, rfl, .inl ⟨_, .inl hh⟩, _, rfl, _, _, _, _, _, rfl, hp, T.cls _, T.na_Mark_by, rfl, _, DGet.k (k := Sum.inr y) hh, ?_⟩
      rw [d.wk.get y]
      refine ⟨rfl, _, rfl, ?_⟩
      refine iteND (fun c => ?_) (fun c => ?_)
      · have c1 : ¬ getI kv y = 0 := fun z => c (congrArg V.int z)
        refine ⟨_, rfl, .inl ⟨rfl, _, SqL.of d.mks⟩, _, rfl, _, _, _, _, _, rfl, hp, T.cls _, T.na_Mark_line, rfl, _, rfl, _, _, _, _, _, rfl, hp, T.cls _, T.na_Mark_mark, rfl, le_sz (Nat.le_of_ble_eq_true rfl), fun q hq => ?_⟩
        have s1 : Same H (upd H q (.tup [.int ln, .str m])) := same_new hq
        have nq : q ≠ l := (ne_of_none d.mks hq).symm
        refine ⟨l, _, _, rfl, rfl, s1 _ _ d.mks, lt_sz (Nat.le_trans d.mlen (by decide)), ?_⟩
        refine k _ ⟨?_, ⟨[.ref q], upd_same, ?_⟩, fun b o h1 h2 e => ?_⟩
        · rw [upd_ne d.ne.symm]
          exact s1 _ _ hh
        · rw [show Leaf.mks kv (.mark ln m y) = [(ln, m)] from if_neg c1]
          exact ⟨⟨q, rfl, by rw [upd_ne nq]; exact upd_same⟩, True.intro⟩
        · rw [upd_ne h2]
          exact s1 _ _ e
      · have c1 : getI kv y = 0 := V.int.inj c
        refine k _ ⟨hh, ⟨[], by rw [List.append_nil]; exact d.mks, ?_⟩, fun b o _ _ e => e⟩
        rw [show Leaf.mks kv (.mark ln m y) = [] from if_pos c1]
        exact True.intro
  exact ⟨fd, G, F.bindsN (fun _ _ _ _ _ _ us hl => match us, hl with | [_, _, _, _], _ => rfl), F.kp⟩
end
end K73

set_option maxHeartbeats 4000000
/-! rows and rows' objects in the heap; each method as one rule for the sixteen classes -/
namespace K73
open PySem PySem.Spec PyProof.Rows L2
open C8 (Cal Mak Met pe_c pe_mk pe_mt pe_mt0 pe_gc)
local macro_rules | `(tactic| walk_at "rd") => `(tactic| repeat (first | refine ⟨_, rfl, ?_⟩ | refine ⟨_, _, rfl, rfl, ?_⟩ | refine ⟨_, rfl, rfl, ?_⟩ | refine ⟨_, _, rfl, ?_⟩ | refine ⟨_, _, _, rfl, ?_⟩ | refine ⟨_, _, _, _, rfl, ?_⟩ | refine And.intro rfl ?_ | refine And.intro trivial ?_ | refine And.intro (le_sz (Nat.le_of_ble_eq_true rfl)) ?_ | refine And.intro (le_sz (by omega)) ?_ | refine iteT ?_ | refine iteF ?_ | refine iteDt (by omega) ?_ | refine iteDf (by omega) ?_ | refine iteNt (by omega) ?_ | refine iteNf (by omega) ?_ | refine And.intro (by omega) ?_ | refine ⟨_, _, _, _, _, rfl, .ty _, .base (.str _), kit_ss, ?_⟩ | refine ⟨_, _, _, _, _, rfl, .ty _, .base (.lst (by assumption)), kit_ll, ?_⟩ | refine ⟨_, _, _, _, _, rfl, .ty _, .base (.dK (by assumption)), kit_dd, ?_⟩ | refine ⟨_, _, _, _, _, rfl, .ty _, .base (.tup (by assumption)), kit_tt, ?_⟩))

def RowsAt (P : Addr → Prop) (H : Hp) : List V → Fo → Prop
  | [], .nil => True
  | v :: vs, .leaf r t => (∃ p, v = .ref p ∧ H p = some (.tup r.vals)) ∧ RowsAt P H vs t
  | v :: vs, .turns n b t => (∃ p l xs, v = .ref p ∧ H p = some (.tup [.str "turns", .int n, .ref l]) ∧ P l ∧ H l = some (.lst xs) ∧ RowsAt P H xs b) ∧ RowsAt P H vs t
  | _, _ => False
def tflds (n : Nat) (l : Addr) : List (Str × V) := [("times", .int n), ("steps", .ref l)]
def StepsAt (K : PySem.W.Frag) (P : Addr → Prop) (H : Hp) : List V → Fo → Prop
  | [], .nil => True
  | v :: vs, .leaf r t => (∃ p dx, v = .ref p ∧ H p = some (.ins (r.cl.ad K) dx r.flds)) ∧ StepsAt K P H vs t
  | v :: vs, .turns n b t => (∃ p dx l xs, v = .ref p ∧ H p = some (.ins (Cl.ad K .turns) dx (tflds n l)) ∧ P l ∧ H l = some (.lst xs) ∧ StepsAt K P H xs b) ∧ StepsAt K P H vs t
  | _, _ => False
abbrev Any : Addr → Prop := fun _ => True
abbrev New (H : Hp) : Addr → Prop := fun a => H a = none
/-- kept: what stands at P, and all that is no list -/
def Kp (P : Addr → Prop) (H H' : Hp) : Prop := ∀ a o, (P a ∨ ∀ xs, o ≠ .lst xs) → H a = some o → H' a = some o
theorem Kp.same {P : Addr → Prop} {H H' : Hp} (s : Same H H') : Kp P H H' := fun a o _ e => s a o e
theorem RowsAt.mono {P P' : Addr → Prop} {H H' : Hp} (hp : ∀ a, P a → P' a) (k : Kp P H H') : ∀ {vs : List V} {F : Fo}, RowsAt P H vs F → RowsAt P' H' vs F
  | [], .nil, _ => trivial
  | _ :: _, .leaf _ _, ⟨⟨p, e, h⟩, t⟩ => ⟨⟨p, e, k p _ (.inr fun _ z => by cases z) h⟩, RowsAt.mono hp k t⟩
  | _ :: _, .turns _ _ _, ⟨⟨p, l, xs, e, h, pl, hl, hb⟩, t⟩ => ⟨⟨p, l, xs, e, k p _ (.inr fun _ z => by cases z) h, hp l pl, k l _ (.inl pl) hl, RowsAt.mono hp k hb⟩, RowsAt.mono hp k t⟩
  | [], .leaf _ _, h => h.elim
  | [], .turns _ _ _, h => h.elim
  | _ :: _, .nil, h => h.elim
theorem StepsAt.mono {K : PySem.W.Frag} {P P' : Addr → Prop} {H H' : Hp} (hp : ∀ a, P a → P' a) (k : Kp P H H') : ∀ {vs : List V} {F : Fo}, StepsAt K P H vs F → StepsAt K P' H' vs F
  | [], .nil, _ => trivial
  | _ :: _, .leaf _ _, ⟨⟨p, dx, e, h⟩, t⟩ => ⟨⟨p, dx, e, k p _ (.inr fun _ z => by cases z) h⟩, StepsAt.mono hp k t⟩
  | _ :: _, .turns _ _ _, ⟨⟨p, dx, l, xs, e, h, pl, hl, hb⟩, t⟩ => ⟨⟨p, dx, l, xs, e, k p _ (.inr fun _ z => by cases z) h, hp l pl, k l _ (.inl pl) hl, StepsAt.mono hp k hb⟩, StepsAt.mono hp k t⟩
  | [], .leaf _ _, h => h.elim
  | [], .turns _ _ _, h => h.elim
  | _ :: _, .nil, h => h.elim
theorem RowsAt.same {P : Addr → Prop} {H H' : Hp} (s : Same H H') {vs : List V} {F : Fo} (h : RowsAt P H vs F) : RowsAt P H' vs F := h.mono (fun _ p => p) (Kp.same s)
theorem StepsAt.same {K : PySem.W.Frag} {P : Addr → Prop} {H H' : Hp} (s : Same H H') {vs : List V} {F : Fo} (h : StepsAt K P H vs F) : StepsAt K P H' vs F := h.mono (fun _ p => p) (Kp.same s)
theorem RowsAt.any {P : Addr → Prop} {H : Hp} {vs : List V} {F : Fo} (h : RowsAt P H vs F) : RowsAt Any H vs F := h.mono (fun _ _ => trivial) (Kp.same (Same.refl H))
theorem StepsAt.any {K : PySem.W.Frag} {P : Addr → Prop} {H : Hp} {vs : List V} {F : Fo} (h : StepsAt K P H vs F) : StepsAt K Any H vs F := h.mono (fun _ _ => trivial) (Kp.same (Same.refl H))
theorem RowsAt.len {P : Addr → Prop} {H : Hp} : ∀ {vs : List V} {F : Fo}, RowsAt P H vs F → vs.length = F.len
  | [], .nil, _ => rfl
  | _ :: _, .leaf _ _, ⟨_, t⟩ => congrArg (· + 1) (RowsAt.len t)
  | _ :: _, .turns _ _ _, ⟨_, t⟩ => congrArg (· + 1) (RowsAt.len t)
  | [], .leaf _ _, h => h.elim
  | [], .turns _ _ _, h => h.elim
  | _ :: _, .nil, h => h.elim
theorem StepsAt.len {K : PySem.W.Frag} {P : Addr → Prop} {H : Hp} : ∀ {vs : List V} {F : Fo}, StepsAt K P H vs F → vs.length = F.len
  | [], .nil, _ => rfl
  | _ :: _, .leaf _ _, ⟨_, t⟩ => congrArg (· + 1) (StepsAt.len t)
  | _ :: _, .turns _ _ _, ⟨_, t⟩ => congrArg (· + 1) (StepsAt.len t)
  | [], .leaf _ _, h => h.elim
  | [], .turns _ _ _, h => h.elim
  | _ :: _, .nil, h => h.elim
theorem RowsAt.app {P : Addr → Prop} {H : Hp} {ws : List V} {G : Fo} (hw : RowsAt P H ws G) : ∀ {vs : List V} {F : Fo}, RowsAt P H vs F → RowsAt P H (vs ++ ws) (F.app G)
  | [], .nil, _ => hw
  | _ :: _, .leaf _ _, ⟨e, t⟩ => ⟨e, RowsAt.app hw t⟩
  | _ :: _, .turns _ _ _, ⟨e, t⟩ => ⟨e, RowsAt.app hw t⟩
  | [], .leaf _ _, h => h.elim
  | [], .turns _ _ _, h => h.elim
  | _ :: _, .nil, h => h.elim
theorem StepsAt.app {K : PySem.W.Frag} {P : Addr → Prop} {H : Hp} {ws : List V} {G : Fo} (hw : StepsAt K P H ws G) : ∀ {vs : List V} {F : Fo}, StepsAt K P H vs F → StepsAt K P H (vs ++ ws) (F.app G)
  | [], .nil, _ => hw
  | _ :: _, .leaf _ _, ⟨e, t⟩ => ⟨e, StepsAt.app hw t⟩
  | _ :: _, .turns _ _ _, ⟨e, t⟩ => ⟨e, StepsAt.app hw t⟩
  | [], .leaf _ _, h => h.elim
  | [], .turns _ _ _, h => h.elim
  | _ :: _, .nil, h => h.elim
theorem kp_mut {P : Addr → Prop} {H H2 : Hp} {D : Addr} {acc new : List V} (s : Same H H2) (hD : H D = some (.lst acc)) (hp : ∀ a, P a → a ≠ D) : Kp P H (upd H2 D (.lst new)) := fun a o h e => by
  have ne : a ≠ D := by
    rcases h with h | h
    · exact hp a h
    · intro z
      rw [z, hD] at e
      exact h acc (Option.some.inj e).symm
  rw [upd_ne ne]
  exact s a o e
/-- a node alone -/
inductive Nd where
  | leaf (r : Leaf)
  | turns (n : Nat) (b : Fo)
def Nd.fo : Nd → Fo → Fo
  | .leaf r, t => .leaf r t
  | .turns n b, t => .turns n b t
abbrev Nd.one (d : Nd) : Fo := d.fo .nil
def Nd.cl : Nd → Cl
  | .leaf r => r.cl
  | .turns .. => .turns
theorem one_app (d : Nd) (t : Fo) : d.one.app t = d.fo t := by cases d <;> rfl
theorem app_assoc (a b c : Fo) : (a.app b).app c = a.app (b.app c) := by
  induction a with
  | nil => rfl
  | leaf r t ih => simp only [Fo.app, ih]
  | turns n d t _ ih => simp only [Fo.app, ih]
theorem app_nil (a : Fo) : a.app .nil = a := by
  induction a with
  | nil => rfl
  | leaf r t ih => simp only [Fo.app, ih]
  | turns n d t _ ih => simp only [Fo.app, ih]
theorem RowsAt.cons {P : Addr → Prop} {H : Hp} {v : V} {vs : List V} {F : Fo} (h : RowsAt P H (v :: vs) F) : ∃ d t, F = Nd.fo d t ∧ RowsAt P H [v] d.one ∧ RowsAt P H vs t := by
  cases F with
  | nil => exact h.elim
  | leaf r t => exact ⟨.leaf r, t, rfl, ⟨h.1, trivial⟩, h.2⟩
  | turns n b t => exact ⟨.turns n b, t, rfl, ⟨h.1, trivial⟩, h.2⟩
theorem StepsAt.cons {K : PySem.W.Frag} {P : Addr → Prop} {H : Hp} {v : V} {vs : List V} {F : Fo} (h : StepsAt K P H (v :: vs) F) : ∃ d t, F = Nd.fo d t ∧ StepsAt K P H [v] d.one ∧ StepsAt K P H vs t := by
  cases F with
  | nil => exact h.elim
  | leaf r t => exact ⟨.leaf r, t, rfl, ⟨h.1, trivial⟩, h.2⟩
  | turns n b t => exact ⟨.turns n b, t, rfl, ⟨h.1, trivial⟩, h.2⟩
theorem StepsAt.ins {K : PySem.W.Frag} {P : Addr → Prop} {H : Hp} {v : V} {d : Nd} (h : StepsAt K P H [v] d.one) : ∃ p dx fs, v = .ref p ∧ H p = some (.ins (d.cl.ad K) dx fs) ∧ fs.lookup ("fits" : Str) = none ∧ fs.lookup ("told" : Str) = none ∧ fs.lookup ("word" : Str) = none ∧ fs.lookup ("do" : Str) = none := by
  cases d with
  | leaf r =>
    obtain ⟨⟨p, dx, e, h⟩, _⟩ := h
    refine ⟨p, dx, r.flds, e, h, ?_⟩
    cases r <;> exact ⟨rfl, rfl, rfl, rfl⟩
  | turns n b =>
    obtain ⟨⟨p, dx, l, xs, e, h, _⟩, _⟩ := h
    exact ⟨p, dx, tflds n l, e, h, rfl, rfl, rfl, rfl⟩
theorem fo_good {w : Nat} {d : Nd} {t : Fo} (h : (d.fo t).Good w) : d.one.Good w ∧ t.Good w := by
  cases d with
  | leaf r => exact ⟨⟨h.1, trivial⟩, h.2⟩
  | turns n b => exact ⟨⟨h.1, h.2.1, trivial⟩, h.2.2⟩
theorem fo_depth (d : Nd) (t : Fo) : (d.fo t).depth = max d.one.depth t.depth := by
  cases d with
  | leaf r => simp [Nd.fo, Fo.depth]
  | turns n b => simp [Nd.fo, Fo.depth]
theorem fo_cost (d : Nd) (t : Fo) : (d.fo t).cost = d.one.cost + t.cost := by
  cases d with
  | leaf r => simp [Nd.fo, Fo.cost]
  | turns n b => simp [Nd.fo, Fo.cost]

theorem leaf_Set {r : Leaf} (h : r.cl = .set) : ∃ g b, r = .set g b := by
  cases r with
  | set g b => exact ⟨g, b, rfl⟩
  | copy g a => cases h
  | pair c g a b =>
    cases c
    · cases h
    · cases h
    · cases h
    · cases h
    · cases h
    · cases h
  | carry c g y a b =>
    cases c
    · cases h
    · cases h
  | shift c g a j =>
    cases c
    · cases h
    · cases h
    · cases h
  | pick g y a b => cases h
  | mark ln m y => cases h
theorem leaf_Copy {r : Leaf} (h : r.cl = .copy) : ∃ g a, r = .copy g a := by
  cases r with
  | set g b => cases h
  | copy g a => exact ⟨g, a, rfl⟩
  | pair c g a b =>
    cases c
    · cases h
    · cases h
    · cases h
    · cases h
    · cases h
    · cases h
  | carry c g y a b =>
    cases c
    · cases h
    · cases h
  | shift c g a j =>
    cases c
    · cases h
    · cases h
    · cases h
  | pick g y a b => cases h
  | mark ln m y => cases h
theorem leaf_Sum {r : Leaf} (h : r.cl = .sum) : ∃ g y a b, r = .carry .sum g y a b := by
  cases r with
  | set g b => cases h
  | copy g a => cases h
  | pair c g a b =>
    cases c
    · cases h
    · cases h
    · cases h
    · cases h
    · cases h
    · cases h
  | carry c g y a b =>
    cases c
    · exact ⟨g, y, a, b, rfl⟩
    · cases h
  | shift c g a j =>
    cases c
    · cases h
    · cases h
    · cases h
  | pick g y a b => cases h
  | mark ln m y => cases h
theorem leaf_Gap {r : Leaf} (h : r.cl = .gap) : ∃ g y a b, r = .carry .gap g y a b := by
  cases r with
  | set g b => cases h
  | copy g a => cases h
  | pair c g a b =>
    cases c
    · cases h
    · cases h
    · cases h
    · cases h
    · cases h
    · cases h
  | carry c g y a b =>
    cases c
    · cases h
    · exact ⟨g, y, a, b, rfl⟩
  | shift c g a j =>
    cases c
    · cases h
    · cases h
    · cases h
  | pick g y a b => cases h
  | mark ln m y => cases h
theorem leaf_Low {r : Leaf} (h : r.cl = .low) : ∃ g a b, r = .pair .low g a b := by
  cases r with
  | set g b => cases h
  | copy g a => cases h
  | pair c g a b =>
    cases c
    · exact ⟨g, a, b, rfl⟩
    · cases h
    · cases h
    · cases h
    · cases h
    · cases h
  | carry c g y a b =>
    cases c
    · cases h
    · cases h
  | shift c g a j =>
    cases c
    · cases h
    · cases h
    · cases h
  | pick g y a b => cases h
  | mark ln m y => cases h
theorem leaf_High {r : Leaf} (h : r.cl = .high) : ∃ g a b, r = .pair .high g a b := by
  cases r with
  | set g b => cases h
  | copy g a => cases h
  | pair c g a b =>
    cases c
    · cases h
    · exact ⟨g, a, b, rfl⟩
    · cases h
    · cases h
    · cases h
    · cases h
  | carry c g y a b =>
    cases c
    · cases h
    · cases h
  | shift c g a j =>
    cases c
    · cases h
    · cases h
    · cases h
  | pick g y a b => cases h
  | mark ln m y => cases h
theorem leaf_Left {r : Leaf} (h : r.cl = .left) : ∃ g a j, r = .shift .left g a j := by
  cases r with
  | set g b => cases h
  | copy g a => cases h
  | pair c g a b =>
    cases c
    · cases h
    · cases h
    · cases h
    · cases h
    · cases h
    · cases h
  | carry c g y a b =>
    cases c
    · cases h
    · cases h
  | shift c g a j =>
    cases c
    · exact ⟨g, a, j, rfl⟩
    · cases h
    · cases h
  | pick g y a b => cases h
  | mark ln m y => cases h
theorem leaf_Right {r : Leaf} (h : r.cl = .right) : ∃ g a j, r = .shift .right g a j := by
  cases r with
  | set g b => cases h
  | copy g a => cases h
  | pair c g a b =>
    cases c
    · cases h
    · cases h
    · cases h
    · cases h
    · cases h
    · cases h
  | carry c g y a b =>
    cases c
    · cases h
    · cases h
  | shift c g a j =>
    cases c
    · cases h
    · exact ⟨g, a, j, rfl⟩
    · cases h
  | pick g y a b => cases h
  | mark ln m y => cases h
theorem leaf_Slide {r : Leaf} (h : r.cl = .slide) : ∃ g a j, r = .shift .slide g a j := by
  cases r with
  | set g b => cases h
  | copy g a => cases h
  | pair c g a b =>
    cases c
    · cases h
    · cases h
    · cases h
    · cases h
    · cases h
    · cases h
  | carry c g y a b =>
    cases c
    · cases h
    · cases h
  | shift c g a j =>
    cases c
    · cases h
    · cases h
    · exact ⟨g, a, j, rfl⟩
  | pick g y a b => cases h
  | mark ln m y => cases h
theorem leaf_And {r : Leaf} (h : r.cl = .and_) : ∃ g a b, r = .pair .and_ g a b := by
  cases r with
  | set g b => cases h
  | copy g a => cases h
  | pair c g a b =>
    cases c
    · cases h
    · cases h
    · exact ⟨g, a, b, rfl⟩
    · cases h
    · cases h
    · cases h
  | carry c g y a b =>
    cases c
    · cases h
    · cases h
  | shift c g a j =>
    cases c
    · cases h
    · cases h
    · cases h
  | pick g y a b => cases h
  | mark ln m y => cases h
theorem leaf_Or {r : Leaf} (h : r.cl = .or_) : ∃ g a b, r = .pair .or_ g a b := by
  cases r with
  | set g b => cases h
  | copy g a => cases h
  | pair c g a b =>
    cases c
    · cases h
    · cases h
    · cases h
    · exact ⟨g, a, b, rfl⟩
    · cases h
    · cases h
  | carry c g y a b =>
    cases c
    · cases h
    · cases h
  | shift c g a j =>
    cases c
    · cases h
    · cases h
    · cases h
  | pick g y a b => cases h
  | mark ln m y => cases h
theorem leaf_Unlike {r : Leaf} (h : r.cl = .unlike) : ∃ g a b, r = .pair .unlike g a b := by
  cases r with
  | set g b => cases h
  | copy g a => cases h
  | pair c g a b =>
    cases c
    · cases h
    · cases h
    · cases h
    · cases h
    · exact ⟨g, a, b, rfl⟩
    · cases h
  | carry c g y a b =>
    cases c
    · cases h
    · cases h
  | shift c g a j =>
    cases c
    · cases h
    · cases h
    · cases h
  | pick g y a b => cases h
  | mark ln m y => cases h
theorem leaf_Under {r : Leaf} (h : r.cl = .under) : ∃ g a b, r = .pair .under g a b := by
  cases r with
  | set g b => cases h
  | copy g a => cases h
  | pair c g a b =>
    cases c
    · cases h
    · cases h
    · cases h
    · cases h
    · cases h
    · exact ⟨g, a, b, rfl⟩
  | carry c g y a b =>
    cases c
    · cases h
    · cases h
  | shift c g a j =>
    cases c
    · cases h
    · cases h
    · cases h
  | pick g y a b => cases h
  | mark ln m y => cases h
theorem leaf_Pick {r : Leaf} (h : r.cl = .pick) : ∃ g y a b, r = .pick g y a b := by
  cases r with
  | set g b => cases h
  | copy g a => cases h
  | pair c g a b =>
    cases c
    · cases h
    · cases h
    · cases h
    · cases h
    · cases h
    · cases h
  | carry c g y a b =>
    cases c
    · cases h
    · cases h
  | shift c g a j =>
    cases c
    · cases h
    · cases h
    · cases h
  | pick g y a b => exact ⟨g, y, a, b, rfl⟩
  | mark ln m y => cases h
theorem leaf_Mark {r : Leaf} (h : r.cl = .mark) : ∃ ln m y, r = .mark ln m y := by
  cases r with
  | set g b => cases h
  | copy g a => cases h
  | pair c g a b =>
    cases c
    · cases h
    · cases h
    · cases h
    · cases h
    · cases h
    · cases h
  | carry c g y a b =>
    cases c
    · cases h
    · cases h
  | shift c g a j =>
    cases c
    · cases h
    · cases h
    · cases h
  | pick g y a b => cases h
  | mark ln m y => exact ⟨ln, m, y, rfl⟩
section
variable {P : Program} {w : World} {K : PySem.W.Frag} {mg : Str → Option Value} {base : Heap}
def spI_Turns (K : PySem.W.Frag) : Sp := fun vs H Q _ => ∃ (p dx l : Addr) (n : Nat) (xs : List V), vs = [.ref p, .int n, .ref l] ∧ H p = some (.ins (Cl.ad K .turns) dx []) ∧ H l = some (.lst xs) ∧
  ∀ H' q, H q = none → H' p = some (.ins (Cl.ad K .turns) dx (tflds n q)) → H' q = some (.lst xs) → (∀ b o, b ≠ p → H b = some o → H' b = some o) → Q .non H'
theorem sc_mTurns_init : FnScope ["self", "times", "steps"] ["self", "times", "steps"] (defScope smTurns_init) := ⟨rfl, rfl, rfl, by decide +kernel, rfl, by decide +kernel, by decide +kernel⟩
theorem fnk_mTurns_init (T : Txt K mg) : ∃ fd, FnOk P w K mg base CX0 (1) (He.fAd K dmTurns_init.at_) fd ["self", "times", "steps"] (spI_Turns K) ∧ Binds K fd ["self", "times", "steps"] [] ∧ PySem.W.keepIn K (.ref (He.fAd K dmTurns_init.at_)) = true := by
  obtain ⟨fd, F0⟩ := T.c.d.def_ 72 (d := dmTurns_init) rfl
  have F : FunD K "__init__" "Turns.__init__" (defArgs smTurns_init) (defBody smTurns_init) (defScope smTurns_init) [] [] (He.fAd K dmTurns_init.at_) fd := F0
  have G : FnOk P w K mg base CX0 1 (He.fAd K dmTurns_init.at_) fd ["self", "times", "steps"] (spI_Turns K) := by
    refine F.ok (CX := CX0) sc_mTurns_init (fun vs H Q E h => ?_) (fun cdv A outer s H vs Q E hr h => ⟨_, PSs.nox (by exact (pss_cons (ps_fld (pv 0) (pv 1) rfl)
      (pss_cons (ps_fld (pv 0) (pv 2) rfl)
      (pss_one (ps_if (pt_val (pe_callB call_isi rfl T.f_isinstance (by decide +kernel) (pa_cons (pv 2) (pa_cons (pe_bltn (v := .ty "list") rfl T.f_list (by decide +kernel) rfl) pa_nil)))) (pss_one (ps_fld (pv 0) (pe_callTy call_list_of rfl T.f_list (by decide +kernel) (pa_cons (pv 2) pa_nil)) rfl)) pss_nil))))), ?_⟩)
    · first
      | (obtain ⟨e, _⟩ := h; subst e; rfl)
      | (obtain ⟨_, e, _⟩ := h; subst e; rfl)
      | (obtain ⟨_, _, e, _⟩ := h; subst e; rfl)
      | (obtain ⟨_, _, _, e, _⟩ := h; subst e; rfl)
      | (obtain ⟨_, _, _, _, e, _⟩ := h; subst e; rfl)
      | (obtain ⟨_, _, _, _, _, e, _⟩ := h; subst e; rfl)
      | (obtain ⟨_, _, _, _, _, _, e, _⟩ := h; subst e; rfl)
      | (obtain ⟨_, _, _, _, _, _, _, e, _⟩ := h; subst e; rfl)
      | (obtain ⟨_, _, _, _, _, _, _, _, e, _⟩ := h; subst e; rfl)
      | (obtain ⟨_, _, _, _, _, _, _, _, _, e, _⟩ := h; subst e; rfl)
      | (obtain ⟨_, _, _, _, _, _, _, _, _, _, e, _⟩ := h; subst e; rfl)
      | (obtain ⟨_, _, _, _, _, _, _, _, _, _, _, e, _⟩ := h; subst e; rfl)
      | (obtain ⟨_, _, _, _, _, _, _, _, _, _, _, _, e, _⟩ := h; subst e; rfl)
      | (obtain ⟨_, _, _, _, _, _, _, _, _, _, _, _, _, e, _⟩ := h; subst e; rfl)
    · skip
      obtain ⟨p, dx, l, n, xs, rfl, hp, hl, k⟩ := h
      have npl : l ≠ p := ne_of hl hp (by intro z; cases z)
      refine ⟨_, rfl, _, rfl, _, _, _, _, rfl, hp, T.cls _, T.na_Turns_times, Nat.lt_of_lt_of_le (Nat.lt_succ_self _) (Nat.le_of_ble_eq_true rfl), ?_⟩
      refine ⟨_, rfl, _, rfl, _, _, _, _, rfl, upd_same, T.cls _, T.na_Turns_steps, Nat.lt_of_lt_of_le (Nat.lt_succ_self _) (Nat.le_of_ble_eq_true rfl), ?_⟩
      rw [upd_upd]
      generalize ho : HO.ins (Cl.ad K .turns) dx _ = ob
      have hl1 : (upd H p ob) l = some (.lst xs) := by
        rw [upd_ne npl]
        exact hl
      refine ⟨_, rfl, _, _, _, _, _, rfl, .ty _, .base (.lst hl1), kit_ll, ?_⟩
      refine ⟨_, rfl, iteT ?_⟩
      refine ⟨_, rfl, _, _, rfl, .inl (SqL.of hl1), fun q hq => ?_⟩
      have nqp : q ≠ p := by
        intro e
        rw [e, upd_same] at hq
        cases hq
      have hq0 : H q = none := by
        rw [upd_ne nqp] at hq
        exact hq
      have hp1 : (upd (upd H p ob) q (.lst xs)) p = some ob := by rw [upd_ne nqp.symm, upd_same]
      subst ho
      refine ⟨_, rfl, _, _, _, _, rfl, hp1, T.cls _, T.na_Turns_steps, Nat.lt_of_lt_of_le (Nat.lt_succ_self _) (Nat.le_of_ble_eq_true rfl), ?_⟩
      refine k _ q hq0 upd_same ?_ fun b o h1 e => ?_
      · rw [upd_ne nqp, upd_same]
      · rw [upd_ne h1, upd_ne (ne_of_none e hq0), upd_ne h1]
        exact e
  exact ⟨fd, G, F.bindsN (fun _ _ _ _ _ _ us hl => match us, hl with | [_, _, _], _ => rfl), F.kp⟩
def spF_Turns (K : PySem.W.Frag) : Sp := fun vs H Q _ => ∃ (p dx l : Addr) (n w : Nat) (xs : List V), vs = [.ref p, .int w] ∧ H p = some (.ins (Cl.ad K .turns) dx (tflds n l)) ∧ H l = some (.lst xs) ∧ (1 ≤ n ∧ n ≤ 64 ∧ xs ≠ []) ∧ ∀ H', Same H H' → Q (.bl true) H'
theorem sc_mTurns_fits : FnScope ["self", "width"] ["self", "width"] (defScope smTurns_fits) := ⟨rfl, rfl, rfl, by decide +kernel, rfl, by decide +kernel, by decide +kernel⟩
theorem fnk_mTurns_fits (T : Txt K mg) : ∃ fd, FnOk P w K mg base CX0 (3) (He.fAd K dmTurns_fits.at_) fd ["self", "width"] (spF_Turns K) ∧ Binds K fd ["self", "width"] [] ∧ PySem.W.keepIn K (.ref (He.fAd K dmTurns_fits.at_)) = true := by
  obtain ⟨fd, F0⟩ := T.c.d.def_ 75 (d := dmTurns_fits) rfl
  have F : FunD K "fits" "Turns.fits" (defArgs smTurns_fits) (defBody smTurns_fits) (defScope smTurns_fits) [] [] (He.fAd K dmTurns_fits.at_) fd := F0
  have G : FnOk P w K mg base CX0 3 (He.fAd K dmTurns_fits.at_) fd ["self", "width"] (spF_Turns K) := by
    refine F.ok (CX := CX0) sc_mTurns_fits (fun vs H Q E h => ?_) (fun cdv A outer s H vs Q E hr h => ⟨_, PSs.nox (by exact (pss_one (ps_ret (pe_and (pe_c (cal_f_within T) hr (by decide) rfl (pa_cons (pe_fld (pv 0) rfl) (pa_cons pe_int (pa_cons (pe_gc rfl T.v_MOST_TIMES) pa_nil)))) (pe_and (pe_callB call_isi rfl T.f_isinstance (by decide +kernel) (pa_cons (pe_fld (pv 0) rfl) (pa_cons (pe_bltn (v := .ty "list") rfl T.f_list (by decide +kernel) rfl) pa_nil))) (pe_one (pe_cmpR (op_neNil hr.units0) (pe_fld (pv 0) rfl) (pe_lst pa_nil) (nomark _)))))))), ?_⟩)
    · first
      | (obtain ⟨e, _⟩ := h; subst e; rfl)
      | (obtain ⟨_, e, _⟩ := h; subst e; rfl)
      | (obtain ⟨_, _, e, _⟩ := h; subst e; rfl)
      | (obtain ⟨_, _, _, e, _⟩ := h; subst e; rfl)
      | (obtain ⟨_, _, _, _, e, _⟩ := h; subst e; rfl)
      | (obtain ⟨_, _, _, _, _, e, _⟩ := h; subst e; rfl)
      | (obtain ⟨_, _, _, _, _, _, e, _⟩ := h; subst e; rfl)
      | (obtain ⟨_, _, _, _, _, _, _, e, _⟩ := h; subst e; rfl)
      | (obtain ⟨_, _, _, _, _, _, _, _, e, _⟩ := h; subst e; rfl)
      | (obtain ⟨_, _, _, _, _, _, _, _, _, e, _⟩ := h; subst e; rfl)
      | (obtain ⟨_, _, _, _, _, _, _, _, _, _, e, _⟩ := h; subst e; rfl)
      | (obtain ⟨_, _, _, _, _, _, _, _, _, _, _, e, _⟩ := h; subst e; rfl)
      | (obtain ⟨_, _, _, _, _, _, _, _, _, _, _, _, e, _⟩ := h; subst e; rfl)
      | (obtain ⟨_, _, _, _, _, _, _, _, _, _, _, _, _, e, _⟩ := h; subst e; rfl)
    · skip
      obtain ⟨p, dx, l, n, w, xs, rfl, hp, hl, ⟨h1, h64, hx⟩, k⟩ := h
      refine ⟨_, rfl, _, _, _, _, _, rfl, hp, T.cls _, T.na_Turns_times, rfl, _, _, _, rfl, by omega, by omega, _, rfl, iteT ?_⟩
      refine ⟨_, rfl, _, _, _, _, _, rfl, hp, T.cls _, T.na_Turns_steps, rfl, _, _, _, _, _, rfl, .ty _, .base (.lst hl), kit_ll, _, rfl, iteT ?_⟩
      refine ⟨_, rfl, _, _, _, _, _, rfl, hp, T.cls _, T.na_Turns_steps, rfl, le_sz (Nat.zero_le _), fun q hq => ?_⟩
      refine ⟨_, _, _, rfl, rfl, SqL.of (same_new hq _ _ hl), SqL.of upd_same, ?_⟩
      cases xs with
      | nil => exact absurd rfl hx
      | cons x r => exact k _ (same_new hq)
  exact ⟨fd, G, F.bindsN (fun _ _ _ _ _ _ us hl => match us, hl with | [_, _], _ => rfl), F.kp⟩

def spFits (K : PySem.W.Frag) (c : Cl) : Sp := fun vs H Q _ => ∃ (p : Addr) (w : Nat) (d : Nd), vs = [.ref p, .int w] ∧ d.cl = c ∧ StepsAt K Any H [.ref p] d.one ∧ (4 ≤ w ∧ w ≤ 32) ∧ d.one.Good w ∧ ∀ H', Same H H' → Q (.bl true) H'
theorem nd_leaf {d : Nd} {c : Cl} (h : d.cl = c) (hc : c ≠ .turns) : ∃ r, d = .leaf r ∧ r.cl = c := by
  cases d with
  | leaf r => exact ⟨r, rfl, h⟩
  | turns n b => exact absurd h.symm hc
theorem nd_turns {d : Nd} (h : d.cl = .turns) : ∃ n b, d = .turns n b := by
  cases d with
  | leaf r => exact absurd h (leaf_not_turns r)
  | turns n b => exact ⟨n, b, rfl⟩
theorem met_fits (T : Txt K mg) (c : Cl) : Met P w K mg base 3 (c.ad K) "fits" (spFits K c) [] := by
  cases c
  · obtain ⟨fd, G, b, _⟩ := fnk_mSet_fits (P := P) (w := w) (base := base) T
    refine ⟨_, fd, _, [], T.cl_Set, T.me_Set_fits, G.imp fun vs H Q E h => ?_, b, .nil⟩

    obtain ⟨p, w, d, rfl, hd, hs, hw, gd, k⟩ := h
    obtain ⟨r, rfl, hr⟩ := nd_leaf hd (by intro z; cases z)
    obtain ⟨g, b, rfl⟩ := leaf_Set hr
    obtain ⟨⟨p', dx, e, hp⟩, _⟩ := hs
    cases e
    exact ⟨p, dx, g, b, w, rfl, hp, hw, gd.1, k⟩
  · obtain ⟨fd, G, b, _⟩ := fnk_mCopy_fits (P := P) (w := w) (base := base) T
    refine ⟨_, fd, _, [], T.cl_Copy, T.me_Copy_fits, G.imp fun vs H Q E h => ?_, b, .nil⟩

    obtain ⟨p, w, d, rfl, hd, hs, hw, gd, k⟩ := h
    obtain ⟨r, rfl, hr⟩ := nd_leaf hd (by intro z; cases z)
    obtain ⟨g, a, rfl⟩ := leaf_Copy hr
    obtain ⟨⟨p', dx, e, hp⟩, _⟩ := hs
    cases e
    exact ⟨p, dx, g, a, w, rfl, hp, hw, gd.1, k⟩
  · obtain ⟨fd, G, b, _⟩ := fnk_mCarrying_fits (P := P) (w := w) (base := base) T
    refine ⟨_, fd, _, [], T.cl_Sum, ?_, G.imp fun vs H Q E h => ?_, b, .nil⟩
    · have z := T.me_Sum_fits
      rw [T.eq_Sum_fits] at z
      exact z
    obtain ⟨p, w, d, rfl, hd, hs, hw, gd, k⟩ := h
    obtain ⟨r, rfl, hr⟩ := nd_leaf hd (by intro z; cases z)
    obtain ⟨g, y, a, b, rfl⟩ := leaf_Sum hr
    obtain ⟨⟨p', dx, e, hp⟩, _⟩ := hs
    cases e
    exact ⟨p, dx, .sum, g, y, a, b, w, rfl, hp, hw, gd.1, k⟩
  · obtain ⟨fd, G, b, _⟩ := fnk_mCarrying_fits (P := P) (w := w) (base := base) T
    refine ⟨_, fd, _, [], T.cl_Gap, ?_, G.imp fun vs H Q E h => ?_, b, .nil⟩
    · have z := T.me_Gap_fits
      rw [T.eq_Gap_fits] at z
      exact z
    obtain ⟨p, w, d, rfl, hd, hs, hw, gd, k⟩ := h
    obtain ⟨r, rfl, hr⟩ := nd_leaf hd (by intro z; cases z)
    obtain ⟨g, y, a, b, rfl⟩ := leaf_Gap hr
    obtain ⟨⟨p', dx, e, hp⟩, _⟩ := hs
    cases e
    exact ⟨p, dx, .gap, g, y, a, b, w, rfl, hp, hw, gd.1, k⟩
  · obtain ⟨fd, G, b, _⟩ := fnk_mPair_fits (P := P) (w := w) (base := base) T
    refine ⟨_, fd, _, [], T.cl_Low, ?_, G.imp fun vs H Q E h => ?_, b, .nil⟩
    · have z := T.me_Low_fits
      rw [T.eq_Low_fits] at z
      exact z
    obtain ⟨p, w, d, rfl, hd, hs, hw, gd, k⟩ := h
    obtain ⟨r, rfl, hr⟩ := nd_leaf hd (by intro z; cases z)
    obtain ⟨g, a, b, rfl⟩ := leaf_Low hr
    obtain ⟨⟨p', dx, e, hp⟩, _⟩ := hs
    cases e
    exact ⟨p, dx, .low, g, a, b, w, rfl, hp, hw, gd.1, k⟩
  · obtain ⟨fd, G, b, _⟩ := fnk_mPair_fits (P := P) (w := w) (base := base) T
    refine ⟨_, fd, _, [], T.cl_High, ?_, G.imp fun vs H Q E h => ?_, b, .nil⟩
    · have z := T.me_High_fits
      rw [T.eq_High_fits] at z
      exact z
    obtain ⟨p, w, d, rfl, hd, hs, hw, gd, k⟩ := h
    obtain ⟨r, rfl, hr⟩ := nd_leaf hd (by intro z; cases z)
    obtain ⟨g, a, b, rfl⟩ := leaf_High hr
    obtain ⟨⟨p', dx, e, hp⟩, _⟩ := hs
    cases e
    exact ⟨p, dx, .high, g, a, b, w, rfl, hp, hw, gd.1, k⟩
  · obtain ⟨fd, G, b, _⟩ := fnk_mShift_fits (P := P) (w := w) (base := base) T
    refine ⟨_, fd, _, [], T.cl_Left, ?_, G.imp fun vs H Q E h => ?_, b, .nil⟩
    · have z := T.me_Left_fits
      rw [T.eq_Left_fits] at z
      exact z
    obtain ⟨p, w, d, rfl, hd, hs, hw, gd, k⟩ := h
    obtain ⟨r, rfl, hr⟩ := nd_leaf hd (by intro z; cases z)
    obtain ⟨g, a, j, rfl⟩ := leaf_Left hr
    obtain ⟨⟨p', dx, e, hp⟩, _⟩ := hs
    cases e
    exact ⟨p, dx, .left, g, a, j, w, rfl, hp, hw, gd.1, k⟩
  · obtain ⟨fd, G, b, _⟩ := fnk_mShift_fits (P := P) (w := w) (base := base) T
    refine ⟨_, fd, _, [], T.cl_Right, ?_, G.imp fun vs H Q E h => ?_, b, .nil⟩
    · have z := T.me_Right_fits
      rw [T.eq_Right_fits] at z
      exact z
    obtain ⟨p, w, d, rfl, hd, hs, hw, gd, k⟩ := h
    obtain ⟨r, rfl, hr⟩ := nd_leaf hd (by intro z; cases z)
    obtain ⟨g, a, j, rfl⟩ := leaf_Right hr
    obtain ⟨⟨p', dx, e, hp⟩, _⟩ := hs
    cases e
    exact ⟨p, dx, .right, g, a, j, w, rfl, hp, hw, gd.1, k⟩
  · obtain ⟨fd, G, b, _⟩ := fnk_mShift_fits (P := P) (w := w) (base := base) T
    refine ⟨_, fd, _, [], T.cl_Slide, ?_, G.imp fun vs H Q E h => ?_, b, .nil⟩
    · have z := T.me_Slide_fits
      rw [T.eq_Slide_fits] at z
      exact z
    obtain ⟨p, w, d, rfl, hd, hs, hw, gd, k⟩ := h
    obtain ⟨r, rfl, hr⟩ := nd_leaf hd (by intro z; cases z)
    obtain ⟨g, a, j, rfl⟩ := leaf_Slide hr
    obtain ⟨⟨p', dx, e, hp⟩, _⟩ := hs
    cases e
    exact ⟨p, dx, .slide, g, a, j, w, rfl, hp, hw, gd.1, k⟩
  · obtain ⟨fd, G, b, _⟩ := fnk_mPair_fits (P := P) (w := w) (base := base) T
    refine ⟨_, fd, _, [], T.cl_And, ?_, G.imp fun vs H Q E h => ?_, b, .nil⟩
    · have z := T.me_And_fits
      rw [T.eq_And_fits] at z
      exact z
    obtain ⟨p, w, d, rfl, hd, hs, hw, gd, k⟩ := h
    obtain ⟨r, rfl, hr⟩ := nd_leaf hd (by intro z; cases z)
    obtain ⟨g, a, b, rfl⟩ := leaf_And hr
    obtain ⟨⟨p', dx, e, hp⟩, _⟩ := hs
    cases e
    exact ⟨p, dx, .and_, g, a, b, w, rfl, hp, hw, gd.1, k⟩
  · obtain ⟨fd, G, b, _⟩ := fnk_mPair_fits (P := P) (w := w) (base := base) T
    refine ⟨_, fd, _, [], T.cl_Or, ?_, G.imp fun vs H Q E h => ?_, b, .nil⟩
    · have z := T.me_Or_fits
      rw [T.eq_Or_fits] at z
      exact z
    obtain ⟨p, w, d, rfl, hd, hs, hw, gd, k⟩ := h
    obtain ⟨r, rfl, hr⟩ := nd_leaf hd (by intro z; cases z)
    obtain ⟨g, a, b, rfl⟩ := leaf_Or hr
    obtain ⟨⟨p', dx, e, hp⟩, _⟩ := hs
    cases e
    exact ⟨p, dx, .or_, g, a, b, w, rfl, hp, hw, gd.1, k⟩
  · obtain ⟨fd, G, b, _⟩ := fnk_mPair_fits (P := P) (w := w) (base := base) T
    refine ⟨_, fd, _, [], T.cl_Unlike, ?_, G.imp fun vs H Q E h => ?_, b, .nil⟩
    · have z := T.me_Unlike_fits
      rw [T.eq_Unlike_fits] at z
      exact z
    obtain ⟨p, w, d, rfl, hd, hs, hw, gd, k⟩ := h
    obtain ⟨r, rfl, hr⟩ := nd_leaf hd (by intro z; cases z)
    obtain ⟨g, a, b, rfl⟩ := leaf_Unlike hr
    obtain ⟨⟨p', dx, e, hp⟩, _⟩ := hs
    cases e
    exact ⟨p, dx, .unlike, g, a, b, w, rfl, hp, hw, gd.1, k⟩
  · obtain ⟨fd, G, b, _⟩ := fnk_mPair_fits (P := P) (w := w) (base := base) T
    refine ⟨_, fd, _, [], T.cl_Under, ?_, G.imp fun vs H Q E h => ?_, b, .nil⟩
    · have z := T.me_Under_fits
      rw [T.eq_Under_fits] at z
      exact z
    obtain ⟨p, w, d, rfl, hd, hs, hw, gd, k⟩ := h
    obtain ⟨r, rfl, hr⟩ := nd_leaf hd (by intro z; cases z)
    obtain ⟨g, a, b, rfl⟩ := leaf_Under hr
    obtain ⟨⟨p', dx, e, hp⟩, _⟩ := hs
    cases e
    exact ⟨p, dx, .under, g, a, b, w, rfl, hp, hw, gd.1, k⟩
  · obtain ⟨fd, G, b, _⟩ := fnk_mPick_fits (P := P) (w := w) (base := base) T
    refine ⟨_, fd, _, [], T.cl_Pick, T.me_Pick_fits, G.imp fun vs H Q E h => ?_, b, .nil⟩

    obtain ⟨p, w, d, rfl, hd, hs, hw, gd, k⟩ := h
    obtain ⟨r, rfl, hr⟩ := nd_leaf hd (by intro z; cases z)
    obtain ⟨g, y, a, b, rfl⟩ := leaf_Pick hr
    obtain ⟨⟨p', dx, e, hp⟩, _⟩ := hs
    cases e
    exact ⟨p, dx, g, y, a, b, w, rfl, hp, hw, gd.1, k⟩
  · obtain ⟨fd, G, b, _⟩ := fnk_mMark_fits (P := P) (w := w) (base := base) T
    refine ⟨_, fd, _, [], T.cl_Mark, T.me_Mark_fits, G.imp fun vs H Q E h => ?_, b, .nil⟩

    obtain ⟨p, w, d, rfl, hd, hs, hw, gd, k⟩ := h
    obtain ⟨r, rfl, hr⟩ := nd_leaf hd (by intro z; cases z)
    obtain ⟨ln, m, y, rfl⟩ := leaf_Mark hr
    obtain ⟨⟨p', dx, e, hp⟩, _⟩ := hs
    cases e
    exact ⟨p, dx, ln, m, y, w, rfl, hp, hw, gd.1, k⟩
  · obtain ⟨fd, G, b, _⟩ := fnk_mTurns_fits (P := P) (w := w) (base := base) T
    refine ⟨_, fd, _, [], T.cl_Turns, T.me_Turns_fits, G.imp fun vs H Q E h => ?_, b, .nil⟩
    obtain ⟨p, w, d, rfl, hd, hs, hw, gd, k⟩ := h
    obtain ⟨n, b, rfl⟩ := nd_turns hd
    obtain ⟨⟨p', dx, l, xs, e, hp, _, hl, hb⟩, _⟩ := hs
    cases e
    refine ⟨p, dx, l, n, w, xs, rfl, hp, hl, ⟨gd.1.1, gd.1.2.1, fun z => gd.1.2.2 ?_⟩, k⟩
    subst z
    cases b with
    | nil => rfl
    | leaf r t => exact hb.elim
    | turns n b t => exact hb.elim
section
variable {X : Cx} {o e : Expr} {es : List Expr} {ta : TE} {t : TA} {pos apos : Pos} {k : Nat}
theorem pe_fits {pl : Sem Bool} (T : Txt X.K X.mg) (hr : Room k X.A) (hk : 3 ≤ k) (he : PE X o ta) (ha : PA X (e :: es) t)
    (hst : starEach (e :: es) X.env = (false, eval e X.env) :: starEach es X.env := by rfl) (hpl : (backTo pos (starEach es X.env)).any (·.1) = false := by rfl)
    (ht : eval (.Call (.Attribute o "fits" apos) (e :: es) [] pos) X.env = (do
      let ov ← eval o X.env
      standAt apos.atName
      let (f, first) ← holding [ov] (getMethod ov "fits" pl)
      callWith pos f first (backTo pos (starEach (e :: es) X.env)) (backToKw pos (keywordEach [] X.env))) := by rfl) :
    PE X (.Call (.Attribute o "fits" apos) (e :: es) [] pos) (tDyn fun c : Cl => tMeth (c.ad X.K) "fits" (spFits X.K c) [] C8.E0 ta t) := pe_any fun c => pe_mt (met_fits T c) hr hk he ha hst hpl ht
end
def spDo (K : PySem.W.Frag) (c : Cl) : Sp := fun vs H Q _ => ∃ (p dx h l : Addr) (r : Leaf) (w : Nat) (kv : List (Key × V)) (mv : List V), vs = [.ref p, .int w, .ref h, .ref l] ∧ r.cl = c ∧ H p = some (.ins (c.ad K) dx r.flds) ∧ DoPre w r kv h l mv H ∧ ∀ H', DoPost w r kv h l mv H H' → Q .non H'
theorem met_do (T : Txt K mg) (c : Cl) (hc : c ≠ .turns) : Met P w K mg base 5 (c.ad K) "do" (spDo K c) [] := by
  cases c
  · obtain ⟨fd, G, b, _⟩ := fnk_mSet_do (P := P) (w := w) (base := base) T
    refine ⟨_, fd, _, [], T.cl_Set, T.me_Set_do, G.imp fun vs H Q E h => ?_, b, .nil⟩

    obtain ⟨p, dx, h, l, r, w, kv, mv, rfl, hr, hp, d, k⟩ := h
    obtain ⟨g, b, rfl⟩ := leaf_Set hr
    exact ⟨p, dx, h, l, g, b, w, kv, mv, rfl, hp, d, k⟩
  · obtain ⟨fd, G, b, _⟩ := fnk_mCopy_do (P := P) (w := w) (base := base) T
    refine ⟨_, fd, _, [], T.cl_Copy, T.me_Copy_do, G.imp fun vs H Q E h => ?_, b, .nil⟩

    obtain ⟨p, dx, h, l, r, w, kv, mv, rfl, hr, hp, d, k⟩ := h
    obtain ⟨g, a, rfl⟩ := leaf_Copy hr
    exact ⟨p, dx, h, l, g, a, w, kv, mv, rfl, hp, d, k⟩
  · obtain ⟨fd, G, b, _⟩ := fnk_mCarrying_do (P := P) (w := w) (base := base) T
    refine ⟨_, fd, _, [], T.cl_Sum, ?_, G.imp fun vs H Q E h => ?_, b, .nil⟩
    · have z := T.me_Sum_do
      rw [T.eq_Sum_do] at z
      exact z
    obtain ⟨p, dx, h, l, r, w, kv, mv, rfl, hr, hp, d, k⟩ := h
    obtain ⟨g, y, a, b, rfl⟩ := leaf_Sum hr
    exact ⟨p, dx, h, l, .sum, g, y, a, b, w, kv, mv, rfl, hp, d, k⟩
  · obtain ⟨fd, G, b, _⟩ := fnk_mCarrying_do (P := P) (w := w) (base := base) T
    refine ⟨_, fd, _, [], T.cl_Gap, ?_, G.imp fun vs H Q E h => ?_, b, .nil⟩
    · have z := T.me_Gap_do
      rw [T.eq_Gap_do] at z
      exact z
    obtain ⟨p, dx, h, l, r, w, kv, mv, rfl, hr, hp, d, k⟩ := h
    obtain ⟨g, y, a, b, rfl⟩ := leaf_Gap hr
    exact ⟨p, dx, h, l, .gap, g, y, a, b, w, kv, mv, rfl, hp, d, k⟩
  · obtain ⟨fd, G, b, _⟩ := fnk_mPair_do (P := P) (w := w) (base := base) T
    refine ⟨_, fd, _, [], T.cl_Low, ?_, G.imp fun vs H Q E h => ?_, b, .nil⟩
    · have z := T.me_Low_do
      rw [T.eq_Low_do] at z
      exact z
    obtain ⟨p, dx, h, l, r, w, kv, mv, rfl, hr, hp, d, k⟩ := h
    obtain ⟨g, a, b, rfl⟩ := leaf_Low hr
    exact ⟨p, dx, h, l, .low, g, a, b, w, kv, mv, rfl, hp, d, k⟩
  · obtain ⟨fd, G, b, _⟩ := fnk_mPair_do (P := P) (w := w) (base := base) T
    refine ⟨_, fd, _, [], T.cl_High, ?_, G.imp fun vs H Q E h => ?_, b, .nil⟩
    · have z := T.me_High_do
      rw [T.eq_High_do] at z
      exact z
    obtain ⟨p, dx, h, l, r, w, kv, mv, rfl, hr, hp, d, k⟩ := h
    obtain ⟨g, a, b, rfl⟩ := leaf_High hr
    exact ⟨p, dx, h, l, .high, g, a, b, w, kv, mv, rfl, hp, d, k⟩
  · obtain ⟨fd, G, b, _⟩ := fnk_mShift_do (P := P) (w := w) (base := base) T
    refine ⟨_, fd, _, [], T.cl_Left, ?_, G.imp fun vs H Q E h => ?_, b, .nil⟩
    · have z := T.me_Left_do
      rw [T.eq_Left_do] at z
      exact z
    obtain ⟨p, dx, h, l, r, w, kv, mv, rfl, hr, hp, d, k⟩ := h
    obtain ⟨g, a, j, rfl⟩ := leaf_Left hr
    exact ⟨p, dx, h, l, .left, g, a, j, w, kv, mv, rfl, hp, d, k⟩
  · obtain ⟨fd, G, b, _⟩ := fnk_mShift_do (P := P) (w := w) (base := base) T
    refine ⟨_, fd, _, [], T.cl_Right, ?_, G.imp fun vs H Q E h => ?_, b, .nil⟩
    · have z := T.me_Right_do
      rw [T.eq_Right_do] at z
      exact z
    obtain ⟨p, dx, h, l, r, w, kv, mv, rfl, hr, hp, d, k⟩ := h
    obtain ⟨g, a, j, rfl⟩ := leaf_Right hr
    exact ⟨p, dx, h, l, .right, g, a, j, w, kv, mv, rfl, hp, d, k⟩
  · obtain ⟨fd, G, b, _⟩ := fnk_mShift_do (P := P) (w := w) (base := base) T
    refine ⟨_, fd, _, [], T.cl_Slide, ?_, G.imp fun vs H Q E h => ?_, b, .nil⟩
    · have z := T.me_Slide_do
      rw [T.eq_Slide_do] at z
      exact z
    obtain ⟨p, dx, h, l, r, w, kv, mv, rfl, hr, hp, d, k⟩ := h
    obtain ⟨g, a, j, rfl⟩ := leaf_Slide hr
    exact ⟨p, dx, h, l, .slide, g, a, j, w, kv, mv, rfl, hp, d, k⟩
  · obtain ⟨fd, G, b, _⟩ := fnk_mPair_do (P := P) (w := w) (base := base) T
    refine ⟨_, fd, _, [], T.cl_And, ?_, G.imp fun vs H Q E h => ?_, b, .nil⟩
    · have z := T.me_And_do
      rw [T.eq_And_do] at z
      exact z
    obtain ⟨p, dx, h, l, r, w, kv, mv, rfl, hr, hp, d, k⟩ := h
    obtain ⟨g, a, b, rfl⟩ := leaf_And hr
    exact ⟨p, dx, h, l, .and_, g, a, b, w, kv, mv, rfl, hp, d, k⟩
  · obtain ⟨fd, G, b, _⟩ := fnk_mPair_do (P := P) (w := w) (base := base) T
    refine ⟨_, fd, _, [], T.cl_Or, ?_, G.imp fun vs H Q E h => ?_, b, .nil⟩
    · have z := T.me_Or_do
      rw [T.eq_Or_do] at z
      exact z
    obtain ⟨p, dx, h, l, r, w, kv, mv, rfl, hr, hp, d, k⟩ := h
    obtain ⟨g, a, b, rfl⟩ := leaf_Or hr
    exact ⟨p, dx, h, l, .or_, g, a, b, w, kv, mv, rfl, hp, d, k⟩
  · obtain ⟨fd, G, b, _⟩ := fnk_mPair_do (P := P) (w := w) (base := base) T
    refine ⟨_, fd, _, [], T.cl_Unlike, ?_, G.imp fun vs H Q E h => ?_, b, .nil⟩
    · have z := T.me_Unlike_do
      rw [T.eq_Unlike_do] at z
      exact z
    obtain ⟨p, dx, h, l, r, w, kv, mv, rfl, hr, hp, d, k⟩ := h
    obtain ⟨g, a, b, rfl⟩ := leaf_Unlike hr
    exact ⟨p, dx, h, l, .unlike, g, a, b, w, kv, mv, rfl, hp, d, k⟩
  · obtain ⟨fd, G, b, _⟩ := fnk_mPair_do (P := P) (w := w) (base := base) T
    refine ⟨_, fd, _, [], T.cl_Under, ?_, G.imp fun vs H Q E h => ?_, b, .nil⟩
    · have z := T.me_Under_do
      rw [T.eq_Under_do] at z
      exact z
    obtain ⟨p, dx, h, l, r, w, kv, mv, rfl, hr, hp, d, k⟩ := h
    obtain ⟨g, a, b, rfl⟩ := leaf_Under hr
    exact ⟨p, dx, h, l, .under, g, a, b, w, kv, mv, rfl, hp, d, k⟩
  · obtain ⟨fd, G, b, _⟩ := fnk_mPick_do (P := P) (w := w) (base := base) T
    refine ⟨_, fd, _, [], T.cl_Pick, T.me_Pick_do, G.imp fun vs H Q E h => ?_, b, .nil⟩

    obtain ⟨p, dx, h, l, r, w, kv, mv, rfl, hr, hp, d, k⟩ := h
    obtain ⟨g, y, a, b, rfl⟩ := leaf_Pick hr
    exact ⟨p, dx, h, l, g, y, a, b, w, kv, mv, rfl, hp, d, k⟩
  · obtain ⟨fd, G, b, _⟩ := fnk_mMark_do (P := P) (w := w) (base := base) T
    refine ⟨_, fd, _, [], T.cl_Mark, T.me_Mark_do, G.imp fun vs H Q E h => ?_, b, .nil⟩

    obtain ⟨p, dx, h, l, r, w, kv, mv, rfl, hr, hp, d, k⟩ := h
    obtain ⟨ln, m, y, rfl⟩ := leaf_Mark hr
    exact ⟨p, dx, h, l, ln, m, y, w, kv, mv, rfl, hp, d, k⟩
  · exact absurd rfl hc
/-- the classes that do -/
abbrev ClD : Type := { c : Cl // c ≠ .turns }
section
variable {X : Cx} {o e : Expr} {es : List Expr} {ta : TE} {t : TA} {pos apos : Pos} {k : Nat}
theorem pe_do {pl : Sem Bool} (T : Txt X.K X.mg) (hr : Room k X.A) (hk : 5 ≤ k) (he : PE X o ta) (ha : PA X (e :: es) t)
    (hst : starEach (e :: es) X.env = (false, eval e X.env) :: starEach es X.env := by rfl) (hpl : (backTo pos (starEach es X.env)).any (·.1) = false := by rfl)
    (ht : eval (.Call (.Attribute o "do" apos) (e :: es) [] pos) X.env = (do
      let ov ← eval o X.env
      standAt apos.atName
      let (f, first) ← holding [ov] (getMethod ov "do" pl)
      callWith pos f first (backTo pos (starEach (e :: es) X.env)) (backToKw pos (keywordEach [] X.env))) := by rfl) :
    PE X (.Call (.Attribute o "do" apos) (e :: es) [] pos) (tDyn fun c : ClD => tMeth (c.1.ad X.K) "do" (spDo X.K c.1) [] C8.E0 ta t) := pe_any fun c => pe_mt (met_do T c.1 c.2) hr hk he ha hst hpl ht
end
def spTold (K : PySem.W.Frag) (n : Nat) (c : Cl) : Sp := fun vs H Q _ => ∃ (p : Addr) (d : Nd), vs = [.ref p] ∧ d.cl = c ∧ StepsAt K Any H [.ref p] d.one ∧ d.one.depth < n ∧ d.one.cost ≤ 100000 ∧ (∀ t : Fo, True) ∧ (∃ w, d.one.Good w) ∧
  ∀ H' q, Same H H' → RowsAt (New H) H' [.ref q] d.one → Q (.ref q) H'
theorem vac_mTurns_told (T : Txt K mg) (n : Nat) : ∃ fd, FnOk P w K mg base CX0 n (He.fAd K dmTurns_told.at_) fd ["self"] (fun _ _ _ _ => False) ∧ Binds K fd ["self"] [] ∧ PySem.W.keepIn K (.ref (He.fAd K dmTurns_told.at_)) = true := by
  obtain ⟨fd, F0⟩ := T.c.d.def_ 74 (d := dmTurns_told) rfl
  have F : FunD K "told" "Turns.told" (defArgs smTurns_told) (defBody smTurns_told) (defScope smTurns_told) [] [] (He.fAd K dmTurns_told.at_) fd := F0
  exact ⟨fd, ⟨fun _ _ _ _ h => h.elim, fun _ _ _ _ _ _ _ _ _ _ _ _ _ h => h.elim⟩, F.bindsN (fun _ _ _ _ _ _ us hl => match us, hl with | [_], _ => rfl), F.kp⟩
section
variable {X : Cx} {o e : Expr} {es : List Expr} {ta : TE} {t : TA} {pos apos : Pos} {k : Nat}
theorem pe_told {pl : Sem Bool} {n m : Nat} {L : PySem.W.Frag} (M : ∀ c : Cl, Met X.prog X.w X.K X.mg X.base m (c.ad L) "told" (spTold L n c) []) (hr : Room k X.A) (hk : m ≤ k) (he : PE X o ta)
    (ht : eval (.Call (.Attribute o "told" apos) [] [] pos) X.env = (do
      let ov ← eval o X.env
      standAt apos.atName
      let (f, first) ← holding [ov] (getMethod ov "told" pl)
      callWith pos f first (backTo pos (starEach [] X.env)) (backToKw pos (keywordEach [] X.env))) := by rfl) :
    PE X (.Call (.Attribute o "told" apos) [] [] pos) (tDyn fun c : Cl => tMeth (c.ad L) "told" (spTold L n c) [] C8.E0 ta tNil) := pe_any fun c => pe_mt0 (M c) hr hk he ht
end
theorem sc_mTurns_told : FnScope ["self", "step"] ["self"] (defScope smTurns_told) := ⟨rfl, rfl, rfl, by decide +kernel, rfl, by decide +kernel, by decide +kernel⟩
theorem fnk_mTurns_told (T : Txt K mg) {n m : Nat} (M : ∀ c : Cl, Met P w K mg base (m + 1) (c.ad K) "told" (spTold K n c) []) : ∃ fd, FnOk P w K mg base CX0 ((m+2)) (He.fAd K dmTurns_told.at_) fd ["self"] (spTold K (n + 1) .turns) ∧ Binds K fd ["self"] [] ∧ PySem.W.keepIn K (.ref (He.fAd K dmTurns_told.at_)) = true := by
  obtain ⟨fd, F0⟩ := T.c.d.def_ 74 (d := dmTurns_told) rfl
  have F : FunD K "told" "Turns.told" (defArgs smTurns_told) (defBody smTurns_told) (defScope smTurns_told) [] [] (He.fAd K dmTurns_told.at_) fd := F0
  have G : FnOk P w K mg base CX0 (m+2) (He.fAd K dmTurns_told.at_) fd ["self"] (spTold K (n + 1) .turns) := by
    refine F.ok (CX := CX0) sc_mTurns_told (fun vs H Q E h => ?_) (fun cdv A outer s H vs Q E hr h => ⟨_, PSs.nox (by exact (pss_one (ps_ret (pe_tup (pa_cons pe_str (pa_cons (pe_fld (pv 0) rfl) (pa_cons (pe_lc (own := [("step", 1)]) (g := gName 1) (tt := tYes) rfl sc_mTurns_told.nd (pi_list (pe_fld (pv 0) rfl)) (blkOk_by (N := ["self", "step"]) (sc := defScope smTurns_told) (by decide +kernel)) (fun _ _ _ _ _ => pg_name (i := 1) sc_mTurns_told.nd rfl (Or.inl rfl)) (fun _ _ _ _ _ => pts_nil) (fun _ _ _ _ _ => (by exact (pe_told M hr (by omega) (pv 1))))) pa_nil))))))), ?_⟩)
    · first
      | (obtain ⟨e, _⟩ := h; subst e; rfl)
      | (obtain ⟨_, e, _⟩ := h; subst e; rfl)
      | (obtain ⟨_, _, e, _⟩ := h; subst e; rfl)
      | (obtain ⟨_, _, _, e, _⟩ := h; subst e; rfl)
      | (obtain ⟨_, _, _, _, e, _⟩ := h; subst e; rfl)
      | (obtain ⟨_, _, _, _, _, e, _⟩ := h; subst e; rfl)
      | (obtain ⟨_, _, _, _, _, _, e, _⟩ := h; subst e; rfl)
      | (obtain ⟨_, _, _, _, _, _, _, e, _⟩ := h; subst e; rfl)
      | (obtain ⟨_, _, _, _, _, _, _, _, e, _⟩ := h; subst e; rfl)
      | (obtain ⟨_, _, _, _, _, _, _, _, _, e, _⟩ := h; subst e; rfl)
      | (obtain ⟨_, _, _, _, _, _, _, _, _, _, e, _⟩ := h; subst e; rfl)
      | (obtain ⟨_, _, _, _, _, _, _, _, _, _, _, e, _⟩ := h; subst e; rfl)
      | (obtain ⟨_, _, _, _, _, _, _, _, _, _, _, _, e, _⟩ := h; subst e; rfl)
      | (obtain ⟨_, _, _, _, _, _, _, _, _, _, _, _, _, e, _⟩ := h; subst e; rfl)
    · skip
      obtain ⟨p, d, rfl, hd, hs, hdep, hcost, _, ⟨w, gd⟩, k⟩ := h
      obtain ⟨nn, b, rfl⟩ := nd_turns hd
      obtain ⟨⟨p', dx, l, xs, e, hp, _, hl, hb⟩, _⟩ := hs
      cases e
      have hbd : b.depth < n := by
        have : max (b.depth + 1) 0 < n + 1 := hdep
        omega
      have hbc : b.cost ≤ 100000 := by
        have h1 : nn * (1 + b.cost) + 0 ≤ 100000 := hcost
        have h2 : 1 * (1 + b.cost) ≤ nn * (1 + b.cost) := Nat.mul_le_mul_right _ gd.1.1
        omega
      have hlen : xs.length ≤ 100000 := Nat.le_trans (by rw [hb.len]; exact len_cost b gd.2.1) hbc
      refine ⟨_, rfl, _, _, _, _, _, rfl, hp, T.cls _, T.na_Turns_times, rfl, _, rfl, _, _, _, _, _, rfl, hp, T.cls _, T.na_Turns_steps, rfl, l, rfl, ⟨xs, SqL.of hl⟩, fun D hD => ?_⟩
      -- the invariant: what is told so far stands beside D
      refine lc_list (K := K) (a := l) (xs := xs) (fun i H' => Same H H' ∧ ∃ ys F G, H' D = some (.lst ys) ∧ F.app G = b ∧ StepsAt K Any H (xs.drop i) G ∧ RowsAt (fun a => H a = none ∧ a ≠ D) H' ys F) ?_ ?_ ?_ ?_
      · exact ⟨same_new hD, [], .nil, b, upd_same, rfl, hb, trivial⟩
      · rintro i H' _ ⟨s1, _⟩
        exact SqL.of (s1 _ _ hl)
      · rintro i x H1 hi ⟨s1, ys, F, G, hy, hFG, hG, hR⟩
        have hlt := (List.getElem?_eq_some_iff.mp hi).1
        have hdrop : xs.drop i = x :: xs.drop (i + 1) := by
          rw [List.drop_eq_getElem_cons hlt]
          congr 1
          exact (List.getElem?_eq_some_iff.mp hi).2
        rw [hdrop] at hG
        obtain ⟨d, t, rfl, hd1, ht⟩ := hG.cons
        obtain ⟨p1, dx1, fs1, rfl, hp1, hno⟩ := hd1.ins
        have gd1 : d.one.Good w := by
          have z := gd.2.1
          rw [← hFG, app_good] at z
          exact (fo_good z.2).1
        have dd1 : d.one.depth < n := by
          rw [← hFG, app_depth, fo_depth] at hbd
          omega
        have dc1 : d.one.cost ≤ 100000 := by
          rw [← hFG, app_cost, fo_cost] at hbc
          omega
        have yl : ys.length ≤ 100000 := by
          rw [hR.len]
          have z := len_cost b gd.2.1
          rw [← hFG, app_len] at z
          rw [← hFG] at hbc
          omega
        walk_at "rd"
        refine ⟨d.cl, _, rfl, p1, dx1, fs1, rfl, s1 _ _ hp1, hno.2.1, p1, d, rfl, rfl, hd1.same s1, dd1, dc1, fun _ => trivial, ⟨w, gd1⟩, fun H2 q s2 hq => ?_⟩
        refine ⟨ys, s2 _ _ hy, Nat.lt_of_le_of_lt yl (by decide), same_mut (s1.trans s2) hD, ys ++ [.ref q], F.app d.one, t, upd_same, ?_, ht, ?_⟩
        · rw [app_assoc, one_app]
          exact hFG
        · refine RowsAt.app (hq.mono (fun a ha => ⟨s1.free ha, fun z => ?_⟩) (kp_mut (Same.refl _) (s2 _ _ hy) fun a ha z => ?_)) (hR.mono (fun _ z => z) (kp_mut s2 hy fun a ha => ha.2))
          · rw [z] at ha
            rw [show H1 D = none from ha] at hy
            cases hy
          · rw [z] at ha
            rw [show H1 D = none from ha] at hy
            cases hy
      · rintro H1 ⟨s1, ys, F, G, hy, hFG, hG, hR⟩
        rw [List.drop_length] at hG
        have eG : G = .nil := len_nil hG.len.symm
        subst eG
        rw [app_nil] at hFG
        subst hFG
        walk_at "rd"
        intro q hq
        have s2 := same_new (o := .tup [.str "turns", .int nn, .ref D]) hq
        refine k _ q (s1.trans s2) ⟨⟨q, D, ys, rfl, upd_same, hD, s2 _ _ hy, hR.mono (fun _ z => z.1) (Kp.same s2)⟩, trivial⟩
  exact ⟨fd, G, F.bindsN (fun _ _ _ _ _ _ us hl => match us, hl with | [_], _ => rfl), F.kp⟩

theorem met_told (T : Txt K mg) (n : Nat) : ∀ c : Cl, Met P w K mg base (n + 2) (c.ad K) "told" (spTold K n c) [] := by
  induction n with
  | zero =>
    intro c
    cases c
    · obtain ⟨fd, G, b, _⟩ := fnk_mSet_told (P := P) (w := w) (base := base) T
      refine ⟨_, fd, _, [], T.cl_Set, T.me_Set_told, (G.mono (by omega)).imp fun vs H Q E h => ?_, b, .nil⟩
      obtain ⟨p, d, rfl, hd, hs, _, _, _, _, k⟩ := h
      obtain ⟨r, rfl, hr⟩ := nd_leaf hd (by intro z; cases z)
      obtain ⟨g, b, rfl⟩ := leaf_Set hr
      obtain ⟨⟨p', dx, e, hp⟩, _⟩ := hs
      cases e
      exact ⟨p, dx, g, b, rfl, hp, fun q hq => k _ q (same_new hq) ⟨⟨q, rfl, upd_same⟩, trivial⟩⟩
    · obtain ⟨fd, G, b, _⟩ := fnk_mCopy_told (P := P) (w := w) (base := base) T
      refine ⟨_, fd, _, [], T.cl_Copy, T.me_Copy_told, (G.mono (by omega)).imp fun vs H Q E h => ?_, b, .nil⟩
      obtain ⟨p, d, rfl, hd, hs, _, _, _, _, k⟩ := h
      obtain ⟨r, rfl, hr⟩ := nd_leaf hd (by intro z; cases z)
      obtain ⟨g, a, rfl⟩ := leaf_Copy hr
      obtain ⟨⟨p', dx, e, hp⟩, _⟩ := hs
      cases e
      exact ⟨p, dx, g, a, rfl, hp, fun q hq => k _ q (same_new hq) ⟨⟨q, rfl, upd_same⟩, trivial⟩⟩
    · obtain ⟨fd, G, b, _⟩ := fnk_mCarrying_told (P := P) (w := w) (base := base) T
      refine ⟨_, fd, _, [], T.cl_Sum, ?_, (G.mono (by omega)).imp fun vs H Q E h => ?_, b, .nil⟩
      · have z := T.me_Sum_told
        rw [T.eq_Sum_told] at z
        exact z
      obtain ⟨p, d, rfl, hd, hs, _, _, _, _, k⟩ := h
      obtain ⟨r, rfl, hr⟩ := nd_leaf hd (by intro z; cases z)
      obtain ⟨g, y, a, b, rfl⟩ := leaf_Sum hr
      obtain ⟨⟨p', dx, e, hp⟩, _⟩ := hs
      cases e
      exact ⟨p, dx, .sum, g, y, a, b, rfl, hp, fun q hq => k _ q (same_new hq) ⟨⟨q, rfl, upd_same⟩, trivial⟩⟩
    · obtain ⟨fd, G, b, _⟩ := fnk_mCarrying_told (P := P) (w := w) (base := base) T
      refine ⟨_, fd, _, [], T.cl_Gap, ?_, (G.mono (by omega)).imp fun vs H Q E h => ?_, b, .nil⟩
      · have z := T.me_Gap_told
        rw [T.eq_Gap_told] at z
        exact z
      obtain ⟨p, d, rfl, hd, hs, _, _, _, _, k⟩ := h
      obtain ⟨r, rfl, hr⟩ := nd_leaf hd (by intro z; cases z)
      obtain ⟨g, y, a, b, rfl⟩ := leaf_Gap hr
      obtain ⟨⟨p', dx, e, hp⟩, _⟩ := hs
      cases e
      exact ⟨p, dx, .gap, g, y, a, b, rfl, hp, fun q hq => k _ q (same_new hq) ⟨⟨q, rfl, upd_same⟩, trivial⟩⟩
    · obtain ⟨fd, G, b, _⟩ := fnk_mPair_told (P := P) (w := w) (base := base) T
      refine ⟨_, fd, _, [], T.cl_Low, ?_, (G.mono (by omega)).imp fun vs H Q E h => ?_, b, .nil⟩
      · have z := T.me_Low_told
        rw [T.eq_Low_told] at z
        exact z
      obtain ⟨p, d, rfl, hd, hs, _, _, _, _, k⟩ := h
      obtain ⟨r, rfl, hr⟩ := nd_leaf hd (by intro z; cases z)
      obtain ⟨g, a, b, rfl⟩ := leaf_Low hr
      obtain ⟨⟨p', dx, e, hp⟩, _⟩ := hs
      cases e
      exact ⟨p, dx, .low, g, a, b, rfl, hp, fun q hq => k _ q (same_new hq) ⟨⟨q, rfl, upd_same⟩, trivial⟩⟩
    · obtain ⟨fd, G, b, _⟩ := fnk_mPair_told (P := P) (w := w) (base := base) T
      refine ⟨_, fd, _, [], T.cl_High, ?_, (G.mono (by omega)).imp fun vs H Q E h => ?_, b, .nil⟩
      · have z := T.me_High_told
        rw [T.eq_High_told] at z
        exact z
      obtain ⟨p, d, rfl, hd, hs, _, _, _, _, k⟩ := h
      obtain ⟨r, rfl, hr⟩ := nd_leaf hd (by intro z; cases z)
      obtain ⟨g, a, b, rfl⟩ := leaf_High hr
      obtain ⟨⟨p', dx, e, hp⟩, _⟩ := hs
      cases e
      exact ⟨p, dx, .high, g, a, b, rfl, hp, fun q hq => k _ q (same_new hq) ⟨⟨q, rfl, upd_same⟩, trivial⟩⟩
    · obtain ⟨fd, G, b, _⟩ := fnk_mShift_told (P := P) (w := w) (base := base) T
      refine ⟨_, fd, _, [], T.cl_Left, ?_, (G.mono (by omega)).imp fun vs H Q E h => ?_, b, .nil⟩
      · have z := T.me_Left_told
        rw [T.eq_Left_told] at z
        exact z
      obtain ⟨p, d, rfl, hd, hs, _, _, _, _, k⟩ := h
      obtain ⟨r, rfl, hr⟩ := nd_leaf hd (by intro z; cases z)
      obtain ⟨g, a, j, rfl⟩ := leaf_Left hr
      obtain ⟨⟨p', dx, e, hp⟩, _⟩ := hs
      cases e
      exact ⟨p, dx, .left, g, a, j, rfl, hp, fun q hq => k _ q (same_new hq) ⟨⟨q, rfl, upd_same⟩, trivial⟩⟩
    · obtain ⟨fd, G, b, _⟩ := fnk_mShift_told (P := P) (w := w) (base := base) T
      refine ⟨_, fd, _, [], T.cl_Right, ?_, (G.mono (by omega)).imp fun vs H Q E h => ?_, b, .nil⟩
      · have z := T.me_Right_told
        rw [T.eq_Right_told] at z
        exact z
      obtain ⟨p, d, rfl, hd, hs, _, _, _, _, k⟩ := h
      obtain ⟨r, rfl, hr⟩ := nd_leaf hd (by intro z; cases z)
      obtain ⟨g, a, j, rfl⟩ := leaf_Right hr
      obtain ⟨⟨p', dx, e, hp⟩, _⟩ := hs
      cases e
      exact ⟨p, dx, .right, g, a, j, rfl, hp, fun q hq => k _ q (same_new hq) ⟨⟨q, rfl, upd_same⟩, trivial⟩⟩
    · obtain ⟨fd, G, b, _⟩ := fnk_mShift_told (P := P) (w := w) (base := base) T
      refine ⟨_, fd, _, [], T.cl_Slide, ?_, (G.mono (by omega)).imp fun vs H Q E h => ?_, b, .nil⟩
      · have z := T.me_Slide_told
        rw [T.eq_Slide_told] at z
        exact z
      obtain ⟨p, d, rfl, hd, hs, _, _, _, _, k⟩ := h
      obtain ⟨r, rfl, hr⟩ := nd_leaf hd (by intro z; cases z)
      obtain ⟨g, a, j, rfl⟩ := leaf_Slide hr
      obtain ⟨⟨p', dx, e, hp⟩, _⟩ := hs
      cases e
      exact ⟨p, dx, .slide, g, a, j, rfl, hp, fun q hq => k _ q (same_new hq) ⟨⟨q, rfl, upd_same⟩, trivial⟩⟩
    · obtain ⟨fd, G, b, _⟩ := fnk_mPair_told (P := P) (w := w) (base := base) T
      refine ⟨_, fd, _, [], T.cl_And, ?_, (G.mono (by omega)).imp fun vs H Q E h => ?_, b, .nil⟩
      · have z := T.me_And_told
        rw [T.eq_And_told] at z
        exact z
      obtain ⟨p, d, rfl, hd, hs, _, _, _, _, k⟩ := h
      obtain ⟨r, rfl, hr⟩ := nd_leaf hd (by intro z; cases z)
      obtain ⟨g, a, b, rfl⟩ := leaf_And hr
      obtain ⟨⟨p', dx, e, hp⟩, _⟩ := hs
      cases e
      exact ⟨p, dx, .and_, g, a, b, rfl, hp, fun q hq => k _ q (same_new hq) ⟨⟨q, rfl, upd_same⟩, trivial⟩⟩
    · obtain ⟨fd, G, b, _⟩ := fnk_mPair_told (P := P) (w := w) (base := base) T
      refine ⟨_, fd, _, [], T.cl_Or, ?_, (G.mono (by omega)).imp fun vs H Q E h => ?_, b, .nil⟩
      · have z := T.me_Or_told
        rw [T.eq_Or_told] at z
        exact z
      obtain ⟨p, d, rfl, hd, hs, _, _, _, _, k⟩ := h
      obtain ⟨r, rfl, hr⟩ := nd_leaf hd (by intro z; cases z)
      obtain ⟨g, a, b, rfl⟩ := leaf_Or hr
      obtain ⟨⟨p', dx, e, hp⟩, _⟩ := hs
      cases e
      exact ⟨p, dx, .or_, g, a, b, rfl, hp, fun q hq => k _ q (same_new hq) ⟨⟨q, rfl, upd_same⟩, trivial⟩⟩
    · obtain ⟨fd, G, b, _⟩ := fnk_mPair_told (P := P) (w := w) (base := base) T
      refine ⟨_, fd, _, [], T.cl_Unlike, ?_, (G.mono (by omega)).imp fun vs H Q E h => ?_, b, .nil⟩
      · have z := T.me_Unlike_told
        rw [T.eq_Unlike_told] at z
        exact z
      obtain ⟨p, d, rfl, hd, hs, _, _, _, _, k⟩ := h
      obtain ⟨r, rfl, hr⟩ := nd_leaf hd (by intro z; cases z)
      obtain ⟨g, a, b, rfl⟩ := leaf_Unlike hr
      obtain ⟨⟨p', dx, e, hp⟩, _⟩ := hs
      cases e
      exact ⟨p, dx, .unlike, g, a, b, rfl, hp, fun q hq => k _ q (same_new hq) ⟨⟨q, rfl, upd_same⟩, trivial⟩⟩
    · obtain ⟨fd, G, b, _⟩ := fnk_mPair_told (P := P) (w := w) (base := base) T
      refine ⟨_, fd, _, [], T.cl_Under, ?_, (G.mono (by omega)).imp fun vs H Q E h => ?_, b, .nil⟩
      · have z := T.me_Under_told
        rw [T.eq_Under_told] at z
        exact z
      obtain ⟨p, d, rfl, hd, hs, _, _, _, _, k⟩ := h
      obtain ⟨r, rfl, hr⟩ := nd_leaf hd (by intro z; cases z)
      obtain ⟨g, a, b, rfl⟩ := leaf_Under hr
      obtain ⟨⟨p', dx, e, hp⟩, _⟩ := hs
      cases e
      exact ⟨p, dx, .under, g, a, b, rfl, hp, fun q hq => k _ q (same_new hq) ⟨⟨q, rfl, upd_same⟩, trivial⟩⟩
    · obtain ⟨fd, G, b, _⟩ := fnk_mPick_told (P := P) (w := w) (base := base) T
      refine ⟨_, fd, _, [], T.cl_Pick, T.me_Pick_told, (G.mono (by omega)).imp fun vs H Q E h => ?_, b, .nil⟩
      obtain ⟨p, d, rfl, hd, hs, _, _, _, _, k⟩ := h
      obtain ⟨r, rfl, hr⟩ := nd_leaf hd (by intro z; cases z)
      obtain ⟨g, y, a, b, rfl⟩ := leaf_Pick hr
      obtain ⟨⟨p', dx, e, hp⟩, _⟩ := hs
      cases e
      exact ⟨p, dx, g, y, a, b, rfl, hp, fun q hq => k _ q (same_new hq) ⟨⟨q, rfl, upd_same⟩, trivial⟩⟩
    · obtain ⟨fd, G, b, _⟩ := fnk_mMark_told (P := P) (w := w) (base := base) T
      refine ⟨_, fd, _, [], T.cl_Mark, T.me_Mark_told, (G.mono (by omega)).imp fun vs H Q E h => ?_, b, .nil⟩
      obtain ⟨p, d, rfl, hd, hs, _, _, _, _, k⟩ := h
      obtain ⟨r, rfl, hr⟩ := nd_leaf hd (by intro z; cases z)
      obtain ⟨ln, m, y, rfl⟩ := leaf_Mark hr
      obtain ⟨⟨p', dx, e, hp⟩, _⟩ := hs
      cases e
      exact ⟨p, dx, ln, m, y, rfl, hp, fun q hq => k _ q (same_new hq) ⟨⟨q, rfl, upd_same⟩, trivial⟩⟩
    · obtain ⟨fd, G, b, _⟩ := vac_mTurns_told (P := P) (w := w) (base := base) T 2
      refine ⟨_, fd, _, [], T.cl_Turns, T.me_Turns_told, G.imp fun vs H Q E h => ?_, b, .nil⟩
      obtain ⟨p, d, rfl, hd, hs, hdep, _⟩ := h
      exact absurd hdep (Nat.not_lt_zero _)
  | succ n ih =>
    intro c
    cases c
    · obtain ⟨fd, G, b, _⟩ := fnk_mSet_told (P := P) (w := w) (base := base) T
      refine ⟨_, fd, _, [], T.cl_Set, T.me_Set_told, (G.mono (by omega)).imp fun vs H Q E h => ?_, b, .nil⟩
      obtain ⟨p, d, rfl, hd, hs, _, _, _, _, k⟩ := h
      obtain ⟨r, rfl, hr⟩ := nd_leaf hd (by intro z; cases z)
      obtain ⟨g, b, rfl⟩ := leaf_Set hr
      obtain ⟨⟨p', dx, e, hp⟩, _⟩ := hs
      cases e
      exact ⟨p, dx, g, b, rfl, hp, fun q hq => k _ q (same_new hq) ⟨⟨q, rfl, upd_same⟩, trivial⟩⟩
    · obtain ⟨fd, G, b, _⟩ := fnk_mCopy_told (P := P) (w := w) (base := base) T
      refine ⟨_, fd, _, [], T.cl_Copy, T.me_Copy_told, (G.mono (by omega)).imp fun vs H Q E h => ?_, b, .nil⟩
      obtain ⟨p, d, rfl, hd, hs, _, _, _, _, k⟩ := h
      obtain ⟨r, rfl, hr⟩ := nd_leaf hd (by intro z; cases z)
      obtain ⟨g, a, rfl⟩ := leaf_Copy hr
      obtain ⟨⟨p', dx, e, hp⟩, _⟩ := hs
      cases e
      exact ⟨p, dx, g, a, rfl, hp, fun q hq => k _ q (same_new hq) ⟨⟨q, rfl, upd_same⟩, trivial⟩⟩
    · obtain ⟨fd, G, b, _⟩ := fnk_mCarrying_told (P := P) (w := w) (base := base) T
      refine ⟨_, fd, _, [], T.cl_Sum, ?_, (G.mono (by omega)).imp fun vs H Q E h => ?_, b, .nil⟩
      · have z := T.me_Sum_told
        rw [T.eq_Sum_told] at z
        exact z
      obtain ⟨p, d, rfl, hd, hs, _, _, _, _, k⟩ := h
      obtain ⟨r, rfl, hr⟩ := nd_leaf hd (by intro z; cases z)
      obtain ⟨g, y, a, b, rfl⟩ := leaf_Sum hr
      obtain ⟨⟨p', dx, e, hp⟩, _⟩ := hs
      cases e
      exact ⟨p, dx, .sum, g, y, a, b, rfl, hp, fun q hq => k _ q (same_new hq) ⟨⟨q, rfl, upd_same⟩, trivial⟩⟩
    · obtain ⟨fd, G, b, _⟩ := fnk_mCarrying_told (P := P) (w := w) (base := base) T
      refine ⟨_, fd, _, [], T.cl_Gap, ?_, (G.mono (by omega)).imp fun vs H Q E h => ?_, b, .nil⟩
      · have z := T.me_Gap_told
        rw [T.eq_Gap_told] at z
        exact z
      obtain ⟨p, d, rfl, hd, hs, _, _, _, _, k⟩ := h
      obtain ⟨r, rfl, hr⟩ := nd_leaf hd (by intro z; cases z)
      obtain ⟨g, y, a, b, rfl⟩ := leaf_Gap hr
      obtain ⟨⟨p', dx, e, hp⟩, _⟩ := hs
      cases e
      exact ⟨p, dx, .gap, g, y, a, b, rfl, hp, fun q hq => k _ q (same_new hq) ⟨⟨q, rfl, upd_same⟩, trivial⟩⟩
    · obtain ⟨fd, G, b, _⟩ := fnk_mPair_told (P := P) (w := w) (base := base) T
      refine ⟨_, fd, _, [], T.cl_Low, ?_, (G.mono (by omega)).imp fun vs H Q E h => ?_, b, .nil⟩
      · have z := T.me_Low_told
        rw [T.eq_Low_told] at z
        exact z
      obtain ⟨p, d, rfl, hd, hs, _, _, _, _, k⟩ := h
      obtain ⟨r, rfl, hr⟩ := nd_leaf hd (by intro z; cases z)
      obtain ⟨g, a, b, rfl⟩ := leaf_Low hr
      obtain ⟨⟨p', dx, e, hp⟩, _⟩ := hs
      cases e
      exact ⟨p, dx, .low, g, a, b, rfl, hp, fun q hq => k _ q (same_new hq) ⟨⟨q, rfl, upd_same⟩, trivial⟩⟩
    · obtain ⟨fd, G, b, _⟩ := fnk_mPair_told (P := P) (w := w) (base := base) T
      refine ⟨_, fd, _, [], T.cl_High, ?_, (G.mono (by omega)).imp fun vs H Q E h => ?_, b, .nil⟩
      · have z := T.me_High_told
        rw [T.eq_High_told] at z
        exact z
      obtain ⟨p, d, rfl, hd, hs, _, _, _, _, k⟩ := h
      obtain ⟨r, rfl, hr⟩ := nd_leaf hd (by intro z; cases z)
      obtain ⟨g, a, b, rfl⟩ := leaf_High hr
      obtain ⟨⟨p', dx, e, hp⟩, _⟩ := hs
      cases e
      exact ⟨p, dx, .high, g, a, b, rfl, hp, fun q hq => k _ q (same_new hq) ⟨⟨q, rfl, upd_same⟩, trivial⟩⟩
    · obtain ⟨fd, G, b, _⟩ := fnk_mShift_told (P := P) (w := w) (base := base) T
      refine ⟨_, fd, _, [], T.cl_Left, ?_, (G.mono (by omega)).imp fun vs H Q E h => ?_, b, .nil⟩
      · have z := T.me_Left_told
        rw [T.eq_Left_told] at z
        exact z
      obtain ⟨p, d, rfl, hd, hs, _, _, _, _, k⟩ := h
      obtain ⟨r, rfl, hr⟩ := nd_leaf hd (by intro z; cases z)
      obtain ⟨g, a, j, rfl⟩ := leaf_Left hr
      obtain ⟨⟨p', dx, e, hp⟩, _⟩ := hs
      cases e
      exact ⟨p, dx, .left, g, a, j, rfl, hp, fun q hq => k _ q (same_new hq) ⟨⟨q, rfl, upd_same⟩, trivial⟩⟩
    · obtain ⟨fd, G, b, _⟩ := fnk_mShift_told (P := P) (w := w) (base := base) T
      refine ⟨_, fd, _, [], T.cl_Right, ?_, (G.mono (by omega)).imp fun vs H Q E h => ?_, b, .nil⟩
      · have z := T.me_Right_told
        rw [T.eq_Right_told] at z
        exact z
      obtain ⟨p, d, rfl, hd, hs, _, _, _, _, k⟩ := h
      obtain ⟨r, rfl, hr⟩ := nd_leaf hd (by intro z; cases z)
      obtain ⟨g, a, j, rfl⟩ := leaf_Right hr
      obtain ⟨⟨p', dx, e, hp⟩, _⟩ := hs
      cases e
      exact ⟨p, dx, .right, g, a, j, rfl, hp, fun q hq => k _ q (same_new hq) ⟨⟨q, rfl, upd_same⟩, trivial⟩⟩
    · obtain ⟨fd, G, b, _⟩ := fnk_mShift_told (P := P) (w := w) (base := base) T
      refine ⟨_, fd, _, [], T.cl_Slide, ?_, (G.mono (by omega)).imp fun vs H Q E h => ?_, b, .nil⟩
      · have z := T.me_Slide_told
        rw [T.eq_Slide_told] at z
        exact z
      obtain ⟨p, d, rfl, hd, hs, _, _, _, _, k⟩ := h
      obtain ⟨r, rfl, hr⟩ := nd_leaf hd (by intro z; cases z)
      obtain ⟨g, a, j, rfl⟩ := leaf_Slide hr
      obtain ⟨⟨p', dx, e, hp⟩, _⟩ := hs
      cases e
      exact ⟨p, dx, .slide, g, a, j, rfl, hp, fun q hq => k _ q (same_new hq) ⟨⟨q, rfl, upd_same⟩, trivial⟩⟩
    · obtain ⟨fd, G, b, _⟩ := fnk_mPair_told (P := P) (w := w) (base := base) T
      refine ⟨_, fd, _, [], T.cl_And, ?_, (G.mono (by omega)).imp fun vs H Q E h => ?_, b, .nil⟩
      · have z := T.me_And_told
        rw [T.eq_And_told] at z
        exact z
      obtain ⟨p, d, rfl, hd, hs, _, _, _, _, k⟩ := h
      obtain ⟨r, rfl, hr⟩ := nd_leaf hd (by intro z; cases z)
      obtain ⟨g, a, b, rfl⟩ := leaf_And hr
      obtain ⟨⟨p', dx, e, hp⟩, _⟩ := hs
      cases e
      exact ⟨p, dx, .and_, g, a, b, rfl, hp, fun q hq => k _ q (same_new hq) ⟨⟨q, rfl, upd_same⟩, trivial⟩⟩
    · obtain ⟨fd, G, b, _⟩ := fnk_mPair_told (P := P) (w := w) (base := base) T
      refine ⟨_, fd, _, [], T.cl_Or, ?_, (G.mono (by omega)).imp fun vs H Q E h => ?_, b, .nil⟩
      · have z := T.me_Or_told
        rw [T.eq_Or_told] at z
        exact z
      obtain ⟨p, d, rfl, hd, hs, _, _, _, _, k⟩ := h
      obtain ⟨r, rfl, hr⟩ := nd_leaf hd (by intro z; cases z)
      obtain ⟨g, a, b, rfl⟩ := leaf_Or hr
      obtain ⟨⟨p', dx, e, hp⟩, _⟩ := hs
      cases e
      exact ⟨p, dx, .or_, g, a, b, rfl, hp, fun q hq => k _ q (same_new hq) ⟨⟨q, rfl, upd_same⟩, trivial⟩⟩
    · obtain ⟨fd, G, b, _⟩ := fnk_mPair_told (P := P) (w := w) (base := base) T
      refine ⟨_, fd, _, [], T.cl_Unlike, ?_, (G.mono (by omega)).imp fun vs H Q E h => ?_, b, .nil⟩
      · have z := T.me_Unlike_told
        rw [T.eq_Unlike_told] at z
        exact z
      obtain ⟨p, d, rfl, hd, hs, _, _, _, _, k⟩ := h
      obtain ⟨r, rfl, hr⟩ := nd_leaf hd (by intro z; cases z)
      obtain ⟨g, a, b, rfl⟩ := leaf_Unlike hr
      obtain ⟨⟨p', dx, e, hp⟩, _⟩ := hs
      cases e
      exact ⟨p, dx, .unlike, g, a, b, rfl, hp, fun q hq => k _ q (same_new hq) ⟨⟨q, rfl, upd_same⟩, trivial⟩⟩
    · obtain ⟨fd, G, b, _⟩ := fnk_mPair_told (P := P) (w := w) (base := base) T
      refine ⟨_, fd, _, [], T.cl_Under, ?_, (G.mono (by omega)).imp fun vs H Q E h => ?_, b, .nil⟩
      · have z := T.me_Under_told
        rw [T.eq_Under_told] at z
        exact z
      obtain ⟨p, d, rfl, hd, hs, _, _, _, _, k⟩ := h
      obtain ⟨r, rfl, hr⟩ := nd_leaf hd (by intro z; cases z)
      obtain ⟨g, a, b, rfl⟩ := leaf_Under hr
      obtain ⟨⟨p', dx, e, hp⟩, _⟩ := hs
      cases e
      exact ⟨p, dx, .under, g, a, b, rfl, hp, fun q hq => k _ q (same_new hq) ⟨⟨q, rfl, upd_same⟩, trivial⟩⟩
    · obtain ⟨fd, G, b, _⟩ := fnk_mPick_told (P := P) (w := w) (base := base) T
      refine ⟨_, fd, _, [], T.cl_Pick, T.me_Pick_told, (G.mono (by omega)).imp fun vs H Q E h => ?_, b, .nil⟩
      obtain ⟨p, d, rfl, hd, hs, _, _, _, _, k⟩ := h
      obtain ⟨r, rfl, hr⟩ := nd_leaf hd (by intro z; cases z)
      obtain ⟨g, y, a, b, rfl⟩ := leaf_Pick hr
      obtain ⟨⟨p', dx, e, hp⟩, _⟩ := hs
      cases e
      exact ⟨p, dx, g, y, a, b, rfl, hp, fun q hq => k _ q (same_new hq) ⟨⟨q, rfl, upd_same⟩, trivial⟩⟩
    · obtain ⟨fd, G, b, _⟩ := fnk_mMark_told (P := P) (w := w) (base := base) T
      refine ⟨_, fd, _, [], T.cl_Mark, T.me_Mark_told, (G.mono (by omega)).imp fun vs H Q E h => ?_, b, .nil⟩
      obtain ⟨p, d, rfl, hd, hs, _, _, _, _, k⟩ := h
      obtain ⟨r, rfl, hr⟩ := nd_leaf hd (by intro z; cases z)
      obtain ⟨ln, m, y, rfl⟩ := leaf_Mark hr
      obtain ⟨⟨p', dx, e, hp⟩, _⟩ := hs
      cases e
      exact ⟨p, dx, ln, m, y, rfl, hp, fun q hq => k _ q (same_new hq) ⟨⟨q, rfl, upd_same⟩, trivial⟩⟩
    · obtain ⟨fd, G, b, _⟩ := fnk_mTurns_told (P := P) (w := w) (base := base) (m := n + 1) T ih
      exact ⟨_, fd, _, [], T.cl_Turns, T.me_Turns_told, G, b, .nil⟩
def spInit (K : PySem.W.Frag) (c : Cl) : Sp := fun vs H Q _ => ∃ (p dx : Addr) (r : Leaf), vs = .ref p :: r.args ∧ r.cl = c ∧ H p = some (.ins (c.ad K) dx []) ∧ Q .non (upd H p (.ins (c.ad K) dx r.flds))
theorem mak_Set (T : Txt K mg) : Mak P w K mg base 1 "Set" (Cl.ad K .set) (spInit K .set) [] := by
  obtain ⟨fd, G, b, _⟩ := fnk_mSet_init (P := P) (w := w) (base := base) T
  refine ⟨_, fd, _, [], T.mk_Set, G.imp fun vs H Q E h => ?_, T.g_Set, b, .nil⟩

  obtain ⟨p, dx, r, e, hr, hp, k⟩ := h
  obtain ⟨g, b, rfl⟩ := leaf_Set hr
  exact ⟨p, dx, g, b, e, hp, k⟩
theorem mak_Copy (T : Txt K mg) : Mak P w K mg base 1 "Copy" (Cl.ad K .copy) (spInit K .copy) [] := by
  obtain ⟨fd, G, b, _⟩ := fnk_mCopy_init (P := P) (w := w) (base := base) T
  refine ⟨_, fd, _, [], T.mk_Copy, G.imp fun vs H Q E h => ?_, T.g_Copy, b, .nil⟩

  obtain ⟨p, dx, r, e, hr, hp, k⟩ := h
  obtain ⟨g, a, rfl⟩ := leaf_Copy hr
  exact ⟨p, dx, g, a, e, hp, k⟩
theorem mak_Sum (T : Txt K mg) : Mak P w K mg base 1 "Sum" (Cl.ad K .sum) (spInit K .sum) [] := by
  obtain ⟨fd, G, b, _⟩ := fnk_mCarrying_init (P := P) (w := w) (base := base) T
  refine ⟨_, fd, _, [], ?_, G.imp fun vs H Q E h => ?_, T.g_Sum, b, .nil⟩
  · have z := T.mk_Sum
    rw [T.eq_Sum___init__] at z
    exact z
  obtain ⟨p, dx, r, e, hr, hp, k⟩ := h
  obtain ⟨g, y, a, b, rfl⟩ := leaf_Sum hr
  exact ⟨p, dx, .sum, g, y, a, b, e, hp, k⟩
theorem mak_Gap (T : Txt K mg) : Mak P w K mg base 1 "Gap" (Cl.ad K .gap) (spInit K .gap) [] := by
  obtain ⟨fd, G, b, _⟩ := fnk_mCarrying_init (P := P) (w := w) (base := base) T
  refine ⟨_, fd, _, [], ?_, G.imp fun vs H Q E h => ?_, T.g_Gap, b, .nil⟩
  · have z := T.mk_Gap
    rw [T.eq_Gap___init__] at z
    exact z
  obtain ⟨p, dx, r, e, hr, hp, k⟩ := h
  obtain ⟨g, y, a, b, rfl⟩ := leaf_Gap hr
  exact ⟨p, dx, .gap, g, y, a, b, e, hp, k⟩
theorem mak_Low (T : Txt K mg) : Mak P w K mg base 1 "Low" (Cl.ad K .low) (spInit K .low) [] := by
  obtain ⟨fd, G, b, _⟩ := fnk_mPair_init (P := P) (w := w) (base := base) T
  refine ⟨_, fd, _, [], ?_, G.imp fun vs H Q E h => ?_, T.g_Low, b, .nil⟩
  · have z := T.mk_Low
    rw [T.eq_Low___init__] at z
    exact z
  obtain ⟨p, dx, r, e, hr, hp, k⟩ := h
  obtain ⟨g, a, b, rfl⟩ := leaf_Low hr
  exact ⟨p, dx, .low, g, a, b, e, hp, k⟩
theorem mak_High (T : Txt K mg) : Mak P w K mg base 1 "High" (Cl.ad K .high) (spInit K .high) [] := by
  obtain ⟨fd, G, b, _⟩ := fnk_mPair_init (P := P) (w := w) (base := base) T
  refine ⟨_, fd, _, [], ?_, G.imp fun vs H Q E h => ?_, T.g_High, b, .nil⟩
  · have z := T.mk_High
    rw [T.eq_High___init__] at z
    exact z
  obtain ⟨p, dx, r, e, hr, hp, k⟩ := h
  obtain ⟨g, a, b, rfl⟩ := leaf_High hr
  exact ⟨p, dx, .high, g, a, b, e, hp, k⟩
theorem mak_Left (T : Txt K mg) : Mak P w K mg base 1 "Left" (Cl.ad K .left) (spInit K .left) [] := by
  obtain ⟨fd, G, b, _⟩ := fnk_mShift_init (P := P) (w := w) (base := base) T
  refine ⟨_, fd, _, [], ?_, G.imp fun vs H Q E h => ?_, T.g_Left, b, .nil⟩
  · have z := T.mk_Left
    rw [T.eq_Left___init__] at z
    exact z
  obtain ⟨p, dx, r, e, hr, hp, k⟩ := h
  obtain ⟨g, a, j, rfl⟩ := leaf_Left hr
  exact ⟨p, dx, .left, g, a, j, e, hp, k⟩
theorem mak_Right (T : Txt K mg) : Mak P w K mg base 1 "Right" (Cl.ad K .right) (spInit K .right) [] := by
  obtain ⟨fd, G, b, _⟩ := fnk_mShift_init (P := P) (w := w) (base := base) T
  refine ⟨_, fd, _, [], ?_, G.imp fun vs H Q E h => ?_, T.g_Right, b, .nil⟩
  · have z := T.mk_Right
    rw [T.eq_Right___init__] at z
    exact z
  obtain ⟨p, dx, r, e, hr, hp, k⟩ := h
  obtain ⟨g, a, j, rfl⟩ := leaf_Right hr
  exact ⟨p, dx, .right, g, a, j, e, hp, k⟩
theorem mak_Slide (T : Txt K mg) : Mak P w K mg base 1 "Slide" (Cl.ad K .slide) (spInit K .slide) [] := by
  obtain ⟨fd, G, b, _⟩ := fnk_mShift_init (P := P) (w := w) (base := base) T
  refine ⟨_, fd, _, [], ?_, G.imp fun vs H Q E h => ?_, T.g_Slide, b, .nil⟩
  · have z := T.mk_Slide
    rw [T.eq_Slide___init__] at z
    exact z
  obtain ⟨p, dx, r, e, hr, hp, k⟩ := h
  obtain ⟨g, a, j, rfl⟩ := leaf_Slide hr
  exact ⟨p, dx, .slide, g, a, j, e, hp, k⟩
theorem mak_And (T : Txt K mg) : Mak P w K mg base 1 "And" (Cl.ad K .and_) (spInit K .and_) [] := by
  obtain ⟨fd, G, b, _⟩ := fnk_mPair_init (P := P) (w := w) (base := base) T
  refine ⟨_, fd, _, [], ?_, G.imp fun vs H Q E h => ?_, T.g_And, b, .nil⟩
  · have z := T.mk_And
    rw [T.eq_And___init__] at z
    exact z
  obtain ⟨p, dx, r, e, hr, hp, k⟩ := h
  obtain ⟨g, a, b, rfl⟩ := leaf_And hr
  exact ⟨p, dx, .and_, g, a, b, e, hp, k⟩
theorem mak_Or (T : Txt K mg) : Mak P w K mg base 1 "Or" (Cl.ad K .or_) (spInit K .or_) [] := by
  obtain ⟨fd, G, b, _⟩ := fnk_mPair_init (P := P) (w := w) (base := base) T
  refine ⟨_, fd, _, [], ?_, G.imp fun vs H Q E h => ?_, T.g_Or, b, .nil⟩
  · have z := T.mk_Or
    rw [T.eq_Or___init__] at z
    exact z
  obtain ⟨p, dx, r, e, hr, hp, k⟩ := h
  obtain ⟨g, a, b, rfl⟩ := leaf_Or hr
  exact ⟨p, dx, .or_, g, a, b, e, hp, k⟩
theorem mak_Unlike (T : Txt K mg) : Mak P w K mg base 1 "Unlike" (Cl.ad K .unlike) (spInit K .unlike) [] := by
  obtain ⟨fd, G, b, _⟩ := fnk_mPair_init (P := P) (w := w) (base := base) T
  refine ⟨_, fd, _, [], ?_, G.imp fun vs H Q E h => ?_, T.g_Unlike, b, .nil⟩
  · have z := T.mk_Unlike
    rw [T.eq_Unlike___init__] at z
    exact z
  obtain ⟨p, dx, r, e, hr, hp, k⟩ := h
  obtain ⟨g, a, b, rfl⟩ := leaf_Unlike hr
  exact ⟨p, dx, .unlike, g, a, b, e, hp, k⟩
theorem mak_Under (T : Txt K mg) : Mak P w K mg base 1 "Under" (Cl.ad K .under) (spInit K .under) [] := by
  obtain ⟨fd, G, b, _⟩ := fnk_mPair_init (P := P) (w := w) (base := base) T
  refine ⟨_, fd, _, [], ?_, G.imp fun vs H Q E h => ?_, T.g_Under, b, .nil⟩
  · have z := T.mk_Under
    rw [T.eq_Under___init__] at z
    exact z
  obtain ⟨p, dx, r, e, hr, hp, k⟩ := h
  obtain ⟨g, a, b, rfl⟩ := leaf_Under hr
  exact ⟨p, dx, .under, g, a, b, e, hp, k⟩
theorem mak_Pick (T : Txt K mg) : Mak P w K mg base 1 "Pick" (Cl.ad K .pick) (spInit K .pick) [] := by
  obtain ⟨fd, G, b, _⟩ := fnk_mPick_init (P := P) (w := w) (base := base) T
  refine ⟨_, fd, _, [], T.mk_Pick, G.imp fun vs H Q E h => ?_, T.g_Pick, b, .nil⟩

  obtain ⟨p, dx, r, e, hr, hp, k⟩ := h
  obtain ⟨g, y, a, b, rfl⟩ := leaf_Pick hr
  exact ⟨p, dx, g, y, a, b, e, hp, k⟩
theorem mak_Mark (T : Txt K mg) : Mak P w K mg base 1 "Mark" (Cl.ad K .mark) (spInit K .mark) [] := by
  obtain ⟨fd, G, b, _⟩ := fnk_mMark_init (P := P) (w := w) (base := base) T
  refine ⟨_, fd, _, [], T.mk_Mark, G.imp fun vs H Q E h => ?_, T.g_Mark, b, .nil⟩

  obtain ⟨p, dx, r, e, hr, hp, k⟩ := h
  obtain ⟨ln, m, y, rfl⟩ := leaf_Mark hr
  exact ⟨p, dx, ln, m, y, e, hp, k⟩
theorem mak_Turns (T : Txt K mg) : Mak P w K mg base 1 "Turns" (Cl.ad K .turns) (spI_Turns K) [] := by
  obtain ⟨fd, G, b, _⟩ := fnk_mTurns_init (P := P) (w := w) (base := base) T
  exact ⟨_, fd, _, [], T.mk_Turns, G, T.g_Turns, b, .nil⟩
end
end K73

set_option maxHeartbeats 4000000
/-! what a run does, its counts: plain mathematics -/
namespace K73
open PySem PySem.Spec PyProof.Rows L2

theorem iter_succ (f : Sta → Sta) (n : Nat) (s : Sta) : iter f (n + 1) s = f (iter f n s) := by
  induction n generalizing s with
  | zero => rfl
  | succ n ih => show iter f (n + 1) (f s) = _; rw [ih]; rfl
theorem run_app (w : Nat) (a b : Fo) (s : Sta) : (a.app b).run w s = b.run w (a.run w s) := by
  induction a generalizing s with
  | nil => rfl
  | leaf r t ih => exact ih _
  | turns n c t _ ih => exact ih _
theorem iter_kv {f : Sta → Sta} {c : Nat} (h : ∀ s, (f s).kv.length ≤ s.kv.length + c) (n : Nat) (s : Sta) : (iter f n s).kv.length ≤ s.kv.length + n * c := by
  induction n generalizing s with
  | zero => simp [iter]
  | succ n ih => have h1 := ih (f s); have h2 := h s; rw [Nat.succ_mul]; simp only [iter]; omega
theorem iter_ms {f : Sta → Sta} {c : Nat} (h : ∀ s, (f s).ms.length ≤ s.ms.length + c) (n : Nat) (s : Sta) : (iter f n s).ms.length ≤ s.ms.length + n * c := by
  induction n generalizing s with
  | zero => simp [iter]
  | succ n ih => have h1 := ih (f s); have h2 := h s; rw [Nat.succ_mul]; simp only [iter]; omega
theorem run_kv (w : Nat) : ∀ (F : Fo) (s : Sta), (F.run w s).kv.length ≤ s.kv.length + 2 * F.cost
  | .nil, s => Nat.le_add_right _ _
  | .leaf r t, s => by
    have h1 := run_kv w t (r.run w s)
    have h2 := put_len w s.kv r
    simp only [Fo.run, Fo.cost]
    have h3 : (r.run w s).kv.length = (r.put w s.kv).length := rfl
    omega
  | .turns n b t, s => by
    have h1 := run_kv w t (iter (fun s => b.run w (tick s)) n s)
    have h2 := iter_kv (f := fun s => b.run w (tick s)) (c := 2 * b.cost) (fun s => run_kv w b (tick s)) n s
    have h3 : n * (2 * b.cost) ≤ 2 * (n * (1 + b.cost)) := by
      have : n * b.cost ≤ n * (1 + b.cost) := Nat.mul_le_mul_left _ (by omega)
      rw [Nat.mul_left_comm]; omega
    simp only [Fo.run, Fo.cost]
    omega
theorem run_ms (w : Nat) : ∀ (F : Fo) (s : Sta), (F.run w s).ms.length ≤ s.ms.length + F.cost
  | .nil, s => Nat.le_add_right _ _
  | .leaf r t, s => by
    have h1 := run_ms w t (r.run w s)
    have h2 := mks_len s.kv r
    simp only [Fo.run, Fo.cost]
    have h3 : (r.run w s).ms.length = s.ms.length + (r.mks s.kv).length := List.length_append
    omega
  | .turns n b t, s => by
    have h1 := run_ms w t (iter (fun s => b.run w (tick s)) n s)
    have h2 := iter_ms (f := fun s => b.run w (tick s)) (c := b.cost) (fun s => run_ms w b (tick s)) n s
    have h3 : n * b.cost ≤ n * (1 + b.cost) := Nat.mul_le_mul_left _ (by omega)
    simp only [Fo.run, Fo.cost]
    omega
theorem iter_wk {w : Nat} {f : Sta → Sta} (h : ∀ s, Wk w s.kv → Wk w (f s).kv) (n : Nat) (s : Sta) (hs : Wk w s.kv) : Wk w (iter f n s).kv := by
  induction n generalizing s with
  | zero => exact hs
  | succ n ih => exact ih _ (h _ hs)
theorem run_wk {w : Nat} (hw : 1 ≤ w) : ∀ (F : Fo) (s : Sta), F.Good w → Wk w s.kv → Wk w (F.run w s).kv
  | .nil, s, _, h => h
  | .leaf r t, s, g, h => run_wk hw t _ g.2 (h.step hw g.1)
  | .turns n b t, s, g, h => run_wk hw t _ g.2.2 (iter_wk (fun s hs => run_wk hw b (tick s) g.2.1 hs) n s h)

/-! ### counts -/
theorem words_nd : words.Nodup := by decide +kernel
theorem wd_mem (c : Cl) : c.wd ∈ words := List.mem_map_of_mem (mem_allCl c)
theorem turns_mem : ("turns" : Str) ∈ words := wd_mem .turns
def wsum (f : Str → Int) (cn : Str → Int) : Int := (words.map fun x => f x * cn x).sum
theorem sum_up (f cn : Str → Int) (x : Str) : ∀ l : List Str, l.Nodup → (l.map fun y => f y * up cn x y).sum = (l.map fun y => f y * cn y).sum + if x ∈ l then f x else 0
  | [], _ => by simp
  | y :: l, nd => by
    rw [List.nodup_cons] at nd
    have ih := sum_up f cn x l nd.2
    rw [List.map_cons, List.sum_cons, List.map_cons, List.sum_cons, ih]
    by_cases e : y = x
    · subst e
      have h1 : up cn y y = cn y + 1 := if_pos rfl
      rw [h1, if_neg nd.1, if_pos (List.mem_cons_self ..), Int.mul_add]
      omega
    · have h1 : up cn x y = cn y := if_neg e
      rw [h1]
      by_cases hm : x ∈ l
      · rw [if_pos hm, if_pos (List.mem_cons_of_mem _ hm)]
        omega
      · rw [if_neg hm, if_neg fun z => (List.mem_cons.mp z).elim (fun q => e q.symm) hm]
        omega
theorem wsum_up (f cn : Str → Int) {x : Str} (h : x ∈ words) : wsum f (up cn x) = wsum f cn + f x := by
  unfold wsum
  rw [sum_up f cn x words words_nd, if_pos h]
def Fo.ps (f : Str → Int) : Fo → Int
  | .nil => 0
  | .leaf r t => f r.wd + t.ps f
  | .turns n b t => n * (f "turns" + b.ps f) + t.ps f
theorem iter_ps {f : Str → Int} {g : Sta → Sta} {c : Int} (h : ∀ s, wsum f (g s).cn = wsum f s.cn + c) (n : Nat) (s : Sta) : wsum f (iter g n s).cn = wsum f s.cn + n * c := by
  induction n generalizing s with
  | zero => simp [iter]
  | succ n ih =>
    have h1 := ih (g s)
    have h2 := h s
    show wsum f (iter g n (g s)).cn = _
    rw [h1, h2]
    have e : ((n + 1 : Nat) : Int) * c = (n : Int) * c + c := by rw [Int.natCast_succ, Int.add_mul, Int.one_mul]
    rw [e]
    omega
theorem run_ps (w : Nat) (f : Str → Int) : ∀ (F : Fo) (s : Sta), wsum f (F.run w s).cn = wsum f s.cn + F.ps f
  | .nil, s => by simp [Fo.run, Fo.ps]
  | .leaf r t, s => by
    have h1 := run_ps w f t (r.run w s)
    have h2 : wsum f (r.run w s).cn = wsum f s.cn + f r.wd := wsum_up f s.cn (wd_mem _)
    show wsum f (t.run w (r.run w s)).cn = _ + (f r.wd + t.ps f)
    rw [h1, h2]
    omega
  | .turns n b t, s => by
    have h1 := run_ps w f t (iter (fun s => b.run w (tick s)) n s)
    have h2 := iter_ps (f := f) (g := fun s => b.run w (tick s)) (c := f "turns" + b.ps f) (fun s => by
      have h3 := run_ps w f b (tick s)
      have h4 : wsum f (tick s).cn = wsum f s.cn + f "turns" := wsum_up f s.cn turns_mem
      show wsum f (b.run w (tick s)).cn = _
      rw [h3, h4]
      omega) n s
    show wsum f (t.run w (iter (fun s => b.run w (tick s)) n s)).cn = _ + (n * (f "turns" + b.ps f) + t.ps f)
    rw [h1, h2]
    omega
theorem ps_one : ∀ F : Fo, F.ps (fun _ => 1) = F.cost
  | .nil => rfl
  | .leaf r t => by
    show 1 + t.ps (fun _ => 1) = ((1 + t.cost : Nat) : Int)
    rw [ps_one t]
    omega
  | .turns n b t => by
    show (n : Int) * (1 + b.ps (fun _ => 1)) + t.ps (fun _ => 1) = ((n * (1 + b.cost) + t.cost : Nat) : Int)
    rw [ps_one b, ps_one t]
    push_cast
    rfl
theorem ps_app (f : Str → Int) (a b : Fo) : (a.app b).ps f = a.ps f + b.ps f := by
  induction a with
  | nil => simp [Fo.app, Fo.ps]
  | leaf r t ih => simp only [Fo.app, Fo.ps, ih]; omega
  | turns n c t _ ih => simp only [Fo.app, Fo.ps, ih]; omega
/-- counts start at nought -/
def zeroC : Str → Int := fun _ => 0
theorem wsum_zero (f : Str → Int) : wsum f zeroC = 0 := by
  unfold wsum zeroC
  have : ∀ l : List Str, (l.map fun x => f x * 0).sum = 0 := fun l => by
    induction l with
    | nil => rfl
    | cons x l ih => rw [List.map_cons, List.sum_cons, ih]; simp
  exact this _
/-- the program's counts -/
def cntD (cn : Str → Int) : List (Key × V) := words.map fun x => (Sum.inr x, .int (cn x))
theorem valV_mapW (cn : Str → Int) {x : Str} : ∀ l : List Str, x ∈ l → valV (l.map fun y => ((Sum.inr y : Key), V.int (cn y))) (Sum.inr x) = some (.int (cn x))
  | y :: l, h => by
    by_cases e : y = x
    · subst e
      exact valV_pos rfl
    · rw [List.map_cons, valV_neg (fun z => e (Sum.inr.inj z))]
      exact valV_mapW cn l ((List.mem_cons.mp h).resolve_left fun z => e z.symm)
theorem valV_cnt (cn : Str → Int) {x : Str} (h : x ∈ words) : valV (cntD cn) (Sum.inr x) = some (.int (cn x)) := valV_mapW cn words h
theorem put_cnt (cn : Str → Int) {x : Str} (h : x ∈ words) : putK (cntD cn) (Sum.inr x) (.int (cn x + 1)) = cntD (up cn x) := by
  have h1 : ((cntD cn).any fun kv => decide (kv.1 = Sum.inr x)) = true := by rw [valV_any, valV_cnt cn h]; rfl
  unfold putK
  rw [if_pos h1]
  unfold cntD
  rw [List.map_map]
  apply List.map_congr_left
  intro y _
  show (if (Sum.inr y : Key) = Sum.inr x then ((Sum.inr y : Key), V.int (cn x + 1)) else (Sum.inr y, V.int (cn y))) = (Sum.inr y, V.int (up cn x y))
  by_cases e : y = x
  · subst e
    rw [if_pos rfl, show up cn y y = cn y + 1 from if_pos rfl]
  · rw [if_neg fun z => e (Sum.inr.inj z), show up cn x y = cn y from if_neg e]
theorem cnt_len (cn : Str → Int) : (cntD cn).length = 16 := by
  unfold cntD
  rw [List.length_map]
  rfl
/-! ### the law's counts: those words that came -/
def vi : V → Int
  | .int i => i
  | _ => 0
def vsum (kv : List (Key × V)) : Int := (kv.map fun p => vi p.2).sum
structure LawC (kv : List (Key × V)) (cn : Str → Int) : Prop where
  nd : (kv.map (·.1)).Nodup
  key : ∀ p ∈ kv, ∃ x ∈ words, p.1 = Sum.inr x ∧ p.2 = .int (cn x)
  zero : ∀ x ∈ words, valV kv (Sum.inr x) = none → cn x = 0
  sum : vsum kv = wsum (fun _ => 1) cn
theorem LawC.get {kv : List (Key × V)} {cn : Str → Int} (h : LawC kv cn) {x : Str} (hx : x ∈ words) : (valV kv (Sum.inr x)).getD (.int 0) = .int (cn x) := by
  cases e : valV kv (Sum.inr x) with
  | none => rw [h.zero x hx e]; rfl
  | some v =>
    obtain ⟨y, _, h1, h2⟩ := h.key _ (valV_mem e)
    have h1 : (Sum.inr x : Key) = Sum.inr y := h1
    have h2 : v = .int (cn y) := h2
    rw [h2, Sum.inr.inj h1]
    rfl
theorem vsum_map {k : Key} {c : Int} : ∀ kv : List (Key × V), (kv.map (·.1)).Nodup → valV kv k = some (.int c) → vsum (kv.map fun p => if p.1 = k then (p.1, V.int (c + 1)) else p) = vsum kv + 1
  | [], _, h => by cases h
  | p :: r, nd, h => by
    rw [List.map_cons, List.nodup_cons] at nd
    unfold vsum
    rw [List.map_cons, List.map_cons, List.sum_cons, List.map_cons, List.sum_cons]
    by_cases e : p.1 = k
    · rw [valV_pos e] at h
      have hp : p.2 = .int c := Option.some.inj h
      have hr : r.map (fun p => if p.1 = k then (p.1, V.int (c + 1)) else p) = r := by
        have : ∀ q ∈ r, (if q.1 = k then (q.1, V.int (c + 1)) else q) = q := fun q hq => if_neg fun z => nd.1 (by rw [e, ← z]; exact List.mem_map_of_mem (f := (·.1)) hq)
        rw [List.map_congr_left this, List.map_id']
      rw [hr, if_pos e, hp]
      show c + 1 + _ = c + _ + 1
      omega
    · rw [valV_neg e] at h
      have ih := vsum_map r nd.2 h
      unfold vsum at ih
      rw [if_neg e, ih]
      omega
theorem LawC.put {kv : List (Key × V)} {cn : Str → Int} (h : LawC kv cn) {x : Str} (hx : x ∈ words) : LawC (putK kv (Sum.inr x) (.int (cn x + 1))) (up cn x) := by
  refine ⟨nd_put h.nd _ _, fun p hp => ?_, fun y hy e => ?_, ?_⟩
  · have hv := mem_valV (nd_put h.nd (Sum.inr x) (V.int (cn x + 1))) hp
    rw [valV_put] at hv
    rcases mem_putK hp with e | hp'
    · exact ⟨x, hx, by rw [e], by rw [e, show up cn x x = cn x + 1 from if_pos rfl]⟩
    · obtain ⟨y, hy, h1, h2⟩ := h.key p hp'
      refine ⟨y, hy, h1, ?_⟩
      by_cases e : y = x
      · subst e
        rw [if_pos h1] at hv
        rw [show up cn y y = cn y + 1 from if_pos rfl]
        exact (Option.some.inj hv).symm
      · rw [show up cn x y = cn y from if_neg e]
        exact h2
  · rw [valV_put] at e
    by_cases z : y = x
    · subst z
      rw [if_pos rfl] at e
      cases e
    · rw [if_neg fun q => z (Sum.inr.inj q)] at e
      rw [show up cn x y = cn y from if_neg z]
      exact h.zero y hy e
  · rw [wsum_up _ _ hx, ← h.sum]
    cases e : valV kv (Sum.inr x) with
    | none =>
      rw [putK_new _ e, h.zero x hx e]
      unfold vsum
      rw [List.map_append, List.sum_append]
      rfl
    | some v =>
      have hg := h.get hx
      rw [e] at hg
      have hv : v = .int (cn x) := hg
      rw [hv] at e
      have h1 : (kv.any fun kv => decide (kv.1 = Sum.inr x)) = true := by rw [valV_any, e]; rfl
      have h2 : putK kv (Sum.inr x) (V.int (cn x + 1)) = kv.map fun p => if p.1 = Sum.inr x then (p.1, V.int (cn x + 1)) else p := by
        unfold putK
        rw [if_pos h1]
      rw [h2]
      exact vsum_map kv h.nd e
theorem LawC.nil : LawC [] zeroC := ⟨List.nodup_nil, fun p hp => (by cases hp), fun _ _ _ => rfl, by rw [wsum_zero]; rfl⟩
theorem nd_le {α : Type} [DecidableEq α] : ∀ (l m : List α), l.Nodup → (∀ x ∈ l, x ∈ m) → l.length ≤ m.length
  | [], _, _, _ => Nat.zero_le _
  | x :: l, m, nd, h => by
    rw [List.nodup_cons] at nd
    have hx := h x (List.mem_cons_self ..)
    have ih := nd_le l (m.erase x) nd.2 fun y hy => (List.mem_erase_of_ne (fun e => nd.1 (by rw [← e]; exact hy))).mpr (h y (List.mem_cons_of_mem _ hy))
    rw [List.length_erase_of_mem hx] at ih
    have : 0 < m.length := List.length_pos_of_mem hx
    show l.length + 1 ≤ m.length
    omega
theorem putK_len_words {kv : List (Key × V)} (h : ∀ p ∈ kv, ∃ x ∈ words, p.1 = Sum.inr x) (nd : (kv.map (·.1)).Nodup) : kv.length ≤ 16 := by
  have h1 : (kv.map (·.1)).length ≤ (words.map (Sum.inr : Str → Key)).length := by
    refine nd_le _ _ nd ?_
    intro k hk
    obtain ⟨p, hp, e⟩ := List.mem_map.mp hk
    obtain ⟨x, hx, e2⟩ := h p hp
    rw [← e, e2]
    exact List.mem_map_of_mem hx
  rw [List.length_map, List.length_map] at h1
  exact h1

/-! ### the rows written out one behind the other -/
def ofL : List Leaf → Fo
  | [] => .nil
  | r :: l => .leaf r (ofL l)
def Alike (s t : Sta) : Prop := s.kv = t.kv ∧ s.ms = t.ms
theorem ofL_app (a b : List Leaf) : ofL (a ++ b) = (ofL a).app (ofL b) := by
  induction a with
  | nil => rfl
  | cons r l ih => show Fo.leaf r (ofL (l ++ b)) = Fo.leaf r ((ofL l).app (ofL b)); rw [ih]
theorem ofL_run {w : Nat} : ∀ (l : List Leaf) {s t : Sta}, Alike s t → Alike ((ofL l).run w s) ((ofL l).run w t)
  | [], _, _, h => h
  | r :: l, s, t, h => ofL_run l ⟨by show r.put w s.kv = r.put w t.kv; rw [h.1], by show s.ms ++ r.mks s.kv = t.ms ++ r.mks t.kv; rw [h.1, h.2]⟩
theorem rep_succ (n : Nat) (l : List Leaf) : rep (n + 1) l = l ++ rep n l := by
  unfold rep
  rw [List.replicate_succ, List.flatten_cons]
theorem flat_run (w : Nat) : ∀ (F : Fo) {s t : Sta}, Alike s t → Alike (F.run w s) ((ofL F.flat).run w t)
  | .nil, _, _, h => h
  | .leaf r l, s, t, h => flat_run w l ⟨by show r.put w s.kv = r.put w t.kv; rw [h.1], by show s.ms ++ r.mks s.kv = t.ms ++ r.mks t.kv; rw [h.1, h.2]⟩
  | .turns n b l, s, t, h => by
    have key : ∀ (n : Nat) {s t : Sta}, Alike s t → Alike (iter (fun s => b.run w (tick s)) n s) ((ofL (rep n b.flat)).run w t) := by
      intro n
      induction n with
      | zero => intro s t h; exact h
      | succ n ih =>
        intro s t h
        rw [rep_succ, ofL_app, run_app]
        have h1 : Alike (b.run w (tick s)) ((ofL b.flat).run w t) := flat_run w b (s := tick s) (t := t) h
        exact ih h1
    show Alike (l.run w (iter (fun s => b.run w (tick s)) n s)) ((ofL (rep n b.flat ++ l.flat)).run w t)
    rw [ofL_app, run_app]
    exact flat_run w l (key n h)
theorem ofL_cost : ∀ l : List Leaf, (ofL l).cost = l.length
  | [] => rfl
  | r :: l => by show 1 + (ofL l).cost = l.length + 1; rw [ofL_cost l]; omega
theorem ofL_depth : ∀ l : List Leaf, (ofL l).depth = 0
  | [] => rfl
  | r :: l => ofL_depth l
theorem ofL_good {w : Nat} : ∀ l : List Leaf, (∀ r ∈ l, r.Good w) → (ofL l).Good w
  | [], _ => trivial
  | r :: l, h => ⟨h r (List.mem_cons_self ..), ofL_good l fun q hq => h q (List.mem_cons_of_mem _ hq)⟩
theorem flat_good {w : Nat} : ∀ F : Fo, F.Good w → ∀ r ∈ F.flat, r.Good w
  | .nil, _, r, h => by cases h
  | .leaf q t, g, r, h => by
    rcases List.mem_cons.mp h with rfl | h
    · exact g.1
    · exact flat_good t g.2 r h
  | .turns n b t, g, r, h => by
    rcases List.mem_append.mp h with h | h
    · unfold rep at h
      obtain ⟨l, hl, hr⟩ := List.mem_flatten.mp h
      rw [List.eq_of_mem_replicate hl] at hr
      exact flat_good b g.2.1 r hr
    · exact flat_good t g.2.2 r h
end K73

set_option maxHeartbeats 4000000
/-! the machine: walked, check_steps, go, run_steps, summed -/
namespace K73
open PySem PySem.Spec PyProof.Rows L2
open C8 (Cal Mak Met pe_c pe_mk pe_mt pe_mt0 pe_gc)
local macro_rules | `(tactic| walk_at "rd") => `(tactic| repeat (first | refine ⟨_, rfl, ?_⟩ | refine ⟨_, _, rfl, rfl, ?_⟩ | refine ⟨_, rfl, rfl, ?_⟩ | refine ⟨_, _, rfl, ?_⟩ | refine ⟨_, _, _, rfl, ?_⟩ | refine ⟨_, _, _, _, rfl, ?_⟩ | refine And.intro rfl ?_ | refine And.intro trivial ?_ | refine And.intro (le_sz (Nat.le_of_ble_eq_true rfl)) ?_ | refine And.intro (le_sz (by omega)) ?_ | refine iteT ?_ | refine iteF ?_ | refine iteDt (by omega) ?_ | refine iteDf (by omega) ?_ | refine iteNt (by omega) ?_ | refine iteNf (by omega) ?_ | refine And.intro (by omega) ?_ | refine ⟨_, _, _, _, _, rfl, .ty _, .base (.str _), kit_ss, ?_⟩ | refine ⟨_, _, _, _, _, rfl, .ty _, .base (.lst (by assumption)), kit_ll, ?_⟩ | refine ⟨_, _, _, _, _, rfl, .ty _, .base (.dK (by assumption)), kit_dd, ?_⟩ | refine ⟨_, _, _, _, _, rfl, .ty _, .base (.tup (by assumption)), kit_tt, ?_⟩))

section
variable {K : PySem.W.Frag} {mg : Str → Option Value} (T : Txt K mg)
include T
theorem Txt.kst (c : Cl) : PySem.W.kitOne K (.ref (c.ad K)) (.ref (He.ga K "Step")) = some true := by
  cases c
  · exact T.kit_Set_Step
  · exact T.kit_Copy_Step
  · exact T.kit_Sum_Step
  · exact T.kit_Gap_Step
  · exact T.kit_Low_Step
  · exact T.kit_High_Step
  · exact T.kit_Left_Step
  · exact T.kit_Right_Step
  · exact T.kit_Slide_Step
  · exact T.kit_And_Step
  · exact T.kit_Or_Step
  · exact T.kit_Unlike_Step
  · exact T.kit_Under_Step
  · exact T.kit_Pick_Step
  · exact T.kit_Mark_Step
  · exact T.kit_Turns_Step
theorem Txt.ktu (c : Cl) : PySem.W.kitOne K (.ref (c.ad K)) (.ref (He.ga K "Turns")) = some (decide (c = .turns)) := by
  cases c
  · exact T.kit_Set_Turns
  · exact T.kit_Copy_Turns
  · exact T.kit_Sum_Turns
  · exact T.kit_Gap_Turns
  · exact T.kit_Low_Turns
  · exact T.kit_High_Turns
  · exact T.kit_Left_Turns
  · exact T.kit_Right_Turns
  · exact T.kit_Slide_Turns
  · exact T.kit_And_Turns
  · exact T.kit_Or_Turns
  · exact T.kit_Unlike_Turns
  · exact T.kit_Under_Turns
  · exact T.kit_Pick_Turns
  · exact T.kit_Mark_Turns
  · exact T.kit_Turns_Turns
theorem Txt.cs (c : Cl) : PySem.W.findIn K (.ref (c.ad K)) "__class__" = some (some (.builtin "object.__class__")) := by
  cases c
  · exact T.cs_Set
  · exact T.cs_Copy
  · exact T.cs_Sum
  · exact T.cs_Gap
  · exact T.cs_Low
  · exact T.cs_High
  · exact T.cs_Left
  · exact T.cs_Right
  · exact T.cs_Slide
  · exact T.cs_And
  · exact T.cs_Or
  · exact T.cs_Unlike
  · exact T.cs_Under
  · exact T.cs_Pick
  · exact T.cs_Mark
  · exact T.cs_Turns
theorem Txt.ob (c : Cl) : PySem.W.mroIn K (c.ad K) (.type "object") = some true := by
  cases c
  · exact T.ob_Set
  · exact T.ob_Copy
  · exact T.ob_Sum
  · exact T.ob_Gap
  · exact T.ob_Low
  · exact T.ob_High
  · exact T.ob_Left
  · exact T.ob_Right
  · exact T.ob_Slide
  · exact T.ob_And
  · exact T.ob_Or
  · exact T.ob_Unlike
  · exact T.ob_Under
  · exact T.ob_Pick
  · exact T.ob_Mark
  · exact T.ob_Turns
theorem Txt.ty (c : Cl) {H : Hp} {p dx : Addr} {fs : List (Str × V)} (hp : H p = some (.ins (c.ad K) dx fs)) : TyX K H (.ref p) (.ref (c.ad K)) :=
  .base (.ins hp (T.cls c) (T.cs c) T.sg T.tk (T.ob c))
end
theorem drop_at {α : Type} {xs : List α} {i : Nat} {x : α} (hi : xs[i]? = some x) : xs.drop i = x :: xs.drop (i + 1) := by
  have hlt := (List.getElem?_eq_some_iff.mp hi).1
  rw [List.drop_eq_getElem_cons hlt]
  congr 1
  exact (List.getElem?_eq_some_iff.mp hi).2
theorem StepsAt.end_ {K : PySem.W.Frag} {P : Addr → Prop} {H : Hp} {xs : List V} {G : Fo} (h : StepsAt K P H (xs.drop xs.length) G) : G = .nil := by
  rw [List.drop_length] at h
  exact len_nil h.len.symm
theorem RowsAt.end_ {P : Addr → Prop} {H : Hp} {xs : List V} {G : Fo} (h : RowsAt P H (xs.drop xs.length) G) : G = .nil := by
  rw [List.drop_length] at h
  exact len_nil h.len.symm
theorem vint_ne {a b : Int} (h : a ≠ b) : ¬ V.int a = V.int b := fun z => h (V.int.inj z)
section
variable {P : Program} {w : World} {K : PySem.W.Frag} {mg : Str → Option Value} {base : Heap}
theorem vac_f_walked (T : Txt K mg) (n : Nat) : ∃ fd, FnOk P w K mg base CX0 n (He.fAd K df_walked.at_) fd ["width", "steps", "place", "about"] (fun _ _ _ _ => False) ∧ Binds K fd ["width", "steps", "place", "about"] [] ∧ PySem.W.keepIn K (.ref (He.fAd K df_walked.at_)) = true := by
  obtain ⟨fd, F0⟩ := T.c.d.def_ 76 (d := df_walked) rfl
  have F : FunD K "walked" "walked" (defArgs sf_walked) (defBody sf_walked) (defScope sf_walked) [] [] (He.fAd K df_walked.at_) fd := F0
  exact ⟨fd, ⟨fun _ _ _ _ h => h.elim, fun _ _ _ _ _ _ _ _ _ _ _ _ _ h => h.elim⟩, F.bindsN (fun _ _ _ _ _ _ us hl => match us, hl with | [_, _, _, _], _ => rfl), F.kp⟩
structure StepsIn (K : PySem.W.Frag) (H : Hp) (l : Addr) (xs : List V) (F : Fo) (w : Nat) : Prop where
  lst : H l = some (.lst xs)
  at_ : StepsAt K Any H xs F
  w4 : 4 ≤ w
  w32 : w ≤ 32
  good : F.Good w
  cost : F.cost ≤ 3000
theorem StepsIn.same {H H' : Hp} {l : Addr} {xs : List V} {F : Fo} {w : Nat} (h : StepsIn K H l xs F w) (s : Same H H') : StepsIn K H' l xs F w := ⟨s _ _ h.lst, h.at_.same s, h.w4, h.w32, h.good, h.cost⟩
def spWalked (K : PySem.W.Frag) (n : Nat) : Sp := fun vs H Q _ => ∃ (w : Nat) (l : Addr) (pl ab : Int) (xs : List V) (F : Fo), vs = [.int w, .ref l, .int pl, .int ab] ∧ StepsIn K H l xs F w ∧ F.depth < n ∧ 0 ≤ ab ∧ ab + F.depth ≤ 5 ∧
  ∀ H' q pl', Same H H' → H' q = some (.tup [.int pl', .int F.cost]) → Q (.ref q) H'
theorem sc_f_walked : FnScope ["width", "steps", "place", "about", "many", "step", "inner"] ["width", "steps", "place", "about"] (defScope sf_walked) := ⟨rfl, rfl, rfl, by decide +kernel, rfl, by decide +kernel, by decide +kernel⟩
theorem walked_succ (T : Txt K mg) {n : Nat} (M : Cal P w K mg base (n + 4) "walked" (spWalked K n) []) : Cal P w K mg base ((n+5)) "walked" (spWalked K (n + 1)) [] := by
  obtain ⟨fd, F0⟩ := T.c.d.def_ 76 (d := df_walked) rfl
  have F : FunD K "walked" "walked" (defArgs sf_walked) (defBody sf_walked) (defScope sf_walked) [] [] (He.fAd K df_walked.at_) fd := F0
  have G : FnOk P w K mg base CX0 (n+5) (He.fAd K df_walked.at_) fd ["width", "steps", "place", "about"] (spWalked K (n + 1)) := by
    refine F.ok (CX := CX0) sc_f_walked (fun vs H Q E h => ?_) (fun cdv A outer s H vs Q E hr h => ⟨_, PSs.nox (by exact (pss_cons (ps_set (i := 4) sc_f_walked.nd rfl (Or.inl rfl) pe_int)
      (pss_cons (ps_for PassesOwn.never rfl (pi_list (pv 1)) (pg_name (i := 5) sc_f_walked.nd rfl (Or.inl rfl)) (pss_cons (ps_if (PW.pt (pw_or (pt_not (pt_val (pe_callB call_isi rfl T.f_isinstance (by decide +kernel) (pa_cons (pv 5) (pa_cons (pe_gc rfl T.v_Step) pa_nil))))) (pw_or1 (pt_not (pt_val (pe_fits T hr (by omega) (pv 5) (pa_cons (pv 0) pa_nil))))))) (pss_one ps_never) pss_nil)
      (pss_one (ps_if (pt_val (pe_callB call_isi rfl T.f_isinstance (by decide +kernel) (pa_cons (pv 5) (pa_cons (pe_gc rfl T.v_Turns) pa_nil)))) (pss_cons (ps_if (pt_cmpR op_eq (pv 3) (pe_gc rfl T.v_DEEPEST) (nomark _)) (pss_one ps_never) pss_nil)
      (pss_cons (ps_asg (pe_c M hr (by omega) rfl (pa_cons (pv 0) (pa_cons (pe_fld (pv 5) rfl) (pa_cons (pe_op op_add (pv 2) pe_int) (pa_cons (pe_op op_add (pv 3) pe_int) pa_nil))))) (pg_tup rfl (pgs_cons (pg_name (i := 2) sc_f_walked.nd rfl (Or.inl rfl)) (pgs_cons (pg_name (i := 6) sc_f_walked.nd rfl (Or.inl rfl)) pgs_nil))))
      (pss_one (ps_set (i := 4) sc_f_walked.nd rfl (Or.inl rfl) (pe_op op_add (pv 4) (pe_op op_mul (pe_fld (pv 5) rfl) (pe_op op_add pe_int (pv 6)))))))) (pss_cons (ps_set (i := 2) sc_f_walked.nd rfl (Or.inl rfl) (pe_op op_add (pv 2) pe_int))
      (pss_one (ps_set (i := 4) sc_f_walked.nd rfl (Or.inl rfl) (pe_op op_add (pv 4) pe_int))))))))
      (pss_one (ps_ret (pe_tup (pa_cons (pv 2) (pa_cons (pv 4) pa_nil)))))))), ?_⟩)
    · first
      | (obtain ⟨e, _⟩ := h; subst e; rfl)
      | (obtain ⟨_, e, _⟩ := h; subst e; rfl)
      | (obtain ⟨_, _, e, _⟩ := h; subst e; rfl)
      | (obtain ⟨_, _, _, e, _⟩ := h; subst e; rfl)
      | (obtain ⟨_, _, _, _, e, _⟩ := h; subst e; rfl)
      | (obtain ⟨_, _, _, _, _, e, _⟩ := h; subst e; rfl)
      | (obtain ⟨_, _, _, _, _, _, e, _⟩ := h; subst e; rfl)
      | (obtain ⟨_, _, _, _, _, _, _, e, _⟩ := h; subst e; rfl)
      | (obtain ⟨_, _, _, _, _, _, _, _, e, _⟩ := h; subst e; rfl)
      | (obtain ⟨_, _, _, _, _, _, _, _, _, e, _⟩ := h; subst e; rfl)
      | (obtain ⟨_, _, _, _, _, _, _, _, _, _, e, _⟩ := h; subst e; rfl)
      | (obtain ⟨_, _, _, _, _, _, _, _, _, _, _, e, _⟩ := h; subst e; rfl)
      | (obtain ⟨_, _, _, _, _, _, _, _, _, _, _, _, e, _⟩ := h; subst e; rfl)
      | (obtain ⟨_, _, _, _, _, _, _, _, _, _, _, _, _, e, _⟩ := h; subst e; rfl)
    · skip
      obtain ⟨w, l, pl, ab, xs, F, rfl, hS, hdep, hab, hab2, k⟩ := h
      walk_at "rd"
      refine ⟨⟨xs, SqL.of hS.lst⟩, for_list (K := K) (a := l) (xs := xs) (fun i σ H' => Same H H' ∧ ∃ (pl' : Int) (A G : Fo) (v5 v6 : Option V), σ = [some (.int w), some (.ref l), some (.int pl'), some (.int ab), some (.int (A.cost : Nat)), v5, v6] ∧ A.app G = F ∧ StepsAt K Any H (xs.drop i) G) ?_ ?_ ?_ ?_⟩
      · exact ⟨Same.refl _, pl, .nil, F, none, none, rfl, rfl, hS.at_⟩
      · rintro i σ H' _ ⟨s1, _⟩
        exact SqL.of (s1 _ _ hS.lst)
      · rintro i x σ H1 hi ⟨s1, pl', A, G, v5, v6, rfl, hFG, hG⟩
        rw [drop_at hi] at hG
        obtain ⟨d, t, rfl, hd1, ht⟩ := hG.cons
        obtain ⟨p1, dx1, fs1, rfl, hp1, hno⟩ := hd1.ins
        have gd := hS.good
        rw [← hFG, app_good] at gd
        have gd1 := (fo_good gd.2).1
        have dd := hdep
        rw [← hFG, app_depth, fo_depth] at dd
        have da := hab2
        rw [← hFG, app_depth, fo_depth] at da
        have dc := hS.cost
        rw [← hFG, app_cost, fo_cost] at dc
        refine ⟨_, rfl, _, _, _, _, _, rfl, .own _, T.ty d.cl (s1 _ _ hp1), T.kst d.cl, _, rfl, iteF ?_⟩
        refine ⟨d.cl, _, rfl, p1, dx1, fs1, rfl, s1 _ _ hp1, hno.1, _, rfl, p1, w, d, rfl, rfl, hd1.same s1, ⟨hS.w4, hS.w32⟩, gd1, fun H2 s2 => ?_⟩
        have s12 := s1.trans s2
        refine ⟨_, rfl, iteF ?_⟩
        refine ⟨_, rfl, _, _, _, _, _, rfl, .own _, T.ty d.cl (s12 _ _ hp1), T.ktu d.cl, _, rfl, ?_⟩
        cases d with
        | leaf r =>
          refine iteDf (leaf_not_turns r) ?_
          refine ⟨_, rfl, _, _, rfl, rfl, _, rfl, _, _, rfl, rfl, s12, pl' + 1, A.app (Nd.leaf r).one, t, some (.ref p1), v6, ?_, ?_, ht⟩
          · have e : ((A.app (Nd.leaf r).one).cost : Int) = (A.cost : Int) + 1 := by rw [app_cost]; simp [Nd.one, Nd.fo, Fo.cost]
            rw [e]
            rfl
          · rw [app_assoc, one_app]
            exact hFG
        | turns nn b =>
          refine iteDt rfl ?_
          have hb1 : (Nd.turns nn b).one.depth = b.depth + 1 := by simp [Nd.one, Nd.fo, Fo.depth]
          have hab5 : ab ≠ 5 := by omega
          refine ⟨_, rfl, rfl, _, rfl, iteDf (vint_ne hab5) ?_⟩
          obtain ⟨⟨p', dx, l1, xs1, e, hp2, _, hl1, hb⟩, _⟩ := hd1
          cases e
          have hc1 : (Nd.turns nn b).one.cost = nn * (1 + b.cost) := by simp [Nd.one, Nd.fo, Fo.cost]
          have hc2 : 1 * (1 + b.cost) ≤ nn * (1 + b.cost) := Nat.mul_le_mul_right _ gd1.1.1
          have hS1 : StepsIn K H2 l1 xs1 b w := ⟨s12 _ _ hl1, hb.same s12, hS.w4, hS.w32, gd1.2.1, by omega⟩
          refine ⟨_, rfl, _, rfl, _, _, _, _, _, rfl, s12 _ _ hp2, T.cls _, T.na_Turns_steps, rfl, _, rfl, _, _, rfl, rfl, _, rfl, _, _, rfl, rfl, w, l1, _, _, xs1, b, rfl, hS1, by omega, by omega, by omega, fun H3 q pl2 s3 hq => ?_⟩
          refine ⟨_, _, rfl, SqT.of hq, rfl, _, _, rfl, _, _, rfl, rfl, ?_⟩
          have hn64 : nn ≤ 64 := gd1.1.2.1
          refine ⟨_, rfl, _, rfl, _, _, _, _, _, rfl, s3 _ _ (s12 _ _ hp2), T.cls _, T.na_Turns_times, rfl, _, rfl, _, _, rfl, rfl, _, _, rfl, rfl, .inl ⟨by omega, by omega⟩, _, _, rfl, rfl, s12.trans s3, pl2, A.app (Nd.turns nn b).one, t, some (.ref p1), some (.int b.cost), ?_, ?_, ht⟩
          · have e : ((A.app (Nd.turns nn b).one).cost : Int) = (A.cost : Int) + (nn : Int) * (1 + (b.cost : Int)) := by
              rw [app_cost, hc1]
              push_cast
              rfl
            rw [e]
            rfl
          · rw [app_assoc, one_app]
            exact hFG
      · rintro σ H1 ⟨s1, pl', A, G, v5, v6, rfl, hFG, hG⟩
        have eG := hG.end_
        subst eG
        rw [app_nil] at hFG
        subst hFG
        exact ⟨_, rfl, _, rfl, le_sz (Nat.le_of_ble_eq_true rfl), fun q hq => k _ q pl' (s1.trans (same_new hq)) upd_same⟩
  exact ⟨_, fd, _, [], G, T.g_walked, F.kp, F.bindsN (fun _ _ _ _ _ _ us hl => match us, hl with | [_, _, _, _], _ => rfl), .nil⟩
theorem cal_f_walked (T : Txt K mg) (n : Nat) : Cal P w K mg base (n + 4) "walked" (spWalked K n) [] := by
  induction n with
  | zero =>
    obtain ⟨fd, G, b, kp⟩ := vac_f_walked (P := P) (w := w) (base := base) T 4
    refine ⟨_, fd, _, [], G.imp fun vs H Q E h => ?_, T.g_walked, kp, b, .nil⟩
    obtain ⟨w, l, pl, ab, xs, F, _, _, hd, _⟩ := h
    exact absurd hd (Nat.not_lt_zero _)
  | succ n ih => exact walked_succ T ih
end
end K73

set_option maxHeartbeats 4000000
/-! the machine, further: check_steps, summed, go, need_registers, run_steps -/
namespace K73
open PySem PySem.Spec PyProof.Rows L2
open C8 (Cal Mak Met pe_c pe_mk pe_mt pe_mt0 pe_gc)
local macro_rules | `(tactic| walk_at "rd") => `(tactic| repeat (first | refine ⟨_, rfl, ?_⟩ | refine ⟨_, _, rfl, rfl, ?_⟩ | refine ⟨_, rfl, rfl, ?_⟩ | refine ⟨_, _, rfl, ?_⟩ | refine ⟨_, _, _, rfl, ?_⟩ | refine ⟨_, _, _, _, rfl, ?_⟩ | refine And.intro rfl ?_ | refine And.intro trivial ?_ | refine And.intro (le_sz (Nat.le_of_ble_eq_true rfl)) ?_ | refine And.intro (le_sz (by omega)) ?_ | refine iteT ?_ | refine iteF ?_ | refine iteDt (by omega) ?_ | refine iteDf (by omega) ?_ | refine iteNt (by omega) ?_ | refine iteNf (by omega) ?_ | refine And.intro (by omega) ?_ | refine ⟨_, _, _, _, _, rfl, .ty _, .base (.str _), kit_ss, ?_⟩ | refine ⟨_, _, _, _, _, rfl, .ty _, .base (.lst (by assumption)), kit_ll, ?_⟩ | refine ⟨_, _, _, _, _, rfl, .ty _, .base (.dK (by assumption)), kit_dd, ?_⟩ | refine ⟨_, _, _, _, _, rfl, .ty _, .base (.tup (by assumption)), kit_tt, ?_⟩))

theorem MkL.mono {H H' : Hp} (k : ∀ p xs, H p = some (.tup xs) → H' p = some (.tup xs)) : ∀ {vs : List V} {ms : List (Int × Str)}, MkL H vs ms → MkL H' vs ms
  | [], [], _ => trivial
  | _ :: _, _ :: _, ⟨⟨p, e, h⟩, t⟩ => ⟨⟨p, e, k p _ h⟩, MkL.mono k t⟩
  | [], _ :: _, h => h.elim
  | _ :: _, [], h => h.elim
theorem MkL.app {H : Hp} {ws : List V} {ns : List (Int × Str)} (hw : MkL H ws ns) : ∀ {vs : List V} {ms : List (Int × Str)}, MkL H vs ms → MkL H (vs ++ ws) (ms ++ ns)
  | [], [], _ => hw
  | _ :: _, _ :: _, ⟨e, t⟩ => ⟨e, MkL.app hw t⟩
  | [], _ :: _, h => h.elim
  | _ :: _, [], h => h.elim
theorem MkL.len {H : Hp} : ∀ {vs : List V} {ms : List (Int × Str)}, MkL H vs ms → vs.length = ms.length
  | [], [], _ => rfl
  | _ :: _, _ :: _, ⟨_, t⟩ => congrArg (· + 1) (MkL.len t)
  | [], _ :: _, h => h.elim
  | _ :: _, [], h => h.elim
def MarksAt (H : Hp) (m : Addr) (ms : List (Int × Str)) : Prop := ∃ vs, H m = some (.lst vs) ∧ MkL H vs ms
section
variable {P : Program} {w : World} {K : PySem.W.Frag} {mg : Str → Option Value} {base : Heap}
def spCheck (K : PySem.W.Frag) : Sp := fun vs H Q _ => ∃ (w : Nat) (l : Addr) (xs : List V) (F : Fo), vs = [.int w, .ref l] ∧ StepsIn K H l xs F w ∧ F.depth ≤ 5 ∧ ∀ H', Same H H' → Q (.int F.cost) H'
theorem sc_f_check_steps : FnScope ["width", "steps", "many"] ["width", "steps"] (defScope sf_check_steps) := ⟨rfl, rfl, rfl, by decide +kernel, rfl, by decide +kernel, by decide +kernel⟩
theorem cal_f_check_steps (T : Txt K mg) : Cal P w K mg base (11) "check_steps" (spCheck K) [] := by
  obtain ⟨fd, F0⟩ := T.c.d.def_ 77 (d := df_check_steps) rfl
  have F : FunD K "check_steps" "check_steps" (defArgs sf_check_steps) (defBody sf_check_steps) (defScope sf_check_steps) [] [] (He.fAd K df_check_steps.at_) fd := F0
  have G : FnOk P w K mg base CX0 11 (He.fAd K df_check_steps.at_) fd ["width", "steps"] (spCheck K) := by
    refine F.ok (CX := CX0) sc_f_check_steps (fun vs H Q E h => ?_) (fun cdv A outer s H vs Q E hr h => ⟨_, PSs.nox (by exact (pss_cons (ps_expr (pe_c (cal_f_need_width T) hr (by omega) rfl (pa_cons (pv 0) pa_nil)))
      (pss_cons (ps_if (pt_not (pt_val (pe_callB call_isi rfl T.f_isinstance (by decide +kernel) (pa_cons (pv 1) (pa_cons (pe_bltn (v := .ty "list") rfl T.f_list (by decide +kernel) rfl) pa_nil))))) (pss_one ps_never) pss_nil)
      (pss_cons (ps_set (i := 2) sc_f_check_steps.nd rfl (Or.inl rfl) (pe_ix ix_tup (pe_c (cal_f_walked T 6) hr (by omega) rfl (pa_cons (pv 0) (pa_cons (pv 1) (pa_cons pe_int (pa_cons pe_int pa_nil))))) pe_int (fun _ _ => rfl)))
      (pss_cons (ps_if (pt_cmpR op_gt (pv 2) (pe_gc rfl T.v_MOST_RUN) (nomark _)) (pss_one ps_never) pss_nil)
      (pss_one (ps_ret (pv 2)))))))), ?_⟩)
    · first
      | (obtain ⟨e, _⟩ := h; subst e; rfl)
      | (obtain ⟨_, e, _⟩ := h; subst e; rfl)
      | (obtain ⟨_, _, e, _⟩ := h; subst e; rfl)
      | (obtain ⟨_, _, _, e, _⟩ := h; subst e; rfl)
      | (obtain ⟨_, _, _, _, e, _⟩ := h; subst e; rfl)
      | (obtain ⟨_, _, _, _, _, e, _⟩ := h; subst e; rfl)
      | (obtain ⟨_, _, _, _, _, _, e, _⟩ := h; subst e; rfl)
      | (obtain ⟨_, _, _, _, _, _, _, e, _⟩ := h; subst e; rfl)
      | (obtain ⟨_, _, _, _, _, _, _, _, e, _⟩ := h; subst e; rfl)
      | (obtain ⟨_, _, _, _, _, _, _, _, _, e, _⟩ := h; subst e; rfl)
      | (obtain ⟨_, _, _, _, _, _, _, _, _, _, e, _⟩ := h; subst e; rfl)
      | (obtain ⟨_, _, _, _, _, _, _, _, _, _, _, e, _⟩ := h; subst e; rfl)
      | (obtain ⟨_, _, _, _, _, _, _, _, _, _, _, _, e, _⟩ := h; subst e; rfl)
      | (obtain ⟨_, _, _, _, _, _, _, _, _, _, _, _, _, e, _⟩ := h; subst e; rfl)
    · skip
      obtain ⟨w, l, xs, F, rfl, hS, hdep, k⟩ := h
      have h4 := hS.w4
      have h32 := hS.w32
      have hl := hS.lst
      have hc := hS.cost
      walk_at "rd"
      refine ⟨w, l, 0, 0, xs, F, rfl, hS, by omega, by omega, by omega, fun H2 q pl2 s2 hq => ?_⟩
      refine ⟨_, _, _, _, rfl, rfl, SqT.of hq, atI_nat (j := 1) rfl, ?_⟩
      walk_at "rd"
      exact k _ s2
  exact ⟨_, fd, _, [], G, T.g_check_steps, F.kp, F.bindsN (fun _ _ _ _ _ _ us hl => match us, hl with | [_, _], _ => rfl), .nil⟩
/-! ### what a run costs -/
theorem vac_f_summed (T : Txt K mg) (n : Nat) : ∃ fd, FnOk P w K mg base CX0 n (He.fAd K df_summed.at_) fd ["steps", "prices"] (fun _ _ _ _ => False) ∧ Binds K fd ["steps", "prices"] [] ∧ PySem.W.keepIn K (.ref (He.fAd K df_summed.at_)) = true := by
  obtain ⟨fd, F0⟩ := T.c.d.def_ 81 (d := df_summed) rfl
  have F : FunD K "summed" "summed" (defArgs sf_summed) (defBody sf_summed) (defScope sf_summed) [] [] (He.fAd K df_summed.at_) fd := F0
  exact ⟨fd, ⟨fun _ _ _ _ h => h.elim, fun _ _ _ _ _ _ _ _ _ _ _ _ _ h => h.elim⟩, F.bindsN (fun _ _ _ _ _ _ us hl => match us, hl with | [_, _], _ => rfl), F.kp⟩
def spSummed (K : PySem.W.Frag) (n : Nat) : Sp := fun vs H Q _ => ∃ (l pr : Addr) (xs : List V) (F : Fo) (w : Nat) (pk : List (Key × V)) (price : Str → Int), vs = [.ref l, .ref pr] ∧ StepsIn K H l xs F w ∧ F.depth < n ∧ H pr = some (.dK pk) ∧
  (∀ x ∈ words, valV pk (Sum.inr x) = some (.int (price x))) ∧ Q (.int (F.ps price)) H
theorem sc_f_summed : FnScope ["steps", "prices", "cost", "step"] ["steps", "prices"] (defScope sf_summed) := ⟨rfl, rfl, rfl, by decide +kernel, rfl, by decide +kernel, by decide +kernel⟩
theorem summed_succ (T : Txt K mg) {n : Nat} (M : Cal P w K mg base (n + 2) "summed" (spSummed K n) []) : Cal P w K mg base ((n+3)) "summed" (spSummed K (n + 1)) [] := by
  obtain ⟨fd, F0⟩ := T.c.d.def_ 81 (d := df_summed) rfl
  have F : FunD K "summed" "summed" (defArgs sf_summed) (defBody sf_summed) (defScope sf_summed) [] [] (He.fAd K df_summed.at_) fd := F0
  have G : FnOk P w K mg base CX0 (n+3) (He.fAd K df_summed.at_) fd ["steps", "prices"] (spSummed K (n + 1)) := by
    refine F.ok (CX := CX0) sc_f_summed (fun vs H Q E h => ?_) (fun cdv A outer s H vs Q E hr h => ⟨_, PSs.nox (by exact (pss_cons (ps_set (i := 2) sc_f_summed.nd rfl (Or.inl rfl) pe_int)
      (pss_cons (ps_for PassesOwn.never rfl (pi_list (pv 0)) (pg_name (i := 3) sc_f_summed.nd rfl (Or.inl rfl)) (pss_one (ps_if (pt_val (pe_callB call_isi rfl T.f_isinstance (by decide +kernel) (pa_cons (pv 3) (pa_cons (pe_gc rfl T.v_Turns) pa_nil)))) (pss_one (ps_set (i := 2) sc_f_summed.nd rfl (Or.inl rfl) (pe_op op_add (pv 2) (pe_op op_mul (pe_fld (pv 3) rfl) (pe_op op_add (pe_dget (hu_of hr) (pv 1) pe_str (fun _ _ => rfl)) (pe_c M hr (by omega) rfl (pa_cons (pe_fld (pv 3) rfl) (pa_cons (pv 1) pa_nil)))))))) (pss_one (ps_set (i := 2) sc_f_summed.nd rfl (Or.inl rfl) (pe_op op_add (pv 2) (pe_dget (hu_of hr) (pv 1) (pe_word T hr (by omega) (pv 3)) (fun _ _ => rfl))))))))
      (pss_one (ps_ret (pv 2)))))), ?_⟩)
    · first
      | (obtain ⟨e, _⟩ := h; subst e; rfl)
      | (obtain ⟨_, e, _⟩ := h; subst e; rfl)
      | (obtain ⟨_, _, e, _⟩ := h; subst e; rfl)
      | (obtain ⟨_, _, _, e, _⟩ := h; subst e; rfl)
      | (obtain ⟨_, _, _, _, e, _⟩ := h; subst e; rfl)
      | (obtain ⟨_, _, _, _, _, e, _⟩ := h; subst e; rfl)
      | (obtain ⟨_, _, _, _, _, _, e, _⟩ := h; subst e; rfl)
      | (obtain ⟨_, _, _, _, _, _, _, e, _⟩ := h; subst e; rfl)
      | (obtain ⟨_, _, _, _, _, _, _, _, e, _⟩ := h; subst e; rfl)
      | (obtain ⟨_, _, _, _, _, _, _, _, _, e, _⟩ := h; subst e; rfl)
      | (obtain ⟨_, _, _, _, _, _, _, _, _, _, e, _⟩ := h; subst e; rfl)
      | (obtain ⟨_, _, _, _, _, _, _, _, _, _, _, e, _⟩ := h; subst e; rfl)
      | (obtain ⟨_, _, _, _, _, _, _, _, _, _, _, _, e, _⟩ := h; subst e; rfl)
      | (obtain ⟨_, _, _, _, _, _, _, _, _, _, _, _, _, e, _⟩ := h; subst e; rfl)
    · skip
      obtain ⟨l, pr, xs, F, w, pk, price, rfl, hS, hdep, hpr, hv, k⟩ := h
      walk_at "rd"
      refine ⟨⟨xs, SqL.of hS.lst⟩, for_list (K := K) (a := l) (xs := xs) (fun i σ H' => H' = H ∧ ∃ (A G : Fo) (v3 : Option V), σ = [some (.ref l), some (.ref pr), some (.int (A.ps price)), v3] ∧ A.app G = F ∧ StepsAt K Any H (xs.drop i) G) ?_ ?_ ?_ ?_⟩
      · exact ⟨rfl, .nil, F, none, rfl, rfl, hS.at_⟩
      · rintro i σ H' _ ⟨rfl, _⟩
        exact SqL.of hS.lst
      · rintro i x σ H1 hi ⟨rfl, A, G, v3, rfl, hFG, hG⟩
        rw [drop_at hi] at hG
        obtain ⟨d, t, rfl, hd1, ht⟩ := hG.cons
        obtain ⟨p1, dx1, fs1, rfl, hp1, hno⟩ := hd1.ins
        have gd := hS.good
        rw [← hFG, app_good] at gd
        have gd1 := (fo_good gd.2).1
        have dd := hdep
        rw [← hFG, app_depth, fo_depth] at dd
        have dc := hS.cost
        rw [← hFG, app_cost, fo_cost] at dc
        refine ⟨_, rfl, _, _, _, _, _, rfl, .own _, T.ty d.cl hp1, T.ktu d.cl, _, rfl, ?_⟩
        cases d with
        | leaf r =>
          refine iteDf (leaf_not_turns r) ?_
          have hg : DGet H1 pr (kV (Sum.inr r.wd)) (some (.int (price r.wd))) := by rw [← hv r.wd (wd_mem _)]; exact DGet.k hpr
          refine ⟨_, rfl, _, rfl, r.cl, _, rfl, p1, dx1, fs1, rfl, hp1, hno.2.2.1, _, rfl, pr, _, rfl, hg, _, _, rfl, rfl, rfl, A.app (Nd.leaf r).one, t, some (.ref p1), ?_, ?_, ht⟩
          · have e : (A.app (Nd.leaf r).one).ps price = A.ps price + price r.wd := by rw [ps_app]; simp [Nd.one, Nd.fo, Fo.ps]
            rw [e]
            rfl
          · rw [app_assoc, one_app]
            exact hFG
        | turns nn b =>
          refine iteDt rfl ?_
          have hb1 : (Nd.turns nn b).one.depth = b.depth + 1 := by simp [Nd.one, Nd.fo, Fo.depth]
          obtain ⟨⟨p', dx, l1, xs1, e, hp2, _, hl1, hb⟩, _⟩ := hd1
          cases e
          have hc1 : (Nd.turns nn b).one.cost = nn * (1 + b.cost) := by simp [Nd.one, Nd.fo, Fo.cost]
          have hc2 : 1 * (1 + b.cost) ≤ nn * (1 + b.cost) := Nat.mul_le_mul_right _ gd1.1.1
          have hS1 : StepsIn K H1 l1 xs1 b w := ⟨hl1, hb, hS.w4, hS.w32, gd1.2.1, by omega⟩
          have hn64 : nn ≤ 64 := gd1.1.2.1
          have hg : DGet H1 pr (kV (Sum.inr ("turns" : Str))) (some (.int (price "turns"))) := by rw [← hv "turns" turns_mem]; exact DGet.k hpr
          refine ⟨_, rfl, _, rfl, _, _, _, _, _, rfl, hp2, T.cls _, T.na_Turns_times, rfl, _, rfl, pr, _, rfl, hg, _, rfl, _, _, _, _, _, rfl, hp2, T.cls _, T.na_Turns_steps, rfl, _, rfl, l1, pr, xs1, b, w, pk, price, rfl, hS1, by omega, hpr, hv, _, _, rfl, rfl, _, _, rfl, rfl, .inl ⟨by omega, by omega⟩, _, _, rfl, rfl, rfl, A.app (Nd.turns nn b).one, t, some (.ref p1), ?_, ?_, ht⟩
          · have e : (A.app (Nd.turns nn b).one).ps price = A.ps price + nn * (price "turns" + b.ps price) := by rw [ps_app]; simp [Nd.one, Nd.fo, Fo.ps]
            rw [e]
            rfl
          · rw [app_assoc, one_app]
            exact hFG
      · rintro σ H1 ⟨rfl, A, G, v3, rfl, hFG, hG⟩
        have eG := hG.end_
        subst eG
        rw [app_nil] at hFG
        subst hFG
        exact ⟨_, rfl, k⟩
  exact ⟨_, fd, _, [], G, T.g_summed, F.kp, F.bindsN (fun _ _ _ _ _ _ us hl => match us, hl with | [_, _], _ => rfl), .nil⟩
theorem cal_f_summed (T : Txt K mg) (n : Nat) : Cal P w K mg base (n + 2) "summed" (spSummed K n) [] := by
  induction n with
  | zero =>
    obtain ⟨fd, G, b, kp⟩ := vac_f_summed (P := P) (w := w) (base := base) T 2
    refine ⟨_, fd, _, [], G.imp fun vs H Q E h => ?_, T.g_summed, kp, b, .nil⟩
    obtain ⟨l, pr, xs, F, w, pk, price, _, _, hd, _⟩ := h
    exact absurd hd (Nat.not_lt_zero _)
  | succ n ih => exact summed_succ T ih
/-! ### go -/
structure GoIn (K : PySem.W.Frag) (G H : Hp) (h m c l : Addr) (xs : List V) (F : Fo) (w : Nat) (s : Sta) : Prop where
  same : Same G H
  lst : G l = some (.lst xs)
  at_ : StepsAt K Any G xs F
  w4 : 4 ≤ w
  w32 : w ≤ 32
  good : F.Good w
  gh : G h = none
  gm : G m = none
  gc : G c = none
  nhc : h ≠ c
  hd : H h = some (.dK s.kv)
  ms : MarksAt H m s.ms
  cn : H c = some (.dK (cntD s.cn))
  wk : Wk w s.kv
  kl : s.kv.length + 2 * F.cost ≤ 10000
  ml : s.ms.length + F.cost ≤ 10000
structure GoOut (h m c : Addr) (s : Sta) (H H' : Hp) : Prop where
  hd : H' h = some (.dK s.kv)
  ms : MarksAt H' m s.ms
  cn : H' c = some (.dK (cntD s.cn))
  kp : ∀ b o, b ≠ h → b ≠ m → b ≠ c → H b = some o → H' b = some o
theorem vac_f_go (T : Txt K mg) (n : Nat) : ∃ fd, FnOk P w K mg base CX0 n (He.fAd K df_go.at_) fd ["width", "steps", "held", "marks", "counts"] (fun _ _ _ _ => False) ∧ Binds K fd ["width", "steps", "held", "marks", "counts"] [] ∧ PySem.W.keepIn K (.ref (He.fAd K df_go.at_)) = true := by
  obtain ⟨fd, F0⟩ := T.c.d.def_ 79 (d := df_go) rfl
  have F : FunD K "go" "go" (defArgs sf_go) (defBody sf_go) (defScope sf_go) [] [] (He.fAd K df_go.at_) fd := F0
  exact ⟨fd, ⟨fun _ _ _ _ h => h.elim, fun _ _ _ _ _ _ _ _ _ _ _ _ _ h => h.elim⟩, F.bindsN (fun _ _ _ _ _ _ us hl => match us, hl with | [_, _, _, _, _], _ => rfl), F.kp⟩
def spGo (K : PySem.W.Frag) (n : Nat) : Sp := fun vs H Q _ => ∃ (G : Hp) (h m c l : Addr) (xs : List V) (F : Fo) (w : Nat) (s : Sta), vs = [.int w, .ref l, .ref h, .ref m, .ref c] ∧ GoIn K G H h m c l xs F w s ∧ F.depth < n ∧
  ∀ H', GoOut h m c (F.run w s) H H' → Q .non H'
theorem GoIn.sameG {G H H' : Hp} {h m c l : Addr} {xs : List V} {F : Fo} {w : Nat} {s s' : Sta} (g : GoIn K G H h m c l xs F w s) (o : GoOut h m c s' H H') : Same G H' := fun b ob e =>
  o.kp b ob (fun z => by rw [z, g.gh] at e; cases e) (fun z => by rw [z, g.gm] at e; cases e) (fun z => by rw [z, g.gc] at e; cases e) (g.same b ob e)
theorem GoOut.tick_ {h m c : Addr} {s : Sta} {H H' : Hp} (o : GoOut h m c s H H') (nhc : h ≠ c) {x : Str} : GoOut h m c ⟨s.kv, s.ms, up s.cn x⟩ H (upd H' c (.dK (cntD (up s.cn x)))) := by
  obtain ⟨vs, h1, h2⟩ := o.ms
  have nmc : m ≠ c := ne_of h1 o.cn (by intro z; cases z)
  refine ⟨by rw [upd_ne nhc]; exact o.hd, ⟨vs, by rw [upd_ne nmc]; exact h1, h2.mono fun p xs e => ?_⟩, upd_same, fun b ob h1 h2 h3 e => by rw [upd_ne h3]; exact o.kp b ob h1 h2 h3 e⟩
  rw [upd_ne (ne_of e o.cn (by intro z; cases z))]
  exact e
theorem iter_more {w : Nat} {b : Fo} {n j : Nat} (s : Sta) (hj : j < n) : (iter (fun s => b.run w (tick s)) j s).kv.length + 2 * b.cost ≤ s.kv.length + 2 * (n * (1 + b.cost)) ∧ (iter (fun s => b.run w (tick s)) j s).ms.length + b.cost ≤ s.ms.length + n * (1 + b.cost) := by
  have h1 := iter_kv (f := fun s => b.run w (tick s)) (c := 2 * b.cost) (fun s => run_kv w b (tick s)) j s
  have h2 := iter_ms (f := fun s => b.run w (tick s)) (c := b.cost) (fun s => run_ms w b (tick s)) j s
  have h3 : (j + 1) * b.cost ≤ n * b.cost := Nat.mul_le_mul_right _ hj
  have h4 : n * b.cost ≤ n * (1 + b.cost) := Nat.mul_le_mul_left _ (by omega)
  rw [Nat.succ_mul] at h3
  rw [Nat.mul_left_comm] at h1
  omega
theorem sc_f_go : FnScope ["width", "steps", "held", "marks", "counts", "step", "turn"] ["width", "steps", "held", "marks", "counts"] (defScope sf_go) := ⟨rfl, rfl, rfl, by decide +kernel, rfl, by decide +kernel, by decide +kernel⟩
theorem go_succ (T : Txt K mg) {n : Nat} (M : Cal P w K mg base (n + 6) "go" (spGo K n) []) : Cal P w K mg base ((n+7)) "go" (spGo K (n + 1)) [] := by
  obtain ⟨fd, F0⟩ := T.c.d.def_ 79 (d := df_go) rfl
  have F : FunD K "go" "go" (defArgs sf_go) (defBody sf_go) (defScope sf_go) [] [] (He.fAd K df_go.at_) fd := F0
  have G : FnOk P w K mg base CX0 (n+7) (He.fAd K df_go.at_) fd ["width", "steps", "held", "marks", "counts"] (spGo K (n + 1)) := by
    refine F.ok (CX := CX0) sc_f_go (fun vs H Q E h => ?_) (fun cdv A outer s H vs Q E hr h => ⟨_, PSs.nox (by exact (pss_one (ps_for PassesOwn.never rfl (pi_list (pv 1)) (pg_name (i := 5) sc_f_go.nd rfl (Or.inl rfl)) (pss_one (ps_if (pt_val (pe_callB call_isi rfl T.f_isinstance (by decide +kernel) (pa_cons (pv 5) (pa_cons (pe_gc rfl T.v_Turns) pa_nil)))) (pss_one (ps_for PassesOwn.never rfl (pi_range1 rfl T.f_range (pa_cons (pe_fld (pv 5) rfl) pa_nil)) (pg_name (i := 6) sc_f_go.nd rfl (Or.inl rfl)) (pss_cons (ps_daug (hu_of hr) (pv 4) pe_str pe_int in_add (fun _ _ _ => rfl))
      (pss_one (ps_expr (pe_c M hr (by omega) rfl (pa_cons (pv 0) (pa_cons (pe_fld (pv 5) rfl) (pa_cons (pv 2) (pa_cons (pv 3) (pa_cons (pv 4) pa_nil))))))))))) (pss_cons (ps_daug (hu_of hr) (pv 4) (pe_word T hr (by omega) (pv 5)) pe_int in_add (fun _ _ _ => rfl))
      (pss_one (ps_expr (pe_do T hr (by omega) (pv 5) (pa_cons (pv 0) (pa_cons (pv 2) (pa_cons (pv 3) pa_nil)))))))))))), ?_⟩)
    · first
      | (obtain ⟨e, _⟩ := h; subst e; rfl)
      | (obtain ⟨_, e, _⟩ := h; subst e; rfl)
      | (obtain ⟨_, _, e, _⟩ := h; subst e; rfl)
      | (obtain ⟨_, _, _, e, _⟩ := h; subst e; rfl)
      | (obtain ⟨_, _, _, _, e, _⟩ := h; subst e; rfl)
      | (obtain ⟨_, _, _, _, _, e, _⟩ := h; subst e; rfl)
      | (obtain ⟨_, _, _, _, _, _, e, _⟩ := h; subst e; rfl)
      | (obtain ⟨_, _, _, _, _, _, _, e, _⟩ := h; subst e; rfl)
      | (obtain ⟨_, _, _, _, _, _, _, _, e, _⟩ := h; subst e; rfl)
      | (obtain ⟨_, _, _, _, _, _, _, _, _, e, _⟩ := h; subst e; rfl)
      | (obtain ⟨_, _, _, _, _, _, _, _, _, _, e, _⟩ := h; subst e; rfl)
      | (obtain ⟨_, _, _, _, _, _, _, _, _, _, _, e, _⟩ := h; subst e; rfl)
      | (obtain ⟨_, _, _, _, _, _, _, _, _, _, _, _, e, _⟩ := h; subst e; rfl)
      | (obtain ⟨_, _, _, _, _, _, _, _, _, _, _, _, _, e, _⟩ := h; subst e; rfl)
    · skip
      obtain ⟨G, h, m, c, l, xs, F, w, s0, rfl, g, hdep, k⟩ := h
      have hlH := g.same _ _ g.lst
      walk_at "rd"
      refine ⟨⟨xs, SqL.of hlH⟩, for_list (K := K) (a := l) (xs := xs) (fun i σ H' => ∃ (A R : Fo) (v5 v6 : Option V), σ = [some (.int w), some (.ref l), some (.ref h), some (.ref m), some (.ref c), v5, v6] ∧ A.app R = F ∧ StepsAt K Any G (xs.drop i) R ∧ GoOut h m c (A.run w s0) H H') ?_ ?_ ?_ ?_⟩
      · exact ⟨.nil, F, none, none, rfl, rfl, g.at_, ⟨g.hd, g.ms, g.cn, fun _ _ _ _ _ e => e⟩⟩
      · rintro i σ H' _ ⟨A, R, v5, v6, _, _, _, o⟩
        exact SqL.of (g.sameG o _ _ g.lst)
      · rintro i x σ H1 hi ⟨A, R, v5, v6, rfl, hFG, hG, o⟩
        rw [drop_at hi] at hG
        obtain ⟨d, t, rfl, hd1, ht⟩ := hG.cons
        obtain ⟨p1, dx1, fs1, rfl, hp1, hno⟩ := hd1.ins
        have sG := g.sameG o
        have gd := g.good
        rw [← hFG, app_good] at gd
        have gd1 := (fo_good gd.2).1
        have dd := hdep
        rw [← hFG, app_depth, fo_depth] at dd
        have kl := g.kl
        rw [← hFG, app_cost, fo_cost] at kl
        have ml := g.ml
        rw [← hFG, app_cost, fo_cost] at ml
        have ka := run_kv w A s0
        have ma := run_ms w A s0
        have wka := run_wk (w := w) (by have := g.w4; omega) A s0 gd.1 g.wk
        refine ⟨_, rfl, _, _, _, _, _, rfl, .own _, T.ty d.cl (sG _ _ hp1), T.ktu d.cl, _, rfl, ?_⟩
        cases d with
        | leaf r =>
          refine iteDf (leaf_not_turns r) ?_
          have hc1 : (Nd.leaf r).one.cost = 1 := by simp [Nd.one, Nd.fo, Fo.cost]
          have hg : DGet H1 c (kV (Sum.inr r.wd)) (some (.int ((A.run w s0).cn r.wd))) := by rw [← valV_cnt _ (wd_mem r.cl)]; exact DGet.k o.cn
          have o1 := o.tick_ g.nhc (x := r.wd)
          refine ⟨_, rfl, r.cl, _, rfl, p1, dx1, fs1, rfl, sG _ _ hp1, hno.2.2.1, _, rfl, c, _, rfl, hg, _, _, rfl, rfl, _, DPut.k (k := Sum.inr r.wd) o.cn (by rw [cnt_len]; decide), ?_⟩
          rw [put_cnt _ (wd_mem r.cl)]
          obtain ⟨⟨p', dx, e, hp2⟩, _⟩ := hd1
          cases e
          obtain ⟨vs1, hm1, hm2⟩ := o1.ms
          have pre : DoPre w r (A.run w s0).kv h m vs1 (upd H1 c (.dK (cntD (up (A.run w s0).cn r.wd)))) := ⟨g.w4, g.w32, gd1.1, o1.hd, wka, by omega, hm1, by rw [hm2.len]; show (A.run w s0).ms.length ≤ _; omega⟩
          have npc : p1 ≠ c := ne_of (sG _ _ hp2) o.cn (by intro z; cases z)
          have hp3 : (upd H1 c (.dK (cntD (up (A.run w s0).cn r.wd)))) p1 = some (.ins (r.cl.ad K) dx r.flds) := by rw [upd_ne npc]; exact sG _ _ hp2
          refine ⟨⟨r.cl, leaf_not_turns r⟩, _, rfl, p1, dx, r.flds, rfl, hp3, by cases r <;> rfl, _, rfl, _, rfl, _, rfl, p1, dx, h, m, r, w, _, vs1, rfl, rfl, hp3, pre, fun H2 post => ?_⟩
          refine ⟨A.app (Nd.leaf r).one, t, some (.ref p1), v6, rfl, ?_, ht, ?_⟩
          · rw [app_assoc, one_app]
            exact hFG
          · rw [run_app]
            obtain ⟨new, hn1, hn2⟩ := post.mks
            refine ⟨post.hd, ⟨_, hn1, hn2.app (hm2.mono fun p ys e => ?_)⟩, ?_, fun b ob h1 h2 h3 e => post.kp b ob h1 h2 (o1.kp b ob h1 h2 h3 e)⟩
            · exact post.kp p _ (ne_of e pre.hd (by intro z; cases z)) (ne_of e pre.mks (by intro z; cases z)) e
            · exact post.kp c _ g.nhc.symm (ne_of o1.cn hm1 (by intro z; cases z)) o1.cn
        | turns nn b =>
          refine iteDt rfl ?_
          have hb1 : (Nd.turns nn b).one.depth = b.depth + 1 := by simp [Nd.one, Nd.fo, Fo.depth]
          have hc1 : (Nd.turns nn b).one.cost = nn * (1 + b.cost) := by simp [Nd.one, Nd.fo, Fo.cost]
          obtain ⟨⟨p', dx, l1, xs1, e, hp2, _, hl1, hb⟩, _⟩ := hd1
          cases e
          have hn64 : nn ≤ 64 := gd1.1.2.1
          refine ⟨_, rfl, _, _, _, _, _, rfl, sG _ _ hp2, T.cls _, T.na_Turns_times, rfl, _, rfl, by omega, by omega, for_range (lo := 0) (n := (nn : Int).toNat) (fun j σ H' => ∃ (v6 : Option V), σ = [some (.int w), some (.ref l), some (.ref h), some (.ref m), some (.ref c), some (.ref p1), v6] ∧ GoOut h m c (iter (fun s => b.run w (tick s)) j (A.run w s0)) H H') ⟨v6, rfl, o⟩ ?_ ?_⟩
          · rintro j σ H2 hj ⟨v6', rfl, o2⟩
            have hj2 : j < nn := by omega
            have sG2 := g.sameG o2
            have o3 := o2.tick_ g.nhc (x := "turns")
            have hg : DGet H2 c (kV (Sum.inr ("turns" : Str))) (some (.int ((iter (fun s => b.run w (tick s)) j (A.run w s0)).cn "turns"))) := by rw [← valV_cnt _ turns_mem]; exact DGet.k o2.cn
            refine ⟨_, rfl, c, _, rfl, hg, _, _, rfl, rfl, _, DPut.k (k := Sum.inr ("turns" : Str)) o2.cn (by rw [cnt_len]; decide), ?_⟩
            rw [put_cnt _ turns_mem]
            have im := iter_more (w := w) (b := b) (A.run w s0) hj2
            have wk2 := iter_wk (f := fun s => b.run w (tick s)) (fun s hs => run_wk (w := w) (by have := g.w4; omega) b (tick s) gd1.2.1 hs) j (A.run w s0) wka
            have g2 : GoIn K G (upd H2 c (.dK (cntD (up (iter (fun s => b.run w (tick s)) j (A.run w s0)).cn "turns")))) h m c l1 xs1 b w (tick (iter (fun s => b.run w (tick s)) j (A.run w s0))) :=
              ⟨g.sameG o3, hl1, hb, g.w4, g.w32, gd1.2.1, g.gh, g.gm, g.gc, g.nhc, o3.hd, o3.ms, o3.cn, wk2, by show (iter (fun s => b.run w (tick s)) j (A.run w s0)).kv.length + _ ≤ _; omega, by show (iter (fun s => b.run w (tick s)) j (A.run w s0)).ms.length + _ ≤ _; omega⟩
            refine ⟨_, rfl, _, rfl, _, _, _, _, _, rfl, g.sameG o3 _ _ hp2, T.cls _, T.na_Turns_steps, rfl, _, rfl, _, rfl, _, rfl, G, h, m, c, l1, xs1, b, w, _, rfl, g2, by omega, fun H3 o4 => ?_⟩
            refine ⟨some (.int (0 + (j : Int))), rfl, ?_⟩
            rw [iter_succ]
            exact ⟨o4.hd, o4.ms, o4.cn, fun b ob h1 h2 h3 e => o4.kp b ob h1 h2 h3 (o3.kp b ob h1 h2 h3 e)⟩
          · rintro σ H2 ⟨v6', rfl, o2⟩
            refine ⟨A.app (Nd.turns nn b).one, t, some (.ref p1), v6', rfl, ?_, ht, ?_⟩
            · rw [app_assoc, one_app]
              exact hFG
            · rw [run_app]
              exact o2
      · rintro σ H1 ⟨A, R, v5, v6, rfl, hFG, hG, o⟩
        have eG := hG.end_
        subst eG
        rw [app_nil] at hFG
        subst hFG
        exact k _ o
  exact ⟨_, fd, _, [], G, T.g_go, F.kp, F.bindsN (fun _ _ _ _ _ _ us hl => match us, hl with | [_, _, _, _, _], _ => rfl), .nil⟩
theorem cal_f_go (T : Txt K mg) (n : Nat) : Cal P w K mg base (n + 6) "go" (spGo K n) [] := by
  induction n with
  | zero =>
    obtain ⟨fd, G, b, kp⟩ := vac_f_go (P := P) (w := w) (base := base) T 6
    refine ⟨_, fd, _, [], G.imp fun vs H Q E h => ?_, T.g_go, kp, b, .nil⟩
    obtain ⟨G, h, m, c, l, xs, F, w, s0, _, _, hd, _⟩ := h
    exact absurd hd (Nat.not_lt_zero _)
  | succ n ih => exact go_succ T ih
end
end K73

set_option maxHeartbeats 4000000
/-! the machine, further: need_registers, run_steps -/
namespace K73
open PySem PySem.Spec PyProof.Rows L2
open C8 (Cal Mak Met pe_c pe_mk pe_mt pe_mt0 pe_gc)
local macro_rules | `(tactic| walk_at "rd") => `(tactic| repeat (first | refine ⟨_, rfl, ?_⟩ | refine ⟨_, _, rfl, rfl, ?_⟩ | refine ⟨_, rfl, rfl, ?_⟩ | refine ⟨_, _, rfl, ?_⟩ | refine ⟨_, _, _, rfl, ?_⟩ | refine ⟨_, _, _, _, rfl, ?_⟩ | refine And.intro rfl ?_ | refine And.intro trivial ?_ | refine And.intro (le_sz (Nat.le_of_ble_eq_true rfl)) ?_ | refine And.intro (le_sz (by omega)) ?_ | refine iteT ?_ | refine iteF ?_ | refine iteDt (by omega) ?_ | refine iteDf (by omega) ?_ | refine iteNt (by omega) ?_ | refine iteNf (by omega) ?_ | refine And.intro (by omega) ?_ | refine ⟨_, _, _, _, _, rfl, .ty _, .base (.str _), kit_ss, ?_⟩ | refine ⟨_, _, _, _, _, rfl, .ty _, .base (.lst (by assumption)), kit_ll, ?_⟩ | refine ⟨_, _, _, _, _, rfl, .ty _, .base (.dK (by assumption)), kit_dd, ?_⟩ | refine ⟨_, _, _, _, _, rfl, .ty _, .base (.tup (by assumption)), kit_tt, ?_⟩))

theorem Wk.keys {w : Nat} {kv : List (Key × V)} (h : Wk w kv) : ∃ ks : List Str, kv.map (·.1) = ks.map Sum.inr ∧ ∀ z ∈ ks, IsReg z := by
  have : ∀ kv : List (Key × V), (∀ p ∈ kv, ∃ z i, p.1 = Sum.inr z ∧ IsReg z ∧ p.2 = .int i ∧ 0 ≤ i ∧ i < (2 : Int) ^ w) → ∃ ks : List Str, kv.map (·.1) = ks.map Sum.inr ∧ ∀ z ∈ ks, IsReg z := by
    intro kv
    induction kv with
    | nil => intro _; exact ⟨[], rfl, fun _ h => by cases h⟩
    | cons p r ih =>
      intro h
      obtain ⟨ks, e, hk⟩ := ih fun q hq => h q (List.mem_cons_of_mem _ hq)
      obtain ⟨z, i, e1, hz, _⟩ := h p (List.mem_cons_self ..)
      refine ⟨z :: ks, by rw [List.map_cons, e, e1]; rfl, fun y hy => ?_⟩
      rcases List.mem_cons.mp hy with rfl | hy
      · exact hz
      · exact hk y hy
  exact this kv h.ok
theorem key_at {kv : List (Key × V)} {ks : List Str} (e : kv.map (·.1) = ks.map Sum.inr) {i : Nat} {k : Key} {v : V} (h : kv[i]? = some (k, v)) : ∃ z, ks[i]? = some z ∧ k = Sum.inr z := by
  have h1 : (kv.map (·.1))[i]? = some k := by rw [List.getElem?_map, h]; rfl
  rw [e, List.getElem?_map] at h1
  cases q : ks[i]? with
  | none => rw [q] at h1; cases h1
  | some z => rw [q] at h1; exact ⟨z, rfl, (Option.some.inj h1).symm⟩
theorem same_unlock {H H' : Hp} {d : Addr} {u f : HO} (hd : H d = some u) (s : Same (upd H d f) H') : Same H (upd H' d u) := fun b o e => by
  by_cases h : b = d
  · subst h
    rw [hd] at e
    rw [upd_same]
    exact e
  · rw [upd_ne h]
    exact s b o (by rw [upd_ne h]; exact e)
theorem take_snoc {α : Type} {l : List α} {i : Nat} {x : α} (h : l[i]? = some x) : l.take (i + 1) = l.take i ++ [x] := by
  rw [List.take_succ, h]
  rfl
section
variable {X : Cx} {L : PySem.W.Frag}
theorem call_isiE (hL : X.K = L := by rfl) : CallR X (.builtin "isinstance") (rIsi L) := by
  subst hL
  exact call_isi
theorem ix_tupE (hL : X.K = L := by rfl) : IxR X (rIxT L) := by
  subst hL
  exact ix_tup
theorem ix_listE (hL : X.K = L := by rfl) : IxR X (rIxL L) := by
  subst hL
  exact ix_list
end
section
variable {P : Program} {w : World} {K : PySem.W.Frag} {mg : Str → Option Value} {base : Heap}
def spNeedR (K : PySem.W.Frag) : Sp := fun vs H Q _ => ∃ (w : Nat) (d : Addr) (kv : List (Key × V)), vs = [.int w, .ref d] ∧ (4 ≤ w ∧ w ≤ 32) ∧ H d = some (.dK kv) ∧ Wk w kv ∧ kv.length ≤ 60 ∧ ∀ H', Same H H' → Q .non H'
theorem sc_f_need_registers : FnScope ["width", "registers", "name", "others", "texts"] ["width", "registers"] (defScope sf_need_registers) := ⟨rfl, rfl, rfl, by decide +kernel, rfl, by decide +kernel, by decide +kernel⟩
theorem cal_f_need_registers (T : Txt K mg) : Cal P w K mg base (3) "need_registers" (spNeedR K) [] := by
  obtain ⟨fd, F0⟩ := T.c.d.def_ 78 (d := df_need_registers) rfl
  have F : FunD K "need_registers" "need_registers" (defArgs sf_need_registers) (defBody sf_need_registers) (defScope sf_need_registers) [] [] (He.fAd K df_need_registers.at_) fd := F0
  have G : FnOk P w K mg base CX0 3 (He.fAd K df_need_registers.at_) fd ["width", "registers"] (spNeedR K) := by
    refine F.ok (CX := CX0) sc_f_need_registers (fun vs H Q E h => ?_) (fun cdv A outer s H vs Q E hr h => ⟨_, PSs.nox (by exact (pss_cons (ps_lock (ps_setLc (i := 3) (own := [("name", 2)]) (g := gName 2) (tt := _) rfl sc_f_need_registers.nd rfl rfl (sw_true rfl rfl rfl (by decide +kernel)) (pi_keys (pv 1)) (blkOk_by (N := ["width", "registers", "name", "others", "texts"]) (sc := defScope sf_need_registers) (by decide +kernel)) (fun _ _ _ _ _ => pg_name (i := 2) sc_f_need_registers.nd rfl (Or.inl rfl)) (fun _ _ _ _ _ => pts_one (pt_not (pt_val (pe_callB (call_isiE (L := K)) rfl T.f_isinstance (by decide +kernel) (pa_cons (pv 2) (pa_cons (pe_bltn (v := .ty "str") rfl T.f_str (by decide +kernel) rfl) pa_nil)))))) (fun _ _ _ _ _ => (pv 2))))
      (pss_cons (ps_set (i := 4) sc_f_need_registers.nd rfl (Or.inl rfl) (pe_callB cr_sortedS rfl T.f_sorted (by decide +kernel) (pa_cons (pe_lock (pe_lc (own := [("name", 2)]) (g := gName 2) (tt := _) rfl sc_f_need_registers.nd (pi_keys (pv 1)) (blkOk_by (N := ["width", "registers", "name", "others", "texts"]) (sc := defScope sf_need_registers) (by decide +kernel)) (fun _ _ _ _ _ => pg_name (i := 2) sc_f_need_registers.nd rfl (Or.inl rfl)) (fun _ _ _ _ _ => pts_one (pt_val (pe_callB (call_isiE (L := K)) rfl T.f_isinstance (by decide +kernel) (pa_cons (pv 2) (pa_cons (pe_bltn (v := .ty "str") rfl T.f_str (by decide +kernel) rfl) pa_nil))))) (fun _ _ _ _ _ => (pv 2)))) pa_nil)))
      (pss_one (ps_for PassesOwn.never rfl (pi_list (pe_op op_cat (pv 3) (pv 4))) (pg_name (i := 2) sc_f_need_registers.nd rfl (Or.inl rfl)) (pss_one (ps_if (PW.pt (pw_or (pt_not (pt_val (pe_c (cal_f_is_register T) hr (by omega) rfl (pa_cons (pv 2) pa_nil)))) (pw_or1 (pt_not (pt_val (pe_c (cal_f_within T) hr (by omega) rfl (pa_cons (pe_dget (hu_of hr) (pv 1) (pv 2) (fun _ _ => rfl)) (pa_cons pe_int (pa_cons (pe_op op_sub (pe_op op_oneShl pe_int (pv 0)) pe_int) pa_nil))))))))) (pss_one ps_never) pss_nil))))))), ?_⟩)
    · first
      | (obtain ⟨e, _⟩ := h; subst e; rfl)
      | (obtain ⟨_, e, _⟩ := h; subst e; rfl)
      | (obtain ⟨_, _, e, _⟩ := h; subst e; rfl)
      | (obtain ⟨_, _, _, e, _⟩ := h; subst e; rfl)
      | (obtain ⟨_, _, _, _, e, _⟩ := h; subst e; rfl)
      | (obtain ⟨_, _, _, _, _, e, _⟩ := h; subst e; rfl)
      | (obtain ⟨_, _, _, _, _, _, e, _⟩ := h; subst e; rfl)
      | (obtain ⟨_, _, _, _, _, _, _, e, _⟩ := h; subst e; rfl)
      | (obtain ⟨_, _, _, _, _, _, _, _, e, _⟩ := h; subst e; rfl)
      | (obtain ⟨_, _, _, _, _, _, _, _, _, e, _⟩ := h; subst e; rfl)
      | (obtain ⟨_, _, _, _, _, _, _, _, _, _, e, _⟩ := h; subst e; rfl)
      | (obtain ⟨_, _, _, _, _, _, _, _, _, _, _, e, _⟩ := h; subst e; rfl)
      | (obtain ⟨_, _, _, _, _, _, _, _, _, _, _, _, e, _⟩ := h; subst e; rfl)
      | (obtain ⟨_, _, _, _, _, _, _, _, _, _, _, _, _, e, _⟩ := h; subst e; rfl)
    · skip
      obtain ⟨w, d, kv, rfl, ⟨h4, h32⟩, hd, wk, hlen, k⟩ := h
      obtain ⟨ks, eks, hreg⟩ := wk.keys
      have lks : ks.length = kv.length := by
        have := congrArg List.length eks
        rw [List.length_map, List.length_map] at this
        exact this.symm
      -- others
      refine ⟨d, _, hd, trivial, fun od => ?_⟩
      refine ⟨_, rfl, d, od, rfl, .inl ⟨kv, upd_same, fun D hD => ?_⟩⟩
      have nD : D ≠ d := fun z => by rw [z, upd_same] at hD; cases hD
      refine lc_it walk_keys (fun i H' => H' D = some (.lst []) ∧ Same (upd H d (.frz od (.dK kv))) H') ⟨upd_same, same_new hD⟩ (fun _ _ _ q => q.2 _ _ upd_same) ?_ ?_
      · rintro i x H1 H2 hi ⟨h1, h2⟩ ⟨rfl, kk, v, hk, rfl⟩
        obtain ⟨z, hz, rfl⟩ := key_at eks hk
        walk_at "rd"
        exact h2
      rintro H1 ⟨h1, s1⟩
      refine ⟨s1 _ _ upd_same, ?_⟩
      have hd1 : (upd H1 d (.dK kv)) d = some (.dK kv) := upd_same
      have s1' : Same H (upd H1 d (.dK kv)) := same_unlock hd s1
      have hD1 : (upd H1 d (.dK kv)) D = some (.lst []) := by rw [upd_ne nD]; exact h1
      generalize hHa : upd H1 d (HO.dK kv) = Ha at hd1 s1' hD1 ⊢
      -- texts
      refine ⟨d, _, hd1, trivial, fun od2 => ?_⟩
      refine ⟨_, rfl, d, od2, rfl, .inl ⟨kv, upd_same, fun E2 hE => ?_⟩⟩
      have nE : E2 ≠ d := fun z => by rw [z, upd_same] at hE; cases hE
      refine lc_it walk_keys (fun i H' => H' E2 = some (.lst ((ks.take i).map V.str)) ∧ Same (upd Ha d (.frz od2 (.dK kv))) H') ⟨upd_same, same_new hE⟩ (fun _ _ _ q => q.2 _ _ upd_same) ?_ ?_
      · rintro i x H1 H2 hi ⟨h1, h2⟩ ⟨rfl, kk, v, hk, rfl⟩
        obtain ⟨z, hz, rfl⟩ := key_at eks hk
        have hil : i < ks.length := (List.getElem?_eq_some_iff.mp hz).1
        walk_at "rd"
        refine ⟨_, h1, ?_, ?_, same_mut h2 hE⟩
        · rw [List.length_map, List.length_take]
          exact lt_sz (by omega)
        · rw [upd_same, take_snoc hz, List.map_append]
          rfl
      rintro H2 ⟨h2, s2⟩
      refine ⟨s2 _ _ upd_same, ?_⟩
      have s2' : Same Ha (upd H2 d (.dK kv)) := same_unlock hd1 s2
      have hE1 : (upd H2 d (.dK kv)) E2 = some (.lst (ks.map V.str)) := by
        rw [upd_ne nE, h2, ← lks, List.take_length]
      generalize hHb : upd H2 d (HO.dK kv) = Hb at s2' hE1 ⊢
      refine ⟨E2, ks, rfl, SqL.of hE1, by omega, fun ys p hperm hsrt hp => ?_⟩
      have sp1 := same_new (o := .lst (ys.map V.str)) hp
      have hD2 : (upd Hb p (.lst (ys.map V.str))) D = some (.lst []) := sp1 _ _ (s2' _ _ hD1)
      refine ⟨_, rfl, _, rfl, _, _, _, _, rfl, rfl, hD2, upd_same, le_sz (by rw [List.length_map, hperm.length_eq]; show 0 + _ ≤ _; omega), fun q hq => ?_⟩
      have sq1 := same_new (o := .lst ([] ++ ys.map V.str)) hq
      have sAll : Same H (upd (upd Hb p (.lst (ys.map V.str))) q (.lst ([] ++ ys.map V.str))) := ((s1'.trans s2').trans sp1).trans sq1
      refine ⟨q, rfl, ⟨_, SqL.of upd_same⟩, for_list (K := K) (a := q) (xs := ys.map V.str) (fun i σ H' => (∃ v2 : Option V, σ = [some (.int w), some (.ref d), v2, some (.ref D), some (.ref p)]) ∧ Same (upd (upd Hb p (.lst (ys.map V.str))) q (.lst ([] ++ ys.map V.str))) H') ?_ ?_ ?_ ?_⟩
      · exact ⟨⟨_, rfl⟩, Same.refl _⟩
      · rintro i σ H' _ ⟨_, s3⟩
        exact SqL.of (s3 _ _ upd_same)
      · rintro i x σ H3 hi ⟨⟨v2, rfl⟩, s3⟩
        obtain ⟨z, hz, rfl⟩ : ∃ z, ys[i]? = some z ∧ x = V.str z := by
          rw [List.getElem?_map] at hi
          cases e : ys[i]? with
          | none => rw [e] at hi; cases hi
          | some z => rw [e] at hi; exact ⟨z, rfl, (Option.some.inj hi).symm⟩
        have hzk : z ∈ ks := hperm.mem_iff.mp (List.mem_of_getElem? hz)
        have hzr := hreg z hzk
        obtain ⟨v, hv⟩ : ∃ v, valV kv (Sum.inr z) = some v := by
          have h1 : (Sum.inr z : Key) ∈ kv.map (·.1) := by rw [eks]; exact List.mem_map_of_mem hzk
          obtain ⟨pp, hp1, hp2⟩ := List.mem_map.mp h1
          exact ⟨pp.2, by rw [← hp2]; exact mem_valV wk.nd hp1⟩
        obtain ⟨_, iv, _, _, h3, h5, h6⟩ := wk.ok _ (valV_mem hv)
        have h3 : v = .int iv := h3
        subst h3
        refine ⟨_, rfl, z, rfl, hzr, fun H4 s4 => ?_⟩
        have s34 := s3.trans s4
        have hd4 : H4 d = some (.dK kv) := s34 _ _ (sAll _ _ hd)
        refine ⟨_, rfl, iteF ?_⟩
        refine ⟨_, rfl, _, rfl, d, _, rfl, by rw [← hv]; exact DGet.k (k := Sum.inr z) hd4, ?_⟩
        walk_at "rd"
        exact ⟨⟨_, rfl⟩, s34⟩
      · rintro σ H3 ⟨⟨v2, rfl⟩, s3⟩
        exact k _ (sAll.trans s3)
  exact ⟨_, fd, _, [], G, T.g_need_registers, F.kp, F.bindsN (fun _ _ _ _ _ _ us hl => match us, hl with | [_, _], _ => rfl), .nil⟩
theorem valV_out {z : Str} : ∀ l : List Str, z ∉ l → valV (l.map fun x => ((Sum.inr x : Key), V.int 0)) (Sum.inr z) = none
  | [], _ => rfl
  | y :: l, h => by
    rw [List.map_cons, valV_neg fun e => h (by rw [← Sum.inr.inj e]; exact List.mem_cons_self ..)]
    exact valV_out l fun e => h (List.mem_cons_of_mem _ e)
theorem nd_take {α : Type} {l : List α} (nd : l.Nodup) {i : Nat} {x : α} (h : l[i]? = some x) : x ∉ l.take i := fun hm => by
  obtain ⟨j, hj⟩ := List.mem_iff_getElem?.mp hm
  have hlt : j < i := by
    have := (List.getElem?_eq_some_iff.mp hj).1
    rw [List.length_take] at this
    omega
  rw [List.getElem?_take_of_lt hlt] at hj
  have := nd_ix nd hj h
  omega
structure RunOut (q a b c : Addr) (s : Sta) (H' : Hp) : Prop where
  tup : H' q = some (.tup [.ref a, .ref b, .ref c])
  hd : H' a = some (.dK s.kv)
  ms : MarksAt H' b s.ms
  cn : H' c = some (.dK (cntD s.cn))
def spRunS (K : PySem.W.Frag) : Sp := fun vs H Q _ => ∃ (w : Nat) (l d : Addr) (xs : List V) (F : Fo) (kv : List (Key × V)), vs = [.int w, .ref l, .ref d] ∧ StepsIn K H l xs F w ∧ F.depth ≤ 5 ∧ H d = some (.dK kv) ∧ Wk w kv ∧ kv.length ≤ 60 ∧
  ∀ H' q a b c, Same H H' → RunOut q a b c (F.run w ⟨kv, [], zeroC⟩) H' → Q (.ref q) H'
theorem sc_f_run_steps : FnScope ["width", "steps", "registers", "held", "marks", "counts", "word"] ["width", "steps", "registers"] (defScope sf_run_steps) := ⟨rfl, rfl, rfl, by decide +kernel, rfl, by decide +kernel, by decide +kernel⟩
theorem cal_f_run_steps (T : Txt K mg) : Cal P w K mg base (13) "run_steps" (spRunS K) [] := by
  obtain ⟨fd, F0⟩ := T.c.d.def_ 80 (d := df_run_steps) rfl
  have F : FunD K "run_steps" "run_steps" (defArgs sf_run_steps) (defBody sf_run_steps) (defScope sf_run_steps) [] [] (He.fAd K df_run_steps.at_) fd := F0
  have G : FnOk P w K mg base CX0 13 (He.fAd K df_run_steps.at_) fd ["width", "steps", "registers"] (spRunS K) := by
    refine F.ok (CX := CX0) sc_f_run_steps (fun vs H Q E h => ?_) (fun cdv A outer s H vs Q E hr h => ⟨_, PSs.nox (by exact (pss_cons (ps_expr (pe_c (cal_f_check_steps T) hr (by omega) rfl (pa_cons (pv 0) (pa_cons (pv 1) pa_nil))))
      (pss_cons (ps_expr (pe_c (cal_f_need_registers T) hr (by omega) rfl (pa_cons (pv 0) (pa_cons (pv 2) pa_nil))))
      (pss_cons (ps_set (i := 3) sc_f_run_steps.nd rfl (Or.inl rfl) (pe_callTy call_dictD rfl T.f_dict (by decide +kernel) (pa_cons (pv 2) pa_nil)))
      (pss_cons (ps_set (i := 4) sc_f_run_steps.nd rfl (Or.inl rfl) (pe_lst pa_nil))
      (pss_cons (ps_set (i := 5) sc_f_run_steps.nd rfl (Or.inl rfl) pe_dnewK)
      (pss_cons (ps_for PassesOwn.never rfl (pi_list (pe_c0 (cal_f_row_words T) hr (by omega) rfl)) (pg_name (i := 6) sc_f_run_steps.nd rfl (Or.inl rfl)) (pss_one (ps_dput (hu_of hr) (pv 5) (pv 6) pe_int rfl)))
      (pss_cons (ps_expr (pe_c (cal_f_go T 6) hr (by omega) rfl (pa_cons (pv 0) (pa_cons (pv 1) (pa_cons (pv 3) (pa_cons (pv 4) (pa_cons (pv 5) pa_nil)))))))
      (pss_one (ps_ret (pe_tup (pa_cons (pv 3) (pa_cons (pv 4) (pa_cons (pv 5) pa_nil)))))))))))))), ?_⟩)
    · first
      | (obtain ⟨e, _⟩ := h; subst e; rfl)
      | (obtain ⟨_, e, _⟩ := h; subst e; rfl)
      | (obtain ⟨_, _, e, _⟩ := h; subst e; rfl)
      | (obtain ⟨_, _, _, e, _⟩ := h; subst e; rfl)
      | (obtain ⟨_, _, _, _, e, _⟩ := h; subst e; rfl)
      | (obtain ⟨_, _, _, _, _, e, _⟩ := h; subst e; rfl)
      | (obtain ⟨_, _, _, _, _, _, e, _⟩ := h; subst e; rfl)
      | (obtain ⟨_, _, _, _, _, _, _, e, _⟩ := h; subst e; rfl)
      | (obtain ⟨_, _, _, _, _, _, _, _, e, _⟩ := h; subst e; rfl)
      | (obtain ⟨_, _, _, _, _, _, _, _, _, e, _⟩ := h; subst e; rfl)
      | (obtain ⟨_, _, _, _, _, _, _, _, _, _, e, _⟩ := h; subst e; rfl)
      | (obtain ⟨_, _, _, _, _, _, _, _, _, _, _, e, _⟩ := h; subst e; rfl)
      | (obtain ⟨_, _, _, _, _, _, _, _, _, _, _, _, e, _⟩ := h; subst e; rfl)
      | (obtain ⟨_, _, _, _, _, _, _, _, _, _, _, _, _, e, _⟩ := h; subst e; rfl)
    · skip
      obtain ⟨w, l, d, xs, F, kv, rfl, hS, hdep, hd, wk, hlen, k⟩ := h
      refine ⟨_, rfl, _, rfl, w, l, xs, F, rfl, hS, hdep, fun H1 s1 => ?_⟩
      refine ⟨_, rfl, _, rfl, w, d, kv, rfl, ⟨hS.w4, hS.w32⟩, s1 _ _ hd, wk, hlen, fun H2 s2 => ?_⟩
      have s12 := s1.trans s2
      refine ⟨_, rfl, d, kv, rfl, .inl (s12 _ _ hd), fun h hh => ?_⟩
      have s3 := same_new (o := .dK kv) hh
      refine ⟨le_sz (Nat.le_of_ble_eq_true rfl), fun m hm => ?_⟩
      have s4 := same_new (o := .lst []) hm
      refine fun c hc => ?_
      have s5 := same_new (o := .dK []) hc
      refine ⟨rfl, fun rw_ hrw => ?_⟩
      have s6 := same_new (o := .lst (words.map V.str)) hrw
      generalize hHx : upd (upd (upd (upd H2 h (HO.dK kv)) m (HO.lst [])) c (HO.dK [])) rw_ (HO.lst (words.map V.str)) = Hx at s6 ⊢
      have hhx : Hx h = some (.dK kv) := s6 _ _ (s5 _ _ (s4 _ _ upd_same))
      have hmx : Hx m = some (.lst []) := s6 _ _ (s5 _ _ upd_same)
      have hcx : Hx c = some (.dK []) := s6 _ _ upd_same
      have hrx : Hx rw_ = some (.lst (words.map V.str)) := by rw [← hHx, upd_same]
      have sx : Same H Hx := (((s12.trans s3).trans s4).trans s5).trans s6
      have nhc : h ≠ c := ne_of_none (s4 _ _ upd_same) hc
      have Hh : H h = none := s12.free hh
      have Hm : H m = none := (s12.trans s3).free hm
      have Hc : H c = none := ((s12.trans s3).trans s4).free hc
      have nrc : rw_ ≠ c := ne_of hrx hcx (by intro z; cases z)
      refine ⟨rw_, rfl, ⟨_, SqL.of hrx⟩, for_list (K := K) (a := rw_) (xs := words.map V.str) (fun i σ H' => (∃ v6 : Option V, σ = [some (.int w), some (.ref l), some (.ref d), some (.ref h), some (.ref m), some (.ref c), v6]) ∧ H' c = some (.dK ((words.take i).map fun x => ((Sum.inr x : Key), V.int 0))) ∧ ∀ b o, b ≠ c → Hx b = some o → H' b = some o) ?_ ?_ ?_ ?_⟩
      · exact ⟨⟨none, rfl⟩, hcx, fun _ _ _ e => e⟩
      · rintro i σ H' _ ⟨_, _, kp⟩
        exact SqL.of (kp _ _ nrc hrx)
      · rintro i x σ H3 hi ⟨⟨v6, rfl⟩, h1, kp⟩
        obtain ⟨z, hz, rfl⟩ : ∃ z, words[i]? = some z ∧ x = V.str z := by
          rw [List.getElem?_map] at hi
          cases e : words[i]? with
          | none => rw [e] at hi; cases hi
          | some z => rw [e] at hi; exact ⟨z, rfl, (Option.some.inj hi).symm⟩
        have hil : i < words.length := (List.getElem?_eq_some_iff.mp hz).1
        have h16 : words.length = 16 := rfl
        refine ⟨_, rfl, _, rfl, c, _, rfl, DPut.k (k := Sum.inr z) h1 (lt_sz (by rw [List.length_map, List.length_take]; omega)), ⟨_, rfl⟩, ?_, fun b o hb e => by rw [upd_ne hb]; exact kp b o hb e⟩
        rw [upd_same, putK_new _ (valV_out _ (nd_take words_nd hz)), take_snoc hz, List.map_append]
        rfl
      · rintro σ H3 ⟨⟨v6, rfl⟩, h1, kp⟩
        have h1 : H3 c = some (.dK (cntD zeroC)) := by
          rw [h1, List.length_map, List.take_length]
          rfl
        have nm : m ≠ c := ne_of hmx hcx (by intro z; cases z)
        have s3' : Same H H3 := fun b o e => kp b o (fun z => by rw [z, Hc] at e; cases e) (sx b o e)
        have hc3 := hS.cost
        have g : GoIn K H H3 h m c l xs F w ⟨kv, [], zeroC⟩ := ⟨s3', hS.lst, hS.at_, hS.w4, hS.w32, hS.good, Hh, Hm, Hc, nhc, kp _ _ nhc hhx, ⟨[], kp _ _ nm hmx, trivial⟩, h1, wk, by show kv.length + _ ≤ _; omega, by show 0 + _ ≤ _; omega⟩
        refine ⟨_, rfl, _, rfl, _, rfl, _, rfl, _, rfl, H, h, m, c, l, xs, F, w, _, rfl, g, by omega, fun H4 o => ?_⟩
        refine ⟨_, rfl, _, rfl, _, rfl, le_sz (Nat.le_of_ble_eq_true rfl), fun q hq => ?_⟩
        have s7 := same_new (o := .tup [.ref h, .ref m, .ref c]) hq
        obtain ⟨vs, hm1, hm2⟩ := o.ms
        exact k _ q h m c ((g.sameG o).trans s7) ⟨upd_same, s7 _ _ o.hd, ⟨vs, s7 _ _ hm1, hm2.mono fun p ys e => s7 _ _ e⟩, s7 _ _ o.cn⟩
  exact ⟨_, fd, _, [], G, T.g_run_steps, F.kp, F.bindsN (fun _ _ _ _ _ _ us hl => match us, hl with | [_, _, _], _ => rfl), .nil⟩
end
end K73

set_option maxHeartbeats 4000000
/-! prices refused; what a run costs -/
namespace K73
open PySem PySem.Spec PyProof.Rows L2
open C8 (Cal Mak Met pe_c pe_mk pe_mt pe_mt0 pe_gc)
local macro_rules | `(tactic| walk_at "rd") => `(tactic| repeat (first | refine ⟨_, rfl, ?_⟩ | refine ⟨_, _, rfl, rfl, ?_⟩ | refine ⟨_, rfl, rfl, ?_⟩ | refine ⟨_, _, rfl, ?_⟩ | refine ⟨_, _, _, rfl, ?_⟩ | refine ⟨_, _, _, _, rfl, ?_⟩ | refine And.intro rfl ?_ | refine And.intro trivial ?_ | refine And.intro (le_sz (Nat.le_of_ble_eq_true rfl)) ?_ | refine And.intro (le_sz (by omega)) ?_ | refine iteT ?_ | refine iteF ?_ | refine iteDt (by omega) ?_ | refine iteDf (by omega) ?_ | refine iteNt (by omega) ?_ | refine iteNf (by omega) ?_ | refine And.intro (by omega) ?_ | refine ⟨_, _, _, _, _, rfl, .ty _, .base (.str _), kit_ss, ?_⟩ | refine ⟨_, _, _, _, _, rfl, .ty _, .base (.lst (by assumption)), kit_ll, ?_⟩ | refine ⟨_, _, _, _, _, rfl, .ty _, .base (.dK (by assumption)), kit_dd, ?_⟩ | refine ⟨_, _, _, _, _, rfl, .ty _, .base (.tup (by assumption)), kit_tt, ?_⟩))

theorem oexB_ok {K : PySem.W.Frag} {C : Addr} (h : oexB K C = true) : OexC K C := by
  obtain ⟨h1, h⟩ := Bool.and_eq_true_iff.mp h
  obtain ⟨h2, h⟩ := Bool.and_eq_true_iff.mp h
  obtain ⟨h3, h⟩ := Bool.and_eq_true_iff.mp h
  obtain ⟨h4, h5⟩ := Bool.and_eq_true_iff.mp h
  refine ⟨?_, of_decide_eq_true h2, of_decide_eq_true h3, of_decide_eq_true h4, h5⟩
  split at h1
  · rename_i dd cd sl e
    split at h1
    · rename_i C' bm k0 k1 k2 k3 n k5 em es
      obtain ⟨a1, h1⟩ := Bool.and_eq_true_iff.mp h1
      obtain ⟨a2, h1⟩ := Bool.and_eq_true_iff.mp h1
      obtain ⟨a3, h1⟩ := Bool.and_eq_true_iff.mp h1
      obtain ⟨a4, a5⟩ := Bool.and_eq_true_iff.mp h1
      have a1 : C' = C := eq_of_beq a1
      have a2 : n = "ValueError.__new__" := eq_of_beq a2
      subst a1 a2
      obtain ⟨nm, bs, mro, ns, qn, hd, sn, sb, ab, col, del⟩ := cd
      have em : mro = .ref C' :: bm := em
      have a4 : hd = true := a4
      have a6 : del = false := by
        have a7 : (!del) = true := a3
        cases del
        · rfl
        · cases a7
      subst em a4 a6
      have es : sl = #[k0, k1, k2, k3, some (.builtin "ValueError.__new__"), k5] := by
        cases sl
        congr
      subst es
      exact ⟨nm, qn, ns, bs, bm, sn, sb, ab, col, dd, k0, k1, k2, k3, k5, e, a5⟩
    · cases h1
  · cases h1
section
variable {X : Cx} {x : Str} {e : Expr} {es : List Expr} {ta : TA} {p1 p2 pos : Pos} {C : Addr}
/-- D.__init__(self, ..), D a class over ValueError without its own -/
theorem pe_baseInit {pl : Sem Bool} (hg : Gl X x) (hm : X.mg x = some (.ref C)) (rd : PySem.W.readsIn X.K C (.type "type") = true) (ga : PySem.W.specialIn X.K (.ref C) "__getattribute__" = some (some (.builtin "type.__getattribute__")))
    (vV : PySem.W.findCls X.K (.ref C) (.type "type") "__init__" = some (.val (.builtin "ValueError.__init__"))) (ha : PA X (e :: es) ta) (hdb : (x == ("__debug__" : Str)) = false := by decide)
    (hc : eval (.Call (.Attribute (.Name x p1) "__init__" p2) (e :: es) [] pos) X.env = (do
      let ov ← eval (.Name x p1) X.env
      standAt p2.atName
      let (f, first) ← holding [ov] (getMethod ov "__init__" pl)
      callWith pos f first (backTo pos (starEach (e :: es) X.env)) (backToKw pos (keywordEach [] X.env))) := by rfl)
    (he : starEach (e :: es) X.env = (false, eval e X.env) :: starEach es X.env := by rfl) (hpl : (backTo pos (starEach es X.env)).any (·.1) = false := by rfl) :
    PE X (.Call (.Attribute (.Name x p1) "__init__" p2) (e :: es) [] pos) (tVeI X.K ta) := by
  refine ⟨fun pins s σ H Q I h => ?_⟩
  refine PySem.W.methodCall_KW (ld_glob I hg hm ?_ hdb) hc
  refine PySem.W.method_cls I.kIn ga (PySem.W.cls_value I.kIn rd vV (by decide +kernel) ?_)
  show wpAny _ _ (callWith pos (Value.builtin "ValueError.__init__") [] (backTo pos (starEach (e :: es) X.env)) []) _ _ _
  refine PyProof.Rows.callWith_method1 (thn (ha.run pos pins _ σ H _ (I.tok _) h) fun us s1 hh => ?_) he hpl
  obtain ⟨vs, H1, I1, r1, a, D, ws, ev, hl, T, ea, q⟩ := hh
  subst ev
  cases r1 with
  | @cons _ u0 _ ur ra rw' =>
    obtain rfl : u0 = Value.ref a := ra
    have hlen : ur.length ≤ sizeLine := by
      rw [← Paired.length rw', sizeLine_eq]
      omega
    exact oinit_ok T I1 ea hlen fun s' J => ⟨.non, H1, J, rfl, q⟩
end
section
variable {K : PySem.W.Frag} {mg : Str → Option Value} (T : Txt K mg)
include T
abbrev NpA (K : PySem.W.Frag) : Addr := He.ga K "NoPrices"
theorem Txt.oex : OexC K (NpA K) := oexB_ok T.ex_111
theorem Txt.wiseVal : PySem.W.findCls K (.ref (He.ga K "WiseError")) (.type "type") "__init__" = some (.val (.builtin "ValueError.__init__")) := by
  have h := T.ex_119
  dsimp only at h
  split at h
  · rename_i n e
    rw [e, show n = "ValueError.__init__" from eq_of_beq h]
  · cases h
theorem Txt.npFound : PySem.W.findIn K (.ref (NpA K)) "found" = some none := of_decide_eq_true T.ex_112
end
section
variable {P : Program} {w : World} {K : PySem.W.Frag} {mg : Str → Option Value} {base : Heap}
def spNPI (K : PySem.W.Frag) : Sp := fun vs H Q _ => ∃ (a : Addr) (y : V), vs = [.ref a, y] ∧ H a = some (exo a (NpA K) none) ∧ ∀ dx, H dx = none → dx ≠ a → Q .non (upd (upd H dx (exd dx [("found", y)])) a (exo a (NpA K) (some dx)))
theorem sc_mNoPrices_init : FnScope ["self", "found"] ["self", "found"] (defScope smNoPrices_init) := ⟨rfl, rfl, rfl, by decide +kernel, rfl, by decide +kernel, by decide +kernel⟩
theorem fnk_mNoPrices_init (T : Txt K mg) : ∃ fd, FnOk P w K mg base CX0 (1) (He.fAd K dmNoPrices_init.at_) fd ["self", "found"] (spNPI K) ∧ Binds K fd ["self", "found"] [] ∧ PySem.W.keepIn K (.ref (He.fAd K dmNoPrices_init.at_)) = true := by
  obtain ⟨fd, F0⟩ := T.c.d.def_ 0 (d := dmNoPrices_init) rfl
  have F : FunD K "__init__" "NoPrices.__init__" (defArgs smNoPrices_init) (defBody smNoPrices_init) (defScope smNoPrices_init) [] [] (He.fAd K dmNoPrices_init.at_) fd := F0
  have G : FnOk P w K mg base CX0 1 (He.fAd K dmNoPrices_init.at_) fd ["self", "found"] (spNPI K) := by
    refine F.ok (CX := CX0) sc_mNoPrices_init (fun vs H Q E h => ?_) (fun cdv A outer s H vs Q E hr h => ⟨_, PSs.nox (by exact (pss_cons (ps_expr (pe_baseInit rfl T.g_WiseError T.ex_121 (of_decide_eq_true T.ex_122) T.wiseVal (pa_cons (pv 0) (pa_cons pe_str pa_nil))))
      (pss_one (ps_ost (pv 0) (pv 1))))), ?_⟩)
    · first
      | (obtain ⟨e, _⟩ := h; subst e; rfl)
      | (obtain ⟨_, e, _⟩ := h; subst e; rfl)
      | (obtain ⟨_, _, e, _⟩ := h; subst e; rfl)
      | (obtain ⟨_, _, _, e, _⟩ := h; subst e; rfl)
      | (obtain ⟨_, _, _, _, e, _⟩ := h; subst e; rfl)
      | (obtain ⟨_, _, _, _, _, e, _⟩ := h; subst e; rfl)
      | (obtain ⟨_, _, _, _, _, _, e, _⟩ := h; subst e; rfl)
      | (obtain ⟨_, _, _, _, _, _, _, e, _⟩ := h; subst e; rfl)
      | (obtain ⟨_, _, _, _, _, _, _, _, e, _⟩ := h; subst e; rfl)
      | (obtain ⟨_, _, _, _, _, _, _, _, _, e, _⟩ := h; subst e; rfl)
      | (obtain ⟨_, _, _, _, _, _, _, _, _, _, e, _⟩ := h; subst e; rfl)
      | (obtain ⟨_, _, _, _, _, _, _, _, _, _, _, e, _⟩ := h; subst e; rfl)
      | (obtain ⟨_, _, _, _, _, _, _, _, _, _, _, _, e, _⟩ := h; subst e; rfl)
      | (obtain ⟨_, _, _, _, _, _, _, _, _, _, _, _, _, e, _⟩ := h; subst e; rfl)
    · skip
      obtain ⟨a, y, rfl, ha, k⟩ := h
      refine ⟨_, rfl, a, NpA K, _, rfl, Nat.le_of_ble_eq_true rfl, T.oex, ha, ?_⟩
      refine ⟨_, rfl, _, rfl, a, NpA K, rfl, T.oex, T.npFound, .inl ⟨ha, fun dx h1 h2 => k dx h1 h2⟩⟩
  exact ⟨fd, G, F.bindsN (fun _ _ _ _ _ _ us hl => match us, hl with | [_, _], _ => rfl), F.kp⟩
end
section
variable {X : Cx} {j : Nat} {e : Expr} {es : List Expr} {ta : TA} {p pos : Pos}
theorem pmk_np (T : Txt X.K X.mg) (hr : Room j X.A) (hk : 2 ≤ j) (hg : Gl X "NoPrices") (ha : PA X (e :: es) ta) (he : starEach (e :: es) X.env = (false, eval e X.env) :: starEach es X.env := by rfl) (hpl : (backTo pos (starEach es X.env)).any (·.1) = false := by rfl) :
    PMk X (.Call (.Name "NoPrices" p) (e :: es) [] pos) (tMkO (NpA X.K) (spNPI X.K) [] ta) := by
  obtain ⟨fd, F, b, kp⟩ := fnk_mNoPrices_init (P := X.prog) (w := X.w) (base := X.base) T
  exact pmk_oex T.oex (of_decide_eq_true T.ex_113) (of_decide_eq_true T.ex_114) F (hr.mono hk) b .nil pass0 hg T.g_NoPrices ha (by decide) he hpl
end
theorem same_exc {H : Hp} {a dx : Addr} {o1 o2 o3 o4 : HO} (ha : H a = none) (hd : H dx = none) : Same H (upd (del (upd (upd (upd H a o1) dx o2) a o3) a) dx o4) := fun b o e => by
  have na : b ≠ a := fun z => by rw [z, ha] at e; cases e
  have nd : b ≠ dx := fun z => by rw [z, hd] at e; cases e
  rw [upd_ne nd, del_ne na, upd_ne na, upd_ne nd, upd_ne na]
  exact e
/-- raise NoPrices(d) -/
theorem np_made {K : PySem.W.Frag} {H : Hp} {y : V} {Q : XK} (k : ∀ H' x, Same H H' → H' x = some (.xd [("found", y)]) → Q (.ref (NpA K)) (some x) H') : ∀ a, H a = none → spNPI K (.ref a :: ([y] ++ [])) (upd H a (exo a (NpA K) none))
    (fun v H2 => v = .non ∧ ∃ (d : Addr) (fs : List (Str × V)), H2 a = some (exo a (NpA K) (some d)) ∧ H2 d = some (exd d fs) ∧ H d = none ∧ Q (.ref (NpA K)) (some d) (upd (del H2 a) d (.xd fs))) (fun _ _ _ => False) := by
  intro a ha
  refine ⟨a, y, rfl, upd_same, fun dx h1 h2 => ⟨rfl, dx, [("found", y)], upd_same, ?_, ?_, ?_⟩⟩
  · rw [upd_ne h2, upd_same]
  · rw [upd_ne h2] at h1
    exact h1
  · rw [upd_ne h2] at h1
    exact k _ dx (same_exc ha h1) upd_same
section
variable {P : Program} {w : World} {K : PySem.W.Frag} {mg : Str → Option Value} {base : Heap}
def PriceOk (v : V) : Prop := ∃ i, v = .int i ∧ 0 ≤ i ∧ i ≤ 1000
def priceD (price : Str → V) : List (Key × V) := words.map fun z => (Sum.inr z, price z)
def spNeedP (K : PySem.W.Frag) : Sp := fun vs H Q E => ∃ (d : Addr) (ps : List (Key × V)) (price : Str → V), vs = [.ref d] ∧ H d = some (.dK ps) ∧ (∀ z ∈ words, valV ps (Sum.inr z) = some (price z) ∧ PlainT H (price z)) ∧
  (((∀ z ∈ words, PriceOk (price z)) ∧ ∀ H' k, Same H H' → H' k = some (.dK (priceD price)) → Q (.ref k) H') ∨
    ((∃ z ∈ words, ¬ PriceOk (price z)) ∧ ∀ H' x, Same H H' → H' x = some (.xd [("found", .ref d)]) → E (.ref (NpA K)) (some x) H'))
theorem PlainT.same {H H' : Hp} {v : V} (h : PlainT H v) (s : Same H H') : PlainT H' v := by
  cases v with
  | ref a =>
    obtain ⟨xs, e⟩ := h
    exact ⟨xs, s _ _ e⟩
  | int i => trivial
  | bl i => trivial
  | non => trivial
  | str i => trivial
  | _ => exact h.elim
theorem valV_outV {f : Str → V} {z : Str} : ∀ l : List Str, z ∉ l → valV (l.map fun x => ((Sum.inr x : Key), f x)) (Sum.inr z) = none
  | [], _ => rfl
  | y :: l, h => by
    rw [List.map_cons, valV_neg fun e => h (by rw [← Sum.inr.inj e]; exact List.mem_cons_self ..)]
    exact valV_outV l fun e => h (List.mem_cons_of_mem _ e)
theorem sc_f_need_prices : FnScope ["prices", "kept", "word", "price"] ["prices"] (defScope sf_need_prices) := ⟨rfl, rfl, rfl, by decide +kernel, rfl, by decide +kernel, by decide +kernel⟩
theorem fnk_f_need_prices (T : Txt K mg) : ∃ fd, FnOk P w K mg base (L2.CX P w) (3) (He.fAd K df_need_prices.at_) fd ["prices"] (spNeedP K) ∧ Binds K fd ["prices"] [] ∧ PySem.W.keepIn K (.ref (He.fAd K df_need_prices.at_)) = true := by
  obtain ⟨fd, F0⟩ := T.c.d.def_ 12 (d := df_need_prices) rfl
  have F : FunD K "need_prices" "need_prices" (defArgs sf_need_prices) (defBody sf_need_prices) (defScope sf_need_prices) [] [] (He.fAd K df_need_prices.at_) fd := F0
  have G : FnOk P w K mg base (L2.CX P w) 3 (He.fAd K df_need_prices.at_) fd ["prices"] (spNeedP K) := by
    refine F.ok (CX := L2.CX P w) sc_f_need_prices (fun vs H Q E h => ?_) (fun cdv A outer s H vs Q E hr h => ⟨_, (by exact (pss_cons (ps_if (pt_not (pt_val (pe_callB call_isi rfl T.f_isinstance (by decide +kernel) (pa_cons (pv 0) (pa_cons (pe_bltn (v := .ty "dict") rfl T.f_dict (by decide +kernel) rfl) pa_nil))))) (pss_one (ps_raise rfl (takes_of rfl rfl rfl rfl) (pmk_np T hr (by omega) rfl (pa_cons (pv 0) pa_nil)))) pss_nil)
      (pss_cons (ps_set (i := 1) sc_f_need_prices.nd rfl (Or.inl rfl) pe_dnewK)
      (pss_cons (ps_for (passes_of rfl) rfl (pi_tup (pe_gc rfl T.v_ROW_WORDS)) (pg_name (i := 2) sc_f_need_prices.nd rfl (Or.inl rfl)) (pss_cons (ps_set (i := 3) sc_f_need_prices.nd rfl (Or.inl rfl) (pe_dget1 (hu_of hr) (pv 0) (pv 2) ⟨rfl, rfl, rfl, rfl⟩))
      (pss_cons (ps_if (PW.pt (pw_or (pt_not (pt_val (pe_c (cal_f_is_whole T) hr (by omega) rfl (pa_cons (pv 3) pa_nil)))) (pw_or1 (pt_not (pt_chain op_le op_le pe_int (pv 3) (pe_gc rfl T.v_MOST_PRICE)))))) (pss_one (ps_raise rfl (takes_of rfl rfl rfl rfl) (pmk_np T hr (by omega) rfl (pa_cons (pv 0) pa_nil)))) pss_nil)
      (pss_one (ps_dput (hu_of hr) (pv 1) (pv 2) (pv 3) rfl)))))
      (pss_one (ps_ret (pv 1))))))), ?_⟩)
    · first
      | (obtain ⟨e, _⟩ := h; subst e; rfl)
      | (obtain ⟨_, e, _⟩ := h; subst e; rfl)
      | (obtain ⟨_, _, e, _⟩ := h; subst e; rfl)
      | (obtain ⟨_, _, _, e, _⟩ := h; subst e; rfl)
      | (obtain ⟨_, _, _, _, e, _⟩ := h; subst e; rfl)
      | (obtain ⟨_, _, _, _, _, e, _⟩ := h; subst e; rfl)
      | (obtain ⟨_, _, _, _, _, _, e, _⟩ := h; subst e; rfl)
      | (obtain ⟨_, _, _, _, _, _, _, e, _⟩ := h; subst e; rfl)
      | (obtain ⟨_, _, _, _, _, _, _, _, e, _⟩ := h; subst e; rfl)
      | (obtain ⟨_, _, _, _, _, _, _, _, _, e, _⟩ := h; subst e; rfl)
      | (obtain ⟨_, _, _, _, _, _, _, _, _, _, e, _⟩ := h; subst e; rfl)
      | (obtain ⟨_, _, _, _, _, _, _, _, _, _, _, e, _⟩ := h; subst e; rfl)
      | (obtain ⟨_, _, _, _, _, _, _, _, _, _, _, _, e, _⟩ := h; subst e; rfl)
      | (obtain ⟨_, _, _, _, _, _, _, _, _, _, _, _, _, e, _⟩ := h; subst e; rfl)
    · skip
      obtain ⟨d, ps, price, rfl, hd, hp, hk⟩ := h
      walk_at "rd"
      intro kd hkd
      have s0 := same_new (o := .dK []) hkd
      refine ⟨_, rfl, ⟨_, He.tupB_ok T.ex_110 _⟩, for_tup (K := K) (a := He.ga K "ROW_WORDS") (xs := words.map V.str) (fun i σ H' => (∃ v2 v3 : Option V, σ = [some (.ref d), some (.ref kd), v2, v3]) ∧ Same H H' ∧ H' kd = some (.dK ((words.take i).map fun z => ((Sum.inr z : Key), price z))) ∧ ∀ z ∈ words.take i, PriceOk (price z)) ?_ ?_ ?_ ?_⟩
      · exact ⟨⟨_, _, rfl⟩, s0, upd_same, fun z hz => by cases hz⟩
      · exact fun i σ H' _ _ => He.tupB_ok T.ex_110 H'
      · rintro i x σ H1 hi ⟨⟨v2, v3, rfl⟩, s1, h1, h2⟩
        obtain ⟨z, hz, rfl⟩ : ∃ z, words[i]? = some z ∧ x = V.str z := by
          rw [List.getElem?_map] at hi
          cases e : words[i]? with
          | none => rw [e] at hi; cases hi
          | some z => rw [e] at hi; exact ⟨z, rfl, (Option.some.inj hi).symm⟩
        have hil : i < words.length := (List.getElem?_eq_some_iff.mp hz).1
        have h16 : words.length = 16 := rfl
        have hzm : z ∈ words := List.mem_of_getElem? hz
        obtain ⟨hv, hpl⟩ := hp z hzm
        have hg : DGet H1 d (kV (Sum.inr z)) (some (price z)) := by rw [← hv]; exact DGet.k (s1 _ _ hd)
        refine ⟨_, rfl, d, rfl, .inl ⟨_, .inl (s1 _ _ hd)⟩, _, rfl, _, hg, ?_⟩
        refine ⟨_, rfl, _, rfl, hpl.same s1, ?_⟩
        have bad : ¬ PriceOk (price z) → ∀ H' x, Same H1 H' → H' x = some (.xd [("found", .ref d)]) → E (.ref (NpA K)) (some x) H' := fun nb H' x s2 hx => by
          rcases hk with ⟨hok, _⟩ | ⟨_, k⟩
          · exact absurd (hok z hzm) nb
          · exact k H' x (s1.trans s2) hx
        have good : PriceOk (price z) → (∃ v2 v3 : Option V, [some (V.ref d), some (V.ref kd), some (V.str z), some (price z)] = [some (.ref d), some (.ref kd), v2, v3]) ∧ Same H (upd H1 kd (.dK (putK ((words.take i).map fun z => ((Sum.inr z : Key), price z)) (Sum.inr z) (price z)))) ∧ (upd H1 kd (.dK (putK ((words.take i).map fun z => ((Sum.inr z : Key), price z)) (Sum.inr z) (price z)))) kd = some (.dK ((words.take (i + 1)).map fun z => ((Sum.inr z : Key), price z))) ∧ ∀ z ∈ words.take (i + 1), PriceOk (price z) := fun ok => by
          refine ⟨⟨_, _, rfl⟩, same_mut s1 hkd, ?_, fun y hy => ?_⟩
          · rw [upd_same, putK_new _ (valV_outV _ (nd_take words_nd hz)), take_snoc hz, List.map_append]
            rfl
          · rw [take_snoc hz] at hy
            rcases List.mem_append.mp hy with hy | hy
            · exact h2 y hy
            · rw [List.mem_singleton.mp hy]
              exact ok
        have hlen : ((words.take i).map fun z => ((Sum.inr z : Key), price z)).length < sizeLine := lt_sz (by rw [List.length_map, List.length_take]; omega)
        generalize hpz : price z = y at hg hpl bad good ⊢
        cases y with
        | int n =>
          refine ⟨_, rfl, iteF ?_⟩
          by_cases c0 : 0 ≤ n
          · by_cases c1 : n ≤ 1000
            · walk_at "rd"
              exact ⟨kd, _, rfl, DPut.k (k := Sum.inr z) h1 hlen, good ⟨n, rfl, c0, c1⟩⟩
            · have nb : ¬ PriceOk (.int n) := fun ⟨j, e, _, q⟩ => by cases e; omega
              walk_at "rd"
              first | exact ⟨Nat.le_of_ble_eq_true rfl, np_made (bad nb)⟩ | exact ⟨_, rfl, Nat.le_of_ble_eq_true rfl, np_made (bad nb)⟩
          · have nb : ¬ PriceOk (.int n) := fun ⟨j, e, q, _⟩ => by cases e; omega
            walk_at "rd"
            first | exact ⟨Nat.le_of_ble_eq_true rfl, np_made (bad nb)⟩ | exact ⟨_, rfl, Nat.le_of_ble_eq_true rfl, np_made (bad nb)⟩
        | bl n => exact ⟨_, rfl, iteT (iteT ⟨_, rfl, Nat.le_of_ble_eq_true rfl, np_made (bad fun ⟨j, e, _⟩ => by cases e)⟩)⟩
        | non => exact ⟨_, rfl, iteT (iteT ⟨_, rfl, Nat.le_of_ble_eq_true rfl, np_made (bad fun ⟨j, e, _⟩ => by cases e)⟩)⟩
        | str n => exact ⟨_, rfl, iteT (iteT ⟨_, rfl, Nat.le_of_ble_eq_true rfl, np_made (bad fun ⟨j, e, _⟩ => by cases e)⟩)⟩
        | ref n => exact ⟨_, rfl, iteT (iteT ⟨_, rfl, Nat.le_of_ble_eq_true rfl, np_made (bad fun ⟨j, e, _⟩ => by cases e)⟩)⟩
        | _ => exact hpl.elim
      · rintro σ H1 ⟨⟨v2, v3, rfl⟩, s1, h1, h2⟩
        have e16 : words.take (words.map V.str).length = words := by rw [List.length_map, List.take_length]
        rw [e16] at h1 h2
        rcases hk with ⟨_, k⟩ | ⟨⟨z, hz, hb⟩, _⟩
        · exact ⟨_, rfl, k _ _ s1 h1⟩
        · exact absurd (h2 z hz) hb
  exact ⟨fd, G, F.bindsN (fun _ _ _ _ _ _ us hl => match us, hl with | [_], _ => rfl), F.kp⟩
end
section
variable {X : Cx} {j : Nat} {e : Expr} {es : List Expr} {t : TA} {p pos : Pos} {E : XK}
theorem pe_np (T : Txt X.K X.mg) (hr : Room j X.A) (hk : 3 ≤ j) (hg : Gl X "need_prices") (hx : Passes (L2.CX X.prog X.w) X E) (ha : PA X (e :: es) t) (he : starEach (e :: es) X.env = (false, eval e X.env) :: starEach es X.env := by rfl) (hpl : (backTo pos (starEach es X.env)).any (·.1) = false := by rfl) :
    PE X (.Call (.Name "need_prices" p) (e :: es) [] pos) (tCall (spNeedP X.K) [] E t) := by
  obtain ⟨fd, F, b, kp⟩ := fnk_f_need_prices (P := X.prog) (w := X.w) (base := X.base) T
  exact pe_call F (hr.mono hk) hg T.g_need_prices kp b .nil hx ha (by decide) he hpl
end
section
variable {P : Program} {w : World} {K : PySem.W.Frag} {mg : Str → Option Value} {base : Heap}
theorem valV_priceD {f : Str → V} {x : Str} : ∀ l : List Str, x ∈ l → valV (l.map fun z => ((Sum.inr z : Key), f z)) (Sum.inr x) = some (f x)
  | [], h => by cases h
  | y :: l, h => by
    by_cases e : y = x
    · subst e
      exact valV_pos rfl
    · rw [List.map_cons, valV_neg (fun z => e (Sum.inr.inj z))]
      exact valV_priceD l ((List.mem_cons.mp h).resolve_left fun z => e z.symm)
def spCost (K : PySem.W.Frag) : Sp := fun vs H Q E => ∃ (w : Nat) (l d : Addr) (xs : List V) (F : Fo) (ps : List (Key × V)) (price : Str → V), vs = [.int w, .ref l, .ref d] ∧ StepsIn K H l xs F w ∧ F.depth ≤ 5 ∧ H d = some (.dK ps) ∧ (∀ z ∈ words, valV ps (Sum.inr z) = some (price z) ∧ PlainT H (price z)) ∧
  ((∃ pI : Str → Int, (∀ z ∈ words, price z = .int (pI z) ∧ 0 ≤ pI z ∧ pI z ≤ 1000) ∧ ∀ H', Same H H' → Q (.int (F.ps pI)) H') ∨
    ((∃ z ∈ words, ¬ PriceOk (price z)) ∧ ∀ H' x, Same H H' → H' x = some (.xd [("found", .ref d)]) → E (.ref (NpA K)) (some x) H'))
theorem sc_f_cost_of : FnScope ["width", "steps", "prices"] ["width", "steps", "prices"] (defScope sf_cost_of) := ⟨rfl, rfl, rfl, by decide +kernel, rfl, by decide +kernel, by decide +kernel⟩
theorem fnk_f_cost_of (T : Txt K mg) : ∃ fd, FnOk P w K mg base (L2.CX P w) (12) (He.fAd K df_cost_of.at_) fd ["width", "steps", "prices"] (spCost K) ∧ Binds K fd ["width", "steps", "prices"] [] ∧ PySem.W.keepIn K (.ref (He.fAd K df_cost_of.at_)) = true := by
  obtain ⟨fd, F0⟩ := T.c.d.def_ 82 (d := df_cost_of) rfl
  have F : FunD K "cost_of" "cost_of" (defArgs sf_cost_of) (defBody sf_cost_of) (defScope sf_cost_of) [] [] (He.fAd K df_cost_of.at_) fd := F0
  have G : FnOk P w K mg base (L2.CX P w) 12 (He.fAd K df_cost_of.at_) fd ["width", "steps", "prices"] (spCost K) := by
    refine F.ok (CX := L2.CX P w) sc_f_cost_of (fun vs H Q E h => ?_) (fun cdv A outer s H vs Q E hr h => ⟨_, (by exact (pss_cons (ps_expr (pe_c (cal_f_check_steps T) hr (by omega) rfl (pa_cons (pv 0) (pa_cons (pv 1) pa_nil))))
      (pss_one (ps_ret (pe_c (cal_f_summed T 6) hr (by omega) rfl (pa_cons (pv 1) (pa_cons (pe_np T hr (by omega) rfl (passes_call (takes_of rfl rfl rfl rfl) (fun _ _ _ _ h => h)) (pa_cons (pv 2) pa_nil)) pa_nil))))))), ?_⟩)
    · first
      | (obtain ⟨e, _⟩ := h; subst e; rfl)
      | (obtain ⟨_, e, _⟩ := h; subst e; rfl)
      | (obtain ⟨_, _, e, _⟩ := h; subst e; rfl)
      | (obtain ⟨_, _, _, e, _⟩ := h; subst e; rfl)
      | (obtain ⟨_, _, _, _, e, _⟩ := h; subst e; rfl)
      | (obtain ⟨_, _, _, _, _, e, _⟩ := h; subst e; rfl)
      | (obtain ⟨_, _, _, _, _, _, e, _⟩ := h; subst e; rfl)
      | (obtain ⟨_, _, _, _, _, _, _, e, _⟩ := h; subst e; rfl)
      | (obtain ⟨_, _, _, _, _, _, _, _, e, _⟩ := h; subst e; rfl)
      | (obtain ⟨_, _, _, _, _, _, _, _, _, e, _⟩ := h; subst e; rfl)
      | (obtain ⟨_, _, _, _, _, _, _, _, _, _, e, _⟩ := h; subst e; rfl)
      | (obtain ⟨_, _, _, _, _, _, _, _, _, _, _, e, _⟩ := h; subst e; rfl)
      | (obtain ⟨_, _, _, _, _, _, _, _, _, _, _, _, e, _⟩ := h; subst e; rfl)
      | (obtain ⟨_, _, _, _, _, _, _, _, _, _, _, _, _, e, _⟩ := h; subst e; rfl)
    · skip
      obtain ⟨w, l, d, xs, F, ps, price, rfl, hS, hdep, hd, hp, hk⟩ := h
      refine ⟨_, rfl, _, rfl, w, l, xs, F, rfl, hS, hdep, fun H1 s1 => ?_⟩
      refine ⟨_, rfl, _, rfl, ?_⟩
      refine ⟨d, ps, price, rfl, s1 _ _ hd, fun z hz => ⟨(hp z hz).1, (hp z hz).2.same s1⟩, ?_⟩
      rcases hk with ⟨pI, ok, k⟩ | ⟨nb, k⟩
      · refine .inl ⟨fun z hz => ⟨pI z, ok z hz⟩, fun H2 kd s2 hkd => ?_⟩
        have s12 := s1.trans s2
        exact ⟨l, kd, xs, F, w, priceD price, pI, rfl, hS.same s12, by omega, hkd, fun z hz => by rw [← (ok z hz).1]; exact valV_priceD words hz, k _ s12⟩
      · exact .inr ⟨nb, fun H2 x s2 hx => k H2 x (s1.trans s2) hx⟩
  exact ⟨fd, G, F.bindsN (fun _ _ _ _ _ _ us hl => match us, hl with | [_, _, _], _ => rfl), F.kp⟩
end
end K73

set_option maxHeartbeats 4000000
/-! the law's own draws -/
namespace K73
open PySem PySem.Spec PyProof.Rows L2
open C8 (Cal Mak Met pe_c pe_mk pe_mt pe_mt0 pe_gc)
local macro_rules | `(tactic| walk_at "rd") => `(tactic| repeat (first | refine ⟨_, rfl, ?_⟩ | refine ⟨_, _, rfl, rfl, ?_⟩ | refine ⟨_, rfl, rfl, ?_⟩ | refine ⟨_, _, rfl, ?_⟩ | refine ⟨_, _, _, rfl, ?_⟩ | refine ⟨_, _, _, _, rfl, ?_⟩ | refine And.intro rfl ?_ | refine And.intro trivial ?_ | refine And.intro (le_sz (Nat.le_of_ble_eq_true rfl)) ?_ | refine And.intro (le_sz (by omega)) ?_ | refine iteT ?_ | refine iteF ?_ | refine iteDt (by omega) ?_ | refine iteDf (by omega) ?_ | refine iteNt (by omega) ?_ | refine iteNf (by omega) ?_ | refine And.intro (by omega) ?_ | refine ⟨_, _, _, _, _, rfl, .ty _, .base (.str _), kit_ss, ?_⟩ | refine ⟨_, _, _, _, _, rfl, .ty _, .base (.lst (by assumption)), kit_ll, ?_⟩ | refine ⟨_, _, _, _, _, rfl, .ty _, .base (.dK (by assumption)), kit_dd, ?_⟩ | refine ⟨_, _, _, _, _, rfl, .ty _, .base (.tup (by assumption)), kit_tt, ?_⟩))

theorem sq_keep {K : PySem.W.Frag} {H H' : Hp} {a : Addr} {xs : List V} (h : SqL K H a xs) (s : Same H H') : SqL K H' a xs := by
  rcases h with (h | ⟨o, h⟩) | h
  · exact .inl (.inl (s _ _ h))
  · exact .inl (.inr ⟨o, s _ _ h⟩)
  · exact .inr h
/-- the state that is drawn from -/
def D3 (H : Hp) (st : Addr) : Prop := ∃ x y z : Int, H st = some (.lst [.int x, .int y, .int z])
structure But (a : Addr) (H H' : Hp) : Prop where
  d3 : D3 H' a
  kp : ∀ b o, b ≠ a → H b = some o → H' b = some o
theorem But.refl {a : Addr} {H : Hp} (h : D3 H a) : But a H H := ⟨h, fun _ _ _ e => e⟩
theorem But.trans {a : Addr} {H H' H'' : Hp} (x : But a H H') (y : But a H' H'') : But a H H'' := ⟨y.d3, fun c o n e => y.kp c o n (x.kp c o n e)⟩
theorem D3.same {a : Addr} {H H' : Hp} (h : D3 H a) (s : Same H H') : D3 H' a := by
  obtain ⟨x, y, z, e⟩ := h
  exact ⟨x, y, z, s _ _ e⟩
theorem But.same {a : Addr} {H H' H'' : Hp} (x : But a H H') (s : Same H' H'') : But a H H'' := ⟨x.d3.same s, fun c o n e => s c o (x.kp c o n e)⟩
theorem D3.ne {a b : Addr} {H : Hp} (h : D3 H a) (e : H b = none) : b ≠ a := fun z => by
  obtain ⟨_, _, _, q⟩ := h
  rw [z, q] at e
  cases e
theorem But.free {a : Addr} {H H' : Hp} (x : But a H H') {p : Addr} (d : D3 H a) (h : H' p = none) : H p = none := by
  have n := x.d3.ne h
  cases q : H p with
  | none => rfl
  | some o => rw [x.kp p o n q] at h; cases h
theorem But.sub {a : Addr} {G H H' : Hp} (x : But a H H') (s : Same G H) (hg : G a = none) : Same G H' := fun b o e => x.kp b o (fun z => by rw [z, hg] at e; cases e) (s b o e)
theorem q47 : (0 : Int) < 2147483647 := by decide
theorem q29 : (0 : Int) < 2147483629 := by decide
theorem q87 : (0 : Int) < 2147483587 := by decide
section
variable {P : Program} {w : World} {K : PySem.W.Frag} {mg : Str → Option Value} {base : Heap}
def spLCell (K : PySem.W.Frag) : Sp := fun vs H Q _ => ∃ (l : Addr) (ns : List Int) (j : Nat), vs = [.ref l, .int j] ∧ SqL K H l (ns.map V.int) ∧ ns.length ≤ 1000 ∧ j ≤ 1000 ∧ ∀ i : Int, Q (.int i) H
theorem sc_f_law_cell : FnScope ["_law_script", "_law_k", "_law_number"] ["_law_script", "_law_k"] (defScope sf_law_cell) := ⟨rfl, rfl, rfl, by decide +kernel, rfl, by decide +kernel, by decide +kernel⟩
theorem cal_f_law_cell (T : Txt K mg) : Cal P w K mg base (1) "_law_cell" (spLCell K) [] := by
  obtain ⟨fd, F0⟩ := T.c.d.def_ 83 (d := df_law_cell) rfl
  have F : FunD K "_law_cell" "_law_cell" (defArgs sf_law_cell) (defBody sf_law_cell) (defScope sf_law_cell) [] [] (He.fAd K df_law_cell.at_) fd := F0
  have G : FnOk P w K mg base CX0 1 (He.fAd K df_law_cell.at_) fd ["_law_script", "_law_k"] (spLCell K) := by
    refine F.ok (CX := CX0) sc_f_law_cell (fun vs H Q E h => ?_) (fun cdv A outer s H vs Q E hr h => ⟨_, PSs.nox (by exact (pss_cons (ps_if (pt_cmpR op_lt (pv 1) (pe_callB call_len_seq rfl T.f_len (by decide +kernel) (pa_cons (pv 0) pa_nil)) (nomark _)) (pss_one (ps_ret (pe_ix ix_list (pv 0) (pv 1) (fun _ _ => rfl)))) pss_nil)
      (pss_cons (ps_set (i := 2) sc_f_law_cell.nd rfl (Or.inl rfl) (pe_op op_add (pe_op op_mul (pv 1) pe_int) pe_int))
      (pss_cons (ps_if (pt_cmpR op_gt (pe_callB call_len_seq rfl T.f_len (by decide +kernel) (pa_cons (pv 0) pa_nil)) pe_int (nomark _)) (pss_one (ps_set (i := 2) sc_f_law_cell.nd rfl (Or.inl rfl) (pe_op op_mod (pe_op op_add (pe_op op_mul (pe_ix ix_list (pv 0) (pe_op op_mod (pe_op op_mul (pv 1) pe_int) (pe_callB call_len_seq rfl T.f_len (by decide +kernel) (pa_cons (pv 0) pa_nil))) (fun _ _ => rfl)) pe_int) (pe_op op_mul (pv 1) pe_int)) pe_int))) pss_nil)
      (pss_one (ps_ret (pe_op op_mod (pe_op op_mul (pv 2) (pv 2)) pe_int))))))), ?_⟩)
    · first
      | (obtain ⟨e, _⟩ := h; subst e; rfl)
      | (obtain ⟨_, e, _⟩ := h; subst e; rfl)
      | (obtain ⟨_, _, e, _⟩ := h; subst e; rfl)
      | (obtain ⟨_, _, _, e, _⟩ := h; subst e; rfl)
      | (obtain ⟨_, _, _, _, e, _⟩ := h; subst e; rfl)
      | (obtain ⟨_, _, _, _, _, e, _⟩ := h; subst e; rfl)
      | (obtain ⟨_, _, _, _, _, _, e, _⟩ := h; subst e; rfl)
      | (obtain ⟨_, _, _, _, _, _, _, e, _⟩ := h; subst e; rfl)
      | (obtain ⟨_, _, _, _, _, _, _, _, e, _⟩ := h; subst e; rfl)
      | (obtain ⟨_, _, _, _, _, _, _, _, _, e, _⟩ := h; subst e; rfl)
      | (obtain ⟨_, _, _, _, _, _, _, _, _, _, e, _⟩ := h; subst e; rfl)
      | (obtain ⟨_, _, _, _, _, _, _, _, _, _, _, e, _⟩ := h; subst e; rfl)
      | (obtain ⟨_, _, _, _, _, _, _, _, _, _, _, _, e, _⟩ := h; subst e; rfl)
      | (obtain ⟨_, _, _, _, _, _, _, _, _, _, _, _, _, e, _⟩ := h; subst e; rfl)
    · skip
      obtain ⟨l, ns, j, rfl, hl, hn, hj, k⟩ := h
      have hS : SqL K H l (ns.map V.int) := hl
      have hat : ∀ i : Nat, i < ns.length → atI (ns.map V.int) (i : Int) = some (.int (cellOf ns i)) := fun i hi => atI_cell hi
      refine ⟨_, rfl, _, rfl, l, _, rfl, .inl hS, ?_⟩
      rw [List.length_map]
      refine ⟨_, _, rfl, rfl, _, rfl, iteD (fun c => ?_) (fun c => ?_)⟩
      · exact ⟨_, rfl, _, rfl, l, _, _, _, rfl, rfl, hS, hat j (by omega), k _⟩
      · have hm : ∀ i : Int, CMul i 48271 := fun i => .inr ⟨by decide, by decide⟩
        have hm2 : CMul (j : Int) 7919 := .inr ⟨by decide, by decide⟩
        have hm3 : CMul (j : Int) 7 := .inr ⟨by decide, by decide⟩
        refine ⟨_, rfl, _, _, rfl, rfl, hm2, _, _, rfl, rfl, ?_⟩
        refine ⟨_, rfl, l, _, rfl, .inl hS, ?_⟩
        rw [List.length_map]
        refine ⟨_, _, rfl, rfl, _, rfl, iteD (fun c2 => ?_) (fun c2 => ?_)⟩
        · have h1 : (0 : Int) < (ns.length : Int) := by omega
          have h2 := Int.emod_nonneg ((j : Int) * 7) (Int.ne_of_gt h1)
          have h3 := Int.emod_lt_of_pos ((j : Int) * 7) h1
          obtain ⟨i, hi⟩ := Int.eq_ofNat_of_zero_le h2
          have hi2 : i < ns.length := by omega
          refine ⟨_, rfl, _, rfl, _, _, rfl, rfl, hm3, _, rfl, l, _, rfl, .inl hS, ?_⟩
          rw [List.length_map]
          refine ⟨_, _, rfl, rfl, h1, l, _, _, _, rfl, rfl, hS, by rw [hi]; exact hat i hi2, _, _, rfl, rfl, hm _, ?_⟩
          refine ⟨_, rfl, _, _, rfl, rfl, hm2, _, _, rfl, rfl, _, _, rfl, rfl, q47, ?_⟩
          have h4 := Int.emod_nonneg (cellOf ns i * 48271 + (j : Int) * 7919) (b := 2147483647) (by decide)
          have h5 := Int.emod_lt_of_pos (cellOf ns i * 48271 + (j : Int) * 7919) (b := 2147483647) (by decide)
          have hm5 : CMul ((cellOf ns i * 48271 + (j : Int) * 7919) % 2147483647) ((cellOf ns i * 48271 + (j : Int) * 7919) % 2147483647) := .inl ⟨by omega, by omega⟩
          exact ⟨_, rfl, _, rfl, _, _, rfl, rfl, hm5, _, _, rfl, rfl, q29, k _⟩
        · have hm5 : CMul ((j : Int) * 7919 + 5) ((j : Int) * 7919 + 5) := .inl ⟨by omega, by omega⟩
          exact ⟨_, rfl, _, rfl, _, _, rfl, rfl, hm5, _, _, rfl, rfl, q29, k _⟩
  exact ⟨_, fd, _, [], G, T.g__law_cell, F.kp, F.bindsN (fun _ _ _ _ _ _ us hl => match us, hl with | [_, _], _ => rfl), .nil⟩
def spBegun : Sp := fun vs H Q _ => ∃ c : Int, vs = [.int c] ∧ ∀ p (x z : Int), H p = none → Q (.ref p) (upd H p (.lst [.int x, .int 0, .int z]))
theorem sc_f_law_begun : FnScope ["_law_cell_here", "_law_rest"] ["_law_cell_here"] (defScope sf_law_begun) := ⟨rfl, rfl, rfl, by decide +kernel, rfl, by decide +kernel, by decide +kernel⟩
theorem cal_f_law_begun (T : Txt K mg) : Cal P w K mg base (1) "_law_begun" (spBegun) [] := by
  obtain ⟨fd, F0⟩ := T.c.d.def_ 84 (d := df_law_begun) rfl
  have F : FunD K "_law_begun" "_law_begun" (defArgs sf_law_begun) (defBody sf_law_begun) (defScope sf_law_begun) [] [] (He.fAd K df_law_begun.at_) fd := F0
  have G : FnOk P w K mg base CX0 1 (He.fAd K df_law_begun.at_) fd ["_law_cell_here"] (spBegun) := by
    refine F.ok (CX := CX0) sc_f_law_begun (fun vs H Q E h => ?_) (fun cdv A outer s H vs Q E hr h => ⟨_, PSs.nox (by exact (pss_cons (ps_set (i := 1) sc_f_law_begun.nd rfl (Or.inl rfl) pe_int)
      (pss_cons (ps_if (pt_cmpR op_ge (pv 0) (pe_op op_pow pe_int pe_int) (nomark _)) (pss_one (ps_set (i := 1) sc_f_law_begun.nd rfl (Or.inl rfl) (pv 0))) pss_nil)
      (pss_one (ps_ret (pe_lst (pa_cons (pv 1) (pa_cons pe_int (pa_cons (pe_op op_mod (pv 0) pe_int) pa_nil))))))))), ?_⟩)
    · first
      | (obtain ⟨e, _⟩ := h; subst e; rfl)
      | (obtain ⟨_, e, _⟩ := h; subst e; rfl)
      | (obtain ⟨_, _, e, _⟩ := h; subst e; rfl)
      | (obtain ⟨_, _, _, e, _⟩ := h; subst e; rfl)
      | (obtain ⟨_, _, _, _, e, _⟩ := h; subst e; rfl)
      | (obtain ⟨_, _, _, _, _, e, _⟩ := h; subst e; rfl)
      | (obtain ⟨_, _, _, _, _, _, e, _⟩ := h; subst e; rfl)
      | (obtain ⟨_, _, _, _, _, _, _, e, _⟩ := h; subst e; rfl)
      | (obtain ⟨_, _, _, _, _, _, _, _, e, _⟩ := h; subst e; rfl)
      | (obtain ⟨_, _, _, _, _, _, _, _, _, e, _⟩ := h; subst e; rfl)
      | (obtain ⟨_, _, _, _, _, _, _, _, _, _, e, _⟩ := h; subst e; rfl)
      | (obtain ⟨_, _, _, _, _, _, _, _, _, _, _, e, _⟩ := h; subst e; rfl)
      | (obtain ⟨_, _, _, _, _, _, _, _, _, _, _, _, e, _⟩ := h; subst e; rfl)
      | (obtain ⟨_, _, _, _, _, _, _, _, _, _, _, _, _, e, _⟩ := h; subst e; rfl)
    · skip
      obtain ⟨c, rfl, k⟩ := h
      refine ⟨_, rfl, _, _, rfl, rfl, ⟨by decide, by decide, by decide⟩, _, _, rfl, rfl, _, rfl, iteD (fun c1 => ?_) (fun c1 => ?_)⟩
      · walk_at "rd"
        exact fun p hp => k p _ _ hp
      · walk_at "rd"
        exact fun p hp => k p _ _ hp
  exact ⟨_, fd, _, [], G, T.g__law_begun, F.kp, F.bindsN (fun _ _ _ _ _ _ us hl => match us, hl with | [_], _ => rfl), .nil⟩
def spDraw : Sp := fun vs H Q _ => ∃ (st : Addr) (m : Nat), vs = [.ref st, .int m] ∧ D3 H st ∧ (1 ≤ m ∧ m ≤ 1000000) ∧ ∀ H' (i : Nat), But st H H' → i < m → Q (.int i) H'
theorem sc_f_law_draw : FnScope ["_law_state", "_law_many", "_law_found", "_law_number"] ["_law_state", "_law_many"] (defScope sf_law_draw) := ⟨rfl, rfl, rfl, by decide +kernel, rfl, by decide +kernel, by decide +kernel⟩
theorem cal_f_law_draw (T : Txt K mg) : Cal P w K mg base (1) "_law_draw" (spDraw) [] := by
  obtain ⟨fd, F0⟩ := T.c.d.def_ 85 (d := df_law_draw) rfl
  have F : FunD K "_law_draw" "_law_draw" (defArgs sf_law_draw) (defBody sf_law_draw) (defScope sf_law_draw) [] [] (He.fAd K df_law_draw.at_) fd := F0
  have G : FnOk P w K mg base CX0 1 (He.fAd K df_law_draw.at_) fd ["_law_state", "_law_many"] (spDraw) := by
    refine F.ok (CX := CX0) sc_f_law_draw (fun vs H Q E h => ?_) (fun cdv A outer s H vs Q E hr h => ⟨_, PSs.nox (by exact (pss_cons (ps_if (pt_cmpR op_gt (pe_ix ix_list (pv 0) pe_int (fun _ _ => rfl)) pe_int (nomark _)) (pss_cons (ps_set (i := 2) sc_f_law_draw.nd rfl (Or.inl rfl) (pe_op op_mod (pe_ix ix_list (pv 0) pe_int (fun _ _ => rfl)) (pv 1)))
      (pss_cons (ps_asg (pe_op op_fdiv (pe_ix ix_list (pv 0) pe_int (fun _ _ => rfl)) (pv 1)) (pg_sub (pv 0) pe_int set_list))
      (pss_one (ps_ret (pv 2))))) pss_nil)
      (pss_cons (ps_asg (pe_op op_add (pe_ix ix_list (pv 0) pe_int (fun _ _ => rfl)) pe_int) (pg_sub (pv 0) pe_int set_list))
      (pss_cons (ps_set (i := 3) sc_f_law_draw.nd rfl (Or.inl rfl) (pe_op op_mod (pe_op op_add (pe_op op_mul (pe_ix ix_list (pv 0) pe_int (fun _ _ => rfl)) pe_int) (pe_op op_mul (pe_ix ix_list (pv 0) pe_int (fun _ _ => rfl)) pe_int)) pe_int))
      (pss_cons (ps_set (i := 3) sc_f_law_draw.nd rfl (Or.inl rfl) (pe_op op_mod (pe_op op_add (pe_op op_mul (pv 3) (pv 3)) (pe_op op_mul (pe_ix ix_list (pv 0) pe_int (fun _ _ => rfl)) pe_int)) pe_int))
      (pss_one (ps_ret (pe_op op_mod (pe_op op_mod (pe_op op_mul (pv 3) (pv 3)) pe_int) (pv 1))))))))), ?_⟩)
    · first
      | (obtain ⟨e, _⟩ := h; subst e; rfl)
      | (obtain ⟨_, e, _⟩ := h; subst e; rfl)
      | (obtain ⟨_, _, e, _⟩ := h; subst e; rfl)
      | (obtain ⟨_, _, _, e, _⟩ := h; subst e; rfl)
      | (obtain ⟨_, _, _, _, e, _⟩ := h; subst e; rfl)
      | (obtain ⟨_, _, _, _, _, e, _⟩ := h; subst e; rfl)
      | (obtain ⟨_, _, _, _, _, _, e, _⟩ := h; subst e; rfl)
      | (obtain ⟨_, _, _, _, _, _, _, e, _⟩ := h; subst e; rfl)
      | (obtain ⟨_, _, _, _, _, _, _, _, e, _⟩ := h; subst e; rfl)
      | (obtain ⟨_, _, _, _, _, _, _, _, _, e, _⟩ := h; subst e; rfl)
      | (obtain ⟨_, _, _, _, _, _, _, _, _, _, e, _⟩ := h; subst e; rfl)
      | (obtain ⟨_, _, _, _, _, _, _, _, _, _, _, e, _⟩ := h; subst e; rfl)
      | (obtain ⟨_, _, _, _, _, _, _, _, _, _, _, _, e, _⟩ := h; subst e; rfl)
      | (obtain ⟨_, _, _, _, _, _, _, _, _, _, _, _, _, e, _⟩ := h; subst e; rfl)
    · skip
      obtain ⟨st, m, rfl, ⟨x, y, z, hst⟩, hm, k⟩ := h
      have hS : SqL K H st [.int x, .int y, .int z] := SqL.of hst
      have m0 : (0 : Int) < (m : Int) := by omega
      have dv : CDiv x (m : Int) := ⟨m0, by omega⟩
      have fin : ∀ (H' : Hp) (v : Int), But st H H' → Q (.int (v % m)) H' := fun H' v b => by
        have h2 := Int.emod_nonneg v (Int.ne_of_gt m0)
        have h3 := Int.emod_lt_of_pos v m0
        obtain ⟨i, hi⟩ := Int.eq_ofNat_of_zero_le h2
        rw [hi]
        exact k H' i b (by omega)
      have bt : ∀ a b c : Int, But st H (upd H st (.lst [.int a, .int b, .int c])) := fun a b c => ⟨⟨a, b, c, upd_same⟩, fun p o n e => by rw [upd_ne n]; exact e⟩
      refine ⟨_, rfl, st, _, _, _, rfl, rfl, hS, atI_nat (j := 0) rfl, _, _, rfl, rfl, _, rfl, iteD (fun c1 => ?_) (fun c1 => ?_)⟩
      · refine ⟨_, rfl, st, _, _, _, rfl, rfl, hS, atI_nat (j := 0) rfl, _, rfl, _, _, rfl, rfl, m0, ?_⟩
        refine ⟨_, rfl, st, _, _, _, rfl, rfl, hS, atI_nat (j := 0) rfl, _, rfl, _, _, rfl, rfl, dv, _, rfl, st, _, _, 0, rfl, rfl, hst, rfl, _, rfl, ?_⟩
        exact fin _ _ (bt _ _ _)
      · have hS2 : SqL K (upd H st (.lst [.int x, .int (y + 1), .int z])) st [.int x, .int (y + 1), .int z] := SqL.of upd_same
        refine ⟨_, rfl, st, _, _, _, rfl, rfl, hS, atI_nat (j := 1) rfl, _, _, rfl, rfl, _, rfl, st, _, _, 1, rfl, rfl, hst, rfl, ?_⟩
        have hm1 : CMul z 48271 := .inr ⟨by decide, by decide⟩
        have hm2 : CMul (y + 1) 1299709 := .inr ⟨by decide, by decide⟩
        have hm3 : CMul (y + 1) 7919 := .inr ⟨by decide, by decide⟩
        have h4 := Int.emod_nonneg (z * 48271 + (y + 1) * 1299709) (b := 2147483647) (by decide)
        have h5 := Int.emod_lt_of_pos (z * 48271 + (y + 1) * 1299709) (b := 2147483647) (by decide)
        refine ⟨_, rfl, st, _, _, _, rfl, rfl, hS2, atI_nat (j := 2) rfl, _, _, rfl, rfl, hm1, _, rfl, st, _, _, _, rfl, rfl, hS2, atI_nat (j := 1) rfl, _, _, rfl, rfl, hm2, _, _, rfl, rfl, _, _, rfl, rfl, q47, ?_⟩
        have hm4 : CMul ((z * 48271 + (y + 1) * 1299709) % 2147483647) ((z * 48271 + (y + 1) * 1299709) % 2147483647) := .inl ⟨by omega, by omega⟩
        refine ⟨_, rfl, _, rfl, _, _, rfl, rfl, hm4, _, rfl, st, _, _, _, rfl, rfl, hS2, atI_nat (j := 1) rfl, _, _, rfl, rfl, hm3, _, _, rfl, rfl, _, _, rfl, rfl, q29, ?_⟩
        have h6 := Int.emod_nonneg ((z * 48271 + (y + 1) * 1299709) % 2147483647 * ((z * 48271 + (y + 1) * 1299709) % 2147483647) + (y + 1) * 7919) (b := 2147483629) (by decide)
        have h7 := Int.emod_lt_of_pos ((z * 48271 + (y + 1) * 1299709) % 2147483647 * ((z * 48271 + (y + 1) * 1299709) % 2147483647) + (y + 1) * 7919) q29
        generalize hnn : ((z * 48271 + (y + 1) * 1299709) % 2147483647 * ((z * 48271 + (y + 1) * 1299709) % 2147483647) + (y + 1) * 7919) % 2147483629 = nn at h6 h7
        have hm6 : CMul nn nn := .inl ⟨by omega, by omega⟩
        rw [← hnn] at hm6
        refine ⟨_, rfl, _, rfl, _, _, rfl, rfl, hm6, _, _, rfl, rfl, q87, _, rfl, _, _, rfl, rfl, m0, ?_⟩
        exact fin _ _ (bt _ _ _)
  exact ⟨_, fd, _, [], G, T.g__law_draw, F.kp, F.bindsN (fun _ _ _ _ _ _ us hl => match us, hl with | [_, _], _ => rfl), .nil⟩
end
end K73

set_option maxHeartbeats 4000000
/-! the law's own draws: words, names, rows -/
namespace K73
open PySem PySem.Spec PyProof.Rows L2
open C8 (Cal Mak Met pe_c pe_mk pe_mt pe_mt0 pe_gc)
local macro_rules | `(tactic| walk_at "rd") => `(tactic| repeat (first | refine ⟨_, rfl, ?_⟩ | refine ⟨_, _, rfl, rfl, ?_⟩ | refine ⟨_, rfl, rfl, ?_⟩ | refine ⟨_, _, rfl, ?_⟩ | refine ⟨_, _, _, rfl, ?_⟩ | refine ⟨_, _, _, _, rfl, ?_⟩ | refine And.intro rfl ?_ | refine And.intro trivial ?_ | refine And.intro (le_sz (Nat.le_of_ble_eq_true rfl)) ?_ | refine And.intro (le_sz (by omega)) ?_ | refine iteT ?_ | refine iteF ?_ | refine iteDt (by omega) ?_ | refine iteDf (by omega) ?_ | refine iteNt (by omega) ?_ | refine iteNf (by omega) ?_ | refine And.intro (by omega) ?_ | refine ⟨_, _, _, _, _, rfl, .ty _, .base (.str _), kit_ss, ?_⟩ | refine ⟨_, _, _, _, _, rfl, .ty _, .base (.lst (by assumption)), kit_ll, ?_⟩ | refine ⟨_, _, _, _, _, rfl, .ty _, .base (.dK (by assumption)), kit_dd, ?_⟩ | refine ⟨_, _, _, _, _, rfl, .ty _, .base (.tup (by assumption)), kit_tt, ?_⟩))

theorem cdv2 (i : Int) : CDiv i 2 := ⟨by decide, by decide⟩
theorem cm64 (i : Int) : CMul i 65536 := .inr ⟨by decide, by decide⟩
theorem two_lt {j w : Nat} (h : j < w) : (2 : Int) ^ j < 2 ^ w := by
  have : (2 : Nat) ^ j < 2 ^ w := Nat.pow_lt_pow_right (by decide) h
  exact_mod_cast this
theorem two_16 {w : Nat} (h : 4 ≤ w) : (16 : Int) ≤ 2 ^ w := by
  have : (2 : Nat) ^ 4 ≤ 2 ^ w := Nat.pow_le_pow_right (by decide) h
  exact_mod_cast this
section
variable {P : Program} {w : World} {K : PySem.W.Frag} {mg : Str → Option Value} {base : Heap}
def sorts : List Str := words.take 15
def spSorts : Sp := fun vs H Q _ => vs = [] ∧ ∀ H' p, Same H H' → H p = none → H' p = some (.lst (sorts.map V.str)) → Q (.ref p) H'
theorem sc_f_law_sorts : FnScope ["_law_words_here"] [] (defScope sf_law_sorts) := ⟨rfl, rfl, rfl, by decide +kernel, rfl, by decide +kernel, by decide +kernel⟩
theorem cal_f_law_sorts (T : Txt K mg) : Cal P w K mg base (1) "_law_sorts" (spSorts) [] := by
  obtain ⟨fd, F0⟩ := T.c.d.def_ 91 (d := df_law_sorts) rfl
  have F : FunD K "_law_sorts" "_law_sorts" (defArgs sf_law_sorts) (defBody sf_law_sorts) (defScope sf_law_sorts) [] [] (He.fAd K df_law_sorts.at_) fd := F0
  have G : FnOk P w K mg base CX0 1 (He.fAd K df_law_sorts.at_) fd [] (spSorts) := by
    refine F.ok (CX := CX0) sc_f_law_sorts (fun vs H Q E h => ?_) (fun cdv A outer s H vs Q E hr h => ⟨_, PSs.nox (by exact (pss_cons (ps_set (i := 0) sc_f_law_sorts.nd rfl (Or.inl rfl) (pe_lst (pa_cons pe_str (pa_cons pe_str (pa_cons pe_str (pa_cons pe_str (pa_cons pe_str (pa_cons pe_str (pa_cons pe_str (pa_cons pe_str (pa_cons pe_str (pa_cons pe_str (pa_cons pe_str (pa_cons pe_str pa_nil))))))))))))))
      (pss_one (ps_ret (pe_op op_cat (pv 0) (pe_lst (pa_cons pe_str (pa_cons pe_str (pa_cons pe_str pa_nil))))))))), ?_⟩)
    · first
      | (obtain ⟨e, _⟩ := h; subst e; rfl)
      | (obtain ⟨_, e, _⟩ := h; subst e; rfl)
      | (obtain ⟨_, _, e, _⟩ := h; subst e; rfl)
      | (obtain ⟨_, _, _, e, _⟩ := h; subst e; rfl)
      | (obtain ⟨_, _, _, _, e, _⟩ := h; subst e; rfl)
      | (obtain ⟨_, _, _, _, _, e, _⟩ := h; subst e; rfl)
      | (obtain ⟨_, _, _, _, _, _, e, _⟩ := h; subst e; rfl)
      | (obtain ⟨_, _, _, _, _, _, _, e, _⟩ := h; subst e; rfl)
      | (obtain ⟨_, _, _, _, _, _, _, _, e, _⟩ := h; subst e; rfl)
      | (obtain ⟨_, _, _, _, _, _, _, _, _, e, _⟩ := h; subst e; rfl)
      | (obtain ⟨_, _, _, _, _, _, _, _, _, _, e, _⟩ := h; subst e; rfl)
      | (obtain ⟨_, _, _, _, _, _, _, _, _, _, _, e, _⟩ := h; subst e; rfl)
      | (obtain ⟨_, _, _, _, _, _, _, _, _, _, _, _, e, _⟩ := h; subst e; rfl)
      | (obtain ⟨_, _, _, _, _, _, _, _, _, _, _, _, _, e, _⟩ := h; subst e; rfl)
    · skip
      obtain ⟨rfl, k⟩ := h
      refine ⟨le_sz (Nat.le_of_ble_eq_true rfl), fun a ha => ?_⟩
      refine ⟨_, rfl, le_sz (Nat.le_of_ble_eq_true rfl), fun b hb => ?_⟩
      have s1 := same_new (o := .lst ((["set", "copy", "sum", "gap", "low", "high", "left", "right", "slide", "and", "or", "unlike"] : List Str).map V.str)) ha
      have s2 := s1.trans (same_new (o := .lst ((["under", "pick", "mark"] : List Str).map V.str)) hb)
      refine ⟨_, _, _, _, rfl, rfl, same_new hb _ _ upd_same, upd_same, le_sz (Nat.le_of_ble_eq_true rfl), fun p hp => ?_⟩
      exact k _ p (s2.trans (same_new hp)) (s2.free hp) upd_same
  exact ⟨_, fd, _, [], G, T.g__law_sorts, F.kp, F.bindsN (fun _ _ _ _ _ _ us hl => match us, hl with | [], _ => rfl), .nil⟩
def spWordsL : Sp := fun vs H Q _ => vs = [] ∧ ∀ H' p, Same H H' → H p = none → H' p = some (.lst (words.map V.str)) → Q (.ref p) H'
theorem sc_f_law_words : FnScope [] [] (defScope sf_law_words) := ⟨rfl, rfl, rfl, by decide +kernel, rfl, by decide +kernel, by decide +kernel⟩
theorem cal_f_law_words (T : Txt K mg) : Cal P w K mg base (2) "_law_words" (spWordsL) [] := by
  obtain ⟨fd, F0⟩ := T.c.d.def_ 99 (d := df_law_words) rfl
  have F : FunD K "_law_words" "_law_words" (defArgs sf_law_words) (defBody sf_law_words) (defScope sf_law_words) [] [] (He.fAd K df_law_words.at_) fd := F0
  have G : FnOk P w K mg base CX0 2 (He.fAd K df_law_words.at_) fd [] (spWordsL) := by
    refine F.ok (CX := CX0) sc_f_law_words (fun vs H Q E h => ?_) (fun cdv A outer s H vs Q E hr h => ⟨_, PSs.nox (by exact (pss_one (ps_ret (pe_op op_cat (pe_c0 (cal_f_law_sorts T) hr (by omega) rfl) (pe_lst (pa_cons pe_str pa_nil)))))), ?_⟩)
    · first
      | (obtain ⟨e, _⟩ := h; subst e; rfl)
      | (obtain ⟨_, e, _⟩ := h; subst e; rfl)
      | (obtain ⟨_, _, e, _⟩ := h; subst e; rfl)
      | (obtain ⟨_, _, _, e, _⟩ := h; subst e; rfl)
      | (obtain ⟨_, _, _, _, e, _⟩ := h; subst e; rfl)
      | (obtain ⟨_, _, _, _, _, e, _⟩ := h; subst e; rfl)
      | (obtain ⟨_, _, _, _, _, _, e, _⟩ := h; subst e; rfl)
      | (obtain ⟨_, _, _, _, _, _, _, e, _⟩ := h; subst e; rfl)
      | (obtain ⟨_, _, _, _, _, _, _, _, e, _⟩ := h; subst e; rfl)
      | (obtain ⟨_, _, _, _, _, _, _, _, _, e, _⟩ := h; subst e; rfl)
      | (obtain ⟨_, _, _, _, _, _, _, _, _, _, e, _⟩ := h; subst e; rfl)
      | (obtain ⟨_, _, _, _, _, _, _, _, _, _, _, e, _⟩ := h; subst e; rfl)
      | (obtain ⟨_, _, _, _, _, _, _, _, _, _, _, _, e, _⟩ := h; subst e; rfl)
      | (obtain ⟨_, _, _, _, _, _, _, _, _, _, _, _, _, e, _⟩ := h; subst e; rfl)
    · skip
      obtain ⟨rfl, k⟩ := h
      refine ⟨rfl, fun H1 a s1 _ ha => ?_⟩
      refine ⟨le_sz (Nat.le_of_ble_eq_true rfl), fun b hb => ?_⟩
      have s2 := s1.trans (same_new (o := .lst ((["turns"] : List Str).map V.str)) hb)
      refine ⟨_, _, _, _, rfl, rfl, same_new hb _ _ ha, upd_same, le_sz (Nat.le_of_ble_eq_true rfl), fun p hp => ?_⟩
      exact k _ p (s2.trans (same_new hp)) (s2.free hp) upd_same
  exact ⟨_, fd, _, [], G, T.g__law_words, F.kp, F.bindsN (fun _ _ _ _ _ _ us hl => match us, hl with | [], _ => rfl), .nil⟩
def spLName : Sp := fun vs H Q _ => ∃ (st l : Addr) (ns : List Str), vs = [.ref st, .ref l] ∧ D3 H st ∧ H l = some (.lst (ns.map V.str)) ∧ (1 ≤ ns.length ∧ ns.length ≤ 1000) ∧ l ≠ st ∧ ∀ H' z, But st H H' → z ∈ ns → Q (.str z) H'
theorem sc_f_law_name : FnScope ["_law_state", "_law_names_here"] ["_law_state", "_law_names_here"] (defScope sf_law_name) := ⟨rfl, rfl, rfl, by decide +kernel, rfl, by decide +kernel, by decide +kernel⟩
theorem cal_f_law_name (T : Txt K mg) : Cal P w K mg base (2) "_law_name" (spLName) [] := by
  obtain ⟨fd, F0⟩ := T.c.d.def_ 89 (d := df_law_name) rfl
  have F : FunD K "_law_name" "_law_name" (defArgs sf_law_name) (defBody sf_law_name) (defScope sf_law_name) [] [] (He.fAd K df_law_name.at_) fd := F0
  have G : FnOk P w K mg base CX0 2 (He.fAd K df_law_name.at_) fd ["_law_state", "_law_names_here"] (spLName) := by
    refine F.ok (CX := CX0) sc_f_law_name (fun vs H Q E h => ?_) (fun cdv A outer s H vs Q E hr h => ⟨_, PSs.nox (by exact (pss_one (ps_ret (pe_ix ix_list (pv 1) (pe_c (cal_f_law_draw T) hr (by omega) rfl (pa_cons (pv 0) (pa_cons (pe_callB call_len_seq rfl T.f_len (by decide +kernel) (pa_cons (pv 1) pa_nil)) pa_nil))) (fun _ _ => rfl))))), ?_⟩)
    · first
      | (obtain ⟨e, _⟩ := h; subst e; rfl)
      | (obtain ⟨_, e, _⟩ := h; subst e; rfl)
      | (obtain ⟨_, _, e, _⟩ := h; subst e; rfl)
      | (obtain ⟨_, _, _, e, _⟩ := h; subst e; rfl)
      | (obtain ⟨_, _, _, _, e, _⟩ := h; subst e; rfl)
      | (obtain ⟨_, _, _, _, _, e, _⟩ := h; subst e; rfl)
      | (obtain ⟨_, _, _, _, _, _, e, _⟩ := h; subst e; rfl)
      | (obtain ⟨_, _, _, _, _, _, _, e, _⟩ := h; subst e; rfl)
      | (obtain ⟨_, _, _, _, _, _, _, _, e, _⟩ := h; subst e; rfl)
      | (obtain ⟨_, _, _, _, _, _, _, _, _, e, _⟩ := h; subst e; rfl)
      | (obtain ⟨_, _, _, _, _, _, _, _, _, _, e, _⟩ := h; subst e; rfl)
      | (obtain ⟨_, _, _, _, _, _, _, _, _, _, _, e, _⟩ := h; subst e; rfl)
      | (obtain ⟨_, _, _, _, _, _, _, _, _, _, _, _, e, _⟩ := h; subst e; rfl)
      | (obtain ⟨_, _, _, _, _, _, _, _, _, _, _, _, _, e, _⟩ := h; subst e; rfl)
    · skip
      obtain ⟨st, l, ns, rfl, hst, hl, hn, nl, k⟩ := h
      refine ⟨_, rfl, _, rfl, _, rfl, l, _, rfl, .inl (SqL.of hl), st, (ns.map V.str).length, rfl, hst, by rw [List.length_map]; omega, fun H1 i b1 hi => ?_⟩
      rw [List.length_map] at hi
      exact ⟨l, _, i, .str ns[i], rfl, rfl, SqL.of (b1.kp l _ nl hl), atI_nat (by rw [List.getElem?_map, List.getElem?_eq_getElem hi]; rfl), k _ _ b1 (List.getElem_mem hi)⟩
  exact ⟨_, fd, _, [], G, T.g__law_name, F.kp, F.bindsN (fun _ _ _ _ _ _ us hl => match us, hl with | [_, _], _ => rfl), .nil⟩
def spLWord : Sp := fun vs H Q _ => ∃ (st : Addr) (w : Nat), vs = [.ref st, .int w] ∧ D3 H st ∧ (4 ≤ w ∧ w ≤ 32) ∧ ∀ H' i, But st H H' → 0 ≤ i → i < 2 ^ w → Q (.int i) H'
theorem sc_f_law_word : FnScope ["_law_state", "_law_width", "_law_size", "_law_way"] ["_law_state", "_law_width"] (defScope sf_law_word) := ⟨rfl, rfl, rfl, by decide +kernel, rfl, by decide +kernel, by decide +kernel⟩
theorem cal_f_law_word (T : Txt K mg) : Cal P w K mg base (2) "_law_word" (spLWord) [] := by
  obtain ⟨fd, F0⟩ := T.c.d.def_ 87 (d := df_law_word) rfl
  have F : FunD K "_law_word" "_law_word" (defArgs sf_law_word) (defBody sf_law_word) (defScope sf_law_word) [] [] (He.fAd K df_law_word.at_) fd := F0
  have G : FnOk P w K mg base CX0 2 (He.fAd K df_law_word.at_) fd ["_law_state", "_law_width"] (spLWord) := by
    refine F.ok (CX := CX0) sc_f_law_word (fun vs H Q E h => ?_) (fun cdv A outer s H vs Q E hr h => ⟨_, PSs.nox (by exact (pss_cons (ps_set (i := 2) sc_f_law_word.nd rfl (Or.inl rfl) (pe_op op_oneShl pe_int (pv 1)))
      (pss_cons (ps_set (i := 3) sc_f_law_word.nd rfl (Or.inl rfl) (pe_c (cal_f_law_draw T) hr (by omega) rfl (pa_cons (pv 0) (pa_cons pe_int pa_nil))))
      (pss_cons (ps_if (pt_cmpR op_lt (pv 3) pe_int (nomark _)) (pss_one (ps_ret (pe_ix ix_list (pe_lst (pa_cons pe_int (pa_cons pe_int (pa_cons (pe_op op_sub (pv 2) pe_int) pa_nil)))) (pv 3) (fun _ _ => rfl)))) pss_nil)
      (pss_cons (ps_if (pt_cmpR op_eq (pv 3) pe_int (nomark _)) (pss_one (ps_ret (pe_op op_sub (pe_op op_fdiv (pv 2) pe_int) (pe_c (cal_f_law_draw T) hr (by omega) rfl (pa_cons (pv 0) (pa_cons pe_int pa_nil)))))) pss_nil)
      (pss_cons (ps_if (pt_cmpR op_eq (pv 3) pe_int (nomark _)) (pss_one (ps_ret (pe_op op_oneShl pe_int (pe_c (cal_f_law_draw T) hr (by omega) rfl (pa_cons (pv 0) (pa_cons (pv 1) pa_nil)))))) pss_nil)
      (pss_cons (ps_if (pt_cmpR op_eq (pv 3) pe_int (nomark _)) (pss_one (ps_ret (pe_op op_mod (pe_c (cal_f_law_draw T) hr (by omega) rfl (pa_cons (pv 0) (pa_cons pe_int pa_nil))) (pv 2)))) pss_nil)
      (pss_one (ps_ret (pe_op op_mod (pe_op op_add (pe_op op_mul (pe_c (cal_f_law_draw T) hr (by omega) rfl (pa_cons (pv 0) (pa_cons pe_int pa_nil))) pe_int) (pe_c (cal_f_law_draw T) hr (by omega) rfl (pa_cons (pv 0) (pa_cons pe_int pa_nil)))) (pv 2))))))))))), ?_⟩)
    · first
      | (obtain ⟨e, _⟩ := h; subst e; rfl)
      | (obtain ⟨_, e, _⟩ := h; subst e; rfl)
      | (obtain ⟨_, _, e, _⟩ := h; subst e; rfl)
      | (obtain ⟨_, _, _, e, _⟩ := h; subst e; rfl)
      | (obtain ⟨_, _, _, _, e, _⟩ := h; subst e; rfl)
      | (obtain ⟨_, _, _, _, _, e, _⟩ := h; subst e; rfl)
      | (obtain ⟨_, _, _, _, _, _, e, _⟩ := h; subst e; rfl)
      | (obtain ⟨_, _, _, _, _, _, _, e, _⟩ := h; subst e; rfl)
      | (obtain ⟨_, _, _, _, _, _, _, _, e, _⟩ := h; subst e; rfl)
      | (obtain ⟨_, _, _, _, _, _, _, _, _, e, _⟩ := h; subst e; rfl)
      | (obtain ⟨_, _, _, _, _, _, _, _, _, _, e, _⟩ := h; subst e; rfl)
      | (obtain ⟨_, _, _, _, _, _, _, _, _, _, _, e, _⟩ := h; subst e; rfl)
      | (obtain ⟨_, _, _, _, _, _, _, _, _, _, _, _, e, _⟩ := h; subst e; rfl)
      | (obtain ⟨_, _, _, _, _, _, _, _, _, _, _, _, _, e, _⟩ := h; subst e; rfl)
    · skip
      obtain ⟨st, w, rfl, hst, hw, k⟩ := h
      have p0 := two_pos w
      have p16 := two_16 hw.1
      refine ⟨_, rfl, w, rfl, rfl, by omega, ?_⟩
      refine ⟨_, rfl, st, 8, rfl, hst, by omega, fun H1 i b1 hi => ?_⟩
      refine ⟨_, rfl, _, _, rfl, rfl, _, rfl, iteD (fun c => ?_) (fun c => ?_)⟩
      · refine ⟨_, rfl, _, _, rfl, rfl, le_sz (Nat.le_of_ble_eq_true rfl), fun D hD => ?_⟩
        obtain rfl | rfl | rfl : i = 0 ∨ i = 1 ∨ i = 2 := by omega
        · exact ⟨_, rfl, D, _, _, _, rfl, rfl, SqL.of upd_same, atI_nat (j := 0) rfl, k _ _ (b1.same (same_new hD)) (by omega) (by omega)⟩
        · exact ⟨_, rfl, D, _, _, _, rfl, rfl, SqL.of upd_same, atI_nat (j := 1) rfl, k _ _ (b1.same (same_new hD)) (by omega) (by omega)⟩
        · exact ⟨_, rfl, D, _, _, _, rfl, rfl, SqL.of upd_same, atI_nat (j := 2) rfl, k _ _ (b1.same (same_new hD)) (by omega) (by omega)⟩
      refine ⟨_, rfl, rfl, _, rfl, iteD (fun c3 => ?_) (fun c3 => ?_)⟩
      · refine ⟨_, rfl, _, _, rfl, rfl, cdv2 _, _, rfl, st, 2, rfl, b1.d3, by omega, fun H2 j b2 hj => ⟨_, _, rfl, rfl, k _ _ (b1.trans b2) (by omega) (by omega)⟩⟩
      refine ⟨_, rfl, rfl, _, rfl, iteD (fun c4 => ?_) (fun c4 => ?_)⟩
      · refine ⟨_, rfl, _, rfl, st, w, rfl, b1.d3, by omega, fun H2 j b2 hj => ⟨j, rfl, rfl, by omega, k _ _ (b1.trans b2) (Int.le_of_lt (two_pos j)) (two_lt hj)⟩⟩
      refine ⟨_, rfl, rfl, _, rfl, iteD (fun c5 => ?_) (fun c5 => ?_)⟩
      · refine ⟨_, rfl, st, 17, rfl, b1.d3, by omega, fun H2 j b2 hj => ⟨_, rfl, _, _, rfl, rfl, p0, k _ _ (b1.trans b2) (Int.emod_nonneg _ (Int.ne_of_gt p0)) (Int.emod_lt_of_pos _ p0)⟩⟩
      refine ⟨_, rfl, st, 65536, rfl, b1.d3, by omega, fun H2 j b2 hj => ⟨_, _, rfl, rfl, cm64 _, ?_⟩⟩
      refine ⟨_, rfl, st, 65536, rfl, b2.d3, by omega, fun H3 j3 b3 hj3 => ⟨_, _, rfl, rfl, _, rfl, _, _, rfl, rfl, p0, ?_⟩⟩
      exact k _ _ ((b1.trans b2).trans b3) (Int.emod_nonneg _ (Int.ne_of_gt p0)) (Int.emod_lt_of_pos _ p0)
  exact ⟨_, fd, _, [], G, T.g__law_word, F.kp, F.bindsN (fun _ _ _ _ _ _ us hl => match us, hl with | [_, _], _ => rfl), .nil⟩
end
end K73

set_option maxHeartbeats 4000000
/-! the law's own draws: rows -/
namespace K73
open PySem PySem.Spec PyProof.Rows L2
open C8 (Cal Mak Met pe_c pe_mk pe_mt pe_mt0 pe_gc)
local macro_rules | `(tactic| walk_at "rd") => `(tactic| repeat (first | refine ⟨_, rfl, ?_⟩ | refine ⟨_, _, rfl, rfl, ?_⟩ | refine ⟨_, rfl, rfl, ?_⟩ | refine ⟨_, _, rfl, ?_⟩ | refine ⟨_, _, _, rfl, ?_⟩ | refine ⟨_, _, _, _, rfl, ?_⟩ | refine And.intro rfl ?_ | refine And.intro trivial ?_ | refine And.intro (le_sz (Nat.le_of_ble_eq_true rfl)) ?_ | refine And.intro (le_sz (by omega)) ?_ | refine iteT ?_ | refine iteF ?_ | refine iteDt (by omega) ?_ | refine iteDf (by omega) ?_ | refine iteNt (by omega) ?_ | refine iteNf (by omega) ?_ | refine And.intro (by omega) ?_ | refine ⟨_, _, _, _, _, rfl, .ty _, .base (.str _), kit_ss, ?_⟩ | refine ⟨_, _, _, _, _, rfl, .ty _, .base (.lst (by assumption)), kit_ll, ?_⟩ | refine ⟨_, _, _, _, _, rfl, .ty _, .base (.dK (by assumption)), kit_dd, ?_⟩ | refine ⟨_, _, _, _, _, rfl, .ty _, .base (.tup (by assumption)), kit_tt, ?_⟩))

theorem vs_ne {a b : Str} (h : a ≠ b) : ¬ V.str a = V.str b := fun z => h (V.str.inj z)
local macro_rules | `(tactic| walk_at "wd") => `(tactic| repeat (first | refine ⟨_, rfl, rfl, _, rfl, iteDf (vs_ne (by decide +kernel)) ?_⟩ | refine ⟨_, rfl, rfl, _, rfl, iteDt rfl ?_⟩ | refine iteT ?_))
theorem sort_at {i : Nat} (h : i < 15) : ∃ c : Cl, c ≠ .turns ∧ (sorts.map V.str)[i]? = some (.str c.wd) := by
  have : ∀ i : Fin 15, ∃ c : Cl, c ≠ .turns ∧ allCl[i.1]? = some c := by
    intro i
    have e : i.1 < allCl.length := Nat.lt_of_lt_of_le i.2 (by decide)
    refine ⟨allCl[i.1], ?_, List.getElem?_eq_getElem e⟩
    revert i
    decide
  obtain ⟨c, hc, e⟩ := this ⟨i, h⟩
  refine ⟨c, hc, ?_⟩
  rw [List.getElem?_map, show sorts = (allCl.map Cl.wd).take 15 from rfl, List.getElem?_take_of_lt h, List.getElem?_map, e]
  rfl
section
variable {P : Program} {w : World} {K : PySem.W.Frag} {mg : Str → Option Value} {base : Heap}
def spLRow : Sp := fun vs H Q _ => ∃ (st l : Addr) (ns : List Str) (w : Nat), vs = [.ref st, .int w, .ref l] ∧ D3 H st ∧ H l = some (.lst (ns.map V.str)) ∧ (1 ≤ ns.length ∧ ns.length ≤ 1000) ∧ l ≠ st ∧ (∀ z ∈ ns, IsReg z) ∧ (4 ≤ w ∧ w ≤ 32) ∧
  ∀ H' p (r : Leaf), But st H H' → H p = none → H' p = some (.tup r.vals) → r.Good w → Q (.ref p) H'
theorem sc_f_law_row : FnScope ["_law_state", "_law_width", "_law_names_here", "_law_word_here", "_law_goal", "_law_one", "_law_other", "_law_line"] ["_law_state", "_law_width", "_law_names_here"] (defScope sf_law_row) := ⟨rfl, rfl, rfl, by decide +kernel, rfl, by decide +kernel, by decide +kernel⟩
theorem cal_f_law_row (T : Txt K mg) : Cal P w K mg base (3) "_law_row" (spLRow) [] := by
  obtain ⟨fd, F0⟩ := T.c.d.def_ 90 (d := df_law_row) rfl
  have F : FunD K "_law_row" "_law_row" (defArgs sf_law_row) (defBody sf_law_row) (defScope sf_law_row) [] [] (He.fAd K df_law_row.at_) fd := F0
  have G : FnOk P w K mg base CX0 3 (He.fAd K df_law_row.at_) fd ["_law_state", "_law_width", "_law_names_here"] (spLRow) := by
    refine F.ok (CX := CX0) sc_f_law_row (fun vs H Q E h => ?_) (fun cdv A outer s H vs Q E hr h => ⟨_, PSs.nox (by exact (pss_cons (ps_set (i := 3) sc_f_law_row.nd rfl (Or.inl rfl) (pe_ix ix_list (pe_c0 (cal_f_law_sorts T) hr (by omega) rfl) (pe_c (cal_f_law_draw T) hr (by omega) rfl (pa_cons (pv 0) (pa_cons pe_int pa_nil))) (fun _ _ => rfl)))
      (pss_cons (ps_set (i := 4) sc_f_law_row.nd rfl (Or.inl rfl) (pe_c (cal_f_law_name T) hr (by omega) rfl (pa_cons (pv 0) (pa_cons (pv 2) pa_nil))))
      (pss_cons (ps_set (i := 5) sc_f_law_row.nd rfl (Or.inl rfl) (pe_c (cal_f_law_name T) hr (by omega) rfl (pa_cons (pv 0) (pa_cons (pv 2) pa_nil))))
      (pss_cons (ps_set (i := 6) sc_f_law_row.nd rfl (Or.inl rfl) (pe_c (cal_f_law_name T) hr (by omega) rfl (pa_cons (pv 0) (pa_cons (pv 2) pa_nil))))
      (pss_cons (ps_if (pt_cmpR op_eq (pv 3) pe_str (nomark _)) (pss_one (ps_ret (pe_tup (pa_cons pe_str (pa_cons (pv 4) (pa_cons (pe_c (cal_f_law_word T) hr (by omega) rfl (pa_cons (pv 0) (pa_cons (pv 1) pa_nil))) pa_nil)))))) pss_nil)
      (pss_cons (ps_if (pt_cmpR op_eq (pv 3) pe_str (nomark _)) (pss_one (ps_ret (pe_tup (pa_cons pe_str (pa_cons (pv 4) (pa_cons (pv 5) pa_nil)))))) pss_nil)
      (pss_cons (ps_if (PW.pt (pw_or (pt_cmpR op_eq (pv 3) pe_str (nomark _)) (pw_or1 (pt_cmpR op_eq (pv 3) pe_str (nomark _))))) (pss_one (ps_ret (pe_tup (pa_cons (pv 3) (pa_cons (pv 4) (pa_cons (pe_ix ix_list (pe_lst (pa_cons pe_non (pa_cons (pe_c (cal_f_law_name T) hr (by omega) rfl (pa_cons (pv 0) (pa_cons (pv 2) pa_nil))) pa_nil))) (pe_c (cal_f_law_draw T) hr (by omega) rfl (pa_cons (pv 0) (pa_cons pe_int pa_nil))) (fun _ _ => rfl)) (pa_cons (pv 5) (pa_cons (pv 6) pa_nil)))))))) pss_nil)
      (pss_cons (ps_if (PW.pt (pw_or (pt_cmpR op_eq (pv 3) pe_str (nomark _)) (pw_or (pt_cmpR op_eq (pv 3) pe_str (nomark _)) (pw_or1 (pt_cmpR op_eq (pv 3) pe_str (nomark _)))))) (pss_one (ps_ret (pe_tup (pa_cons (pv 3) (pa_cons (pv 4) (pa_cons (pv 5) (pa_cons (pe_ix ix_list (pe_lst (pa_cons pe_int (pa_cons (pe_op op_sub (pv 1) pe_int) (pa_cons (pe_c (cal_f_law_draw T) hr (by omega) rfl (pa_cons (pv 0) (pa_cons (pv 1) pa_nil))) pa_nil)))) (pe_c (cal_f_law_draw T) hr (by omega) rfl (pa_cons (pv 0) (pa_cons pe_int pa_nil))) (fun _ _ => rfl)) pa_nil))))))) pss_nil)
      (pss_cons (ps_if (pt_cmpR op_eq (pv 3) pe_str (nomark _)) (pss_one (ps_ret (pe_tup (pa_cons pe_str (pa_cons (pv 4) (pa_cons (pe_c (cal_f_law_name T) hr (by omega) rfl (pa_cons (pv 0) (pa_cons (pv 2) pa_nil))) (pa_cons (pv 5) (pa_cons (pv 6) pa_nil)))))))) pss_nil)
      (pss_cons (ps_if (pt_cmpR op_eq (pv 3) pe_str (nomark _)) (pss_cons (ps_set (i := 7) sc_f_law_row.nd rfl (Or.inl rfl) (pe_ix ix_list (pe_lst (pa_cons pe_int (pa_cons pe_int (pa_cons (pe_c (cal_f_law_draw T) hr (by omega) rfl (pa_cons (pv 0) (pa_cons pe_int pa_nil))) (pa_cons (pe_c (cal_f_law_draw T) hr (by omega) rfl (pa_cons (pv 0) (pa_cons pe_int pa_nil))) pa_nil))))) (pe_c (cal_f_law_draw T) hr (by omega) rfl (pa_cons (pv 0) (pa_cons pe_int pa_nil))) (fun _ _ => rfl)))
      (pss_one (ps_ret (pe_tup (pa_cons pe_str (pa_cons (pv 7) (pa_cons (pe_ix ix_list (pe_lst (pa_cons pe_str (pa_cons pe_str (pa_cons pe_str pa_nil)))) (pe_c (cal_f_law_draw T) hr (by omega) rfl (pa_cons (pv 0) (pa_cons pe_int pa_nil))) (fun _ _ => rfl)) (pa_cons (pv 5) pa_nil)))))))) pss_nil)
      (pss_one (ps_ret (pe_tup (pa_cons (pv 3) (pa_cons (pv 4) (pa_cons (pv 5) (pa_cons (pv 6) pa_nil)))))))))))))))))), ?_⟩)
    · first
      | (obtain ⟨e, _⟩ := h; subst e; rfl)
      | (obtain ⟨_, e, _⟩ := h; subst e; rfl)
      | (obtain ⟨_, _, e, _⟩ := h; subst e; rfl)
      | (obtain ⟨_, _, _, e, _⟩ := h; subst e; rfl)
      | (obtain ⟨_, _, _, _, e, _⟩ := h; subst e; rfl)
      | (obtain ⟨_, _, _, _, _, e, _⟩ := h; subst e; rfl)
      | (obtain ⟨_, _, _, _, _, _, e, _⟩ := h; subst e; rfl)
      | (obtain ⟨_, _, _, _, _, _, _, e, _⟩ := h; subst e; rfl)
      | (obtain ⟨_, _, _, _, _, _, _, _, e, _⟩ := h; subst e; rfl)
      | (obtain ⟨_, _, _, _, _, _, _, _, _, e, _⟩ := h; subst e; rfl)
      | (obtain ⟨_, _, _, _, _, _, _, _, _, _, e, _⟩ := h; subst e; rfl)
      | (obtain ⟨_, _, _, _, _, _, _, _, _, _, _, e, _⟩ := h; subst e; rfl)
      | (obtain ⟨_, _, _, _, _, _, _, _, _, _, _, _, e, _⟩ := h; subst e; rfl)
      | (obtain ⟨_, _, _, _, _, _, _, _, _, _, _, _, _, e, _⟩ := h; subst e; rfl)
    · skip
      obtain ⟨st, l, ns, w, rfl, hst, hl, hn, nl, hns, hw, k⟩ := h
      have fin : ∀ H1 p (r : Leaf), But st H H1 → H1 p = none → r.Good w → Q (.ref p) (upd H1 p (.tup r.vals)) := fun H1 p r b hp g => k _ p r (b.same (same_new hp)) (b.free hst hp) upd_same g
      refine ⟨rfl, fun H1 a s1 fa ha => ?_⟩
      have b1 : But st H H1 := (But.refl hst).same s1
      refine ⟨_, rfl, st, 15, rfl, b1.d3, by omega, fun H2 i b2 hi => ?_⟩
      obtain ⟨c, hc, e⟩ := sort_at hi
      have na : a ≠ st := hst.ne fa
      have b12 := b1.trans b2
      refine ⟨a, _, _, _, rfl, rfl, SqL.of (b2.kp a _ na ha), atI_nat e, ?_⟩
      refine ⟨_, rfl, _, rfl, st, l, ns, rfl, b12.d3, b12.kp l _ nl hl, hn, nl, fun H3 g c3 hg => ?_⟩
      have b3 := b12.trans c3
      refine ⟨_, rfl, _, rfl, st, l, ns, rfl, b3.d3, b3.kp l _ nl hl, hn, nl, fun H4 x c4 hx => ?_⟩
      have b4 := b3.trans c4
      refine ⟨_, rfl, _, rfl, st, l, ns, rfl, b4.d3, b4.kp l _ nl hl, hn, nl, fun H5 y c5 hy => ?_⟩
      have b5 := b4.trans c5
      have rg := hns g hg
      have rx := hns x hx
      have ry := hns y hy
      clear b12 b3 b4 c3 c4 c5 b1 b2 ha s1 e
      have plain : ∀ o : PO, tRet (tTup (tCons (tVar 3) (tCons (tVar 4) (tCons (tVar 5) (tCons (tVar 6) tNil))))) { nx := fun _ H' => Q .non H', rt := Q } [some (.ref st), some (.int w), some (.ref l), some (.str o.cl.wd), some (.str g), some (.str x), some (.str y), none] H5 :=
        fun o => ⟨_, rfl, _, rfl, _, rfl, _, rfl, le_sz (Nat.le_of_ble_eq_true rfl), fun p hp => fin H5 p (.pair o g x y) b5 hp ⟨rg, rx, ry⟩⟩
      cases c with
      | turns => exact absurd rfl hc
      | set => 
        walk_at "wd"
        exact ⟨_, rfl, _, rfl, _, rfl, st, w, rfl, b5.d3, hw, fun H6 i b6 h0 h1 => ⟨le_sz (Nat.le_of_ble_eq_true rfl), fun p hp => fin H6 p (.set g i) (b5.trans b6) hp ⟨rg, h0, h1⟩⟩⟩
      | copy => 
        walk_at "wd"
        exact ⟨_, rfl, _, rfl, le_sz (Nat.le_of_ble_eq_true rfl), fun p hp => fin H5 p (.copy g x) b5 hp ⟨rg, rx⟩⟩
      | low =>
        walk_at "wd"
        exact plain .low
      | high =>
        walk_at "wd"
        exact plain .high
      | and_ =>
        walk_at "wd"
        exact plain .and_
      | or_ =>
        walk_at "wd"
        exact plain .or_
      | unlike =>
        walk_at "wd"
        exact plain .unlike
      | under =>
        walk_at "wd"
        exact plain .under
      | sum =>
        walk_at "wd"
        refine ⟨_, rfl, _, rfl, _, rfl, _, rfl, st, l, ns, rfl, b5.d3, b5.kp l _ nl hl, hn, nl, fun H6 y2 c6 hy2 => ⟨le_sz (Nat.le_of_ble_eq_true rfl), fun D hD => ?_⟩⟩
        have b6 := (b5.trans c6).same (same_new (o := .lst [.non, .str y2]) hD)
        have nD := c6.d3.ne hD
        refine ⟨_, rfl, st, 2, rfl, b6.d3, by omega, fun H7 i c7 hi => ?_⟩
        have hL := SqL.of (K := K) (c7.kp D _ nD upd_same)
        obtain rfl | rfl : i = 0 ∨ i = 1 := by omega
        · exact ⟨D, _, _, _, rfl, rfl, hL, atI_nat (j := 0) rfl, _, rfl, _, rfl, le_sz (Nat.le_of_ble_eq_true rfl), fun p hp => fin H7 p (.carry .sum g none x y) (b6.trans c7) hp ⟨rg, (fun z e => by cases e), rx, ry⟩⟩
        · exact ⟨D, _, _, _, rfl, rfl, hL, atI_nat (j := 1) rfl, _, rfl, _, rfl, le_sz (Nat.le_of_ble_eq_true rfl), fun p hp => fin H7 p (.carry .sum g (some y2) x y) (b6.trans c7) hp ⟨rg, (fun z e => (Option.some.inj e) ▸ hns y2 hy2), rx, ry⟩⟩
      | gap =>
        walk_at "wd"
        refine ⟨_, rfl, _, rfl, _, rfl, _, rfl, st, l, ns, rfl, b5.d3, b5.kp l _ nl hl, hn, nl, fun H6 y2 c6 hy2 => ⟨le_sz (Nat.le_of_ble_eq_true rfl), fun D hD => ?_⟩⟩
        have b6 := (b5.trans c6).same (same_new (o := .lst [.non, .str y2]) hD)
        have nD := c6.d3.ne hD
        refine ⟨_, rfl, st, 2, rfl, b6.d3, by omega, fun H7 i c7 hi => ?_⟩
        have hL := SqL.of (K := K) (c7.kp D _ nD upd_same)
        obtain rfl | rfl : i = 0 ∨ i = 1 := by omega
        · exact ⟨D, _, _, _, rfl, rfl, hL, atI_nat (j := 0) rfl, _, rfl, _, rfl, le_sz (Nat.le_of_ble_eq_true rfl), fun p hp => fin H7 p (.carry .gap g none x y) (b6.trans c7) hp ⟨rg, (fun z e => by cases e), rx, ry⟩⟩
        · exact ⟨D, _, _, _, rfl, rfl, hL, atI_nat (j := 1) rfl, _, rfl, _, rfl, le_sz (Nat.le_of_ble_eq_true rfl), fun p hp => fin H7 p (.carry .gap g (some y2) x y) (b6.trans c7) hp ⟨rg, (fun z e => (Option.some.inj e) ▸ hns y2 hy2), rx, ry⟩⟩
      | left =>
        walk_at "wd"
        refine ⟨_, rfl, _, rfl, _, rfl, _, rfl, _, _, rfl, rfl, _, rfl, _, rfl, st, w, rfl, b5.d3, by omega, fun H6 j c6 hj => ⟨le_sz (Nat.le_of_ble_eq_true rfl), fun D hD => ?_⟩⟩
        have b6 := (b5.trans c6).same (same_new (o := .lst [.int 0, .int ((w : Int) - 1), .int j]) hD)
        have nD := c6.d3.ne hD
        refine ⟨_, rfl, st, 3, rfl, b6.d3, by omega, fun H7 i c7 hi => ?_⟩
        have hL := SqL.of (K := K) (c7.kp D _ nD upd_same)
        obtain rfl | rfl | rfl : i = 0 ∨ i = 1 ∨ i = 2 := by omega
        · exact ⟨D, _, _, _, rfl, rfl, hL, atI_nat (j := 0) rfl, le_sz (Nat.le_of_ble_eq_true rfl), fun p hp => fin H7 p (.shift .left g x 0) (b6.trans c7) hp ⟨rg, rx, by omega, by omega⟩⟩
        · exact ⟨D, _, _, _, rfl, rfl, hL, atI_nat (j := 1) rfl, le_sz (Nat.le_of_ble_eq_true rfl), fun p hp => fin H7 p (.shift .left g x ((w : Int) - 1)) (b6.trans c7) hp ⟨rg, rx, by omega, by omega⟩⟩
        · exact ⟨D, _, _, _, rfl, rfl, hL, atI_nat (j := 2) rfl, le_sz (Nat.le_of_ble_eq_true rfl), fun p hp => fin H7 p (.shift .left g x j) (b6.trans c7) hp ⟨rg, rx, by omega, by omega⟩⟩
      | right =>
        walk_at "wd"
        refine ⟨_, rfl, _, rfl, _, rfl, _, rfl, _, _, rfl, rfl, _, rfl, _, rfl, st, w, rfl, b5.d3, by omega, fun H6 j c6 hj => ⟨le_sz (Nat.le_of_ble_eq_true rfl), fun D hD => ?_⟩⟩
        have b6 := (b5.trans c6).same (same_new (o := .lst [.int 0, .int ((w : Int) - 1), .int j]) hD)
        have nD := c6.d3.ne hD
        refine ⟨_, rfl, st, 3, rfl, b6.d3, by omega, fun H7 i c7 hi => ?_⟩
        have hL := SqL.of (K := K) (c7.kp D _ nD upd_same)
        obtain rfl | rfl | rfl : i = 0 ∨ i = 1 ∨ i = 2 := by omega
        · exact ⟨D, _, _, _, rfl, rfl, hL, atI_nat (j := 0) rfl, le_sz (Nat.le_of_ble_eq_true rfl), fun p hp => fin H7 p (.shift .right g x 0) (b6.trans c7) hp ⟨rg, rx, by omega, by omega⟩⟩
        · exact ⟨D, _, _, _, rfl, rfl, hL, atI_nat (j := 1) rfl, le_sz (Nat.le_of_ble_eq_true rfl), fun p hp => fin H7 p (.shift .right g x ((w : Int) - 1)) (b6.trans c7) hp ⟨rg, rx, by omega, by omega⟩⟩
        · exact ⟨D, _, _, _, rfl, rfl, hL, atI_nat (j := 2) rfl, le_sz (Nat.le_of_ble_eq_true rfl), fun p hp => fin H7 p (.shift .right g x j) (b6.trans c7) hp ⟨rg, rx, by omega, by omega⟩⟩
      | slide =>
        walk_at "wd"
        refine ⟨_, rfl, _, rfl, _, rfl, _, rfl, _, _, rfl, rfl, _, rfl, _, rfl, st, w, rfl, b5.d3, by omega, fun H6 j c6 hj => ⟨le_sz (Nat.le_of_ble_eq_true rfl), fun D hD => ?_⟩⟩
        have b6 := (b5.trans c6).same (same_new (o := .lst [.int 0, .int ((w : Int) - 1), .int j]) hD)
        have nD := c6.d3.ne hD
        refine ⟨_, rfl, st, 3, rfl, b6.d3, by omega, fun H7 i c7 hi => ?_⟩
        have hL := SqL.of (K := K) (c7.kp D _ nD upd_same)
        obtain rfl | rfl | rfl : i = 0 ∨ i = 1 ∨ i = 2 := by omega
        · exact ⟨D, _, _, _, rfl, rfl, hL, atI_nat (j := 0) rfl, le_sz (Nat.le_of_ble_eq_true rfl), fun p hp => fin H7 p (.shift .slide g x 0) (b6.trans c7) hp ⟨rg, rx, by omega, by omega⟩⟩
        · exact ⟨D, _, _, _, rfl, rfl, hL, atI_nat (j := 1) rfl, le_sz (Nat.le_of_ble_eq_true rfl), fun p hp => fin H7 p (.shift .slide g x ((w : Int) - 1)) (b6.trans c7) hp ⟨rg, rx, by omega, by omega⟩⟩
        · exact ⟨D, _, _, _, rfl, rfl, hL, atI_nat (j := 2) rfl, le_sz (Nat.le_of_ble_eq_true rfl), fun p hp => fin H7 p (.shift .slide g x j) (b6.trans c7) hp ⟨rg, rx, by omega, by omega⟩⟩
      | pick =>
        walk_at "wd"
        exact ⟨_, rfl, _, rfl, _, rfl, st, l, ns, rfl, b5.d3, b5.kp l _ nl hl, hn, nl, fun H6 y2 c6 hy2 => ⟨_, rfl, _, rfl, le_sz (Nat.le_of_ble_eq_true rfl), fun p hp => fin H6 p (.pick g y2 x y) (b5.trans c6) hp ⟨rg, hns y2 hy2, rx, ry⟩⟩⟩
      | mark =>
        walk_at "wd"
        refine ⟨_, rfl, st, 10000, rfl, b5.d3, by omega, fun H6 j6 c6 h6 => ⟨_, rfl, st, 60, rfl, c6.d3, by omega, fun H7 j7 c7 h7 => ⟨le_sz (Nat.le_of_ble_eq_true rfl), fun D hD => ?_⟩⟩⟩
        have b7 := ((b5.trans c6).trans c7).same (same_new (o := .lst [.int 0, .int 9999, .int j6, .int j7]) hD)
        have nD := c7.d3.ne hD
        refine ⟨_, rfl, st, 4, rfl, b7.d3, by omega, fun H8 i c8 hi => ?_⟩
        have hL := SqL.of (K := K) (c8.kp D _ nD upd_same)
        obtain ⟨ln, hln, e⟩ : ∃ ln : Int, (0 ≤ ln ∧ ln ≤ 9999) ∧ [V.int 0, V.int 9999, V.int (j6 : Int), V.int (j7 : Int)][i]? = some (.int ln) := by
          obtain rfl | rfl | rfl | rfl : i = 0 ∨ i = 1 ∨ i = 2 ∨ i = 3 := by omega
          · exact ⟨0, by omega, rfl⟩
          · exact ⟨9999, by omega, rfl⟩
          · exact ⟨j6, by omega, rfl⟩
          · exact ⟨j7, by omega, rfl⟩
        refine ⟨D, _, _, _, rfl, rfl, hL, atI_nat e, ?_⟩
        refine ⟨_, rfl, le_sz (Nat.le_of_ble_eq_true rfl), fun D2 hD2 => ?_⟩
        have b8 := (b7.trans c8).same (same_new (o := .lst [.str "round", .str "stop", .str "nothing"]) hD2)
        have nD2 := c8.d3.ne hD2
        refine ⟨_, rfl, st, 3, rfl, b8.d3, by omega, fun H9 i9 c9 hi9 => ?_⟩
        have hL2 := SqL.of (K := K) (c9.kp D2 _ nD2 upd_same)
        obtain ⟨m, hm, e2⟩ : ∃ m : Str, IsMk m ∧ [V.str "round", V.str "stop", V.str "nothing"][i9]? = some (.str m) := by
          obtain rfl | rfl | rfl : i9 = 0 ∨ i9 = 1 ∨ i9 = 2 := by omega
          · exact ⟨"round", .inl rfl, rfl⟩
          · exact ⟨"stop", .inr (.inl rfl), rfl⟩
          · exact ⟨"nothing", .inr (.inr rfl), rfl⟩
        exact ⟨D2, _, _, _, rfl, rfl, hL2, atI_nat e2, _, rfl, le_sz (Nat.le_of_ble_eq_true rfl), fun p hp => fin H9 p (.mark ln m x) (b8.trans c9) hp ⟨hln.1, hln.2, hm, rx⟩⟩
  exact ⟨_, fd, _, [], G, T.g__law_row, F.kp, F.bindsN (fun _ _ _ _ _ _ us hl => match us, hl with | [_, _, _], _ => rfl), .nil⟩
end
end K73

set_option maxHeartbeats 4000000
/-! the law's own draws: names, registers -/
namespace K73
open PySem PySem.Spec PyProof.Rows L2
open C8 (Cal Mak Met pe_c pe_mk pe_mt pe_mt0 pe_gc)
local macro_rules | `(tactic| walk_at "rd") => `(tactic| repeat (first | refine ⟨_, rfl, ?_⟩ | refine ⟨_, _, rfl, rfl, ?_⟩ | refine ⟨_, rfl, rfl, ?_⟩ | refine ⟨_, _, rfl, ?_⟩ | refine ⟨_, _, _, rfl, ?_⟩ | refine ⟨_, _, _, _, rfl, ?_⟩ | refine And.intro rfl ?_ | refine And.intro trivial ?_ | refine And.intro (le_sz (Nat.le_of_ble_eq_true rfl)) ?_ | refine And.intro (le_sz (by omega)) ?_ | refine iteT ?_ | refine iteF ?_ | refine iteDt (by omega) ?_ | refine iteDf (by omega) ?_ | refine iteNt (by omega) ?_ | refine iteNf (by omega) ?_ | refine And.intro (by omega) ?_ | refine ⟨_, _, _, _, _, rfl, .ty _, .base (.str _), kit_ss, ?_⟩ | refine ⟨_, _, _, _, _, rfl, .ty _, .base (.lst (by assumption)), kit_ll, ?_⟩ | refine ⟨_, _, _, _, _, rfl, .ty _, .base (.dK (by assumption)), kit_dd, ?_⟩ | refine ⟨_, _, _, _, _, rfl, .ty _, .base (.tup (by assumption)), kit_tt, ?_⟩))

def regB (z : Str) : Bool := decide (1 ≤ z.length) && (decide (z.length ≤ 8) && ((match z.cps.toList with | c :: _ => decide (c ∈ letters.cps.toList) | [] => false) && z.cps.toList.all fun c => decide (c ∈ (letters ++ figures).cps.toList)))
theorem regB_ok {z : Str} (h : regB z = true) : IsReg z := by
  obtain ⟨h1, h⟩ := Bool.and_eq_true_iff.mp h
  obtain ⟨h2, h⟩ := Bool.and_eq_true_iff.mp h
  obtain ⟨h3, h4⟩ := Bool.and_eq_true_iff.mp h
  refine ⟨of_decide_eq_true h1, of_decide_eq_true h2, ?_, fun c hc => of_decide_eq_true (List.all_eq_true.mp h4 c hc)⟩
  split at h3
  · rename_i c r e
    exact ⟨c, by rw [e]; rfl, of_decide_eq_true h3⟩
  · cases h3
def pool : List Str := ["a", "ab", "b", "z9", "x", "x0", "sum", "end", "abcdefgh", "w1234567", "turns", "m", "aa", "q7", "set"]
theorem pool_reg : ∀ z ∈ pool, IsReg z := by
  have h : pool.all regB = true := by decide +kernel
  exact fun z hz => regB_ok (List.all_eq_true.mp h z hz)
def signs : Str := "abcdefghijklmnopqrstuvwxyz0123456789"
theorem signs_len : signs.length = 36 := by decide +kernel
theorem signs_letters {i : Nat} (h : i < 26) : ∃ c, signs.cps.toList[i]? = some c ∧ c ∈ letters.cps.toList := by
  have : ∀ i : Fin 26, ∃ c, signs.cps.toList[i.1]? = some c ∧ c ∈ letters.cps.toList := by
    intro i
    have e : signs.cps.toList.take 26 = letters.cps.toList := by decide +kernel
    have hl : i.1 < letters.cps.toList.length := Nat.lt_of_lt_of_le i.2 (by decide +kernel)
    refine ⟨letters.cps.toList[i.1], ?_, List.getElem_mem hl⟩
    rw [← List.getElem?_eq_getElem hl, ← e, List.getElem?_take_of_lt i.2]
  exact this ⟨i, h⟩
theorem signs_all {c : Nat} (h : c ∈ signs.cps.toList) : c ∈ (letters ++ figures).cps.toList := by
  have e : signs.cps.toList = (letters ++ figures).cps.toList := by decide +kernel
  rw [← e]
  exact h
structure Part (n : Nat) (z : Str) : Prop where
  len : z.length = n
  hd : ∃ c, z.cps.toList[0]? = some c ∧ c ∈ letters.cps.toList
  all_ : ∀ c ∈ z.cps.toList, c ∈ (letters ++ figures).cps.toList
theorem Part.one {c : Nat} (h : c ∈ letters.cps.toList) (h2 : c ∈ signs.cps.toList) : Part 1 ⟨#[c]⟩ := ⟨rfl, ⟨c, rfl, h⟩, fun d hd => by
  have e : d = c := List.mem_singleton.mp hd
  rw [e]
  exact signs_all h2⟩
theorem cat_cps (z : Str) (c : Nat) : (z ++ (⟨#[c]⟩ : Str)).cps.toList = z.cps.toList ++ [c] := by
  show (z.cps ++ #[c]).toList = _
  simp
theorem Part.more {n : Nat} {z : Str} (h : Part n z) (hn : 1 ≤ n) {c : Nat} (h2 : c ∈ signs.cps.toList) : Part (n + 1) (z ++ ⟨#[c]⟩) := by
  refine ⟨?_, ?_, fun d hd => ?_⟩
  · have e := congrArg List.length (cat_cps z c)
    rw [List.length_append, Array.length_toList, Array.length_toList] at e
    have l := h.len
    show (z ++ (⟨#[c]⟩ : Str)).cps.size = n + 1
    rw [e, ← l]
    rfl
  · obtain ⟨d, hd, hl⟩ := h.hd
    exact ⟨d, by rw [cat_cps, List.getElem?_append_left (List.getElem?_eq_some_iff.mp hd).1]; exact hd, hl⟩
  · rw [cat_cps] at hd
    rcases List.mem_append.mp hd with hd | hd
    · exact h.all_ d hd
    · rw [List.mem_singleton.mp hd]
      exact signs_all h2
theorem Part.reg {n : Nat} {z : Str} (h : Part n z) (h1 : 1 ≤ n) (h8 : n ≤ 8) : IsReg z := ⟨by rw [h.len]; exact h1, by rw [h.len]; exact h8, h.hd, h.all_⟩
theorem q15 : (0 : Int) < 15 := by decide
theorem But.mut {a : Addr} {H H' : Hp} (x : But a H H') (d : D3 H a) {p : Addr} {o : HO} (hp : H p = none) : But a H (upd H' p o) := by
  have n := d.ne hp
  obtain ⟨i, j, l, e⟩ := x.d3
  refine ⟨⟨i, j, l, by rw [upd_ne n.symm]; exact e⟩, fun b o' nb e' => ?_⟩
  rw [upd_ne (ne_of_none e' hp)]
  exact x.kp b o' nb e'
section
variable {P : Program} {w : World} {K : PySem.W.Frag} {mg : Str → Option Value} {base : Heap}
def spLNames : Sp := fun vs H Q _ => ∃ st : Addr, vs = [.ref st] ∧ D3 H st ∧ ∀ H' l (ns : List Str), But st H H' → H l = none → H' l = some (.lst (ns.map V.str)) → 2 ≤ ns.length → ns.length ≤ 5 → (∀ z ∈ ns, IsReg z) → Q (.ref l) H'
theorem sc_f_law_names : FnScope ["_law_state", "_law_pool", "_law_signs", "_law_at", "_law_names_here", "_law_k", "_law_name_here", "_law_j"] ["_law_state"] (defScope sf_law_names) := ⟨rfl, rfl, rfl, by decide +kernel, rfl, by decide +kernel, by decide +kernel⟩
theorem cal_f_law_names (T : Txt K mg) : Cal P w K mg base (2) "_law_names" (spLNames) [] := by
  obtain ⟨fd, F0⟩ := T.c.d.def_ 88 (d := df_law_names) rfl
  have F : FunD K "_law_names" "_law_names" (defArgs sf_law_names) (defBody sf_law_names) (defScope sf_law_names) [] [] (He.fAd K df_law_names.at_) fd := F0
  have G : FnOk P w K mg base CX0 2 (He.fAd K df_law_names.at_) fd ["_law_state"] (spLNames) := by
    refine F.ok (CX := CX0) sc_f_law_names (fun vs H Q E h => ?_) (fun cdv A outer s H vs Q E hr h => ⟨_, PSs.nox (by exact (pss_cons (ps_set (i := 1) sc_f_law_names.nd rfl (Or.inl rfl) (pe_lst (pa_cons pe_str (pa_cons pe_str (pa_cons pe_str (pa_cons pe_str (pa_cons pe_str (pa_cons pe_str (pa_cons pe_str (pa_cons pe_str (pa_cons pe_str (pa_cons pe_str (pa_cons pe_str (pa_cons pe_str (pa_cons pe_str (pa_cons pe_str (pa_cons pe_str pa_nil)))))))))))))))))
      (pss_cons (ps_set (i := 2) sc_f_law_names.nd rfl (Or.inl rfl) pe_str)
      (pss_cons (ps_set (i := 3) sc_f_law_names.nd rfl (Or.inl rfl) (pe_c (cal_f_law_draw T) hr (by omega) rfl (pa_cons (pv 0) (pa_cons pe_int pa_nil))))
      (pss_cons (ps_set (i := 4) sc_f_law_names.nd rfl (Or.inl rfl) (pe_lst pa_nil))
      (pss_cons (ps_for PassesOwn.never rfl (pi_range1 rfl T.f_range (pa_cons (pe_op op_add pe_int (pe_c (cal_f_law_draw T) hr (by omega) rfl (pa_cons (pv 0) (pa_cons pe_int pa_nil)))) pa_nil)) (pg_name (i := 5) sc_f_law_names.nd rfl (Or.inl rfl)) (pss_cons (ps_set (i := 6) sc_f_law_names.nd rfl (Or.inl rfl) (pe_ix ix_list (pv 1) (pe_op op_mod (pe_op op_add (pv 3) (pe_op op_mul pe_int (pv 5))) pe_int) (fun _ _ => rfl)))
      (pss_cons (ps_if (pt_cmpR op_eq (pe_c (cal_f_law_draw T) hr (by omega) rfl (pa_cons (pv 0) (pa_cons pe_int pa_nil))) pe_int (nomark _)) (pss_cons (ps_set (i := 6) sc_f_law_names.nd rfl (Or.inl rfl) (pe_ix ix_str (pv 2) (pe_c (cal_f_law_draw T) hr (by omega) rfl (pa_cons (pv 0) (pa_cons pe_int pa_nil))) (fun _ _ => rfl)))
      (pss_one (ps_for PassesOwn.never rfl (pi_range1 rfl T.f_range (pa_cons (pe_c (cal_f_law_draw T) hr (by omega) rfl (pa_cons (pv 0) (pa_cons pe_int pa_nil))) pa_nil)) (pg_name (i := 7) sc_f_law_names.nd rfl (Or.inl rfl)) (pss_one (ps_set (i := 6) sc_f_law_names.nd rfl (Or.inl rfl) (pe_op op_add_str (pv 6) (pe_ix ix_str (pv 2) (pe_c (cal_f_law_draw T) hr (by omega) rfl (pa_cons (pv 0) (pa_cons pe_int pa_nil))) (fun _ _ => rfl)))))))) pss_nil)
      (pss_one (ps_expr (pe_bm PySem.F.plainAttrs_list PySem.F.slot_list_append PySem.F.type_list_append mt_append (pv 4) (pa_cons (pv 6) pa_nil)))))))
      (pss_one (ps_ret (pv 4))))))))), ?_⟩)
    · first
      | (obtain ⟨e, _⟩ := h; subst e; rfl)
      | (obtain ⟨_, e, _⟩ := h; subst e; rfl)
      | (obtain ⟨_, _, e, _⟩ := h; subst e; rfl)
      | (obtain ⟨_, _, _, e, _⟩ := h; subst e; rfl)
      | (obtain ⟨_, _, _, _, e, _⟩ := h; subst e; rfl)
      | (obtain ⟨_, _, _, _, _, e, _⟩ := h; subst e; rfl)
      | (obtain ⟨_, _, _, _, _, _, e, _⟩ := h; subst e; rfl)
      | (obtain ⟨_, _, _, _, _, _, _, e, _⟩ := h; subst e; rfl)
      | (obtain ⟨_, _, _, _, _, _, _, _, e, _⟩ := h; subst e; rfl)
      | (obtain ⟨_, _, _, _, _, _, _, _, _, e, _⟩ := h; subst e; rfl)
      | (obtain ⟨_, _, _, _, _, _, _, _, _, _, e, _⟩ := h; subst e; rfl)
      | (obtain ⟨_, _, _, _, _, _, _, _, _, _, _, e, _⟩ := h; subst e; rfl)
      | (obtain ⟨_, _, _, _, _, _, _, _, _, _, _, _, e, _⟩ := h; subst e; rfl)
      | (obtain ⟨_, _, _, _, _, _, _, _, _, _, _, _, _, e, _⟩ := h; subst e; rfl)
    · skip
      obtain ⟨st, rfl, hst, k⟩ := h
      refine ⟨le_sz (Nat.le_of_ble_eq_true rfl), fun p hp => ?_⟩
      have b1 : But st H (upd H p (.lst (pool.map V.str))) := (But.refl hst).same (same_new hp)
      have np := hst.ne hp
      refine ⟨_, rfl, st, 15, rfl, b1.d3, by omega, fun H2 at_ c2 hat => ?_⟩
      have b2 := b1.trans c2
      have hp2 : H2 p = some (.lst (pool.map V.str)) := c2.kp p _ np upd_same
      refine ⟨le_sz (Nat.le_of_ble_eq_true rfl), fun nm hnm => ?_⟩
      have s3 := same_new (o := .lst []) hnm
      have nn : nm ≠ st := c2.d3.ne hnm
      have npm : p ≠ nm := ne_of_none hp2 hnm
      have fnm : H nm = none := b2.free hst hnm
      refine ⟨_, rfl, st, 4, rfl, c2.d3.same s3, by omega, fun H4 cnt c4 hcnt => ?_⟩
      refine ⟨_, _, rfl, rfl, _, rfl, by omega, by omega, for_range (lo := 0) (n := ((2 : Int) + (cnt : Int)).toNat) (fun i σ H' => (∃ v5 v6 v7 : Option V, σ = [some (.ref st), some (.ref p), some (.str signs), some (.int (at_ : Int)), some (.ref nm), v5, v6, v7]) ∧ But st H H' ∧ H' p = some (.lst (pool.map V.str)) ∧ ∃ ns : List Str, ns.length = i ∧ (∀ z ∈ ns, IsReg z) ∧ H' nm = some (.lst (ns.map V.str))) ?_ ?_ ?_⟩
      · exact ⟨⟨_, _, _, rfl⟩, (b2.same s3).trans c4, c4.kp p _ np (s3 _ _ hp2), [], rfl, fun z hz => (by cases hz), c4.kp nm _ nn upd_same⟩
      · rintro i σ H5 hi ⟨⟨v5, v6, v7, rfl⟩, b5, hp5, ns, hnl, hreg, hnm5⟩
        have inv : ∀ (H' : Hp) (z : Str), But st H H' → H' p = some (.lst (pool.map V.str)) → H' nm = some (.lst (ns.map V.str)) → IsReg z → But st H (upd H' nm (.lst (ns.map V.str ++ [.str z]))) ∧ (upd H' nm (.lst (ns.map V.str ++ [.str z]))) p = some (.lst (pool.map V.str)) ∧
            ∃ ns' : List Str, ns'.length = i + 1 ∧ (∀ z ∈ ns', IsReg z) ∧ (upd H' nm (.lst (ns.map V.str ++ [.str z]))) nm = some (.lst (ns'.map V.str)) := fun H' z b h1 h2 hz => by
          refine ⟨b.mut hst fnm, by rw [upd_ne npm]; exact h1, ns ++ [z], by rw [List.length_append, hnl]; rfl, fun y hy => ?_, by rw [upd_same, List.map_append]; rfl⟩
          rcases List.mem_append.mp hy with hy | hy
          · exact hreg y hy
          · rw [List.mem_singleton.mp hy]
            exact hz
        have hlen : (ns.map V.str).length < sizeLine := lt_sz (by rw [List.length_map]; omega)
        have cm4 : CMul 4 (0 + (i : Int)) := .inl ⟨by decide, by decide⟩
        have e0 := Int.emod_nonneg ((at_ : Int) + 4 * (0 + (i : Int))) (b := 15) (by decide)
        have e1 := Int.emod_lt_of_pos ((at_ : Int) + 4 * (0 + (i : Int))) q15
        obtain ⟨j, hj⟩ := Int.eq_ofNat_of_zero_le e0
        have hj15 : j < pool.length := by show j < 15; omega
        have hat2 : (pool.map V.str)[j]? = some (.str pool[j]) := by rw [List.getElem?_map, List.getElem?_eq_getElem hj15]; rfl
        refine ⟨_, rfl, _, rfl, _, rfl, _, _, rfl, rfl, cm4, _, _, rfl, rfl, _, _, rfl, rfl, q15, p, _, _, _, rfl, rfl, SqL.of hp5, by rw [hj]; exact atI_nat hat2, ?_⟩
        refine ⟨_, rfl, st, 2, rfl, b5.d3, by omega, fun H6 t c6 ht => ⟨rfl, _, rfl, iteD (fun _ => ?_) (fun _ => ?_)⟩⟩
        · refine ⟨_, rfl, _, rfl, st, 26, rfl, c6.d3, by omega, fun H7 i7 c7 h7 => ?_⟩
          obtain ⟨c, hc, hcl⟩ := signs_letters h7
          have hsl : signs.length ≤ sizeLine := le_sz (by rw [signs_len]; omega)
          refine ⟨signs, i7, c, rfl, rfl, hsl, atI_nat hc, ?_⟩
          have b7 := (b5.trans c6).trans c7
          refine ⟨_, rfl, st, 8, rfl, b7.d3, by omega, fun H8 m8 c8 h8 => ?_⟩
          refine ⟨_, rfl, by omega, by omega, for_range (lo := 0) (n := ((m8 : Int)).toNat) (fun j σ H' => (∃ (v7 : Option V) (z : Str), σ = [some (.ref st), some (.ref p), some (.str signs), some (.int (at_ : Int)), some (.ref nm), some (.int (0 + (i : Int))), some (.str z), v7] ∧ Part (j + 1) z) ∧ But st H H' ∧ H' p = some (.lst (pool.map V.str)) ∧ H' nm = some (.lst (ns.map V.str))) ?_ ?_ ?_⟩
          · exact ⟨⟨_, _, rfl, Part.one hcl (List.mem_of_getElem? hc)⟩, b7.trans c8, c8.kp p _ np (c7.kp p _ np (c6.kp p _ np hp5)), c8.kp nm _ nn (c7.kp nm _ nn (c6.kp nm _ nn hnm5))⟩
          · rintro j' σ H9 hj' ⟨⟨v7', z, rfl, pz⟩, b9, hp9, hnm9⟩
            refine ⟨_, rfl, _, rfl, _, rfl, st, 36, rfl, b9.d3, by omega, fun H10 i10 c10 h10 => ?_⟩
            have hl10 : i10 < signs.cps.toList.length := by
              rw [Array.length_toList]
              exact Nat.lt_of_lt_of_eq h10 signs_len.symm
            refine ⟨signs, i10, _, rfl, rfl, hsl, atI_nat (List.getElem?_eq_getElem hl10), _, _, rfl, rfl, le_sz (by rw [pz.len]; show j' + 1 + 1 ≤ 1000; omega), ?_⟩
            exact ⟨⟨_, _, rfl, pz.more (by omega) (List.getElem_mem hl10)⟩, b9.trans c10, c10.kp p _ np hp9, c10.kp nm _ nn hnm9⟩
          · rintro σ H9 ⟨⟨v7', z, rfl, pz⟩, b9, hp9, hnm9⟩
            exact ⟨_, rfl, .inl ⟨rfl, _, SqL.of hnm9⟩, _, rfl, nm, _, _, rfl, rfl, hnm9, hlen, ⟨_, _, _, rfl⟩, inv _ _ b9 hp9 hnm9 (pz.reg (by omega) (by omega))⟩
        · exact ⟨_, rfl, .inl ⟨rfl, _, SqL.of (c6.kp nm _ nn hnm5)⟩, _, rfl, nm, _, _, rfl, rfl, c6.kp nm _ nn hnm5, hlen, ⟨_, _, _, rfl⟩, inv _ _ (b5.trans c6) (c6.kp p _ np hp5) (c6.kp nm _ nn hnm5) (pool_reg _ (List.getElem_mem hj15))⟩
      · rintro σ H5 ⟨⟨v5, v6, v7, rfl⟩, b5, hp5, ns, hnl, hreg, hnm5⟩
        exact ⟨_, rfl, k _ nm ns b5 fnm hnm5 (by omega) (by omega) hreg⟩
  exact ⟨_, fd, _, [], G, T.g__law_names, F.kp, F.bindsN (fun _ _ _ _ _ _ us hl => match us, hl with | [_], _ => rfl), .nil⟩
end
end K73

set_option maxHeartbeats 4000000
/-! the law's own draws: the registers, a Turns closed -/
namespace K73
open PySem PySem.Spec PyProof.Rows L2
open C8 (Cal Mak Met pe_c pe_mk pe_mt pe_mt0 pe_gc)
local macro_rules | `(tactic| walk_at "rd") => `(tactic| repeat (first | refine ⟨_, rfl, ?_⟩ | refine ⟨_, _, rfl, rfl, ?_⟩ | refine ⟨_, rfl, rfl, ?_⟩ | refine ⟨_, _, rfl, ?_⟩ | refine ⟨_, _, _, rfl, ?_⟩ | refine ⟨_, _, _, _, rfl, ?_⟩ | refine And.intro rfl ?_ | refine And.intro trivial ?_ | refine And.intro (le_sz (Nat.le_of_ble_eq_true rfl)) ?_ | refine And.intro (le_sz (by omega)) ?_ | refine iteT ?_ | refine iteF ?_ | refine iteDt (by omega) ?_ | refine iteDf (by omega) ?_ | refine iteNt (by omega) ?_ | refine iteNf (by omega) ?_ | refine And.intro (by omega) ?_ | refine ⟨_, _, _, _, _, rfl, .ty _, .base (.str _), kit_ss, ?_⟩ | refine ⟨_, _, _, _, _, rfl, .ty _, .base (.lst (by assumption)), kit_ll, ?_⟩ | refine ⟨_, _, _, _, _, rfl, .ty _, .base (.dK (by assumption)), kit_dd, ?_⟩ | refine ⟨_, _, _, _, _, rfl, .ty _, .base (.tup (by assumption)), kit_tt, ?_⟩))

theorem pop_last {α : Type} (xs : List α) (y : α) : (xs ++ [y])[(xs ++ [y]).length - 1]? = some y := by simp
def rEqNil (K : PySem.W.Frag) : R2 := fun x y H Q => ∃ a b xs, x = .ref a ∧ y = .ref b ∧ SqL K H a xs ∧ SqL K H b [] ∧ Q (.bl xs.isEmpty) H
theorem op_eqNil {X : Cx} (hu : X.A.units < cLine) : OpR X (compareOp .Eq) (rEqNil X.K) := by
  intro pins s σ H x y v u Q I rx ry h
  obtain ⟨a, b, xs, rfl, rfl, h1, h2, q⟩ := h
  obtain rfl : v = Value.ref a := rx
  obtain rfl : u = Value.ref b := ry
  obtain ⟨its, r1, p1, _⟩ := I.list h1
  obtain ⟨its2, r2, p2, _⟩ := I.list h2
  have l1 := r1.length
  have l2 := r2.length
  cases xs with
  | nil =>
    have e1 : its = [] := List.length_eq_zero_iff.mp l1.symm
    have e2 : its2 = [] := List.length_eq_zero_iff.mp l2.symm
    subst e1 e2
    exact SeqAt.RcAt.lists (e := fun _ => true) p1.isList p2.isList rfl hu (fun j h1 h2 => absurd h1 (Nat.not_lt_zero _)) _ _ _ _ ⟨.bl _, H, I, rfl, q⟩
  | cons z r =>
    have e2 : its2 = [] := List.length_eq_zero_iff.mp l2.symm
    subst e2
    refine SeqAt.RcAt.lists_lengths p1.isList p2.isList ?_ hu _ _ _ _ ⟨.bl _, H, I, rfl, q⟩
    rw [List.size_toArray, ← l1]
    rfl
section
variable {P : Program} {w : World} {K : PySem.W.Frag} {mg : Str → Option Value} {base : Heap}
def spLHeld : Sp := fun vs H Q _ => ∃ (st l : Addr) (ns : List Str) (w : Nat), vs = [.ref st, .int w, .ref l] ∧ D3 H st ∧ H l = some (.lst (ns.map V.str)) ∧ ns.length ≤ 50 ∧ l ≠ st ∧ (∀ z ∈ ns, IsReg z) ∧ (4 ≤ w ∧ w ≤ 32) ∧
  ∀ H' d kv, But st H H' → H d = none → H' d = some (.dK kv) → Wk w kv → kv.length ≤ 60 → Q (.ref d) H'
theorem sc_f_law_held : FnScope ["_law_state", "_law_width", "_law_names_here", "_law_held_here", "_law_name_here"] ["_law_state", "_law_width", "_law_names_here"] (defScope sf_law_held) := ⟨rfl, rfl, rfl, by decide +kernel, rfl, by decide +kernel, by decide +kernel⟩
theorem cal_f_law_held (T : Txt K mg) : Cal P w K mg base (3) "_law_held" (spLHeld) [] := by
  obtain ⟨fd, F0⟩ := T.c.d.def_ 106 (d := df_law_held) rfl
  have F : FunD K "_law_held" "_law_held" (defArgs sf_law_held) (defBody sf_law_held) (defScope sf_law_held) [] [] (He.fAd K df_law_held.at_) fd := F0
  have G : FnOk P w K mg base CX0 3 (He.fAd K df_law_held.at_) fd ["_law_state", "_law_width", "_law_names_here"] (spLHeld) := by
    refine F.ok (CX := CX0) sc_f_law_held (fun vs H Q E h => ?_) (fun cdv A outer s H vs Q E hr h => ⟨_, PSs.nox (by exact (pss_cons (ps_set (i := 3) sc_f_law_held.nd rfl (Or.inl rfl) pe_dnewK)
      (pss_cons (ps_for PassesOwn.never rfl (pi_list (pv 2)) (pg_name (i := 4) sc_f_law_held.nd rfl (Or.inl rfl)) (pss_one (ps_if (pt_cmpR op_gt (pe_c (cal_f_law_draw T) hr (by omega) rfl (pa_cons (pv 0) (pa_cons pe_int pa_nil))) pe_int (nomark _)) (pss_one (ps_dput (hu_of hr) (pv 3) (pv 4) (pe_c (cal_f_law_word T) hr (by omega) rfl (pa_cons (pv 0) (pa_cons (pv 1) pa_nil))) rfl)) pss_nil)))
      (pss_one (ps_ret (pv 3)))))), ?_⟩)
    · first
      | (obtain ⟨e, _⟩ := h; subst e; rfl)
      | (obtain ⟨_, e, _⟩ := h; subst e; rfl)
      | (obtain ⟨_, _, e, _⟩ := h; subst e; rfl)
      | (obtain ⟨_, _, _, e, _⟩ := h; subst e; rfl)
      | (obtain ⟨_, _, _, _, e, _⟩ := h; subst e; rfl)
      | (obtain ⟨_, _, _, _, _, e, _⟩ := h; subst e; rfl)
      | (obtain ⟨_, _, _, _, _, _, e, _⟩ := h; subst e; rfl)
      | (obtain ⟨_, _, _, _, _, _, _, e, _⟩ := h; subst e; rfl)
      | (obtain ⟨_, _, _, _, _, _, _, _, e, _⟩ := h; subst e; rfl)
      | (obtain ⟨_, _, _, _, _, _, _, _, _, e, _⟩ := h; subst e; rfl)
      | (obtain ⟨_, _, _, _, _, _, _, _, _, _, e, _⟩ := h; subst e; rfl)
      | (obtain ⟨_, _, _, _, _, _, _, _, _, _, _, e, _⟩ := h; subst e; rfl)
      | (obtain ⟨_, _, _, _, _, _, _, _, _, _, _, _, e, _⟩ := h; subst e; rfl)
      | (obtain ⟨_, _, _, _, _, _, _, _, _, _, _, _, _, e, _⟩ := h; subst e; rfl)
    · skip
      obtain ⟨st, l, ns, w, rfl, hst, hl, hn, nl, hns, hw, k⟩ := h
      intro d hd
      have nd := hst.ne hd
      refine ⟨_, rfl, l, rfl, ⟨_, SqL.of (same_new hd _ _ hl)⟩, for_list (K := K) (a := l) (xs := ns.map V.str) (fun i σ H' => (∃ v4 : Option V, σ = [some (.ref st), some (.int w), some (.ref l), some (.ref d), v4]) ∧ But st H H' ∧ ∃ kv : List (Key × V), H' d = some (.dK kv) ∧ Wk w kv ∧ kv.length ≤ i) ?_ ?_ ?_ ?_⟩
      · exact ⟨⟨_, rfl⟩, (But.refl hst).same (same_new hd), [], upd_same, ⟨List.nodup_nil, fun p hp => (by cases hp)⟩, Nat.le_refl _⟩
      · rintro i σ H' _ ⟨_, b, _⟩
        exact SqL.of (b.kp _ _ nl hl)
      · rintro i x σ H1 hi ⟨⟨v4, rfl⟩, b1, kv, hd1, wk, hk⟩
        obtain ⟨z, hz, rfl⟩ : ∃ z, ns[i]? = some z ∧ x = V.str z := by
          rw [List.getElem?_map] at hi
          cases e : ns[i]? with
          | none => rw [e] at hi; cases hi
          | some z => rw [e] at hi; exact ⟨z, rfl, (Option.some.inj hi).symm⟩
        have hil : i < ns.length := (List.getElem?_eq_some_iff.mp hz).1
        refine ⟨_, rfl, st, 4, rfl, b1.d3, by omega, fun H2 t c2 ht => ⟨_, _, rfl, rfl, _, rfl, iteD (fun _ => ?_) (fun _ => ?_)⟩⟩
        · refine ⟨_, rfl, _, rfl, st, w, rfl, c2.d3, hw, fun H3 v c3 h0 h1 => ?_⟩
          have b3 := (b1.trans c2).trans c3
          have hd3 := c3.kp d _ nd (c2.kp d _ nd hd1)
          refine ⟨_, rfl, _, rfl, d, _, rfl, DPut.k (k := Sum.inr z) hd3 (lt_sz (by omega)), ⟨_, rfl⟩, b3.mut hst hd, _, upd_same, wk.put (hns z (List.mem_of_getElem? hz)) h0 h1, ?_⟩
          have := length_putK kv (Sum.inr z : Key) (V.int v)
          omega
        · exact ⟨⟨_, rfl⟩, b1.trans c2, kv, c2.kp d _ nd hd1, wk, by omega⟩
      · rintro σ H1 ⟨⟨v4, rfl⟩, b1, kv, hd1, wk, hk⟩
        rw [List.length_map] at hk
        exact ⟨_, rfl, k _ d kv b1 hd hd1 wk (by omega)⟩
  exact ⟨_, fd, _, [], G, T.g__law_held, F.kp, F.bindsN (fun _ _ _ _ _ _ us hl => match us, hl with | [_, _, _], _ => rfl), .nil⟩
structure ShutOut (hs rs ms b p : Addr) (pre rp mp ys : List V) (n : V) (r : Addr) (H H' : Hp) : Prop where
  hs_ : H' hs = some (.lst (pre ++ [.ref b]))
  rs_ : H' rs = some (.lst rp)
  ms_ : H' ms = some (.lst mp)
  b_ : H' b = some (.lst (ys ++ [.ref p]))
  p_ : H' p = some (.tup [.str "turns", n, .ref r])
  new : H p = none
  kp : ∀ c o, c ≠ hs → c ≠ rs → c ≠ ms → c ≠ b → H c = some o → H' c = some o
def spLShut : Sp := fun vs H Q _ => ∃ (hs rs ms b r : Addr) (pre rp mp ys : List V) (n m : V), vs = [.ref hs, .ref rs, .ref ms] ∧ H hs = some (.lst ((pre ++ [.ref b]) ++ [.ref r])) ∧ H rs = some (.lst (rp ++ [n])) ∧ H ms = some (.lst (mp ++ [m])) ∧ H b = some (.lst ys) ∧ ys.length ≤ 10000 ∧
  hs ≠ rs ∧ hs ≠ ms ∧ rs ≠ ms ∧ b ≠ hs ∧ b ≠ rs ∧ b ≠ ms ∧ ∀ H' p, ShutOut hs rs ms b p pre rp mp ys n r H H' → Q .non H'
theorem sc_f_law_shut : FnScope ["_law_heads", "_law_rounds", "_law_room", "_law_rows"] ["_law_heads", "_law_rounds", "_law_room"] (defScope sf_law_shut) := ⟨rfl, rfl, rfl, by decide +kernel, rfl, by decide +kernel, by decide +kernel⟩
theorem cal_f_law_shut (T : Txt K mg) : Cal P w K mg base (1) "_law_shut" (spLShut) [] := by
  obtain ⟨fd, F0⟩ := T.c.d.def_ 93 (d := df_law_shut) rfl
  have F : FunD K "_law_shut" "_law_shut" (defArgs sf_law_shut) (defBody sf_law_shut) (defScope sf_law_shut) [] [] (He.fAd K df_law_shut.at_) fd := F0
  have G : FnOk P w K mg base CX0 1 (He.fAd K df_law_shut.at_) fd ["_law_heads", "_law_rounds", "_law_room"] (spLShut) := by
    refine F.ok (CX := CX0) sc_f_law_shut (fun vs H Q E h => ?_) (fun cdv A outer s H vs Q E hr h => ⟨_, PSs.nox (by exact (pss_cons (ps_set (i := 3) sc_f_law_shut.nd rfl (Or.inl rfl) (pe_bm0 PySem.F.plainAttrs_list PySem.F.slot_list_pop PySem.F.type_list_pop mt_pop (pv 0)))
      (pss_cons (ps_expr (pe_bm0 PySem.F.plainAttrs_list PySem.F.slot_list_pop PySem.F.type_list_pop mt_pop (pv 2)))
      (pss_one (ps_expr (pe_bm PySem.F.plainAttrs_list PySem.F.slot_list_append PySem.F.type_list_append mt_append (pe_ix ix_list (pv 0) (pe_un un_neg pe_int) (fun _ _ => rfl)) (pa_cons (pe_tup (pa_cons pe_str (pa_cons (pe_bm0 PySem.F.plainAttrs_list PySem.F.slot_list_pop PySem.F.type_list_pop mt_pop (pv 1)) (pa_cons (pv 3) pa_nil)))) pa_nil))))))), ?_⟩)
    · first
      | (obtain ⟨e, _⟩ := h; subst e; rfl)
      | (obtain ⟨_, e, _⟩ := h; subst e; rfl)
      | (obtain ⟨_, _, e, _⟩ := h; subst e; rfl)
      | (obtain ⟨_, _, _, e, _⟩ := h; subst e; rfl)
      | (obtain ⟨_, _, _, _, e, _⟩ := h; subst e; rfl)
      | (obtain ⟨_, _, _, _, _, e, _⟩ := h; subst e; rfl)
      | (obtain ⟨_, _, _, _, _, _, e, _⟩ := h; subst e; rfl)
      | (obtain ⟨_, _, _, _, _, _, _, e, _⟩ := h; subst e; rfl)
      | (obtain ⟨_, _, _, _, _, _, _, _, e, _⟩ := h; subst e; rfl)
      | (obtain ⟨_, _, _, _, _, _, _, _, _, e, _⟩ := h; subst e; rfl)
      | (obtain ⟨_, _, _, _, _, _, _, _, _, _, e, _⟩ := h; subst e; rfl)
      | (obtain ⟨_, _, _, _, _, _, _, _, _, _, _, e, _⟩ := h; subst e; rfl)
      | (obtain ⟨_, _, _, _, _, _, _, _, _, _, _, _, e, _⟩ := h; subst e; rfl)
      | (obtain ⟨_, _, _, _, _, _, _, _, _, _, _, _, _, e, _⟩ := h; subst e; rfl)
    · skip
      obtain ⟨hs, rs, ms, b, r, pre, rp, mp, ys, n, m, rfl, hhs, hrs, hms, hb, hy, n1, n2, n3, n4, n5, n6, k⟩ := h
      refine ⟨_, rfl, .inl ⟨rfl, _, SqL.of hhs⟩, hs, _, _, rfl, rfl, hhs, pop_last _ _, ?_⟩
      rw [List.dropLast_concat]
      have kp1 : ∀ c o, c ≠ hs → H c = some o → (upd H hs (.lst (pre ++ [.ref b]))) c = some o := fun c o n e => by rw [upd_ne n]; exact e
      have h1 : (upd H hs (.lst (pre ++ [.ref b]))) hs = some (.lst (pre ++ [.ref b])) := upd_same
      have f1 : ∀ c, (upd H hs (.lst (pre ++ [.ref b]))) c = none → H c = none := fun c hc => by
        by_cases z : c = hs
        · rw [z, upd_same] at hc; cases hc
        · rw [upd_ne z] at hc; exact hc
      generalize upd H hs (.lst (pre ++ [.ref b])) = H1 at h1 kp1 f1 ⊢
      refine ⟨_, rfl, .inl ⟨rfl, _, SqL.of (kp1 _ _ n2.symm hms)⟩, ms, _, _, rfl, rfl, kp1 _ _ n2.symm hms, pop_last _ _, ?_⟩
      rw [List.dropLast_concat]
      have kp2 : ∀ c o, c ≠ ms → H1 c = some o → (upd H1 ms (.lst mp)) c = some o := fun c o n e => by rw [upd_ne n]; exact e
      have h2 : (upd H1 ms (.lst mp)) ms = some (.lst mp) := upd_same
      have f2 : ∀ c, (upd H1 ms (.lst mp)) c = none → H1 c = none := fun c hc => by
        by_cases z : c = ms
        · rw [z, upd_same] at hc; cases hc
        · rw [upd_ne z] at hc; exact hc
      generalize upd H1 ms (.lst mp) = H2 at h2 kp2 f2 ⊢
      have hb2 := kp2 _ _ n6 (kp1 _ _ n4 hb)
      have hrs2 := kp2 _ _ n3 (kp1 _ _ n1.symm hrs)
      refine ⟨_, rfl, 1, rfl, hs, _, _, _, rfl, rfl, SqL.of (kp2 _ _ n2 h1), atI_last _ _, .inl ⟨rfl, _, SqL.of hb2⟩, ?_⟩
      refine ⟨_, rfl, .inl ⟨rfl, _, SqL.of hrs2⟩, rs, _, _, rfl, rfl, hrs2, pop_last _ _, ?_⟩
      rw [List.dropLast_concat]
      have kp3 : ∀ c o, c ≠ rs → H2 c = some o → (upd H2 rs (.lst rp)) c = some o := fun c o n e => by rw [upd_ne n]; exact e
      have h3 : (upd H2 rs (.lst rp)) rs = some (.lst rp) := upd_same
      have f3 : ∀ c, (upd H2 rs (.lst rp)) c = none → H2 c = none := fun c hc => by
        by_cases z : c = rs
        · rw [z, upd_same] at hc; cases hc
        · rw [upd_ne z] at hc; exact hc
      generalize upd H2 rs (.lst rp) = H3 at h3 kp3 f3 ⊢
      refine ⟨_, rfl, le_sz (Nat.le_of_ble_eq_true rfl), fun p hp => ?_⟩
      have kp4 := same_new (o := .tup [.str "turns", n, .ref r]) hp
      have hb4 := kp4 _ _ (kp3 _ _ n5 hb2)
      have npb : p ≠ b := (ne_of_none (kp3 _ _ n5 hb2) hp).symm
      refine ⟨b, _, _, rfl, rfl, hb4, lt_sz (by omega), ?_⟩
      refine k _ p ⟨?_, ?_, ?_, upd_same, ?_, f1 _ (f2 _ (f3 _ hp)), fun c o c1 c2 c3 c4 e => ?_⟩
      · rw [upd_ne n4.symm]; exact kp4 _ _ (kp3 _ _ n1 (kp2 _ _ n2 h1))
      · rw [upd_ne n5.symm]; exact kp4 _ _ h3
      · rw [upd_ne n6.symm]; exact kp4 _ _ (kp3 _ _ n3.symm h2)
      · rw [upd_ne npb]; exact upd_same
      · rw [upd_ne c4]; exact kp4 _ _ (kp3 _ _ c2 (kp2 _ _ c3 (kp1 _ _ c1 e)))
  exact ⟨_, fd, _, [], G, T.g__law_shut, F.kp, F.bindsN (fun _ _ _ _ _ _ us hl => match us, hl with | [_, _, _], _ => rfl), .nil⟩
end
end K73

set_option maxHeartbeats 4000000
/-! the law's own draws: the open lists of rows -/
namespace K73
open PySem PySem.Spec PyProof.Rows L2
open C8 (Cal Mak Met pe_c pe_mk pe_mt pe_mt0 pe_gc)
local macro_rules | `(tactic| walk_at "rd") => `(tactic| repeat (first | refine ⟨_, rfl, ?_⟩ | refine ⟨_, _, rfl, rfl, ?_⟩ | refine ⟨_, rfl, rfl, ?_⟩ | refine ⟨_, _, rfl, ?_⟩ | refine ⟨_, _, _, rfl, ?_⟩ | refine ⟨_, _, _, _, rfl, ?_⟩ | refine And.intro rfl ?_ | refine And.intro trivial ?_ | refine And.intro (le_sz (Nat.le_of_ble_eq_true rfl)) ?_ | refine And.intro (le_sz (by omega)) ?_ | refine iteT ?_ | refine iteF ?_ | refine iteDt (by omega) ?_ | refine iteDf (by omega) ?_ | refine iteNt (by omega) ?_ | refine iteNf (by omega) ?_ | refine And.intro (by omega) ?_ | refine ⟨_, _, _, _, _, rfl, .ty _, .base (.str _), kit_ss, ?_⟩ | refine ⟨_, _, _, _, _, rfl, .ty _, .base (.lst (by assumption)), kit_ll, ?_⟩ | refine ⟨_, _, _, _, _, rfl, .ty _, .base (.dK (by assumption)), kit_dd, ?_⟩ | refine ⟨_, _, _, _, _, rfl, .ty _, .base (.tup (by assumption)), kit_tt, ?_⟩))

/-- a list of rows that is open yet: where it stands, how often it will turn, its room, what it holds, its nodes -/
structure Lev where
  h : Addr
  n : Nat
  m : Nat
  xs : List V
  F : Fo
  N : Nat
def Chain : List Lev → Prop
  | [] => False
  | [v] => v.m = 64 ∧ v.F.depth ≤ 5
  | v :: u :: r => (1 ≤ v.n ∧ v.n ≤ 64 ∧ v.n * v.m ≤ u.m ∧ v.F.depth + (r.length + 1) ≤ 5) ∧ Chain (u :: r)
def nod : List Lev → Nat
  | [] => 0
  | v :: r => v.N + 1 + nod r
theorem chain_m : ∀ {r : List Lev} {v : Lev}, Chain (v :: r) → v.m ≤ 64
  | [], v, h => Nat.le_of_eq h.1
  | u :: r, v, h => by
    have h1 := chain_m h.2
    have h2 := h.1.2.2.1
    have h3 : 1 * v.m ≤ v.n * v.m := Nat.mul_le_mul_right _ h.1.1
    omega
theorem chain_d : ∀ {r : List Lev} {v : Lev}, Chain (v :: r) → v.F.depth + r.length ≤ 5
  | [], v, h => h.2
  | u :: r, v, h => h.1.2.2.2
theorem chain_same {r : List Lev} {v v' : Lev} (h : Chain (v :: r)) (en : v'.n = v.n) (em : v'.m = v.m) (d : v'.F.depth + r.length ≤ 5) : Chain (v' :: r) := by
  cases r with
  | nil => exact ⟨em.trans h.1, d⟩
  | cons u r => exact ⟨⟨by rw [en]; exact h.1.1, by rw [en]; exact h.1.2.1, by rw [en, em]; exact h.1.2.2.1, d⟩, h.2⟩
structure LevOk (H0 G H : Hp) (w : Nat) (hs rs ms : Addr) (v : Lev) : Prop where
  lst : H v.h = some (.lst v.xs)
  g : G v.h = none
  rows : RowsAt (New H0) G v.xs v.F
  good : v.F.Good w
  cost : v.F.cost ≤ v.m * v.N
  m1 : 1 ≤ v.m
  n1 : v.h ≠ hs
  n2 : v.h ≠ rs
  n3 : v.h ≠ ms
structure Tree (H0 G H : Hp) (w : Nat) (hs rs ms : Addr) (ls : List Lev) : Prop where
  s0 : Same H0 G
  s1 : Same G H
  ghs : G hs = none
  grs : G rs = none
  gms : G ms = none
  n1 : hs ≠ rs
  n2 : hs ≠ ms
  n3 : rs ≠ ms
  hhs : H hs = some (.lst (ls.map fun v => V.ref v.h).reverse)
  hrs : H rs = some (.lst (ls.map fun v => V.int v.n).reverse)
  hms : H ms = some (.lst (ls.map fun v => V.int v.m).reverse)
  nd : (ls.map Lev.h).Nodup
  lev : ∀ v ∈ ls, LevOk H0 G H w hs rs ms v
  chain : Chain ls
structure Off (p hs rs ms : Addr) (ls : List Lev) (G : Hp) : Prop where
  n1 : p ≠ hs
  n2 : p ≠ rs
  n3 : p ≠ ms
  nl : ∀ v ∈ ls, v.h ≠ p
  g : G p = none
section
variable {H0 G H H' : Hp} {w : Nat} {hs rs ms : Addr} {ls r : List Lev} {v u : Lev} {p : Addr}
theorem Tree.off (T : Tree H0 G H w hs rs ms ls) (e : H p = none) : Off p hs rs ms ls G :=
  ⟨(ne_of_none T.hhs e).symm, (ne_of_none T.hrs e).symm, (ne_of_none T.hms e).symm, fun v hv => ne_of_none (T.lev v hv).lst e, T.s1.free e⟩
theorem Tree.at_ (T : Tree H0 G H w hs rs ms ls) {o : HO} (e : H0 p = some o) : H p = some o := T.s1 _ _ (T.s0 _ _ e)
theorem Tree.but (T : Tree H0 G H w hs rs ms ls) (o : Off p hs rs ms ls G) (kp : ∀ c x, c ≠ p → H c = some x → H' c = some x) : Tree H0 G H' w hs rs ms ls :=
  { s0 := T.s0, s1 := fun b x e => kp b x (ne_of_none e o.g) (T.s1 b x e), ghs := T.ghs, grs := T.grs, gms := T.gms, n1 := T.n1, n2 := T.n2, n3 := T.n3,
    hhs := kp _ _ o.n1.symm T.hhs, hrs := kp _ _ o.n2.symm T.hrs, hms := kp _ _ o.n3.symm T.hms, nd := T.nd, chain := T.chain,
    lev := fun v hv => let l := T.lev v hv; ⟨kp _ _ (o.nl v hv) l.lst, l.g, l.rows, l.good, l.cost, l.m1, l.n1, l.n2, l.n3⟩ }
theorem Tree.sub (T : Tree H0 G H w hs rs ms ls) (s : Same H H') : Tree H0 G H' w hs rs ms ls :=
  { s0 := T.s0, s1 := T.s1.trans s, ghs := T.ghs, grs := T.grs, gms := T.gms, n1 := T.n1, n2 := T.n2, n3 := T.n3,
    hhs := s _ _ T.hhs, hrs := s _ _ T.hrs, hms := s _ _ T.hms, nd := T.nd, chain := T.chain,
    lev := fun v hv => let l := T.lev v hv; ⟨s _ _ l.lst, l.g, l.rows, l.good, l.cost, l.m1, l.n1, l.n2, l.n3⟩ }
theorem Tree.gnew (T : Tree H0 G H w hs rs ms ls) (o : Off p hs rs ms ls G) {x : HO} (e : H p = some x) : Tree H0 (upd G p x) H w hs rs ms ls :=
  { s0 := T.s0.trans (same_new o.g), ghs := (by rw [upd_ne o.n1.symm]; exact T.ghs), grs := (by rw [upd_ne o.n2.symm]; exact T.grs), gms := (by rw [upd_ne o.n3.symm]; exact T.gms), n1 := T.n1, n2 := T.n2, n3 := T.n3,
    s1 := (fun b y h => by
      by_cases z : b = p
      · subst z
        rw [upd_same] at h
        rw [e]
        exact h
      · rw [upd_ne z] at h
        exact T.s1 b y h),
    hhs := T.hhs, hrs := T.hrs, hms := T.hms, nd := T.nd, chain := T.chain,
    lev := fun v hv => let l := T.lev v hv; ⟨l.lst, by rw [upd_ne (o.nl v hv)]; exact l.g, l.rows.same (same_new o.g), l.good, l.cost, l.m1, l.n1, l.n2, l.n3⟩ }
theorem Tree.app (T : Tree H0 G H w hs rs ms (v :: r)) {ys : List V} {E : Fo} {c : Nat} (hr : RowsAt (New H0) G ys E) (gd : E.Good w) (d : E.depth + r.length ≤ 5) (co : E.cost ≤ v.m * c) :
    Tree H0 G (upd H v.h (.lst (v.xs ++ ys))) w hs rs ms (⟨v.h, v.n, v.m, v.xs ++ ys, v.F.app E, v.N + c⟩ :: r) := by
  have l := T.lev v (List.mem_cons_self ..)
  have nd := T.nd
  rw [List.map_cons, List.nodup_cons] at nd
  exact {
    s0 := T.s0, s1 := (fun b x e => by rw [upd_ne (ne_of_none e l.g)]; exact T.s1 b x e), ghs := T.ghs, grs := T.grs, gms := T.gms, n1 := T.n1, n2 := T.n2, n3 := T.n3,
    hhs := (by rw [upd_ne l.n1.symm]; exact T.hhs), hrs := (by rw [upd_ne l.n2.symm]; exact T.hrs), hms := (by rw [upd_ne l.n3.symm]; exact T.hms), nd := T.nd,
    chain := chain_same T.chain rfl rfl (by
      have := chain_d T.chain
      show (v.F.app E).depth + r.length ≤ 5
      rw [app_depth]
      omega),
    lev := fun u hu => by
      rcases List.mem_cons.mp hu with e | hu
      · subst e
        refine ⟨upd_same, l.g, hr.app l.rows, (app_good _ _ _).mpr ⟨l.good, gd⟩, ?_, l.m1, l.n1, l.n2, l.n3⟩
        have := l.cost
        show (v.F.app E).cost ≤ v.m * (v.N + c)
        rw [app_cost, Nat.mul_add]
        omega
      · have k := T.lev u (List.mem_cons_of_mem _ hu)
        have ne : u.h ≠ v.h := fun z => nd.1 (by rw [← z]; exact List.mem_map_of_mem hu)
        exact ⟨by rw [upd_ne ne]; exact k.lst, k.g, k.rows, k.good, k.cost, k.m1, k.n1, k.n2, k.n3⟩ }
theorem Tree.push (T : Tree H0 G H w hs rs ms (v :: r)) {D : Addr} {n : Nat} (o : Off D hs rs ms (v :: r) G) (h1 : 1 ≤ n) (h2 : n ≤ v.m) (h3 : r.length + 2 ≤ 6) (hD : H' D = some (.lst []))
    (e1 : H' hs = some (.lst (((v :: r).map fun v => V.ref v.h).reverse ++ [.ref D]))) (e2 : H' rs = some (.lst (((v :: r).map fun v => V.int v.n).reverse ++ [.int n]))) (e3 : H' ms = some (.lst (((v :: r).map fun v => V.int v.m).reverse ++ [.int ((v.m / n : Nat) : Int)])))
    (kp : ∀ b x, b ≠ hs → b ≠ rs → b ≠ ms → H b = some x → H' b = some x) : Tree H0 G H' w hs rs ms (⟨D, n, v.m / n, [], .nil, 0⟩ :: v :: r) := by
  have hm := chain_m T.chain
  exact {
    s0 := T.s0, s1 := fun b x e => kp b x (ne_of_none e T.ghs) (ne_of_none e T.grs) (ne_of_none e T.gms) (T.s1 b x e), ghs := T.ghs, grs := T.grs, gms := T.gms, n1 := T.n1, n2 := T.n2, n3 := T.n3,
    hhs := (by rw [e1, List.map_cons (l := v :: r), List.reverse_cons]), hrs := (by rw [e2, List.map_cons (l := v :: r), List.reverse_cons]), hms := (by rw [e3, List.map_cons (l := v :: r), List.reverse_cons]),
    nd := (by
      rw [List.map_cons, List.nodup_cons]
      refine ⟨fun z => ?_, T.nd⟩
      obtain ⟨u, hu, e⟩ := List.mem_map.mp z
      exact o.nl u hu e),
    chain := ⟨⟨h1, by show n ≤ 64; omega, Nat.mul_div_le v.m n, by show 0 + (r.length + 1) ≤ 5; omega⟩, T.chain⟩,
    lev := fun u hu => by
      rcases List.mem_cons.mp hu with e | hu
      · subst e
        exact ⟨hD, o.g, trivial, trivial, Nat.zero_le _, Nat.div_pos h2 h1, o.n1, o.n2, o.n3⟩
      · have k := T.lev u hu
        exact ⟨kp _ _ k.n1 k.n2 k.n3 k.lst, k.g, k.rows, k.good, k.cost, k.m1, k.n1, k.n2, k.n3⟩ }
theorem Tree.shut (T : Tree H0 G H w hs rs ms (v :: u :: r)) (hx : v.xs ≠ []) (S : ShutOut hs rs ms u.h p (r.map fun v => V.ref v.h).reverse ((u :: r).map fun v => V.int v.n).reverse ((u :: r).map fun v => V.int v.m).reverse u.xs (.int v.n) v.h H H') :
    ∃ G', Tree H0 G' H' w hs rs ms (⟨u.h, u.n, u.m, u.xs ++ [.ref p], u.F.app (.turns v.n v.F .nil), u.N + (1 + v.N)⟩ :: r) := by
  have op := T.off S.new
  have lv := T.lev v (List.mem_cons_self ..)
  have lu := T.lev u (List.mem_cons_of_mem _ (List.mem_cons_self ..))
  have nd := T.nd
  rw [List.map_cons, List.map_cons, List.nodup_cons, List.nodup_cons] at nd
  have nvu : v.h ≠ u.h := fun z => nd.1 (by rw [z]; exact List.mem_cons_self ..)
  have npv : p ≠ v.h := (op.nl v (List.mem_cons_self ..)).symm
  have npu : p ≠ u.h := (op.nl u (List.mem_cons_of_mem _ (List.mem_cons_self ..))).symm
  have sG1 : Same G (upd G v.h (.lst v.xs)) := same_new lv.g
  have gp : (upd G v.h (.lst v.xs)) p = none := by rw [upd_ne npv]; exact op.g
  have sG : Same G (upd (upd G v.h (.lst v.xs)) p (.tup [.str "turns", .int v.n, .ref v.h])) := sG1.trans (same_new gp)
  have off : ∀ b, b ≠ v.h → b ≠ p → G b = none → (upd (upd G v.h (.lst v.xs)) p (.tup [.str "turns", .int v.n, .ref v.h])) b = none := fun b h1 h2 e => by rw [upd_ne h2, upd_ne h1]; exact e
  have hF : v.F ≠ .nil := fun z => hx (by
    have e := lv.rows.len
    rw [z] at e
    exact List.length_eq_zero_iff.mp e)
  have ch := T.chain.1
  have rows : RowsAt (New H0) (upd (upd G v.h (.lst v.xs)) p (.tup [.str "turns", .int v.n, .ref v.h])) [.ref p] (.turns v.n v.F .nil) :=
    ⟨⟨p, v.h, v.xs, rfl, upd_same, T.s0.free lv.g, by rw [upd_ne npv.symm]; exact upd_same, lv.rows.same sG⟩, trivial⟩
  refine ⟨_, {
    s0 := T.s0.trans sG, s1 := fun b x e => ?_, ghs := off _ lv.n1.symm op.n1.symm T.ghs, grs := off _ lv.n2.symm op.n2.symm T.grs, gms := off _ lv.n3.symm op.n3.symm T.gms, n1 := T.n1, n2 := T.n2, n3 := T.n3,
    hhs := (by rw [S.hs_, List.map_cons, List.reverse_cons]), hrs := (by rw [S.rs_, List.map_cons, List.map_cons]), hms := (by rw [S.ms_, List.map_cons, List.map_cons]),
    nd := nd.2 |> List.nodup_cons.mpr, chain := chain_same T.chain.2 rfl rfl ?_, lev := fun y hy => ?_ }⟩
  · by_cases z : b = p
    · subst z
      rw [upd_same] at e
      rw [S.p_]
      exact e
    · rw [upd_ne z] at e
      by_cases z2 : b = v.h
      · subst z2
        rw [upd_same] at e
        rw [S.kp _ _ lv.n1 lv.n2 lv.n3 nvu lv.lst]
        exact e
      · rw [upd_ne z2] at e
        exact S.kp _ _ (ne_of_none e T.ghs) (ne_of_none e T.grs) (ne_of_none e T.gms) (ne_of_none e lu.g) (T.s1 b x e)
  · rcases List.mem_cons.mp hy with e | hy
    · subst e
      refine ⟨S.b_, off _ nvu.symm npu.symm lu.g, rows.app (lu.rows.same sG), (app_good _ _ _).mpr ⟨lu.good, ⟨ch.1, ch.2.1, hF⟩, lv.good, trivial⟩, ?_, lu.m1, lu.n1, lu.n2, lu.n3⟩
      have c1 := lv.cost
      have c2 := lu.cost
      have c3 : v.n * (1 + v.F.cost) ≤ v.n * (v.m * (1 + v.N)) := Nat.mul_le_mul_left _ (by rw [Nat.mul_add]; have := lv.m1; omega)
      have c4 : v.n * (v.m * (1 + v.N)) ≤ u.m * (1 + v.N) := by rw [← Nat.mul_assoc]; exact Nat.mul_le_mul_right _ ch.2.2.1
      show (u.F.app (.turns v.n v.F .nil)).cost ≤ u.m * (u.N + (1 + v.N))
      rw [app_cost, Nat.mul_add]
      simp only [Fo.cost]
      omega
    · have k := T.lev y (List.mem_cons_of_mem _ (List.mem_cons_of_mem _ hy))
      have ny : y.h ≠ u.h := fun z => nd.2.1 (by rw [← z]; exact List.mem_map_of_mem hy)
      have nyv : y.h ≠ v.h := fun z => nd.1 (by rw [← z]; exact List.mem_cons_of_mem _ (List.mem_map_of_mem hy))
      have nyp := op.nl y (List.mem_cons_of_mem _ (List.mem_cons_of_mem _ hy))
      exact ⟨S.kp _ _ k.n1 k.n2 k.n3 ny k.lst, off _ nyv nyp k.g, k.rows.same sG, k.good, k.cost, k.m1, k.n1, k.n2, k.n3⟩
  · have := chain_d T.chain.2
    have := ch.2.2.2
    show (u.F.app (.turns v.n v.F .nil)).depth + r.length ≤ 5
    rw [app_depth]
    simp only [Fo.depth]
    omega
theorem Tree.hhs' (T : Tree H0 G H w hs rs ms (v :: r)) : H hs = some (.lst ((r.map fun v => V.ref v.h).reverse ++ [.ref v.h])) := by
  have := T.hhs
  rwa [List.map_cons, List.reverse_cons] at this
theorem Tree.hrs' (T : Tree H0 G H w hs rs ms (v :: r)) : H rs = some (.lst ((r.map fun v => V.int v.n).reverse ++ [.int v.n])) := by
  have := T.hrs
  rwa [List.map_cons, List.reverse_cons] at this
theorem Tree.hms' (T : Tree H0 G H w hs rs ms (v :: r)) : H ms = some (.lst ((r.map fun v => V.int v.m).reverse ++ [.int v.m])) := by
  have := T.hms
  rwa [List.map_cons, List.reverse_cons] at this
theorem chain_all : ∀ {ls : List Lev}, Chain ls → ∀ v ∈ ls, v.m ≤ 64
  | [], h, v, hv => by cases hv
  | [u], h, v, hv => by
    rw [List.mem_singleton.mp hv]
    exact chain_m h
  | u :: x :: r, h, v, hv => by
    rcases List.mem_cons.mp hv with e | hv
    · rw [e]
      exact chain_m h
    · exact chain_all h.2 v hv
theorem nod_mem : ∀ {ls : List Lev} {v : Lev}, v ∈ ls → v.N ≤ nod ls
  | [], v, hv => by cases hv
  | u :: r, v, hv => by
    rcases List.mem_cons.mp hv with e | hv
    · rw [e]
      show u.N ≤ u.N + 1 + nod r
      omega
    · have := nod_mem hv
      show v.N ≤ u.N + 1 + nod r
      omega
theorem Tree.len (T : Tree H0 G H w hs rs ms ls) (hn : nod ls ≤ 50) (hv : v ∈ ls) : v.xs.length ≤ 3200 := by
  have l := T.lev v hv
  have h1 := l.rows.len
  have h2 := len_cost v.F l.good
  have h3 := l.cost
  have h4 := chain_all T.chain v hv
  have h5 := nod_mem hv
  have h6 : v.m * v.N ≤ 64 * 50 := Nat.mul_le_mul h4 (by omega)
  omega
theorem Tree.hhs2 (T : Tree H0 G H w hs rs ms (v :: u :: r)) : H hs = some (.lst (((r.map fun v => V.ref v.h).reverse ++ [.ref u.h]) ++ [.ref v.h])) := by
  have e1 := T.hhs'
  rwa [List.map_cons, List.reverse_cons] at e1
theorem Tree.shut2 (T : Tree H0 G H w hs rs ms (v :: u :: r)) (hx : v.xs ≠ []) (S : ShutOut hs rs ms u.h p (r.map fun v => V.ref v.h).reverse ((u :: r).map fun v => V.int v.n).reverse ((u :: r).map fun v => V.int v.m).reverse u.xs (.int v.n) v.h H H') :
    ∃ G' v', Tree H0 G' H' w hs rs ms (v' :: r) ∧ nod (v' :: r) = nod (v :: u :: r) := by
  obtain ⟨G', T'⟩ := T.shut hx S
  refine ⟨G', _, T', ?_⟩
  show u.N + (1 + v.N) + 1 + nod r = v.N + 1 + (u.N + 1 + nod r)
  omega
end
theorem rng_le (L : Nat) : -(2 ^ 62) ≤ (if (if (L : Int) < 40 then (L : Int) else 40) > 6 then (if (L : Int) < 40 then (L : Int) else 40) else 6) ∧ (if (if (L : Int) < 40 then (L : Int) else 40) > 6 then (if (L : Int) < 40 then (L : Int) else 40) else 6) < 2 ^ 62 ∧
    (if (if (L : Int) < 40 then (L : Int) else 40) > 6 then (if (L : Int) < 40 then (L : Int) else 40) else 6).toNat ≤ 40 := by
  split <;> split <;> omega
section
variable {P : Program} {w : World} {K : PySem.W.Frag} {mg : Str → Option Value} {base : Heap}
def spLTree (K : PySem.W.Frag) : Sp := fun vs H Q _ => ∃ (sc l : Addr) (ns : List Int) (nms : List Str) (w : Nat), vs = [.ref sc, .int w, .ref l, .int 40] ∧ SqL K H sc (ns.map V.int) ∧ ns.length ≤ 1000 ∧ H l = some (.lst (nms.map V.str)) ∧ (2 ≤ nms.length ∧ nms.length ≤ 5) ∧ (∀ z ∈ nms, IsReg z) ∧ (4 ≤ w ∧ w ≤ 32) ∧
  ∀ H' p xs F, Same H H' → H p = none → H' p = some (.lst xs) → RowsAt (New H) H' xs F → F.Good w → F.depth ≤ 5 → F.cost ≤ 3000 → Q (.ref p) H'
theorem sc_f_law_tree : FnScope ["_law_script", "_law_width", "_law_names_here", "_law_most", "_law_heads", "_law_rounds", "_law_room", "_law_k", "_law_state", "_law_way", "_law_many"] ["_law_script", "_law_width", "_law_names_here", "_law_most"] (defScope sf_law_tree) := ⟨rfl, rfl, rfl, by decide +kernel, rfl, by decide +kernel, by decide +kernel⟩
theorem cal_f_law_tree (T : Txt K mg) : Cal P w K mg base (4) "_law_tree" (spLTree K) [] := by
  obtain ⟨fd, F0⟩ := T.c.d.def_ 92 (d := df_law_tree) rfl
  have F : FunD K "_law_tree" "_law_tree" (defArgs sf_law_tree) (defBody sf_law_tree) (defScope sf_law_tree) [] [] (He.fAd K df_law_tree.at_) fd := F0
  have G : FnOk P w K mg base CX0 4 (He.fAd K df_law_tree.at_) fd ["_law_script", "_law_width", "_law_names_here", "_law_most"] (spLTree K) := by
    refine F.ok (CX := CX0) sc_f_law_tree (fun vs H Q E h => ?_) (fun cdv A outer s H vs Q E hr h => ⟨_, PSs.nox (by exact (pss_cons (ps_set (i := 4) sc_f_law_tree.nd rfl (Or.inl rfl) (pe_lst (pa_cons (pe_lst pa_nil) pa_nil)))
      (pss_cons (ps_set (i := 5) sc_f_law_tree.nd rfl (Or.inl rfl) (pe_lst (pa_cons pe_int pa_nil)))
      (pss_cons (ps_set (i := 6) sc_f_law_tree.nd rfl (Or.inl rfl) (pe_lst (pa_cons pe_int pa_nil)))
      (pss_cons (ps_for PassesOwn.never rfl (pi_range1 rfl T.f_range (pa_cons (pe_callB (call_max2 rfl) rfl T.f_max (by decide +kernel) (pa_cons pe_int (pa_cons (pe_callB (call_min2 rfl) rfl T.f_min (by decide +kernel) (pa_cons (pv 3) (pa_cons (pe_callB call_len_seq rfl T.f_len (by decide +kernel) (pa_cons (pv 0) pa_nil)) pa_nil))) pa_nil))) pa_nil)) (pg_name (i := 7) sc_f_law_tree.nd rfl (Or.inl rfl)) (pss_cons (ps_set (i := 8) sc_f_law_tree.nd rfl (Or.inl rfl) (pe_c (cal_f_law_begun T) hr (by omega) rfl (pa_cons (pe_c (cal_f_law_cell T) hr (by omega) rfl (pa_cons (pv 0) (pa_cons (pe_op op_add (pv 7) pe_int) pa_nil))) pa_nil)))
      (pss_cons (ps_set (i := 9) sc_f_law_tree.nd rfl (Or.inl rfl) (pe_c (cal_f_law_draw T) hr (by omega) rfl (pa_cons (pv 8) (pa_cons pe_int pa_nil))))
      (pss_one (ps_if (PW.pt (pw_and (pt_cmpR op_lt (pv 9) pe_int (nomark _)) (pw_and1 (pt_cmpR op_lt (pe_callB call_len_seq rfl T.f_len (by decide +kernel) (pa_cons (pv 4) pa_nil)) pe_int (nomark _))))) (pss_cons (ps_set (i := 10) sc_f_law_tree.nd rfl (Or.inl rfl) (pe_op op_add pe_int (pe_c (cal_f_law_draw T) hr (by omega) rfl (pa_cons (pv 8) (pa_cons (pe_ix ix_list (pv 6) (pe_un un_neg pe_int) (fun _ _ => rfl)) pa_nil)))))
      (pss_cons (ps_expr (pe_bm PySem.F.plainAttrs_list PySem.F.slot_list_append PySem.F.type_list_append mt_append (pv 4) (pa_cons (pe_lst pa_nil) pa_nil)))
      (pss_cons (ps_expr (pe_bm PySem.F.plainAttrs_list PySem.F.slot_list_append PySem.F.type_list_append mt_append (pv 5) (pa_cons (pv 10) pa_nil)))
      (pss_one (ps_expr (pe_bm PySem.F.plainAttrs_list PySem.F.slot_list_append PySem.F.type_list_append mt_append (pv 6) (pa_cons (pe_op op_fdiv (pe_ix ix_list (pv 6) (pe_un un_neg pe_int) (fun _ _ => rfl)) (pv 10)) pa_nil))))))) (pss_one (ps_if (PW.pt (pw_and (pt_cmpR op_eq (pv 9) pe_int (nomark _)) (pw_and (pt_cmpR op_gt (pe_callB call_len_seq rfl T.f_len (by decide +kernel) (pa_cons (pv 4) pa_nil)) pe_int (nomark _)) (pw_and1 (pt_cmpR (op_neNil hr.units0) (pe_ix ix_list (pv 4) (pe_un un_neg pe_int) (fun _ _ => rfl)) (pe_lst pa_nil) (nomark _)))))) (pss_one (ps_expr (pe_c (cal_f_law_shut T) hr (by omega) rfl (pa_cons (pv 4) (pa_cons (pv 5) (pa_cons (pv 6) pa_nil)))))) (pss_one (ps_expr (pe_bm PySem.F.plainAttrs_list PySem.F.slot_list_append PySem.F.type_list_append mt_append (pe_ix ix_list (pv 4) (pe_un un_neg pe_int) (fun _ _ => rfl)) (pa_cons (pe_c (cal_f_law_row T) hr (by omega) rfl (pa_cons (pv 8) (pa_cons (pv 1) (pa_cons (pv 2) pa_nil)))) pa_nil)))))))))))
      (pss_cons (ps_while PassesOwn.never (pt_cmpR op_gt (pe_callB call_len_seq rfl T.f_len (by decide +kernel) (pa_cons (pv 4) pa_nil)) pe_int (nomark _)) (pss_cons (ps_if (pt_cmpR (op_eqNil hr.units0) (pe_ix ix_list (pv 4) (pe_un un_neg pe_int) (fun _ _ => rfl)) (pe_lst pa_nil) (nomark _)) (pss_one (ps_expr (pe_bm PySem.F.plainAttrs_list PySem.F.slot_list_append PySem.F.type_list_append mt_append (pe_ix ix_list (pv 4) (pe_un un_neg pe_int) (fun _ _ => rfl)) (pa_cons (pe_tup (pa_cons pe_str (pa_cons (pe_ix ix_list (pv 2) pe_int (fun _ _ => rfl)) (pa_cons (pe_ix ix_list (pv 2) pe_int (fun _ _ => rfl)) pa_nil)))) pa_nil)))) pss_nil)
      (pss_one (ps_expr (pe_c (cal_f_law_shut T) hr (by omega) rfl (pa_cons (pv 4) (pa_cons (pv 5) (pa_cons (pv 6) pa_nil))))))))
      (pss_one (ps_ret (pe_ix ix_list (pv 4) pe_int (fun _ _ => rfl)))))))))), ?_⟩)
    · first
      | (obtain ⟨e, _⟩ := h; subst e; rfl)
      | (obtain ⟨_, e, _⟩ := h; subst e; rfl)
      | (obtain ⟨_, _, e, _⟩ := h; subst e; rfl)
      | (obtain ⟨_, _, _, e, _⟩ := h; subst e; rfl)
      | (obtain ⟨_, _, _, _, e, _⟩ := h; subst e; rfl)
      | (obtain ⟨_, _, _, _, _, e, _⟩ := h; subst e; rfl)
      | (obtain ⟨_, _, _, _, _, _, e, _⟩ := h; subst e; rfl)
      | (obtain ⟨_, _, _, _, _, _, _, e, _⟩ := h; subst e; rfl)
      | (obtain ⟨_, _, _, _, _, _, _, _, e, _⟩ := h; subst e; rfl)
      | (obtain ⟨_, _, _, _, _, _, _, _, _, e, _⟩ := h; subst e; rfl)
      | (obtain ⟨_, _, _, _, _, _, _, _, _, _, e, _⟩ := h; subst e; rfl)
      | (obtain ⟨_, _, _, _, _, _, _, _, _, _, _, e, _⟩ := h; subst e; rfl)
      | (obtain ⟨_, _, _, _, _, _, _, _, _, _, _, _, e, _⟩ := h; subst e; rfl)
      | (obtain ⟨_, _, _, _, _, _, _, _, _, _, _, _, _, e, _⟩ := h; subst e; rfl)
    · skip
      obtain ⟨sc, l, ns, nms, w, rfl, hsc, hns, hl, hnm, hreg, hw, k⟩ := h
      refine ⟨le_sz (Nat.le_of_ble_eq_true rfl), fun h0 hh0 => ⟨le_sz (Nat.le_of_ble_eq_true rfl), fun hs hhs => ⟨le_sz (Nat.le_of_ble_eq_true rfl), fun rs hrs => ⟨le_sz (Nat.le_of_ble_eq_true rfl), fun ms hms => ?_⟩⟩⟩⟩
      have q1 := same_new (o := .lst []) hh0
      have q2 := same_new (o := .lst [.ref h0]) hhs
      have q3 := same_new (o := .lst [.int 1]) hrs
      have q4 := same_new (o := .lst [.int 64]) hms
      have T0 : Tree H H (upd (upd (upd (upd H h0 (.lst [])) hs (.lst [.ref h0])) rs (.lst [.int 1])) ms (.lst [.int 64])) w hs rs ms [⟨h0, 1, 64, [], .nil, 0⟩] := {
        s0 := Same.refl _, s1 := ((q1.trans q2).trans q3).trans q4, ghs := q1.free hhs, grs := (q1.trans q2).free hrs, gms := ((q1.trans q2).trans q3).free hms,
        n1 := ne_of_none upd_same hrs, n2 := ne_of_none (q3 _ _ upd_same) hms, n3 := ne_of_none upd_same hms,
        hhs := q4 _ _ (q3 _ _ upd_same), hrs := q4 _ _ upd_same, hms := upd_same, nd := List.nodup_cons.mpr ⟨by simp, List.nodup_nil⟩,
        lev := (fun v hv => by
          rw [List.mem_singleton.mp hv]
          exact ⟨q4 _ _ (q3 _ _ (q2 _ _ upd_same)), hh0, trivial, trivial, Nat.zero_le _, Nat.le_of_ble_eq_true rfl, ne_of_none upd_same hhs, ne_of_none (q2 _ _ upd_same) hrs, ne_of_none (q3 _ _ (q2 _ _ upd_same)) hms⟩),
        chain := ⟨rfl, Nat.zero_le _⟩ }
      generalize upd (upd (upd (upd H h0 (.lst [])) hs (.lst [.ref h0])) rs (.lst [.int 1])) ms (.lst [.int 64]) = Hx at T0 ⊢
      clear q1 q2 q3 q4 hhs hrs hms hh0
      have hr3 := rng_le (ns.map V.int).length
      refine ⟨_, rfl, _, rfl, sc, _, rfl, .inl (sq_keep hsc (T0.s0.trans T0.s1)), _, _, rfl, _, _, rfl, _, rfl, hr3.1, hr3.2.1, for_range (lo := 0) (n := Int.toNat _) (fun i σ H' => (∃ v7 v8 v9 v10 : Option V, σ = [some (.ref sc), some (.int w), some (.ref l), some (.int 40), some (.ref hs), some (.ref rs), some (.ref ms), v7, v8, v9, v10]) ∧ ∃ G v r, Tree H G H' w hs rs ms (v :: r) ∧ nod (v :: r) ≤ i + 1) ?_ ?_ ?_⟩
      · exact ⟨⟨_, _, _, _, rfl⟩, H, _, [], T0, Nat.le_refl _⟩
      · rintro i σ H1 hi ⟨⟨v7, v8, v9, v10, rfl⟩, G, v, r, T1, hn⟩
        have hi40 : i < 40 := Nat.lt_of_lt_of_le hi hr3.2.2
        have eqk : ([.ref sc, .int (0 + (i : Int) + 1)] : List V) = [.ref sc, .int ((i + 1 : Nat) : Int)] := congrArg (fun t => [V.ref sc, V.int t]) (by omega)
        refine ⟨_, rfl, _, rfl, _, _, rfl, rfl, sc, ns, i + 1, eqk, sq_keep hsc (T1.s0.trans T1.s1), hns, by omega, fun c => ⟨c, rfl, fun st x z hst => ?_⟩⟩
        have o := T1.off hst
        have T2 := T1.sub (same_new (o := .lst [.int x, .int 0, .int z]) hst)
        have d2 : D3 (upd H1 st (.lst [.int x, .int 0, .int z])) st := ⟨x, 0, z, upd_same⟩
        generalize upd H1 st (.lst [.int x, .int 0, .int z]) = H2 at T2 d2 ⊢
        have hd0 : H st = none := T2.s0.free o.g
        have nl : l ≠ st := ne_of_none hl hd0
        refine ⟨_, rfl, st, 8, rfl, d2, by omega, fun H3 way c3 hway => ?_⟩
        have T3 := T2.but o c3.kp
        have lv := T3.lev v (List.mem_cons_self ..)
        have hll : ∀ f : Lev → V, ((v :: r).map f).reverse.length = r.length + 1 := fun f => by simp
        have hd5 := chain_d T3.chain
        have rowp : ∀ (Hc : Hp) (_ : Tree H G Hc w hs rs ms (v :: r)) (_ : D3 Hc st) (v9 v10 : Option V), tBM K "list" rAppend (tOp (rIxL K) (tVar 4) (tUn (rU fun i => V.int (-i)) (tC (V.int 1)))) (tCons (tCall spLRow [] C8.E0 (tCons (tVar 8) (tCons (tVar 1) (tCons (tVar 2) tNil)))) tNil)
            [some (.ref sc), some (.int w), some (.ref l), some (.int 40), some (.ref hs), some (.ref rs), some (.ref ms), some (.int (0 + (i : Int))), some (.ref st), v9, v10] Hc (fun _ H' => (∃ v7 v8 v9' v10' : Option V, [some (.ref sc), some (.int w), some (.ref l), some (.int 40), some (.ref hs), some (.ref rs), some (.ref ms), some (.int (0 + (i : Int))), some (.ref st), v9, v10] = [some (.ref sc), some (.int w), some (.ref l), some (.int 40), some (.ref hs), some (.ref rs), some (.ref ms), v7, v8, v9', v10']) ∧ ∃ G v r, Tree H G H' w hs rs ms (v :: r) ∧ nod (v :: r) ≤ i + 1 + 1) := fun Hc Tc dc v9 v10 => by
          have lc := Tc.lev v (List.mem_cons_self ..)
          refine ⟨_, rfl, 1, rfl, hs, _, _, _, rfl, rfl, SqL.of Tc.hhs', atI_last _ _, .inl ⟨rfl, _, SqL.of lc.lst⟩, _, rfl, _, rfl, _, rfl, st, l, nms, w, rfl, dc, Tc.at_ hl, by omega, nl, hreg, hw, fun H4 p lf c4 hp hp4 hg => ?_⟩
          have op := Tc.off hp
          have T4 := (Tc.but o c4.kp).gnew op hp4
          have T5 := T4.app (ys := [.ref p]) (E := .leaf lf .nil) (c := 1) ⟨⟨p, rfl, upd_same⟩, trivial⟩ ⟨hg, trivial⟩ (by show 0 + r.length ≤ 5; omega) (by show 1 + 0 ≤ v.m * 1; have := lv.m1; omega)
          have hxl := T4.len (by omega) (List.mem_cons_self ..)
          refine ⟨v.h, _, _, rfl, rfl, (T4.lev v (List.mem_cons_self ..)).lst, lt_sz (by omega), ⟨_, _, _, _, rfl⟩, _, _, r, T5, ?_⟩
          show v.N + 1 + 1 + nod r ≤ i + 1 + 1
          have hn' : v.N + 1 + nod r ≤ i + 1 := hn
          omega
        refine ⟨_, rfl, _, _, rfl, rfl, _, rfl, iteD (fun ca => ?_) (fun ca => ?_)⟩
        · refine ⟨_, rfl, hs, _, rfl, .inl (SqL.of T3.hhs), _, _, rfl, rfl, _, rfl, iteD (fun cb => ?_) (fun cb => ?_)⟩
          · rw [hll] at cb
            have hm64 := chain_m T3.chain
            have hm1 := lv.m1
            refine ⟨_, rfl, _, rfl, 1, rfl, ms, _, _, _, rfl, rfl, SqL.of T3.hms', atI_last _ _, st, v.m, rfl, c3.d3, by omega, fun H4 t c4 ht => ⟨_, _, rfl, rfl, ?_⟩⟩
            have T4 := T3.but o c4.kp
            have l1 := hll fun v => V.ref v.h
            have l2 := hll fun v => V.int v.n
            have l3 := hll fun v => V.int v.m
            refine ⟨_, rfl, .inl ⟨rfl, _, SqL.of T4.hhs⟩, le_sz (Nat.le_of_ble_eq_true rfl), fun D hD => ⟨hs, _, _, rfl, rfl, same_new hD _ _ T4.hhs, lt_sz (by rw [l1]; omega), ?_⟩⟩
            have oD := T4.off hD
            have sD := same_new (o := .lst []) hD
            have T5 := T4.sub sD
            have eD : (upd H4 D (.lst [])) D = some (.lst []) := upd_same
            generalize upd H4 D (.lst []) = H5 at sD T5 eD ⊢
            refine ⟨_, rfl, .inl ⟨rfl, _, SqL.of (by rw [upd_ne T5.n1.symm]; exact T5.hrs)⟩, _, rfl, rs, _, _, rfl, rfl, by rw [upd_ne T5.n1.symm]; exact T5.hrs, lt_sz (by rw [l2]; omega), ?_⟩
            have e3 : (upd (upd H5 hs (.lst (((v :: r).map fun v => V.ref v.h).reverse ++ [.ref D]))) rs (.lst (((v :: r).map fun v => V.int v.n).reverse ++ [.int (1 + (t : Int))]))) ms = some (.lst ((v :: r).map fun v => V.int v.m).reverse) := by rw [upd_ne T5.n3.symm, upd_ne T5.n2.symm]; exact T5.hms
            have e3' : (upd (upd H5 hs (.lst (((v :: r).map fun v => V.ref v.h).reverse ++ [.ref D]))) rs (.lst (((v :: r).map fun v => V.int v.n).reverse ++ [.int (1 + (t : Int))]))) ms = some (.lst ((r.map fun v => V.int v.m).reverse ++ [.int v.m])) := by rw [upd_ne T5.n3.symm, upd_ne T5.n2.symm]; exact T5.hms'
            have dv : CDiv (v.m : Int) (1 + (t : Int)) := ⟨by omega, by omega⟩
            refine ⟨_, rfl, .inl ⟨rfl, _, SqL.of e3⟩, _, rfl, 1, rfl, ms, _, _, _, rfl, rfl, SqL.of e3', atI_last _ _, _, rfl, _, _, rfl, rfl, dv, ms, _, _, rfl, rfl, e3, lt_sz (by rw [l3]; omega), ⟨_, _, _, _, rfl⟩, G, _, v :: r, T5.push (D := D) (n := 1 + t) oD (by omega) (by omega) (by omega) ?_ ?_ ?_ ?_ ?_, ?_⟩
            · rw [upd_ne oD.n3, upd_ne oD.n2, upd_ne oD.n1]
              exact eD
            · rw [upd_ne T5.n2, upd_ne T5.n1]
              exact upd_same
            · rw [upd_ne T5.n3, upd_same]
              congr 4
            · rw [upd_same]
              congr 4
            · intro b y n1 n2 n3 e
              rw [upd_ne n3, upd_ne n2, upd_ne n1]
              exact e
            · show 0 + 1 + nod (v :: r) ≤ i + 1 + 1
              omega
          · refine ⟨_, rfl, rfl, _, rfl, iteDf (vint_ne (by omega)) (iteF ?_)⟩
            exact rowp _ T3 c3.d3 _ _
        · refine iteF ⟨_, rfl, rfl, _, rfl, iteD (fun cb => ?_) (fun cb => iteF (rowp _ T3 c3.d3 _ _))⟩
          refine ⟨_, rfl, hs, _, rfl, .inl (SqL.of T3.hhs), _, _, rfl, rfl, _, rfl, iteD (fun cc => ?_) (fun cc => iteF (rowp _ T3 c3.d3 _ _))⟩
          rw [hll] at cc
          obtain ⟨u, r', rfl⟩ : ∃ u r', r = u :: r' := by
            cases r with
            | nil => exact absurd cc (by show ¬ ((1 : Int) < ((0 + 1 : Nat) : Int)); omega)
            | cons u r' => exact ⟨u, r', rfl⟩
          refine ⟨_, rfl, 1, rfl, hs, _, _, _, rfl, rfl, SqL.of T3.hhs', atI_last _ _, le_sz (Nat.le_of_ble_eq_true rfl), fun D hD => ⟨v.h, D, v.xs, rfl, rfl, SqL.of (same_new hD _ _ lv.lst), SqL.of upd_same, _, rfl, ?_⟩⟩
          have T4 := T3.sub (same_new (o := .lst []) hD)
          have d4 := c3.d3.same (same_new (o := .lst []) hD)
          generalize upd H3 D (.lst []) = H4 at T4 d4 ⊢
          by_cases hx : v.xs = []
          · rw [show v.xs.isEmpty = true by rw [hx]; rfl]
            exact iteF (rowp _ T4 d4 _ _)
          · rw [show v.xs.isEmpty = false by cases e : v.xs with | nil => exact absurd e hx | cons _ _ => rfl]
            have lu := T4.lev u (List.mem_cons_of_mem _ (List.mem_cons_self ..))
            have hlen := T4.len (by omega) (List.mem_cons_of_mem v (List.mem_cons_self (a := u) (l := r')))
            refine iteT ⟨_, rfl, _, rfl, _, rfl, hs, rs, ms, u.h, v.h, _, _, _, u.xs, .int v.n, .int v.m, rfl, T4.hhs2, T4.hrs', T4.hms', lu.lst, by omega, T4.n1, T4.n2, T4.n3, lu.n1, lu.n2, lu.n3, fun H' p S => ?_⟩
            obtain ⟨G', v', T', e⟩ := T4.shut2 hx S
            exact ⟨⟨_, _, _, _, rfl⟩, G', v', r', T', by omega⟩
      · rintro σ H1 ⟨⟨v7, v8, v9, v10, rfl⟩, G, v, r, T1, hn⟩
        have h40 := hr3.2.2
        have hd5 := chain_d T1.chain
        refine ⟨fun m σ H' => (∃ v7 v8 v9 v10 : Option V, σ = [some (.ref sc), some (.int w), some (.ref l), some (.int 40), some (.ref hs), some (.ref rs), some (.ref ms), v7, v8, v9, v10]) ∧ ∃ G v r, Tree H G H' w hs rs ms (v :: r) ∧ nod (v :: r) + r.length ≤ 46 ∧ m = r.length, ⟨r.length, ⟨_, _, _, _, rfl⟩, G, v, r, T1, by omega, rfl⟩, ?_⟩
        clear hn T1 hd5 h40
        rintro m σ H2 ⟨⟨v7, v8, v9, v10, rfl⟩, G, v, r, T1, hn, rfl⟩
        have lv := T1.lev v (List.mem_cons_self ..)
        have hll : ((v :: r).map fun v => V.ref v.h).reverse.length = r.length + 1 := by simp
        refine ⟨_, rfl, hs, _, rfl, .inl (SqL.of T1.hhs), _, _, rfl, rfl, _, rfl, iteD (fun cc => ?_) (fun cc => ?_)⟩
        · rw [hll] at cc
          obtain ⟨u, r', rfl⟩ : ∃ u r', r = u :: r' := by
            cases r with
            | nil => exact absurd cc (by show ¬ ((1 : Int) < ((0 + 1 : Nat) : Int)); omega)
            | cons u r' => exact ⟨u, r', rfl⟩
          refine ⟨fun σ' H' => ∃ m', m' < (u :: r').length ∧ _, fun _ _ h => h, ?_⟩
          refine ⟨_, rfl, 1, rfl, hs, _, _, _, rfl, rfl, SqL.of T1.hhs', atI_last _ _, le_sz (Nat.le_of_ble_eq_true rfl), fun D hD => ⟨v.h, D, v.xs, rfl, rfl, SqL.of (same_new hD _ _ lv.lst), SqL.of upd_same, _, rfl, ?_⟩⟩
          have T2 := T1.sub (same_new (o := .lst []) hD)
          generalize upd H2 D (.lst []) = H3 at T2 ⊢
          have hn2 : nod (v :: u :: r') + (r'.length + 1) ≤ 46 := hn
          have shutp : ∀ (Hc : Hp) (Gc : Hp) (v2 : Lev) (_ : Tree H Gc Hc w hs rs ms (v2 :: u :: r')) (_ : v2.xs ≠ []) (_ : nod (v2 :: u :: r') + r'.length ≤ 46) (H' : Hp) (p : Addr) (_ : ShutOut hs rs ms u.h p (r'.map fun v => V.ref v.h).reverse ((u :: r').map fun v => V.int v.n).reverse ((u :: r').map fun v => V.int v.m).reverse u.xs (.int v2.n) v2.h Hc H'),
              ∃ m', m' < (u :: r').length ∧ ((∃ v7' v8' v9' v10' : Option V, [some (V.ref sc), some (.int w), some (.ref l), some (.int 40), some (.ref hs), some (.ref rs), some (.ref ms), v7, v8, v9, v10] = [some (.ref sc), some (.int w), some (.ref l), some (.int 40), some (.ref hs), some (.ref rs), some (.ref ms), v7', v8', v9', v10']) ∧ ∃ G v r, Tree H G H' w hs rs ms (v :: r) ∧ nod (v :: r) + r.length ≤ 46 ∧ m' = r.length) := fun Hc Gc v2 Tc hx hc H' p S => by
            obtain ⟨G', v', T', e⟩ := Tc.shut2 hx S
            exact ⟨r'.length, Nat.lt_succ_self _, ⟨_, _, _, _, rfl⟩, G', v', r', T', by omega, rfl⟩
          by_cases hx : v.xs = []
          · rw [show v.xs.isEmpty = true by rw [hx]; rfl]
            obtain ⟨na, nb, nr, rfl⟩ : ∃ na nb nr, nms = na :: nb :: nr := by
              match nms, hnm with
              | na :: nb :: nr, _ => exact ⟨na, nb, nr, rfl⟩
              | [_], h => exact absurd h.1 (by show ¬ (2 ≤ 1); omega)
              | [], h => exact absurd h.1 (by show ¬ (2 ≤ 0); omega)
            have hl2 := T2.at_ hl
            refine iteT ⟨_, rfl, 1, rfl, hs, _, _, _, rfl, rfl, SqL.of T2.hhs', atI_last _ _, .inl ⟨rfl, _, SqL.of (T2.lev v (List.mem_cons_self ..)).lst⟩, _, rfl, l, _, _, _, rfl, rfl, SqL.of hl2, atI_nat (j := 0) rfl, _, rfl, l, _, _, _, rfl, rfl, SqL.of hl2, atI_nat (j := 1) rfl, le_sz (Nat.le_of_ble_eq_true rfl), fun p hp => ?_⟩
            have op := T2.off hp
            have T3 := (T2.sub (same_new (o := .tup (Leaf.vals (.copy na nb))) hp)).gnew op upd_same
            have gd : Leaf.Good w (.copy na nb) := ⟨hreg na (List.mem_cons_self ..), hreg nb (List.mem_cons_of_mem _ (List.mem_cons_self ..))⟩
            have hd5 := chain_d T2.chain
            have T4 := T3.app (ys := [.ref p]) (E := .leaf (.copy na nb) .nil) (c := 1) ⟨⟨p, rfl, upd_same⟩, trivial⟩ ⟨gd, trivial⟩ (by show 0 + (u :: r').length ≤ 5; omega) (by show 1 + 0 ≤ v.m * 1; have := lv.m1; omega)
            have hxl := T3.len (by omega) (List.mem_cons_self ..)
            refine ⟨v.h, _, _, rfl, rfl, (T3.lev v (List.mem_cons_self ..)).lst, lt_sz (by omega), ?_⟩
            have lu := T4.lev u (List.mem_cons_of_mem _ (List.mem_cons_self ..))
            have hn4 : nod ((⟨v.h, v.n, v.m, v.xs ++ [.ref p], v.F.app (.leaf (.copy na nb) .nil), v.N + 1⟩ : Lev) :: u :: r') = nod (v :: u :: r') + 1 := by
              show v.N + 1 + 1 + nod (u :: r') = v.N + 1 + nod (u :: r') + 1
              omega
            have hlen := T4.len (by omega) (List.mem_cons_of_mem _ (List.mem_cons_self (a := u) (l := r')))
            refine ⟨_, rfl, _, rfl, _, rfl, hs, rs, ms, u.h, v.h, _, _, _, u.xs, .int v.n, .int v.m, rfl, T4.hhs2, T4.hrs', T4.hms', lu.lst, by omega, T4.n1, T4.n2, T4.n3, lu.n1, lu.n2, lu.n3, fun H' p' S => ?_⟩
            exact shutp _ _ _ T4 (by show v.xs ++ [V.ref p] ≠ []; simp) (by omega) H' p' S
          · rw [show v.xs.isEmpty = false by cases e : v.xs with | nil => exact absurd e hx | cons _ _ => rfl]
            have lu := T2.lev u (List.mem_cons_of_mem _ (List.mem_cons_self ..))
            have hlen := T2.len (by omega) (List.mem_cons_of_mem v (List.mem_cons_self (a := u) (l := r')))
            refine iteF ⟨_, rfl, _, rfl, _, rfl, hs, rs, ms, u.h, v.h, _, _, _, u.xs, .int v.n, .int v.m, rfl, T2.hhs2, T2.hrs', T2.hms', lu.lst, by omega, T2.n1, T2.n2, T2.n3, lu.n1, lu.n2, lu.n3, fun H' p S => ?_⟩
            exact shutp _ _ _ T2 hx (by omega) H' p S
        · rw [hll] at cc
          obtain rfl : r = [] := List.length_eq_zero_iff.mp (by omega)
          have hm64 := chain_m T1.chain
          have hc := lv.cost
          have hn2 : v.N + 1 + 0 + 0 ≤ 46 := hn
          have hc2 : v.m * v.N ≤ 64 * 45 := Nat.mul_le_mul hm64 (by omega)
          exact ⟨_, rfl, hs, _, _, _, rfl, rfl, SqL.of T1.hhs, atI_nat (j := 0) rfl, k _ v.h v.xs v.F (T1.s0.trans T1.s1) (T1.s0.free lv.g) lv.lst (lv.rows.same T1.s1) lv.good (by have := chain_d T1.chain; omega) (by omega)⟩
  exact ⟨_, fd, _, [], G, T.g__law_tree, F.kp, F.bindsN (fun _ _ _ _ _ _ us hl => match us, hl with | [_, _, _, _], _ => rfl), .nil⟩
end
end K73

set_option maxHeartbeats 4000000
/-! the law's own makers and its own run -/
namespace K73
open PySem PySem.Spec PyProof.Rows L2
open C8 (Cal Mak Met pe_c pe_mk pe_mt pe_mt0 pe_gc)
local macro_rules | `(tactic| walk_at "rd") => `(tactic| repeat (first | refine ⟨_, rfl, ?_⟩ | refine ⟨_, _, rfl, rfl, ?_⟩ | refine ⟨_, rfl, rfl, ?_⟩ | refine ⟨_, _, rfl, ?_⟩ | refine ⟨_, _, _, rfl, ?_⟩ | refine ⟨_, _, _, _, rfl, ?_⟩ | refine And.intro rfl ?_ | refine And.intro trivial ?_ | refine And.intro (le_sz (Nat.le_of_ble_eq_true rfl)) ?_ | refine And.intro (le_sz (by omega)) ?_ | refine iteT ?_ | refine iteF ?_ | refine iteDt (by omega) ?_ | refine iteDf (by omega) ?_ | refine iteNt (by omega) ?_ | refine iteNf (by omega) ?_ | refine And.intro (by omega) ?_ | refine ⟨_, _, _, _, _, rfl, .ty _, .base (.str _), kit_ss, ?_⟩ | refine ⟨_, _, _, _, _, rfl, .ty _, .base (.lst (by assumption)), kit_ll, ?_⟩ | refine ⟨_, _, _, _, _, rfl, .ty _, .base (.dK (by assumption)), kit_dd, ?_⟩ | refine ⟨_, _, _, _, _, rfl, .ty _, .base (.tup (by assumption)), kit_tt, ?_⟩))

theorem same_made {H : Hp} {x dx : Addr} {o1 o2 o3 : HO} (h1 : H x = none) (h2 : H dx = none) : Same H (upd (upd (upd H dx o1) x o2) x o3) := fun b o e => by
  rw [upd_ne (ne_of_none e h1), upd_ne (ne_of_none e h1), upd_ne (ne_of_none e h2)]
  exact e
section
variable {P : Program} {w : World} {K : PySem.W.Frag} {mg : Str → Option Value} {base : Heap}
def Leaf.Wide : Leaf → Prop
  | .pair .. => True
  | .shift .. => True
  | .mark .. => True
  | _ => False
def spMPair (K : PySem.W.Frag) : Sp := fun vs H Q _ => ∃ (p : Addr) (r : Leaf), vs = [.ref p] ∧ H p = some (.tup r.vals) ∧ r.Wide ∧ ∀ H' q dx, Same H H' → H' q = some (.ins (r.cl.ad K) dx r.flds) → Q (.ref q) H'
theorem sc_f_law_made_pair : FnScope ["_law_row_here"] ["_law_row_here"] (defScope sf_law_made_pair) := ⟨rfl, rfl, rfl, by decide +kernel, rfl, by decide +kernel, by decide +kernel⟩
theorem cal_f_law_made_pair (T : Txt K mg) : Cal P w K mg base (3) "_law_made_pair" (spMPair K) [] := by
  obtain ⟨fd, F0⟩ := T.c.d.def_ 94 (d := df_law_made_pair) rfl
  have F : FunD K "_law_made_pair" "_law_made_pair" (defArgs sf_law_made_pair) (defBody sf_law_made_pair) (defScope sf_law_made_pair) [] [] (He.fAd K df_law_made_pair.at_) fd := F0
  have G : FnOk P w K mg base CX0 3 (He.fAd K df_law_made_pair.at_) fd ["_law_row_here"] (spMPair K) := by
    refine F.ok (CX := CX0) sc_f_law_made_pair (fun vs H Q E h => ?_) (fun cdv A outer s H vs Q E hr h => ⟨_, PSs.nox (by exact (pss_cons (ps_if (pt_cmpR op_eq (pe_ix ix_tup (pv 0) pe_int (fun _ _ => rfl)) pe_str (nomark _)) (pss_one (ps_ret (pe_mk (mak_Low T) hr (by omega) rfl (pa_cons (pe_ix ix_tup (pv 0) pe_int (fun _ _ => rfl)) (pa_cons (pe_ix ix_tup (pv 0) pe_int (fun _ _ => rfl)) (pa_cons (pe_ix ix_tup (pv 0) pe_int (fun _ _ => rfl)) pa_nil)))))) pss_nil)
      (pss_cons (ps_if (pt_cmpR op_eq (pe_ix ix_tup (pv 0) pe_int (fun _ _ => rfl)) pe_str (nomark _)) (pss_one (ps_ret (pe_mk (mak_High T) hr (by omega) rfl (pa_cons (pe_ix ix_tup (pv 0) pe_int (fun _ _ => rfl)) (pa_cons (pe_ix ix_tup (pv 0) pe_int (fun _ _ => rfl)) (pa_cons (pe_ix ix_tup (pv 0) pe_int (fun _ _ => rfl)) pa_nil)))))) pss_nil)
      (pss_cons (ps_if (pt_cmpR op_eq (pe_ix ix_tup (pv 0) pe_int (fun _ _ => rfl)) pe_str (nomark _)) (pss_one (ps_ret (pe_mk (mak_And T) hr (by omega) rfl (pa_cons (pe_ix ix_tup (pv 0) pe_int (fun _ _ => rfl)) (pa_cons (pe_ix ix_tup (pv 0) pe_int (fun _ _ => rfl)) (pa_cons (pe_ix ix_tup (pv 0) pe_int (fun _ _ => rfl)) pa_nil)))))) pss_nil)
      (pss_cons (ps_if (pt_cmpR op_eq (pe_ix ix_tup (pv 0) pe_int (fun _ _ => rfl)) pe_str (nomark _)) (pss_one (ps_ret (pe_mk (mak_Or T) hr (by omega) rfl (pa_cons (pe_ix ix_tup (pv 0) pe_int (fun _ _ => rfl)) (pa_cons (pe_ix ix_tup (pv 0) pe_int (fun _ _ => rfl)) (pa_cons (pe_ix ix_tup (pv 0) pe_int (fun _ _ => rfl)) pa_nil)))))) pss_nil)
      (pss_cons (ps_if (pt_cmpR op_eq (pe_ix ix_tup (pv 0) pe_int (fun _ _ => rfl)) pe_str (nomark _)) (pss_one (ps_ret (pe_mk (mak_Unlike T) hr (by omega) rfl (pa_cons (pe_ix ix_tup (pv 0) pe_int (fun _ _ => rfl)) (pa_cons (pe_ix ix_tup (pv 0) pe_int (fun _ _ => rfl)) (pa_cons (pe_ix ix_tup (pv 0) pe_int (fun _ _ => rfl)) pa_nil)))))) pss_nil)
      (pss_cons (ps_if (pt_cmpR op_eq (pe_ix ix_tup (pv 0) pe_int (fun _ _ => rfl)) pe_str (nomark _)) (pss_one (ps_ret (pe_mk (mak_Under T) hr (by omega) rfl (pa_cons (pe_ix ix_tup (pv 0) pe_int (fun _ _ => rfl)) (pa_cons (pe_ix ix_tup (pv 0) pe_int (fun _ _ => rfl)) (pa_cons (pe_ix ix_tup (pv 0) pe_int (fun _ _ => rfl)) pa_nil)))))) pss_nil)
      (pss_cons (ps_if (pt_cmpR op_eq (pe_ix ix_tup (pv 0) pe_int (fun _ _ => rfl)) pe_str (nomark _)) (pss_one (ps_ret (pe_mk (mak_Left T) hr (by omega) rfl (pa_cons (pe_ix ix_tup (pv 0) pe_int (fun _ _ => rfl)) (pa_cons (pe_ix ix_tup (pv 0) pe_int (fun _ _ => rfl)) (pa_cons (pe_ix ix_tup (pv 0) pe_int (fun _ _ => rfl)) pa_nil)))))) pss_nil)
      (pss_cons (ps_if (pt_cmpR op_eq (pe_ix ix_tup (pv 0) pe_int (fun _ _ => rfl)) pe_str (nomark _)) (pss_one (ps_ret (pe_mk (mak_Right T) hr (by omega) rfl (pa_cons (pe_ix ix_tup (pv 0) pe_int (fun _ _ => rfl)) (pa_cons (pe_ix ix_tup (pv 0) pe_int (fun _ _ => rfl)) (pa_cons (pe_ix ix_tup (pv 0) pe_int (fun _ _ => rfl)) pa_nil)))))) pss_nil)
      (pss_cons (ps_if (pt_cmpR op_eq (pe_ix ix_tup (pv 0) pe_int (fun _ _ => rfl)) pe_str (nomark _)) (pss_one (ps_ret (pe_mk (mak_Slide T) hr (by omega) rfl (pa_cons (pe_ix ix_tup (pv 0) pe_int (fun _ _ => rfl)) (pa_cons (pe_ix ix_tup (pv 0) pe_int (fun _ _ => rfl)) (pa_cons (pe_ix ix_tup (pv 0) pe_int (fun _ _ => rfl)) pa_nil)))))) pss_nil)
      (pss_one (ps_ret (pe_mk (mak_Mark T) hr (by omega) rfl (pa_cons (pe_ix ix_tup (pv 0) pe_int (fun _ _ => rfl)) (pa_cons (pe_ix ix_tup (pv 0) pe_int (fun _ _ => rfl)) (pa_cons (pe_ix ix_tup (pv 0) pe_int (fun _ _ => rfl)) pa_nil)))))))))))))))), ?_⟩)
    · first
      | (obtain ⟨e, _⟩ := h; subst e; rfl)
      | (obtain ⟨_, e, _⟩ := h; subst e; rfl)
      | (obtain ⟨_, _, e, _⟩ := h; subst e; rfl)
      | (obtain ⟨_, _, _, e, _⟩ := h; subst e; rfl)
      | (obtain ⟨_, _, _, _, e, _⟩ := h; subst e; rfl)
      | (obtain ⟨_, _, _, _, _, e, _⟩ := h; subst e; rfl)
      | (obtain ⟨_, _, _, _, _, _, e, _⟩ := h; subst e; rfl)
      | (obtain ⟨_, _, _, _, _, _, _, e, _⟩ := h; subst e; rfl)
      | (obtain ⟨_, _, _, _, _, _, _, _, e, _⟩ := h; subst e; rfl)
      | (obtain ⟨_, _, _, _, _, _, _, _, _, e, _⟩ := h; subst e; rfl)
      | (obtain ⟨_, _, _, _, _, _, _, _, _, _, e, _⟩ := h; subst e; rfl)
      | (obtain ⟨_, _, _, _, _, _, _, _, _, _, _, e, _⟩ := h; subst e; rfl)
      | (obtain ⟨_, _, _, _, _, _, _, _, _, _, _, _, e, _⟩ := h; subst e; rfl)
      | (obtain ⟨_, _, _, _, _, _, _, _, _, _, _, _, _, e, _⟩ := h; subst e; rfl)
    · skip
      obtain ⟨p, r, rfl, hp, hr2, k⟩ := h
      cases r with
      | pair c g a b =>
        cases c with
        | low =>
          have hS : SqT K H p (.str "low" :: Leaf.args (.pair .low g a b)) := SqT.of hp
          repeat (first | refine ⟨_, rfl, _, _, _, _, rfl, rfl, hS, atI_nat (j := 0) rfl, rfl, _, rfl, iteDf (vs_ne (by decide +kernel)) ?_⟩ | refine ⟨_, rfl, _, _, _, _, rfl, rfl, hS, atI_nat (j := 0) rfl, rfl, _, rfl, iteDt rfl ?_⟩ | refine iteT ?_)
          refine ⟨_, rfl, _, _, _, _, rfl, rfl, hS, atI_nat (j := 1) rfl, ?_⟩
          refine ⟨_, rfl, _, _, _, _, rfl, rfl, hS, atI_nat (j := 2) rfl, ?_⟩
          refine ⟨_, rfl, _, _, _, _, rfl, rfl, hS, atI_nat (j := 3) rfl, ?_⟩
          exact fun x dx h1 h2 _ => ⟨x, dx, .pair .low g a b, rfl, rfl, upd_same, rfl, k _ x dx (same_made h1 h2) upd_same⟩
        | high =>
          have hS : SqT K H p (.str "high" :: Leaf.args (.pair .high g a b)) := SqT.of hp
          repeat (first | refine ⟨_, rfl, _, _, _, _, rfl, rfl, hS, atI_nat (j := 0) rfl, rfl, _, rfl, iteDf (vs_ne (by decide +kernel)) ?_⟩ | refine ⟨_, rfl, _, _, _, _, rfl, rfl, hS, atI_nat (j := 0) rfl, rfl, _, rfl, iteDt rfl ?_⟩ | refine iteT ?_)
          refine ⟨_, rfl, _, _, _, _, rfl, rfl, hS, atI_nat (j := 1) rfl, ?_⟩
          refine ⟨_, rfl, _, _, _, _, rfl, rfl, hS, atI_nat (j := 2) rfl, ?_⟩
          refine ⟨_, rfl, _, _, _, _, rfl, rfl, hS, atI_nat (j := 3) rfl, ?_⟩
          exact fun x dx h1 h2 _ => ⟨x, dx, .pair .high g a b, rfl, rfl, upd_same, rfl, k _ x dx (same_made h1 h2) upd_same⟩
        | and_ =>
          have hS : SqT K H p (.str "and" :: Leaf.args (.pair .and_ g a b)) := SqT.of hp
          repeat (first | refine ⟨_, rfl, _, _, _, _, rfl, rfl, hS, atI_nat (j := 0) rfl, rfl, _, rfl, iteDf (vs_ne (by decide +kernel)) ?_⟩ | refine ⟨_, rfl, _, _, _, _, rfl, rfl, hS, atI_nat (j := 0) rfl, rfl, _, rfl, iteDt rfl ?_⟩ | refine iteT ?_)
          refine ⟨_, rfl, _, _, _, _, rfl, rfl, hS, atI_nat (j := 1) rfl, ?_⟩
          refine ⟨_, rfl, _, _, _, _, rfl, rfl, hS, atI_nat (j := 2) rfl, ?_⟩
          refine ⟨_, rfl, _, _, _, _, rfl, rfl, hS, atI_nat (j := 3) rfl, ?_⟩
          exact fun x dx h1 h2 _ => ⟨x, dx, .pair .and_ g a b, rfl, rfl, upd_same, rfl, k _ x dx (same_made h1 h2) upd_same⟩
        | or_ =>
          have hS : SqT K H p (.str "or" :: Leaf.args (.pair .or_ g a b)) := SqT.of hp
          repeat (first | refine ⟨_, rfl, _, _, _, _, rfl, rfl, hS, atI_nat (j := 0) rfl, rfl, _, rfl, iteDf (vs_ne (by decide +kernel)) ?_⟩ | refine ⟨_, rfl, _, _, _, _, rfl, rfl, hS, atI_nat (j := 0) rfl, rfl, _, rfl, iteDt rfl ?_⟩ | refine iteT ?_)
          refine ⟨_, rfl, _, _, _, _, rfl, rfl, hS, atI_nat (j := 1) rfl, ?_⟩
          refine ⟨_, rfl, _, _, _, _, rfl, rfl, hS, atI_nat (j := 2) rfl, ?_⟩
          refine ⟨_, rfl, _, _, _, _, rfl, rfl, hS, atI_nat (j := 3) rfl, ?_⟩
          exact fun x dx h1 h2 _ => ⟨x, dx, .pair .or_ g a b, rfl, rfl, upd_same, rfl, k _ x dx (same_made h1 h2) upd_same⟩
        | unlike =>
          have hS : SqT K H p (.str "unlike" :: Leaf.args (.pair .unlike g a b)) := SqT.of hp
          repeat (first | refine ⟨_, rfl, _, _, _, _, rfl, rfl, hS, atI_nat (j := 0) rfl, rfl, _, rfl, iteDf (vs_ne (by decide +kernel)) ?_⟩ | refine ⟨_, rfl, _, _, _, _, rfl, rfl, hS, atI_nat (j := 0) rfl, rfl, _, rfl, iteDt rfl ?_⟩ | refine iteT ?_)
          refine ⟨_, rfl, _, _, _, _, rfl, rfl, hS, atI_nat (j := 1) rfl, ?_⟩
          refine ⟨_, rfl, _, _, _, _, rfl, rfl, hS, atI_nat (j := 2) rfl, ?_⟩
          refine ⟨_, rfl, _, _, _, _, rfl, rfl, hS, atI_nat (j := 3) rfl, ?_⟩
          exact fun x dx h1 h2 _ => ⟨x, dx, .pair .unlike g a b, rfl, rfl, upd_same, rfl, k _ x dx (same_made h1 h2) upd_same⟩
        | under =>
          have hS : SqT K H p (.str "under" :: Leaf.args (.pair .under g a b)) := SqT.of hp
          repeat (first | refine ⟨_, rfl, _, _, _, _, rfl, rfl, hS, atI_nat (j := 0) rfl, rfl, _, rfl, iteDf (vs_ne (by decide +kernel)) ?_⟩ | refine ⟨_, rfl, _, _, _, _, rfl, rfl, hS, atI_nat (j := 0) rfl, rfl, _, rfl, iteDt rfl ?_⟩ | refine iteT ?_)
          refine ⟨_, rfl, _, _, _, _, rfl, rfl, hS, atI_nat (j := 1) rfl, ?_⟩
          refine ⟨_, rfl, _, _, _, _, rfl, rfl, hS, atI_nat (j := 2) rfl, ?_⟩
          refine ⟨_, rfl, _, _, _, _, rfl, rfl, hS, atI_nat (j := 3) rfl, ?_⟩
          exact fun x dx h1 h2 _ => ⟨x, dx, .pair .under g a b, rfl, rfl, upd_same, rfl, k _ x dx (same_made h1 h2) upd_same⟩
      | shift c g a j =>
        cases c with
        | left =>
          have hS : SqT K H p (.str "left" :: Leaf.args (.shift .left g a j)) := SqT.of hp
          repeat (first | refine ⟨_, rfl, _, _, _, _, rfl, rfl, hS, atI_nat (j := 0) rfl, rfl, _, rfl, iteDf (vs_ne (by decide +kernel)) ?_⟩ | refine ⟨_, rfl, _, _, _, _, rfl, rfl, hS, atI_nat (j := 0) rfl, rfl, _, rfl, iteDt rfl ?_⟩ | refine iteT ?_)
          refine ⟨_, rfl, _, _, _, _, rfl, rfl, hS, atI_nat (j := 1) rfl, ?_⟩
          refine ⟨_, rfl, _, _, _, _, rfl, rfl, hS, atI_nat (j := 2) rfl, ?_⟩
          refine ⟨_, rfl, _, _, _, _, rfl, rfl, hS, atI_nat (j := 3) rfl, ?_⟩
          exact fun x dx h1 h2 _ => ⟨x, dx, .shift .left g a j, rfl, rfl, upd_same, rfl, k _ x dx (same_made h1 h2) upd_same⟩
        | right =>
          have hS : SqT K H p (.str "right" :: Leaf.args (.shift .right g a j)) := SqT.of hp
          repeat (first | refine ⟨_, rfl, _, _, _, _, rfl, rfl, hS, atI_nat (j := 0) rfl, rfl, _, rfl, iteDf (vs_ne (by decide +kernel)) ?_⟩ | refine ⟨_, rfl, _, _, _, _, rfl, rfl, hS, atI_nat (j := 0) rfl, rfl, _, rfl, iteDt rfl ?_⟩ | refine iteT ?_)
          refine ⟨_, rfl, _, _, _, _, rfl, rfl, hS, atI_nat (j := 1) rfl, ?_⟩
          refine ⟨_, rfl, _, _, _, _, rfl, rfl, hS, atI_nat (j := 2) rfl, ?_⟩
          refine ⟨_, rfl, _, _, _, _, rfl, rfl, hS, atI_nat (j := 3) rfl, ?_⟩
          exact fun x dx h1 h2 _ => ⟨x, dx, .shift .right g a j, rfl, rfl, upd_same, rfl, k _ x dx (same_made h1 h2) upd_same⟩
        | slide =>
          have hS : SqT K H p (.str "slide" :: Leaf.args (.shift .slide g a j)) := SqT.of hp
          repeat (first | refine ⟨_, rfl, _, _, _, _, rfl, rfl, hS, atI_nat (j := 0) rfl, rfl, _, rfl, iteDf (vs_ne (by decide +kernel)) ?_⟩ | refine ⟨_, rfl, _, _, _, _, rfl, rfl, hS, atI_nat (j := 0) rfl, rfl, _, rfl, iteDt rfl ?_⟩ | refine iteT ?_)
          refine ⟨_, rfl, _, _, _, _, rfl, rfl, hS, atI_nat (j := 1) rfl, ?_⟩
          refine ⟨_, rfl, _, _, _, _, rfl, rfl, hS, atI_nat (j := 2) rfl, ?_⟩
          refine ⟨_, rfl, _, _, _, _, rfl, rfl, hS, atI_nat (j := 3) rfl, ?_⟩
          exact fun x dx h1 h2 _ => ⟨x, dx, .shift .slide g a j, rfl, rfl, upd_same, rfl, k _ x dx (same_made h1 h2) upd_same⟩
      | mark ln m y =>
          have hS : SqT K H p (.str "mark" :: Leaf.args (.mark ln m y)) := SqT.of hp
          repeat (first | refine ⟨_, rfl, _, _, _, _, rfl, rfl, hS, atI_nat (j := 0) rfl, rfl, _, rfl, iteDf (vs_ne (by decide +kernel)) ?_⟩ | refine ⟨_, rfl, _, _, _, _, rfl, rfl, hS, atI_nat (j := 0) rfl, rfl, _, rfl, iteDt rfl ?_⟩ | refine iteT ?_)
          refine ⟨_, rfl, _, _, _, _, rfl, rfl, hS, atI_nat (j := 1) rfl, ?_⟩
          refine ⟨_, rfl, _, _, _, _, rfl, rfl, hS, atI_nat (j := 2) rfl, ?_⟩
          refine ⟨_, rfl, _, _, _, _, rfl, rfl, hS, atI_nat (j := 3) rfl, ?_⟩
          exact fun x dx h1 h2 _ => ⟨x, dx, .mark ln m y, rfl, rfl, upd_same, rfl, k _ x dx (same_made h1 h2) upd_same⟩
      | _ => exact hr2.elim
  exact ⟨_, fd, _, [], G, T.g__law_made_pair, F.kp, F.bindsN (fun _ _ _ _ _ _ us hl => match us, hl with | [_], _ => rfl), .nil⟩
theorem vac_f_law_made (T : Txt K mg) (n : Nat) : ∃ fd, FnOk P w K mg base CX0 n (He.fAd K df_law_made.at_) fd ["_law_row_here"] (fun _ _ _ _ => False) ∧ Binds K fd ["_law_row_here"] [] ∧ PySem.W.keepIn K (.ref (He.fAd K df_law_made.at_)) = true := by
  obtain ⟨fd, F0⟩ := T.c.d.def_ 95 (d := df_law_made) rfl
  have F : FunD K "_law_made" "_law_made" (defArgs sf_law_made) (defBody sf_law_made) (defScope sf_law_made) [] [] (He.fAd K df_law_made.at_) fd := F0
  exact ⟨fd, ⟨fun _ _ _ _ h => h.elim, fun _ _ _ _ _ _ _ _ _ _ _ _ _ h => h.elim⟩, F.bindsN (fun _ _ _ _ _ _ us hl => match us, hl with | [_], _ => rfl), F.kp⟩
def spLMade (K : PySem.W.Frag) (n : Nat) : Sp := fun vs H Q _ => ∃ (p : Addr) (d : Nd), vs = [.ref p] ∧ RowsAt Any H [.ref p] d.one ∧ d.one.depth < n ∧ d.one.cost ≤ 100000 ∧ (∃ w, d.one.Good w) ∧
  ∀ H' q, Same H H' → StepsAt K (New H) H' [.ref q] d.one → Q (.ref q) H'
theorem sc_f_law_made : FnScope ["_law_row_here", "_law_one"] ["_law_row_here"] (defScope sf_law_made) := ⟨rfl, rfl, rfl, by decide +kernel, rfl, by decide +kernel, by decide +kernel⟩
theorem law_made_succ (T : Txt K mg) {n : Nat} (M : Cal P w K mg base (n + 3) "_law_made" (spLMade K n) []) : Cal P w K mg base ((n+4)) "_law_made" (spLMade K (n + 1)) [] := by
  obtain ⟨fd, F0⟩ := T.c.d.def_ 95 (d := df_law_made) rfl
  have F : FunD K "_law_made" "_law_made" (defArgs sf_law_made) (defBody sf_law_made) (defScope sf_law_made) [] [] (He.fAd K df_law_made.at_) fd := F0
  have G : FnOk P w K mg base CX0 (n+4) (He.fAd K df_law_made.at_) fd ["_law_row_here"] (spLMade K (n + 1)) := by
    refine F.ok (CX := CX0) sc_f_law_made (fun vs H Q E h => ?_) (fun cdv A outer s H vs Q E hr h => ⟨_, PSs.nox (by exact (pss_cons (ps_if (pt_cmpR op_eq (pe_ix ix_tup (pv 0) pe_int (fun _ _ => rfl)) pe_str (nomark _)) (pss_one (ps_ret (pe_mk (mak_Turns T) hr (by omega) rfl (pa_cons (pe_ix ix_tup (pv 0) pe_int (fun _ _ => rfl)) (pa_cons (pe_lc (own := [("_law_one", 1)]) (g := gName 1) (tt := tYes) rfl sc_f_law_made.nd (pi_list (pe_ix ix_tup (pv 0) pe_int (fun _ _ => rfl))) (blkOk_by (N := ["_law_row_here", "_law_one"]) (sc := defScope sf_law_made) (by decide +kernel)) (fun _ _ _ _ _ => pg_name (i := 1) sc_f_law_made.nd rfl (Or.inl rfl)) (fun _ _ _ _ _ => pts_nil) (fun _ _ _ _ _ => (pe_c M hr (by omega) rfl (pa_cons (pv 1) pa_nil)))) pa_nil))))) pss_nil)
      (pss_cons (ps_if (pt_cmpR op_eq (pe_ix ix_tup (pv 0) pe_int (fun _ _ => rfl)) pe_str (nomark _)) (pss_one (ps_ret (pe_mk (mak_Set T) hr (by omega) rfl (pa_cons (pe_ix ix_tup (pv 0) pe_int (fun _ _ => rfl)) (pa_cons (pe_ix ix_tup (pv 0) pe_int (fun _ _ => rfl)) pa_nil))))) pss_nil)
      (pss_cons (ps_if (pt_cmpR op_eq (pe_ix ix_tup (pv 0) pe_int (fun _ _ => rfl)) pe_str (nomark _)) (pss_one (ps_ret (pe_mk (mak_Copy T) hr (by omega) rfl (pa_cons (pe_ix ix_tup (pv 0) pe_int (fun _ _ => rfl)) (pa_cons (pe_ix ix_tup (pv 0) pe_int (fun _ _ => rfl)) pa_nil))))) pss_nil)
      (pss_cons (ps_if (pt_cmpR op_eq (pe_ix ix_tup (pv 0) pe_int (fun _ _ => rfl)) pe_str (nomark _)) (pss_one (ps_ret (pe_mk (mak_Sum T) hr (by omega) rfl (pa_cons (pe_ix ix_tup (pv 0) pe_int (fun _ _ => rfl)) (pa_cons (pe_ix ix_tup (pv 0) pe_int (fun _ _ => rfl)) (pa_cons (pe_ix ix_tup (pv 0) pe_int (fun _ _ => rfl)) (pa_cons (pe_ix ix_tup (pv 0) pe_int (fun _ _ => rfl)) pa_nil))))))) pss_nil)
      (pss_cons (ps_if (pt_cmpR op_eq (pe_ix ix_tup (pv 0) pe_int (fun _ _ => rfl)) pe_str (nomark _)) (pss_one (ps_ret (pe_mk (mak_Gap T) hr (by omega) rfl (pa_cons (pe_ix ix_tup (pv 0) pe_int (fun _ _ => rfl)) (pa_cons (pe_ix ix_tup (pv 0) pe_int (fun _ _ => rfl)) (pa_cons (pe_ix ix_tup (pv 0) pe_int (fun _ _ => rfl)) (pa_cons (pe_ix ix_tup (pv 0) pe_int (fun _ _ => rfl)) pa_nil))))))) pss_nil)
      (pss_cons (ps_if (pt_cmpR op_eq (pe_ix ix_tup (pv 0) pe_int (fun _ _ => rfl)) pe_str (nomark _)) (pss_one (ps_ret (pe_mk (mak_Pick T) hr (by omega) rfl (pa_cons (pe_ix ix_tup (pv 0) pe_int (fun _ _ => rfl)) (pa_cons (pe_ix ix_tup (pv 0) pe_int (fun _ _ => rfl)) (pa_cons (pe_ix ix_tup (pv 0) pe_int (fun _ _ => rfl)) (pa_cons (pe_ix ix_tup (pv 0) pe_int (fun _ _ => rfl)) pa_nil))))))) pss_nil)
      (pss_one (ps_ret (pe_c (cal_f_law_made_pair T) hr (by omega) rfl (pa_cons (pv 0) pa_nil))))))))))), ?_⟩)
    · first
      | (obtain ⟨e, _⟩ := h; subst e; rfl)
      | (obtain ⟨_, e, _⟩ := h; subst e; rfl)
      | (obtain ⟨_, _, e, _⟩ := h; subst e; rfl)
      | (obtain ⟨_, _, _, e, _⟩ := h; subst e; rfl)
      | (obtain ⟨_, _, _, _, e, _⟩ := h; subst e; rfl)
      | (obtain ⟨_, _, _, _, _, e, _⟩ := h; subst e; rfl)
      | (obtain ⟨_, _, _, _, _, _, e, _⟩ := h; subst e; rfl)
      | (obtain ⟨_, _, _, _, _, _, _, e, _⟩ := h; subst e; rfl)
      | (obtain ⟨_, _, _, _, _, _, _, _, e, _⟩ := h; subst e; rfl)
      | (obtain ⟨_, _, _, _, _, _, _, _, _, e, _⟩ := h; subst e; rfl)
      | (obtain ⟨_, _, _, _, _, _, _, _, _, _, e, _⟩ := h; subst e; rfl)
      | (obtain ⟨_, _, _, _, _, _, _, _, _, _, _, e, _⟩ := h; subst e; rfl)
      | (obtain ⟨_, _, _, _, _, _, _, _, _, _, _, _, e, _⟩ := h; subst e; rfl)
      | (obtain ⟨_, _, _, _, _, _, _, _, _, _, _, _, _, e, _⟩ := h; subst e; rfl)
    · skip
      obtain ⟨p, d, rfl, hd, hdep, hcost, ⟨w, gd⟩, k⟩ := h
      cases d with
      | leaf r =>
        obtain ⟨⟨p', e, hp⟩, _⟩ := hd
        cases e
        have kk : ∀ x dx H', Same H H' → H' x = some (.ins (r.cl.ad K) dx r.flds) → Q (.ref x) H' := fun x dx H' s e => k H' x s ⟨⟨x, dx, rfl, e⟩, trivial⟩
        cases r with
        | set g b =>
          have hS : SqT K H p (.str "set" :: Leaf.args (.set g b)) := SqT.of hp
          repeat (first | refine ⟨_, rfl, _, _, _, _, rfl, rfl, hS, atI_nat (j := 0) rfl, rfl, _, rfl, iteDf (vs_ne (by decide +kernel)) ?_⟩ | refine ⟨_, rfl, _, _, _, _, rfl, rfl, hS, atI_nat (j := 0) rfl, rfl, _, rfl, iteDt rfl ?_⟩ | refine iteT ?_)
          refine ⟨_, rfl, _, _, _, _, rfl, rfl, hS, atI_nat (j := 1) rfl, ?_⟩
          refine ⟨_, rfl, _, _, _, _, rfl, rfl, hS, atI_nat (j := 2) rfl, ?_⟩
          exact fun x dx h1 h2 _ => ⟨x, dx, .set g b, rfl, rfl, upd_same, rfl, kk x dx _ (same_made h1 h2) upd_same⟩
        | copy g b =>
          have hS : SqT K H p (.str "copy" :: Leaf.args (.copy g b)) := SqT.of hp
          repeat (first | refine ⟨_, rfl, _, _, _, _, rfl, rfl, hS, atI_nat (j := 0) rfl, rfl, _, rfl, iteDf (vs_ne (by decide +kernel)) ?_⟩ | refine ⟨_, rfl, _, _, _, _, rfl, rfl, hS, atI_nat (j := 0) rfl, rfl, _, rfl, iteDt rfl ?_⟩ | refine iteT ?_)
          refine ⟨_, rfl, _, _, _, _, rfl, rfl, hS, atI_nat (j := 1) rfl, ?_⟩
          refine ⟨_, rfl, _, _, _, _, rfl, rfl, hS, atI_nat (j := 2) rfl, ?_⟩
          exact fun x dx h1 h2 _ => ⟨x, dx, .copy g b, rfl, rfl, upd_same, rfl, kk x dx _ (same_made h1 h2) upd_same⟩
        | carry c g y a b =>
          cases c with
          | sum =>
            have hS : SqT K H p (.str "sum" :: Leaf.args (.carry .sum g y a b)) := SqT.of hp
            repeat (first | refine ⟨_, rfl, _, _, _, _, rfl, rfl, hS, atI_nat (j := 0) rfl, rfl, _, rfl, iteDf (vs_ne (by decide +kernel)) ?_⟩ | refine ⟨_, rfl, _, _, _, _, rfl, rfl, hS, atI_nat (j := 0) rfl, rfl, _, rfl, iteDt rfl ?_⟩ | refine iteT ?_)
            refine ⟨_, rfl, _, _, _, _, rfl, rfl, hS, atI_nat (j := 1) rfl, ?_⟩
            refine ⟨_, rfl, _, _, _, _, rfl, rfl, hS, atI_nat (j := 2) rfl, ?_⟩
            refine ⟨_, rfl, _, _, _, _, rfl, rfl, hS, atI_nat (j := 3) rfl, ?_⟩
            refine ⟨_, rfl, _, _, _, _, rfl, rfl, hS, atI_nat (j := 4) rfl, ?_⟩
            exact fun x dx h1 h2 _ => ⟨x, dx, .carry .sum g y a b, rfl, rfl, upd_same, rfl, kk x dx _ (same_made h1 h2) upd_same⟩
          | gap =>
            have hS : SqT K H p (.str "gap" :: Leaf.args (.carry .gap g y a b)) := SqT.of hp
            repeat (first | refine ⟨_, rfl, _, _, _, _, rfl, rfl, hS, atI_nat (j := 0) rfl, rfl, _, rfl, iteDf (vs_ne (by decide +kernel)) ?_⟩ | refine ⟨_, rfl, _, _, _, _, rfl, rfl, hS, atI_nat (j := 0) rfl, rfl, _, rfl, iteDt rfl ?_⟩ | refine iteT ?_)
            refine ⟨_, rfl, _, _, _, _, rfl, rfl, hS, atI_nat (j := 1) rfl, ?_⟩
            refine ⟨_, rfl, _, _, _, _, rfl, rfl, hS, atI_nat (j := 2) rfl, ?_⟩
            refine ⟨_, rfl, _, _, _, _, rfl, rfl, hS, atI_nat (j := 3) rfl, ?_⟩
            refine ⟨_, rfl, _, _, _, _, rfl, rfl, hS, atI_nat (j := 4) rfl, ?_⟩
            exact fun x dx h1 h2 _ => ⟨x, dx, .carry .gap g y a b, rfl, rfl, upd_same, rfl, kk x dx _ (same_made h1 h2) upd_same⟩
        | pick g y a b =>
          have hS : SqT K H p (.str "pick" :: Leaf.args (.pick g y a b)) := SqT.of hp
          repeat (first | refine ⟨_, rfl, _, _, _, _, rfl, rfl, hS, atI_nat (j := 0) rfl, rfl, _, rfl, iteDf (vs_ne (by decide +kernel)) ?_⟩ | refine ⟨_, rfl, _, _, _, _, rfl, rfl, hS, atI_nat (j := 0) rfl, rfl, _, rfl, iteDt rfl ?_⟩ | refine iteT ?_)
          refine ⟨_, rfl, _, _, _, _, rfl, rfl, hS, atI_nat (j := 1) rfl, ?_⟩
          refine ⟨_, rfl, _, _, _, _, rfl, rfl, hS, atI_nat (j := 2) rfl, ?_⟩
          refine ⟨_, rfl, _, _, _, _, rfl, rfl, hS, atI_nat (j := 3) rfl, ?_⟩
          refine ⟨_, rfl, _, _, _, _, rfl, rfl, hS, atI_nat (j := 4) rfl, ?_⟩
          exact fun x dx h1 h2 _ => ⟨x, dx, .pick g y a b, rfl, rfl, upd_same, rfl, kk x dx _ (same_made h1 h2) upd_same⟩
        | pair c g a b =>
          cases c with
          | low =>
            have hS : SqT K H p (.str "low" :: Leaf.args (.pair .low g a b)) := SqT.of hp
            repeat (first | refine ⟨_, rfl, _, _, _, _, rfl, rfl, hS, atI_nat (j := 0) rfl, rfl, _, rfl, iteDf (vs_ne (by decide +kernel)) ?_⟩ | refine ⟨_, rfl, _, _, _, _, rfl, rfl, hS, atI_nat (j := 0) rfl, rfl, _, rfl, iteDt rfl ?_⟩ | refine iteT ?_)
            exact ⟨_, rfl, p, .pair .low g a b, rfl, hp, trivial, fun H' q dx s e => kk q dx H' s e⟩
          | high =>
            have hS : SqT K H p (.str "high" :: Leaf.args (.pair .high g a b)) := SqT.of hp
            repeat (first | refine ⟨_, rfl, _, _, _, _, rfl, rfl, hS, atI_nat (j := 0) rfl, rfl, _, rfl, iteDf (vs_ne (by decide +kernel)) ?_⟩ | refine ⟨_, rfl, _, _, _, _, rfl, rfl, hS, atI_nat (j := 0) rfl, rfl, _, rfl, iteDt rfl ?_⟩ | refine iteT ?_)
            exact ⟨_, rfl, p, .pair .high g a b, rfl, hp, trivial, fun H' q dx s e => kk q dx H' s e⟩
          | and_ =>
            have hS : SqT K H p (.str "and" :: Leaf.args (.pair .and_ g a b)) := SqT.of hp
            repeat (first | refine ⟨_, rfl, _, _, _, _, rfl, rfl, hS, atI_nat (j := 0) rfl, rfl, _, rfl, iteDf (vs_ne (by decide +kernel)) ?_⟩ | refine ⟨_, rfl, _, _, _, _, rfl, rfl, hS, atI_nat (j := 0) rfl, rfl, _, rfl, iteDt rfl ?_⟩ | refine iteT ?_)
            exact ⟨_, rfl, p, .pair .and_ g a b, rfl, hp, trivial, fun H' q dx s e => kk q dx H' s e⟩
          | or_ =>
            have hS : SqT K H p (.str "or" :: Leaf.args (.pair .or_ g a b)) := SqT.of hp
            repeat (first | refine ⟨_, rfl, _, _, _, _, rfl, rfl, hS, atI_nat (j := 0) rfl, rfl, _, rfl, iteDf (vs_ne (by decide +kernel)) ?_⟩ | refine ⟨_, rfl, _, _, _, _, rfl, rfl, hS, atI_nat (j := 0) rfl, rfl, _, rfl, iteDt rfl ?_⟩ | refine iteT ?_)
            exact ⟨_, rfl, p, .pair .or_ g a b, rfl, hp, trivial, fun H' q dx s e => kk q dx H' s e⟩
          | unlike =>
            have hS : SqT K H p (.str "unlike" :: Leaf.args (.pair .unlike g a b)) := SqT.of hp
            repeat (first | refine ⟨_, rfl, _, _, _, _, rfl, rfl, hS, atI_nat (j := 0) rfl, rfl, _, rfl, iteDf (vs_ne (by decide +kernel)) ?_⟩ | refine ⟨_, rfl, _, _, _, _, rfl, rfl, hS, atI_nat (j := 0) rfl, rfl, _, rfl, iteDt rfl ?_⟩ | refine iteT ?_)
            exact ⟨_, rfl, p, .pair .unlike g a b, rfl, hp, trivial, fun H' q dx s e => kk q dx H' s e⟩
          | under =>
            have hS : SqT K H p (.str "under" :: Leaf.args (.pair .under g a b)) := SqT.of hp
            repeat (first | refine ⟨_, rfl, _, _, _, _, rfl, rfl, hS, atI_nat (j := 0) rfl, rfl, _, rfl, iteDf (vs_ne (by decide +kernel)) ?_⟩ | refine ⟨_, rfl, _, _, _, _, rfl, rfl, hS, atI_nat (j := 0) rfl, rfl, _, rfl, iteDt rfl ?_⟩ | refine iteT ?_)
            exact ⟨_, rfl, p, .pair .under g a b, rfl, hp, trivial, fun H' q dx s e => kk q dx H' s e⟩
        | shift c g a j =>
          cases c with
          | left =>
            have hS : SqT K H p (.str "left" :: Leaf.args (.shift .left g a j)) := SqT.of hp
            repeat (first | refine ⟨_, rfl, _, _, _, _, rfl, rfl, hS, atI_nat (j := 0) rfl, rfl, _, rfl, iteDf (vs_ne (by decide +kernel)) ?_⟩ | refine ⟨_, rfl, _, _, _, _, rfl, rfl, hS, atI_nat (j := 0) rfl, rfl, _, rfl, iteDt rfl ?_⟩ | refine iteT ?_)
            exact ⟨_, rfl, p, .shift .left g a j, rfl, hp, trivial, fun H' q dx s e => kk q dx H' s e⟩
          | right =>
            have hS : SqT K H p (.str "right" :: Leaf.args (.shift .right g a j)) := SqT.of hp
            repeat (first | refine ⟨_, rfl, _, _, _, _, rfl, rfl, hS, atI_nat (j := 0) rfl, rfl, _, rfl, iteDf (vs_ne (by decide +kernel)) ?_⟩ | refine ⟨_, rfl, _, _, _, _, rfl, rfl, hS, atI_nat (j := 0) rfl, rfl, _, rfl, iteDt rfl ?_⟩ | refine iteT ?_)
            exact ⟨_, rfl, p, .shift .right g a j, rfl, hp, trivial, fun H' q dx s e => kk q dx H' s e⟩
          | slide =>
            have hS : SqT K H p (.str "slide" :: Leaf.args (.shift .slide g a j)) := SqT.of hp
            repeat (first | refine ⟨_, rfl, _, _, _, _, rfl, rfl, hS, atI_nat (j := 0) rfl, rfl, _, rfl, iteDf (vs_ne (by decide +kernel)) ?_⟩ | refine ⟨_, rfl, _, _, _, _, rfl, rfl, hS, atI_nat (j := 0) rfl, rfl, _, rfl, iteDt rfl ?_⟩ | refine iteT ?_)
            exact ⟨_, rfl, p, .shift .slide g a j, rfl, hp, trivial, fun H' q dx s e => kk q dx H' s e⟩
        | mark ln m y =>
          have hS : SqT K H p (.str "mark" :: Leaf.args (.mark ln m y)) := SqT.of hp
          repeat (first | refine ⟨_, rfl, _, _, _, _, rfl, rfl, hS, atI_nat (j := 0) rfl, rfl, _, rfl, iteDf (vs_ne (by decide +kernel)) ?_⟩ | refine ⟨_, rfl, _, _, _, _, rfl, rfl, hS, atI_nat (j := 0) rfl, rfl, _, rfl, iteDt rfl ?_⟩ | refine iteT ?_)
          exact ⟨_, rfl, p, .mark ln m y, rfl, hp, trivial, fun H' q dx s e => kk q dx H' s e⟩
      | turns nn b =>
        obtain ⟨⟨p', l, xs, e, hp, _, hl, hb⟩, _⟩ := hd
        cases e
        have hbd : b.depth < n := by
          have : max (b.depth + 1) 0 < n + 1 := hdep
          omega
        have hbc : b.cost ≤ 100000 := by
          have h1 : nn * (1 + b.cost) + 0 ≤ 100000 := hcost
          have h2 : 1 * (1 + b.cost) ≤ nn * (1 + b.cost) := Nat.mul_le_mul_right _ gd.1.1
          omega
        have hS : SqT K H p [.str "turns", .int nn, .ref l] := SqT.of hp
        repeat (first | refine ⟨_, rfl, _, _, _, _, rfl, rfl, hS, atI_nat (j := 0) rfl, rfl, _, rfl, iteDf (vs_ne (by decide +kernel)) ?_⟩ | refine ⟨_, rfl, _, _, _, _, rfl, rfl, hS, atI_nat (j := 0) rfl, rfl, _, rfl, iteDt rfl ?_⟩ | refine iteT ?_)
        refine ⟨_, rfl, _, _, _, _, rfl, rfl, hS, atI_nat (j := 1) rfl, ?_⟩
        refine ⟨_, rfl, _, _, _, _, rfl, rfl, hS, atI_nat (j := 2) rfl, ?_⟩
        refine ⟨l, rfl, ⟨xs, SqL.of hl⟩, fun D hD => ?_⟩
        refine lc_list (K := K) (a := l) (xs := xs) (fun i H' => Same H H' ∧ ∃ ys F G, H' D = some (.lst ys) ∧ F.app G = b ∧ RowsAt Any H (xs.drop i) G ∧ StepsAt K (fun a => H a = none ∧ a ≠ D) H' ys F) ?_ ?_ ?_ ?_
        · exact ⟨same_new hD, [], .nil, b, upd_same, rfl, hb, trivial⟩
        · rintro i H' _ ⟨s1, _⟩
          exact SqL.of (s1 _ _ hl)
        · rintro i x H1 hi ⟨s1, ys, F, G, hy, hFG, hG, hR⟩
          rw [drop_at hi] at hG
          obtain ⟨d, t, rfl, hd1, ht⟩ := hG.cons
          have gd1 : d.one.Good w := by
            have z := gd.2.1
            rw [← hFG, app_good] at z
            exact (fo_good z.2).1
          have dd1 : d.one.depth < n := by
            rw [← hFG, app_depth, fo_depth] at hbd
            omega
          have dc1 : d.one.cost ≤ 100000 := by
            rw [← hFG, app_cost, fo_cost] at hbc
            omega
          have yl : ys.length ≤ 100000 := by
            rw [hR.len]
            have z := len_cost b gd.2.1
            rw [← hFG, app_len] at z
            rw [← hFG] at hbc
            omega
          obtain ⟨p1, rfl⟩ : ∃ p1, x = .ref p1 := by
            cases d with
            | leaf r =>
              obtain ⟨⟨p1, e, _⟩, _⟩ := hd1
              exact ⟨p1, e⟩
            | turns m c =>
              obtain ⟨⟨p1, _, _, e, _⟩, _⟩ := hd1
              exact ⟨p1, e⟩
          walk_at "rd"
          refine ⟨p1, d, rfl, hd1.same s1, dd1, dc1, ⟨w, gd1⟩, fun H2 q s2 hq => ?_⟩
          refine ⟨ys, s2 _ _ hy, Nat.lt_of_le_of_lt yl (by decide), same_mut (s1.trans s2) hD, ys ++ [.ref q], F.app d.one, t, upd_same, ?_, ht, ?_⟩
          · rw [app_assoc, one_app]
            exact hFG
          · refine StepsAt.app (hq.mono (fun a ha => ⟨s1.free ha, fun z => ?_⟩) (kp_mut (Same.refl _) (s2 _ _ hy) fun a ha z => ?_)) (hR.mono (fun _ z => z) (kp_mut s2 hy fun a ha => ha.2))
            · rw [z] at ha
              rw [show H1 D = none from ha] at hy
              cases hy
            · rw [z] at ha
              rw [show H1 D = none from ha] at hy
              cases hy
        · rintro H1 ⟨s1, ys, F, G, hy, hFG, hG, hR⟩
          have eG := hG.end_
          subst eG
          rw [app_nil] at hFG
          subst hFG
          intro x dx h1 h2 h3
          have nD : D ≠ x := ne_of_none hy h1
          have nD2 : D ≠ dx := ne_of_none hy h2
          refine ⟨x, dx, D, nn, ys, rfl, upd_same, by rw [upd_ne nD, upd_ne nD2]; exact hy, fun H' q hq e1 e2 kp => ⟨rfl, ?_⟩⟩
          have s2 : Same H1 H' := fun c o e => kp c o (ne_of_none e h1) (by rw [upd_ne (ne_of_none e h1), upd_ne (ne_of_none e h2)]; exact e)
          have hq1 : H1 q = none := by
            cases e : H1 q with
            | none => rfl
            | some o =>
              rw [upd_ne (ne_of_none e h1), upd_ne (ne_of_none e h2), e] at hq
              cases hq
          exact k H' x (s1.trans s2) ⟨⟨x, dx, q, ys, rfl, e1, s1.free hq1, e2, hR.mono (fun _ z => z.1) (Kp.same s2)⟩, trivial⟩
  exact ⟨_, fd, _, [], G, T.g__law_made, F.kp, F.bindsN (fun _ _ _ _ _ _ us hl => match us, hl with | [_], _ => rfl), .nil⟩
theorem cal_f_law_made (T : Txt K mg) (n : Nat) : Cal P w K mg base (n + 3) "_law_made" (spLMade K n) [] := by
  induction n with
  | zero =>
    obtain ⟨fd, G, b, kp⟩ := vac_f_law_made (P := P) (w := w) (base := base) T 3
    refine ⟨_, fd, _, [], G.imp fun vs H Q E h => ?_, T.g__law_made, kp, b, .nil⟩
    obtain ⟨p, d, _, _, hd, _⟩ := h
    exact absurd hd (Nat.not_lt_zero _)
  | succ n ih => exact law_made_succ T ih
end
end K73

set_option maxHeartbeats 4000000
/-! the law's own run: one row -/
namespace K73
open PySem PySem.Spec PyProof.Rows L2
open C8 (Cal Mak Met pe_c pe_mk pe_mt pe_mt0 pe_gc)
local macro_rules | `(tactic| walk_at "rd") => `(tactic| repeat (first | refine ⟨_, rfl, ?_⟩ | refine ⟨_, _, rfl, rfl, ?_⟩ | refine ⟨_, rfl, rfl, ?_⟩ | refine ⟨_, _, rfl, ?_⟩ | refine ⟨_, _, _, rfl, ?_⟩ | refine ⟨_, _, _, _, rfl, ?_⟩ | refine And.intro rfl ?_ | refine And.intro trivial ?_ | refine And.intro (le_sz (Nat.le_of_ble_eq_true rfl)) ?_ | refine And.intro (le_sz (by omega)) ?_ | refine iteT ?_ | refine iteF ?_ | refine iteDt (by omega) ?_ | refine iteDf (by omega) ?_ | refine iteNt (by omega) ?_ | refine iteNf (by omega) ?_ | refine And.intro (by omega) ?_ | refine ⟨_, _, _, _, _, rfl, .ty _, .base (.str _), kit_ss, ?_⟩ | refine ⟨_, _, _, _, _, rfl, .ty _, .base (.lst (by assumption)), kit_ll, ?_⟩ | refine ⟨_, _, _, _, _, rfl, .ty _, .base (.dK (by assumption)), kit_dd, ?_⟩ | refine ⟨_, _, _, _, _, rfl, .ty _, .base (.tup (by assumption)), kit_tt, ?_⟩))

theorem dvw {w : Nat} (i : Int) (h : w ≤ 32) : CDivW i (2 ^ w) := by
  refine ⟨two_pos w, ?_⟩
  have e : ((2 : Int) ^ w).natAbs = 2 ^ w := by rw [Int.natAbs_pow]; rfl
  rw [e, Nat.log2_two_pow]
  omega
section
variable {P : Program} {w : World} {K : PySem.W.Frag} {mg : Str → Option Value} {base : Heap}
def spLPair : Sp := fun vs H Q _ => ∃ (c : PO) (w : Nat) (a b : Int), vs = [.str c.cl.wd, .int a, .int b, .int (2 ^ w)] ∧ (4 ≤ w ∧ w ≤ 32 ∧ 0 ≤ a ∧ a < 2 ^ w ∧ 0 ≤ b ∧ b < 2 ^ w) ∧ Q (.int (c.f w a b)) H
theorem sc_f_law_pair_word : FnScope ["_law_word_here", "_law_a", "_law_b", "_law_size"] ["_law_word_here", "_law_a", "_law_b", "_law_size"] (defScope sf_law_pair_word) := ⟨rfl, rfl, rfl, by decide +kernel, rfl, by decide +kernel, by decide +kernel⟩
theorem cal_f_law_pair_word (T : Txt K mg) : Cal P w K mg base (1) "_law_pair_word" (spLPair) [] := by
  obtain ⟨fd, F0⟩ := T.c.d.def_ 96 (d := df_law_pair_word) rfl
  have F : FunD K "_law_pair_word" "_law_pair_word" (defArgs sf_law_pair_word) (defBody sf_law_pair_word) (defScope sf_law_pair_word) [] [] (He.fAd K df_law_pair_word.at_) fd := F0
  have G : FnOk P w K mg base CX0 1 (He.fAd K df_law_pair_word.at_) fd ["_law_word_here", "_law_a", "_law_b", "_law_size"] (spLPair) := by
    refine F.ok (CX := CX0) sc_f_law_pair_word (fun vs H Q E h => ?_) (fun cdv A outer s H vs Q E hr h => ⟨_, PSs.nox (by exact (pss_cons (ps_if (pt_cmpR op_eq (pv 0) pe_str (nomark _)) (pss_one (ps_ret (pe_op op_mod (pe_op op_mul (pv 1) (pv 2)) (pv 3)))) pss_nil)
      (pss_cons (ps_if (pt_cmpR op_eq (pv 0) pe_str (nomark _)) (pss_one (ps_ret (pe_op op_fdivW (pe_op op_mul (pv 1) (pv 2)) (pv 3)))) pss_nil)
      (pss_cons (ps_if (pt_cmpR op_eq (pv 0) pe_str (nomark _)) (pss_one (ps_ret (pe_op op_and (pv 1) (pv 2)))) pss_nil)
      (pss_cons (ps_if (pt_cmpR op_eq (pv 0) pe_str (nomark _)) (pss_one (ps_ret (pe_op op_or (pv 1) (pv 2)))) pss_nil)
      (pss_cons (ps_if (pt_cmpR op_eq (pv 0) pe_str (nomark _)) (pss_one (ps_ret (pe_op op_xor (pv 1) (pv 2)))) pss_nil)
      (pss_one (ps_ret (pe_callTy call_int1 rfl T.f_int (by decide +kernel) (pa_cons (pe_cmpR op_lt (pv 1) (pv 2) (nomark _)) pa_nil)))))))))), ?_⟩)
    · first
      | (obtain ⟨e, _⟩ := h; subst e; rfl)
      | (obtain ⟨_, e, _⟩ := h; subst e; rfl)
      | (obtain ⟨_, _, e, _⟩ := h; subst e; rfl)
      | (obtain ⟨_, _, _, e, _⟩ := h; subst e; rfl)
      | (obtain ⟨_, _, _, _, e, _⟩ := h; subst e; rfl)
      | (obtain ⟨_, _, _, _, _, e, _⟩ := h; subst e; rfl)
      | (obtain ⟨_, _, _, _, _, _, e, _⟩ := h; subst e; rfl)
      | (obtain ⟨_, _, _, _, _, _, _, e, _⟩ := h; subst e; rfl)
      | (obtain ⟨_, _, _, _, _, _, _, _, e, _⟩ := h; subst e; rfl)
      | (obtain ⟨_, _, _, _, _, _, _, _, _, e, _⟩ := h; subst e; rfl)
      | (obtain ⟨_, _, _, _, _, _, _, _, _, _, e, _⟩ := h; subst e; rfl)
      | (obtain ⟨_, _, _, _, _, _, _, _, _, _, _, e, _⟩ := h; subst e; rfl)
      | (obtain ⟨_, _, _, _, _, _, _, _, _, _, _, _, e, _⟩ := h; subst e; rfl)
      | (obtain ⟨_, _, _, _, _, _, _, _, _, _, _, _, _, e, _⟩ := h; subst e; rfl)
    · skip
      obtain ⟨c, w, a, b, rfl, ⟨h4, h32, h⟩, k⟩ := h
      have p0 := two_pos w
      have cm : CMul a b := .inl ⟨by omega, lt64 h32 h.2.1⟩
      have dv := dvw (a * b) h32
      cases c with
      | low =>
        repeat (first | refine ⟨_, rfl, rfl, _, rfl, iteDf (vs_ne (by decide +kernel)) ?_⟩ | refine ⟨_, rfl, rfl, _, rfl, iteDt rfl ?_⟩ | refine iteT ?_)
        exact ⟨_, rfl, _, rfl, _, _, rfl, rfl, cm, _, rfl, _, _, rfl, rfl, p0, k⟩
      | high =>
        repeat (first | refine ⟨_, rfl, rfl, _, rfl, iteDf (vs_ne (by decide +kernel)) ?_⟩ | refine ⟨_, rfl, rfl, _, rfl, iteDt rfl ?_⟩ | refine iteT ?_)
        exact ⟨_, rfl, _, rfl, _, _, rfl, rfl, cm, _, rfl, _, _, rfl, rfl, dv, k⟩
      | and_ =>
        repeat (first | refine ⟨_, rfl, rfl, _, rfl, iteDf (vs_ne (by decide +kernel)) ?_⟩ | refine ⟨_, rfl, rfl, _, rfl, iteDt rfl ?_⟩ | refine iteT ?_)
        exact ⟨_, rfl, _, rfl, _, _, rfl, rfl, k⟩
      | or_ =>
        repeat (first | refine ⟨_, rfl, rfl, _, rfl, iteDf (vs_ne (by decide +kernel)) ?_⟩ | refine ⟨_, rfl, rfl, _, rfl, iteDt rfl ?_⟩ | refine iteT ?_)
        exact ⟨_, rfl, _, rfl, _, _, rfl, rfl, k⟩
      | unlike =>
        repeat (first | refine ⟨_, rfl, rfl, _, rfl, iteDf (vs_ne (by decide +kernel)) ?_⟩ | refine ⟨_, rfl, rfl, _, rfl, iteDt rfl ?_⟩ | refine iteT ?_)
        exact ⟨_, rfl, _, rfl, _, _, rfl, rfl, k⟩
      | under =>
        repeat (first | refine ⟨_, rfl, rfl, _, rfl, iteDf (vs_ne (by decide +kernel)) ?_⟩ | refine ⟨_, rfl, rfl, _, rfl, iteDt rfl ?_⟩ | refine iteT ?_)
        refine ⟨_, rfl, _, rfl, _, _, rfl, rfl, Or.inr ⟨_, rfl, ?_⟩⟩
        rw [b2i_eq]
        exact k
  exact ⟨_, fd, _, [], G, T.g__law_pair_word, F.kp, F.bindsN (fun _ _ _ _ _ _ us hl => match us, hl with | [_, _, _, _], _ => rfl), .nil⟩
def spLMoved : Sp := fun vs H Q _ => ∃ (c : SO) (w : Nat) (a j : Int), vs = [.str c.cl.wd, .int a, .int j, .int (2 ^ w)] ∧ (4 ≤ w ∧ w ≤ 32 ∧ 0 ≤ a ∧ a < 2 ^ w ∧ 0 ≤ j ∧ j < w) ∧ Q (.int (c.f w a j)) H
theorem sc_f_law_moved : FnScope ["_law_word_here", "_law_a", "_law_k", "_law_size"] ["_law_word_here", "_law_a", "_law_k", "_law_size"] (defScope sf_law_moved) := ⟨rfl, rfl, rfl, by decide +kernel, rfl, by decide +kernel, by decide +kernel⟩
theorem cal_f_law_moved (T : Txt K mg) : Cal P w K mg base (1) "_law_moved" (spLMoved) [] := by
  obtain ⟨fd, F0⟩ := T.c.d.def_ 97 (d := df_law_moved) rfl
  have F : FunD K "_law_moved" "_law_moved" (defArgs sf_law_moved) (defBody sf_law_moved) (defScope sf_law_moved) [] [] (He.fAd K df_law_moved.at_) fd := F0
  have G : FnOk P w K mg base CX0 1 (He.fAd K df_law_moved.at_) fd ["_law_word_here", "_law_a", "_law_k", "_law_size"] (spLMoved) := by
    refine F.ok (CX := CX0) sc_f_law_moved (fun vs H Q E h => ?_) (fun cdv A outer s H vs Q E hr h => ⟨_, PSs.nox (by exact (pss_cons (ps_if (pt_cmpR op_eq (pv 0) pe_str (nomark _)) (pss_one (ps_ret (pe_op op_mod (pe_op op_mul (pv 1) (pe_op op_oneShl pe_int (pv 2))) (pv 3)))) pss_nil)
      (pss_cons (ps_if (pt_cmpR op_eq (pv 0) pe_str (nomark _)) (pss_one (ps_ret (pe_op op_fdivW (pv 1) (pe_op op_oneShl pe_int (pv 2))))) pss_nil)
      (pss_one (ps_ret (pe_op op_mod (pe_op op_fdivW (pe_op op_sub (pv 1) (pe_op op_mul (pv 3) (pe_callTy call_int1 rfl T.f_int (by decide +kernel) (pa_cons (pe_cmpR op_ge (pe_op op_mul pe_int (pv 1)) (pv 3) (nomark _)) pa_nil)))) (pe_op op_oneShl pe_int (pv 2))) (pv 3))))))), ?_⟩)
    · first
      | (obtain ⟨e, _⟩ := h; subst e; rfl)
      | (obtain ⟨_, e, _⟩ := h; subst e; rfl)
      | (obtain ⟨_, _, e, _⟩ := h; subst e; rfl)
      | (obtain ⟨_, _, _, e, _⟩ := h; subst e; rfl)
      | (obtain ⟨_, _, _, _, e, _⟩ := h; subst e; rfl)
      | (obtain ⟨_, _, _, _, _, e, _⟩ := h; subst e; rfl)
      | (obtain ⟨_, _, _, _, _, _, e, _⟩ := h; subst e; rfl)
      | (obtain ⟨_, _, _, _, _, _, _, e, _⟩ := h; subst e; rfl)
      | (obtain ⟨_, _, _, _, _, _, _, _, e, _⟩ := h; subst e; rfl)
      | (obtain ⟨_, _, _, _, _, _, _, _, _, e, _⟩ := h; subst e; rfl)
      | (obtain ⟨_, _, _, _, _, _, _, _, _, _, e, _⟩ := h; subst e; rfl)
      | (obtain ⟨_, _, _, _, _, _, _, _, _, _, _, e, _⟩ := h; subst e; rfl)
      | (obtain ⟨_, _, _, _, _, _, _, _, _, _, _, _, e, _⟩ := h; subst e; rfl)
      | (obtain ⟨_, _, _, _, _, _, _, _, _, _, _, _, _, e, _⟩ := h; subst e; rfl)
    · skip
      obtain ⟨c, w, a, j, rfl, ⟨h4, h32, h⟩, k⟩ := h
      obtain ⟨i, rfl⟩ := Int.eq_ofNat_of_zero_le h.2.2.1
      have p0 := two_pos w
      have cm : CMul a (2 ^ i) := .inl ⟨by omega, lt64 h32 h.2.1⟩
      have hi : i ≤ 32 := by omega
      cases c with
      | left =>
        repeat (first | refine ⟨_, rfl, rfl, _, rfl, iteDf (vs_ne (by decide +kernel)) ?_⟩ | refine ⟨_, rfl, rfl, _, rfl, iteDt rfl ?_⟩ | refine iteT ?_)
        exact ⟨_, rfl, _, rfl, i, rfl, rfl, by omega, _, _, rfl, rfl, cm, _, rfl, _, _, rfl, rfl, p0, k⟩
      | right =>
        repeat (first | refine ⟨_, rfl, rfl, _, rfl, iteDf (vs_ne (by decide +kernel)) ?_⟩ | refine ⟨_, rfl, rfl, _, rfl, iteDt rfl ?_⟩ | refine iteT ?_)
        exact ⟨_, rfl, _, rfl, i, rfl, rfl, by omega, _, _, rfl, rfl, dvw _ hi, k⟩
      | slide =>
        repeat (first | refine ⟨_, rfl, rfl, _, rfl, iteDf (vs_ne (by decide +kernel)) ?_⟩ | refine ⟨_, rfl, rfl, _, rfl, iteDt rfl ?_⟩ | refine iteT ?_)
        have cm2 : CMul 2 a := .inl ⟨by decide, by decide⟩
        have cm3 : CMul (2 ^ w) (if decide (2 ^ w ≤ 2 * a) = true then 1 else 0) := .inr (by split <;> exact ⟨by decide, by decide⟩)
        have e : a - 2 ^ w * (if decide (2 ^ w ≤ 2 * a) = true then 1 else 0) = sgn w a := by
          unfold sgn
          by_cases c : (2 : Int) ^ w ≤ 2 * a
          · rw [decide_eq_true c, if_pos rfl, if_pos c]
            omega
          · rw [decide_eq_false c, if_neg (by decide), if_neg c]
            omega
        refine ⟨_, rfl, _, rfl, _, rfl, _, _, rfl, rfl, cm2, _, rfl, _, _, rfl, rfl, Or.inr ⟨_, rfl, _, _, rfl, rfl, cm3, _, _, rfl, rfl, _, rfl, i, rfl, rfl, by omega, _, _, rfl, rfl, dvw _ hi, _, rfl, _, _, rfl, rfl, p0, ?_⟩⟩
        show Q (.int ((a - 2 ^ w * (if decide (2 ^ w ≤ 2 * a) = true then 1 else 0)) / 2 ^ i % 2 ^ w)) H
        rw [e]
        exact k
  exact ⟨_, fd, _, [], G, T.g__law_moved, F.kp, F.bindsN (fun _ _ _ _ _ _ us hl => match us, hl with | [_, _, _, _], _ => rfl), .nil⟩
def spLDone : Sp := fun vs H Q _ => ∃ (p h m : Addr) (r : Leaf) (w : Nat) (kv : List (Key × V)) (mv : List V), vs = [.int (2 ^ w), .ref p, .ref h, .ref m] ∧ H p = some (.tup r.vals) ∧ DoPre w r kv h m mv H ∧ ∀ H', DoPost w r kv h m mv H H' → Q .non H'
theorem sc_f_law_done : FnScope ["_law_size", "_law_row_here", "_law_held_here", "_law_marks", "_law_at", "_law_a", "_law_b", "_law_total"] ["_law_size", "_law_row_here", "_law_held_here", "_law_marks"] (defScope sf_law_done) := ⟨rfl, rfl, rfl, by decide +kernel, rfl, by decide +kernel, by decide +kernel⟩
theorem cal_f_law_done (T : Txt K mg) : Cal P w K mg base (2) "_law_done" (spLDone) [] := by
  obtain ⟨fd, F0⟩ := T.c.d.def_ 98 (d := df_law_done) rfl
  have F : FunD K "_law_done" "_law_done" (defArgs sf_law_done) (defBody sf_law_done) (defScope sf_law_done) [] [] (He.fAd K df_law_done.at_) fd := F0
  have G : FnOk P w K mg base CX0 2 (He.fAd K df_law_done.at_) fd ["_law_size", "_law_row_here", "_law_held_here", "_law_marks"] (spLDone) := by
    refine F.ok (CX := CX0) sc_f_law_done (fun vs H Q E h => ?_) (fun cdv A outer s H vs Q E hr h => ⟨_, PSs.nox (by exact (pss_one (ps_if (pt_cmpR op_eq (pe_ix ix_tup (pv 1) pe_int (fun _ _ => rfl)) pe_str (nomark _)) (pss_one (ps_dput (hu_of hr) (pv 2) (pe_ix ix_tup (pv 1) pe_int (fun _ _ => rfl)) (pe_ix ix_tup (pv 1) pe_int (fun _ _ => rfl)) rfl)) (pss_one (ps_if (pt_cmpR op_eq (pe_ix ix_tup (pv 1) pe_int (fun _ _ => rfl)) pe_str (nomark _)) (pss_one (ps_dput (hu_of hr) (pv 2) (pe_ix ix_tup (pv 1) pe_int (fun _ _ => rfl)) (pe_dget2 (hu_of hr) (pv 2) (pe_ix ix_tup (pv 1) pe_int (fun _ _ => rfl)) pe_int ⟨rfl, rfl, rfl, rfl⟩) rfl)) (pss_one (ps_if (pt_cmpR op_eq (pe_ix ix_tup (pv 1) pe_int (fun _ _ => rfl)) pe_str (nomark _)) (pss_one (ps_if (pt_cmpR op_ne (pe_dget2 (hu_of hr) (pv 2) (pe_ix ix_tup (pv 1) pe_int (fun _ _ => rfl)) pe_int ⟨rfl, rfl, rfl, rfl⟩) pe_int (nomark _)) (pss_one (ps_expr (pe_bm PySem.F.plainAttrs_list PySem.F.slot_list_append PySem.F.type_list_append mt_append (pv 3) (pa_cons (pe_tup (pa_cons (pe_ix ix_tup (pv 1) pe_int (fun _ _ => rfl)) (pa_cons (pe_ix ix_tup (pv 1) pe_int (fun _ _ => rfl)) pa_nil))) pa_nil)))) pss_nil)) (pss_one (ps_if (pt_cmpR op_eq (pe_ix ix_tup (pv 1) pe_int (fun _ _ => rfl)) pe_str (nomark _)) (pss_cons (ps_set (i := 4) sc_f_law_done.nd rfl (Or.inl rfl) (pe_op op_add pe_int (pe_callTy call_int1 rfl T.f_int (by decide +kernel) (pa_cons (pe_cmpR op_eq (pe_dget2 (hu_of hr) (pv 2) (pe_ix ix_tup (pv 1) pe_int (fun _ _ => rfl)) pe_int ⟨rfl, rfl, rfl, rfl⟩) pe_int (nomark _)) pa_nil))))
      (pss_one (ps_dput (hu_of hr) (pv 2) (pe_ix ix_tup (pv 1) pe_int (fun _ _ => rfl)) (pe_dget2 (hu_of hr) (pv 2) (pe_ix ix_tup (pv 1) (pv 4) (fun _ _ => rfl)) pe_int ⟨rfl, rfl, rfl, rfl⟩) rfl))) (pss_one (ps_if (PW.pt (pw_or (pt_cmpR op_eq (pe_ix ix_tup (pv 1) pe_int (fun _ _ => rfl)) pe_str (nomark _)) (pw_or1 (pt_cmpR op_eq (pe_ix ix_tup (pv 1) pe_int (fun _ _ => rfl)) pe_str (nomark _))))) (pss_cons (ps_set (i := 5) sc_f_law_done.nd rfl (Or.inl rfl) (pe_dget2 (hu_of hr) (pv 2) (pe_ix ix_tup (pv 1) pe_int (fun _ _ => rfl)) pe_int ⟨rfl, rfl, rfl, rfl⟩))
      (pss_cons (ps_set (i := 6) sc_f_law_done.nd rfl (Or.inl rfl) (pe_dget2 (hu_of hr) (pv 2) (pe_ix ix_tup (pv 1) pe_int (fun _ _ => rfl)) pe_int ⟨rfl, rfl, rfl, rfl⟩))
      (pss_cons (ps_set (i := 7) sc_f_law_done.nd rfl (Or.inl rfl) (pe_op op_sub (pv 5) (pv 6)))
      (pss_cons (ps_if (pt_cmpR op_eq (pe_ix ix_tup (pv 1) pe_int (fun _ _ => rfl)) pe_str (nomark _)) (pss_one (ps_set (i := 7) sc_f_law_done.nd rfl (Or.inl rfl) (pe_op op_add (pv 5) (pv 6)))) pss_nil)
      (pss_cons (ps_dput (hu_of hr) (pv 2) (pe_ix ix_tup (pv 1) pe_int (fun _ _ => rfl)) (pe_op op_mod (pv 7) (pv 0)) rfl)
      (pss_one (ps_if (pt_cmpR op_notN (pe_ix ix_tup (pv 1) pe_int (fun _ _ => rfl)) pe_non (nomark _)) (pss_one (ps_dput (hu_of hr) (pv 2) (pe_ix ix_tup (pv 1) pe_int (fun _ _ => rfl)) (pe_callTy call_int1 rfl T.f_int (by decide +kernel) (pa_cons (pe_not (pe_chain op_le op_lt pe_int (pv 7) (pv 0))) pa_nil)) rfl)) pss_nil))))))) (pss_one (ps_if (pt_cmpR op_in_seq (pe_ix ix_tup (pv 1) pe_int (fun _ _ => rfl)) (pe_lst (pa_cons pe_str (pa_cons pe_str (pa_cons pe_str pa_nil)))) (by with_unfolding_all rfl)) (pss_one (ps_dput (hu_of hr) (pv 2) (pe_ix ix_tup (pv 1) pe_int (fun _ _ => rfl)) (pe_c (cal_f_law_moved T) hr (by omega) rfl (pa_cons (pe_ix ix_tup (pv 1) pe_int (fun _ _ => rfl)) (pa_cons (pe_dget2 (hu_of hr) (pv 2) (pe_ix ix_tup (pv 1) pe_int (fun _ _ => rfl)) pe_int ⟨rfl, rfl, rfl, rfl⟩) (pa_cons (pe_ix ix_tup (pv 1) pe_int (fun _ _ => rfl)) (pa_cons (pv 0) pa_nil))))) rfl)) (pss_one (ps_dput (hu_of hr) (pv 2) (pe_ix ix_tup (pv 1) pe_int (fun _ _ => rfl)) (pe_c (cal_f_law_pair_word T) hr (by omega) rfl (pa_cons (pe_ix ix_tup (pv 1) pe_int (fun _ _ => rfl)) (pa_cons (pe_dget2 (hu_of hr) (pv 2) (pe_ix ix_tup (pv 1) pe_int (fun _ _ => rfl)) pe_int ⟨rfl, rfl, rfl, rfl⟩) (pa_cons (pe_dget2 (hu_of hr) (pv 2) (pe_ix ix_tup (pv 1) pe_int (fun _ _ => rfl)) pe_int ⟨rfl, rfl, rfl, rfl⟩) (pa_cons (pv 0) pa_nil))))) rfl))))))))))))))), ?_⟩)
    · first
      | (obtain ⟨e, _⟩ := h; subst e; rfl)
      | (obtain ⟨_, e, _⟩ := h; subst e; rfl)
      | (obtain ⟨_, _, e, _⟩ := h; subst e; rfl)
      | (obtain ⟨_, _, _, e, _⟩ := h; subst e; rfl)
      | (obtain ⟨_, _, _, _, e, _⟩ := h; subst e; rfl)
      | (obtain ⟨_, _, _, _, _, e, _⟩ := h; subst e; rfl)
      | (obtain ⟨_, _, _, _, _, _, e, _⟩ := h; subst e; rfl)
      | (obtain ⟨_, _, _, _, _, _, _, e, _⟩ := h; subst e; rfl)
      | (obtain ⟨_, _, _, _, _, _, _, _, e, _⟩ := h; subst e; rfl)
      | (obtain ⟨_, _, _, _, _, _, _, _, _, e, _⟩ := h; subst e; rfl)
      | (obtain ⟨_, _, _, _, _, _, _, _, _, _, e, _⟩ := h; subst e; rfl)
      | (obtain ⟨_, _, _, _, _, _, _, _, _, _, _, e, _⟩ := h; subst e; rfl)
      | (obtain ⟨_, _, _, _, _, _, _, _, _, _, _, _, e, _⟩ := h; subst e; rfl)
      | (obtain ⟨_, _, _, _, _, _, _, _, _, _, _, _, _, e, _⟩ := h; subst e; rfl)
    · skip
      obtain ⟨p, h, m, r, w, kv, mv, rfl, hp, d, k⟩ := h
      have hh := d.hd
      have hl := lt_sz (Nat.le_trans d.len (by decide))
      have hget : ∀ z : Str, DGet H h (kV (Sum.inr z)) (valV kv (Sum.inr z)) := fun z => DGet.k hh
      cases r with
      | set g b =>
        have hS : SqT K H p (.str "set" :: Leaf.args (.set g b)) := SqT.of hp
        repeat (first | refine ⟨_, rfl, _, _, _, _, rfl, rfl, hS, atI_nat (j := 0) rfl, rfl, _, rfl, iteDf (vs_ne (by decide +kernel)) ?_⟩ | refine ⟨_, rfl, _, _, _, _, rfl, rfl, hS, atI_nat (j := 0) rfl, rfl, _, rfl, iteDt rfl ?_⟩ | refine iteT ?_)
        refine ⟨_, rfl, _, _, _, _, rfl, rfl, hS, atI_nat (j := 2) rfl, ?_⟩
        refine ⟨_, rfl, ?_⟩
        refine ⟨_, rfl, _, _, _, _, rfl, rfl, hS, atI_nat (j := 1) rfl, ?_⟩
        exact ⟨h, _, rfl, DPut.k (k := Sum.inr g) hh hl, k _ (d.post (Same.refl _) rfl)⟩
      | copy g a =>
        have hS : SqT K H p (.str "copy" :: Leaf.args (.copy g a)) := SqT.of hp
        repeat (first | refine ⟨_, rfl, _, _, _, _, rfl, rfl, hS, atI_nat (j := 0) rfl, rfl, _, rfl, iteDf (vs_ne (by decide +kernel)) ?_⟩ | refine ⟨_, rfl, _, _, _, _, rfl, rfl, hS, atI_nat (j := 0) rfl, rfl, _, rfl, iteDt rfl ?_⟩ | refine iteT ?_)
        refine ⟨_, rfl, h, rfl, .inl ⟨_, .inl hh⟩, ?_⟩
        refine ⟨_, rfl, _, _, _, _, rfl, rfl, hS, atI_nat (j := 2) rfl, ?_⟩
        refine ⟨_, hget a, ?_⟩
        rw [d.wk.get a]
        refine ⟨_, rfl, ?_⟩
        refine ⟨_, rfl, _, _, _, _, rfl, rfl, hS, atI_nat (j := 1) rfl, ?_⟩
        exact ⟨h, _, rfl, DPut.k (k := Sum.inr g) hh hl, k _ (d.post (Same.refl _) rfl)⟩
      | mark ln mk y =>
        have hS : SqT K H p (.str "mark" :: Leaf.args (.mark ln mk y)) := SqT.of hp
        repeat (first | refine ⟨_, rfl, _, _, _, _, rfl, rfl, hS, atI_nat (j := 0) rfl, rfl, _, rfl, iteDf (vs_ne (by decide +kernel)) ?_⟩ | refine ⟨_, rfl, _, _, _, _, rfl, rfl, hS, atI_nat (j := 0) rfl, rfl, _, rfl, iteDt rfl ?_⟩ | refine iteT ?_)
        refine ⟨_, rfl, h, rfl, .inl ⟨_, .inl hh⟩, ?_⟩
        refine ⟨_, rfl, _, _, _, _, rfl, rfl, hS, atI_nat (j := 3) rfl, ?_⟩
        refine ⟨_, hget y, ?_⟩
        rw [d.wk.get y]
        refine ⟨rfl, _, rfl, iteND (fun c => ?_) (fun c => ?_)⟩
        · have c1 : ¬ getI kv y = 0 := fun z => c (congrArg V.int z)
          refine ⟨_, rfl, .inl ⟨rfl, _, SqL.of d.mks⟩, ?_⟩
          refine ⟨_, rfl, _, _, _, _, rfl, rfl, hS, atI_nat (j := 1) rfl, ?_⟩
          refine ⟨_, rfl, _, _, _, _, rfl, rfl, hS, atI_nat (j := 2) rfl, ?_⟩
          refine ⟨le_sz (Nat.le_of_ble_eq_true rfl), fun q hq => ?_⟩
          have s1 : Same H (upd H q (.tup [.int ln, .str mk])) := same_new hq
          have nq : q ≠ m := (ne_of_none d.mks hq).symm
          refine ⟨m, _, _, rfl, rfl, s1 _ _ d.mks, lt_sz (Nat.le_trans d.mlen (by decide)), ?_⟩
          refine k _ ⟨?_, ⟨[.ref q], upd_same, ?_⟩, fun b o h1 h2 e => ?_⟩
          · rw [upd_ne d.ne.symm]
            exact s1 _ _ hh
          · rw [show Leaf.mks kv (.mark ln mk y) = [(ln, mk)] from if_neg c1]
            exact ⟨⟨q, rfl, by rw [upd_ne nq]; exact upd_same⟩, True.intro⟩
          · rw [upd_ne h2]
            exact s1 _ _ e
        · have c1 : getI kv y = 0 := V.int.inj c
          refine k _ ⟨hh, ⟨[], by rw [List.append_nil]; exact d.mks, ?_⟩, fun b o _ _ e => e⟩
          rw [show Leaf.mks kv (.mark ln mk y) = [] from if_pos c1]
          exact True.intro
      | pick g y a b =>
        have hS : SqT K H p (.str "pick" :: Leaf.args (.pick g y a b)) := SqT.of hp
        repeat (first | refine ⟨_, rfl, _, _, _, _, rfl, rfl, hS, atI_nat (j := 0) rfl, rfl, _, rfl, iteDf (vs_ne (by decide +kernel)) ?_⟩ | refine ⟨_, rfl, _, _, _, _, rfl, rfl, hS, atI_nat (j := 0) rfl, rfl, _, rfl, iteDt rfl ?_⟩ | refine iteT ?_)
        refine ⟨_, rfl, h, rfl, .inl ⟨_, .inl hh⟩, ?_⟩
        refine ⟨_, rfl, _, _, _, _, rfl, rfl, hS, atI_nat (j := 2) rfl, ?_⟩
        refine ⟨_, hget y, ?_⟩
        rw [d.wk.get y]
        refine ⟨rfl, Or.inr ⟨_, rfl, _, _, rfl, rfl, ?_⟩⟩
        refine ⟨_, rfl, h, rfl, .inl ⟨_, .inl hh⟩, ?_⟩
        by_cases c : getI kv y = 0
        · have e1 : (3 + (if decide (V.int (getI kv y) = V.int 0) = true then 1 else 0) : Int) = ((4 : Nat) : Int) := by
            rw [decide_eq_true (congrArg V.int c), if_pos rfl]
            rfl
          refine ⟨_, rfl, _, rfl, _, _, _, _, rfl, rfl, hS, (congrArg (atI _) e1).trans (atI_nat (j := 4) rfl), ?_⟩
          refine ⟨_, hget b, ?_⟩
          rw [d.wk.get b]
          refine ⟨_, rfl, ?_⟩
          refine ⟨_, rfl, _, _, _, _, rfl, rfl, hS, atI_nat (j := 1) rfl, ?_⟩
          have e : Leaf.put w kv (.pick g y a b) = putK kv (Sum.inr g) (.int (getI kv b)) := by
            show putK kv (Sum.inr g) (.int (if getI kv y = 0 then getI kv b else getI kv a)) = _
            rw [if_pos c]
          have z := d.post (Same.refl _) rfl
          rw [e] at z
          exact ⟨h, _, rfl, DPut.k (k := Sum.inr g) hh hl, k _ z⟩
        · have e1 : (3 + (if decide (V.int (getI kv y) = V.int 0) = true then 1 else 0) : Int) = ((3 : Nat) : Int) := by
            rw [decide_eq_false (fun z => c (V.int.inj z)), if_neg (by decide)]
            rfl
          refine ⟨_, rfl, _, rfl, _, _, _, _, rfl, rfl, hS, (congrArg (atI _) e1).trans (atI_nat (j := 3) rfl), ?_⟩
          refine ⟨_, hget a, ?_⟩
          rw [d.wk.get a]
          refine ⟨_, rfl, ?_⟩
          refine ⟨_, rfl, _, _, _, _, rfl, rfl, hS, atI_nat (j := 1) rfl, ?_⟩
          have e : Leaf.put w kv (.pick g y a b) = putK kv (Sum.inr g) (.int (getI kv a)) := by
            show putK kv (Sum.inr g) (.int (if getI kv y = 0 then getI kv b else getI kv a)) = _
            rw [if_neg c]
          have z := d.post (Same.refl _) rfl
          rw [e] at z
          exact ⟨h, _, rfl, DPut.k (k := Sum.inr g) hh hl, k _ z⟩
      | carry c g y a b =>
        have p0 := two_pos w
        have ra := d.wk.rng a
        have rb := d.wk.rng b
        have nph : p ≠ h := ne_of hp hh (by intro z; cases z)
        cases c with
        | sum =>
          have hS : SqT K H p (.str "sum" :: Leaf.args (.carry .sum g y a b)) := SqT.of hp
          repeat (first | refine ⟨_, rfl, _, _, _, _, rfl, rfl, hS, atI_nat (j := 0) rfl, rfl, _, rfl, iteDf (vs_ne (by decide +kernel)) ?_⟩ | refine ⟨_, rfl, _, _, _, _, rfl, rfl, hS, atI_nat (j := 0) rfl, rfl, _, rfl, iteDt rfl ?_⟩ | refine iteT ?_)
          refine ⟨_, rfl, h, rfl, .inl ⟨_, .inl hh⟩, ?_⟩
          refine ⟨_, rfl, _, _, _, _, rfl, rfl, hS, atI_nat (j := 3) rfl, ?_⟩
          refine ⟨_, hget a, ?_⟩
          rw [d.wk.get a]
          refine ⟨_, rfl, h, rfl, .inl ⟨_, .inl hh⟩, ?_⟩
          refine ⟨_, rfl, _, _, _, _, rfl, rfl, hS, atI_nat (j := 4) rfl, ?_⟩
          refine ⟨_, hget b, ?_⟩
          rw [d.wk.get b]
          refine ⟨_, rfl, _, rfl, _, _, rfl, rfl, ?_⟩
          repeat (first | refine ⟨_, rfl, _, _, _, _, rfl, rfl, hS, atI_nat (j := 0) rfl, rfl, _, rfl, iteDf (vs_ne (by decide +kernel)) ?_⟩ | refine ⟨_, rfl, _, _, _, _, rfl, rfl, hS, atI_nat (j := 0) rfl, rfl, _, rfl, iteDt rfl ?_⟩ | refine iteT ?_)
          refine ⟨_, rfl, _, rfl, _, _, rfl, rfl, ?_⟩
          refine ⟨_, rfl, _, rfl, _, _, rfl, rfl, p0, ?_⟩
          refine ⟨_, rfl, ?_⟩
          refine ⟨_, rfl, _, _, _, _, rfl, rfl, hS, atI_nat (j := 1) rfl, ?_⟩
          refine ⟨h, _, rfl, DPut.k (k := Sum.inr g) hh hl, ?_⟩
          have hp1 : (upd H h (.dK (putK kv (Sum.inr g) (.int ((getI kv a + getI kv b) % 2 ^ w))))) p = some (.tup (.str "sum" :: Leaf.args (.carry .sum g y a b))) := by rw [upd_ne nph]; exact hp
          have hS1 := SqT.of (K := K) hp1
          cases y with
          | none =>
            refine ⟨_, rfl, _, _, _, _, rfl, rfl, hS1, atI_nat (j := 2) rfl, ?_⟩
            exact ⟨rfl, _, rfl, iteF (k _ (d.post (Same.refl _) rfl))⟩
          | some y =>
            refine ⟨_, rfl, _, _, _, _, rfl, rfl, hS1, atI_nat (j := 2) rfl, ?_⟩
            refine ⟨rfl, _, rfl, iteT ?_⟩
            have hl2 : (putK kv (Sum.inr g) (V.int ((getI kv a + getI kv b) % 2 ^ w))).length < sizeLine := lt_sz (by have := length_putK kv (Sum.inr g) (V.int ((getI kv a + getI kv b) % 2 ^ w)); have := d.len; omega)
            refine ⟨_, rfl, _, _, rfl, rfl, _, rfl, iteDt (by omega) ⟨_, rfl, _, _, rfl, rfl, _, rfl, Or.inr ⟨_, rfl, ?_⟩⟩⟩
            refine ⟨_, rfl, ?_⟩
            refine ⟨_, rfl, _, _, _, _, rfl, rfl, hS1, atI_nat (j := 2) rfl, ?_⟩
            refine ⟨h, _, rfl, DPut.k (k := Sum.inr y) upd_same hl2, ?_⟩
            rw [upd_upd]
            refine k _ ?_
            have z := d.post (Same.refl H) rfl
            have e : (if (!decide (getI kv a + getI kv b < 2 ^ w)) = true then 1 else 0 : Int) = if 2 ^ w ≤ getI kv a + getI kv b then 1 else 0 := by
              by_cases c : getI kv a + getI kv b < 2 ^ w
              · rw [decide_eq_true c, if_neg (by decide), if_neg (by omega)]
              · rw [decide_eq_false c, if_pos (show (!false) = true from rfl), if_pos (by omega)]
            have e2 : Leaf.put w kv (.carry .sum g (some y) a b) = putK (putK kv (Sum.inr g) (.int ((getI kv a + getI kv b) % 2 ^ w))) (Sum.inr y) (.int (if (!decide (getI kv a + getI kv b < 2 ^ w)) = true then 1 else 0)) := by
              rw [e]
              rfl
            rw [e2] at z
            exact z
        | gap =>
          have hS : SqT K H p (.str "gap" :: Leaf.args (.carry .gap g y a b)) := SqT.of hp
          repeat (first | refine ⟨_, rfl, _, _, _, _, rfl, rfl, hS, atI_nat (j := 0) rfl, rfl, _, rfl, iteDf (vs_ne (by decide +kernel)) ?_⟩ | refine ⟨_, rfl, _, _, _, _, rfl, rfl, hS, atI_nat (j := 0) rfl, rfl, _, rfl, iteDt rfl ?_⟩ | refine iteT ?_)
          refine ⟨_, rfl, h, rfl, .inl ⟨_, .inl hh⟩, ?_⟩
          refine ⟨_, rfl, _, _, _, _, rfl, rfl, hS, atI_nat (j := 3) rfl, ?_⟩
          refine ⟨_, hget a, ?_⟩
          rw [d.wk.get a]
          refine ⟨_, rfl, h, rfl, .inl ⟨_, .inl hh⟩, ?_⟩
          refine ⟨_, rfl, _, _, _, _, rfl, rfl, hS, atI_nat (j := 4) rfl, ?_⟩
          refine ⟨_, hget b, ?_⟩
          rw [d.wk.get b]
          refine ⟨_, rfl, _, rfl, _, _, rfl, rfl, ?_⟩
          repeat (first | refine ⟨_, rfl, _, _, _, _, rfl, rfl, hS, atI_nat (j := 0) rfl, rfl, _, rfl, iteDf (vs_ne (by decide +kernel)) ?_⟩ | refine ⟨_, rfl, _, _, _, _, rfl, rfl, hS, atI_nat (j := 0) rfl, rfl, _, rfl, iteDt rfl ?_⟩ | refine iteT ?_)
          refine ⟨_, rfl, _, rfl, _, _, rfl, rfl, p0, ?_⟩
          refine ⟨_, rfl, ?_⟩
          refine ⟨_, rfl, _, _, _, _, rfl, rfl, hS, atI_nat (j := 1) rfl, ?_⟩
          refine ⟨h, _, rfl, DPut.k (k := Sum.inr g) hh hl, ?_⟩
          have hp1 : (upd H h (.dK (putK kv (Sum.inr g) (.int ((getI kv a - getI kv b) % 2 ^ w))))) p = some (.tup (.str "gap" :: Leaf.args (.carry .gap g y a b))) := by rw [upd_ne nph]; exact hp
          have hS1 := SqT.of (K := K) hp1
          cases y with
          | none =>
            refine ⟨_, rfl, _, _, _, _, rfl, rfl, hS1, atI_nat (j := 2) rfl, ?_⟩
            exact ⟨rfl, _, rfl, iteF (k _ (d.post (Same.refl _) rfl))⟩
          | some y =>
            refine ⟨_, rfl, _, _, _, _, rfl, rfl, hS1, atI_nat (j := 2) rfl, ?_⟩
            refine ⟨rfl, _, rfl, iteT ?_⟩
            have z := d.post (Same.refl H) rfl
            have hl2 : (putK kv (Sum.inr g) (V.int ((getI kv a - getI kv b) % 2 ^ w))).length < sizeLine := lt_sz (by have := length_putK kv (Sum.inr g) (V.int ((getI kv a - getI kv b) % 2 ^ w)); have := d.len; omega)
            refine ⟨_, rfl, _, _, rfl, rfl, _, rfl, iteD (fun c0 => ?_) (fun c0 => ?_)⟩
            · refine ⟨_, rfl, _, _, rfl, rfl, _, rfl, Or.inr ⟨_, rfl, ?_⟩⟩
              refine ⟨_, rfl, ?_⟩
              refine ⟨_, rfl, _, _, _, _, rfl, rfl, hS1, atI_nat (j := 2) rfl, ?_⟩
              refine ⟨h, _, rfl, DPut.k (k := Sum.inr y) upd_same hl2, ?_⟩
              rw [upd_upd]
              refine k _ ?_
              have e2 : Leaf.put w kv (.carry .gap g (some y) a b) = putK (putK kv (Sum.inr g) (.int ((getI kv a - getI kv b) % 2 ^ w))) (Sum.inr y) (.int (if (!decide (getI kv a - getI kv b < 2 ^ w)) = true then 1 else 0)) := by
                rw [decide_eq_true (show getI kv a - getI kv b < 2 ^ w by omega), if_neg (by decide)]
                show putK (putK kv (Sum.inr g) (.int ((getI kv a - getI kv b) % 2 ^ w))) (Sum.inr y) (.int (if getI kv a < getI kv b then 1 else 0)) = _
                rw [if_neg (by omega)]
              rw [e2] at z
              exact z
            · refine ⟨_, rfl, Or.inr ⟨_, rfl, ?_⟩⟩
              refine ⟨_, rfl, ?_⟩
              refine ⟨_, rfl, _, _, _, _, rfl, rfl, hS1, atI_nat (j := 2) rfl, ?_⟩
              refine ⟨h, _, rfl, DPut.k (k := Sum.inr y) upd_same hl2, ?_⟩
              rw [upd_upd]
              refine k _ ?_
              have e2 : Leaf.put w kv (.carry .gap g (some y) a b) = putK (putK kv (Sum.inr g) (.int ((getI kv a - getI kv b) % 2 ^ w))) (Sum.inr y) (.int (if (!false) = true then 1 else 0)) := by
                show putK (putK kv (Sum.inr g) (.int ((getI kv a - getI kv b) % 2 ^ w))) (Sum.inr y) (.int (if getI kv a < getI kv b then 1 else 0)) = _
                rw [if_pos (by omega)]
                rfl
              rw [e2] at z
              exact z
      | shift c g a j =>
        have ra := d.wk.rng a
        have gj := d.good.2.2
        cases c with
        | left =>
          have hS : SqT K H p (.str "left" :: Leaf.args (.shift .left g a j)) := SqT.of hp
          repeat (first | refine ⟨_, rfl, _, _, _, _, rfl, rfl, hS, atI_nat (j := 0) rfl, rfl, _, rfl, iteDf (vs_ne (by decide +kernel)) ?_⟩ | refine ⟨_, rfl, _, _, _, _, rfl, rfl, hS, atI_nat (j := 0) rfl, rfl, _, rfl, iteDt rfl ?_⟩ | refine iteT ?_)
          refine ⟨_, rfl, _, _, _, _, rfl, rfl, hS, atI_nat (j := 0) rfl, ?_⟩
          refine ⟨le_sz (Nat.le_of_ble_eq_true rfl), fun D hD => ⟨D, _, rfl, .inl (SqL.of upd_same), rfl, rfl, _, rfl, ?_⟩⟩
          have ei : inV (V.str "left") [V.str "left", V.str "right", V.str "slide"] = true := by decide +kernel
          have sD := same_new (o := .lst [.str "left", .str "right", .str "slide"]) hD
          have hS2 : SqT K (upd H D (.lst [.str "left", .str "right", .str "slide"])) p (.str "left" :: Leaf.args (.shift .left g a j)) := SqT.of (sD _ _ hp)
          have hh2 := sD _ _ hh
          show if inV (V.str "left") [V.str "left", V.str "right", V.str "slide"] = true then _ else _
          rw [ei]
          refine iteT ?_
          refine ⟨_, rfl, _, _, _, _, rfl, rfl, hS2, atI_nat (j := 0) rfl, ?_⟩
          refine ⟨_, rfl, h, rfl, .inl ⟨_, .inl hh2⟩, ?_⟩
          refine ⟨_, rfl, _, _, _, _, rfl, rfl, hS2, atI_nat (j := 2) rfl, ?_⟩
          refine ⟨_, DGet.k (k := Sum.inr a) hh2, ?_⟩
          rw [d.wk.get a]
          refine ⟨_, rfl, _, _, _, _, rfl, rfl, hS2, atI_nat (j := 3) rfl, ?_⟩
          refine ⟨_, rfl, .left, w, getI kv a, j, rfl, ⟨d.w4, d.w32, ra.1, ra.2, gj.1, gj.2⟩, ?_⟩
          refine ⟨_, rfl, ?_⟩
          refine ⟨_, rfl, _, _, _, _, rfl, rfl, hS2, atI_nat (j := 1) rfl, ?_⟩
          exact ⟨h, _, rfl, DPut.k (k := Sum.inr g) hh2 hl, k _ (d.post sD rfl)⟩
        | right =>
          have hS : SqT K H p (.str "right" :: Leaf.args (.shift .right g a j)) := SqT.of hp
          repeat (first | refine ⟨_, rfl, _, _, _, _, rfl, rfl, hS, atI_nat (j := 0) rfl, rfl, _, rfl, iteDf (vs_ne (by decide +kernel)) ?_⟩ | refine ⟨_, rfl, _, _, _, _, rfl, rfl, hS, atI_nat (j := 0) rfl, rfl, _, rfl, iteDt rfl ?_⟩ | refine iteT ?_)
          refine ⟨_, rfl, _, _, _, _, rfl, rfl, hS, atI_nat (j := 0) rfl, ?_⟩
          refine ⟨le_sz (Nat.le_of_ble_eq_true rfl), fun D hD => ⟨D, _, rfl, .inl (SqL.of upd_same), rfl, rfl, _, rfl, ?_⟩⟩
          have ei : inV (V.str "right") [V.str "left", V.str "right", V.str "slide"] = true := by decide +kernel
          have sD := same_new (o := .lst [.str "left", .str "right", .str "slide"]) hD
          have hS2 : SqT K (upd H D (.lst [.str "left", .str "right", .str "slide"])) p (.str "right" :: Leaf.args (.shift .right g a j)) := SqT.of (sD _ _ hp)
          have hh2 := sD _ _ hh
          show if inV (V.str "right") [V.str "left", V.str "right", V.str "slide"] = true then _ else _
          rw [ei]
          refine iteT ?_
          refine ⟨_, rfl, _, _, _, _, rfl, rfl, hS2, atI_nat (j := 0) rfl, ?_⟩
          refine ⟨_, rfl, h, rfl, .inl ⟨_, .inl hh2⟩, ?_⟩
          refine ⟨_, rfl, _, _, _, _, rfl, rfl, hS2, atI_nat (j := 2) rfl, ?_⟩
          refine ⟨_, DGet.k (k := Sum.inr a) hh2, ?_⟩
          rw [d.wk.get a]
          refine ⟨_, rfl, _, _, _, _, rfl, rfl, hS2, atI_nat (j := 3) rfl, ?_⟩
          refine ⟨_, rfl, .right, w, getI kv a, j, rfl, ⟨d.w4, d.w32, ra.1, ra.2, gj.1, gj.2⟩, ?_⟩
          refine ⟨_, rfl, ?_⟩
          refine ⟨_, rfl, _, _, _, _, rfl, rfl, hS2, atI_nat (j := 1) rfl, ?_⟩
          exact ⟨h, _, rfl, DPut.k (k := Sum.inr g) hh2 hl, k _ (d.post sD rfl)⟩
        | slide =>
          have hS : SqT K H p (.str "slide" :: Leaf.args (.shift .slide g a j)) := SqT.of hp
          repeat (first | refine ⟨_, rfl, _, _, _, _, rfl, rfl, hS, atI_nat (j := 0) rfl, rfl, _, rfl, iteDf (vs_ne (by decide +kernel)) ?_⟩ | refine ⟨_, rfl, _, _, _, _, rfl, rfl, hS, atI_nat (j := 0) rfl, rfl, _, rfl, iteDt rfl ?_⟩ | refine iteT ?_)
          refine ⟨_, rfl, _, _, _, _, rfl, rfl, hS, atI_nat (j := 0) rfl, ?_⟩
          refine ⟨le_sz (Nat.le_of_ble_eq_true rfl), fun D hD => ⟨D, _, rfl, .inl (SqL.of upd_same), rfl, rfl, _, rfl, ?_⟩⟩
          have ei : inV (V.str "slide") [V.str "left", V.str "right", V.str "slide"] = true := by decide +kernel
          have sD := same_new (o := .lst [.str "left", .str "right", .str "slide"]) hD
          have hS2 : SqT K (upd H D (.lst [.str "left", .str "right", .str "slide"])) p (.str "slide" :: Leaf.args (.shift .slide g a j)) := SqT.of (sD _ _ hp)
          have hh2 := sD _ _ hh
          show if inV (V.str "slide") [V.str "left", V.str "right", V.str "slide"] = true then _ else _
          rw [ei]
          refine iteT ?_
          refine ⟨_, rfl, _, _, _, _, rfl, rfl, hS2, atI_nat (j := 0) rfl, ?_⟩
          refine ⟨_, rfl, h, rfl, .inl ⟨_, .inl hh2⟩, ?_⟩
          refine ⟨_, rfl, _, _, _, _, rfl, rfl, hS2, atI_nat (j := 2) rfl, ?_⟩
          refine ⟨_, DGet.k (k := Sum.inr a) hh2, ?_⟩
          rw [d.wk.get a]
          refine ⟨_, rfl, _, _, _, _, rfl, rfl, hS2, atI_nat (j := 3) rfl, ?_⟩
          refine ⟨_, rfl, .slide, w, getI kv a, j, rfl, ⟨d.w4, d.w32, ra.1, ra.2, gj.1, gj.2⟩, ?_⟩
          refine ⟨_, rfl, ?_⟩
          refine ⟨_, rfl, _, _, _, _, rfl, rfl, hS2, atI_nat (j := 1) rfl, ?_⟩
          exact ⟨h, _, rfl, DPut.k (k := Sum.inr g) hh2 hl, k _ (d.post sD rfl)⟩
      | pair c g a b =>
        have ra := d.wk.rng a
        have rb := d.wk.rng b
        cases c with
        | low =>
          have hS : SqT K H p (.str "low" :: Leaf.args (.pair .low g a b)) := SqT.of hp
          repeat (first | refine ⟨_, rfl, _, _, _, _, rfl, rfl, hS, atI_nat (j := 0) rfl, rfl, _, rfl, iteDf (vs_ne (by decide +kernel)) ?_⟩ | refine ⟨_, rfl, _, _, _, _, rfl, rfl, hS, atI_nat (j := 0) rfl, rfl, _, rfl, iteDt rfl ?_⟩ | refine iteT ?_)
          refine ⟨_, rfl, _, _, _, _, rfl, rfl, hS, atI_nat (j := 0) rfl, ?_⟩
          refine ⟨le_sz (Nat.le_of_ble_eq_true rfl), fun D hD => ⟨D, _, rfl, .inl (SqL.of upd_same), rfl, rfl, _, rfl, ?_⟩⟩
          have ei : inV (V.str "low") [V.str "left", V.str "right", V.str "slide"] = false := by decide +kernel
          have sD := same_new (o := .lst [.str "left", .str "right", .str "slide"]) hD
          have hS2 : SqT K (upd H D (.lst [.str "left", .str "right", .str "slide"])) p (.str "low" :: Leaf.args (.pair .low g a b)) := SqT.of (sD _ _ hp)
          have hh2 := sD _ _ hh
          show if inV (V.str "low") [V.str "left", V.str "right", V.str "slide"] = true then _ else _
          rw [ei]
          refine iteF ?_
          refine ⟨_, rfl, _, _, _, _, rfl, rfl, hS2, atI_nat (j := 0) rfl, ?_⟩
          refine ⟨_, rfl, h, rfl, .inl ⟨_, .inl hh2⟩, ?_⟩
          refine ⟨_, rfl, _, _, _, _, rfl, rfl, hS2, atI_nat (j := 2) rfl, ?_⟩
          refine ⟨_, DGet.k (k := Sum.inr a) hh2, ?_⟩
          rw [d.wk.get a]
          refine ⟨_, rfl, h, rfl, .inl ⟨_, .inl hh2⟩, ?_⟩
          refine ⟨_, rfl, _, _, _, _, rfl, rfl, hS2, atI_nat (j := 3) rfl, ?_⟩
          refine ⟨_, DGet.k (k := Sum.inr b) hh2, ?_⟩
          rw [d.wk.get b]
          refine ⟨_, rfl, .low, w, getI kv a, getI kv b, rfl, ⟨d.w4, d.w32, ra.1, ra.2, rb.1, rb.2⟩, ?_⟩
          refine ⟨_, rfl, ?_⟩
          refine ⟨_, rfl, _, _, _, _, rfl, rfl, hS2, atI_nat (j := 1) rfl, ?_⟩
          exact ⟨h, _, rfl, DPut.k (k := Sum.inr g) hh2 hl, k _ (d.post sD rfl)⟩
        | high =>
          have hS : SqT K H p (.str "high" :: Leaf.args (.pair .high g a b)) := SqT.of hp
          repeat (first | refine ⟨_, rfl, _, _, _, _, rfl, rfl, hS, atI_nat (j := 0) rfl, rfl, _, rfl, iteDf (vs_ne (by decide +kernel)) ?_⟩ | refine ⟨_, rfl, _, _, _, _, rfl, rfl, hS, atI_nat (j := 0) rfl, rfl, _, rfl, iteDt rfl ?_⟩ | refine iteT ?_)
          refine ⟨_, rfl, _, _, _, _, rfl, rfl, hS, atI_nat (j := 0) rfl, ?_⟩
          refine ⟨le_sz (Nat.le_of_ble_eq_true rfl), fun D hD => ⟨D, _, rfl, .inl (SqL.of upd_same), rfl, rfl, _, rfl, ?_⟩⟩
          have ei : inV (V.str "high") [V.str "left", V.str "right", V.str "slide"] = false := by decide +kernel
          have sD := same_new (o := .lst [.str "left", .str "right", .str "slide"]) hD
          have hS2 : SqT K (upd H D (.lst [.str "left", .str "right", .str "slide"])) p (.str "high" :: Leaf.args (.pair .high g a b)) := SqT.of (sD _ _ hp)
          have hh2 := sD _ _ hh
          show if inV (V.str "high") [V.str "left", V.str "right", V.str "slide"] = true then _ else _
          rw [ei]
          refine iteF ?_
          refine ⟨_, rfl, _, _, _, _, rfl, rfl, hS2, atI_nat (j := 0) rfl, ?_⟩
          refine ⟨_, rfl, h, rfl, .inl ⟨_, .inl hh2⟩, ?_⟩
          refine ⟨_, rfl, _, _, _, _, rfl, rfl, hS2, atI_nat (j := 2) rfl, ?_⟩
          refine ⟨_, DGet.k (k := Sum.inr a) hh2, ?_⟩
          rw [d.wk.get a]
          refine ⟨_, rfl, h, rfl, .inl ⟨_, .inl hh2⟩, ?_⟩
          refine ⟨_, rfl, _, _, _, _, rfl, rfl, hS2, atI_nat (j := 3) rfl, ?_⟩
          refine ⟨_, DGet.k (k := Sum.inr b) hh2, ?_⟩
          rw [d.wk.get b]
          refine ⟨_, rfl, .high, w, getI kv a, getI kv b, rfl, ⟨d.w4, d.w32, ra.1, ra.2, rb.1, rb.2⟩, ?_⟩
          refine ⟨_, rfl, ?_⟩
          refine ⟨_, rfl, _, _, _, _, rfl, rfl, hS2, atI_nat (j := 1) rfl, ?_⟩
          exact ⟨h, _, rfl, DPut.k (k := Sum.inr g) hh2 hl, k _ (d.post sD rfl)⟩
        | and_ =>
          have hS : SqT K H p (.str "and" :: Leaf.args (.pair .and_ g a b)) := SqT.of hp
          repeat (first | refine ⟨_, rfl, _, _, _, _, rfl, rfl, hS, atI_nat (j := 0) rfl, rfl, _, rfl, iteDf (vs_ne (by decide +kernel)) ?_⟩ | refine ⟨_, rfl, _, _, _, _, rfl, rfl, hS, atI_nat (j := 0) rfl, rfl, _, rfl, iteDt rfl ?_⟩ | refine iteT ?_)
          refine ⟨_, rfl, _, _, _, _, rfl, rfl, hS, atI_nat (j := 0) rfl, ?_⟩
          refine ⟨le_sz (Nat.le_of_ble_eq_true rfl), fun D hD => ⟨D, _, rfl, .inl (SqL.of upd_same), rfl, rfl, _, rfl, ?_⟩⟩
          have ei : inV (V.str "and") [V.str "left", V.str "right", V.str "slide"] = false := by decide +kernel
          have sD := same_new (o := .lst [.str "left", .str "right", .str "slide"]) hD
          have hS2 : SqT K (upd H D (.lst [.str "left", .str "right", .str "slide"])) p (.str "and" :: Leaf.args (.pair .and_ g a b)) := SqT.of (sD _ _ hp)
          have hh2 := sD _ _ hh
          show if inV (V.str "and") [V.str "left", V.str "right", V.str "slide"] = true then _ else _
          rw [ei]
          refine iteF ?_
          refine ⟨_, rfl, _, _, _, _, rfl, rfl, hS2, atI_nat (j := 0) rfl, ?_⟩
          refine ⟨_, rfl, h, rfl, .inl ⟨_, .inl hh2⟩, ?_⟩
          refine ⟨_, rfl, _, _, _, _, rfl, rfl, hS2, atI_nat (j := 2) rfl, ?_⟩
          refine ⟨_, DGet.k (k := Sum.inr a) hh2, ?_⟩
          rw [d.wk.get a]
          refine ⟨_, rfl, h, rfl, .inl ⟨_, .inl hh2⟩, ?_⟩
          refine ⟨_, rfl, _, _, _, _, rfl, rfl, hS2, atI_nat (j := 3) rfl, ?_⟩
          refine ⟨_, DGet.k (k := Sum.inr b) hh2, ?_⟩
          rw [d.wk.get b]
          refine ⟨_, rfl, .and_, w, getI kv a, getI kv b, rfl, ⟨d.w4, d.w32, ra.1, ra.2, rb.1, rb.2⟩, ?_⟩
          refine ⟨_, rfl, ?_⟩
          refine ⟨_, rfl, _, _, _, _, rfl, rfl, hS2, atI_nat (j := 1) rfl, ?_⟩
          exact ⟨h, _, rfl, DPut.k (k := Sum.inr g) hh2 hl, k _ (d.post sD rfl)⟩
        | or_ =>
          have hS : SqT K H p (.str "or" :: Leaf.args (.pair .or_ g a b)) := SqT.of hp
          repeat (first | refine ⟨_, rfl, _, _, _, _, rfl, rfl, hS, atI_nat (j := 0) rfl, rfl, _, rfl, iteDf (vs_ne (by decide +kernel)) ?_⟩ | refine ⟨_, rfl, _, _, _, _, rfl, rfl, hS, atI_nat (j := 0) rfl, rfl, _, rfl, iteDt rfl ?_⟩ | refine iteT ?_)
          refine ⟨_, rfl, _, _, _, _, rfl, rfl, hS, atI_nat (j := 0) rfl, ?_⟩
          refine ⟨le_sz (Nat.le_of_ble_eq_true rfl), fun D hD => ⟨D, _, rfl, .inl (SqL.of upd_same), rfl, rfl, _, rfl, ?_⟩⟩
          have ei : inV (V.str "or") [V.str "left", V.str "right", V.str "slide"] = false := by decide +kernel
          have sD := same_new (o := .lst [.str "left", .str "right", .str "slide"]) hD
          have hS2 : SqT K (upd H D (.lst [.str "left", .str "right", .str "slide"])) p (.str "or" :: Leaf.args (.pair .or_ g a b)) := SqT.of (sD _ _ hp)
          have hh2 := sD _ _ hh
          show if inV (V.str "or") [V.str "left", V.str "right", V.str "slide"] = true then _ else _
          rw [ei]
          refine iteF ?_
          refine ⟨_, rfl, _, _, _, _, rfl, rfl, hS2, atI_nat (j := 0) rfl, ?_⟩
          refine ⟨_, rfl, h, rfl, .inl ⟨_, .inl hh2⟩, ?_⟩
          refine ⟨_, rfl, _, _, _, _, rfl, rfl, hS2, atI_nat (j := 2) rfl, ?_⟩
          refine ⟨_, DGet.k (k := Sum.inr a) hh2, ?_⟩
          rw [d.wk.get a]
          refine ⟨_, rfl, h, rfl, .inl ⟨_, .inl hh2⟩, ?_⟩
          refine ⟨_, rfl, _, _, _, _, rfl, rfl, hS2, atI_nat (j := 3) rfl, ?_⟩
          refine ⟨_, DGet.k (k := Sum.inr b) hh2, ?_⟩
          rw [d.wk.get b]
          refine ⟨_, rfl, .or_, w, getI kv a, getI kv b, rfl, ⟨d.w4, d.w32, ra.1, ra.2, rb.1, rb.2⟩, ?_⟩
          refine ⟨_, rfl, ?_⟩
          refine ⟨_, rfl, _, _, _, _, rfl, rfl, hS2, atI_nat (j := 1) rfl, ?_⟩
          exact ⟨h, _, rfl, DPut.k (k := Sum.inr g) hh2 hl, k _ (d.post sD rfl)⟩
        | unlike =>
          have hS : SqT K H p (.str "unlike" :: Leaf.args (.pair .unlike g a b)) := SqT.of hp
          repeat (first | refine ⟨_, rfl, _, _, _, _, rfl, rfl, hS, atI_nat (j := 0) rfl, rfl, _, rfl, iteDf (vs_ne (by decide +kernel)) ?_⟩ | refine ⟨_, rfl, _, _, _, _, rfl, rfl, hS, atI_nat (j := 0) rfl, rfl, _, rfl, iteDt rfl ?_⟩ | refine iteT ?_)
          refine ⟨_, rfl, _, _, _, _, rfl, rfl, hS, atI_nat (j := 0) rfl, ?_⟩
          refine ⟨le_sz (Nat.le_of_ble_eq_true rfl), fun D hD => ⟨D, _, rfl, .inl (SqL.of upd_same), rfl, rfl, _, rfl, ?_⟩⟩
          have ei : inV (V.str "unlike") [V.str "left", V.str "right", V.str "slide"] = false := by decide +kernel
          have sD := same_new (o := .lst [.str "left", .str "right", .str "slide"]) hD
          have hS2 : SqT K (upd H D (.lst [.str "left", .str "right", .str "slide"])) p (.str "unlike" :: Leaf.args (.pair .unlike g a b)) := SqT.of (sD _ _ hp)
          have hh2 := sD _ _ hh
          show if inV (V.str "unlike") [V.str "left", V.str "right", V.str "slide"] = true then _ else _
          rw [ei]
          refine iteF ?_
          refine ⟨_, rfl, _, _, _, _, rfl, rfl, hS2, atI_nat (j := 0) rfl, ?_⟩
          refine ⟨_, rfl, h, rfl, .inl ⟨_, .inl hh2⟩, ?_⟩
          refine ⟨_, rfl, _, _, _, _, rfl, rfl, hS2, atI_nat (j := 2) rfl, ?_⟩
          refine ⟨_, DGet.k (k := Sum.inr a) hh2, ?_⟩
          rw [d.wk.get a]
          refine ⟨_, rfl, h, rfl, .inl ⟨_, .inl hh2⟩, ?_⟩
          refine ⟨_, rfl, _, _, _, _, rfl, rfl, hS2, atI_nat (j := 3) rfl, ?_⟩
          refine ⟨_, DGet.k (k := Sum.inr b) hh2, ?_⟩
          rw [d.wk.get b]
          refine ⟨_, rfl, .unlike, w, getI kv a, getI kv b, rfl, ⟨d.w4, d.w32, ra.1, ra.2, rb.1, rb.2⟩, ?_⟩
          refine ⟨_, rfl, ?_⟩
          refine ⟨_, rfl, _, _, _, _, rfl, rfl, hS2, atI_nat (j := 1) rfl, ?_⟩
          exact ⟨h, _, rfl, DPut.k (k := Sum.inr g) hh2 hl, k _ (d.post sD rfl)⟩
        | under =>
          have hS : SqT K H p (.str "under" :: Leaf.args (.pair .under g a b)) := SqT.of hp
          repeat (first | refine ⟨_, rfl, _, _, _, _, rfl, rfl, hS, atI_nat (j := 0) rfl, rfl, _, rfl, iteDf (vs_ne (by decide +kernel)) ?_⟩ | refine ⟨_, rfl, _, _, _, _, rfl, rfl, hS, atI_nat (j := 0) rfl, rfl, _, rfl, iteDt rfl ?_⟩ | refine iteT ?_)
          refine ⟨_, rfl, _, _, _, _, rfl, rfl, hS, atI_nat (j := 0) rfl, ?_⟩
          refine ⟨le_sz (Nat.le_of_ble_eq_true rfl), fun D hD => ⟨D, _, rfl, .inl (SqL.of upd_same), rfl, rfl, _, rfl, ?_⟩⟩
          have ei : inV (V.str "under") [V.str "left", V.str "right", V.str "slide"] = false := by decide +kernel
          have sD := same_new (o := .lst [.str "left", .str "right", .str "slide"]) hD
          have hS2 : SqT K (upd H D (.lst [.str "left", .str "right", .str "slide"])) p (.str "under" :: Leaf.args (.pair .under g a b)) := SqT.of (sD _ _ hp)
          have hh2 := sD _ _ hh
          show if inV (V.str "under") [V.str "left", V.str "right", V.str "slide"] = true then _ else _
          rw [ei]
          refine iteF ?_
          refine ⟨_, rfl, _, _, _, _, rfl, rfl, hS2, atI_nat (j := 0) rfl, ?_⟩
          refine ⟨_, rfl, h, rfl, .inl ⟨_, .inl hh2⟩, ?_⟩
          refine ⟨_, rfl, _, _, _, _, rfl, rfl, hS2, atI_nat (j := 2) rfl, ?_⟩
          refine ⟨_, DGet.k (k := Sum.inr a) hh2, ?_⟩
          rw [d.wk.get a]
          refine ⟨_, rfl, h, rfl, .inl ⟨_, .inl hh2⟩, ?_⟩
          refine ⟨_, rfl, _, _, _, _, rfl, rfl, hS2, atI_nat (j := 3) rfl, ?_⟩
          refine ⟨_, DGet.k (k := Sum.inr b) hh2, ?_⟩
          rw [d.wk.get b]
          refine ⟨_, rfl, .under, w, getI kv a, getI kv b, rfl, ⟨d.w4, d.w32, ra.1, ra.2, rb.1, rb.2⟩, ?_⟩
          refine ⟨_, rfl, ?_⟩
          refine ⟨_, rfl, _, _, _, _, rfl, rfl, hS2, atI_nat (j := 1) rfl, ?_⟩
          exact ⟨h, _, rfl, DPut.k (k := Sum.inr g) hh2 hl, k _ (d.post sD rfl)⟩
  exact ⟨_, fd, _, [], G, T.g__law_done, F.kp, F.bindsN (fun _ _ _ _ _ _ us hl => match us, hl with | [_, _, _, _], _ => rfl), .nil⟩
end
end K73

set_option maxHeartbeats 4000000
/-! the law's own run -/
namespace K73
open PySem PySem.Spec PyProof.Rows L2
open C8 (Cal Mak Met pe_c pe_mk pe_mt pe_mt0 pe_gc)
local macro_rules | `(tactic| walk_at "rd") => `(tactic| repeat (first | refine ⟨_, rfl, ?_⟩ | refine ⟨_, _, rfl, rfl, ?_⟩ | refine ⟨_, rfl, rfl, ?_⟩ | refine ⟨_, _, rfl, ?_⟩ | refine ⟨_, _, _, rfl, ?_⟩ | refine ⟨_, _, _, _, rfl, ?_⟩ | refine And.intro rfl ?_ | refine And.intro trivial ?_ | refine And.intro (le_sz (Nat.le_of_ble_eq_true rfl)) ?_ | refine And.intro (le_sz (by omega)) ?_ | refine iteT ?_ | refine iteF ?_ | refine iteDt (by omega) ?_ | refine iteDf (by omega) ?_ | refine iteNt (by omega) ?_ | refine iteNf (by omega) ?_ | refine And.intro (by omega) ?_ | refine ⟨_, _, _, _, _, rfl, .ty _, .base (.str _), kit_ss, ?_⟩ | refine ⟨_, _, _, _, _, rfl, .ty _, .base (.lst (by assumption)), kit_ll, ?_⟩ | refine ⟨_, _, _, _, _, rfl, .ty _, .base (.dK (by assumption)), kit_dd, ?_⟩ | refine ⟨_, _, _, _, _, rfl, .ty _, .base (.tup (by assumption)), kit_tt, ?_⟩))

def CntAt (H : Hp) (c : Addr) (cn : Str → Int) : Prop := ∃ cv, H c = some (.dK cv) ∧ LawC cv cn
structure RnIn (G H : Hp) (h m c l : Addr) (xs : List V) (F : Fo) (w : Nat) (s : Sta) : Prop where
  same : Same G H
  lst : G l = some (.lst xs)
  at_ : RowsAt Any G xs F
  w4 : 4 ≤ w
  w32 : w ≤ 32
  good : F.Good w
  gh : G h = none
  gm : G m = none
  gc : G c = none
  nhc : h ≠ c
  hd : H h = some (.dK s.kv)
  ms : MarksAt H m s.ms
  cn : CntAt H c s.cn
  wk : Wk w s.kv
  kl : s.kv.length + 2 * F.cost ≤ 10000
  ml : s.ms.length + F.cost ≤ 10000
structure RnOut (h m c : Addr) (s : Sta) (H H' : Hp) : Prop where
  hd : H' h = some (.dK s.kv)
  ms : MarksAt H' m s.ms
  cn : CntAt H' c s.cn
  kp : ∀ b o, b ≠ h → b ≠ m → b ≠ c → H b = some o → H' b = some o
theorem RnIn.sameG {G H H' : Hp} {h m c l : Addr} {xs : List V} {F : Fo} {w : Nat} {s s' : Sta} (g : RnIn G H h m c l xs F w s) (o : RnOut h m c s' H H') : Same G H' := fun b ob e =>
  o.kp b ob (fun z => by rw [z, g.gh] at e; cases e) (fun z => by rw [z, g.gm] at e; cases e) (fun z => by rw [z, g.gc] at e; cases e) (g.same b ob e)
theorem LawC.len {kv : List (Key × V)} {cn : Str → Int} (h : LawC kv cn) : kv.length ≤ 16 := putK_len_words (fun p hp => let ⟨x, h1, h2, _⟩ := h.key p hp; ⟨x, h1, h2⟩) h.nd
theorem RnOut.tick_ {h m c : Addr} {s : Sta} {H H' : Hp} (o : RnOut h m c s H H') (nhc : h ≠ c) {x : Str} (hx : x ∈ words) {cv : List (Key × V)} (hc : H' c = some (.dK cv)) (lc : LawC cv s.cn) :
    RnOut h m c ⟨s.kv, s.ms, up s.cn x⟩ H (upd H' c (.dK (putK cv (Sum.inr x) (.int (s.cn x + 1))))) := by
  obtain ⟨vs, h1, h2⟩ := o.ms
  have nmc : m ≠ c := ne_of h1 hc (by intro z; cases z)
  refine ⟨by rw [upd_ne nhc]; exact o.hd, ⟨vs, by rw [upd_ne nmc]; exact h1, h2.mono fun p xs e => ?_⟩, ⟨_, upd_same, lc.put hx⟩, fun b ob n1 n2 n3 e => by rw [upd_ne n3]; exact o.kp b ob n1 n2 n3 e⟩
  rw [upd_ne (ne_of e hc (by intro z; cases z))]
  exact e
theorem wd_not_turns (r : Leaf) : r.wd ≠ ("turns" : Str) := fun e => leaf_not_turns r (wd_inj _ _ e)
section
variable {P : Program} {w : World} {K : PySem.W.Frag} {mg : Str → Option Value} {base : Heap}
theorem vac_f_law_run (T : Txt K mg) (n : Nat) : ∃ fd, FnOk P w K mg base CX0 n (He.fAd K df_law_run.at_) fd ["_law_size", "_law_rows", "_law_held_here", "_law_marks", "_law_counts"] (fun _ _ _ _ => False) ∧ Binds K fd ["_law_size", "_law_rows", "_law_held_here", "_law_marks", "_law_counts"] [] ∧ PySem.W.keepIn K (.ref (He.fAd K df_law_run.at_)) = true := by
  obtain ⟨fd, F0⟩ := T.c.d.def_ 101 (d := df_law_run) rfl
  have F : FunD K "_law_run" "_law_run" (defArgs sf_law_run) (defBody sf_law_run) (defScope sf_law_run) [] [] (He.fAd K df_law_run.at_) fd := F0
  exact ⟨fd, ⟨fun _ _ _ _ h => h.elim, fun _ _ _ _ _ _ _ _ _ _ _ _ _ h => h.elim⟩, F.bindsN (fun _ _ _ _ _ _ us hl => match us, hl with | [_, _, _, _, _], _ => rfl), F.kp⟩
def spLRun (n : Nat) : Sp := fun vs H Q _ => ∃ (G : Hp) (h m c l : Addr) (xs : List V) (F : Fo) (w : Nat) (s : Sta), vs = [.int (2 ^ w), .ref l, .ref h, .ref m, .ref c] ∧ RnIn G H h m c l xs F w s ∧ F.depth < n ∧
  ∀ H', RnOut h m c (F.run w s) H H' → Q .non H'
theorem sc_f_law_run : FnScope ["_law_size", "_law_rows", "_law_held_here", "_law_marks", "_law_counts", "_law_row_here", "_law_turn"] ["_law_size", "_law_rows", "_law_held_here", "_law_marks", "_law_counts"] (defScope sf_law_run) := ⟨rfl, rfl, rfl, by decide +kernel, rfl, by decide +kernel, by decide +kernel⟩
theorem law_run_succ (T : Txt K mg) {n : Nat} (M : Cal P w K mg base (n + 2) "_law_run" (spLRun n) []) : Cal P w K mg base ((n+3)) "_law_run" (spLRun (n + 1)) [] := by
  obtain ⟨fd, F0⟩ := T.c.d.def_ 101 (d := df_law_run) rfl
  have F : FunD K "_law_run" "_law_run" (defArgs sf_law_run) (defBody sf_law_run) (defScope sf_law_run) [] [] (He.fAd K df_law_run.at_) fd := F0
  have G : FnOk P w K mg base CX0 (n+3) (He.fAd K df_law_run.at_) fd ["_law_size", "_law_rows", "_law_held_here", "_law_marks", "_law_counts"] (spLRun (n + 1)) := by
    refine F.ok (CX := CX0) sc_f_law_run (fun vs H Q E h => ?_) (fun cdv A outer s H vs Q E hr h => ⟨_, PSs.nox (by exact (pss_one (ps_for PassesOwn.never rfl (pi_list (pv 1)) (pg_name (i := 5) sc_f_law_run.nd rfl (Or.inl rfl)) (pss_one (ps_if (pt_cmpR op_eq (pe_ix ix_tup (pv 5) pe_int (fun _ _ => rfl)) pe_str (nomark _)) (pss_one (ps_for PassesOwn.never rfl (pi_range1 rfl T.f_range (pa_cons (pe_ix ix_tup (pv 5) pe_int (fun _ _ => rfl)) pa_nil)) (pg_name (i := 6) sc_f_law_run.nd rfl (Or.inl rfl)) (pss_cons (ps_dput (hu_of hr) (pv 4) pe_str (pe_op op_add (pe_dget2 (hu_of hr) (pv 4) pe_str pe_int ⟨rfl, rfl, rfl, rfl⟩) pe_int) rfl)
      (pss_one (ps_expr (pe_c M hr (by omega) rfl (pa_cons (pv 0) (pa_cons (pe_ix ix_tup (pv 5) pe_int (fun _ _ => rfl)) (pa_cons (pv 2) (pa_cons (pv 3) (pa_cons (pv 4) pa_nil))))))))))) (pss_cons (ps_dput (hu_of hr) (pv 4) (pe_ix ix_tup (pv 5) pe_int (fun _ _ => rfl)) (pe_op op_add (pe_dget2 (hu_of hr) (pv 4) (pe_ix ix_tup (pv 5) pe_int (fun _ _ => rfl)) pe_int ⟨rfl, rfl, rfl, rfl⟩) pe_int) rfl)
      (pss_one (ps_expr (pe_c (cal_f_law_done T) hr (by omega) rfl (pa_cons (pv 0) (pa_cons (pv 5) (pa_cons (pv 2) (pa_cons (pv 3) pa_nil))))))))))))), ?_⟩)
    · first
      | (obtain ⟨e, _⟩ := h; subst e; rfl)
      | (obtain ⟨_, e, _⟩ := h; subst e; rfl)
      | (obtain ⟨_, _, e, _⟩ := h; subst e; rfl)
      | (obtain ⟨_, _, _, e, _⟩ := h; subst e; rfl)
      | (obtain ⟨_, _, _, _, e, _⟩ := h; subst e; rfl)
      | (obtain ⟨_, _, _, _, _, e, _⟩ := h; subst e; rfl)
      | (obtain ⟨_, _, _, _, _, _, e, _⟩ := h; subst e; rfl)
      | (obtain ⟨_, _, _, _, _, _, _, e, _⟩ := h; subst e; rfl)
      | (obtain ⟨_, _, _, _, _, _, _, _, e, _⟩ := h; subst e; rfl)
      | (obtain ⟨_, _, _, _, _, _, _, _, _, e, _⟩ := h; subst e; rfl)
      | (obtain ⟨_, _, _, _, _, _, _, _, _, _, e, _⟩ := h; subst e; rfl)
      | (obtain ⟨_, _, _, _, _, _, _, _, _, _, _, e, _⟩ := h; subst e; rfl)
      | (obtain ⟨_, _, _, _, _, _, _, _, _, _, _, _, e, _⟩ := h; subst e; rfl)
      | (obtain ⟨_, _, _, _, _, _, _, _, _, _, _, _, _, e, _⟩ := h; subst e; rfl)
    · skip
      obtain ⟨G, h, m, c, l, xs, F, w, s0, rfl, g, hdep, k⟩ := h
      have hlH := g.same _ _ g.lst
      walk_at "rd"
      refine ⟨⟨xs, SqL.of hlH⟩, for_list (K := K) (a := l) (xs := xs) (fun i σ H' => ∃ (A R : Fo) (v5 v6 : Option V), σ = [some (.int (2 ^ w)), some (.ref l), some (.ref h), some (.ref m), some (.ref c), v5, v6] ∧ A.app R = F ∧ RowsAt Any G (xs.drop i) R ∧ RnOut h m c (A.run w s0) H H') ?_ ?_ ?_ ?_⟩
      · exact ⟨.nil, F, none, none, rfl, rfl, g.at_, ⟨g.hd, g.ms, g.cn, fun _ _ _ _ _ e => e⟩⟩
      · rintro i σ H' _ ⟨A, R, v5, v6, _, _, _, o⟩
        exact SqL.of (g.sameG o _ _ g.lst)
      · rintro i x σ H1 hi ⟨A, R, v5, v6, rfl, hFG, hG, o⟩
        rw [drop_at hi] at hG
        obtain ⟨d, t, rfl, hd1, ht⟩ := hG.cons
        have sG := g.sameG o
        have gd := g.good
        rw [← hFG, app_good] at gd
        have gd1 := (fo_good gd.2).1
        have dd := hdep
        rw [← hFG, app_depth, fo_depth] at dd
        have kl := g.kl
        rw [← hFG, app_cost, fo_cost] at kl
        have ml := g.ml
        rw [← hFG, app_cost, fo_cost] at ml
        have ka := run_kv w A s0
        have ma := run_ms w A s0
        have wka := run_wk (w := w) (by have := g.w4; omega) A s0 gd.1 g.wk
        obtain ⟨cv, hc, lc⟩ := o.cn
        cases d with
        | leaf r =>
          obtain ⟨⟨p1, rfl, hp1⟩, _⟩ := hd1
          have hc1 : (Nd.leaf r).one.cost = 1 := by simp [Nd.one, Nd.fo, Fo.cost]
          have hS : SqT K H1 p1 (.str r.wd :: r.args) := SqT.of (sG _ _ hp1)
          refine ⟨_, rfl, p1, _, _, _, rfl, rfl, hS, atI_nat (j := 0) rfl, rfl, _, rfl, iteDf (vs_ne (wd_not_turns r)) ?_⟩
          have o1 := o.tick_ g.nhc (wd_mem r.cl) hc lc
          refine ⟨_, rfl, c, rfl, .inl ⟨_, .inl hc⟩, _, rfl, p1, _, _, _, rfl, rfl, hS, atI_nat (j := 0) rfl, _, DGet.k (k := Sum.inr r.wd) hc, ?_⟩
          rw [lc.get (wd_mem r.cl)]
          refine ⟨_, _, rfl, rfl, _, rfl, _, rfl, p1, _, _, _, rfl, rfl, hS, atI_nat (j := 0) rfl, c, _, rfl, DPut.k (k := Sum.inr r.wd) hc (lt_sz (by have := lc.len; omega)), ?_⟩
          obtain ⟨vs1, hm1, hm2⟩ := o1.ms
          have pre : DoPre w r (A.run w s0).kv h m vs1 (upd H1 c (.dK (putK cv (Sum.inr r.wd) (.int ((A.run w s0).cn r.wd + 1))))) := ⟨g.w4, g.w32, gd1.1, o1.hd, wka, by omega, hm1, by rw [hm2.len]; show (A.run w s0).ms.length ≤ _; omega⟩
          have npc : p1 ≠ c := ne_of (sG _ _ hp1) hc (by intro z; cases z)
          have hp3 : (upd H1 c (.dK (putK cv (Sum.inr r.wd) (.int ((A.run w s0).cn r.wd + 1))))) p1 = some (.tup r.vals) := by rw [upd_ne npc]; exact sG _ _ hp1
          refine ⟨_, rfl, _, rfl, _, rfl, _, rfl, p1, h, m, r, w, _, vs1, rfl, hp3, pre, fun H2 post => ?_⟩
          refine ⟨A.app (Nd.leaf r).one, t, some (.ref p1), v6, rfl, ?_, ht, ?_⟩
          · rw [app_assoc, one_app]
            exact hFG
          · rw [run_app]
            obtain ⟨new, hn1, hn2⟩ := post.mks
            obtain ⟨cv2, hc2, lc2⟩ := o1.cn
            refine ⟨post.hd, ⟨_, hn1, hn2.app (hm2.mono fun p ys e => ?_)⟩, ⟨cv2, ?_, lc2⟩, fun b ob h1 h2 h3 e => post.kp b ob h1 h2 (o1.kp b ob h1 h2 h3 e)⟩
            · exact post.kp p _ (ne_of e pre.hd (by intro z; cases z)) (ne_of e pre.mks (by intro z; cases z)) e
            · exact post.kp c _ g.nhc.symm (ne_of hc2 hm1 (by intro z; cases z)) hc2
        | turns nn b =>
          have hb1 : (Nd.turns nn b).one.depth = b.depth + 1 := by simp [Nd.one, Nd.fo, Fo.depth]
          have hc1 : (Nd.turns nn b).one.cost = nn * (1 + b.cost) := by simp [Nd.one, Nd.fo, Fo.cost]
          obtain ⟨⟨p1, l1, xs1, rfl, hp1, _, hl1, hb⟩, _⟩ := hd1
          have hS : SqT K H1 p1 [.str "turns", .int nn, .ref l1] := SqT.of (sG _ _ hp1)
          have hn64 : nn ≤ 64 := gd1.1.2.1
          refine ⟨_, rfl, p1, _, _, _, rfl, rfl, hS, atI_nat (j := 0) rfl, rfl, _, rfl, iteDt rfl ?_⟩
          refine ⟨_, rfl, p1, _, _, _, rfl, rfl, hS, atI_nat (j := 1) rfl, _, rfl, by omega, by omega, for_range (lo := 0) (n := (nn : Int).toNat) (fun j σ H' => ∃ (v6 : Option V), σ = [some (.int (2 ^ w)), some (.ref l), some (.ref h), some (.ref m), some (.ref c), some (.ref p1), v6] ∧ RnOut h m c (iter (fun s => b.run w (tick s)) j (A.run w s0)) H H') ⟨v6, rfl, o⟩ ?_ ?_⟩
          · rintro j σ H2 hj ⟨v6', rfl, o2⟩
            have hj2 : j < nn := by omega
            have sG2 := g.sameG o2
            obtain ⟨cv2, hc2, lc2⟩ := o2.cn
            have o3 := o2.tick_ g.nhc turns_mem hc2 lc2
            refine ⟨_, rfl, c, rfl, .inl ⟨_, .inl hc2⟩, _, DGet.k (k := Sum.inr ("turns" : Str)) hc2, ?_⟩
            rw [lc2.get turns_mem]
            refine ⟨_, _, rfl, rfl, _, rfl, c, _, rfl, DPut.k (k := Sum.inr ("turns" : Str)) hc2 (lt_sz (by have := lc2.len; omega)), ?_⟩
            have im := iter_more (w := w) (b := b) (A.run w s0) hj2
            have wk2 := iter_wk (f := fun s => b.run w (tick s)) (fun s hs => run_wk (w := w) (by have := g.w4; omega) b (tick s) gd1.2.1 hs) j (A.run w s0) wka
            have g2 : RnIn G _ h m c l1 xs1 b w (tick (iter (fun s => b.run w (tick s)) j (A.run w s0))) :=
              ⟨g.sameG o3, hl1, hb, g.w4, g.w32, gd1.2.1, g.gh, g.gm, g.gc, g.nhc, o3.hd, o3.ms, o3.cn, wk2, by show (iter (fun s => b.run w (tick s)) j (A.run w s0)).kv.length + _ ≤ _; omega, by show (iter (fun s => b.run w (tick s)) j (A.run w s0)).ms.length + _ ≤ _; omega⟩
            have hS3 := SqT.of (K := K) (g.sameG o3 _ _ hp1)
            refine ⟨_, rfl, _, rfl, p1, _, _, _, rfl, rfl, hS3, atI_nat (j := 2) rfl, _, rfl, _, rfl, _, rfl, G, h, m, c, l1, xs1, b, w, _, rfl, g2, by omega, fun H3 o4 => ?_⟩
            refine ⟨some (.int (0 + (j : Int))), rfl, ?_⟩
            rw [iter_succ]
            exact ⟨o4.hd, o4.ms, o4.cn, fun b ob h1 h2 h3 e => o4.kp b ob h1 h2 h3 (o3.kp b ob h1 h2 h3 e)⟩
          · rintro σ H2 ⟨v6', rfl, o2⟩
            refine ⟨A.app (Nd.turns nn b).one, t, some (.ref p1), v6', rfl, ?_, ht, ?_⟩
            · rw [app_assoc, one_app]
              exact hFG
            · rw [run_app]
              exact o2
      · rintro σ H1 ⟨A, R, v5, v6, rfl, hFG, hG, o⟩
        have eG := hG.end_
        subst eG
        rw [app_nil] at hFG
        subst hFG
        exact k _ o
  exact ⟨_, fd, _, [], G, T.g__law_run, F.kp, F.bindsN (fun _ _ _ _ _ _ us hl => match us, hl with | [_, _, _, _, _], _ => rfl), .nil⟩
theorem cal_f_law_run (T : Txt K mg) (n : Nat) : Cal P w K mg base (n + 2) "_law_run" (spLRun n) [] := by
  induction n with
  | zero =>
    obtain ⟨fd, G, b, kp⟩ := vac_f_law_run (P := P) (w := w) (base := base) T 2
    refine ⟨_, fd, _, [], G.imp fun vs H Q E h => ?_, T.g__law_run, kp, b, .nil⟩
    obtain ⟨G, h, m, c, l, xs, F, w, s0, _, _, hd, _⟩ := h
    exact absurd hd (Nat.not_lt_zero _)
  | succ n ih => exact law_run_succ T ih
end
end K73

set_option maxHeartbeats 4000000
/-! rules: list(d.values()), sum(d.values()), a dict against itself -/
namespace K73
open PySem PySem.Spec PyProof.Rows L2
open C8 (Cal Mak Met pe_c pe_mk pe_mt pe_mt0 pe_gc)
local macro_rules | `(tactic| walk_at "rd") => `(tactic| repeat (first | refine ⟨_, rfl, ?_⟩ | refine ⟨_, _, rfl, rfl, ?_⟩ | refine ⟨_, rfl, rfl, ?_⟩ | refine ⟨_, _, rfl, ?_⟩ | refine ⟨_, _, _, rfl, ?_⟩ | refine ⟨_, _, _, _, rfl, ?_⟩ | refine And.intro rfl ?_ | refine And.intro trivial ?_ | refine And.intro (le_sz (Nat.le_of_ble_eq_true rfl)) ?_ | refine And.intro (le_sz (by omega)) ?_ | refine iteT ?_ | refine iteF ?_ | refine iteDt (by omega) ?_ | refine iteDf (by omega) ?_ | refine iteNt (by omega) ?_ | refine iteNf (by omega) ?_ | refine And.intro (by omega) ?_ | refine ⟨_, _, _, _, _, rfl, .ty _, .base (.str _), kit_ss, ?_⟩ | refine ⟨_, _, _, _, _, rfl, .ty _, .base (.lst (by assumption)), kit_ll, ?_⟩ | refine ⟨_, _, _, _, _, rfl, .ty _, .base (.dK (by assumption)), kit_dd, ?_⟩ | refine ⟨_, _, _, _, _, rfl, .ty _, .base (.tup (by assumption)), kit_tt, ?_⟩))

theorem preSum_list : ∀ is : List Int, preSum (fun i => is.getD i 0) is.length = is.sum
  | [] => rfl
  | a :: r => by
    rw [List.length_cons, PySem.W.kdu_shift, List.sum_cons]
    show a + preSum (fun i => (a :: r).getD (i + 1) 0) r.length = _
    rw [← preSum_list r]
    rfl
def tListVals (te : TE) : TE := fun σ H Q => te σ H fun x H1 => ∃ (d : Addr) (kvs : List (Key × V)), x = .ref d ∧ H1 d = some (.dK kvs) ∧ ∀ p, H1 p = none → Q (.ref p) (upd H1 p (.lst (kvs.map (·.2))))
def tSumVals (te : TE) : TE := fun σ H Q => te σ H fun x H1 => ∃ (d : Addr) (kvs : List (Key × V)) (is : List Int), x = .ref d ∧ H1 d = some (.dK kvs) ∧ kvs.map (·.2) = is.map V.int ∧ Q (.int is.sum) H1
section
variable {X : Cx} {e : Expr} {te : TE} {p apos cpos pos : Pos}
theorem pe_listVals (hc : X.calm = true) (he : PE X e te) (hg : Gl X "list") (hm : X.mg "list" = none) (hv : bootBuiltins "list" = some (.type "list")) (hbase : attributeBase e "values" X.env (eval e X.env) = eval e X.env := by rfl) (hline : (apos.endLine == cpos.line) = true := by rfl)
    (hs : starEach [.Call (.Attribute e "values" apos) [] [] cpos] X.env = (false, eval (.Call (.Attribute e "values" apos) [] [] cpos) X.env) :: starEach [] X.env := by rfl) :
    PE X (.Call (.Name "list" p) [.Call (.Attribute e "values" apos) [] [] cpos] [] pos) (tListVals te) := by
  refine ⟨fun pins s σ H Q I hq => ?_⟩
  refine wpAny_Call_Name_kw (ld_blt I hg hm hv ?_)
  refine PyProof.Rows.callWith_type1 ?_ hs rfl
  rw [hs]
  refine Calls.spliced_cons ?_
  refine wpAny_Call_method (T := "dict") (id := "dict.values") hbase rfl hline F.plainAttrs_dict F.slot_dict_values F.type_dict_values (thn (he.run pins s σ H _ I hq) fun u s1 hh => ?_)
  obtain ⟨x, H1, I1, rx, d, kvs, ex, hd, q⟩ := hh
  subst ex
  obtain rfl : u = Value.ref d := rx
  obtain ⟨hz, hs0, vs, kv, hdo⟩ := I1.hok d _ hd
  obtain ⟨ep, hat⟩ := hdo.dictAt
  have lk : kvs.length = vs.length := Paired.length kv
  have I2 : Inv X pins σ H1 { s1 with heap := s1.heap.push { cls := .type "dict_values", data := .fields #[.ref d] } } := I1.kept (t' := s1.toks) fun b ob q => Heap.get?_push_of_some _ q
  refine ⟨hdo.typeIs, hdo.mapOf.noDict, ?_⟩
  show wpAny _ _ (callWith cpos (.builtin "dict.values") [.ref d] [] []) _ X.xe s1
  refine method_meetsIn F.slot_dict_values F.entry_dict_values rfl (PySem.evalArgs_none ⟨rfl, hdo.typeIs, F.args_dict_values_1 _, _, meets_dict_values (mixKind X.prog X.w) d hs0, ⟨vs, hdo⟩, ?_⟩)
  refine Calls.spliced_nil ?_
  refine PySem.W.kdl_call (PySem.W.kdl_values (knd := mixKind X.prog X.w) (kvs := vs) (ep := ep) (d := d) (r := s1.heap.objs.size)) (I1.ok.hd hc) ⟨⟨_, Heap.get?_push_size _ rfl, rfl, rfl⟩, hat.push _⟩ (by rw [← lk]; exact hz) fun h' tk acc c hk hS hacc => ?_
  have hl : acc.toList = vs.map (·.2) := PySem.W.kdl_vals_eq acc.toList (by rw [Array.length_toList]; exact hacc.1) fun j v e => hacc.2 j v (by rw [← Array.getElem?_toList]; exact e)
  have rv : Vals (kvs.map (·.2)) acc.toList := by
    rw [hl]
    have go : ∀ {ks : List (Key × V)} {us : List (Key × Value)}, KV ks us → Vals (ks.map (·.2)) (us.map (·.2)) := by
      intro ks us r
      unfold KV at r
      induction r with
      | nil => exact .nil
      | cons h t ih => exact .cons h.2 ih
    exact go kv
  have J := I2.laid (t' := tk) (a := (s1.heap.push { cls := .type "dict_values", data := .fields #[.ref d] }).objs.size) (o := .lst (kvs.map (·.2))) hk (Nat.le_refl _) ⟨by rw [List.length_map]; exact hz, acc.toList, c, rv, by rw [Array.toArray_toList]; exact hS⟩
  exact ⟨.ref _, _, J, rfl, q _ (I2.hok.fresh (Nat.le_refl _))⟩
theorem sum_src {prog : Program} {w : World} {A : Around} {E : Value → Shared → Prop} {s : Shared} {T : String} {r d : Addr} {n : Nat} {P : Nat → Value → Prop} {OK : Heap → Prop} {Q : Value → Shared → Prop} (K : PySem.W.KdlSrc prog w T r d n P OK) (hh : A.handled = none) (hok : OK s.heap)
    (val : Nat → Int) (hval : ∀ (i : Nat) (v : Value), P i v → ∃ t : Tok, v = Value.int (val i) t) (h : ∀ (h' : Heap) (tk : Nat) (t' : Tok), (∀ b o, s.heap.get? b = some o → h'.get? b = some o) → Q (.int (preSum val n) t') { s with heap := h', toks := tk }) :
    wpAny (model prog w) A (call (.builtin "sum") [.ref r]) Q E s := by
  refine call_sum_walkAnyS ?_
  obtain ⟨oI, St, hit, W, st⟩ := K.iter A.in1 s hh hok
  refine hit _ _ ⟨s.heap.objs.size, _, _, _, n, P, _, val, rfl, W.toS, st, fun b hb => ?_, hval, fun s' t' hm => ?_⟩
  · show b < (s.heap.push oI).objs.size
    rw [Heap.size_push]
    rcases List.mem_cons.mp hb with e | hb
    · rw [e]
      exact Nat.lt_succ_self _
    · rw [List.mem_singleton.mp hb]
      exact Nat.lt_succ_of_lt (K.there _ hok).2
  · have hk : ∀ b o, s.heap.get? b = some o → s'.heap.get? b = some o := fun b o e =>
      hm.heap b o (fun hI => absurd (Heap.lt_size e) (by rw [List.mem_singleton.mp hI]; exact Nat.lt_irrefl _)) (Heap.get?_push_of_some _ e)
    rw [Moved.eq_with hm]
    exact h s'.heap s'.toks t' hk
theorem pe_sumVals (hc : X.calm = true) (he : PE X e te) (hg : Gl X "sum") (hm : X.mg "sum" = none) (hv : bootBuiltins "sum" = some (.builtin "sum")) (hbase : attributeBase e "values" X.env (eval e X.env) = eval e X.env := by rfl) (hline : (apos.endLine == cpos.line) = true := by rfl)
    (hs : starEach [.Call (.Attribute e "values" apos) [] [] cpos] X.env = [(false, eval (.Call (.Attribute e "values" apos) [] [] cpos) X.env)] := by rfl) :
    PE X (.Call (.Name "sum" p) [.Call (.Attribute e "values" apos) [] [] cpos] [] pos) (tSumVals te) := by
  refine ⟨fun pins s σ H Q I hq => ?_⟩
  refine wpAny_Call_Name_kw (ld_blt I hg hm hv ?_)
  rw [hs]
  refine PySem.callWith_builtin1 ?_
  refine wpAny_Call_method (T := "dict") (id := "dict.values") hbase rfl hline F.plainAttrs_dict F.slot_dict_values F.type_dict_values (thn (he.run pins s σ H _ I hq) fun u s1 hh => ?_)
  obtain ⟨x, H1, I1, rx, d, kvs, is, ex, hd, hi, q⟩ := hh
  subst ex
  obtain rfl : u = Value.ref d := rx
  obtain ⟨hz, hs0, vs, kv, hdo⟩ := I1.hok d _ hd
  obtain ⟨ep, hat⟩ := hdo.dictAt
  have lk : kvs.length = vs.length := Paired.length kv
  have I2 : Inv X pins σ H1 { s1 with heap := s1.heap.push { cls := .type "dict_values", data := .fields #[.ref d] } } := I1.kept (t' := s1.toks) fun b ob q => Heap.get?_push_of_some _ q
  refine ⟨hdo.typeIs, hdo.mapOf.noDict, ?_⟩
  show wpAny _ _ (callWith cpos (.builtin "dict.values") [.ref d] [] []) _ X.xe s1
  refine method_meetsIn F.slot_dict_values F.entry_dict_values rfl (PySem.evalArgs_none ⟨rfl, hdo.typeIs, F.args_dict_values_1 _, _, meets_dict_values (mixKind X.prog X.w) d hs0, ⟨vs, hdo⟩, ?_⟩)
  have hlen : vs.length = is.length := by
    have e1 := congrArg List.length hi
    rw [List.length_map, List.length_map] at e1
    omega
  have hval : ∀ (i : Nat) (v : Value), (∃ k, vs[i]? = some (k, v)) → ∃ t, v = Value.int (is.getD i 0) t := fun i v ⟨k, hk⟩ => by
    have hlt : i < kvs.length := by
      rw [lk]
      exact (List.getElem?_eq_some_iff.mp hk).1
    have h1 : kvs[i]? = some kvs[i] := List.getElem?_eq_getElem hlt
    obtain ⟨y, e0, _, h2⟩ := LiI.paired_get kv h1
    have ey : (k, v) = y := Option.some.inj (hk.symm.trans e0)
    subst ey
    have e1 : (kvs.map (·.2))[i]? = some kvs[i].2 := by rw [List.getElem?_map, h1] <;> rfl
    rw [hi, List.getElem?_map] at e1
    obtain ⟨j, hj, e2⟩ := Option.map_eq_some_iff.mp e1
    have h2 : L2.RelV kvs[i].2 v := h2
    rw [← e2] at h2
    obtain ⟨t, e3⟩ := h2
    refine ⟨t, ?_⟩
    rw [e3, List.getD_eq_getElem?_getD, hj] <;> rfl
  refine sum_src (PySem.W.kdl_values (knd := mixKind X.prog X.w) (kvs := vs) (ep := ep) (d := d) (r := s1.heap.objs.size)) (I1.ok.hd hc) ⟨⟨_, Heap.get?_push_size _ rfl, rfl, rfl⟩, hat.push _⟩ (fun i => is.getD i 0) hval fun h' tk t' hk => ?_
  rw [hlen, preSum_list]
  exact ⟨.int is.sum, H1, I2.kept (t' := tk) hk, ⟨t', rfl⟩, q⟩
end
/-! ### dicts compared, lists as values told by their addresses -/
def idB : V → Bool
  | .ref _ => true
  | v => flatB v
theorem eqAt_id {A : Around} {s : Shared} {v : V} {u u' : Value} (r : RelV v u) (r' : RelV v u') (f : idB v = true) : SeqAt.EqAt A s u u' true := by
  cases v with
  | ref a =>
    obtain rfl : u = Value.ref a := r
    obtain rfl : u' = Value.ref a := r'
    exact SeqAt.EqAt.same _
  | _ => exact eqAt_same r r' f
theorem hits_id {A : Around} {s : Shared} {kvs : List (Key × V)} {vb : List (Key × Value)} (rb : KV kvs vb) {ks : List (Key × V)} {va : List (Key × Value)} (ra : KV ks va) :
    (∀ p ∈ ks, valV kvs p.1 = some p.2 ∧ idB p.2 = true) → PySem.W.KeqHits A s vb va true := by
  unfold KV at ra
  induction ra with
  | nil => intro _; exact .nil
  | @cons p q ps qs h t ih =>
    intro hp
    obtain ⟨h1, h2⟩ := h
    obtain ⟨e, f⟩ := hp p List.mem_cons_self
    have rr : RelO (some p.2) (valueAt vb p.1) := by rw [← e]; exact rb.val p.1
    obtain ⟨y, hy, ry⟩ := rr.some_of
    obtain ⟨k, v⟩ := q
    have h1' : p.1 = k := h1
    rw [h1'] at hy
    show PySem.W.KeqHits A s vb ((k, v) :: qs) (true && true)
    exact .hit hy (eqAt_id h2 ry f) (ih fun p' hm => hp p' (List.mem_cons_of_mem _ hm))
def rEqId : R2 := fun x y H Q => ∃ a ks, x = .ref a ∧ y = .ref a ∧ H a = some (.dK ks) ∧ (ks.map (·.1)).Nodup ∧ (∀ p ∈ ks, idB p.2 = true) ∧ Q (.bl true) H
theorem op_eqId {X : Cx} (hu : X.A.units < cLine) : OpR X (compareOp .Eq) rEqId := by
  intro pins s σ H x y v u Q I rx ry h
  obtain ⟨a, ks, rfl, rfl, ea, nd, hp, q⟩ := h
  obtain rfl : v = Value.ref a := rx
  obtain rfl : u = Value.ref a := ry
  obtain ⟨_, ya, va, ra, da⟩ := (show ObjOk X.prog X.w H s.heap a (.dK ks) from I.hok a _ ea)
  exact PySem.W.keq_eq (knd := mixKind X.prog X.w) (r := true) ya ya da da hu (fun _ => hits_id ra ra fun p hm => ⟨mem_valV nd hm, hp p hm⟩) ⟨.bl true, H, I, (by simp only [beq_self_eq_true, Bool.and_true]; rfl), q⟩
end K73

set_option maxHeartbeats 4000000
/-! the law's own: rows written out -/
namespace K73
open PySem PySem.Spec PyProof.Rows L2
open C8 (Cal Mak Met pe_c pe_mk pe_mt pe_mt0 pe_gc)
local macro_rules | `(tactic| walk_at "rd") => `(tactic| repeat (first | refine ⟨_, rfl, ?_⟩ | refine ⟨_, _, rfl, rfl, ?_⟩ | refine ⟨_, rfl, rfl, ?_⟩ | refine ⟨_, _, rfl, ?_⟩ | refine ⟨_, _, _, rfl, ?_⟩ | refine ⟨_, _, _, _, rfl, ?_⟩ | refine And.intro rfl ?_ | refine And.intro trivial ?_ | refine And.intro (le_sz (Nat.le_of_ble_eq_true rfl)) ?_ | refine And.intro (le_sz (by omega)) ?_ | refine iteT ?_ | refine iteF ?_ | refine iteDt (by omega) ?_ | refine iteDf (by omega) ?_ | refine iteNt (by omega) ?_ | refine iteNf (by omega) ?_ | refine And.intro (by omega) ?_ | refine ⟨_, _, _, _, _, rfl, .ty _, .base (.str _), kit_ss, ?_⟩ | refine ⟨_, _, _, _, _, rfl, .ty _, .base (.lst (by assumption)), kit_ll, ?_⟩ | refine ⟨_, _, _, _, _, rfl, .ty _, .base (.dK (by assumption)), kit_dd, ?_⟩ | refine ⟨_, _, _, _, _, rfl, .ty _, .base (.tup (by assumption)), kit_tt, ?_⟩))

theorem RowsAt.rep {P : Addr → Prop} {H : Hp} {vs : List V} {l : List Leaf} (h : RowsAt P H vs (ofL l)) : ∀ n : Nat, RowsAt P H (List.replicate n vs).flatten (ofL (rep n l))
  | 0 => trivial
  | n + 1 => by
    rw [List.replicate_succ, List.flatten_cons, rep_succ, ofL_app]
    exact (RowsAt.rep h n).app h
theorem flat_app (a b : Fo) : (a.app b).flat = a.flat ++ b.flat := by
  induction a with
  | nil => rfl
  | leaf r t ih => simp only [Fo.app, Fo.flat, ih, List.cons_append]
  | turns n c t _ ih => simp only [Fo.app, Fo.flat, ih, List.append_assoc]
theorem flat_rows {P : Addr → Prop} {G : Hp} {ys : List V} {F : Fo} {w : Nat} (h : RowsAt P G ys (ofL F.flat)) (g : F.Good w) : ys.length ≤ F.cost := by
  rw [h.len]
  have z := len_cost (w := w) (ofL F.flat) (ofL_good _ (flat_good F g))
  rw [ofL_cost] at z
  exact Nat.le_trans z (flat_len F)
section
variable {P : Program} {w : World} {K : PySem.W.Frag} {mg : Str → Option Value} {base : Heap}
theorem vac_f_law_flat (T : Txt K mg) (n : Nat) : ∃ fd, FnOk P w K mg base CX0 n (He.fAd K df_law_flat.at_) fd ["_law_rows"] (fun _ _ _ _ => False) ∧ Binds K fd ["_law_rows"] [] ∧ PySem.W.keepIn K (.ref (He.fAd K df_law_flat.at_)) = true := by
  obtain ⟨fd, F0⟩ := T.c.d.def_ 102 (d := df_law_flat) rfl
  have F : FunD K "_law_flat" "_law_flat" (defArgs sf_law_flat) (defBody sf_law_flat) (defScope sf_law_flat) [] [] (He.fAd K df_law_flat.at_) fd := F0
  exact ⟨fd, ⟨fun _ _ _ _ h => h.elim, fun _ _ _ _ _ _ _ _ _ _ _ _ _ h => h.elim⟩, F.bindsN (fun _ _ _ _ _ _ us hl => match us, hl with | [_], _ => rfl), F.kp⟩
def spLFlat (n : Nat) : Sp := fun vs H Q _ => ∃ (G : Hp) (l : Addr) (xs : List V) (F : Fo) (w : Nat), vs = [.ref l] ∧ Same G H ∧ G l = some (.lst xs) ∧ RowsAt Any G xs F ∧ F.depth < n ∧ F.cost ≤ 3000 ∧ F.Good w ∧
  ∀ H' q ys, Same H H' → H q = none → H' q = some (.lst ys) → RowsAt Any G ys (ofL F.flat) → Q (.ref q) H'
theorem sc_f_law_flat : FnScope ["_law_rows", "_law_found", "_law_row_here"] ["_law_rows"] (defScope sf_law_flat) := ⟨rfl, rfl, rfl, by decide +kernel, rfl, by decide +kernel, by decide +kernel⟩
theorem law_flat_succ (T : Txt K mg) {n : Nat} (M : Cal P w K mg base (n + 1) "_law_flat" (spLFlat n) []) : Cal P w K mg base ((n+2)) "_law_flat" (spLFlat (n + 1)) [] := by
  obtain ⟨fd, F0⟩ := T.c.d.def_ 102 (d := df_law_flat) rfl
  have F : FunD K "_law_flat" "_law_flat" (defArgs sf_law_flat) (defBody sf_law_flat) (defScope sf_law_flat) [] [] (He.fAd K df_law_flat.at_) fd := F0
  have G : FnOk P w K mg base CX0 (n+2) (He.fAd K df_law_flat.at_) fd ["_law_rows"] (spLFlat (n + 1)) := by
    refine F.ok (CX := CX0) sc_f_law_flat (fun vs H Q E h => ?_) (fun cdv A outer s H vs Q E hr h => ⟨_, PSs.nox (by exact (pss_cons (ps_set (i := 1) sc_f_law_flat.nd rfl (Or.inl rfl) (pe_lst pa_nil))
      (pss_cons (ps_for PassesOwn.never rfl (pi_list (pv 0)) (pg_name (i := 2) sc_f_law_flat.nd rfl (Or.inl rfl)) (pss_one (ps_if (pt_cmpR op_eq (pe_ix ix_tup (pv 2) pe_int (fun _ _ => rfl)) pe_str (nomark _)) (pss_one (ps_set (i := 1) sc_f_law_flat.nd rfl (Or.inl rfl) (pe_op op_cat (pv 1) (pe_op op_rep (pe_c M hr (by omega) rfl (pa_cons (pe_ix ix_tup (pv 2) pe_int (fun _ _ => rfl)) pa_nil)) (pe_ix ix_tup (pv 2) pe_int (fun _ _ => rfl)))))) (pss_one (ps_expr (pe_bm PySem.F.plainAttrs_list PySem.F.slot_list_append PySem.F.type_list_append mt_append (pv 1) (pa_cons (pv 2) pa_nil)))))))
      (pss_one (ps_ret (pv 1)))))), ?_⟩)
    · first
      | (obtain ⟨e, _⟩ := h; subst e; rfl)
      | (obtain ⟨_, e, _⟩ := h; subst e; rfl)
      | (obtain ⟨_, _, e, _⟩ := h; subst e; rfl)
      | (obtain ⟨_, _, _, e, _⟩ := h; subst e; rfl)
      | (obtain ⟨_, _, _, _, e, _⟩ := h; subst e; rfl)
      | (obtain ⟨_, _, _, _, _, e, _⟩ := h; subst e; rfl)
      | (obtain ⟨_, _, _, _, _, _, e, _⟩ := h; subst e; rfl)
      | (obtain ⟨_, _, _, _, _, _, _, e, _⟩ := h; subst e; rfl)
      | (obtain ⟨_, _, _, _, _, _, _, _, e, _⟩ := h; subst e; rfl)
      | (obtain ⟨_, _, _, _, _, _, _, _, _, e, _⟩ := h; subst e; rfl)
      | (obtain ⟨_, _, _, _, _, _, _, _, _, _, e, _⟩ := h; subst e; rfl)
      | (obtain ⟨_, _, _, _, _, _, _, _, _, _, _, e, _⟩ := h; subst e; rfl)
      | (obtain ⟨_, _, _, _, _, _, _, _, _, _, _, _, e, _⟩ := h; subst e; rfl)
      | (obtain ⟨_, _, _, _, _, _, _, _, _, _, _, _, _, e, _⟩ := h; subst e; rfl)
    · skip
      obtain ⟨G, l, xs, F, w, rfl, sG, hl, hF, hdep, hcost, hgood, k⟩ := h
      refine ⟨le_sz (Nat.le_of_ble_eq_true rfl), fun q0 hq0 => ?_⟩
      refine ⟨_, rfl, l, rfl, ⟨xs, SqL.of (same_new hq0 _ _ (sG _ _ hl))⟩, for_list (K := K) (a := l) (xs := xs) (fun i σ H' => Same H H' ∧ ∃ (q : Addr) (A R : Fo) (ys : List V) (v2 : Option V), σ = [some (.ref l), some (.ref q), v2] ∧ A.app R = F ∧ RowsAt Any G (xs.drop i) R ∧ H q = none ∧ H' q = some (.lst ys) ∧ RowsAt Any G ys (ofL A.flat)) ?_ ?_ ?_ ?_⟩
      · exact ⟨same_new hq0, q0, .nil, F, [], none, rfl, rfl, hF, hq0, upd_same, trivial⟩
      · rintro i σ H' _ ⟨s1, _⟩
        exact SqL.of (s1 _ _ (sG _ _ hl))
      · rintro i x σ H1 hi ⟨s1, q, A, R, ys, v2, rfl, hFG, hR, hq, hq1, hY⟩
        rw [drop_at hi] at hR
        obtain ⟨d, t, rfl, hd1, ht⟩ := hR.cons
        have gd := hgood
        rw [← hFG, app_good] at gd
        have gd1 := (fo_good gd.2).1
        have dd := hdep
        rw [← hFG, app_depth, fo_depth] at dd
        have dc := hcost
        rw [← hFG, app_cost, fo_cost] at dc
        have hyl := flat_rows hY gd.1
        cases d with
        | leaf r =>
          obtain ⟨⟨p1, rfl, hp1⟩, _⟩ := hd1
          have hS : SqT K H1 p1 (.str r.wd :: r.args) := SqT.of (s1 _ _ (sG _ _ hp1))
          refine ⟨_, rfl, p1, _, _, _, rfl, rfl, hS, atI_nat (j := 0) rfl, rfl, _, rfl, iteDf (vs_ne (wd_not_turns r)) ?_⟩
          refine ⟨_, rfl, .inl ⟨rfl, _, SqL.of hq1⟩, _, rfl, q, _, _, rfl, rfl, hq1, lt_sz (by omega), same_mut s1 hq, q, A.app (Nd.leaf r).one, t, ys ++ [.ref p1], some (.ref p1), rfl, ?_, ht, hq, upd_same, ?_⟩
          · rw [app_assoc, one_app]
            exact hFG
          · rw [flat_app, ofL_app]
            exact RowsAt.app (show RowsAt Any G [.ref p1] (ofL [r]) from ⟨⟨p1, rfl, hp1⟩, trivial⟩) hY
        | turns nn b =>
          obtain ⟨⟨p1, l1, xs1, rfl, hp1, _, hl1, hb⟩, _⟩ := hd1
          have hS : SqT K H1 p1 [.str "turns", .int nn, .ref l1] := SqT.of (s1 _ _ (sG _ _ hp1))
          refine ⟨_, rfl, p1, _, _, _, rfl, rfl, hS, atI_nat (j := 0) rfl, rfl, _, rfl, iteDt rfl ?_⟩
          have hc1 : (Nd.turns nn b).one.cost = nn * (1 + b.cost) := by simp [Nd.one, Nd.fo, Fo.cost]
          have hc2 : 1 * (1 + b.cost) ≤ nn * (1 + b.cost) := Nat.mul_le_mul_right _ gd1.1.1
          have hb1 : (Nd.turns nn b).one.depth = b.depth + 1 := by simp [Nd.one, Nd.fo, Fo.depth]
          have hn64 : nn ≤ 64 := gd1.1.2.1
          refine ⟨_, rfl, _, rfl, p1, _, _, _, rfl, rfl, hS, atI_nat (j := 2) rfl, G, l1, xs1, b, w, rfl, sG.trans s1, hl1, hb, by omega, by omega, gd1.2.1, fun H2 q2 ys2 s2 hq2 hq3 hY2 => ?_⟩
          have hy2 := flat_rows hY2 gd1.2.1
          have hm : ys2.length * (nn : Int).toNat ≤ 3000 := by
            rw [Int.toNat_natCast, Nat.mul_comm]
            have : nn * ys2.length ≤ nn * (1 + b.cost) := Nat.mul_le_mul_left _ (by omega)
            omega
          refine ⟨_, rfl, p1, _, _, _, rfl, rfl, SqT.of (s2 _ _ (s1 _ _ (sG _ _ hp1))), atI_nat (j := 1) rfl, q2, nn, ys2, rfl, rfl, hq3, by omega, by omega, Nat.le_of_lt (lt_sz (by omega)), fun p hp => ?_⟩
          have s3 := same_new (o := .lst (List.replicate (nn : Int).toNat ys2).flatten) hp
          have hm2 : (List.replicate (nn : Int).toNat ys2).flatten.length = (nn : Int).toNat * ys2.length := by simp
          have hm3 : (nn : Int).toNat * ys2.length ≤ 3000 := by rw [Nat.mul_comm]; exact hm
          refine ⟨q, p, ys, _, rfl, rfl, s3 _ _ (s2 _ _ hq1), upd_same, Nat.le_of_lt (lt_sz (by rw [hm2]; omega)), fun r hr => ?_⟩
          have s4 := same_new (o := .lst (ys ++ (List.replicate (nn : Int).toNat ys2).flatten)) hr
          refine ⟨((s1.trans s2).trans s3).trans s4, r, A.app (Nd.turns nn b).one, t, ys ++ (List.replicate (nn : Int).toNat ys2).flatten, some (.ref p1), rfl, ?_, ht, ((s1.trans s2).trans s3).free hr, upd_same, ?_⟩
          · rw [app_assoc, one_app]
            exact hFG
          · rw [flat_app, ofL_app]
            refine RowsAt.app ?_ hY
            show RowsAt Any G (List.replicate nn ys2).flatten (ofL (rep nn b.flat ++ []))
            rw [List.append_nil]
            exact hY2.rep nn
      · rintro σ H1 ⟨s1, q, A, R, ys, v2, rfl, hFG, hR, hq, hq1, hY⟩
        have eR := hR.end_
        subst eR
        rw [app_nil] at hFG
        subst hFG
        exact ⟨_, rfl, k _ q ys s1 hq hq1 hY⟩
  exact ⟨_, fd, _, [], G, T.g__law_flat, F.kp, F.bindsN (fun _ _ _ _ _ _ us hl => match us, hl with | [_], _ => rfl), .nil⟩
theorem cal_f_law_flat (T : Txt K mg) (n : Nat) : Cal P w K mg base (n + 1) "_law_flat" (spLFlat n) [] := by
  induction n with
  | zero =>
    obtain ⟨fd, G, b, kp⟩ := vac_f_law_flat (P := P) (w := w) (base := base) T 1
    refine ⟨_, fd, _, [], G.imp fun vs H Q E h => ?_, T.g__law_flat, kp, b, .nil⟩
    obtain ⟨G, l, xs, F, w, _, _, _, _, hd, _⟩ := h
    exact absurd hd (Nat.not_lt_zero _)
  | succ n ih => exact law_flat_succ T ih
end
end K73

set_option maxHeartbeats 4000000
/-! data that is compared: marks, counts, rows -/
namespace K73
open PySem PySem.Spec PyProof.Rows L2
open C8 (Cal Mak Met pe_c pe_mk pe_mt pe_mt0 pe_gc)
structure Fine (n : Nat) (d : PyData) : Prop where
  lay : d.canLay0 = true
  dep : d.depth ≤ n
  eq_ : PyData.eqv d d = true
structure FineAll (n : Nat) (ds : List PyData) : Prop where
  lay : PyData.canLayAll0 ds = true
  dep : PyData.depthAll ds ≤ n
  eq_ : PyData.eqvAll ds ds = true
theorem Fine.mono {n m : Nat} {d : PyData} (h : Fine n d) (l : n ≤ m) : Fine m d := ⟨h.lay, Nat.le_trans h.dep l, h.eq_⟩
theorem FineAll.mono {n m : Nat} {d : List PyData} (h : FineAll n d) (l : n ≤ m) : FineAll m d := ⟨h.lay, Nat.le_trans h.dep l, h.eq_⟩
theorem FineAll.nil (n : Nat) : FineAll n [] := ⟨by simp [PyData.canLayAll0], by simp [PyData.depthAll], by simp [PyData.eqvAll]⟩
theorem FineAll.cons {n : Nat} {d : PyData} {ds : List PyData} (h : Fine n d) (t : FineAll n ds) : FineAll n (d :: ds) :=
  ⟨by simp [PyData.canLayAll0, h.lay, t.lay], by have := h.dep; have := t.dep; simp only [PyData.depthAll]; omega, by simp [PyData.eqvAll, h.eq_, t.eq_]⟩
theorem Fine.tup {n : Nat} {ds : List PyData} (h : FineAll n ds) : Fine (n + 1) (.tuple ds) := ⟨by simp [PyData.canLay0, h.lay], by have := h.dep; simp only [PyData.depth]; omega, by simp [PyData.eqv, h.eq_]⟩
theorem Fine.lst {n : Nat} {ds : List PyData} (h : FineAll n ds) : Fine (n + 1) (.list ds) := ⟨by simp [PyData.canLay0, h.lay], by have := h.dep; simp only [PyData.depth]; omega, by simp [PyData.eqv, h.eq_]⟩
theorem Fine.int (n : Nat) (i : Int) : Fine n (.int i) := ⟨by simp [PyData.canLay0], by simp [PyData.depth], by simp [PyData.eqv]⟩
theorem Fine.non (n : Nat) : Fine n .none := ⟨by simp [PyData.canLay0], by simp [PyData.depth], by simp [PyData.eqv]⟩
theorem Fine.str (n : Nat) {z : Str} (h : PyData.strOk z = true) : Fine n (.str z) := ⟨by simp [PyData.canLay0, h], by simp [PyData.depth], by simp [PyData.eqv]⟩
theorem Fine.shaped {n : Nat} {d : PyData} (h : Fine n d) (l : n ≤ 64) : SeqAt.shaped d = true := by
  show (d.canLay0 && decide (d.depth ≤ 64)) = true
  rw [Bool.and_eq_true]
  exact ⟨h.lay, decide_eq_true (Nat.le_trans h.dep l)⟩
theorem strOk_of {z : Str} (h : ∀ c ∈ z.cps.toList, c ∈ (letters ++ figures).cps.toList) : PyData.strOk z = true := by
  have key : ∀ c ∈ (letters ++ figures).cps.toList, c < 0x110000 := by decide +kernel
  show z.cps.all (fun c => decide (c < 0x110000)) = true
  rw [Array.all_eq_true_iff_forall_mem]
  exact fun c hc => decide_eq_true (key c (h c (Array.mem_def.mp hc)))
theorem IsReg.ok {z : Str} (h : IsReg z) : PyData.strOk z = true := strOk_of h.all_
theorem wd_ok (c : Cl) : PyData.strOk c.wd = true := by cases c <;> decide +kernel
theorem mk_ok {m : Str} (h : IsMk m) : PyData.strOk m = true := by
  rcases h with rfl | rfl | rfl <;> decide +kernel
def vD : V → PyData
  | .int i => .int i
  | .str z => .str z
  | _ => .none
/-- ints, texts, None -/
def Sm (v : V) : Prop := v = .non ∨ (∃ i, v = .int i) ∨ ∃ z, v = .str z ∧ PyData.strOk z = true
theorem sm_all {K : PySem.W.Frag} {H : Hp} : ∀ {vs : List V}, (∀ v ∈ vs, Sm v) → DpAll K H vs (vs.map vD) ∧ FineAll 0 (vs.map vD)
  | [], _ => ⟨.nil, FineAll.nil 0⟩
  | v :: vs, h => by
    obtain ⟨h1, h2⟩ := sm_all (K := K) (H := H) fun u hu => h u (List.mem_cons_of_mem _ hu)
    rcases h v (List.mem_cons_self ..) with rfl | ⟨i, rfl⟩ | ⟨z, rfl, hz⟩
    · exact ⟨.cons .non h1, FineAll.cons (Fine.non 0) h2⟩
    · exact ⟨.cons (.int i) h1, FineAll.cons (Fine.int 0 i) h2⟩
    · exact ⟨.cons (.str z) h1, FineAll.cons (Fine.str 0 hz) h2⟩
theorem leaf_sm {w : Nat} {r : Leaf} (g : r.Good w) : ∀ v ∈ r.vals, Sm v := by
  have st : ∀ z, IsReg z → Sm (.str z) := fun z h => .inr (.inr ⟨z, rfl, h.ok⟩)
  have it : ∀ i, Sm (.int i) := fun i => .inr (.inl ⟨i, rfl⟩)
  intro v hv
  rcases List.mem_cons.mp hv with rfl | hv
  · exact .inr (.inr ⟨_, rfl, wd_ok _⟩)
  cases r with
  | set g0 b =>
    rcases List.mem_cons.mp hv with rfl | hv
    · exact st _ g.1
    rcases List.mem_cons.mp hv with rfl | hv
    · exact it _
    cases hv
  | copy g0 a =>
    rcases List.mem_cons.mp hv with rfl | hv
    · exact st _ g.1
    rcases List.mem_cons.mp hv with rfl | hv
    · exact st _ g.2
    cases hv
  | pair c g0 a b =>
    rcases List.mem_cons.mp hv with rfl | hv
    · exact st _ g.1
    rcases List.mem_cons.mp hv with rfl | hv
    · exact st _ g.2.1
    rcases List.mem_cons.mp hv with rfl | hv
    · exact st _ g.2.2
    cases hv
  | carry c g0 y a b =>
    rcases List.mem_cons.mp hv with rfl | hv
    · exact st _ g.1
    rcases List.mem_cons.mp hv with rfl | hv
    · cases y with
      | none => exact .inl rfl
      | some y => exact st _ (g.2.1 y rfl)
    rcases List.mem_cons.mp hv with rfl | hv
    · exact st _ g.2.2.1
    rcases List.mem_cons.mp hv with rfl | hv
    · exact st _ g.2.2.2
    cases hv
  | shift c g0 a j =>
    rcases List.mem_cons.mp hv with rfl | hv
    · exact st _ g.1
    rcases List.mem_cons.mp hv with rfl | hv
    · exact st _ g.2.1
    rcases List.mem_cons.mp hv with rfl | hv
    · exact it _
    cases hv
  | pick g0 y a b =>
    rcases List.mem_cons.mp hv with rfl | hv
    · exact st _ g.1
    rcases List.mem_cons.mp hv with rfl | hv
    · exact st _ g.2.1
    rcases List.mem_cons.mp hv with rfl | hv
    · exact st _ g.2.2.1
    rcases List.mem_cons.mp hv with rfl | hv
    · exact st _ g.2.2.2
    cases hv
  | mark ln m y =>
    rcases List.mem_cons.mp hv with rfl | hv
    · exact it _
    rcases List.mem_cons.mp hv with rfl | hv
    · exact .inr (.inr ⟨_, rfl, mk_ok g.2.2.1⟩)
    rcases List.mem_cons.mp hv with rfl | hv
    · exact st _ g.2.2.2
    cases hv
def rowsD : Fo → List PyData
  | .nil => []
  | .leaf r t => .tuple (r.vals.map vD) :: rowsD t
  | .turns n b t => .tuple [.str "turns", .int n, .list (rowsD b)] :: rowsD t
theorem rows_dp {K : PySem.W.Frag} {P : Addr → Prop} {H : Hp} {w : Nat} : ∀ {vs : List V} {F : Fo}, F.Good w → RowsAt P H vs F → DpAll K H vs (rowsD F)
  | [], .nil, _, _ => .nil
  | _ :: _, .leaf r _, g, ⟨⟨p, e, h⟩, t⟩ => by
    subst e
    exact .cons (.tup (SqT.of h) (sm_all (leaf_sm g.1)).1) (rows_dp g.2 t)
  | _ :: _, .turns _ _ _, g, ⟨⟨p, l, xs, e, h, _, hl, hb⟩, t⟩ => by
    subst e
    exact .cons (.tup (SqT.of h) (.cons (.str _) (.cons (.int _) (.cons (.lst (SqL.of hl) (rows_dp g.2.1 hb)) .nil)))) (rows_dp g.2.2 t)
  | [], .leaf _ _, _, h => h.elim
  | [], .turns _ _ _, _, h => h.elim
  | _ :: _, .nil, _, h => h.elim
theorem turns_ok : PyData.strOk "turns" = true := wd_ok .turns
theorem rows_fine {w : Nat} : ∀ F : Fo, F.Good w → FineAll (2 * F.depth + 1) (rowsD F)
  | .nil, _ => FineAll.nil _
  | .leaf r t, g => FineAll.cons ((Fine.tup (sm_all (K := []) (H := fun _ => none) (leaf_sm g.1)).2).mono (by omega)) (rows_fine t g.2)
  | .turns n b t, g => by
    have hb := rows_fine b g.2.1
    have ht := rows_fine t g.2.2
    have hd : (Fo.turns n b t).depth = max (b.depth + 1) t.depth := rfl
    refine FineAll.cons ((Fine.tup (n := 2 * b.depth + 2) (FineAll.cons (Fine.str _ turns_ok) (FineAll.cons (Fine.int _ _) (FineAll.cons (Fine.lst hb) (FineAll.nil _))))).mono (by omega)) (ht.mono (by omega))
/-! the marks -/
def mkD (ms : List (Int × Str)) : List PyData := ms.map fun q => .tuple [.int q.1, .str q.2]
def MkOk (ms : List (Int × Str)) : Prop := ∀ q ∈ ms, IsMk q.2
theorem mk_dp {K : PySem.W.Frag} {H : Hp} : ∀ {vs : List V} {ms : List (Int × Str)}, MkL H vs ms → DpAll K H vs (mkD ms)
  | [], [], _ => .nil
  | _ :: _, _ :: _, ⟨⟨p, e, h⟩, t⟩ => by
    subst e
    exact .cons (.tup (SqT.of h) (.cons (.int _) (.cons (.str _) .nil))) (mk_dp t)
  | [], _ :: _, h => h.elim
  | _ :: _, [], h => h.elim
theorem mk_fine : ∀ {ms : List (Int × Str)}, MkOk ms → FineAll 1 (mkD ms)
  | [], _ => FineAll.nil _
  | q :: ms, h => FineAll.cons (Fine.tup (FineAll.cons (Fine.int _ _) (FineAll.cons (Fine.str _ (mk_ok (h q (List.mem_cons_self ..)))) (FineAll.nil _)))) (mk_fine fun y hy => h y (List.mem_cons_of_mem _ hy))
theorem leaf_mk {w : Nat} {r : Leaf} (g : r.Good w) {kv : List (Key × V)} {ms : List (Int × Str)} (h : MkOk ms) : MkOk (ms ++ r.mks kv) := by
  intro q hq
  rcases List.mem_append.mp hq with hq | hq
  · exact h q hq
  cases r with
  | mark ln m y =>
    have hq : q ∈ (if getI kv y = 0 then [] else [(ln, m)]) := hq
    split at hq
    · cases hq
    · rw [List.mem_singleton.mp hq]
      exact g.2.2.1
  | _ => cases hq
theorem run_mk {w : Nat} : ∀ (F : Fo) (s : Sta), F.Good w → MkOk s.ms → MkOk (F.run w s).ms
  | .nil, _, _, h => h
  | .leaf r t, s, g, h => run_mk t _ g.2 (leaf_mk g.1 h)
  | .turns n b t, s, g, h => by
    refine run_mk t _ g.2.2 ?_
    have key : ∀ (n : Nat) (s : Sta), MkOk s.ms → MkOk (iter (fun s => b.run w (tick s)) n s).ms := by
      intro n
      induction n with
      | zero => exact fun s h => h
      | succ n ih => exact fun s h => ih _ (run_mk b (tick s) g.2.1 h)
    exact key n s h
/-! the counts -/
theorem LawC.ints {cv : List (Key × V)} {cn : Str → Int} (h : LawC cv cn) : ∃ is : List Int, cv.map (·.2) = is.map V.int ∧ is.sum = wsum (fun _ => 1) cn := by
  refine ⟨cv.map fun p : Key × V => vi p.2, ?_, h.sum⟩
  rw [List.map_map]
  refine List.map_congr_left fun p hp => ?_
  obtain ⟨x, _, _, e⟩ := h.key p hp
  show p.2 = V.int (vi p.2)
  rw [e]
  rfl
theorem cost_sum {w : Nat} {F : Fo} {kv : List (Key × V)} {ms : List (Int × Str)} : wsum (fun _ => 1) (F.run w ⟨kv, ms, zeroC⟩).cn = F.cost := by
  rw [run_ps, wsum_zero, ps_one]
  omega
end K73

set_option maxHeartbeats 4000000
/-! the law's own checks -/
namespace K73
open PySem PySem.Spec PyProof.Rows L2
open C8 (Cal Mak Met pe_c pe_mk pe_mt pe_mt0 pe_gc)
local macro_rules | `(tactic| walk_at "rd") => `(tactic| repeat (first | refine ⟨_, rfl, ?_⟩ | refine ⟨_, _, rfl, rfl, ?_⟩ | refine ⟨_, rfl, rfl, ?_⟩ | refine ⟨_, _, rfl, ?_⟩ | refine ⟨_, _, _, rfl, ?_⟩ | refine ⟨_, _, _, _, rfl, ?_⟩ | refine And.intro rfl ?_ | refine And.intro trivial ?_ | refine And.intro (le_sz (Nat.le_of_ble_eq_true rfl)) ?_ | refine And.intro (le_sz (by omega)) ?_ | refine iteT ?_ | refine iteF ?_ | refine iteDt (by omega) ?_ | refine iteDf (by omega) ?_ | refine iteNt (by omega) ?_ | refine iteNf (by omega) ?_ | refine And.intro (by omega) ?_ | refine ⟨_, _, _, _, _, rfl, .ty _, .base (.str _), kit_ss, ?_⟩ | refine ⟨_, _, _, _, _, rfl, .ty _, .base (.lst (by assumption)), kit_ll, ?_⟩ | refine ⟨_, _, _, _, _, rfl, .ty _, .base (.dK (by assumption)), kit_dd, ?_⟩ | refine ⟨_, _, _, _, _, rfl, .ty _, .base (.tup (by assumption)), kit_tt, ?_⟩))

section
variable {P : Program} {w : World} {K : PySem.W.Frag} {mg : Str → Option Value} {base : Heap}
theorem sc_f_law_whole : FnScope ["_law_found"] ["_law_found"] (defScope sf_law_whole) := ⟨rfl, rfl, rfl, by decide +kernel, rfl, by decide +kernel, by decide +kernel⟩
theorem cal_f_law_whole (T : Txt K mg) : Cal P w K mg base (1) "_law_whole" (spWhole) [] := by
  obtain ⟨fd, F0⟩ := T.c.d.def_ 86 (d := df_law_whole) rfl
  have F : FunD K "_law_whole" "_law_whole" (defArgs sf_law_whole) (defBody sf_law_whole) (defScope sf_law_whole) [] [] (He.fAd K df_law_whole.at_) fd := F0
  have G : FnOk P w K mg base CX0 1 (He.fAd K df_law_whole.at_) fd ["_law_found"] (spWhole) := by
    refine F.ok (CX := CX0) sc_f_law_whole (fun vs H Q E h => ?_) (fun cdv A outer s H vs Q E hr h => ⟨_, PSs.nox (by exact (pss_one (ps_ret (pe_and (pe_callB call_isi rfl T.f_isinstance (by decide +kernel) (pa_cons (pv 0) (pa_cons (pe_bltn (v := .ty "int") rfl T.f_int (by decide +kernel) rfl) pa_nil))) (pe_one (pe_not (pe_callB call_isi rfl T.f_isinstance (by decide +kernel) (pa_cons (pv 0) (pa_cons (pe_bltn (v := .ty "bool") rfl T.f_bool (by decide +kernel) rfl) pa_nil))))))))), ?_⟩)
    · first
      | (obtain ⟨e, _⟩ := h; subst e; rfl)
      | (obtain ⟨_, e, _⟩ := h; subst e; rfl)
      | (obtain ⟨_, _, e, _⟩ := h; subst e; rfl)
      | (obtain ⟨_, _, _, e, _⟩ := h; subst e; rfl)
      | (obtain ⟨_, _, _, _, e, _⟩ := h; subst e; rfl)
      | (obtain ⟨_, _, _, _, _, e, _⟩ := h; subst e; rfl)
      | (obtain ⟨_, _, _, _, _, _, e, _⟩ := h; subst e; rfl)
      | (obtain ⟨_, _, _, _, _, _, _, e, _⟩ := h; subst e; rfl)
      | (obtain ⟨_, _, _, _, _, _, _, _, e, _⟩ := h; subst e; rfl)
      | (obtain ⟨_, _, _, _, _, _, _, _, _, e, _⟩ := h; subst e; rfl)
      | (obtain ⟨_, _, _, _, _, _, _, _, _, _, e, _⟩ := h; subst e; rfl)
      | (obtain ⟨_, _, _, _, _, _, _, _, _, _, _, e, _⟩ := h; subst e; rfl)
      | (obtain ⟨_, _, _, _, _, _, _, _, _, _, _, _, e, _⟩ := h; subst e; rfl)
      | (obtain ⟨_, _, _, _, _, _, _, _, _, _, _, _, _, e, _⟩ := h; subst e; rfl)
    · skip
      obtain ⟨x, rfl, hx, k⟩ := h
      refine ⟨_, rfl, ⟨x, _, _, _, kI x, rfl, .ty "int", hx.ty, kit_int hx, kI x, rfl, ?_⟩⟩
      cases x with
      | bl b => exact iteT ⟨_, rfl, _, _, _, _, _, rfl, .ty "bool", hx.ty, kit_bool hx, _, rfl, k⟩
      | int i => exact iteT ⟨_, rfl, _, _, _, _, _, rfl, .ty "bool", hx.ty, kit_bool hx, _, rfl, k⟩
      | non => exact iteF k
      | str z => exact iteF k
      | ref a => exact iteF k
      | _ => exact hx.elim
  exact ⟨_, fd, _, [], G, T.g__law_whole, F.kp, F.bindsN (fun _ _ _ _ _ _ us hl => match us, hl with | [_], _ => rfl), .nil⟩
def spLCounted (K : PySem.W.Frag) : Sp := fun vs H Q _ => ∃ (w : Nat) (l c : Addr) (xs : List V) (F : Fo) (cv : List (Key × V)) (cn : Str → Int), vs = [.int w, .ref l, .ref c] ∧ StepsIn K H l xs F w ∧ F.depth ≤ 5 ∧ H c = some (.dK cv) ∧ LawC cv cn ∧ wsum (fun _ => 1) cn = F.cost ∧ ∀ H', Same H H' → Q (.bl true) H'
theorem sc_f_law_counted : FnScope ["_law_width", "_law_steps", "_law_counts", "_law_found"] ["_law_width", "_law_steps", "_law_counts"] (defScope sf_law_counted) := ⟨rfl, rfl, rfl, by decide +kernel, rfl, by decide +kernel, by decide +kernel⟩
theorem cal_f_law_counted (T : Txt K mg) : Cal P w K mg base (12) "_law_counted" (spLCounted K) [] := by
  obtain ⟨fd, F0⟩ := T.c.d.def_ 105 (d := df_law_counted) rfl
  have F : FunD K "_law_counted" "_law_counted" (defArgs sf_law_counted) (defBody sf_law_counted) (defScope sf_law_counted) [] [] (He.fAd K df_law_counted.at_) fd := F0
  have G : FnOk P w K mg base CX0 12 (He.fAd K df_law_counted.at_) fd ["_law_width", "_law_steps", "_law_counts"] (spLCounted K) := by
    refine F.ok (CX := CX0) sc_f_law_counted (fun vs H Q E h => ?_) (fun cdv A outer s H vs Q E hr h => ⟨_, PSs.nox (by exact (pss_cons (ps_set (i := 3) sc_f_law_counted.nd rfl (Or.inl rfl) (pe_c (cal_f_check_steps T) hr (by omega) rfl (pa_cons (pv 0) (pa_cons (pv 1) pa_nil))))
      (pss_one (ps_ret (pe_and (pe_c (cal_f_law_whole T) hr (by omega) rfl (pa_cons (pv 3) pa_nil)) (pe_one (pe_cmpR op_eq (pv 3) (pe_sumVals rfl (pv 2) rfl T.f_sum (by decide +kernel)) (nomark _)))))))), ?_⟩)
    · first
      | (obtain ⟨e, _⟩ := h; subst e; rfl)
      | (obtain ⟨_, e, _⟩ := h; subst e; rfl)
      | (obtain ⟨_, _, e, _⟩ := h; subst e; rfl)
      | (obtain ⟨_, _, _, e, _⟩ := h; subst e; rfl)
      | (obtain ⟨_, _, _, _, e, _⟩ := h; subst e; rfl)
      | (obtain ⟨_, _, _, _, _, e, _⟩ := h; subst e; rfl)
      | (obtain ⟨_, _, _, _, _, _, e, _⟩ := h; subst e; rfl)
      | (obtain ⟨_, _, _, _, _, _, _, e, _⟩ := h; subst e; rfl)
      | (obtain ⟨_, _, _, _, _, _, _, _, e, _⟩ := h; subst e; rfl)
      | (obtain ⟨_, _, _, _, _, _, _, _, _, e, _⟩ := h; subst e; rfl)
      | (obtain ⟨_, _, _, _, _, _, _, _, _, _, e, _⟩ := h; subst e; rfl)
      | (obtain ⟨_, _, _, _, _, _, _, _, _, _, _, e, _⟩ := h; subst e; rfl)
      | (obtain ⟨_, _, _, _, _, _, _, _, _, _, _, _, e, _⟩ := h; subst e; rfl)
      | (obtain ⟨_, _, _, _, _, _, _, _, _, _, _, _, _, e, _⟩ := h; subst e; rfl)
    · skip
      obtain ⟨w, l, c, xs, F, cv, cn, rfl, hS, hdep, hc, lc, hsum, k⟩ := h
      obtain ⟨is, hi1, hi2⟩ := lc.ints
      refine ⟨_, rfl, _, rfl, w, l, xs, F, rfl, hS, hdep, fun H1 s1 => ?_⟩
      refine ⟨_, rfl, _, rfl, trivial, _, rfl, iteT ⟨_, rfl, _, rfl, c, cv, is, rfl, s1 _ _ hc, hi1, rfl, ?_⟩⟩
      have e : V.int (F.cost : Int) = V.int is.sum := by rw [hi2, hsum]
      show Q (.bl (decide (V.int (F.cost : Int) = V.int is.sum))) H1
      rw [decide_eq_true e]
      exact k _ s1
  exact ⟨_, fd, _, [], G, T.g__law_counted, F.kp, F.bindsN (fun _ _ _ _ _ _ us hl => match us, hl with | [_, _, _], _ => rfl), .nil⟩
theorem mk_at {H : Hp} : ∀ {vs : List V} {ms : List (Int × Str)}, MkL H vs ms → ∀ {i : Nat} {x : V}, vs[i]? = some x → ∃ p j z, x = .ref p ∧ H p = some (.tup [.int j, .str z])
  | [], [], _, i, x, h => by cases h
  | _ :: _, _ :: _, ⟨⟨p, e, hp⟩, _⟩, 0, x, h => ⟨p, _, _, (Option.some.inj h).symm.trans e, hp⟩
  | _ :: _, _ :: _, ⟨_, t⟩, i + 1, x, h => mk_at t (by simpa using h)
  | [], _ :: _, h, _, _, _ => h.elim
  | _ :: _, [], h, _, _, _ => h.elim
/-- a list of pairs (word, count) -/
def CtL (H : Hp) : List V → List (Str × Int) → Prop
  | [], [] => True
  | v :: vs, q :: qs => (∃ p, v = .ref p ∧ H p = some (.tup [.str q.1, .int q.2])) ∧ CtL H vs qs
  | _, _ => False
theorem CtL.mono {H H' : Hp} (k : ∀ p xs, H p = some (.tup xs) → H' p = some (.tup xs)) : ∀ {vs : List V} {ms : List (Str × Int)}, CtL H vs ms → CtL H' vs ms
  | [], [], _ => trivial
  | _ :: _, _ :: _, ⟨⟨p, e, h⟩, t⟩ => ⟨⟨p, e, k p _ h⟩, CtL.mono k t⟩
  | [], _ :: _, h => h.elim
  | _ :: _, [], h => h.elim
theorem CtL.app {H : Hp} {ws : List V} {ns : List (Str × Int)} (hw : CtL H ws ns) : ∀ {vs : List V} {ms : List (Str × Int)}, CtL H vs ms → CtL H (vs ++ ws) (ms ++ ns)
  | [], [], _ => hw
  | _ :: _, _ :: _, ⟨e, t⟩ => ⟨e, CtL.app hw t⟩
  | [], _ :: _, h => h.elim
  | _ :: _, [], h => h.elim
theorem CtL.len {H : Hp} : ∀ {vs : List V} {ms : List (Str × Int)}, CtL H vs ms → vs.length = ms.length
  | [], [], _ => rfl
  | _ :: _, _ :: _, ⟨_, t⟩ => congrArg (· + 1) (CtL.len t)
  | [], _ :: _, h => h.elim
  | _ :: _, [], h => h.elim
def ctD (ms : List (Str × Int)) : List PyData := ms.map fun q => .tuple [.str q.1, .int q.2]
theorem CtL.dp {K : PySem.W.Frag} {H : Hp} : ∀ {vs : List V} {ms : List (Str × Int)}, CtL H vs ms → DpAll K H vs (ctD ms)
  | [], [], _ => .nil
  | _ :: _, _ :: _, ⟨⟨p, e, h⟩, t⟩ => by
    subst e
    exact .cons (.tup (SqT.of h) (.cons (.str _) (.cons (.int _) .nil))) (CtL.dp t)
  | [], _ :: _, h => h.elim
  | _ :: _, [], h => h.elim
theorem ct_fine : ∀ {ms : List (Str × Int)}, (∀ q ∈ ms, PyData.strOk q.1 = true) → FineAll 1 (ctD ms)
  | [], _ => FineAll.nil _
  | q :: ms, h => FineAll.cons (Fine.tup (FineAll.cons (Fine.str _ (h q (List.mem_cons_self ..))) (FineAll.cons (Fine.int _ _) (FineAll.nil _)))) (ct_fine fun y hy => h y (List.mem_cons_of_mem _ hy))
def cts (cn : Str → Int) (l : List Str) : List (Str × Int) := l.map fun z => (z, cn z)
theorem cts_ok {cn : Str → Int} : ∀ q ∈ cts cn words, PyData.strOk q.1 = true := fun q hq => by
  obtain ⟨z, hz, e⟩ := List.mem_map.mp hq
  obtain ⟨c, _, e2⟩ := List.mem_map.mp hz
  rw [← e, ← e2]
  exact wd_ok c
theorem items_ct {H : Hp} {cn : Str → Int} : ∀ {l : List Str} {ts : List Addr}, Paired (fun (t : Addr) (q : Key × V) => H t = some (.tup [kV q.1, q.2])) ts (l.map fun z => ((Sum.inr z : Key), V.int (cn z))) → CtL H (ts.map V.ref) (cts cn l)
  | [], _, h => by
    cases h
    trivial
  | z :: l, _, h => by
    cases h with
    | cons h1 h2 => exact ⟨⟨_, rfl, h1⟩, items_ct h2⟩
structure SameIn (H : Hp) (q a b c h m d : Addr) (w : Nat) (s : Sta) : Prop where
  tup : H q = some (.tup [.ref a, .ref b, .ref c])
  ad : H a = some (.dK s.kv)
  bm : MarksAt H b s.ms
  cc : H c = some (.dK (cntD s.cn))
  hd : H h = some (.dK s.kv)
  mm : MarksAt H m s.ms
  dc : CntAt H d s.cn
  wk : Wk w s.kv
  mo : MkOk s.ms
  kl : s.kv.length ≤ 10000
  ml : s.ms.length ≤ 10000
def spLSame : Sp := fun vs H Q _ => ∃ (q a b c h m d : Addr) (w : Nat) (s : Sta), vs = [.ref q, .ref h, .ref m, .ref d] ∧ SameIn H q a b c h m d w s ∧ ∀ H', Same H H' → Q (.bl true) H'
theorem sc_f_law_same : FnScope ["_law_found", "_law_held_here", "_law_marks", "_law_counts", "_law_word_here", "_law_one"] ["_law_found", "_law_held_here", "_law_marks", "_law_counts"] (defScope sf_law_same) := ⟨rfl, rfl, rfl, by decide +kernel, rfl, by decide +kernel, by decide +kernel⟩
theorem cal_f_law_same (T : Txt K mg) : Cal P w K mg base (3) "_law_same" (spLSame) [] := by
  obtain ⟨fd, F0⟩ := T.c.d.def_ 100 (d := df_law_same) rfl
  have F : FunD K "_law_same" "_law_same" (defArgs sf_law_same) (defBody sf_law_same) (defScope sf_law_same) [] [] (He.fAd K df_law_same.at_) fd := F0
  have G : FnOk P w K mg base CX0 3 (He.fAd K df_law_same.at_) fd ["_law_found", "_law_held_here", "_law_marks", "_law_counts"] (spLSame) := by
    refine F.ok (CX := CX0) sc_f_law_same (fun vs H Q E h => ?_) (fun cdv A outer s H vs Q E hr h => ⟨_, PSs.nox (by exact (pss_cons (ps_if (PW.pt (pw_or (pt_not (pt_val (pe_callB call_isi rfl T.f_isinstance (by decide +kernel) (pa_cons (pv 0) (pa_cons (pe_bltn (v := .ty "tuple") rfl T.f_tuple (by decide +kernel) rfl) pa_nil))))) (pw_or (pt_cmpR op_ne (pe_callB call_len_seq rfl T.f_len (by decide +kernel) (pa_cons (pv 0) pa_nil)) pe_int (nomark _)) (pw_or (pt_not (pt_val (pe_callB call_isi rfl T.f_isinstance (by decide +kernel) (pa_cons (pe_ix ix_tup (pv 0) pe_int (fun _ _ => rfl)) (pa_cons (pe_bltn (v := .ty "dict") rfl T.f_dict (by decide +kernel) rfl) pa_nil))))) (pw_or1 (pt_cmpR (op_ne_dictA hr.units0) (pe_ix ix_tup (pv 0) pe_int (fun _ _ => rfl)) (pv 1) (nomark _))))))) (pss_one (ps_ret pe_bl)) pss_nil)
      (pss_cons (ps_if (PW.pt (pw_or (pt_not (pt_val (pe_callB call_isi rfl T.f_isinstance (by decide +kernel) (pa_cons (pe_ix ix_tup (pv 0) pe_int (fun _ _ => rfl)) (pa_cons (pe_bltn (v := .ty "list") rfl T.f_list (by decide +kernel) rfl) pa_nil))))) (pw_or (pt_cmpR (op_neD hr.units) (pe_ix ix_tup (pv 0) pe_int (fun _ _ => rfl)) (pv 2) (nomark _)) (pw_or1 (pt_not (pt_val (pe_callB call_isi rfl T.f_isinstance (by decide +kernel) (pa_cons (pe_ix ix_tup (pv 0) pe_int (fun _ _ => rfl)) (pa_cons (pe_bltn (v := .ty "dict") rfl T.f_dict (by decide +kernel) rfl) pa_nil))))))))) (pss_one (ps_ret pe_bl)) pss_nil)
      (pss_cons (ps_if (pt_not (pt_val (pe_callB (cr_all rfl) rfl T.f_all (by decide +kernel) (pa_cons (pe_lc (own := [("_law_one", 5)]) (g := gName 5) (tt := tYes) rfl sc_f_law_same.nd (pi_list (pe_ix ix_tup (pv 0) pe_int (fun _ _ => rfl))) (blkOk_by (N := ["_law_found", "_law_held_here", "_law_marks", "_law_counts", "_law_word_here", "_law_one"]) (sc := defScope sf_law_same) (by decide +kernel)) (fun _ _ _ _ _ => pg_name (i := 5) sc_f_law_same.nd rfl (Or.inl rfl)) (fun _ _ _ _ _ => pts_nil) (fun _ _ _ _ _ => (pe_and (pe_callB (call_isiE (L := K)) rfl T.f_isinstance (by decide +kernel) (pa_cons (pv 5) (pa_cons (pe_bltn (v := .ty "tuple") rfl T.f_tuple (by decide +kernel) rfl) pa_nil))) (pe_one (pe_c (cal_f_law_whole T) hr (by omega) rfl (pa_cons (pe_ix (ix_tupE (L := K)) (pv 5) pe_int (fun _ _ => rfl)) pa_nil)))))) pa_nil)))) (pss_one (ps_ret pe_bl)) pss_nil)
      (pss_cons (ps_if (pt_cmpR (op_neD hr.units) (LiI.pe_listItems rfl (pe_ix ix_tup (pv 0) pe_int (fun _ _ => rfl)) rfl T.f_list (by decide +kernel)) (pe_lc (own := [("_law_word_here", 4)]) (g := gName 4) (tt := tYes) rfl sc_f_law_same.nd (pi_list (pe_c0 (cal_f_law_words T) hr (by omega) rfl)) (blkOk_by (N := ["_law_found", "_law_held_here", "_law_marks", "_law_counts", "_law_word_here", "_law_one"]) (sc := defScope sf_law_same) (by decide +kernel)) (fun _ _ _ _ _ => pg_name (i := 4) sc_f_law_same.nd rfl (Or.inl rfl)) (fun _ _ _ _ _ => pts_nil) (fun _ _ _ _ _ => (pe_tup (pa_cons (pv 4) (pa_cons (pe_dget2 (hu_of hr) (pv 3) (pv 4) pe_int ⟨rfl, rfl, rfl, rfl⟩) pa_nil))))) (nomark _)) (pss_one (ps_ret pe_bl)) pss_nil)
      (pss_one (ps_ret (pe_callB (cr_all rfl) rfl T.f_all (by decide +kernel) (pa_cons (pe_lc (own := [("_law_word_here", 4)]) (g := gName 4) (tt := tYes) rfl sc_f_law_same.nd (pi_list (pe_op op_cat (pe_listVals rfl (pe_ix ix_tup (pv 0) pe_int (fun _ _ => rfl)) rfl T.f_list (by decide +kernel)) (pe_listVals rfl (pe_ix ix_tup (pv 0) pe_int (fun _ _ => rfl)) rfl T.f_list (by decide +kernel)))) (blkOk_by (N := ["_law_found", "_law_held_here", "_law_marks", "_law_counts", "_law_word_here", "_law_one"]) (sc := defScope sf_law_same) (by decide +kernel)) (fun _ _ _ _ _ => pg_name (i := 4) sc_f_law_same.nd rfl (Or.inl rfl)) (fun _ _ _ _ _ => pts_nil) (fun _ _ _ _ _ => (pe_c (cal_f_law_whole T) hr (by omega) rfl (pa_cons (pv 4) pa_nil)))) pa_nil))))))))), ?_⟩)
    · first
      | (obtain ⟨e, _⟩ := h; subst e; rfl)
      | (obtain ⟨_, e, _⟩ := h; subst e; rfl)
      | (obtain ⟨_, _, e, _⟩ := h; subst e; rfl)
      | (obtain ⟨_, _, _, e, _⟩ := h; subst e; rfl)
      | (obtain ⟨_, _, _, _, e, _⟩ := h; subst e; rfl)
      | (obtain ⟨_, _, _, _, _, e, _⟩ := h; subst e; rfl)
      | (obtain ⟨_, _, _, _, _, _, e, _⟩ := h; subst e; rfl)
      | (obtain ⟨_, _, _, _, _, _, _, e, _⟩ := h; subst e; rfl)
      | (obtain ⟨_, _, _, _, _, _, _, _, e, _⟩ := h; subst e; rfl)
      | (obtain ⟨_, _, _, _, _, _, _, _, _, e, _⟩ := h; subst e; rfl)
      | (obtain ⟨_, _, _, _, _, _, _, _, _, _, e, _⟩ := h; subst e; rfl)
      | (obtain ⟨_, _, _, _, _, _, _, _, _, _, _, e, _⟩ := h; subst e; rfl)
      | (obtain ⟨_, _, _, _, _, _, _, _, _, _, _, _, e, _⟩ := h; subst e; rfl)
      | (obtain ⟨_, _, _, _, _, _, _, _, _, _, _, _, _, e, _⟩ := h; subst e; rfl)
    · skip
      obtain ⟨q, a, b, c, h, m, d, w, s, rfl, g, k⟩ := h
      have hS : SqT K H q [.ref a, .ref b, .ref c] := SqT.of g.tup
      obtain ⟨vb, hb1, hb2⟩ := g.bm
      obtain ⟨vm, hm1, hm2⟩ := g.mm
      obtain ⟨cv, hd1, lc⟩ := g.dc
      have fl : ∀ p ∈ s.kv, valV s.kv p.1 = some p.2 ∧ flatB p.2 = true := fun p hp => ⟨mem_valV g.wk.nd hp, by
        obtain ⟨_, i, _, _, e, _⟩ := g.wk.ok p hp
        rw [e]
        rfl⟩
      refine ⟨_, rfl, _, _, _, _, _, rfl, .ty _, .base (.tup g.tup), kit_tt, _, rfl, iteF ?_⟩
      refine ⟨_, rfl, q, _, rfl, .inr hS, rfl, _, rfl, iteNf rfl ?_⟩
      refine ⟨_, rfl, q, _, _, _, rfl, rfl, hS, atI_nat (j := 0) rfl, _, _, _, _, _, rfl, .ty _, .base (.dK g.ad), kit_dd, _, rfl, iteF ?_⟩
      refine ⟨_, rfl, q, _, _, _, rfl, rfl, hS, atI_nat (j := 0) rfl, _, rfl, a, h, s.kv, s.kv, rfl, rfl, g.ad, g.hd, rfl, fl, _, rfl, iteF ?_⟩
      refine ⟨_, rfl, q, _, _, _, rfl, rfl, hS, atI_nat (j := 1) rfl, _, _, _, _, _, rfl, .ty _, .base (.lst hb1), kit_ll, _, rfl, iteF ?_⟩
      have fm := Fine.lst (mk_fine g.mo)
      refine ⟨_, rfl, q, _, _, _, rfl, rfl, hS, atI_nat (j := 1) rfl, _, rfl, .list (mkD s.ms), .list (mkD s.ms), .lst (SqL.of hb1) (mk_dp hb2), .lst (SqL.of hm1) (mk_dp hm2), fm.shaped (by omega), fm.shaped (by omega), _, rfl, ?_⟩
      rw [fm.eq_]
      refine iteF ⟨_, rfl, q, _, _, _, rfl, rfl, hS, atI_nat (j := 2) rfl, _, _, _, _, _, rfl, .ty _, .base (.dK g.cc), kit_dd, _, rfl, iteF ?_⟩
      refine ⟨_, rfl, q, _, _, _, rfl, rfl, hS, atI_nat (j := 1) rfl, b, rfl, ⟨vb, SqL.of hb1⟩, fun D hD => ?_⟩
      refine lc_list (K := K) (a := b) (xs := vb) (fun i H' => H' D = some (.lst ((List.replicate i true).map V.bl)) ∧ Same H H') ⟨upd_same, same_new hD⟩ ?_ ?_ ?_
      · rintro i H' _ ⟨_, s1⟩
        exact SqL.of (s1 _ _ hb1)
      · rintro i x H1 hi ⟨h1, s1⟩
        have hiv : i < vb.length := (List.getElem?_eq_some_iff.mp hi).1
        walk_at "rd"
        obtain ⟨p, j, z, rfl, hp⟩ := mk_at hb2 hi
        have hp1 := s1 _ _ hp
        refine ⟨_, _, _, _, _, rfl, .ty _, .base (.tup hp1), kit_tt, _, rfl, iteT ⟨_, rfl, p, _, _, _, rfl, rfl, SqT.of hp1, atI_nat (j := 0) rfl, .int j, rfl, trivial, _, h1, ?_, ?_, same_mut s1 hD⟩⟩
        · have := hb2.len
          have := g.ml
          exact lt_sz (by rw [List.length_map, List.length_replicate]; omega)
        · rw [upd_same, List.replicate_succ', List.map_append]
          rfl
      rintro H1 ⟨h1, s1⟩
      refine ⟨_, _, rfl, SqL.of h1, _, rfl, ?_⟩
      rw [show ((List.replicate vb.length true).all id) = true by simp]
      refine iteF ?_
      -- the items
      refine ⟨_, rfl, q, _, _, _, rfl, rfl, SqT.of (s1 _ _ g.tup), atI_nat (j := 2) rfl, c, cntD s.cn, rfl, s1 _ _ g.cc, fun H2 p ts kp hp hts npt hl hpair => ?_⟩
      have s2 : Same H H2 := s1.trans kp
      have ct2 := items_ct hpair
      refine ⟨rfl, fun H3 wl s3 _ hwl => ?_⟩
      have s23 := s2.trans s3
      refine ⟨wl, rfl, ⟨_, SqL.of hwl⟩, fun D2 hD2 => ?_⟩
      refine lc_list (K := K) (a := wl) (xs := words.map V.str) (fun i H' => Same H3 H' ∧ ∃ acc, H' D2 = some (.lst acc) ∧ CtL H' acc (cts s.cn (words.take i))) ⟨same_new hD2, [], upd_same, trivial⟩ ?_ ?_ ?_
      · rintro i H' _ ⟨t1, _⟩
        exact SqL.of (t1 _ _ hwl)
      · rintro i x H4 hi ⟨t1, acc, ha, hc4⟩
        obtain ⟨z, hz, rfl⟩ : ∃ z, words[i]? = some z ∧ x = V.str z := by
          rw [List.getElem?_map] at hi
          cases e : words[i]? with
          | none => rw [e] at hi; cases hi
          | some z => rw [e] at hi; exact ⟨z, rfl, (Option.some.inj hi).symm⟩
        have hzm : z ∈ words := List.mem_of_getElem? hz
        have hil : i < words.length := (List.getElem?_eq_some_iff.mp hz).1
        have h16 : words.length = 16 := rfl
        have hd4 := t1 _ _ (s23 _ _ hd1)
        walk_at "rd"
        refine ⟨.inl ⟨_, .inl hd4⟩, _, rfl, _, DGet.k (k := Sum.inr z) hd4, ?_⟩
        rw [lc.get hzm]
        refine ⟨le_sz (Nat.le_of_ble_eq_true rfl), fun t ht => ?_⟩
        have t2 := same_new (o := .tup [.str z, .int (s.cn z)]) ht
        have hla := hc4.len
        have ntD : t ≠ D2 := (ne_of_none ha ht).symm
        refine ⟨acc, t2 _ _ ha, lt_sz (by rw [hla]; unfold cts; rw [List.length_map, List.length_take]; omega), same_mut (t1.trans t2) hD2, acc ++ [.ref t], upd_same, ?_⟩
        have et : cts s.cn (words.take (i + 1)) = cts s.cn (words.take i) ++ [(z, s.cn z)] := by
          unfold cts
          rw [take_snoc hz, List.map_append]
          rfl
        rw [et]
        refine CtL.app (ws := [V.ref t]) (ns := [(z, s.cn z)]) ⟨⟨t, rfl, by rw [upd_ne ntD]; exact upd_same⟩, trivial⟩ (hc4.mono fun p ys e => ?_)
        rw [upd_ne (ne_of e ha (by intro z; cases z))]
        exact t2 _ _ e
      rintro H4 ⟨t1, acc, ha, hc4⟩
      rw [List.length_map, List.take_length] at hc4
      have fc := Fine.lst (ct_fine (cts_ok (cn := s.cn)))
      have s34 := s3.trans t1
      refine ⟨.list (ctD (cts s.cn words)), .list (ctD (cts s.cn words)), .lst (SqL.of (s34 _ _ hl)) (ct2.mono fun p ys e => s34 _ _ e).dp, .lst (SqL.of ha) hc4.dp, fc.shaped (by omega), fc.shaped (by omega), _, rfl, ?_⟩
      rw [fc.eq_]
      refine iteF ?_
      have s4 := s2.trans s34
      have hS4 : SqT K H4 q [.ref a, .ref b, .ref c] := SqT.of (s4 _ _ g.tup)
      refine ⟨_, rfl, q, _, _, _, rfl, rfl, hS4, atI_nat (j := 0) rfl, a, s.kv, rfl, s4 _ _ g.ad, fun p1 hp1 => ?_⟩
      have s5 := s4.trans (same_new (o := .lst (s.kv.map (·.2))) hp1)
      refine ⟨_, rfl, q, _, _, _, rfl, rfl, SqT.of (s5 _ _ g.tup), atI_nat (j := 2) rfl, c, cntD s.cn, rfl, s5 _ _ g.cc, fun p2 hp2 => ?_⟩
      have s6 := s5.trans (same_new (o := .lst ((cntD s.cn).map (·.2))) hp2)
      have hints : ∀ x ∈ s.kv.map (·.2) ++ (cntD s.cn).map (·.2), ∃ j : Int, x = .int j := fun x hx => by
        rcases List.mem_append.mp hx with hx | hx
        · obtain ⟨pp, hpp, e⟩ := List.mem_map.mp hx
          obtain ⟨_, j, _, _, e2, _⟩ := g.wk.ok pp hpp
          exact ⟨j, by rw [← e, e2]⟩
        · obtain ⟨pp, hpp, e⟩ := List.mem_map.mp hx
          obtain ⟨z, _, e2⟩ := List.mem_map.mp hpp
          exact ⟨s.cn z, by rw [← e, ← e2]⟩
      have hll : (s.kv.map (·.2) ++ (cntD s.cn).map (·.2)).length ≤ 20000 := by
        have := g.kl
        have := cnt_len s.cn
        rw [List.length_append, List.length_map, List.length_map]
        omega
      refine ⟨p1, p2, _, _, rfl, rfl, same_new hp2 _ _ upd_same, upd_same, Nat.le_of_lt (lt_sz (by rw [← List.length_append]; omega)), fun p3 hp3 => ?_⟩
      have s7 := s6.trans (same_new (o := .lst (s.kv.map (·.2) ++ (cntD s.cn).map (·.2))) hp3)
      have h3 : (upd (upd (upd H4 p1 (.lst (s.kv.map (·.2)))) p2 (.lst ((cntD s.cn).map (·.2)))) p3 (.lst (s.kv.map (·.2) ++ (cntD s.cn).map (·.2)))) p3 = some (.lst (s.kv.map (·.2) ++ (cntD s.cn).map (·.2))) := upd_same
      generalize upd (upd (upd H4 p1 (.lst (s.kv.map (·.2)))) p2 (.lst ((cntD s.cn).map (·.2)))) p3 (.lst (s.kv.map (·.2) ++ (cntD s.cn).map (·.2))) = H7 at s7 h3 ⊢
      generalize s.kv.map (·.2) ++ (cntD s.cn).map (·.2) = vals at hints hll h3
      refine ⟨p3, rfl, ⟨_, SqL.of h3⟩, fun D3 hD3 => ?_⟩
      refine lc_list (K := K) (a := p3) (xs := vals) (fun i H' => H' D3 = some (.lst ((List.replicate i true).map V.bl)) ∧ Same H7 H') ⟨upd_same, same_new hD3⟩ ?_ ?_ ?_
      · rintro i H' _ ⟨_, t1⟩
        exact SqL.of (t1 _ _ h3)
      · rintro i x H8 hi ⟨h8, t1⟩
        have hiv : i < vals.length := (List.getElem?_eq_some_iff.mp hi).1
        obtain ⟨j, rfl⟩ := hints x (List.mem_of_getElem? hi)
        walk_at "rd"
        refine ⟨_, h8, ?_, ?_, same_mut t1 hD3⟩
        · exact lt_sz (by rw [List.length_map, List.length_replicate]; omega)
        · rw [upd_same, List.replicate_succ', List.map_append]
          rfl
      rintro H8 ⟨h8, t1⟩
      refine ⟨_, _, rfl, SqL.of h8, ?_⟩
      rw [show ((List.replicate vals.length true).all id) = true by simp]
      exact k _ (s7.trans t1)
  exact ⟨_, fd, _, [], G, T.g__law_same, F.kp, F.bindsN (fun _ _ _ _ _ _ us hl => match us, hl with | [_, _, _, _], _ => rfl), .nil⟩
end
end K73

set_option maxHeartbeats 4000000
/-! the law's own checks: costs -/
namespace K73
open PySem PySem.Spec PyProof.Rows L2
open C8 (Cal Mak Met pe_c pe_mk pe_mt pe_mt0 pe_gc)
local macro_rules | `(tactic| walk_at "rd") => `(tactic| repeat (first | refine ⟨_, rfl, ?_⟩ | refine ⟨_, _, rfl, rfl, ?_⟩ | refine ⟨_, rfl, rfl, ?_⟩ | refine ⟨_, _, rfl, ?_⟩ | refine ⟨_, _, _, rfl, ?_⟩ | refine ⟨_, _, _, _, rfl, ?_⟩ | refine And.intro rfl ?_ | refine And.intro trivial ?_ | refine And.intro (le_sz (Nat.le_of_ble_eq_true rfl)) ?_ | refine And.intro (le_sz (by omega)) ?_ | refine iteT ?_ | refine iteF ?_ | refine iteDt (by omega) ?_ | refine iteDf (by omega) ?_ | refine iteNt (by omega) ?_ | refine iteNf (by omega) ?_ | refine And.intro (by omega) ?_ | refine ⟨_, _, _, _, _, rfl, .ty _, .base (.str _), kit_ss, ?_⟩ | refine ⟨_, _, _, _, _, rfl, .ty _, .base (.lst (by assumption)), kit_ll, ?_⟩ | refine ⟨_, _, _, _, _, rfl, .ty _, .base (.dK (by assumption)), kit_dd, ?_⟩ | refine ⟨_, _, _, _, _, rfl, .ty _, .base (.tup (by assumption)), kit_tt, ?_⟩))

section
variable {X : Cx} {j : Nat} {e : Expr} {es : List Expr} {t : TA} {p pos : Pos} {E : XK}
theorem pe_cost (T : Txt X.K X.mg) (hr : Room j X.A) (hk : 12 ≤ j) (hg : Gl X "cost_of") (hx : Passes (L2.CX X.prog X.w) X E) (ha : PA X (e :: es) t) (he : starEach (e :: es) X.env = (false, eval e X.env) :: starEach es X.env := by rfl) (hpl : (backTo pos (starEach es X.env)).any (·.1) = false := by rfl) :
    PE X (.Call (.Name "cost_of" p) (e :: es) [] pos) (tCall (spCost X.K) [] E t) := by
  obtain ⟨fd, F, b, kp⟩ := fnk_f_cost_of (P := X.prog) (w := X.w) (base := X.base) T
  exact pe_call F (hr.mono hk) hg T.g_cost_of kp b .nil hx ha (by decide) he hpl
end
theorem valV_appL {κ : Type} [DecidableEq κ] {a b : List (κ × V)} {k : κ} {v : V} (h : valV a k = some v) : valV (a ++ b) k = some v := by
  unfold valV at h ⊢
  rw [List.find?_append]
  cases e : a.find? (fun kv => decide (kv.1 = k)) with
  | none => rw [e] at h; cases h
  | some p => rw [e] at h; exact h
def ItOk (ps : List (Key × V)) : Prop := ∀ p ∈ ps, ∃ z, p.1 = Sum.inr z ∧ PyData.strOk z = true ∧ Sm p.2
def itD (ps : List (Key × V)) : List PyData := ps.map fun p => .tuple ([kV p.1, p.2].map vD)
theorem it_sm {p : Key × V} (h : ∃ z, p.1 = Sum.inr z ∧ PyData.strOk z = true ∧ Sm p.2) : ∀ v ∈ [kV p.1, p.2], Sm v := by
  obtain ⟨z, e, hz, hs⟩ := h
  intro v hv
  rcases List.mem_cons.mp hv with rfl | hv
  · rw [e]
    exact .inr (.inr ⟨z, rfl, hz⟩)
  · rw [List.mem_singleton.mp hv]
    exact hs
theorem items_dp {K : PySem.W.Frag} {H : Hp} : ∀ {ps : List (Key × V)} {ts : List Addr}, ItOk ps → Paired (fun (t : Addr) (q : Key × V) => H t = some (.tup [kV q.1, q.2])) ts ps → DpAll K H (ts.map V.ref) (itD ps)
  | [], _, _, h => by
    cases h
    exact .nil
  | p :: ps, _, ok, h => by
    cases h with
    | cons h1 h2 => exact .cons (.tup (SqT.of h1) (sm_all (it_sm (ok p (List.mem_cons_self ..)))).1) (items_dp (fun q hq => ok q (List.mem_cons_of_mem _ hq)) h2)
theorem it_fine : ∀ {ps : List (Key × V)}, ItOk ps → FineAll 1 (itD ps)
  | [], _ => FineAll.nil _
  | p :: ps, ok => FineAll.cons (Fine.tup (sm_all (K := []) (H := fun _ => none) (it_sm (ok p (List.mem_cons_self ..)))).2) (it_fine fun q hq => ok q (List.mem_cons_of_mem _ hq))
def rwd : List Str := words.reverse
theorem rwd_nd : rwd.Nodup := by decide +kernel
theorem rwd_mem {z : Str} : z ∈ rwd ↔ z ∈ words := List.mem_reverse
theorem end_out : ("end" : Str) ∉ rwd := by decide +kernel
theorem wordz_ok {z : Str} (h : z ∈ words) : PyData.strOk z = true := by
  obtain ⟨c, _, e⟩ := List.mem_map.mp h
  rw [← e]
  exact wd_ok c
def prc (price : Str → Int) (l : List Str) : List (Key × V) := l.map fun z => ((Sum.inr z : Key), V.int (price z))
theorem prc_put {price : Str → Int} {l : List Str} {z : Str} {v : Int} (h : z ∉ l) : putK (prc price l) (Sum.inr z) (.int v) = prc (fun y => if y = z then v else price y) (l ++ [z]) := by
  unfold prc
  rw [putK_new _ (valV_outV (f := fun y => V.int (price y)) _ h), List.map_append]
  congr 1
  · refine List.map_congr_left fun y hy => ?_
    have n : ¬ y = z := fun e => h (by rw [← e]; exact hy)
    show (Sum.inr y, V.int (price y)) = (Sum.inr y, V.int (if y = z then v else price y))
    rw [if_neg n]
  · show [(Sum.inr z, V.int v)] = [(Sum.inr z, V.int (if z = z then v else price z))]
    rw [if_pos rfl]
section
variable {P : Program} {w : World} {K : PySem.W.Frag} {mg : Str → Option Value} {base : Heap}
structure CostIn (K : PySem.W.Frag) (G H : Hp) (l : Addr) (xs : List V) (F : Fo) (w : Nat) (st : Addr) : Prop where
  steps : StepsIn K G l xs F w
  dep : F.depth ≤ 5
  s : Same G H
  g : G st = none
  d3 : D3 H st
def spLCosts (K : PySem.W.Frag) : Sp := fun vs H Q _ => ∃ (G : Hp) (l st c : Addr) (xs : List V) (F : Fo) (w : Nat) (cv : List (Key × V)) (cn : Str → Int), vs = [.int w, .ref l, .ref st, .ref c] ∧ CostIn K G H l xs F w st ∧ G c = some (.dK cv) ∧ LawC cv cn ∧ (∀ f, wsum f cn = F.ps f) ∧ ∀ H', But st H H' → Q (.bl true) H'
theorem sc_f_law_costs : FnScope ["_law_width", "_law_steps", "_law_state", "_law_counts", "_law_prices", "_law_word_here", "_law_kept", "_law_found", "_law_due"] ["_law_width", "_law_steps", "_law_state", "_law_counts"] (defScope sf_law_costs) := ⟨rfl, rfl, rfl, by decide +kernel, rfl, by decide +kernel, by decide +kernel⟩
theorem cal_f_law_costs (T : Txt K mg) : Cal P w K mg base (13) "_law_costs" (spLCosts K) [] := by
  obtain ⟨fd, F0⟩ := T.c.d.def_ 103 (d := df_law_costs) rfl
  have F : FunD K "_law_costs" "_law_costs" (defArgs sf_law_costs) (defBody sf_law_costs) (defScope sf_law_costs) [] [] (He.fAd K df_law_costs.at_) fd := F0
  have G : FnOk P w K mg base CX0 13 (He.fAd K df_law_costs.at_) fd ["_law_width", "_law_steps", "_law_state", "_law_counts"] (spLCosts K) := by
    refine F.ok (CX := CX0) sc_f_law_costs (fun vs H Q E h => ?_) (fun cdv A outer s H vs Q E hr h => ⟨_, PSs.nox (by exact (pss_cons (ps_set (i := 4) sc_f_law_costs.nd rfl (Or.inl rfl) pe_dnewK)
      (pss_cons (ps_for PassesOwn.never rfl (pi_list (pe_revL (pe_c0 (cal_f_law_words T) hr (by omega) rfl))) (pg_name (i := 5) sc_f_law_costs.nd rfl (Or.inl rfl)) (pss_one (ps_dput (hu_of hr) (pv 4) (pv 5) (pe_ix ix_list (pe_lst (pa_cons (pe_c (cal_f_law_draw T) hr (by omega) rfl (pa_cons (pv 2) (pa_cons pe_int pa_nil))) (pa_cons (pe_c (cal_f_law_draw T) hr (by omega) rfl (pa_cons (pv 2) (pa_cons pe_int pa_nil))) (pa_cons pe_int pa_nil)))) (pe_c (cal_f_law_draw T) hr (by omega) rfl (pa_cons (pv 2) (pa_cons pe_int pa_nil))) (fun _ _ => rfl)) rfl)))
      (pss_cons (ps_dput (hu_of hr) (pv 4) pe_str pe_str rfl)
      (pss_cons (ps_set (i := 6) sc_f_law_costs.nd rfl (Or.inr rfl) (pe_callTy call_dictD rfl T.f_dict (by decide +kernel) (pa_cons (pv 4) pa_nil)))
      (pss_cons (ps_set (i := 7) sc_f_law_costs.nd rfl (Or.inl rfl) (pe_cost T hr (by omega) rfl passL (pa_cons (pv 0) (pa_cons (pv 1) (pa_cons (pv 4) pa_nil)))))
      (pss_cons (ps_set (i := 8) sc_f_law_costs.nd rfl (Or.inl rfl) (pe_callB (cr_sum rfl) rfl T.f_sum (by decide +kernel) (pa_cons (pe_lc (own := [("_law_word_here", 5)]) (g := gName 5) (tt := tYes) rfl sc_f_law_costs.nd (pi_list (pe_c0 (cal_f_law_words T) hr (by omega) rfl)) (blkOk_by (N := ["_law_width", "_law_steps", "_law_state", "_law_counts", "_law_prices", "_law_word_here", "_law_kept", "_law_found", "_law_due"]) (sc := defScope sf_law_costs) (by decide +kernel)) (fun _ _ _ _ _ => pg_name (i := 5) sc_f_law_costs.nd rfl (Or.inl rfl)) (fun _ _ _ _ _ => pts_nil) (fun _ _ _ _ _ => (pe_op op_mul (pe_dget (hu_of hr) (pv 6) (pv 5) (fun _ _ => rfl)) (pe_dget2 (hu_of hr) (pv 3) (pv 5) pe_int ⟨rfl, rfl, rfl, rfl⟩)))) pa_nil)))
      (pss_one (ps_ret (pe_and (pe_c (cal_f_law_whole T) hr (by omega) rfl (pa_cons (pv 7) pa_nil)) (pe_and (pe_cmpR op_eq (pv 7) (pv 8) (nomark _)) (pe_one (pe_cmpR (op_eqD hr.units) (LiI.pe_listItems rfl (pv 4) rfl T.f_list (by decide +kernel)) (LiI.pe_listItems rfl (pv 6) rfl T.f_list (by decide +kernel)) (nomark _)))))))))))))), ?_⟩)
    · first
      | (obtain ⟨e, _⟩ := h; subst e; rfl)
      | (obtain ⟨_, e, _⟩ := h; subst e; rfl)
      | (obtain ⟨_, _, e, _⟩ := h; subst e; rfl)
      | (obtain ⟨_, _, _, e, _⟩ := h; subst e; rfl)
      | (obtain ⟨_, _, _, _, e, _⟩ := h; subst e; rfl)
      | (obtain ⟨_, _, _, _, _, e, _⟩ := h; subst e; rfl)
      | (obtain ⟨_, _, _, _, _, _, e, _⟩ := h; subst e; rfl)
      | (obtain ⟨_, _, _, _, _, _, _, e, _⟩ := h; subst e; rfl)
      | (obtain ⟨_, _, _, _, _, _, _, _, e, _⟩ := h; subst e; rfl)
      | (obtain ⟨_, _, _, _, _, _, _, _, _, e, _⟩ := h; subst e; rfl)
      | (obtain ⟨_, _, _, _, _, _, _, _, _, _, e, _⟩ := h; subst e; rfl)
      | (obtain ⟨_, _, _, _, _, _, _, _, _, _, _, e, _⟩ := h; subst e; rfl)
      | (obtain ⟨_, _, _, _, _, _, _, _, _, _, _, _, e, _⟩ := h; subst e; rfl)
      | (obtain ⟨_, _, _, _, _, _, _, _, _, _, _, _, _, e, _⟩ := h; subst e; rfl)
    · skip
      obtain ⟨G, l, st, c, xs, F, w, cv, cn, rfl, ci, hc, lc, hw, k⟩ := h
      have nD0 : ∀ {p : Addr}, H p = none → p ≠ st := fun h => ci.d3.ne h
      intro D hD
      have nD := nD0 hD
      have b0 : But st H (upd H D (.dK [])) := (But.refl ci.d3).mut ci.d3 hD
      refine ⟨rfl, fun H1 wl s1 fw hwl => ⟨wl, _, rfl, SqL.of hwl, fun rl hrl => ?_⟩⟩
      rw [← List.map_reverse]
      have b1 := (b0.same s1).same (same_new (o := .lst (rwd.map V.str)) hrl)
      have nrl : rl ≠ st := (b0.same s1).d3.ne hrl
      have nrD : rl ≠ D := (ne_of_none (s1 _ _ upd_same) hrl).symm
      refine ⟨rl, rfl, ⟨_, SqL.of upd_same⟩, for_list (K := K) (a := rl) (xs := rwd.map V.str) (fun i σ H' => (∃ v5 v6 v7 v8 : Option V, σ = [some (.int w), some (.ref l), some (.ref st), some (.ref c), some (.ref D), v5, v6, v7, v8]) ∧ But st H H' ∧ H' rl = some (.lst (rwd.map V.str)) ∧ ∃ price : Str → Int, H' D = some (.dK (prc price (rwd.take i))) ∧ ∀ z, 0 ≤ price z ∧ price z ≤ 1000) ?_ ?_ ?_ ?_⟩
      · exact ⟨⟨_, _, _, _, rfl⟩, b1, upd_same, fun _ => 0, same_new hrl _ _ (s1 _ _ upd_same), fun z => ⟨Int.le_refl _, (by decide : (0 : Int) ≤ 1000)⟩⟩
      · rintro i σ H' _ ⟨_, _, h, _⟩
        exact SqL.of h
      · rintro i x σ H2 hi ⟨⟨v5, v6, v7, v8, rfl⟩, b2, hr2, price, hD2, hpr⟩
        obtain ⟨z, hz, rfl⟩ : ∃ z, rwd[i]? = some z ∧ x = V.str z := by
          rw [List.getElem?_map] at hi
          cases e : rwd[i]? with
          | none => rw [e] at hi; cases hi
          | some z => rw [e] at hi; exact ⟨z, rfl, (Option.some.inj hi).symm⟩
        have hil : i < rwd.length := (List.getElem?_eq_some_iff.mp hz).1
        have h16 : rwd.length = 16 := rfl
        refine ⟨_, rfl, st, 1001, rfl, b2.d3, by omega, fun H3 j3 c3 h3 => ⟨_, rfl, st, 7, rfl, c3.d3, by omega, fun H4 j4 c4 h4 => ⟨le_sz (Nat.le_of_ble_eq_true rfl), fun E2 hE => ?_⟩⟩⟩
        have b4 := ((b2.trans c3).trans c4).same (same_new (o := .lst [.int j3, .int j4, .int 1000]) hE)
        have nE := c4.d3.ne hE
        refine ⟨_, rfl, st, 3, rfl, b4.d3, by omega, fun H5 j5 c5 h5 => ?_⟩
        obtain ⟨v, hv, ev⟩ : ∃ v : Int, (0 ≤ v ∧ v ≤ 1000) ∧ [V.int (j3 : Int), V.int (j4 : Int), V.int 1000][j5]? = some (.int v) := by
          obtain rfl | rfl | rfl : j5 = 0 ∨ j5 = 1 ∨ j5 = 2 := by omega
          · exact ⟨j3, by omega, rfl⟩
          · exact ⟨j4, by omega, rfl⟩
          · exact ⟨1000, by omega, rfl⟩
        have b5 := b4.trans c5
        have hD5 : H5 D = some (.dK (prc price (rwd.take i))) := c5.kp D _ nD (same_new hE _ _ (c4.kp D _ nD (c3.kp D _ nD hD2)))
        have hr5 : H5 rl = some (.lst (rwd.map V.str)) := c5.kp rl _ nrl (same_new hE _ _ (c4.kp rl _ nrl (c3.kp rl _ nrl hr2)))
        refine ⟨E2, _, _, _, rfl, rfl, SqL.of (c5.kp E2 _ nE upd_same), atI_nat ev, _, rfl, _, rfl, D, _, rfl, DPut.k (k := Sum.inr z) hD5 (lt_sz (by unfold prc; rw [List.length_map, List.length_take]; omega)), ⟨_, _, _, _, rfl⟩, b5.mut ci.d3 hD, by rw [upd_ne nrD]; exact hr5, fun y => if y = z then v else price y, ?_, fun y => ?_⟩
        · rw [upd_same, prc_put (nd_take rwd_nd hz), take_snoc hz]
        · show 0 ≤ (if y = z then v else price y) ∧ (if y = z then v else price y) ≤ 1000
          split
          · exact hv
          · exact hpr y
      rintro σ H2 ⟨⟨v5, v6, v7, v8, rfl⟩, b2, hr2, price, hD2, hpr⟩
      rw [List.length_map, List.take_length] at hD2
      have h16 : rwd.length = 16 := rfl
      have hput : putK (prc price rwd) (Sum.inr ("end" : Str)) (V.str "x") = prc price rwd ++ [(Sum.inr ("end" : Str), V.str "x")] := putK_new _ (valV_outV (f := fun y => V.int (price y)) _ end_out)
      refine ⟨_, rfl, D, _, rfl, DPut.k (k := Sum.inr ("end" : Str)) hD2 (lt_sz (by unfold prc; rw [List.length_map]; omega)), ?_⟩
      rw [hput]
      have b3 := b2.mut ci.d3 hD (o := .dK (prc price rwd ++ [(Sum.inr ("end" : Str), V.str "x")]))
      have hD3 : (upd H2 D (.dK (prc price rwd ++ [(Sum.inr ("end" : Str), V.str "x")]))) D = some (.dK (prc price rwd ++ [(Sum.inr ("end" : Str), V.str "x")])) := upd_same
      generalize upd H2 D (.dK (prc price rwd ++ [(Sum.inr ("end" : Str), V.str "x")])) = H3 at b3 hD3 ⊢
      have hok : ItOk (prc price rwd ++ [(Sum.inr ("end" : Str), V.str "x")]) := fun p hp => by
        rcases List.mem_append.mp hp with hp | hp
        · obtain ⟨z, hz, e⟩ := List.mem_map.mp hp
          exact ⟨z, by rw [← e], wordz_ok (rwd_mem.mp hz), .inr (.inl ⟨price z, by rw [← e]⟩)⟩
        · rw [List.mem_singleton.mp hp]
          exact ⟨"end", rfl, by decide +kernel, .inr (.inr ⟨"x", rfl, by decide +kernel⟩)⟩
      have hval : ∀ z ∈ words, valV (prc price rwd ++ [(Sum.inr ("end" : Str), V.str "x")]) (Sum.inr z) = some (.int (price z)) := fun z hz => valV_appL (valV_priceD (f := fun y => V.int (price y)) rwd (rwd_mem.mpr hz))
      generalize prc price rwd ++ [(Sum.inr ("end" : Str), V.str "x")] = ps at hD3 hok hval ⊢
      refine ⟨_, rfl, D, ps, rfl, .inl hD3, fun kd hkd => ?_⟩
      have s4 := same_new (o := .dK ps) hkd
      have b4 := b3.same s4
      have hk4 : (upd H3 kd (.dK ps)) kd = some (.dK ps) := upd_same
      have hD4 := s4 _ _ hD3
      generalize upd H3 kd (.dK ps) = H4 at b4 hk4 hD4 ⊢
      refine ⟨_, rfl, _, rfl, _, rfl, w, l, D, xs, F, ps, fun z => .int (price z), rfl, ci.steps.same (b4.sub ci.s ci.g), ci.dep, hD4, fun z hz => ⟨hval z hz, trivial⟩, .inl ⟨price, fun z hz => ⟨rfl, hpr z⟩, fun H5 s5 => ?_⟩⟩
      refine ⟨rfl, fun H6 w2 s6 _ hw2 => ⟨w2, rfl, ⟨_, SqL.of hw2⟩, fun D2 hD2' => ?_⟩⟩
      have s56 := s5.trans s6
      have hc6 : H6 c = some (.dK cv) := s56 _ _ (b4.sub ci.s ci.g _ _ hc)
      refine lc_list (K := K) (a := w2) (xs := words.map V.str) (fun i H' => Same H6 H' ∧ H' D2 = some (.lst (((words.take i).map fun z => price z * cn z).map V.int))) ⟨same_new hD2', upd_same⟩ ?_ ?_ ?_
      · rintro i H' _ ⟨t1, _⟩
        exact SqL.of (t1 _ _ hw2)
      · rintro i x H7 hi ⟨t1, h7⟩
        walk_at "rd"
        obtain ⟨z, hz, rfl⟩ : ∃ z, words[i]? = some z ∧ x = V.str z := by
          rw [List.getElem?_map] at hi
          cases e : words[i]? with
          | none => rw [e] at hi; cases hi
          | some z => rw [e] at hi; exact ⟨z, rfl, (Option.some.inj hi).symm⟩
        have hzm : z ∈ words := List.mem_of_getElem? hz
        have hil : i < words.length := (List.getElem?_eq_some_iff.mp hz).1
        have h16w : words.length = 16 := rfl
        have hc7 := t1 _ _ hc6
        have hg : DGet H7 kd (kV (Sum.inr z)) (some (.int (price z))) := by rw [← hval z hzm]; exact DGet.k (t1 _ _ (s56 _ _ hk4))
        refine ⟨kd, _, rfl, hg, _, rfl, c, rfl, .inl ⟨_, .inl hc7⟩, _, rfl, _, DGet.k (k := Sum.inr z) hc7, ?_⟩
        rw [lc.get hzm]
        have pz := hpr z
        have cm : CMul (price z) (cn z) := .inl ⟨by omega, by omega⟩
        refine ⟨_, _, rfl, rfl, cm, _, h7, lt_sz (by rw [List.length_map, List.length_map, List.length_take]; omega), same_mut t1 hD2', ?_⟩
        rw [upd_same, take_snoc hz, List.map_append, List.map_append]
        rfl
      rintro H7 ⟨t1, h7⟩
      rw [List.length_map, List.take_length] at h7
      refine ⟨_, _, rfl, SqL.of h7, ?_⟩
      have e1 : V.int (F.ps price) = V.int (words.map fun z => price z * cn z).sum := by rw [← hw price]; rfl
      have s57 := s56.trans t1
      have fi := Fine.lst (it_fine hok)
      refine ⟨_, rfl, _, rfl, trivial, _, rfl, iteT ⟨_, rfl, _, rfl, rfl, _, rfl, iteDt e1 ?_⟩⟩
      refine ⟨_, rfl, D, ps, rfl, s57 _ _ hD4, fun H8 p8 ts8 k8 _ _ _ hl8 hp8 => ?_⟩
      refine ⟨_, rfl, kd, ps, rfl, k8 _ _ (s57 _ _ hk4), fun H9 p9 ts9 k9 _ _ _ hl9 hp9 => ?_⟩
      have d9 := items_dp (K := K) hok hp9
      refine ⟨.list (itD ps), .list (itD ps), .lst (SqL.of (k9 _ _ hl8)) ?_, .lst (SqL.of hl9) d9, fi.shaped (by omega), fi.shaped (by omega), ?_⟩
      · exact items_dp (K := K) hok (Paired.mapP hp8 fun _ _ z => k9 _ _ z)
      rw [fi.eq_]
      exact k _ ((b4.same s57).same fun b o e => k9 _ _ (k8 _ _ e))
  exact ⟨_, fd, _, [], G, T.g__law_costs, F.kp, F.bindsN (fun _ _ _ _ _ _ us hl => match us, hl with | [_, _, _, _], _ => rfl), .nil⟩
end
end K73

set_option maxHeartbeats 4000000
/-! the law's own checks: a bad price -/
namespace K73
open PySem PySem.Spec PyProof.Rows L2
open C8 (Cal Mak Met pe_c pe_mk pe_mt pe_mt0 pe_gc)
local macro_rules | `(tactic| walk_at "rd") => `(tactic| repeat (first | refine ⟨_, rfl, ?_⟩ | refine ⟨_, _, rfl, rfl, ?_⟩ | refine ⟨_, rfl, rfl, ?_⟩ | refine ⟨_, _, rfl, ?_⟩ | refine ⟨_, _, _, rfl, ?_⟩ | refine ⟨_, _, _, _, rfl, ?_⟩ | refine And.intro rfl ?_ | refine And.intro trivial ?_ | refine And.intro (le_sz (Nat.le_of_ble_eq_true rfl)) ?_ | refine And.intro (le_sz (by omega)) ?_ | refine iteT ?_ | refine iteF ?_ | refine iteDt (by omega) ?_ | refine iteDf (by omega) ?_ | refine iteNt (by omega) ?_ | refine iteNf (by omega) ?_ | refine And.intro (by omega) ?_ | refine ⟨_, _, _, _, _, rfl, .ty _, .base (.str _), kit_ss, ?_⟩ | refine ⟨_, _, _, _, _, rfl, .ty _, .base (.lst (by assumption)), kit_ll, ?_⟩ | refine ⟨_, _, _, _, _, rfl, .ty _, .base (.dK (by assumption)), kit_dd, ?_⟩ | refine ⟨_, _, _, _, _, rfl, .ty _, .base (.tup (by assumption)), kit_tt, ?_⟩))

section
variable {X : Cx} {j : Nat} {e : Expr} {es : List Expr} {t : TA} {p pos : Pos} {W : WX}
theorem pe_costS (T : Txt X.K X.mg) (hr : Room j X.A) (hk : 12 ≤ j) (hg : Gl X "cost_of") (tk : Takes X W) (ha : PA X (e :: es) t) (he : starEach (e :: es) X.env = (false, eval e X.env) :: starEach es X.env := by rfl) (hpl : (backTo pos (starEach es X.env)).any (·.1) = false := by rfl) :
    PE X (.Call (.Name "cost_of" p) (e :: es) [] pos) (tCallS (spCost X.K) (WE W) t) := by
  obtain ⟨fd, F, b, kp⟩ := fnk_f_cost_of (P := X.prog) (w := X.w) (base := X.base) T
  exact pe_callS F (hr.mono hk) hg T.g_cost_of kp b (fun σ => passAt tk σ) ha (by decide) he hpl
end
section
variable {K : PySem.W.Frag} {mg : Str → Option Value} (T : Txt K mg)
include T
theorem Txt.xf : XfC K (NpA K) := ⟨of_decide_eq_true T.ex_115, of_decide_eq_true T.ex_116, T.oex.exC, T.ex_117⟩
end
section
variable {P : Program} {w : World} {K : PySem.W.Frag} {mg : Str → Option Value} {base : Heap}
def spLDear (K : PySem.W.Frag) : Sp := fun vs H Q _ => ∃ (G : Hp) (l st : Addr) (xs : List V) (F : Fo) (w : Nat), vs = [.ref st, .int w, .ref l] ∧ CostIn K G H l xs F w st ∧ ∀ H', But st H H' → Q (.bl true) H'
theorem sc_f_law_dear : FnScope ["_law_state", "_law_width", "_law_steps", "_law_prices", "_law_word_here", "_law_bad", "e"] ["_law_state", "_law_width", "_law_steps"] (defScope sf_law_dear) := ⟨rfl, rfl, rfl, by decide +kernel, rfl, by decide +kernel, by decide +kernel⟩
theorem cal_f_law_dear (T : Txt K mg) : Cal P w K mg base (13) "_law_dear" (spLDear K) [] := by
  obtain ⟨fd, F0⟩ := T.c.d.def_ 104 (d := df_law_dear) rfl
  have F : FunD K "_law_dear" "_law_dear" (defArgs sf_law_dear) (defBody sf_law_dear) (defScope sf_law_dear) [] [] (He.fAd K df_law_dear.at_) fd := F0
  have G : FnOk P w K mg base CX0 13 (He.fAd K df_law_dear.at_) fd ["_law_state", "_law_width", "_law_steps"] (spLDear K) := by
    refine F.ok (CX := CX0) sc_f_law_dear (fun vs H Q E h => ?_) (fun cdv A outer s H vs Q E hr h => ⟨_, PSs.nox (by exact (pss_cons (ps_set (i := 3) sc_f_law_dear.nd rfl (Or.inl rfl) pe_dnewK)
      (pss_cons (ps_for PassesOwn.never rfl (pi_list (pe_c0 (cal_f_law_words T) hr (by omega) rfl)) (pg_name (i := 4) sc_f_law_dear.nd rfl (Or.inl rfl)) (pss_one (ps_dput (hu_of hr) (pv 3) (pv 4) pe_int rfl)))
      (pss_cons (ps_set (i := 5) sc_f_law_dear.nd rfl (Or.inl rfl) (pe_ix ix_list (pe_lst (pa_cons (pe_op op_sub pe_int pe_int) (pa_cons pe_int (pa_cons pe_bl (pa_cons pe_non (pa_cons pe_str (pa_cons (pe_lst (pa_cons pe_int pa_nil)) (pa_cons (pe_op op_pow pe_int pe_int) pa_nil)))))))) (pe_c (cal_f_law_draw T) hr (by omega) rfl (pa_cons (pv 0) (pa_cons pe_int pa_nil))) (fun _ _ => rfl)))
      (pss_cons (ps_dput (hu_of hr) (pv 3) (pe_ix ix_list (pe_c0 (cal_f_law_words T) hr (by omega) rfl) (pe_c (cal_f_law_draw T) hr (by omega) rfl (pa_cons (pv 0) (pa_cons pe_int pa_nil))) (fun _ _ => rfl)) (pv 5) rfl)
      (pss_cons (ps_try_as (i := 6) (tb := fun W => tDrop (tCallS (spCost K) (WE W) (tCons (tVar 1) (tCons (tVar 2) (tCons (tVar 3) tNil))))) (ts := fun a cls d => tRet (tOp rEqId (tXf a cls d (NpA K) "found" (tVar 6)) (tVar 3))) (Wout := fun _ _ _ _ => False) rfl rfl sc_f_law_dear.nd rfl rfl ⟨rfl, by decide, Or.inl T.g_NoPrices⟩ takes0 (fun W pn xe tk _ => pss_one (ps_expr (by exact (pe_costS T hr (by omega) rfl tk (pa_cons (pv 1) (pa_cons (pv 2) (pa_cons (pv 3) pa_nil))))))) (fun a oe cls d pn hz hf => pss_one (ps_ret (pe_cmpR (op_eqId hr.units0) (by exact (pe_xf T.xf T.npFound hz hf (pv 6))) (pv 3) (nomark _)))))
      (pss_one (ps_ret pe_bl)))))))), ?_⟩)
    · first
      | (obtain ⟨e, _⟩ := h; subst e; rfl)
      | (obtain ⟨_, e, _⟩ := h; subst e; rfl)
      | (obtain ⟨_, _, e, _⟩ := h; subst e; rfl)
      | (obtain ⟨_, _, _, e, _⟩ := h; subst e; rfl)
      | (obtain ⟨_, _, _, _, e, _⟩ := h; subst e; rfl)
      | (obtain ⟨_, _, _, _, _, e, _⟩ := h; subst e; rfl)
      | (obtain ⟨_, _, _, _, _, _, e, _⟩ := h; subst e; rfl)
      | (obtain ⟨_, _, _, _, _, _, _, e, _⟩ := h; subst e; rfl)
      | (obtain ⟨_, _, _, _, _, _, _, _, e, _⟩ := h; subst e; rfl)
      | (obtain ⟨_, _, _, _, _, _, _, _, _, e, _⟩ := h; subst e; rfl)
      | (obtain ⟨_, _, _, _, _, _, _, _, _, _, e, _⟩ := h; subst e; rfl)
      | (obtain ⟨_, _, _, _, _, _, _, _, _, _, _, e, _⟩ := h; subst e; rfl)
      | (obtain ⟨_, _, _, _, _, _, _, _, _, _, _, _, e, _⟩ := h; subst e; rfl)
      | (obtain ⟨_, _, _, _, _, _, _, _, _, _, _, _, _, e, _⟩ := h; subst e; rfl)
    · skip
      obtain ⟨G, l, st, xs, F, w, rfl, ci, k⟩ := h
      intro D hD
      have nD := ci.d3.ne hD
      have b0 : But st H (upd H D (.dK [])) := (But.refl ci.d3).mut ci.d3 hD
      refine ⟨rfl, fun H1 wl s1 _ hwl => ?_⟩
      have b1 := b0.same s1
      have nwl : wl ≠ D := ne_of hwl (s1 _ _ upd_same) (by intro z; cases z)
      refine ⟨wl, rfl, ⟨_, SqL.of hwl⟩, for_list (K := K) (a := wl) (xs := words.map V.str) (fun i σ H' => (∃ v4 v5 v6 : Option V, σ = [some (.ref st), some (.int w), some (.ref l), some (.ref D), v4, v5, v6]) ∧ But st H H' ∧ H' wl = some (.lst (words.map V.str)) ∧ H' D = some (.dK (prc (fun _ => 1) (words.take i)))) ?_ ?_ ?_ ?_⟩
      · exact ⟨⟨_, _, _, rfl⟩, b1, hwl, s1 _ _ upd_same⟩
      · rintro i σ H' _ ⟨_, _, h, _⟩
        exact SqL.of h
      · rintro i x σ H2 hi ⟨⟨v4, v5, v6, rfl⟩, b2, hw2, hD2⟩
        obtain ⟨z, hz, rfl⟩ : ∃ z, words[i]? = some z ∧ x = V.str z := by
          rw [List.getElem?_map] at hi
          cases e : words[i]? with
          | none => rw [e] at hi; cases hi
          | some z => rw [e] at hi; exact ⟨z, rfl, (Option.some.inj hi).symm⟩
        have hil : i < words.length := (List.getElem?_eq_some_iff.mp hz).1
        have h16 : words.length = 16 := rfl
        refine ⟨_, rfl, _, rfl, D, _, rfl, DPut.k (k := Sum.inr z) hD2 (lt_sz (by unfold prc; rw [List.length_map, List.length_take]; omega)), ⟨_, _, _, rfl⟩, b2.mut ci.d3 hD, by rw [upd_ne nwl]; exact hw2, ?_⟩
        rw [upd_same, prc_put (nd_take words_nd hz), take_snoc hz]
        congr 3
        funext y
        split <;> rfl
      rintro σ H2 ⟨⟨v4, v5, v6, rfl⟩, b2, hw2, hD2⟩
      rw [List.length_map, List.take_length] at hD2
      have h16 : words.length = 16 := rfl
      refine ⟨_, _, rfl, rfl, le_sz (Nat.le_of_ble_eq_true rfl), fun L3 hL3 => ?_⟩
      have s3 := same_new (o := .lst [.int 3]) hL3
      have b3 := b2.same s3
      refine ⟨_, _, rfl, rfl, ⟨by decide, by decide, by decide⟩, le_sz (Nat.le_of_ble_eq_true rfl), fun E2 hE => ?_⟩
      have s4 := same_new (o := .lst [.int (0 - 1), .int 1001, .bl true, .non, .str "3", .ref L3, .int (10 ^ (39 : Int).toNat)]) hE
      have b4 := b3.same s4
      have nE := b3.d3.ne hE
      refine ⟨_, rfl, st, 7, rfl, b4.d3, by omega, fun H5 j c5 hj => ?_⟩
      have b5 := b4.trans c5
      have nL3 := b2.d3.ne hL3
      have hL5 : H5 L3 = some (.lst [.int 3]) := c5.kp L3 _ nL3 (s4 _ _ upd_same)
      obtain ⟨v, ev, hpl, hbad, hid⟩ : ∃ v : V, [V.int (0 - 1), V.int 1001, V.bl true, V.non, V.str "3", V.ref L3, V.int (10 ^ (39 : Int).toNat)][j]? = some v ∧ (∀ H' : Hp, H' L3 = some (.lst [.int 3]) → PlainT H' v) ∧ ¬ PriceOk v ∧ idB v = true := by
        obtain rfl | rfl | rfl | rfl | rfl | rfl | rfl : j = 0 ∨ j = 1 ∨ j = 2 ∨ j = 3 ∨ j = 4 ∨ j = 5 ∨ j = 6 := by omega
        · exact ⟨_, rfl, (fun _ _ => trivial), (fun ⟨i, e, h0, _⟩ => by cases e; omega), rfl⟩
        · exact ⟨_, rfl, (fun _ _ => trivial), (fun ⟨i, e, _, h1⟩ => by cases e; omega), rfl⟩
        · exact ⟨_, rfl, (fun _ _ => trivial), (fun ⟨i, e, _⟩ => by cases e), rfl⟩
        · exact ⟨_, rfl, (fun _ _ => trivial), (fun ⟨i, e, _⟩ => by cases e), rfl⟩
        · exact ⟨_, rfl, (fun _ _ => trivial), (fun ⟨i, e, _⟩ => by cases e), rfl⟩
        · exact ⟨_, rfl, (fun _ h => ⟨_, h⟩), (fun ⟨i, e, _⟩ => by cases e), rfl⟩
        · exact ⟨_, rfl, (fun _ _ => trivial), (fun ⟨i, e, _, h1⟩ => by cases e; exact absurd h1 (by decide)), rfl⟩
      refine ⟨E2, _, _, _, rfl, rfl, SqL.of (c5.kp E2 _ nE upd_same), atI_nat ev, ?_⟩
      have hD5 : H5 D = some (.dK (prc (fun _ => 1) words)) := c5.kp D _ nD (s4 _ _ (s3 _ _ hD2))
      refine ⟨_, rfl, _, rfl, rfl, fun H6 wl2 s6 fw2 hwl2 => ?_⟩
      have b6 := b5.same s6
      refine ⟨_, rfl, st, 16, rfl, b6.d3, by omega, fun H7 j7 c7 hj7 => ?_⟩
      have b7 := b6.trans c7
      have nw2 := b5.d3.ne fw2
      have ez : (words.map V.str)[j7]? = some (.str words[j7]) := by rw [List.getElem?_map, List.getElem?_eq_getElem (by omega)]; rfl
      have hzm : words[j7] ∈ words := List.getElem_mem (by omega)
      generalize words[j7] = z at ez hzm
      have hD7 : H7 D = some (.dK (prc (fun _ => 1) words)) := c7.kp D _ nD (s6 _ _ hD5)
      have hL7 : H7 L3 = some (.lst [.int 3]) := c7.kp L3 _ nL3 (s6 _ _ hL5)
      have nLD : L3 ≠ D := ne_of hL7 hD7 (by intro z; cases z)
      refine ⟨wl2, _, _, _, rfl, rfl, SqL.of (c7.kp wl2 _ nw2 hwl2), atI_nat ez, D, _, rfl, DPut.k (k := Sum.inr z) hD7 (lt_sz (by unfold prc; rw [List.length_map]; omega)), ?_⟩
      have b8 := b7.mut ci.d3 hD (o := .dK (putK (prc (fun _ => 1) words) (Sum.inr z) v))
      have hD8 : (upd H7 D (.dK (putK (prc (fun _ => 1) words) (Sum.inr z) v))) D = some (.dK (putK (prc (fun _ => 1) words) (Sum.inr z) v)) := upd_same
      have hL8 : (upd H7 D (.dK (putK (prc (fun _ => 1) words) (Sum.inr z) v))) L3 = some (.lst [.int 3]) := by rw [upd_ne nLD]; exact hL7
      have hnd : ((putK (prc (fun _ => 1) words) (Sum.inr z) v).map (·.1)).Nodup := nd_put (by
        have e : (prc (fun _ => 1) words).map (·.1) = words.map (fun z => (Sum.inr z : Key)) := by
          unfold prc
          rw [List.map_map]
          rfl
        rw [e]
        decide +kernel) _ _
      have hids : ∀ p ∈ putK (prc (fun _ => 1) words) (Sum.inr z) v, idB p.2 = true := fun p hp => by
        rcases mem_putK hp with rfl | hp
        · exact hid
        · obtain ⟨y, _, e⟩ := List.mem_map.mp hp
          rw [← e]
          rfl
      have hval : ∀ y ∈ words, valV (putK (prc (fun _ => 1) words) (Sum.inr z) v) (Sum.inr y) = some (if y = z then v else .int 1) := fun y hy => by
        rw [valV_put]
        by_cases c : y = z
        · rw [if_pos (congrArg Sum.inr c), if_pos c]
        · rw [if_neg (fun e => c (Sum.inr.inj e)), if_neg c]
          exact valV_priceD (f := fun _ => V.int 1) words hy
      generalize upd H7 D (.dK (putK (prc (fun _ => 1) words) (Sum.inr z) v)) = H8 at b8 hD8 hL8 ⊢
      generalize putK (prc (fun _ => 1) words) (Sum.inr z) v = ps at hD8 hnd hids hval
      refine ⟨_, rfl, _, rfl, _, rfl, w, l, D, xs, F, ps, fun y => if y = z then v else .int 1, rfl, ci.steps.same (b8.sub ci.s ci.g), ci.dep, hD8, fun y hy => ⟨hval y hy, ?_⟩, .inr ⟨⟨z, hzm, ?_⟩, fun H9 x s9 hx => ?_⟩⟩
      · show PlainT H8 (if y = z then v else .int 1)
        split
        · exact hpl _ hL8
        · trivial
      · show ¬ PriceOk (if z = z then v else .int 1)
        rw [if_pos rfl]
        exact hbad
      refine ⟨true, of_decide_eq_true T.ex_118, fun _ a0 ha0 => ?_, fun q => Bool.noConfusion q⟩
      exact ⟨_, rfl, rfl, rfl, x, _, .ref D, rfl, hx, by simp [List.lookup], _, rfl, D, ps, rfl, rfl, s9 _ _ hD8, hnd, hids, k _ (b8.same s9)⟩
  exact ⟨_, fd, _, [], G, T.g__law_dear, F.kp, F.bindsN (fun _ _ _ _ _ _ us hl => match us, hl with | [_, _, _], _ => rfl), .nil⟩
end
end K73

set_option maxHeartbeats 4000000
/-! the law -/
namespace K73
open PySem PySem.Spec PyProof.Rows L2
open C8 (Cal Mak Met pe_c pe_mk pe_mt pe_mt0 pe_gc)
local macro_rules | `(tactic| walk_at "rd") => `(tactic| repeat (first | refine ⟨_, rfl, ?_⟩ | refine ⟨_, _, rfl, rfl, ?_⟩ | refine ⟨_, rfl, rfl, ?_⟩ | refine ⟨_, _, rfl, ?_⟩ | refine ⟨_, _, _, rfl, ?_⟩ | refine ⟨_, _, _, _, rfl, ?_⟩ | refine And.intro rfl ?_ | refine And.intro trivial ?_ | refine And.intro (le_sz (Nat.le_of_ble_eq_true rfl)) ?_ | refine And.intro (le_sz (by omega)) ?_ | refine iteT ?_ | refine iteF ?_ | refine iteDt (by omega) ?_ | refine iteDf (by omega) ?_ | refine iteNt (by omega) ?_ | refine iteNf (by omega) ?_ | refine And.intro (by omega) ?_ | refine ⟨_, _, _, _, _, rfl, .ty _, .base (.str _), kit_ss, ?_⟩ | refine ⟨_, _, _, _, _, rfl, .ty _, .base (.lst (by assumption)), kit_ll, ?_⟩ | refine ⟨_, _, _, _, _, rfl, .ty _, .base (.dK (by assumption)), kit_dd, ?_⟩ | refine ⟨_, _, _, _, _, rfl, .ty _, .base (.tup (by assumption)), kit_tt, ?_⟩))

theorem del_same_of {G H : Hp} {a : Addr} (s : Same G H) (g : G a = none) : Same G (del H a) := fun b o e => by
  rw [del_ne (ne_of_none e g)]
  exact s b o e
theorem del_sub {H : Hp} {a : Addr} : Same (del H a) H := fun b o e => by
  by_cases n : b = a
  · rw [n, del_same] at e
    cases e
  · rw [del_ne n] at e
    exact e
theorem tup_d3 {H : Hp} {a b : Addr} {xs : List V} (d : D3 H a) (e : H b = some (.tup xs)) : b ≠ a := fun z => by
  obtain ⟨_, _, _, q⟩ := d
  rw [z, q] at e
  cases e
theorem dk_d3 {H : Hp} {a b : Addr} {xs : List (Key × V)} (d : D3 H a) (e : H b = some (.dK xs)) : b ≠ a := fun z => by
  obtain ⟨_, _, _, q⟩ := d
  rw [z, q] at e
  cases e
theorem mk_del {H : Hp} {a : Addr} (d : D3 H a) {m : Addr} (n : m ≠ a) {ms : List (Int × Str)} (h : MarksAt H m ms) : MarksAt (del H a) m ms := by
  obtain ⟨vs, h1, h2⟩ := h
  exact ⟨vs, by rw [del_ne n]; exact h1, h2.mono fun p xs e => by rw [del_ne (tup_d3 d e)]; exact e⟩
theorem MarksAt.keep {H H' : Hp} {m : Addr} {ms : List (Int × Str)} (h : MarksAt H m ms) (s : Same H H') : MarksAt H' m ms := by
  obtain ⟨vs, h1, h2⟩ := h
  exact ⟨vs, s _ _ h1, h2.mono fun p xs e => s _ _ e⟩
theorem CntAt.keep {H H' : Hp} {m : Addr} {cn : Str → Int} (h : CntAt H m cn) (s : Same H H') : CntAt H' m cn := by
  obtain ⟨cv, h1, h2⟩ := h
  exact ⟨cv, s _ _ h1, h2⟩
theorem join_seq {c : TT} {a r : TS} {D : Ends} {σ : L2.St} {H : Hp} (P : Hp → Prop) (h1 : (∀ H', P H' → r D σ H') → tSeq (tIfS c a tNext) r D σ H) (h2 : ∀ H', P H' → r D σ H') : tSeq (tIfS c a tNext) r D σ H := h1 h2
theorem at_st {a r : TS} {D : Ends} {σ : L2.St} {H : Hp} (σ' : L2.St) (e : σ = σ') (h : tSeq a r D σ' H) : tSeq a r D σ H := by
  rw [e]
  exact h
theorem join_st {c : TT} {a r : TS} {D : Ends} {σ : L2.St} {H : Hp} (P : L2.St → Hp → Prop) (h1 : (∀ σ' H', P σ' H' → r D σ' H') → tSeq (tIfS c a tNext) r D σ H) (h2 : ∀ σ' H', P σ' H' → r D σ' H') : tSeq (tIfS c a tNext) r D σ H := h1 h2
theorem run_wsum {w : Nat} {F : Fo} {kv : List (Key × V)} {ms : List (Int × Str)} (f : Str → Int) : wsum f (F.run w ⟨kv, ms, zeroC⟩).cn = F.ps f := by
  rw [run_ps, wsum_zero]
  omega
section
variable {P : Program} {w : World} {K : PySem.W.Frag} {mg : Str → Option Value} {base : Heap}
def spLaw (K : PySem.W.Frag) : Sp := fun vs H Q _ => ∃ (sc : Addr) (ns : List Int), vs = [.ref sc] ∧ SqL K H sc (ns.map V.int) ∧ ns.length ≤ 1000 ∧ ∀ H', Q (.bl true) H'
theorem sc_f_law : FnScope ["_law_script", "_law_state", "_law_width", "_law_names_here", "_law_held_here", "_law_rows", "_law_steps", "_law_behind", "_law_marks", "_law_counts", "_law_handed", "_law_flat_here", "_law_found", "_law_row_here", "_law_step"] ["_law_script"] (defScope sf_law) := ⟨rfl, rfl, rfl, by decide +kernel, rfl, by decide +kernel, by decide +kernel⟩
theorem raw_f_law (T : Txt K mg) {fd : FuncData} (F : FunD K "law" "law" (defArgs sf_law) (defBody sf_law) (defScope sf_law) [] [] (He.fAd K df_law.at_) fd) : FnOk P w K mg base CX0 (14) (He.fAd K df_law.at_) fd ["_law_script"] (spLaw K) := by
    refine F.ok (CX := CX0) sc_f_law (fun vs H Q E h => ?_) (fun cdv A outer s H vs Q E hr h => ⟨_, PSs.nox (by exact (pss_cons (ps_set (i := 1) sc_f_law.nd rfl (Or.inl rfl) (pe_c (cal_f_law_begun T) hr (by omega) rfl (pa_cons (pe_c (cal_f_law_cell T) hr (by omega) rfl (pa_cons (pv 0) (pa_cons pe_int pa_nil))) pa_nil)))
      (pss_cons (ps_set (i := 2) sc_f_law.nd rfl (Or.inl rfl) (pe_op op_add pe_int (pe_c (cal_f_law_draw T) hr (by omega) rfl (pa_cons (pv 1) (pa_cons pe_int pa_nil)))))
      (pss_cons (ps_set (i := 3) sc_f_law.nd rfl (Or.inl rfl) (pe_c (cal_f_law_names T) hr (by omega) rfl (pa_cons (pv 1) pa_nil)))
      (pss_cons (ps_set (i := 4) sc_f_law.nd rfl (Or.inl rfl) (pe_c (cal_f_law_held T) hr (by omega) rfl (pa_cons (pv 1) (pa_cons (pv 2) (pa_cons (pv 3) pa_nil)))))
      (pss_cons (ps_set (i := 5) sc_f_law.nd rfl (Or.inl rfl) (pe_c (cal_f_law_tree T) hr (by omega) rfl (pa_cons (pv 0) (pa_cons (pv 2) (pa_cons (pv 3) (pa_cons pe_int pa_nil))))))
      (pss_cons (ps_setLc (i := 6) (own := [("_law_row_here", 13)]) (g := gName 13) (tt := tYes) rfl sc_f_law.nd rfl rfl (sw_true rfl rfl rfl (by decide +kernel)) (pi_list (pv 5)) (blkOk_by (N := ["_law_script", "_law_state", "_law_width", "_law_names_here", "_law_held_here", "_law_rows", "_law_steps", "_law_behind", "_law_marks", "_law_counts", "_law_handed", "_law_flat_here", "_law_found", "_law_row_here", "_law_step"]) (sc := defScope sf_law) (by decide +kernel)) (fun _ _ _ _ _ => pg_name (i := 13) sc_f_law.nd rfl (Or.inl rfl)) (fun _ _ _ _ _ => pts_nil) (fun _ _ _ _ _ => (pe_c (cal_f_law_made T 6) hr (by omega) rfl (pa_cons (pv 13) pa_nil))))
      (pss_cons (ps_set (i := 7) sc_f_law.nd rfl (Or.inl rfl) (pe_callTy call_dictD rfl T.f_dict (by decide +kernel) (pa_cons (pv 4) pa_nil)))
      (pss_cons (ps_set (i := 8) sc_f_law.nd rfl (Or.inl rfl) (pe_lst pa_nil))
      (pss_cons (ps_set (i := 9) sc_f_law.nd rfl (Or.inl rfl) pe_dnewK)
      (pss_cons (ps_expr (pe_c (cal_f_law_run T 6) hr (by omega) rfl (pa_cons (pe_op op_oneShl pe_int (pv 2)) (pa_cons (pv 5) (pa_cons (pv 7) (pa_cons (pv 8) (pa_cons (pv 9) pa_nil)))))))
      (pss_cons (ps_if (PW.pt (pw_and (pt_cmpR op_eq (pe_c (cal_f_law_draw T) hr (by omega) rfl (pa_cons (pv 1) (pa_cons pe_int pa_nil))) pe_int (nomark _)) (pw_and1 (pt_not (pt_val (pe_c (cal_f_law_costs T) hr (by omega) rfl (pa_cons (pv 2) (pa_cons (pv 6) (pa_cons (pv 1) (pa_cons (pv 9) pa_nil)))))))))) (pss_one (ps_ret pe_bl)) pss_nil)
      (pss_cons (ps_set (i := 10) sc_f_law.nd rfl (Or.inl rfl) (pe_callTy call_dictD rfl T.f_dict (by decide +kernel) (pa_cons (pv 4) pa_nil)))
      (pss_cons (ps_if (PW.pt (pw_or (pt_not (pt_val (pe_c (cal_f_law_same T) hr (by omega) rfl (pa_cons (pe_c (cal_f_run_steps T) hr (by omega) rfl (pa_cons (pv 2) (pa_cons (pv 6) (pa_cons (pv 10) pa_nil)))) (pa_cons (pv 7) (pa_cons (pv 8) (pa_cons (pv 9) pa_nil))))))) (pw_or1 (pt_cmpR (op_ne_dictA hr.units0) (pv 10) (pv 4) (nomark _))))) (pss_one (ps_ret pe_bl)) pss_nil)
      (pss_cons (ps_if (PW.pt (pw_or (pt_not (pt_val (pe_c (cal_f_law_counted T) hr (by omega) rfl (pa_cons (pv 2) (pa_cons (pv 6) (pa_cons (pv 9) pa_nil)))))) (pw_or1 (pt_not (pt_val (pe_c (cal_f_law_costs T) hr (by omega) rfl (pa_cons (pv 2) (pa_cons (pv 6) (pa_cons (pv 1) (pa_cons (pv 9) pa_nil)))))))))) (pss_one (ps_ret pe_bl)) pss_nil)
      (pss_cons (ps_if (pt_not (pt_val (pe_c (cal_f_law_dear T) hr (by omega) rfl (pa_cons (pv 1) (pa_cons (pv 2) (pa_cons (pv 6) pa_nil)))))) (pss_one (ps_ret pe_bl)) pss_nil)
      (pss_cons (ps_set (i := 11) sc_f_law.nd rfl (Or.inl rfl) (pe_c (cal_f_law_flat T 6) hr (by omega) rfl (pa_cons (pv 5) pa_nil)))
      (pss_cons (ps_if (pt_cmpR op_le (pe_callB call_len_seq rfl T.f_len (by decide +kernel) (pa_cons (pv 11) pa_nil)) pe_int (nomark _)) (pss_cons (ps_set (i := 12) sc_f_law.nd rfl (Or.inl rfl) (pe_c (cal_f_run_steps T) hr (by omega) rfl (pa_cons (pv 2) (pa_cons (pe_lc (own := [("_law_row_here", 13)]) (g := gName 13) (tt := tYes) rfl sc_f_law.nd (pi_list (pv 11)) (blkOk_by (N := ["_law_script", "_law_state", "_law_width", "_law_names_here", "_law_held_here", "_law_rows", "_law_steps", "_law_behind", "_law_marks", "_law_counts", "_law_handed", "_law_flat_here", "_law_found", "_law_row_here", "_law_step"]) (sc := defScope sf_law) (by decide +kernel)) (fun _ _ _ _ _ => pg_name (i := 13) sc_f_law.nd rfl (Or.inl rfl)) (fun _ _ _ _ _ => pts_nil) (fun _ _ _ _ _ => (pe_c (cal_f_law_made T 6) hr (by omega) rfl (pa_cons (pv 13) pa_nil)))) (pa_cons (pv 10) pa_nil)))))
      (pss_one (ps_if (PW.pt (pw_or (pt_cmpR (op_ne_dictA hr.units0) (pe_ix ix_tup (pv 12) pe_int (fun _ _ => rfl)) (pv 7) (nomark _)) (pw_or (pt_cmpR (op_neD hr.units) (pe_ix ix_tup (pv 12) pe_int (fun _ _ => rfl)) (pv 8) (nomark _)) (pw_or1 (pt_cmpR op_ne (pe_sumVals rfl (pe_ix ix_tup (pv 12) pe_int (fun _ _ => rfl)) rfl T.f_sum (by decide +kernel)) (pe_callB call_len_seq rfl T.f_len (by decide +kernel) (pa_cons (pv 11) pa_nil)) (nomark _)))))) (pss_one (ps_ret pe_bl)) pss_nil))) pss_nil)
      (pss_cons (ps_if (pt_cmpR (op_neD hr.units) (pe_lc (own := [("_law_step", 14)]) (g := gName 14) (tt := tYes) rfl sc_f_law.nd (pi_list (pv 6)) (blkOk_by (N := ["_law_script", "_law_state", "_law_width", "_law_names_here", "_law_held_here", "_law_rows", "_law_steps", "_law_behind", "_law_marks", "_law_counts", "_law_handed", "_law_flat_here", "_law_found", "_law_row_here", "_law_step"]) (sc := defScope sf_law) (by decide +kernel)) (fun _ _ _ _ _ => pg_name (i := 14) sc_f_law.nd rfl (Or.inl rfl)) (fun _ _ _ _ _ => pts_nil) (fun _ _ _ _ _ => (by exact (pe_told (met_told T 6) hr (by omega) (pv 14))))) (pv 5) (nomark _)) (pss_one (ps_ret pe_bl)) pss_nil)
      (pss_one (ps_ret (pe_c (cal_f_law_same T) hr (by omega) rfl (pa_cons (pe_c (cal_f_run_steps T) hr (by omega) rfl (pa_cons (pv 2) (pa_cons (pv 6) (pa_cons (pv 4) pa_nil)))) (pa_cons (pv 7) (pa_cons (pv 8) (pa_cons (pv 9) pa_nil)))))))))))))))))))))))))), ?_⟩)
    · first
      | (obtain ⟨e, _⟩ := h; subst e; rfl)
      | (obtain ⟨_, e, _⟩ := h; subst e; rfl)
      | (obtain ⟨_, _, e, _⟩ := h; subst e; rfl)
      | (obtain ⟨_, _, _, e, _⟩ := h; subst e; rfl)
      | (obtain ⟨_, _, _, _, e, _⟩ := h; subst e; rfl)
      | (obtain ⟨_, _, _, _, _, e, _⟩ := h; subst e; rfl)
      | (obtain ⟨_, _, _, _, _, _, e, _⟩ := h; subst e; rfl)
      | (obtain ⟨_, _, _, _, _, _, _, e, _⟩ := h; subst e; rfl)
      | (obtain ⟨_, _, _, _, _, _, _, _, e, _⟩ := h; subst e; rfl)
      | (obtain ⟨_, _, _, _, _, _, _, _, _, e, _⟩ := h; subst e; rfl)
      | (obtain ⟨_, _, _, _, _, _, _, _, _, _, e, _⟩ := h; subst e; rfl)
      | (obtain ⟨_, _, _, _, _, _, _, _, _, _, _, e, _⟩ := h; subst e; rfl)
      | (obtain ⟨_, _, _, _, _, _, _, _, _, _, _, _, e, _⟩ := h; subst e; rfl)
      | (obtain ⟨_, _, _, _, _, _, _, _, _, _, _, _, _, e, _⟩ := h; subst e; rfl)
    · skip
      obtain ⟨sc, ns, rfl, hsc, hns, k⟩ := h
      refine ⟨_, rfl, sc, ns, 0, rfl, hsc, hns, by omega, fun c => ⟨c, rfl, fun st x z hst => ?_⟩⟩
      have s1 := same_new (o := .lst [.int x, .int 0, .int z]) hst
      have d1 : D3 (upd H st (.lst [.int x, .int 0, .int z])) st := ⟨x, 0, z, upd_same⟩
      generalize upd H st (.lst [.int x, .int 0, .int z]) = H1 at s1 d1 ⊢
      refine ⟨_, rfl, st, 29, rfl, d1, by omega, fun H2 j c2 hj => ⟨_, _, rfl, rfl, ?_⟩⟩
      have s2 := c2.sub s1 hst
      obtain ⟨w, hwj⟩ : ∃ w : Nat, w = 4 + j := ⟨_, rfl⟩
      have ew : (4 : Int) + (j : Int) = ((w : Nat) : Int) := by omega
      have hw : 4 ≤ w ∧ w ≤ 32 := by omega
      have ewv : (fun i j : Int => V.int (i + j)) 4 (j : Int) = V.int (w : Int) := congrArg V.int ew
      rw [ewv]
      clear hwj ew ewv
      refine ⟨_, rfl, st, rfl, c2.d3, fun H3 nl nms c3 fnl hnl n2 n5 nreg => ?_⟩
      have s3 := c3.sub s2 hst
      have nnl : nl ≠ st := c2.d3.ne fnl
      refine ⟨_, rfl, _, rfl, _, rfl, st, nl, nms, w, rfl, c3.d3, hnl, by omega, nnl, nreg, hw, fun H4 hd kv c4 fhd hhd wk hkl => ?_⟩
      have s4 := c4.sub s3 hst
      have nhd : hd ≠ st := c3.d3.ne fhd
      have hnl4 := c4.kp nl _ nnl hnl
      refine ⟨_, rfl, _, rfl, _, rfl, sc, nl, ns, nms, w, rfl, sq_keep hsc s4, hns, hnl4, ⟨n2, n5⟩, nreg, hw, fun H5 rw_ xs F s5 frw hrw hR gF dF cF => ?_⟩
      have d5 : D3 H5 st := c4.d3.same s5
      have nrw : rw_ ≠ st := c4.d3.ne frw
      obtain ⟨G5, sG5, g5, hrwG, hRG, hhdG⟩ : ∃ G : Hp, Same G H5 ∧ G st = none ∧ G rw_ = some (.lst xs) ∧ RowsAt Any G xs F ∧ G hd = some (.dK kv) := by
        refine ⟨del H5 st, del_sub, del_same, by rw [del_ne nrw]; exact hrw, hR.mono (fun _ _ => trivial) (fun a o h e => ?_), by rw [del_ne nhd]; exact s5 _ _ hhd⟩
        have n : a ≠ st := by
          rcases h with h | h
          · exact c4.d3.ne h
          · intro z
            obtain ⟨_, _, _, q⟩ := d5
            rw [z, q] at e
            exact h _ (Option.some.inj e).symm
        rw [del_ne n]
        exact e
      refine ⟨_, rfl, rw_, rfl, ⟨xs, SqL.of hrw⟩, fun DD hDD => ?_⟩
      have hsrc := hrw
      have hRR := hRG
      have gFF := gF
      have dFF : F.depth < 6 := by omega
      have cFF : F.cost ≤ 100000 := by omega
      refine lc_list (K := K) (a := rw_) (xs := xs) (fun i H' => Same H5 H' ∧ ∃ ys A R, H' DD = some (.lst ys) ∧ A.app R = F ∧ RowsAt Any G5 (xs.drop i) R ∧ StepsAt K (fun a => H5 a = none ∧ a ≠ DD) H' ys A) ?_ ?_ ?_ ?_
      · exact ⟨same_new hDD, [], .nil, F, upd_same, rfl, hRR, trivial⟩
      · rintro i H' _ ⟨t1, _⟩
        exact SqL.of (t1 _ _ hsrc)
      · rintro i x HA hi ⟨t1, ys, A, R, hy, hFG, hG, hR⟩
        rw [drop_at hi] at hG
        obtain ⟨d, t, rfl, hd1, ht⟩ := hG.cons
        have gd1 : d.one.Good w := by
          have z := gFF
          rw [← hFG, app_good] at z
          exact (fo_good z.2).1
        have dd1 : d.one.depth < 6 := by
          have z := dFF
          rw [← hFG, app_depth, fo_depth] at z
          omega
        have dc1 : d.one.cost ≤ 100000 := by
          have z := cFF
          rw [← hFG, app_cost, fo_cost] at z
          omega
        have yl : ys.length ≤ 100000 := by
          rw [hR.len]
          have z := len_cost F gFF
          rw [← hFG, app_len] at z
          have z2 := cFF
          rw [← hFG] at z2
          omega
        obtain ⟨p1, rfl⟩ : ∃ p1, x = .ref p1 := by
          cases d with
          | leaf r =>
            obtain ⟨⟨p1, e, _⟩, _⟩ := hd1
            exact ⟨p1, e⟩
          | turns m c =>
            obtain ⟨⟨p1, _, _, e, _⟩, _⟩ := hd1
            exact ⟨p1, e⟩
        walk_at "rd"
        refine ⟨p1, d, rfl, hd1.same (sG5.trans t1), dd1, dc1, ⟨w, gd1⟩, fun HB q t2 hq => ?_⟩
        refine ⟨ys, t2 _ _ hy, Nat.lt_of_le_of_lt yl (by decide), same_mut (t1.trans t2) hDD, ys ++ [.ref q], A.app d.one, t, upd_same, ?_, ht, ?_⟩
        · rw [app_assoc, one_app]
          exact hFG
        · refine StepsAt.app (hq.mono (fun a ha => ⟨t1.free ha, fun z => ?_⟩) (kp_mut (Same.refl _) (t2 _ _ hy) fun a ha z => ?_)) (hR.mono (fun _ z => z) (kp_mut t2 hy fun a ha => ha.2))
          · rw [z] at ha
            rw [show HA DD = none from ha] at hy
            cases hy
          · rw [z] at ha
            rw [show HA DD = none from ha] at hy
            cases hy
      rintro HA ⟨t1, ys, A, R, hy, hFG, hG, hR⟩
      have eR := hG.end_
      subst eR
      rw [app_nil] at hFG
      rw [hFG] at hR
      have d6 : D3 HA st := d5.same t1
      have nDD := d5.ne hDD
      obtain ⟨G6, sG6, g6, s56, hysG, hStG⟩ : ∃ G : Hp, Same G HA ∧ G st = none ∧ Same G5 G ∧ G DD = some (.lst ys) ∧ StepsAt K Any G ys F := by
        refine ⟨del HA st, del_sub, del_same, del_same_of (sG5.trans t1) g5, by rw [del_ne nDD]; exact hy, hR.mono (fun _ _ => trivial) (fun a o h e => ?_)⟩
        have n : a ≠ st := by
          rcases h with h | h
          · exact d5.ne h.1
          · intro z
            obtain ⟨_, _, _, q⟩ := d6
            rw [z, q] at e
            exact h _ (Option.some.inj e).symm
        rw [del_ne n]
        exact e
      refine ⟨_, rfl, hd, kv, rfl, .inl (sG6 _ _ (s56 _ _ hhdG)), fun be hbe => ⟨le_sz (Nat.le_of_ble_eq_true rfl), fun mk hmk => fun ct hct => ?_⟩⟩
      have q1 := same_new (o := .dK kv) hbe
      have q2 := same_new (o := .lst []) hmk
      have q3 := same_new (o := .dK []) hct
      have q123 := (q1.trans q2).trans q3
      have nbe := d6.ne hbe
      have nmk := (d6.same q1).ne hmk
      have nct := (d6.same (q1.trans q2)).ne hct
      have d7 := d6.same q123
      have rin : RnIn G6 (upd (upd (upd HA be (.dK kv)) mk (.lst [])) ct (.dK [])) be mk ct rw_ xs F w ⟨kv, [], zeroC⟩ :=
        ⟨sG6.trans q123, s56 _ _ hrwG, hRG.same s56, hw.1, hw.2, gF, sG6.free hbe, (sG6.trans q1).free hmk, (sG6.trans (q1.trans q2)).free hct, ne_of_none (q2 _ _ upd_same) hct, q3 _ _ (q2 _ _ upd_same), ⟨[], q3 _ _ upd_same, trivial⟩, ⟨[], upd_same, LawC.nil⟩, wk, by show kv.length + _ ≤ _; omega, by show 0 + _ ≤ _; omega⟩
      generalize upd (upd (upd HA be (.dK kv)) mk (.lst [])) ct (.dK []) = H7 at rin d7 ⊢
      refine ⟨_, rfl, w, rfl, rfl, by omega, _, rfl, _, rfl, _, rfl, _, rfl, G6, be, mk, ct, rw_, xs, F, w, ⟨kv, [], zeroC⟩, rfl, rin, by omega, fun H8 o => ?_⟩
      have d8 : D3 H8 st := by
        obtain ⟨x1, y1, z1, e⟩ := d7
        exact ⟨x1, y1, z1, o.kp st _ nbe.symm nmk.symm nct.symm e⟩
      have wks : Wk w (F.run w ⟨kv, [], zeroC⟩).kv := run_wk (by omega) F ⟨kv, [], zeroC⟩ gF wk
      have mos : MkOk (F.run w ⟨kv, [], zeroC⟩).ms := run_mk F ⟨kv, [], zeroC⟩ gF (fun q hq => by cases hq)
      have kls : (F.run w ⟨kv, [], zeroC⟩).kv.length ≤ 10000 := by
        have z : (F.run w ⟨kv, [], zeroC⟩).kv.length ≤ kv.length + 2 * F.cost := run_kv w F ⟨kv, [], zeroC⟩
        omega
      have mls : (F.run w ⟨kv, [], zeroC⟩).ms.length ≤ 10000 := by
        have z : (F.run w ⟨kv, [], zeroC⟩).ms.length ≤ 0 + F.cost := run_ms w F ⟨kv, [], zeroC⟩
        omega
      obtain ⟨G8, sG8, g8, s68, hbeG, hmkG, hctG⟩ : ∃ G : Hp, Same G H8 ∧ G st = none ∧ Same G6 G ∧ G be = some (.dK (F.run w ⟨kv, [], zeroC⟩).kv) ∧ MarksAt G mk (F.run w ⟨kv, [], zeroC⟩).ms ∧ CntAt G ct (F.run w ⟨kv, [], zeroC⟩).cn := by
        refine ⟨del H8 st, del_sub, del_same, del_same_of (rin.sameG o) g6, by rw [del_ne nbe]; exact o.hd, mk_del d8 nmk o.ms, ?_⟩
        obtain ⟨cv, h1, h2⟩ := o.cn
        exact ⟨cv, by rw [del_ne nct]; exact h1, h2⟩
      have s58 := s56.trans s68
      have stp : StepsIn K G8 DD ys F w := ⟨s68 _ _ hysG, hStG.same s68, hw.1, hw.2, gF, cF⟩
      have hdG := s58 _ _ hhdG
      have ci : ∀ H', Same G8 H' → D3 H' st → CostIn K G8 H' DD ys F w st := fun H' s d => ⟨stp, dF, s, g8, d⟩
      clear o rin d7 q123 q3 q2 q1 hmk hct hbe hR hy t1 hRR hsrc hrw d5 s5 hnl4 hnl c4 c3 c2 d1 s1 s2 s3 s4
      obtain ⟨cv, hcv, lcv⟩ := hctG
      have hws : ∀ f, wsum f (F.run w ⟨kv, [], zeroC⟩).cn = F.ps f := fun f => run_wsum f
      have hw1 : wsum (fun _ => 1) (F.run w ⟨kv, [], zeroC⟩).cn = F.cost := cost_sum
      dsimp only
      refine at_st [some (.ref sc), some (.ref st), some (.int w), some (.ref nl), some (.ref hd), some (.ref rw_), some (.ref DD), some (.ref be), some (.ref mk), some (.ref ct), none, none, none, none, none] rfl ?_
      refine join_seq (fun H' => Same G8 H' ∧ D3 H' st) (fun cont => ?_) (fun H9 hh9 => ?_)
      · refine ⟨_, rfl, st, 2, rfl, d8, by omega, fun H9 j9 c9 h9 => ⟨rfl, _, rfl, iteD (fun _ => ?_) (fun _ => ?_)⟩⟩
        · refine ⟨_, rfl, _, rfl, _, rfl, _, rfl, G8, DD, st, ct, ys, F, w, cv, _, rfl, ci H9 (c9.sub sG8 g8) c9.d3, hcv, lcv, hws, fun H10 c10 => ?_⟩
          refine ⟨_, rfl, iteF ?_⟩
          exact cont _ ⟨c10.sub (c9.sub sG8 g8) g8, c10.d3⟩
        · refine iteF ?_
          exact cont _ ⟨c9.sub sG8 g8, c9.d3⟩
      obtain ⟨s9, d9⟩ := hh9
      refine ⟨_, rfl, hd, kv, rfl, .inl (s9 _ _ hdG), fun ha hha => ?_⟩
      have nha := d9.ne hha
      have sa := same_new (o := .dK kv) hha
      obtain ⟨G9, s89, sG9, g9, hhaG⟩ : ∃ G : Hp, Same G8 G ∧ Same G (upd H9 ha (.dK kv)) ∧ G st = none ∧ G ha = some (.dK kv) := by
        refine ⟨upd G8 ha (.dK kv), same_new (s9.free hha), fun b o e => ?_, by rw [upd_ne nha.symm]; exact g8, upd_same⟩
        by_cases n : b = ha
        · rw [n, upd_same] at e ⊢
          exact e
        · rw [upd_ne n] at e ⊢
          exact s9 b o e
      have d10 := d9.same sa
      generalize upd H9 ha (.dK kv) = H10 at sG9 d10 ⊢
      have stp9 := stp.same s89
      have ci9 : ∀ H', Same G9 H' → D3 H' st → CostIn K G9 H' DD ys F w st := fun H' s d => ⟨stp9, dF, s, g9, d⟩
      have hbe9 := s89 _ _ hbeG
      have hmk9 := hmkG.keep s89
      have hcv9 := s89 _ _ hcv
      have hd9 := s89 _ _ hdG
      have hrw9 := s89 _ _ (s58 _ _ hrwG)
      have hR9 := hRG.same (s58.trans s89)
      have flk : ∀ p ∈ kv, valV kv p.1 = some p.2 ∧ flatB p.2 = true := fun p hp => ⟨mem_valV wk.nd hp, by
        obtain ⟨_, i, _, _, e, _⟩ := wk.ok p hp
        rw [e]
        rfl⟩
      have fls : ∀ p ∈ (F.run w ⟨kv, [], zeroC⟩).kv, valV (F.run w ⟨kv, [], zeroC⟩).kv p.1 = some p.2 ∧ flatB p.2 = true := fun p hp => ⟨mem_valV wks.nd hp, by
        obtain ⟨_, i, _, _, e, _⟩ := wks.ok p hp
        rw [e]
        rfl⟩
      clear hha sa s9 d9 stp ci hbeG hmkG hcv hdG hrwG hRG s58 sG8 d8 s68 hStG hysG s56 sG6 hhdG sG5 g5 g6
      refine ⟨_, rfl, _, rfl, _, rfl, w, DD, ha, ys, F, kv, rfl, stp9.same sG9, dF, sG9 _ _ hhaG, wk, hkl, fun H11 q a b c s11 ro => ?_⟩
      have s11' := sG9.trans s11
      refine ⟨_, rfl, _, rfl, _, rfl, q, a, b, c, be, mk, ct, w, _, rfl, ⟨ro.tup, ro.hd, ro.ms, ro.cn, s11' _ _ hbe9, hmk9.keep s11', ⟨cv, s11' _ _ hcv9, lcv⟩, wks, mos, kls, mls⟩, fun H12 s12 => ?_⟩
      have s12' := s11'.trans s12
      have d12 := (d10.same s11).same s12
      refine ⟨_, rfl, iteF ⟨_, rfl, _, rfl, ha, hd, kv, kv, rfl, rfl, s12' _ _ hhaG, s12' _ _ hd9, rfl, flk, _, rfl, iteF ?_⟩⟩
      clear ro s11 s11' s12 sG9 d10
      refine ⟨_, rfl, _, rfl, _, rfl, w, DD, ct, ys, F, cv, _, rfl, stp9.same s12', dF, s12' _ _ hcv9, lcv, hw1, fun H13 s13 => ?_⟩
      have s13' := s12'.trans s13
      have d13 := d12.same s13
      refine ⟨_, rfl, iteF ⟨_, rfl, _, rfl, _, rfl, _, rfl, G9, DD, st, ct, ys, F, w, cv, _, rfl, ci9 H13 s13' d13, hcv9, lcv, hws, fun H14 c14 => ⟨_, rfl, iteF ?_⟩⟩⟩
      have s14' := c14.sub s13' g9
      refine ⟨_, rfl, _, rfl, _, rfl, G9, DD, st, ys, F, w, rfl, ci9 H14 s14' c14.d3, fun H15 c15 => ⟨_, rfl, iteF ?_⟩⟩
      have s15' := c15.sub s14' g9
      refine ⟨_, rfl, G9, rw_, xs, F, w, rfl, s15', hrw9, hR9, by omega, cF, gF, fun H16 fl_ zs s16_ ffl hfl hfR => ?_⟩
      have s16 := s15'.trans s16_
      clear s16_ s15' c15 s14' c14 d13 s13' s13 d12 s12'
      dsimp only
      refine at_st [some (.ref sc), some (.ref st), some (.int w), some (.ref nl), some (.ref hd), some (.ref rw_), some (.ref DD), some (.ref be), some (.ref mk), some (.ref ct), some (.ref ha), some (.ref fl_), none, none, none] rfl ?_
      refine join_st (fun σ' H' => (∃ v12 : Option V, σ' = [some (.ref sc), some (.ref st), some (.int w), some (.ref nl), some (.ref hd), some (.ref rw_), some (.ref DD), some (.ref be), some (.ref mk), some (.ref ct), some (.ref ha), some (.ref fl_), v12, none, none]) ∧ Same G9 H') (fun cont => ?_) (fun σ17 H17 hh17 => ?_)
      · refine ⟨_, rfl, fl_, _, rfl, .inl (SqL.of hfl), _, _, rfl, rfl, _, rfl, iteD (fun c300 => ?_) (fun _ => cont _ _ ⟨⟨_, rfl⟩, s16⟩)⟩
        refine ⟨_, rfl, _, rfl, fl_, rfl, ⟨zs, SqL.of hfl⟩, fun DD2 hDD => ?_⟩
        have hfg := flat_good F gF
        have hfl_len := flat_len F
        have hsrc := hfl
        have hRR := hfR
        have gFF : (ofL F.flat).Good w := ofL_good _ hfg
        have dFF : (ofL F.flat).depth < 6 := by rw [ofL_depth]; omega
        have cFF : (ofL F.flat).cost ≤ 100000 := by rw [ofL_cost]; omega
        have hzlen : zs.length = F.flat.length := by
          have e : ∀ l : List Leaf, (ofL l).len = l.length := fun l => by
            induction l with
            | nil => rfl
            | cons r l ih => show (ofL l).len + 1 = l.length + 1; rw [ih]
          rw [hfR.len, e]
        refine lc_list (K := K) (a := fl_) (xs := zs) (fun i H' => Same H16 H' ∧ ∃ ys A R, H' DD2 = some (.lst ys) ∧ A.app R = ofL F.flat ∧ RowsAt Any G9 (zs.drop i) R ∧ StepsAt K (fun a => H16 a = none ∧ a ≠ DD2) H' ys A) ?_ ?_ ?_ ?_
        · exact ⟨same_new hDD, [], .nil, ofL F.flat, upd_same, rfl, hRR, trivial⟩
        · rintro i H' _ ⟨t1, _⟩
          exact SqL.of (t1 _ _ hsrc)
        · rintro i x HA hi ⟨t1, ys, A, R, hy, hFG, hG, hR⟩
          rw [drop_at hi] at hG
          obtain ⟨d, t, rfl, hd1, ht⟩ := hG.cons
          have gd1 : d.one.Good w := by
            have z := gFF
            rw [← hFG, app_good] at z
            exact (fo_good z.2).1
          have dd1 : d.one.depth < 6 := by
            have z := dFF
            rw [← hFG, app_depth, fo_depth] at z
            omega
          have dc1 : d.one.cost ≤ 100000 := by
            have z := cFF
            rw [← hFG, app_cost, fo_cost] at z
            omega
          have yl : ys.length ≤ 100000 := by
            rw [hR.len]
            have z := len_cost (ofL F.flat) gFF
            rw [← hFG, app_len] at z
            have z2 := cFF
            rw [← hFG] at z2
            omega
          obtain ⟨p1, rfl⟩ : ∃ p1, x = .ref p1 := by
            cases d with
            | leaf r =>
              obtain ⟨⟨p1, e, _⟩, _⟩ := hd1
              exact ⟨p1, e⟩
            | turns m c =>
              obtain ⟨⟨p1, _, _, e, _⟩, _⟩ := hd1
              exact ⟨p1, e⟩
          walk_at "rd"
          refine ⟨p1, d, rfl, hd1.same (s16.trans t1), dd1, dc1, ⟨w, gd1⟩, fun HB q t2 hq => ?_⟩
          refine ⟨ys, t2 _ _ hy, Nat.lt_of_le_of_lt yl (by decide), same_mut (t1.trans t2) hDD, ys ++ [.ref q], A.app d.one, t, upd_same, ?_, ht, ?_⟩
          · rw [app_assoc, one_app]
            exact hFG
          · refine StepsAt.app (hq.mono (fun a ha => ⟨t1.free ha, fun z => ?_⟩) (kp_mut (Same.refl _) (t2 _ _ hy) fun a ha z => ?_)) (hR.mono (fun _ z => z) (kp_mut t2 hy fun a ha => ha.2))
            · rw [z] at ha
              rw [show HA DD2 = none from ha] at hy
              cases hy
            · rw [z] at ha
              rw [show HA DD2 = none from ha] at hy
              cases hy
        rintro HA ⟨t1, ys, A, R, hy, hFG, hG, hR⟩
        have eR := hG.end_
        subst eR
        rw [app_nil] at hFG
        rw [hFG] at hR
        have s17 := s16.trans t1
        refine ⟨_, rfl, w, DD2, ha, ys, ofL F.flat, kv, rfl, ⟨hy, hR.any, hw.1, hw.2, gFF, by rw [ofL_cost]; omega⟩, by omega, s17 _ _ hhaG, wk, hkl, fun H18 q2 a2 b2 c2 s18 ro2 => ?_⟩
        have s18' := s17.trans s18
        have al := flat_run w F (s := ⟨kv, [], zeroC⟩) (t := ⟨kv, [], zeroC⟩) ⟨rfl, rfl⟩
        have ha2 : H18 a2 = some (.dK (F.run w ⟨kv, [], zeroC⟩).kv) := by rw [al.1]; exact ro2.hd
        have hm2 : MarksAt H18 b2 (F.run w ⟨kv, [], zeroC⟩).ms := by rw [al.2]; exact ro2.ms
        obtain ⟨v1, hv1, hv2⟩ := hm2
        obtain ⟨u1, hu1, hu2⟩ := hmk9.keep s18'
        have hS2 : SqT K H18 q2 [.ref a2, .ref b2, .ref c2] := SqT.of ro2.tup
        have fm := Fine.lst (mk_fine mos)
        dsimp only
        refine ⟨_, rfl, q2, _, _, _, rfl, rfl, hS2, atI_nat (j := 0) rfl, _, rfl, a2, be, _, _, rfl, rfl, ha2, s18' _ _ hbe9, rfl, fls, _, rfl, iteF ?_⟩
        refine ⟨_, rfl, q2, _, _, _, rfl, rfl, hS2, atI_nat (j := 1) rfl, _, rfl, .list (mkD (F.run w ⟨kv, [], zeroC⟩).ms), .list (mkD (F.run w ⟨kv, [], zeroC⟩).ms), .lst (SqL.of hv1) (mk_dp hv2), .lst (SqL.of hu1) (mk_dp hu2), fm.shaped (by omega), fm.shaped (by omega), _, rfl, ?_⟩
        rw [fm.eq_]
        have e3 : (cntD ((ofL F.flat).run w ⟨kv, [], zeroC⟩).cn).map (·.2) = (words.map ((ofL F.flat).run w ⟨kv, [], zeroC⟩).cn).map V.int := by
          unfold cntD
          rw [List.map_map, List.map_map]
          rfl
        have e4 : (words.map ((ofL F.flat).run w ⟨kv, [], zeroC⟩).cn).sum = (zs.length : Int) := by
          have e5 : wsum (fun _ => 1) ((ofL F.flat).run w ⟨kv, [], zeroC⟩).cn = (ofL F.flat).cost := cost_sum
          rw [ofL_cost] at e5
          rw [hzlen, ← e5]
          unfold wsum
          congr 1
          refine List.map_congr_left fun x _ => ?_
          rw [Int.one_mul]
        refine iteF ⟨_, rfl, q2, _, _, _, rfl, rfl, hS2, atI_nat (j := 2) rfl, c2, _, _, rfl, ro2.cn, e3, _, rfl, fl_, _, rfl, .inl (SqL.of (s18 _ _ (t1 _ _ hfl))), rfl, _, rfl, iteNf (congrArg V.int e4) ?_⟩
        exact cont _ _ ⟨⟨_, rfl⟩, s18'⟩
      obtain ⟨⟨v12, rfl⟩, s17⟩ := hh17
      clear hfl hfR ffl s16
      have hst9 := stp9.at_
      have hDD9 := stp9.lst
      refine ⟨_, rfl, DD, rfl, ⟨ys, SqL.of (s17 _ _ hDD9)⟩, fun D2 hD2 => ?_⟩
      refine lc_list (K := K) (a := DD) (xs := ys) (fun i H' => Same H17 H' ∧ ∃ vs A R, H' D2 = some (.lst vs) ∧ A.app R = F ∧ StepsAt K Any G9 (ys.drop i) R ∧ RowsAt (fun a => H17 a = none ∧ a ≠ D2) H' vs A) ?_ ?_ ?_ ?_
      · exact ⟨same_new hD2, [], .nil, F, upd_same, rfl, hst9, trivial⟩
      · rintro i H' _ ⟨t1, _⟩
        exact SqL.of (t1 _ _ (s17 _ _ hDD9))
      · rintro i x HA hi ⟨t1, vs, A, R, hy, hFG, hG, hR⟩
        rw [drop_at hi] at hG
        obtain ⟨d, t, rfl, hd1, ht⟩ := hG.cons
        obtain ⟨p1, dx1, fs1, rfl, hp1, hno⟩ := hd1.ins
        have gd1 : d.one.Good w := by
          have z := gF
          rw [← hFG, app_good] at z
          exact (fo_good z.2).1
        have dd1 : d.one.depth < 6 := by
          have z := dF
          rw [← hFG, app_depth, fo_depth] at z
          omega
        have dc1 : d.one.cost ≤ 100000 := by
          have z := cF
          rw [← hFG, app_cost, fo_cost] at z
          omega
        have yl : vs.length ≤ 100000 := by
          rw [hR.len]
          have z := len_cost F gF
          rw [← hFG, app_len] at z
          have z2 := cF
          rw [← hFG] at z2
          omega
        walk_at "rd"
        refine ⟨d.cl, _, rfl, p1, dx1, fs1, rfl, (s17.trans t1) _ _ hp1, hno.2.1, p1, d, rfl, rfl, hd1.same (s17.trans t1), dd1, dc1, fun _ => trivial, ⟨w, gd1⟩, fun HB q s2 hq => ?_⟩
        refine ⟨vs, s2 _ _ hy, Nat.lt_of_le_of_lt yl (by decide), same_mut (t1.trans s2) hD2, vs ++ [.ref q], A.app d.one, t, upd_same, ?_, ht, ?_⟩
        · rw [app_assoc, one_app]
          exact hFG
        · refine RowsAt.app (hq.mono (fun a ha => ⟨t1.free ha, fun z => ?_⟩) (kp_mut (Same.refl _) (s2 _ _ hy) fun a ha z => ?_)) (hR.mono (fun _ z => z) (kp_mut s2 hy fun a ha => ha.2))
          · rw [z] at ha
            rw [show HA D2 = none from ha] at hy
            cases hy
          · rw [z] at ha
            rw [show HA D2 = none from ha] at hy
            cases hy
      rintro HA ⟨t1, vs, A, R, hy, hFG, hG, hR⟩
      have eR := hG.end_
      subst eR
      rw [app_nil] at hFG
      rw [hFG] at hR
      have s18 := s17.trans t1
      have fr := Fine.lst (rows_fine F gF)
      refine ⟨_, rfl, .list (rowsD F), .list (rowsD F), .lst (SqL.of hy) (rows_dp gF hR), .lst (SqL.of (s18 _ _ hrw9)) (rows_dp gF (hR9.same s18)), fr.shaped (by omega), fr.shaped (by omega), _, rfl, ?_⟩
      rw [fr.eq_]
      refine iteF ?_
      refine ⟨_, rfl, _, rfl, _, rfl, w, DD, hd, ys, F, kv, rfl, stp9.same s18, dF, s18 _ _ hd9, wk, hkl, fun H19 q a b c s19 ro => ?_⟩
      have s19' := s18.trans s19
      exact ⟨_, rfl, _, rfl, _, rfl, q, a, b, c, be, mk, ct, w, _, rfl, ⟨ro.tup, ro.hd, ro.ms, ro.cn, s19' _ _ hbe9, hmk9.keep s19', ⟨cv, s19' _ _ hcv9, lcv⟩, wks, mos, kls, mls⟩, fun H20 _ => k _⟩
end
end K73

set_option maxHeartbeats 4000000
/-! the end -/
namespace K73
open PySem PySem.Spec PyProof.Rows L2
theorem facts {P : Program} {w : World} {K : PySem.W.Frag} {h : Heap} {mg : Str → Option Value} {f : Addr} (X : K.In h) (G : h.Ns mainGlobals mg) (hfa : mg ("law" : Str) = some (.ref f)) (c : SaysM K) :
    ∃ fd : FuncData, (∀ (s : Shared) (v : Value), BindsTo s fd ⟨[v], []⟩ [("_law_script", v)]) ∧ ∀ base : Heap, K.In base → base.Ns mainGlobals mg → FnOk P w K mg base CX0 14 f fd ["_law_script"] (spLaw K) := by
  have T : Txt K mg := ⟨c, h, X, G⟩
  obtain ⟨fd, F0⟩ := T.c.d.def_ 107 (d := df_law) rfl
  have F : FunD K "law" "law" (defArgs sf_law) (defBody sf_law) (defScope sf_law) [] [] (He.fAd K df_law.at_) fd := F0
  have e := hfa.symm.trans T.g_law
  cases e
  have b := FunD.bindsA (ps := ["_law_script"]) F fun _ _ _ _ _ _ us hl => match us, hl with | [_], _ => rfl
  exact ⟨fd, fun s v => b s [v] rfl, fun base _ _ => raw_f_law T F⟩
end K73
open PySem PySem.W PySem.Calls PyProof.Rows
theorem PySem.Challenge.cw_overwise_k73_whole_turns_marks_and_cost_holds : PySem.Challenge.rw_overwise_k73_whole_turns_marks_and_cost.Holds := by
  w_on; o_law
  refine HandSHeadRun.head_any (r := K73.R) (q := view K73.R.prog [88]) (H := K73.hk) (ob := K73.ob) (M := 20000) (loose := K73.names) (d := HandSHeadRun.topDef K73.R.prog 88) (kwd := []) K73.ob_eq
    (by kernel_rfl) (fun s => by kernel_rfl) K73.run (by kernel_rfl) (by kernel_rfl) (by kernel_rfl) (by rfl) (by first | assumption | decide +kernel) (by decide +kernel) ⟨rfl, rfl, rfl, rfl, rfl, by decide +kernel⟩ ?hw ?hc
  case hw => w_witness2
  case hc =>
    refine L2.walk_ofE (l := PySem.Challenge.rw_overwise_k73_whole_turns_marks_and_cost) (n := 63) (k := 14) (x := "_law_script") (CX := L2.CX0) rfl (by decide) (by kernel_rfl) ⟨rfl, by decide, by decide⟩ ?F (fun _ _ _ _ z => z)
    intro w mg fa h Y G hmg0
    obtain ⟨K, KX, c⟩ := Y
    have hmg : mg ("law" : PySem.Str) = some (.ref fa) := by
      have e : (HandSHeadRun.topDef K73.R.prog 88).name = ("law" : PySem.Str) := by kernel_rfl
      rw [← e]
      exact hmg0
    obtain ⟨fd, hb, hF⟩ := K73.facts (P := PySem.Challenge.rw_overwise_k73_whole_turns_marks_and_cost.prog) (w := w) KX G hmg c
    exact ⟨K, fd, K73.spLaw K, KX, hb, fun H a ns hl _ hS => ⟨a, ns, rfl, hS, by omega, fun _ => rfl⟩, hF⟩
