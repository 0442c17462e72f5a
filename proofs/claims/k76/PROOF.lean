import PyProof.Rows.All
import Wide.All
import OpenK.AllK
import Wide.FinOn
import KE.KStateDown
import HandS.ForMost
import HandS.More
import HandS.Exc
import HandS.Defaults
import HandS.Head0
import HandS.Head1
import HandS.Head2
import HandS.HeadEnd
import HandS.HeadHook1
import HandS.HeadHook2
import HandS.IsInst
import HandS.Evl
import HandS.Codes
import HandS.Style
import HandS.NoneIn
import HandS.RaiseMore
import KE.BitLaws
import HandS.Walk
import HandS.ListItems
import HandS.MapSum
import KE.KDictList
import PyProof.SumAny
import PyProof.DictValues
import PySem.Challenge.RW_overwise_k76_whole_division_by_rows
set_option Elab.async false
set_option linter.all false
set_option maxRecDepth 100000
set_option maxHeartbeats 0

namespace K76
open PySem PySem.Spec PyProof.Rows L2
/-! the text by its places -/
def top (i : Nat) : Stmt := PySem.Challenge.pw_overwise_k76_whole_division_by_rows.main.body.getD i (.Pass ⟨0, 0, 0, 0⟩)
def s_is_whole : Stmt := top 11
def s_need_width : Stmt := top 12
def s_cut : Stmt := top 13
def s_sum_of : Stmt := top 14
def s_gap_of : Stmt := top 15
def s_low_product : Stmt := top 16
def s_high_product : Stmt := top 17
def s_left : Stmt := top 18
def s_right : Stmt := top 19
def s_slide : Stmt := top 20
def s_row_words : Stmt := top 24
def s_need_prices : Stmt := top 25
def s_is_register : Stmt := top 32
def s_within : Stmt := top 33
def s_walked : Stmt := top 57
def s_check_steps : Stmt := top 58
def s_need_registers : Stmt := top 59
def s_go : Stmt := top 60
def s_run_steps : Stmt := top 61
def s_summed : Stmt := top 62
def s_cost_of : Stmt := top 63
def s_field_text : Stmt := top 67
def s_lines_of : Stmt := top 68
def s_steps_text : Stmt := top 69
def s_number_in : Stmt := top 70
def s_pair_row : Stmt := top 71
def s_row_of_four : Stmt := top 72
def s_row_of_five : Stmt := top 73
def s_row_of : Stmt := top 74
def s_turns_of : Stmt := top 75
def s_read_steps : Stmt := top 76
def s_law_cell : Stmt := top 78
def s_law_begun : Stmt := top 79
def s_law_draw : Stmt := top 80
def s_law_whole : Stmt := top 81
def s_law_word : Stmt := top 82
def s_law_bit : Stmt := top 83
def s_law_divided : Stmt := top 84
def s_law_product : Stmt := top 85
def s_law_cost : Stmt := top 86
def s_law_counted : Stmt := top 87
def s_law_division : Stmt := top 88
def s_law_multiplied : Stmt := top 89
def s_law : Stmt := top 90
def s_Set_init : Stmt := inClass (top 35) 0
def s_Set_word : Stmt := inClass (top 35) 1
def s_Set_told : Stmt := inClass (top 35) 2
def s_Set_fits : Stmt := inClass (top 35) 3
def s_Set_do : Stmt := inClass (top 35) 4
def s_Copy_init : Stmt := inClass (top 36) 0
def s_Copy_word : Stmt := inClass (top 36) 1
def s_Copy_told : Stmt := inClass (top 36) 2
def s_Copy_fits : Stmt := inClass (top 36) 3
def s_Copy_do : Stmt := inClass (top 36) 4
def s_Pair_init : Stmt := inClass (top 37) 0
def s_Pair_told : Stmt := inClass (top 37) 1
def s_Pair_fits : Stmt := inClass (top 37) 2
def s_Pair_do : Stmt := inClass (top 37) 4
def s_Low_word : Stmt := inClass (top 38) 0
def s_Low_worth : Stmt := inClass (top 38) 1
def s_High_word : Stmt := inClass (top 39) 0
def s_High_worth : Stmt := inClass (top 39) 1
def s_Or_word : Stmt := inClass (top 41) 0
def s_Or_worth : Stmt := inClass (top 41) 1
def s_Unlike_word : Stmt := inClass (top 42) 0
def s_Unlike_worth : Stmt := inClass (top 42) 1
def s_Under_word : Stmt := inClass (top 43) 0
def s_Under_worth : Stmt := inClass (top 43) 1
def s_Carrying_init : Stmt := inClass (top 44) 0
def s_Carrying_told : Stmt := inClass (top 44) 1
def s_Carrying_fits : Stmt := inClass (top 44) 2
def s_Carrying_do : Stmt := inClass (top 44) 4
def s_Sum_word : Stmt := inClass (top 45) 0
def s_Sum_both : Stmt := inClass (top 45) 1
def s_Gap_word : Stmt := inClass (top 46) 0
def s_Gap_both : Stmt := inClass (top 46) 1
def s_Shift_init : Stmt := inClass (top 47) 0
def s_Shift_told : Stmt := inClass (top 47) 1
def s_Shift_fits : Stmt := inClass (top 47) 2
def s_Shift_do : Stmt := inClass (top 47) 4
def s_Left_word : Stmt := inClass (top 48) 0
def s_Left_moved : Stmt := inClass (top 48) 1
def s_Right_word : Stmt := inClass (top 49) 0
def s_Right_moved : Stmt := inClass (top 49) 1
def s_Slide_word : Stmt := inClass (top 50) 0
def s_Slide_moved : Stmt := inClass (top 50) 1
def s_Pick_init : Stmt := inClass (top 51) 0
def s_Pick_word : Stmt := inClass (top 51) 1
def s_Pick_told : Stmt := inClass (top 51) 2
def s_Pick_fits : Stmt := inClass (top 51) 3
def s_Pick_do : Stmt := inClass (top 51) 4
def s_Mark_init : Stmt := inClass (top 52) 0
def s_Mark_word : Stmt := inClass (top 52) 1
def s_Mark_told : Stmt := inClass (top 52) 2
def s_Mark_fits : Stmt := inClass (top 52) 3
def s_Mark_do : Stmt := inClass (top 52) 4
def s_Turns_init : Stmt := inClass (top 53) 0
def s_Turns_fits : Stmt := inClass (top 53) 3
/-! each def as a datum -/
def dD (p : Str × Option Str) (nm ql : Str) (st : Stmt) : He.DefD := ⟨p, nm, ql, C8.fnArgs st, C8.fnBody st, C8.fnScope st, [], []⟩
def d_is_whole : He.DefD := dD ("is_whole", none) "is_whole" "is_whole" s_is_whole
def d_need_width : He.DefD := dD ("need_width", none) "need_width" "need_width" s_need_width
def d_cut : He.DefD := dD ("cut", none) "cut" "cut" s_cut
def d_sum_of : He.DefD := dD ("sum_of", none) "sum_of" "sum_of" s_sum_of
def d_gap_of : He.DefD := dD ("gap_of", none) "gap_of" "gap_of" s_gap_of
def d_low_product : He.DefD := dD ("low_product", none) "low_product" "low_product" s_low_product
def d_high_product : He.DefD := dD ("high_product", none) "high_product" "high_product" s_high_product
def d_left : He.DefD := dD ("left", none) "left" "left" s_left
def d_right : He.DefD := dD ("right", none) "right" "right" s_right
def d_slide : He.DefD := dD ("slide", none) "slide" "slide" s_slide
def d_row_words : He.DefD := dD ("row_words", none) "row_words" "row_words" s_row_words
def d_need_prices : He.DefD := dD ("need_prices", none) "need_prices" "need_prices" s_need_prices
def d_is_register : He.DefD := dD ("is_register", none) "is_register" "is_register" s_is_register
def d_within : He.DefD := dD ("within", none) "within" "within" s_within
def d_walked : He.DefD := dD ("walked", none) "walked" "walked" s_walked
def d_check_steps : He.DefD := dD ("check_steps", none) "check_steps" "check_steps" s_check_steps
def d_need_registers : He.DefD := dD ("need_registers", none) "need_registers" "need_registers" s_need_registers
def d_go : He.DefD := dD ("go", none) "go" "go" s_go
def d_run_steps : He.DefD := dD ("run_steps", none) "run_steps" "run_steps" s_run_steps
def d_summed : He.DefD := dD ("summed", none) "summed" "summed" s_summed
def d_cost_of : He.DefD := dD ("cost_of", none) "cost_of" "cost_of" s_cost_of
def d_field_text : He.DefD := dD ("field_text", none) "field_text" "field_text" s_field_text
def d_lines_of : He.DefD := dD ("lines_of", none) "lines_of" "lines_of" s_lines_of
def d_steps_text : He.DefD := dD ("steps_text", none) "steps_text" "steps_text" s_steps_text
def d_number_in : He.DefD := dD ("number_in", none) "number_in" "number_in" s_number_in
def d_pair_row : He.DefD := dD ("pair_row", none) "pair_row" "pair_row" s_pair_row
def d_row_of_four : He.DefD := dD ("row_of_four", none) "row_of_four" "row_of_four" s_row_of_four
def d_row_of_five : He.DefD := dD ("row_of_five", none) "row_of_five" "row_of_five" s_row_of_five
def d_row_of : He.DefD := dD ("row_of", none) "row_of" "row_of" s_row_of
def d_turns_of : He.DefD := dD ("turns_of", none) "turns_of" "turns_of" s_turns_of
def d_read_steps : He.DefD := dD ("read_steps", none) "read_steps" "read_steps" s_read_steps
def d_law_cell : He.DefD := dD ("_law_cell", none) "_law_cell" "_law_cell" s_law_cell
def d_law_begun : He.DefD := dD ("_law_begun", none) "_law_begun" "_law_begun" s_law_begun
def d_law_draw : He.DefD := dD ("_law_draw", none) "_law_draw" "_law_draw" s_law_draw
def d_law_whole : He.DefD := dD ("_law_whole", none) "_law_whole" "_law_whole" s_law_whole
def d_law_word : He.DefD := dD ("_law_word", none) "_law_word" "_law_word" s_law_word
def d_law_bit : He.DefD := dD ("_law_bit", none) "_law_bit" "_law_bit" s_law_bit
def d_law_divided : He.DefD := dD ("_law_divided", none) "_law_divided" "_law_divided" s_law_divided
def d_law_product : He.DefD := dD ("_law_product", none) "_law_product" "_law_product" s_law_product
def d_law_cost : He.DefD := dD ("_law_cost", none) "_law_cost" "_law_cost" s_law_cost
def d_law_counted : He.DefD := dD ("_law_counted", none) "_law_counted" "_law_counted" s_law_counted
def d_law_division : He.DefD := dD ("_law_division", none) "_law_division" "_law_division" s_law_division
def d_law_multiplied : He.DefD := dD ("_law_multiplied", none) "_law_multiplied" "_law_multiplied" s_law_multiplied
def d_law : He.DefD := dD ("law", none) "law" "law" s_law
def d_Set_init : He.DefD := dD ("Set", some "__init__") "__init__" "Set.__init__" s_Set_init
def d_Set_word : He.DefD := dD ("Set", some "word") "word" "Set.word" s_Set_word
def d_Set_told : He.DefD := dD ("Set", some "told") "told" "Set.told" s_Set_told
def d_Set_fits : He.DefD := dD ("Set", some "fits") "fits" "Set.fits" s_Set_fits
def d_Set_do : He.DefD := dD ("Set", some "do") "do" "Set.do" s_Set_do
def d_Copy_init : He.DefD := dD ("Copy", some "__init__") "__init__" "Copy.__init__" s_Copy_init
def d_Copy_word : He.DefD := dD ("Copy", some "word") "word" "Copy.word" s_Copy_word
def d_Copy_told : He.DefD := dD ("Copy", some "told") "told" "Copy.told" s_Copy_told
def d_Copy_fits : He.DefD := dD ("Copy", some "fits") "fits" "Copy.fits" s_Copy_fits
def d_Copy_do : He.DefD := dD ("Copy", some "do") "do" "Copy.do" s_Copy_do
def d_Low_init : He.DefD := dD ("Low", some "__init__") "__init__" "Pair.__init__" s_Pair_init
def d_Low_word : He.DefD := dD ("Low", some "word") "word" "Low.word" s_Low_word
def d_Low_told : He.DefD := dD ("Low", some "told") "told" "Pair.told" s_Pair_told
def d_Low_fits : He.DefD := dD ("Low", some "fits") "fits" "Pair.fits" s_Pair_fits
def d_Low_do : He.DefD := dD ("Low", some "do") "do" "Pair.do" s_Pair_do
def d_Low_worth : He.DefD := dD ("Low", some "worth") "worth" "Low.worth" s_Low_worth
def d_High_init : He.DefD := dD ("High", some "__init__") "__init__" "Pair.__init__" s_Pair_init
def d_High_word : He.DefD := dD ("High", some "word") "word" "High.word" s_High_word
def d_High_told : He.DefD := dD ("High", some "told") "told" "Pair.told" s_Pair_told
def d_High_fits : He.DefD := dD ("High", some "fits") "fits" "Pair.fits" s_Pair_fits
def d_High_do : He.DefD := dD ("High", some "do") "do" "Pair.do" s_Pair_do
def d_High_worth : He.DefD := dD ("High", some "worth") "worth" "High.worth" s_High_worth
def d_Or_init : He.DefD := dD ("Or", some "__init__") "__init__" "Pair.__init__" s_Pair_init
def d_Or_word : He.DefD := dD ("Or", some "word") "word" "Or.word" s_Or_word
def d_Or_told : He.DefD := dD ("Or", some "told") "told" "Pair.told" s_Pair_told
def d_Or_fits : He.DefD := dD ("Or", some "fits") "fits" "Pair.fits" s_Pair_fits
def d_Or_do : He.DefD := dD ("Or", some "do") "do" "Pair.do" s_Pair_do
def d_Or_worth : He.DefD := dD ("Or", some "worth") "worth" "Or.worth" s_Or_worth
def d_Unlike_init : He.DefD := dD ("Unlike", some "__init__") "__init__" "Pair.__init__" s_Pair_init
def d_Unlike_word : He.DefD := dD ("Unlike", some "word") "word" "Unlike.word" s_Unlike_word
def d_Unlike_told : He.DefD := dD ("Unlike", some "told") "told" "Pair.told" s_Pair_told
def d_Unlike_fits : He.DefD := dD ("Unlike", some "fits") "fits" "Pair.fits" s_Pair_fits
def d_Unlike_do : He.DefD := dD ("Unlike", some "do") "do" "Pair.do" s_Pair_do
def d_Unlike_worth : He.DefD := dD ("Unlike", some "worth") "worth" "Unlike.worth" s_Unlike_worth
def d_Under_init : He.DefD := dD ("Under", some "__init__") "__init__" "Pair.__init__" s_Pair_init
def d_Under_word : He.DefD := dD ("Under", some "word") "word" "Under.word" s_Under_word
def d_Under_told : He.DefD := dD ("Under", some "told") "told" "Pair.told" s_Pair_told
def d_Under_fits : He.DefD := dD ("Under", some "fits") "fits" "Pair.fits" s_Pair_fits
def d_Under_do : He.DefD := dD ("Under", some "do") "do" "Pair.do" s_Pair_do
def d_Under_worth : He.DefD := dD ("Under", some "worth") "worth" "Under.worth" s_Under_worth
def d_Sum_init : He.DefD := dD ("Sum", some "__init__") "__init__" "Carrying.__init__" s_Carrying_init
def d_Sum_word : He.DefD := dD ("Sum", some "word") "word" "Sum.word" s_Sum_word
def d_Sum_told : He.DefD := dD ("Sum", some "told") "told" "Carrying.told" s_Carrying_told
def d_Sum_fits : He.DefD := dD ("Sum", some "fits") "fits" "Carrying.fits" s_Carrying_fits
def d_Sum_do : He.DefD := dD ("Sum", some "do") "do" "Carrying.do" s_Carrying_do
def d_Sum_both : He.DefD := dD ("Sum", some "both") "both" "Sum.both" s_Sum_both
def d_Gap_init : He.DefD := dD ("Gap", some "__init__") "__init__" "Carrying.__init__" s_Carrying_init
def d_Gap_word : He.DefD := dD ("Gap", some "word") "word" "Gap.word" s_Gap_word
def d_Gap_told : He.DefD := dD ("Gap", some "told") "told" "Carrying.told" s_Carrying_told
def d_Gap_fits : He.DefD := dD ("Gap", some "fits") "fits" "Carrying.fits" s_Carrying_fits
def d_Gap_do : He.DefD := dD ("Gap", some "do") "do" "Carrying.do" s_Carrying_do
def d_Gap_both : He.DefD := dD ("Gap", some "both") "both" "Gap.both" s_Gap_both
def d_Left_init : He.DefD := dD ("Left", some "__init__") "__init__" "Shift.__init__" s_Shift_init
def d_Left_word : He.DefD := dD ("Left", some "word") "word" "Left.word" s_Left_word
def d_Left_told : He.DefD := dD ("Left", some "told") "told" "Shift.told" s_Shift_told
def d_Left_fits : He.DefD := dD ("Left", some "fits") "fits" "Shift.fits" s_Shift_fits
def d_Left_do : He.DefD := dD ("Left", some "do") "do" "Shift.do" s_Shift_do
def d_Left_moved : He.DefD := dD ("Left", some "moved") "moved" "Left.moved" s_Left_moved
def d_Right_init : He.DefD := dD ("Right", some "__init__") "__init__" "Shift.__init__" s_Shift_init
def d_Right_word : He.DefD := dD ("Right", some "word") "word" "Right.word" s_Right_word
def d_Right_told : He.DefD := dD ("Right", some "told") "told" "Shift.told" s_Shift_told
def d_Right_fits : He.DefD := dD ("Right", some "fits") "fits" "Shift.fits" s_Shift_fits
def d_Right_do : He.DefD := dD ("Right", some "do") "do" "Shift.do" s_Shift_do
def d_Right_moved : He.DefD := dD ("Right", some "moved") "moved" "Right.moved" s_Right_moved
def d_Slide_init : He.DefD := dD ("Slide", some "__init__") "__init__" "Shift.__init__" s_Shift_init
def d_Slide_word : He.DefD := dD ("Slide", some "word") "word" "Slide.word" s_Slide_word
def d_Slide_told : He.DefD := dD ("Slide", some "told") "told" "Shift.told" s_Shift_told
def d_Slide_fits : He.DefD := dD ("Slide", some "fits") "fits" "Shift.fits" s_Shift_fits
def d_Slide_do : He.DefD := dD ("Slide", some "do") "do" "Shift.do" s_Shift_do
def d_Slide_moved : He.DefD := dD ("Slide", some "moved") "moved" "Slide.moved" s_Slide_moved
def d_Pick_init : He.DefD := dD ("Pick", some "__init__") "__init__" "Pick.__init__" s_Pick_init
def d_Pick_word : He.DefD := dD ("Pick", some "word") "word" "Pick.word" s_Pick_word
def d_Pick_told : He.DefD := dD ("Pick", some "told") "told" "Pick.told" s_Pick_told
def d_Pick_fits : He.DefD := dD ("Pick", some "fits") "fits" "Pick.fits" s_Pick_fits
def d_Pick_do : He.DefD := dD ("Pick", some "do") "do" "Pick.do" s_Pick_do
def d_Mark_init : He.DefD := dD ("Mark", some "__init__") "__init__" "Mark.__init__" s_Mark_init
def d_Mark_word : He.DefD := dD ("Mark", some "word") "word" "Mark.word" s_Mark_word
def d_Mark_told : He.DefD := dD ("Mark", some "told") "told" "Mark.told" s_Mark_told
def d_Mark_fits : He.DefD := dD ("Mark", some "fits") "fits" "Mark.fits" s_Mark_fits
def d_Mark_do : He.DefD := dD ("Mark", some "do") "do" "Mark.do" s_Mark_do
def d_Turns_init : He.DefD := dD ("Turns", some "__init__") "__init__" "Turns.__init__" s_Turns_init
def d_Turns_fits : He.DefD := dD ("Turns", some "fits") "fits" "Turns.fits" s_Turns_fits
def fn0 : List He.DefD := [d_is_whole, d_need_width, d_cut, d_sum_of, d_gap_of, d_low_product, d_high_product, d_left, d_right, d_slide, d_row_words, d_need_prices, d_is_register, d_within, d_walked, d_check_steps, d_need_registers, d_go, d_run_steps, d_summed, d_cost_of, d_field_text, d_lines_of, d_steps_text, d_number_in, d_pair_row, d_row_of_four, d_row_of_five, d_row_of, d_turns_of]
def fn1 : List He.DefD := [d_read_steps, d_law_cell, d_law_begun, d_law_draw, d_law_whole, d_law_word, d_law_bit, d_law_divided, d_law_product, d_law_cost, d_law_counted, d_law_division, d_law_multiplied, d_law, d_Set_init, d_Set_word, d_Set_told, d_Set_fits, d_Set_do, d_Copy_init, d_Copy_word, d_Copy_told, d_Copy_fits, d_Copy_do, d_Low_init, d_Low_word, d_Low_told, d_Low_fits, d_Low_do, d_Low_worth]
def fn2 : List He.DefD := [d_High_init, d_High_word, d_High_told, d_High_fits, d_High_do, d_High_worth, d_Or_init, d_Or_word, d_Or_told, d_Or_fits, d_Or_do, d_Or_worth, d_Unlike_init, d_Unlike_word, d_Unlike_told, d_Unlike_fits, d_Unlike_do, d_Unlike_worth, d_Under_init, d_Under_word, d_Under_told, d_Under_fits, d_Under_do, d_Under_worth, d_Sum_init, d_Sum_word, d_Sum_told, d_Sum_fits, d_Sum_do, d_Sum_both]
def fn3 : List He.DefD := [d_Gap_init, d_Gap_word, d_Gap_told, d_Gap_fits, d_Gap_do, d_Gap_both, d_Left_init, d_Left_word, d_Left_told, d_Left_fits, d_Left_do, d_Left_moved, d_Right_init, d_Right_word, d_Right_told, d_Right_fits, d_Right_do, d_Right_moved, d_Slide_init, d_Slide_word, d_Slide_told, d_Slide_fits, d_Slide_do, d_Slide_moved, d_Pick_init, d_Pick_word, d_Pick_told, d_Pick_fits, d_Pick_do, d_Mark_init]
def fn4 : List He.DefD := [d_Mark_word, d_Mark_told, d_Mark_fits, d_Mark_do, d_Turns_init, d_Turns_fits]
def fn : List He.DefD := fn0 ++ fn1 ++ fn2 ++ fn3 ++ fn4
def fa0 : List He.Fa := [.glo "is_whole", .glo "need_width", .glo "cut", .glo "sum_of", .glo "gap_of", .glo "low_product", .glo "high_product", .glo "left", .glo "right", .glo "slide", .glo "row_words", .glo "need_prices", .glo "is_register", .glo "within", .glo "walked", .glo "check_steps", .glo "need_registers", .glo "go", .glo "run_steps", .glo "summed", .glo "cost_of", .glo "field_text", .glo "lines_of", .glo "steps_text", .glo "number_in", .glo "pair_row", .glo "row_of_four", .glo "row_of_five", .glo "row_of", .glo "turns_of"]
def fa1 : List He.Fa := [.glo "read_steps", .glo "_law_cell", .glo "_law_begun", .glo "_law_draw", .glo "_law_whole", .glo "_law_word", .glo "_law_bit", .glo "_law_divided", .glo "_law_product", .glo "_law_cost", .glo "_law_counted", .glo "_law_division", .glo "_law_multiplied", .glo "law", .glo "Set", .glo "Copy", .glo "Low", .glo "High", .glo "Or", .glo "Unlike", .glo "Under", .glo "Sum", .glo "Gap", .glo "Left", .glo "Right", .glo "Slide", .glo "Pick", .glo "Mark", .glo "Turns", .glo "Step"]
def fa2 : List He.Fa := [.glo "ROW_WORDS", .cls "Set", .mkr "Set", .cls "Copy", .mkr "Copy", .cls "Low", .mkr "Low", .cls "High", .mkr "High", .cls "Or", .mkr "Or", .cls "Unlike", .mkr "Unlike", .cls "Under", .mkr "Under", .cls "Sum", .mkr "Sum", .cls "Gap", .mkr "Gap", .cls "Left", .mkr "Left", .cls "Right", .mkr "Right", .cls "Slide", .mkr "Slide", .cls "Pick", .mkr "Pick", .cls "Mark", .mkr "Mark", .cls "Turns"]
def fa3 : List He.Fa := [.mkr "Turns", .noat "Set" "goal", .noat "Set" "bits", .noat "Copy" "goal", .noat "Copy" "one", .noat "Low" "goal", .noat "Low" "one", .noat "Low" "other", .noat "High" "goal", .noat "High" "one", .noat "High" "other", .noat "Or" "goal", .noat "Or" "one", .noat "Or" "other", .noat "Unlike" "goal", .noat "Unlike" "one", .noat "Unlike" "other", .noat "Under" "goal", .noat "Under" "one", .noat "Under" "other", .noat "Sum" "goal", .noat "Sum" "carry", .noat "Sum" "one", .noat "Sum" "other", .noat "Gap" "goal", .noat "Gap" "carry", .noat "Gap" "one", .noat "Gap" "other", .noat "Left" "goal", .noat "Left" "one"]
def fa4 : List He.Fa := [.noat "Left" "k", .noat "Right" "goal", .noat "Right" "one", .noat "Right" "k", .noat "Slide" "goal", .noat "Slide" "one", .noat "Slide" "k", .noat "Pick" "goal", .noat "Pick" "by", .noat "Pick" "one", .noat "Pick" "other", .noat "Mark" "line", .noat "Mark" "mark", .noat "Mark" "by", .noat "Turns" "times", .noat "Turns" "steps", .meth "Set" "word", .meth "Set" "told", .meth "Set" "fits", .meth "Set" "do", .meth "Copy" "word", .meth "Copy" "told", .meth "Copy" "fits", .meth "Copy" "do", .meth "Low" "word", .meth "Low" "told", .meth "Low" "fits", .meth "Low" "do", .meth "Low" "worth", .meth "High" "word"]
def fa5 : List He.Fa := [.meth "High" "told", .meth "High" "fits", .meth "High" "do", .meth "High" "worth", .meth "Or" "word", .meth "Or" "told", .meth "Or" "fits", .meth "Or" "do", .meth "Or" "worth", .meth "Unlike" "word", .meth "Unlike" "told", .meth "Unlike" "fits", .meth "Unlike" "do", .meth "Unlike" "worth", .meth "Under" "word", .meth "Under" "told", .meth "Under" "fits", .meth "Under" "do", .meth "Under" "worth", .meth "Sum" "word", .meth "Sum" "told", .meth "Sum" "fits", .meth "Sum" "do", .meth "Sum" "both", .meth "Gap" "word", .meth "Gap" "told", .meth "Gap" "fits", .meth "Gap" "do", .meth "Gap" "both", .meth "Left" "word"]
def fa6 : List He.Fa := [.meth "Left" "told", .meth "Left" "fits", .meth "Left" "do", .meth "Left" "moved", .meth "Right" "word", .meth "Right" "told", .meth "Right" "fits", .meth "Right" "do", .meth "Right" "moved", .meth "Slide" "word", .meth "Slide" "told", .meth "Slide" "fits", .meth "Slide" "do", .meth "Slide" "moved", .meth "Pick" "word", .meth "Pick" "told", .meth "Pick" "fits", .meth "Pick" "do", .meth "Mark" "word", .meth "Mark" "told", .meth "Mark" "fits", .meth "Mark" "do", .meth "Turns" "fits", .int "LEAST_WIDTH" 4, .int "GREATEST_WIDTH_words" 32, .int "MOST_PRICE" 1000, .int "LONGEST_NAME" 8, .int "MOST_LINE" 9999, .int "MOST_TIMES" 64, .int "DEEPEST" 5]
def fa7 : List He.Fa := [.int "MOST_RUN" 1000000, .int "GREATEST_WIDTH_steptexts" 32, .int "LONGEST_NUMBER" 10, .str "LETTERS" "abcdefghijklmnopqrstuvwxyz", .str "FIGURES" "0123456789", .free "ValueError", .free "all", .free "bool", .free "dict", .free "enumerate", .free "int", .free "isinstance", .free "len", .free "list", .free "max", .free "min", .free "range", .free "sorted", .free "str", .free "sum"]
def fa : List He.Fa := fa0 ++ fa1 ++ fa2 ++ fa3 ++ fa4 ++ fa5 ++ fa6 ++ fa7
def kns : List Str := ["Set", "Copy", "Low", "High", "Or", "Unlike", "Under", "Sum", "Gap", "Left", "Right", "Slide", "Pick", "Mark", "Turns"]
def rowWords : List Str := ["set", "copy", "sum", "gap", "low", "high", "left", "right", "slide", "and", "or", "unlike", "under", "pick", "mark", "turns"]
def tyB (K : PySem.W.Frag) (x : Str) : Bool := He.eqO (PySem.W.findIn K (.ref (He.ga K x)) "__class__") (some (some (.builtin "object.__class__"))) && decide (PySem.W.mroIn K (He.ga K x) (.type "object") = some true) &&
  decide (PySem.W.kitOne K (.ref (He.ga K x)) (.ref (He.ga K "Step")) = some true) && decide (PySem.W.kitOne K (.ref (He.ga K x)) (.ref (He.ga K "Turns")) = some (decide (x = "Turns")))
def exB (K : PySem.W.Frag) : Bool := kns.all (tyB K) && He.tupB K "ROW_WORDS" (rowWords.map He.Dv.str)
end K76
set_option Elab.async false
set_option linter.all false
set_option maxRecDepth 100000
set_option maxHeartbeats 0
namespace K76
open PySem PySem.Spec PyProof.Rows L2
/-! the look at the heap behind the top -/
abbrev AlE : Type := He.AlD × Bool
/-- what an object holds: a dict's values, a class's names, a def's code -/
def heldBy (g : Addr → Option Obj) (a : Addr) : List Addr := match g a with
  | some ⟨_, _, .dict es _, _⟩ => es.toList.flatMap fun e => He.refV e.val
  | some ⟨_, _, .cls cd, _⟩ => [cd.ns]
  | some ⟨_, _, .func fd, _⟩ => He.refV fd.code
  | _ => []
def reach2 (g : Addr → Option Obj) (l1 l2 : List Addr) : List Addr := mainGlobals :: (l1 ++ (l2 ++ ((l2.flatMap (heldBy g)) ++ ((l2.flatMap (heldBy g)).flatMap (heldBy g)))))
def reach1 (g : Addr → Option Obj) (l1 : List Addr) : List Addr := reach2 g l1 (l1.flatMap (heldBy g))
def reach (g : Addr → Option Obj) : List Addr := reach1 g (heldBy g mainGlobals)
def obsE (g : Addr → Option Obj) : AlE := (He.obsD fa fn (He.frG g (reach g)), exB (He.frG g (reach g)))
def valE : AlE := (He.valD fn, true)
def SaysE (K : PySem.W.Frag) : Prop := He.SaysD fa fn K ∧ exB K = true
def hk : PySem.W.Hook where
  α := AlE
  obs := fun s => obsE s.heap.get?
  val := fun _ => valE
  says := fun _ h => ∃ K : PySem.W.Frag, K.In h ∧ SaysE K
  of := fun _ _ e => ⟨_, He.frG_in, congrArg (fun z : AlE => z.1) e, congrArg (fun z : AlE => z.2) e⟩
  keeps := fun _ _ _ ⟨K, inK, says⟩ k => ⟨K, PySem.W.Frag.In.keeps inK k, says⟩
def ob (s : PySem.W.SharedT) : AlE := obsE (HandSHeadRun.getT s)
theorem ob_eq (s : PySem.W.SharedT) : ob s = hk.obs s.abs := by
  show obsE (HandSHeadRun.getT s) = obsE s.abs.heap.get?
  rw [show HandSHeadRun.getT s = s.abs.heap.get? from funext (HandSHeadRun.getT_eq s)]
abbrev R : PySem.W.OpenRow := PySem.W.OpenLaw.row PySem.Challenge.rw_overwise_k76_whole_division_by_rows
def lo0 : List PySem.Str := ["WiseError", "NoWidth", "NoText", "NoPrices", "TooMuch", "NoRegister", "NoRow", "LEAST_WIDTH", "GREATEST_WIDTH_words", "is_whole", "need_width", "cut", "sum_of", "gap_of", "low_product", "high_product", "left", "right", "slide", "ROW_WORDS", "MOST_PRICE", "row_words", "need_prices", "LETTERS", "FIGURES", "LONGEST_NAME", "MOST_LINE", "MOST_TIMES", "is_register", "within"]
def lo1 : List PySem.Str := ["Step", "Set", "Copy", "Pair", "Low", "High", "And", "Or", "Unlike", "Under", "Carrying", "Sum", "Gap", "Shift", "Left", "Right", "Slide", "Pick", "Mark", "Turns", "DEEPEST", "MOST_RUN", "walked", "check_steps", "need_registers", "go", "run_steps", "summed", "cost_of", "GREATEST_WIDTH_steptexts"]
def lo2 : List PySem.Str := ["LONGEST_NUMBER", "field_text", "lines_of", "steps_text", "number_in", "pair_row", "row_of_four", "row_of_five", "row_of", "turns_of", "read_steps", "_law_cell", "_law_begun", "_law_draw", "_law_whole", "_law_word", "_law_bit", "_law_divided", "_law_product", "_law_cost", "_law_counted", "_law_division", "_law_multiplied"]
def loose : List PySem.Str := lo0 ++ lo1 ++ lo2
theorem run (w : World) : HandSHeadRun.RunEq R (PySem.W.view R.prog [90]) hk ob 20000 loose w := by
  intro os
  kernel_rfl
end K76
set_option Elab.async false
set_option linter.all false
set_option maxRecDepth 100000
set_option maxHeartbeats 4000000
namespace K76
open PySem PyProof.Rows
/-! ## numbers -/
/-- the size of a word -/
def B (w : Nat) : Int := 2 ^ w
theorem B_pos (w : Nat) : 0 < B w := Int.pow_pos (by decide)
theorem B_succ (w : Nat) : B (w + 1) = 2 * B w := by unfold B; rw [Int.pow_succ]; omega
theorem B_nat (w : Nat) : B w = ((2 ^ w : Nat) : Int) := by unfold B; simp
theorem B_half {w : Nat} (h : 1 ≤ w) : B w = 2 * B (w - 1) := by
  have := B_succ (w - 1)
  rw [show w - 1 + 1 = w by omega] at this
  exact this
theorem B_le {v w : Nat} (h : v ≤ w) : B v ≤ B w := by
  rw [B_nat, B_nat]
  exact Int.ofNat_le.mpr (Nat.pow_le_pow_right (by decide) h)
theorem mask_mod (x : Int) (w : Nat) : Builtin.bitAnd x (B w - 1) = x % B w := PySem.W.kbt_mask x w
theorem and_small (x : Int) (hx : 0 ≤ x ∧ x ≤ 1) (y : Int) : Builtin.bitAnd y x = if x = 1 then y % 2 else 0 := by
  have : x = 0 ∨ x = 1 := by omega
  rcases this with rfl | rfl
  · rw [bitAnd_zero]; rfl
  · rw [bitAnd_m1]; rfl
theorem or_even {a u : Int} (ha : a % 2 = 0) (hu : 0 ≤ u ∧ u ≤ 1) : Builtin.bitOr a u = a + u := by
  rw [bitOr_and, and_small u hu a]
  split <;> omega
theorem or_bit {a u : Int} (ha : 0 ≤ a ∧ a ≤ 1) (hu : 0 ≤ u ∧ u ≤ 1) : Builtin.bitOr a u = if a = 0 ∧ u = 0 then 0 else 1 := by
  rw [bitOr_and, and_small u hu a]
  have : a = 0 ∨ a = 1 := by omega
  have : u = 0 ∨ u = 1 := by omega
  rcases ‹a = 0 ∨ a = 1› with rfl | rfl <;> rcases ‹u = 0 ∨ u = 1› with rfl | rfl <;> simp
theorem xor_one {a : Int} (ha : 0 ≤ a ∧ a ≤ 1) : Builtin.bitXor a 1 = 1 - a := by
  rw [bitXor_and, bitAnd_m1]
  omega
/-- one turn of the division bit by bit -/
theorem div_turn {Hf r q d : Int} (hH : 1 ≤ Hf) (hr : 0 ≤ r ∧ r < d) (hd : d < 2 * Hf) (hq : 0 ≤ q ∧ q < 2 * Hf) {t r1 u r2 q1 c1 c2 c3 s r' q' : Int}
    (et : t = r / Hf) (er1 : r1 = r * 2 % (2 * Hf)) (eu : u = q / Hf) (er2 : r2 = Builtin.bitOr r1 u) (eq1 : q1 = q * 2 % (2 * Hf)) (ec1 : c1 = if r2 < d then 1 else 0)
    (ec2 : c2 = Builtin.bitXor c1 1) (ec3 : c3 = Builtin.bitOr c2 t) (es : s = (r2 - d) % (2 * Hf)) (er' : r' = if c3 ≠ 0 then s else r2) (eq' : q' = Builtin.bitOr q1 c3) :
    (0 ≤ r' ∧ r' < d) ∧ (0 ≤ q' ∧ q' < 2 * Hf) ∧ ∃ c : Int, 0 ≤ c ∧ c ≤ 1 ∧ r' * (2 * Hf) + q' = 2 * (r * (2 * Hf) + q) - c * (d * (2 * Hf) - 1) := by
  -- the halves
  have t1 := Int.emod_add_mul_ediv r Hf
  have t2 := Int.emod_nonneg r (show Hf ≠ 0 by omega)
  have t3 := Int.emod_lt_of_pos r (show 0 < Hf by omega)
  have u1 := Int.emod_add_mul_ediv q Hf
  have u2 := Int.emod_nonneg q (show Hf ≠ 0 by omega)
  have u3 := Int.emod_lt_of_pos q (show 0 < Hf by omega)
  rw [← et] at t1
  rw [← eu] at u1
  have tb : t = 0 ∨ t = 1 := by
    rcases Int.lt_trichotomy t 0 with h | h | h
    · have : Hf * t ≤ Hf * (-1) := Int.mul_le_mul_of_nonneg_left (by omega) (by omega)
      omega
    · exact .inl h
    · by_cases h1 : t = 1
      · exact .inr h1
      · have : Hf * 2 ≤ Hf * t := Int.mul_le_mul_of_nonneg_left (by omega) (by omega)
        omega
  have ub : u = 0 ∨ u = 1 := by
    rcases Int.lt_trichotomy u 0 with h | h | h
    · have : Hf * u ≤ Hf * (-1) := Int.mul_le_mul_of_nonneg_left (by omega) (by omega)
      omega
    · exact .inl h
    · by_cases h1 : u = 1
      · exact .inr h1
      · have : Hf * 2 ≤ Hf * u := Int.mul_le_mul_of_nonneg_left (by omega) (by omega)
        omega
  have mr : r1 = 2 * (r % Hf) := by
    rw [er1]
    have e : r * 2 = 2 * (r % Hf) + (2 * Hf) * t := by
      have : (2 * Hf) * t = 2 * (Hf * t) := by rw [Int.mul_assoc]
      omega
    rw [e, Int.add_mul_emod_self_left]
    exact Int.emod_eq_of_lt (by omega) (by omega)
  have mq : q1 = 2 * (q % Hf) := by
    rw [eq1]
    have e : q * 2 = 2 * (q % Hf) + (2 * Hf) * u := by
      have : (2 * Hf) * u = 2 * (Hf * u) := by rw [Int.mul_assoc]
      omega
    rw [e, Int.add_mul_emod_self_left]
    exact Int.emod_eq_of_lt (by omega) (by omega)
  have m2 : r2 = r1 + u := by
    rw [er2]
    exact or_even (by omega) (by omega)
  have c1b : 0 ≤ c1 ∧ c1 ≤ 1 := by rw [ec1]; split <;> omega
  rw [xor_one c1b] at ec2
  have h3 := or_bit (a := c2) (u := t) (by omega) (by omega)
  rw [← ec3] at h3
  have c3b : 0 ≤ c3 ∧ c3 ≤ 1 := by rw [h3]; split <;> omega
  have hq' : q' = q1 + c3 := by
    rw [eq']
    exact or_even (by omega) c3b
  -- c3 tells whether 2 r + u reaches d
  have hc : c3 = if 2 * r + u < d then 0 else 1 := by
    rw [h3]
    rcases tb with rfl | rfl
    · have : r2 = 2 * r + u := by omega
      rw [← this]
      by_cases h : r2 < d
      · rw [if_pos h] at ec1
        rw [if_pos (by omega), if_pos h]
      · rw [if_neg h] at ec1
        rw [if_neg (by omega), if_neg h]
    · rw [if_neg (by omega), if_neg (by omega)]
  have hr' : r' = 2 * r + u - c3 * d := by
    by_cases h : 2 * r + u < d
    · rw [if_pos h] at hc
      rw [er', if_neg (by omega), hc]
      rcases tb with rfl | rfl
      · omega
      · omega
    · rw [if_neg h] at hc
      rw [er', if_pos (by omega), hc, es]
      have e : r2 - d = (2 * r + u - d) + (2 * Hf) * (-t) := by
        have : (2 * Hf) * (-t) = -(2 * (Hf * t)) := by rw [Int.mul_neg, Int.mul_assoc]
        omega
      rw [e, Int.add_mul_emod_self_left]
      rw [Int.emod_eq_of_lt (by omega) (by omega)]
      omega
  refine ⟨?_, by omega, c3, c3b.1, c3b.2, ?_⟩
  · by_cases h : 2 * r + u < d
    · rw [if_pos h] at hc
      rw [hc] at hr'
      omega
    · rw [if_neg h] at hc
      rw [hc] at hr'
      omega
  · have e1 : 2 * q = q1 + (2 * Hf) * u := by
      have : (2 * Hf) * u = 2 * (Hf * u) := by rw [Int.mul_assoc]
      omega
    rw [hr', hq']
    have : (2 * r + u - c3 * d) * (2 * Hf) + (q1 + c3) = 2 * (r * (2 * Hf) + q) - c3 * (d * (2 * Hf) - 1) + (q1 + (2 * Hf) * u - 2 * q) := by grind
    rw [this, e1]
    omega
/-- what the invariant says behind all turns -/
theorem div_end {Bw h l d r q Z : Int} (hB : 0 < Bw) (hq : 0 ≤ q ∧ q < Bw) (hZ : 0 ≤ Z ∧ Z < Bw) (e : r * Bw + q = Bw * (h * Bw + l) - Z * (d * Bw - 1)) : q = Z ∧ q * d + r = h * Bw + l := by
  have e2 : q - Z = Bw * (h * Bw + l - Z * d - r) := by grind
  have e3 : h * Bw + l - Z * d - r = 0 := by
    generalize h * Bw + l - Z * d - r = k at e2
    rcases Int.lt_trichotomy k 0 with z | z | z
    · have : Bw * k ≤ Bw * (-1) := Int.mul_le_mul_of_nonneg_left (by omega) (by omega)
      omega
    · exact z
    · have : Bw * 1 ≤ Bw * k := Int.mul_le_mul_of_nonneg_left (by omega) (by omega)
      omega
  rw [e3] at e2
  have e4 : q = Z := by omega
  refine ⟨e4, ?_⟩
  rw [e4]
  omega
/-- multiplied back and added -/
theorem back_ok {Bw h l d r q x1 y1 x k y v : Int} (hB : 0 < Bw) (hl : 0 ≤ l ∧ l < Bw) (hh : 0 ≤ h ∧ h < Bw) (e : q * d + r = h * Bw + l) (ex1 : x1 = q * d % Bw) (ey1 : y1 = q * d / Bw)
    (ex : x = (x1 + r) % Bw) (ek : k = (x1 + r) / Bw) (ey : y = (y1 + k) % Bw) (ev : v = (y1 + k) / Bw) : x = l ∧ y = h ∧ v = 0 := by
  have a1 := Int.emod_add_mul_ediv (q * d) Bw
  have a2 := Int.emod_add_mul_ediv (x1 + r) Bw
  rw [← ex1, ← ey1] at a1
  rw [← ex, ← ek] at a2
  have b1 : Bw * (y1 + k) = Bw * y1 + Bw * k := Int.mul_add _ _ _
  have b2 : x + Bw * (y1 + k) = l + Bw * h := by
    have : h * Bw = Bw * h := Int.mul_comm _ _
    omega
  have hx1 := Int.emod_nonneg (x1 + r) (show Bw ≠ 0 by omega)
  have hx2 := Int.emod_lt_of_pos (x1 + r) hB
  rw [← ex] at hx1 hx2
  have e1 : (x + Bw * (y1 + k)) % Bw = x := by rw [Int.add_mul_emod_self_left, Int.emod_eq_of_lt hx1 hx2]
  have e2 : (l + Bw * h) % Bw = l := by rw [Int.add_mul_emod_self_left, Int.emod_eq_of_lt hl.1 hl.2]
  rw [b2, e2] at e1
  have e3 : y1 + k = h := by
    have : Bw * (y1 + k) = Bw * h := by omega
    exact Int.eq_of_mul_eq_mul_left (by omega) this
  refine ⟨e1.symm, ?_, ?_⟩
  · rw [ey, e3]
    exact Int.emod_eq_of_lt hh.1 hh.2
  · rw [ev, e3]
    exact Int.ediv_eq_zero_of_lt hh.1 hh.2
/-- a slid word: all ones or nought -/
theorem slide_ok {Hf l z : Int} (hH : 1 ≤ Hf) (hl : 0 ≤ l ∧ l < 2 * Hf) (ez : z = (if l / Hf = 1 then (l - 2 * Hf) / Hf else l / Hf) % (2 * Hf)) : z = (2 * Hf - 1) * (if 2 * Hf ≤ 2 * l then 1 else 0) := by
  by_cases h : Hf ≤ l
  · have e1 : l / Hf = 1 := by
      rw [Int.ediv_eq_iff_of_pos (by omega)]
      omega
    have e2 : (l - 2 * Hf) / Hf = -1 := by
      rw [Int.ediv_eq_iff_of_pos (by omega)]
      omega
    rw [ez, if_pos e1, e2, if_pos (by omega)]
    have e3 : (-1 : Int) = (2 * Hf - 1) + (2 * Hf) * (-1) := by omega
    rw [e3, Int.add_mul_emod_self_left, Int.emod_eq_of_lt (by omega) (by omega)]
    omega
  · have e1 : l / Hf = 0 := Int.ediv_eq_zero_of_lt (by omega) (by omega)
    rw [ez, if_neg (by omega), e1, if_neg (by omega)]
    simp
theorem prod_lin {Bw a0 a1 b0 b1 p0 p1 w1 p1' k1 p2' f1 p3a v1 p2'' k2 p3b w2 q1 k3 q2 f2 p3c v2 q2' k4 p3d w3 r2 k5 v3 p3e p3f z1 z2 z3 z4 z5 z6 : Int}
    (d1 : a0 * b0 = p0 + Bw * p1) (d2 : a0 * b1 = w1 + Bw * v1) (d3 : p1 + w1 = p1' + Bw * k1) (d4 : 0 + k1 = p2' + Bw * f1) (d5 : 0 + f1 = p3a + Bw * z1) (d6 : p2' + v1 = p2'' + Bw * k2) (d7 : p3a + k2 = p3b + Bw * z2)
    (d8 : a1 * b0 = w2 + Bw * v2) (d9 : p1' + w2 = q1 + Bw * k3) (d10 : p2'' + k3 = q2 + Bw * f2) (d11 : p3b + f2 = p3c + Bw * z3) (d12 : q2 + v2 = q2' + Bw * k4) (d13 : p3c + k4 = p3d + Bw * z4)
    (d14 : a1 * b1 = w3 + Bw * v3) (d15 : q2' + w3 = r2 + Bw * k5) (d16 : p3d + v3 = p3e + Bw * z5) (d17 : p3e + k5 = p3f + Bw * z6) :
    (a1 * Bw + a0) * (b1 * Bw + b0) = ((p3f * Bw + r2) * Bw + q1) * Bw + p0 + (Bw * Bw * Bw * Bw) * (z1 + z2 + z3 + z4 + z5 + z6) := by
  have x1 : p0 = a0 * b0 - Bw * p1 := by omega
  have x2 : w1 = a0 * b1 - Bw * v1 := by omega
  have x3 : p1' = p1 + w1 - Bw * k1 := by omega
  have x4 : p2' = k1 - Bw * f1 := by omega
  have x5 : p3a = f1 - Bw * z1 := by omega
  have x6 : p2'' = p2' + v1 - Bw * k2 := by omega
  have x7 : p3b = p3a + k2 - Bw * z2 := by omega
  have x8 : w2 = a1 * b0 - Bw * v2 := by omega
  have x9 : q1 = p1' + w2 - Bw * k3 := by omega
  have x10 : q2 = p2'' + k3 - Bw * f2 := by omega
  have x11 : p3c = p3b + f2 - Bw * z3 := by omega
  have x12 : q2' = q2 + v2 - Bw * k4 := by omega
  have x13 : p3d = p3c + k4 - Bw * z4 := by omega
  have x14 : w3 = a1 * b1 - Bw * v3 := by omega
  have x15 : r2 = q2' + w3 - Bw * k5 := by omega
  have x16 : p3e = p3d + v3 - Bw * z5 := by omega
  have x17 : p3f = p3e + k5 - Bw * z6 := by omega
  clear d1 d2 d3 d4 d5 d6 d7 d8 d9 d10 d11 d12 d13 d14 d15 d16 d17
  subst x1 x2 x3 x4 x5 x6 x7 x8 x9 x10 x11 x12 x13 x14 x15 x16 x17
  grind
/-- the product of two numbers of two words, by rows -/
theorem prod_ok {Bw a0 a1 b0 b1 p0 p1 w1 p1' k1 p2' f1 p3a v1 p2'' k2 p3b w2 q1 k3 q2 f2 p3c v2 q2' k4 p3d w3 r2 k5 v3 p3e p3f : Int} (hB : 0 < Bw) (ha0 : 0 ≤ a0 ∧ a0 < Bw) (ha1 : 0 ≤ a1 ∧ a1 < Bw) (hb0 : 0 ≤ b0 ∧ b0 < Bw) (hb1 : 0 ≤ b1 ∧ b1 < Bw)
    (e1 : p0 = a0 * b0 % Bw) (e2 : p1 = a0 * b0 / Bw) (e3 : w1 = a0 * b1 % Bw) (e4 : p1' = (p1 + w1) % Bw) (e5 : k1 = (p1 + w1) / Bw) (e6 : p2' = (0 + k1) % Bw) (e7 : f1 = (0 + k1) / Bw) (e8 : p3a = (0 + f1) % Bw)
    (e9 : v1 = a0 * b1 / Bw) (e10 : p2'' = (p2' + v1) % Bw) (e11 : k2 = (p2' + v1) / Bw) (e12 : p3b = (p3a + k2) % Bw)
    (g3 : w2 = a1 * b0 % Bw) (g4 : q1 = (p1' + w2) % Bw) (g5 : k3 = (p1' + w2) / Bw) (g6 : q2 = (p2'' + k3) % Bw) (g7 : f2 = (p2'' + k3) / Bw) (g8 : p3c = (p3b + f2) % Bw)
    (g9 : v2 = a1 * b0 / Bw) (g10 : q2' = (q2 + v2) % Bw) (g11 : k4 = (q2 + v2) / Bw) (g12 : p3d = (p3c + k4) % Bw)
    (f3 : w3 = a1 * b1 % Bw) (f4 : r2 = (q2' + w3) % Bw) (f5 : k5 = (q2' + w3) / Bw) (f6 : v3 = a1 * b1 / Bw) (f7 : p3e = (p3d + v3) % Bw) (f8 : p3f = (p3e + k5) % Bw) :
    ((p3f * Bw + r2) * Bw + q1) * Bw + p0 = (a1 * Bw + a0) * (b1 * Bw + b0) := by
  have D : ∀ x y z : Int, y = x % Bw → z = x / Bw → x = y + Bw * z := fun x y z h1 h2 => by
    rw [h1, h2]
    exact (Int.emod_add_mul_ediv x Bw).symm
  have M : ∀ x y : Int, y = x % Bw → ∃ z, x = y + Bw * z := fun x y h => ⟨x / Bw, D x y _ h rfl⟩
  have N : ∀ x y : Int, y = x % Bw → 0 ≤ y ∧ y < Bw := fun x y h => by
    rw [h]
    exact ⟨Int.emod_nonneg _ (by omega), Int.emod_lt_of_pos _ hB⟩
  have d1 := D _ _ _ e1 e2
  have d2 := D _ _ _ e3 e9
  have d3 := D _ _ _ e4 e5
  have d4 := D _ _ _ e6 e7
  obtain ⟨z1, d5⟩ := M _ _ e8
  have d6 := D _ _ _ e10 e11
  obtain ⟨z2, d7⟩ := M _ _ e12
  have d8 := D _ _ _ g3 g9
  have d9 := D _ _ _ g4 g5
  have d10 := D _ _ _ g6 g7
  obtain ⟨z3, d11⟩ := M _ _ g8
  have d12 := D _ _ _ g10 g11
  obtain ⟨z4, d13⟩ := M _ _ g12
  have d14 := D _ _ _ f3 f6
  have d15 := D _ _ _ f4 f5
  obtain ⟨z5, d16⟩ := M _ _ f7
  obtain ⟨z6, d17⟩ := M _ _ f8
  have n0 := N _ _ e1
  have n1 := N _ _ g4
  have n2 := N _ _ f4
  have n3 := N _ _ f8
  have key : (a1 * Bw + a0) * (b1 * Bw + b0) = ((p3f * Bw + r2) * Bw + q1) * Bw + p0 + (Bw * Bw * Bw * Bw) * (z1 + z2 + z3 + z4 + z5 + z6) :=
    prod_lin d1 d2 d3 d4 d5 d6 d7 d8 d9 d10 d11 d12 d13 d14 d15 d16 d17
  have up : (a1 * Bw + a0) * (b1 * Bw + b0) < Bw * Bw * Bw * Bw ∧ 0 ≤ (a1 * Bw + a0) * (b1 * Bw + b0) := by
    have s1 : 0 ≤ a1 * Bw := Int.mul_nonneg ha1.1 (by omega)
    have s2 : 0 ≤ b1 * Bw := Int.mul_nonneg hb1.1 (by omega)
    have s3 : a1 * Bw ≤ (Bw - 1) * Bw := Int.mul_le_mul_of_nonneg_right (by omega) (by omega)
    have s4 : b1 * Bw ≤ (Bw - 1) * Bw := Int.mul_le_mul_of_nonneg_right (by omega) (by omega)
    have s5 : (Bw - 1) * Bw = Bw * Bw - Bw := by grind
    have s6 : a1 * Bw + a0 ≤ Bw * Bw - 1 := by omega
    have s7 : b1 * Bw + b0 ≤ Bw * Bw - 1 := by omega
    have s8 : (a1 * Bw + a0) * (b1 * Bw + b0) ≤ (Bw * Bw - 1) * (Bw * Bw - 1) := Int.mul_le_mul s6 s7 (by omega) (by omega)
    have s9 : 1 * 1 ≤ Bw * Bw := Int.mul_le_mul (by omega) (by omega) (by omega) (by omega)
    have s10 : (Bw * Bw - 1) * (Bw * Bw - 1) = Bw * Bw * Bw * Bw - 2 * (Bw * Bw) + 1 := by grind
    exact ⟨by omega, Int.mul_nonneg (by omega) (by omega)⟩
  have lo : 0 ≤ ((p3f * Bw + r2) * Bw + q1) * Bw + p0 ∧ ((p3f * Bw + r2) * Bw + q1) * Bw + p0 < Bw * Bw * Bw * Bw := by
    have s1 : 0 ≤ p3f * Bw := Int.mul_nonneg n3.1 (by omega)
    have s2 : p3f * Bw ≤ (Bw - 1) * Bw := Int.mul_le_mul_of_nonneg_right (by omega) (by omega)
    have s3 : (Bw - 1) * Bw = Bw * Bw - Bw := by grind
    have s4 : 0 ≤ (p3f * Bw + r2) * Bw := Int.mul_nonneg (by omega) (by omega)
    have s5 : (p3f * Bw + r2) * Bw ≤ (Bw * Bw - 1) * Bw := Int.mul_le_mul_of_nonneg_right (by omega) (by omega)
    have s6 : (Bw * Bw - 1) * Bw = Bw * Bw * Bw - Bw := by grind
    have s7 : 0 ≤ ((p3f * Bw + r2) * Bw + q1) * Bw := Int.mul_nonneg (by omega) (by omega)
    have s8 : ((p3f * Bw + r2) * Bw + q1) * Bw ≤ (Bw * Bw * Bw - 1) * Bw := Int.mul_le_mul_of_nonneg_right (by omega) (by omega)
    have s9 : (Bw * Bw * Bw - 1) * Bw = Bw * Bw * Bw * Bw - Bw := by grind
    omega
  generalize ((p3f * Bw + r2) * Bw + q1) * Bw + p0 = L at key lo ⊢
  generalize (a1 * Bw + a0) * (b1 * Bw + b0) = U at key up ⊢
  generalize Bw * Bw * Bw * Bw = F at key up lo
  generalize z1 + z2 + z3 + z4 + z5 + z6 = z at key
  have hz : z = 0 := by
    rcases Int.lt_trichotomy z 0 with h | h | h
    · have : F * z ≤ F * (-1) := Int.mul_le_mul_of_nonneg_left (by omega) (by omega)
      omega
    · exact h
    · have : F * 1 ≤ F * z := Int.mul_le_mul_of_nonneg_left (by omega) (by omega)
      omega
  rw [hz] at key
  omega
end K76
set_option Elab.async false
set_option linter.all false
set_option maxRecDepth 100000
set_option maxHeartbeats 0

namespace K76
open PySem PySem.Spec PyProof.Rows L2
/-- what the walk leans on: the facts of the text as the top has left it -/
structure Tx (K : PySem.W.Frag) (mg : Str → Option Value) : Prop where
  says : He.SaysD fa fn K
  more : exB K = true
  hp : ∃ h : Heap, K.In h ∧ h.Ns mainGlobals mg
abbrev cA (K : PySem.W.Frag) (x : Str) : Addr := He.ga K x
section
variable {K : PySem.W.Frag} {mg : Str → Option Value}
theorem Tx.glo (T : Tx K mg) (i : Nat) {x : Str} (h : fa[i]? = some (.glo x)) : mg x = some (.ref (He.ga K x)) := by
  obtain ⟨hp, X, G⟩ := T.hp
  exact He.glo_ok X G (T.says.fact i h)
theorem Tx.fre (T : Tx K mg) (i : Nat) {x : Str} (h : fa[i]? = some (.free x)) : mg x = none := by
  obtain ⟨hp, X, G⟩ := T.hp
  exact He.free_ok X G (T.says.fact i h)
theorem Tx.int (T : Tx K mg) (i : Nat) {x : Str} {n : Int} (h : fa[i]? = some (.int x n)) : ∃ u, mg x = some u ∧ RelV (.int n) u := by
  obtain ⟨hp, X, G⟩ := T.hp
  obtain ⟨t, e⟩ := He.int_ok X G (T.says.fact i h)
  exact ⟨_, e, t, rfl⟩
theorem Tx.str (T : Tx K mg) (i : Nat) {x z : Str} (h : fa[i]? = some (.str x z)) : ∃ u, mg x = some u ∧ RelV (.str z) u := by
  obtain ⟨hp, X, G⟩ := T.hp
  obtain ⟨t, e⟩ := He.str_ok X G (T.says.fact i h)
  exact ⟨_, e, t, rfl⟩
theorem Tx.cls (T : Tx K mg) (i : Nat) {x : Str} (h : fa[i]? = some (.cls x)) : Cls K (He.ga K x) := He.cls_ok (T.says.fact i h)
theorem Tx.noa (T : Tx K mg) (i : Nat) {x f : Str} (h : fa[i]? = some (.noat x f)) : NoAttr K (He.ga K x) f := He.noat_ok (T.says.fact i h)
theorem Tx.met (T : Tx K mg) (i : Nat) {x m : Str} (h : fa[i]? = some (.meth x m)) : Meth K (He.ga K x) m (He.ma K (He.ga K x) m) := He.meth_ok (T.says.fact i h)
theorem Tx.mkr (T : Tx K mg) (i : Nat) {x : Str} (h : fa[i]? = some (.mkr x)) : Mk K (He.ga K x) (He.ma K (He.ga K x) "__init__") := He.mkr_ok (T.says.fact i h)
/-- a def of the text, no default -/
abbrev FnT (K : PySem.W.Frag) (nm ql : Str) (st : Stmt) (f : Addr) : Prop := ∃ fd, FunD K nm ql (C8.fnArgs st) (C8.fnBody st) (C8.fnScope st) [] [] f fd
theorem Tx.g_is_whole (T : Tx K mg) : mg "is_whole" = some (.ref (He.ga K "is_whole")) := T.glo 0 rfl
theorem Tx.g_need_width (T : Tx K mg) : mg "need_width" = some (.ref (He.ga K "need_width")) := T.glo 1 rfl
theorem Tx.g_cut (T : Tx K mg) : mg "cut" = some (.ref (He.ga K "cut")) := T.glo 2 rfl
theorem Tx.g_sum_of (T : Tx K mg) : mg "sum_of" = some (.ref (He.ga K "sum_of")) := T.glo 3 rfl
theorem Tx.g_gap_of (T : Tx K mg) : mg "gap_of" = some (.ref (He.ga K "gap_of")) := T.glo 4 rfl
theorem Tx.g_low_product (T : Tx K mg) : mg "low_product" = some (.ref (He.ga K "low_product")) := T.glo 5 rfl
theorem Tx.g_high_product (T : Tx K mg) : mg "high_product" = some (.ref (He.ga K "high_product")) := T.glo 6 rfl
theorem Tx.g_left (T : Tx K mg) : mg "left" = some (.ref (He.ga K "left")) := T.glo 7 rfl
theorem Tx.g_right (T : Tx K mg) : mg "right" = some (.ref (He.ga K "right")) := T.glo 8 rfl
theorem Tx.g_slide (T : Tx K mg) : mg "slide" = some (.ref (He.ga K "slide")) := T.glo 9 rfl
theorem Tx.g_row_words (T : Tx K mg) : mg "row_words" = some (.ref (He.ga K "row_words")) := T.glo 10 rfl
theorem Tx.g_need_prices (T : Tx K mg) : mg "need_prices" = some (.ref (He.ga K "need_prices")) := T.glo 11 rfl
theorem Tx.g_is_register (T : Tx K mg) : mg "is_register" = some (.ref (He.ga K "is_register")) := T.glo 12 rfl
theorem Tx.g_within (T : Tx K mg) : mg "within" = some (.ref (He.ga K "within")) := T.glo 13 rfl
theorem Tx.g_walked (T : Tx K mg) : mg "walked" = some (.ref (He.ga K "walked")) := T.glo 14 rfl
theorem Tx.g_check_steps (T : Tx K mg) : mg "check_steps" = some (.ref (He.ga K "check_steps")) := T.glo 15 rfl
theorem Tx.g_need_registers (T : Tx K mg) : mg "need_registers" = some (.ref (He.ga K "need_registers")) := T.glo 16 rfl
theorem Tx.g_go (T : Tx K mg) : mg "go" = some (.ref (He.ga K "go")) := T.glo 17 rfl
theorem Tx.g_run_steps (T : Tx K mg) : mg "run_steps" = some (.ref (He.ga K "run_steps")) := T.glo 18 rfl
theorem Tx.g_summed (T : Tx K mg) : mg "summed" = some (.ref (He.ga K "summed")) := T.glo 19 rfl
theorem Tx.g_cost_of (T : Tx K mg) : mg "cost_of" = some (.ref (He.ga K "cost_of")) := T.glo 20 rfl
theorem Tx.g_field_text (T : Tx K mg) : mg "field_text" = some (.ref (He.ga K "field_text")) := T.glo 21 rfl
theorem Tx.g_lines_of (T : Tx K mg) : mg "lines_of" = some (.ref (He.ga K "lines_of")) := T.glo 22 rfl
theorem Tx.g_steps_text (T : Tx K mg) : mg "steps_text" = some (.ref (He.ga K "steps_text")) := T.glo 23 rfl
theorem Tx.g_number_in (T : Tx K mg) : mg "number_in" = some (.ref (He.ga K "number_in")) := T.glo 24 rfl
theorem Tx.g_pair_row (T : Tx K mg) : mg "pair_row" = some (.ref (He.ga K "pair_row")) := T.glo 25 rfl
theorem Tx.g_row_of_four (T : Tx K mg) : mg "row_of_four" = some (.ref (He.ga K "row_of_four")) := T.glo 26 rfl
theorem Tx.g_row_of_five (T : Tx K mg) : mg "row_of_five" = some (.ref (He.ga K "row_of_five")) := T.glo 27 rfl
theorem Tx.g_row_of (T : Tx K mg) : mg "row_of" = some (.ref (He.ga K "row_of")) := T.glo 28 rfl
theorem Tx.g_turns_of (T : Tx K mg) : mg "turns_of" = some (.ref (He.ga K "turns_of")) := T.glo 29 rfl
theorem Tx.g_read_steps (T : Tx K mg) : mg "read_steps" = some (.ref (He.ga K "read_steps")) := T.glo 30 rfl
theorem Tx.g__law_cell (T : Tx K mg) : mg "_law_cell" = some (.ref (He.ga K "_law_cell")) := T.glo 31 rfl
theorem Tx.g__law_begun (T : Tx K mg) : mg "_law_begun" = some (.ref (He.ga K "_law_begun")) := T.glo 32 rfl
theorem Tx.g__law_draw (T : Tx K mg) : mg "_law_draw" = some (.ref (He.ga K "_law_draw")) := T.glo 33 rfl
theorem Tx.g__law_whole (T : Tx K mg) : mg "_law_whole" = some (.ref (He.ga K "_law_whole")) := T.glo 34 rfl
theorem Tx.g__law_word (T : Tx K mg) : mg "_law_word" = some (.ref (He.ga K "_law_word")) := T.glo 35 rfl
theorem Tx.g__law_bit (T : Tx K mg) : mg "_law_bit" = some (.ref (He.ga K "_law_bit")) := T.glo 36 rfl
theorem Tx.g__law_divided (T : Tx K mg) : mg "_law_divided" = some (.ref (He.ga K "_law_divided")) := T.glo 37 rfl
theorem Tx.g__law_product (T : Tx K mg) : mg "_law_product" = some (.ref (He.ga K "_law_product")) := T.glo 38 rfl
theorem Tx.g__law_cost (T : Tx K mg) : mg "_law_cost" = some (.ref (He.ga K "_law_cost")) := T.glo 39 rfl
theorem Tx.g__law_counted (T : Tx K mg) : mg "_law_counted" = some (.ref (He.ga K "_law_counted")) := T.glo 40 rfl
theorem Tx.g__law_division (T : Tx K mg) : mg "_law_division" = some (.ref (He.ga K "_law_division")) := T.glo 41 rfl
theorem Tx.g__law_multiplied (T : Tx K mg) : mg "_law_multiplied" = some (.ref (He.ga K "_law_multiplied")) := T.glo 42 rfl
theorem Tx.g_law (T : Tx K mg) : mg "law" = some (.ref (He.ga K "law")) := T.glo 43 rfl
theorem Tx.g_Set (T : Tx K mg) : mg "Set" = some (.ref (He.ga K "Set")) := T.glo 44 rfl
theorem Tx.g_Copy (T : Tx K mg) : mg "Copy" = some (.ref (He.ga K "Copy")) := T.glo 45 rfl
theorem Tx.g_Low (T : Tx K mg) : mg "Low" = some (.ref (He.ga K "Low")) := T.glo 46 rfl
theorem Tx.g_High (T : Tx K mg) : mg "High" = some (.ref (He.ga K "High")) := T.glo 47 rfl
theorem Tx.g_Or (T : Tx K mg) : mg "Or" = some (.ref (He.ga K "Or")) := T.glo 48 rfl
theorem Tx.g_Unlike (T : Tx K mg) : mg "Unlike" = some (.ref (He.ga K "Unlike")) := T.glo 49 rfl
theorem Tx.g_Under (T : Tx K mg) : mg "Under" = some (.ref (He.ga K "Under")) := T.glo 50 rfl
theorem Tx.g_Sum (T : Tx K mg) : mg "Sum" = some (.ref (He.ga K "Sum")) := T.glo 51 rfl
theorem Tx.g_Gap (T : Tx K mg) : mg "Gap" = some (.ref (He.ga K "Gap")) := T.glo 52 rfl
theorem Tx.g_Left (T : Tx K mg) : mg "Left" = some (.ref (He.ga K "Left")) := T.glo 53 rfl
theorem Tx.g_Right (T : Tx K mg) : mg "Right" = some (.ref (He.ga K "Right")) := T.glo 54 rfl
theorem Tx.g_Slide (T : Tx K mg) : mg "Slide" = some (.ref (He.ga K "Slide")) := T.glo 55 rfl
theorem Tx.g_Pick (T : Tx K mg) : mg "Pick" = some (.ref (He.ga K "Pick")) := T.glo 56 rfl
theorem Tx.g_Mark (T : Tx K mg) : mg "Mark" = some (.ref (He.ga K "Mark")) := T.glo 57 rfl
theorem Tx.g_Turns (T : Tx K mg) : mg "Turns" = some (.ref (He.ga K "Turns")) := T.glo 58 rfl
theorem Tx.g_Step (T : Tx K mg) : mg "Step" = some (.ref (He.ga K "Step")) := T.glo 59 rfl
theorem Tx.g_ROW_WORDS (T : Tx K mg) : mg "ROW_WORDS" = some (.ref (He.ga K "ROW_WORDS")) := T.glo 60 rfl
theorem Tx.c_Set (T : Tx K mg) : Cls K (He.ga K "Set") := T.cls 61 rfl
theorem Tx.k_Set (T : Tx K mg) : Mk K (He.ga K "Set") (He.ma K (He.ga K "Set") "__init__") := T.mkr 62 rfl
theorem Tx.c_Copy (T : Tx K mg) : Cls K (He.ga K "Copy") := T.cls 63 rfl
theorem Tx.k_Copy (T : Tx K mg) : Mk K (He.ga K "Copy") (He.ma K (He.ga K "Copy") "__init__") := T.mkr 64 rfl
theorem Tx.c_Low (T : Tx K mg) : Cls K (He.ga K "Low") := T.cls 65 rfl
theorem Tx.k_Low (T : Tx K mg) : Mk K (He.ga K "Low") (He.ma K (He.ga K "Low") "__init__") := T.mkr 66 rfl
theorem Tx.c_High (T : Tx K mg) : Cls K (He.ga K "High") := T.cls 67 rfl
theorem Tx.k_High (T : Tx K mg) : Mk K (He.ga K "High") (He.ma K (He.ga K "High") "__init__") := T.mkr 68 rfl
theorem Tx.c_Or (T : Tx K mg) : Cls K (He.ga K "Or") := T.cls 69 rfl
theorem Tx.k_Or (T : Tx K mg) : Mk K (He.ga K "Or") (He.ma K (He.ga K "Or") "__init__") := T.mkr 70 rfl
theorem Tx.c_Unlike (T : Tx K mg) : Cls K (He.ga K "Unlike") := T.cls 71 rfl
theorem Tx.k_Unlike (T : Tx K mg) : Mk K (He.ga K "Unlike") (He.ma K (He.ga K "Unlike") "__init__") := T.mkr 72 rfl
theorem Tx.c_Under (T : Tx K mg) : Cls K (He.ga K "Under") := T.cls 73 rfl
theorem Tx.k_Under (T : Tx K mg) : Mk K (He.ga K "Under") (He.ma K (He.ga K "Under") "__init__") := T.mkr 74 rfl
theorem Tx.c_Sum (T : Tx K mg) : Cls K (He.ga K "Sum") := T.cls 75 rfl
theorem Tx.k_Sum (T : Tx K mg) : Mk K (He.ga K "Sum") (He.ma K (He.ga K "Sum") "__init__") := T.mkr 76 rfl
theorem Tx.c_Gap (T : Tx K mg) : Cls K (He.ga K "Gap") := T.cls 77 rfl
theorem Tx.k_Gap (T : Tx K mg) : Mk K (He.ga K "Gap") (He.ma K (He.ga K "Gap") "__init__") := T.mkr 78 rfl
theorem Tx.c_Left (T : Tx K mg) : Cls K (He.ga K "Left") := T.cls 79 rfl
theorem Tx.k_Left (T : Tx K mg) : Mk K (He.ga K "Left") (He.ma K (He.ga K "Left") "__init__") := T.mkr 80 rfl
theorem Tx.c_Right (T : Tx K mg) : Cls K (He.ga K "Right") := T.cls 81 rfl
theorem Tx.k_Right (T : Tx K mg) : Mk K (He.ga K "Right") (He.ma K (He.ga K "Right") "__init__") := T.mkr 82 rfl
theorem Tx.c_Slide (T : Tx K mg) : Cls K (He.ga K "Slide") := T.cls 83 rfl
theorem Tx.k_Slide (T : Tx K mg) : Mk K (He.ga K "Slide") (He.ma K (He.ga K "Slide") "__init__") := T.mkr 84 rfl
theorem Tx.c_Pick (T : Tx K mg) : Cls K (He.ga K "Pick") := T.cls 85 rfl
theorem Tx.k_Pick (T : Tx K mg) : Mk K (He.ga K "Pick") (He.ma K (He.ga K "Pick") "__init__") := T.mkr 86 rfl
theorem Tx.c_Mark (T : Tx K mg) : Cls K (He.ga K "Mark") := T.cls 87 rfl
theorem Tx.k_Mark (T : Tx K mg) : Mk K (He.ga K "Mark") (He.ma K (He.ga K "Mark") "__init__") := T.mkr 88 rfl
theorem Tx.c_Turns (T : Tx K mg) : Cls K (He.ga K "Turns") := T.cls 89 rfl
theorem Tx.k_Turns (T : Tx K mg) : Mk K (He.ga K "Turns") (He.ma K (He.ga K "Turns") "__init__") := T.mkr 90 rfl
theorem Tx.n_Set_goal (T : Tx K mg) : NoAttr K (He.ga K "Set") "goal" := T.noa 91 rfl
theorem Tx.n_Set_bits (T : Tx K mg) : NoAttr K (He.ga K "Set") "bits" := T.noa 92 rfl
theorem Tx.n_Copy_goal (T : Tx K mg) : NoAttr K (He.ga K "Copy") "goal" := T.noa 93 rfl
theorem Tx.n_Copy_one (T : Tx K mg) : NoAttr K (He.ga K "Copy") "one" := T.noa 94 rfl
theorem Tx.n_Low_goal (T : Tx K mg) : NoAttr K (He.ga K "Low") "goal" := T.noa 95 rfl
theorem Tx.n_Low_one (T : Tx K mg) : NoAttr K (He.ga K "Low") "one" := T.noa 96 rfl
theorem Tx.n_Low_other (T : Tx K mg) : NoAttr K (He.ga K "Low") "other" := T.noa 97 rfl
theorem Tx.n_High_goal (T : Tx K mg) : NoAttr K (He.ga K "High") "goal" := T.noa 98 rfl
theorem Tx.n_High_one (T : Tx K mg) : NoAttr K (He.ga K "High") "one" := T.noa 99 rfl
theorem Tx.n_High_other (T : Tx K mg) : NoAttr K (He.ga K "High") "other" := T.noa 100 rfl
theorem Tx.n_Or_goal (T : Tx K mg) : NoAttr K (He.ga K "Or") "goal" := T.noa 101 rfl
theorem Tx.n_Or_one (T : Tx K mg) : NoAttr K (He.ga K "Or") "one" := T.noa 102 rfl
theorem Tx.n_Or_other (T : Tx K mg) : NoAttr K (He.ga K "Or") "other" := T.noa 103 rfl
theorem Tx.n_Unlike_goal (T : Tx K mg) : NoAttr K (He.ga K "Unlike") "goal" := T.noa 104 rfl
theorem Tx.n_Unlike_one (T : Tx K mg) : NoAttr K (He.ga K "Unlike") "one" := T.noa 105 rfl
theorem Tx.n_Unlike_other (T : Tx K mg) : NoAttr K (He.ga K "Unlike") "other" := T.noa 106 rfl
theorem Tx.n_Under_goal (T : Tx K mg) : NoAttr K (He.ga K "Under") "goal" := T.noa 107 rfl
theorem Tx.n_Under_one (T : Tx K mg) : NoAttr K (He.ga K "Under") "one" := T.noa 108 rfl
theorem Tx.n_Under_other (T : Tx K mg) : NoAttr K (He.ga K "Under") "other" := T.noa 109 rfl
theorem Tx.n_Sum_goal (T : Tx K mg) : NoAttr K (He.ga K "Sum") "goal" := T.noa 110 rfl
theorem Tx.n_Sum_carry (T : Tx K mg) : NoAttr K (He.ga K "Sum") "carry" := T.noa 111 rfl
theorem Tx.n_Sum_one (T : Tx K mg) : NoAttr K (He.ga K "Sum") "one" := T.noa 112 rfl
theorem Tx.n_Sum_other (T : Tx K mg) : NoAttr K (He.ga K "Sum") "other" := T.noa 113 rfl
theorem Tx.n_Gap_goal (T : Tx K mg) : NoAttr K (He.ga K "Gap") "goal" := T.noa 114 rfl
theorem Tx.n_Gap_carry (T : Tx K mg) : NoAttr K (He.ga K "Gap") "carry" := T.noa 115 rfl
theorem Tx.n_Gap_one (T : Tx K mg) : NoAttr K (He.ga K "Gap") "one" := T.noa 116 rfl
theorem Tx.n_Gap_other (T : Tx K mg) : NoAttr K (He.ga K "Gap") "other" := T.noa 117 rfl
theorem Tx.n_Left_goal (T : Tx K mg) : NoAttr K (He.ga K "Left") "goal" := T.noa 118 rfl
theorem Tx.n_Left_one (T : Tx K mg) : NoAttr K (He.ga K "Left") "one" := T.noa 119 rfl
theorem Tx.n_Left_k (T : Tx K mg) : NoAttr K (He.ga K "Left") "k" := T.noa 120 rfl
theorem Tx.n_Right_goal (T : Tx K mg) : NoAttr K (He.ga K "Right") "goal" := T.noa 121 rfl
theorem Tx.n_Right_one (T : Tx K mg) : NoAttr K (He.ga K "Right") "one" := T.noa 122 rfl
theorem Tx.n_Right_k (T : Tx K mg) : NoAttr K (He.ga K "Right") "k" := T.noa 123 rfl
theorem Tx.n_Slide_goal (T : Tx K mg) : NoAttr K (He.ga K "Slide") "goal" := T.noa 124 rfl
theorem Tx.n_Slide_one (T : Tx K mg) : NoAttr K (He.ga K "Slide") "one" := T.noa 125 rfl
theorem Tx.n_Slide_k (T : Tx K mg) : NoAttr K (He.ga K "Slide") "k" := T.noa 126 rfl
theorem Tx.n_Pick_goal (T : Tx K mg) : NoAttr K (He.ga K "Pick") "goal" := T.noa 127 rfl
theorem Tx.n_Pick_by (T : Tx K mg) : NoAttr K (He.ga K "Pick") "by" := T.noa 128 rfl
theorem Tx.n_Pick_one (T : Tx K mg) : NoAttr K (He.ga K "Pick") "one" := T.noa 129 rfl
theorem Tx.n_Pick_other (T : Tx K mg) : NoAttr K (He.ga K "Pick") "other" := T.noa 130 rfl
theorem Tx.n_Mark_line (T : Tx K mg) : NoAttr K (He.ga K "Mark") "line" := T.noa 131 rfl
theorem Tx.n_Mark_mark (T : Tx K mg) : NoAttr K (He.ga K "Mark") "mark" := T.noa 132 rfl
theorem Tx.n_Mark_by (T : Tx K mg) : NoAttr K (He.ga K "Mark") "by" := T.noa 133 rfl
theorem Tx.n_Turns_times (T : Tx K mg) : NoAttr K (He.ga K "Turns") "times" := T.noa 134 rfl
theorem Tx.n_Turns_steps (T : Tx K mg) : NoAttr K (He.ga K "Turns") "steps" := T.noa 135 rfl
theorem Tx.m_Set_word (T : Tx K mg) : Meth K (He.ga K "Set") "word" (He.ma K (He.ga K "Set") "word") := T.met 136 rfl
theorem Tx.m_Set_told (T : Tx K mg) : Meth K (He.ga K "Set") "told" (He.ma K (He.ga K "Set") "told") := T.met 137 rfl
theorem Tx.m_Set_fits (T : Tx K mg) : Meth K (He.ga K "Set") "fits" (He.ma K (He.ga K "Set") "fits") := T.met 138 rfl
theorem Tx.m_Set_do (T : Tx K mg) : Meth K (He.ga K "Set") "do" (He.ma K (He.ga K "Set") "do") := T.met 139 rfl
theorem Tx.m_Copy_word (T : Tx K mg) : Meth K (He.ga K "Copy") "word" (He.ma K (He.ga K "Copy") "word") := T.met 140 rfl
theorem Tx.m_Copy_told (T : Tx K mg) : Meth K (He.ga K "Copy") "told" (He.ma K (He.ga K "Copy") "told") := T.met 141 rfl
theorem Tx.m_Copy_fits (T : Tx K mg) : Meth K (He.ga K "Copy") "fits" (He.ma K (He.ga K "Copy") "fits") := T.met 142 rfl
theorem Tx.m_Copy_do (T : Tx K mg) : Meth K (He.ga K "Copy") "do" (He.ma K (He.ga K "Copy") "do") := T.met 143 rfl
theorem Tx.m_Low_word (T : Tx K mg) : Meth K (He.ga K "Low") "word" (He.ma K (He.ga K "Low") "word") := T.met 144 rfl
theorem Tx.m_Low_told (T : Tx K mg) : Meth K (He.ga K "Low") "told" (He.ma K (He.ga K "Low") "told") := T.met 145 rfl
theorem Tx.m_Low_fits (T : Tx K mg) : Meth K (He.ga K "Low") "fits" (He.ma K (He.ga K "Low") "fits") := T.met 146 rfl
theorem Tx.m_Low_do (T : Tx K mg) : Meth K (He.ga K "Low") "do" (He.ma K (He.ga K "Low") "do") := T.met 147 rfl
theorem Tx.m_Low_worth (T : Tx K mg) : Meth K (He.ga K "Low") "worth" (He.ma K (He.ga K "Low") "worth") := T.met 148 rfl
theorem Tx.m_High_word (T : Tx K mg) : Meth K (He.ga K "High") "word" (He.ma K (He.ga K "High") "word") := T.met 149 rfl
theorem Tx.m_High_told (T : Tx K mg) : Meth K (He.ga K "High") "told" (He.ma K (He.ga K "High") "told") := T.met 150 rfl
theorem Tx.m_High_fits (T : Tx K mg) : Meth K (He.ga K "High") "fits" (He.ma K (He.ga K "High") "fits") := T.met 151 rfl
theorem Tx.m_High_do (T : Tx K mg) : Meth K (He.ga K "High") "do" (He.ma K (He.ga K "High") "do") := T.met 152 rfl
theorem Tx.m_High_worth (T : Tx K mg) : Meth K (He.ga K "High") "worth" (He.ma K (He.ga K "High") "worth") := T.met 153 rfl
theorem Tx.m_Or_word (T : Tx K mg) : Meth K (He.ga K "Or") "word" (He.ma K (He.ga K "Or") "word") := T.met 154 rfl
theorem Tx.m_Or_told (T : Tx K mg) : Meth K (He.ga K "Or") "told" (He.ma K (He.ga K "Or") "told") := T.met 155 rfl
theorem Tx.m_Or_fits (T : Tx K mg) : Meth K (He.ga K "Or") "fits" (He.ma K (He.ga K "Or") "fits") := T.met 156 rfl
theorem Tx.m_Or_do (T : Tx K mg) : Meth K (He.ga K "Or") "do" (He.ma K (He.ga K "Or") "do") := T.met 157 rfl
theorem Tx.m_Or_worth (T : Tx K mg) : Meth K (He.ga K "Or") "worth" (He.ma K (He.ga K "Or") "worth") := T.met 158 rfl
theorem Tx.m_Unlike_word (T : Tx K mg) : Meth K (He.ga K "Unlike") "word" (He.ma K (He.ga K "Unlike") "word") := T.met 159 rfl
theorem Tx.m_Unlike_told (T : Tx K mg) : Meth K (He.ga K "Unlike") "told" (He.ma K (He.ga K "Unlike") "told") := T.met 160 rfl
theorem Tx.m_Unlike_fits (T : Tx K mg) : Meth K (He.ga K "Unlike") "fits" (He.ma K (He.ga K "Unlike") "fits") := T.met 161 rfl
theorem Tx.m_Unlike_do (T : Tx K mg) : Meth K (He.ga K "Unlike") "do" (He.ma K (He.ga K "Unlike") "do") := T.met 162 rfl
theorem Tx.m_Unlike_worth (T : Tx K mg) : Meth K (He.ga K "Unlike") "worth" (He.ma K (He.ga K "Unlike") "worth") := T.met 163 rfl
theorem Tx.m_Under_word (T : Tx K mg) : Meth K (He.ga K "Under") "word" (He.ma K (He.ga K "Under") "word") := T.met 164 rfl
theorem Tx.m_Under_told (T : Tx K mg) : Meth K (He.ga K "Under") "told" (He.ma K (He.ga K "Under") "told") := T.met 165 rfl
theorem Tx.m_Under_fits (T : Tx K mg) : Meth K (He.ga K "Under") "fits" (He.ma K (He.ga K "Under") "fits") := T.met 166 rfl
theorem Tx.m_Under_do (T : Tx K mg) : Meth K (He.ga K "Under") "do" (He.ma K (He.ga K "Under") "do") := T.met 167 rfl
theorem Tx.m_Under_worth (T : Tx K mg) : Meth K (He.ga K "Under") "worth" (He.ma K (He.ga K "Under") "worth") := T.met 168 rfl
theorem Tx.m_Sum_word (T : Tx K mg) : Meth K (He.ga K "Sum") "word" (He.ma K (He.ga K "Sum") "word") := T.met 169 rfl
theorem Tx.m_Sum_told (T : Tx K mg) : Meth K (He.ga K "Sum") "told" (He.ma K (He.ga K "Sum") "told") := T.met 170 rfl
theorem Tx.m_Sum_fits (T : Tx K mg) : Meth K (He.ga K "Sum") "fits" (He.ma K (He.ga K "Sum") "fits") := T.met 171 rfl
theorem Tx.m_Sum_do (T : Tx K mg) : Meth K (He.ga K "Sum") "do" (He.ma K (He.ga K "Sum") "do") := T.met 172 rfl
theorem Tx.m_Sum_both (T : Tx K mg) : Meth K (He.ga K "Sum") "both" (He.ma K (He.ga K "Sum") "both") := T.met 173 rfl
theorem Tx.m_Gap_word (T : Tx K mg) : Meth K (He.ga K "Gap") "word" (He.ma K (He.ga K "Gap") "word") := T.met 174 rfl
theorem Tx.m_Gap_told (T : Tx K mg) : Meth K (He.ga K "Gap") "told" (He.ma K (He.ga K "Gap") "told") := T.met 175 rfl
theorem Tx.m_Gap_fits (T : Tx K mg) : Meth K (He.ga K "Gap") "fits" (He.ma K (He.ga K "Gap") "fits") := T.met 176 rfl
theorem Tx.m_Gap_do (T : Tx K mg) : Meth K (He.ga K "Gap") "do" (He.ma K (He.ga K "Gap") "do") := T.met 177 rfl
theorem Tx.m_Gap_both (T : Tx K mg) : Meth K (He.ga K "Gap") "both" (He.ma K (He.ga K "Gap") "both") := T.met 178 rfl
theorem Tx.m_Left_word (T : Tx K mg) : Meth K (He.ga K "Left") "word" (He.ma K (He.ga K "Left") "word") := T.met 179 rfl
theorem Tx.m_Left_told (T : Tx K mg) : Meth K (He.ga K "Left") "told" (He.ma K (He.ga K "Left") "told") := T.met 180 rfl
theorem Tx.m_Left_fits (T : Tx K mg) : Meth K (He.ga K "Left") "fits" (He.ma K (He.ga K "Left") "fits") := T.met 181 rfl
theorem Tx.m_Left_do (T : Tx K mg) : Meth K (He.ga K "Left") "do" (He.ma K (He.ga K "Left") "do") := T.met 182 rfl
theorem Tx.m_Left_moved (T : Tx K mg) : Meth K (He.ga K "Left") "moved" (He.ma K (He.ga K "Left") "moved") := T.met 183 rfl
theorem Tx.m_Right_word (T : Tx K mg) : Meth K (He.ga K "Right") "word" (He.ma K (He.ga K "Right") "word") := T.met 184 rfl
theorem Tx.m_Right_told (T : Tx K mg) : Meth K (He.ga K "Right") "told" (He.ma K (He.ga K "Right") "told") := T.met 185 rfl
theorem Tx.m_Right_fits (T : Tx K mg) : Meth K (He.ga K "Right") "fits" (He.ma K (He.ga K "Right") "fits") := T.met 186 rfl
theorem Tx.m_Right_do (T : Tx K mg) : Meth K (He.ga K "Right") "do" (He.ma K (He.ga K "Right") "do") := T.met 187 rfl
theorem Tx.m_Right_moved (T : Tx K mg) : Meth K (He.ga K "Right") "moved" (He.ma K (He.ga K "Right") "moved") := T.met 188 rfl
theorem Tx.m_Slide_word (T : Tx K mg) : Meth K (He.ga K "Slide") "word" (He.ma K (He.ga K "Slide") "word") := T.met 189 rfl
theorem Tx.m_Slide_told (T : Tx K mg) : Meth K (He.ga K "Slide") "told" (He.ma K (He.ga K "Slide") "told") := T.met 190 rfl
theorem Tx.m_Slide_fits (T : Tx K mg) : Meth K (He.ga K "Slide") "fits" (He.ma K (He.ga K "Slide") "fits") := T.met 191 rfl
theorem Tx.m_Slide_do (T : Tx K mg) : Meth K (He.ga K "Slide") "do" (He.ma K (He.ga K "Slide") "do") := T.met 192 rfl
theorem Tx.m_Slide_moved (T : Tx K mg) : Meth K (He.ga K "Slide") "moved" (He.ma K (He.ga K "Slide") "moved") := T.met 193 rfl
theorem Tx.m_Pick_word (T : Tx K mg) : Meth K (He.ga K "Pick") "word" (He.ma K (He.ga K "Pick") "word") := T.met 194 rfl
theorem Tx.m_Pick_told (T : Tx K mg) : Meth K (He.ga K "Pick") "told" (He.ma K (He.ga K "Pick") "told") := T.met 195 rfl
theorem Tx.m_Pick_fits (T : Tx K mg) : Meth K (He.ga K "Pick") "fits" (He.ma K (He.ga K "Pick") "fits") := T.met 196 rfl
theorem Tx.m_Pick_do (T : Tx K mg) : Meth K (He.ga K "Pick") "do" (He.ma K (He.ga K "Pick") "do") := T.met 197 rfl
theorem Tx.m_Mark_word (T : Tx K mg) : Meth K (He.ga K "Mark") "word" (He.ma K (He.ga K "Mark") "word") := T.met 198 rfl
theorem Tx.m_Mark_told (T : Tx K mg) : Meth K (He.ga K "Mark") "told" (He.ma K (He.ga K "Mark") "told") := T.met 199 rfl
theorem Tx.m_Mark_fits (T : Tx K mg) : Meth K (He.ga K "Mark") "fits" (He.ma K (He.ga K "Mark") "fits") := T.met 200 rfl
theorem Tx.m_Mark_do (T : Tx K mg) : Meth K (He.ga K "Mark") "do" (He.ma K (He.ga K "Mark") "do") := T.met 201 rfl
theorem Tx.m_Turns_fits (T : Tx K mg) : Meth K (He.ga K "Turns") "fits" (He.ma K (He.ga K "Turns") "fits") := T.met 202 rfl
theorem Tx.i_LEAST_WIDTH (T : Tx K mg) : ∃ u, mg "LEAST_WIDTH" = some u ∧ RelV (.int 4) u := T.int 203 rfl
theorem Tx.i_GREATEST_WIDTH_words (T : Tx K mg) : ∃ u, mg "GREATEST_WIDTH_words" = some u ∧ RelV (.int 32) u := T.int 204 rfl
theorem Tx.i_MOST_PRICE (T : Tx K mg) : ∃ u, mg "MOST_PRICE" = some u ∧ RelV (.int 1000) u := T.int 205 rfl
theorem Tx.i_LONGEST_NAME (T : Tx K mg) : ∃ u, mg "LONGEST_NAME" = some u ∧ RelV (.int 8) u := T.int 206 rfl
theorem Tx.i_MOST_LINE (T : Tx K mg) : ∃ u, mg "MOST_LINE" = some u ∧ RelV (.int 9999) u := T.int 207 rfl
theorem Tx.i_MOST_TIMES (T : Tx K mg) : ∃ u, mg "MOST_TIMES" = some u ∧ RelV (.int 64) u := T.int 208 rfl
theorem Tx.i_DEEPEST (T : Tx K mg) : ∃ u, mg "DEEPEST" = some u ∧ RelV (.int 5) u := T.int 209 rfl
theorem Tx.i_MOST_RUN (T : Tx K mg) : ∃ u, mg "MOST_RUN" = some u ∧ RelV (.int 1000000) u := T.int 210 rfl
theorem Tx.i_GREATEST_WIDTH_steptexts (T : Tx K mg) : ∃ u, mg "GREATEST_WIDTH_steptexts" = some u ∧ RelV (.int 32) u := T.int 211 rfl
theorem Tx.i_LONGEST_NUMBER (T : Tx K mg) : ∃ u, mg "LONGEST_NUMBER" = some u ∧ RelV (.int 10) u := T.int 212 rfl
theorem Tx.t_LETTERS (T : Tx K mg) : ∃ u, mg "LETTERS" = some u ∧ RelV (.str "abcdefghijklmnopqrstuvwxyz") u := T.str 213 rfl
theorem Tx.t_FIGURES (T : Tx K mg) : ∃ u, mg "FIGURES" = some u ∧ RelV (.str "0123456789") u := T.str 214 rfl
theorem Tx.z_ValueError (T : Tx K mg) : mg "ValueError" = none := T.fre 215 rfl
theorem Tx.z_all (T : Tx K mg) : mg "all" = none := T.fre 216 rfl
theorem Tx.z_bool (T : Tx K mg) : mg "bool" = none := T.fre 217 rfl
theorem Tx.z_dict (T : Tx K mg) : mg "dict" = none := T.fre 218 rfl
theorem Tx.z_enumerate (T : Tx K mg) : mg "enumerate" = none := T.fre 219 rfl
theorem Tx.z_int (T : Tx K mg) : mg "int" = none := T.fre 220 rfl
theorem Tx.z_isinstance (T : Tx K mg) : mg "isinstance" = none := T.fre 221 rfl
theorem Tx.z_len (T : Tx K mg) : mg "len" = none := T.fre 222 rfl
theorem Tx.z_list (T : Tx K mg) : mg "list" = none := T.fre 223 rfl
theorem Tx.z_max (T : Tx K mg) : mg "max" = none := T.fre 224 rfl
theorem Tx.z_min (T : Tx K mg) : mg "min" = none := T.fre 225 rfl
theorem Tx.z_range (T : Tx K mg) : mg "range" = none := T.fre 226 rfl
theorem Tx.z_sorted (T : Tx K mg) : mg "sorted" = none := T.fre 227 rfl
theorem Tx.z_str (T : Tx K mg) : mg "str" = none := T.fre 228 rfl
theorem Tx.z_sum (T : Tx K mg) : mg "sum" = none := T.fre 229 rfl
theorem Tx.f_is_whole (T : Tx K mg) : FnT K "is_whole" "is_whole" s_is_whole (He.ga K "is_whole") := T.says.def_ 0 (d := d_is_whole) rfl
theorem Tx.f_need_width (T : Tx K mg) : FnT K "need_width" "need_width" s_need_width (He.ga K "need_width") := T.says.def_ 1 (d := d_need_width) rfl
theorem Tx.f_cut (T : Tx K mg) : FnT K "cut" "cut" s_cut (He.ga K "cut") := T.says.def_ 2 (d := d_cut) rfl
theorem Tx.f_sum_of (T : Tx K mg) : FnT K "sum_of" "sum_of" s_sum_of (He.ga K "sum_of") := T.says.def_ 3 (d := d_sum_of) rfl
theorem Tx.f_gap_of (T : Tx K mg) : FnT K "gap_of" "gap_of" s_gap_of (He.ga K "gap_of") := T.says.def_ 4 (d := d_gap_of) rfl
theorem Tx.f_low_product (T : Tx K mg) : FnT K "low_product" "low_product" s_low_product (He.ga K "low_product") := T.says.def_ 5 (d := d_low_product) rfl
theorem Tx.f_high_product (T : Tx K mg) : FnT K "high_product" "high_product" s_high_product (He.ga K "high_product") := T.says.def_ 6 (d := d_high_product) rfl
theorem Tx.f_left (T : Tx K mg) : FnT K "left" "left" s_left (He.ga K "left") := T.says.def_ 7 (d := d_left) rfl
theorem Tx.f_right (T : Tx K mg) : FnT K "right" "right" s_right (He.ga K "right") := T.says.def_ 8 (d := d_right) rfl
theorem Tx.f_slide (T : Tx K mg) : FnT K "slide" "slide" s_slide (He.ga K "slide") := T.says.def_ 9 (d := d_slide) rfl
theorem Tx.f_row_words (T : Tx K mg) : FnT K "row_words" "row_words" s_row_words (He.ga K "row_words") := T.says.def_ 10 (d := d_row_words) rfl
theorem Tx.f_need_prices (T : Tx K mg) : FnT K "need_prices" "need_prices" s_need_prices (He.ga K "need_prices") := T.says.def_ 11 (d := d_need_prices) rfl
theorem Tx.f_is_register (T : Tx K mg) : FnT K "is_register" "is_register" s_is_register (He.ga K "is_register") := T.says.def_ 12 (d := d_is_register) rfl
theorem Tx.f_within (T : Tx K mg) : FnT K "within" "within" s_within (He.ga K "within") := T.says.def_ 13 (d := d_within) rfl
theorem Tx.f_walked (T : Tx K mg) : FnT K "walked" "walked" s_walked (He.ga K "walked") := T.says.def_ 14 (d := d_walked) rfl
theorem Tx.f_check_steps (T : Tx K mg) : FnT K "check_steps" "check_steps" s_check_steps (He.ga K "check_steps") := T.says.def_ 15 (d := d_check_steps) rfl
theorem Tx.f_need_registers (T : Tx K mg) : FnT K "need_registers" "need_registers" s_need_registers (He.ga K "need_registers") := T.says.def_ 16 (d := d_need_registers) rfl
theorem Tx.f_go (T : Tx K mg) : FnT K "go" "go" s_go (He.ga K "go") := T.says.def_ 17 (d := d_go) rfl
theorem Tx.f_run_steps (T : Tx K mg) : FnT K "run_steps" "run_steps" s_run_steps (He.ga K "run_steps") := T.says.def_ 18 (d := d_run_steps) rfl
theorem Tx.f_summed (T : Tx K mg) : FnT K "summed" "summed" s_summed (He.ga K "summed") := T.says.def_ 19 (d := d_summed) rfl
theorem Tx.f_cost_of (T : Tx K mg) : FnT K "cost_of" "cost_of" s_cost_of (He.ga K "cost_of") := T.says.def_ 20 (d := d_cost_of) rfl
theorem Tx.f_field_text (T : Tx K mg) : FnT K "field_text" "field_text" s_field_text (He.ga K "field_text") := T.says.def_ 21 (d := d_field_text) rfl
theorem Tx.f_lines_of (T : Tx K mg) : FnT K "lines_of" "lines_of" s_lines_of (He.ga K "lines_of") := T.says.def_ 22 (d := d_lines_of) rfl
theorem Tx.f_steps_text (T : Tx K mg) : FnT K "steps_text" "steps_text" s_steps_text (He.ga K "steps_text") := T.says.def_ 23 (d := d_steps_text) rfl
theorem Tx.f_number_in (T : Tx K mg) : FnT K "number_in" "number_in" s_number_in (He.ga K "number_in") := T.says.def_ 24 (d := d_number_in) rfl
theorem Tx.f_pair_row (T : Tx K mg) : FnT K "pair_row" "pair_row" s_pair_row (He.ga K "pair_row") := T.says.def_ 25 (d := d_pair_row) rfl
theorem Tx.f_row_of_four (T : Tx K mg) : FnT K "row_of_four" "row_of_four" s_row_of_four (He.ga K "row_of_four") := T.says.def_ 26 (d := d_row_of_four) rfl
theorem Tx.f_row_of_five (T : Tx K mg) : FnT K "row_of_five" "row_of_five" s_row_of_five (He.ga K "row_of_five") := T.says.def_ 27 (d := d_row_of_five) rfl
theorem Tx.f_row_of (T : Tx K mg) : FnT K "row_of" "row_of" s_row_of (He.ga K "row_of") := T.says.def_ 28 (d := d_row_of) rfl
theorem Tx.f_turns_of (T : Tx K mg) : FnT K "turns_of" "turns_of" s_turns_of (He.ga K "turns_of") := T.says.def_ 29 (d := d_turns_of) rfl
theorem Tx.f_read_steps (T : Tx K mg) : FnT K "read_steps" "read_steps" s_read_steps (He.ga K "read_steps") := T.says.def_ 30 (d := d_read_steps) rfl
theorem Tx.f_law_cell (T : Tx K mg) : FnT K "_law_cell" "_law_cell" s_law_cell (He.ga K "_law_cell") := T.says.def_ 31 (d := d_law_cell) rfl
theorem Tx.f_law_begun (T : Tx K mg) : FnT K "_law_begun" "_law_begun" s_law_begun (He.ga K "_law_begun") := T.says.def_ 32 (d := d_law_begun) rfl
theorem Tx.f_law_draw (T : Tx K mg) : FnT K "_law_draw" "_law_draw" s_law_draw (He.ga K "_law_draw") := T.says.def_ 33 (d := d_law_draw) rfl
theorem Tx.f_law_whole (T : Tx K mg) : FnT K "_law_whole" "_law_whole" s_law_whole (He.ga K "_law_whole") := T.says.def_ 34 (d := d_law_whole) rfl
theorem Tx.f_law_word (T : Tx K mg) : FnT K "_law_word" "_law_word" s_law_word (He.ga K "_law_word") := T.says.def_ 35 (d := d_law_word) rfl
theorem Tx.f_law_bit (T : Tx K mg) : FnT K "_law_bit" "_law_bit" s_law_bit (He.ga K "_law_bit") := T.says.def_ 36 (d := d_law_bit) rfl
theorem Tx.f_law_divided (T : Tx K mg) : FnT K "_law_divided" "_law_divided" s_law_divided (He.ga K "_law_divided") := T.says.def_ 37 (d := d_law_divided) rfl
theorem Tx.f_law_product (T : Tx K mg) : FnT K "_law_product" "_law_product" s_law_product (He.ga K "_law_product") := T.says.def_ 38 (d := d_law_product) rfl
theorem Tx.f_law_cost (T : Tx K mg) : FnT K "_law_cost" "_law_cost" s_law_cost (He.ga K "_law_cost") := T.says.def_ 39 (d := d_law_cost) rfl
theorem Tx.f_law_counted (T : Tx K mg) : FnT K "_law_counted" "_law_counted" s_law_counted (He.ga K "_law_counted") := T.says.def_ 40 (d := d_law_counted) rfl
theorem Tx.f_law_division (T : Tx K mg) : FnT K "_law_division" "_law_division" s_law_division (He.ga K "_law_division") := T.says.def_ 41 (d := d_law_division) rfl
theorem Tx.f_law_multiplied (T : Tx K mg) : FnT K "_law_multiplied" "_law_multiplied" s_law_multiplied (He.ga K "_law_multiplied") := T.says.def_ 42 (d := d_law_multiplied) rfl
theorem Tx.f_law (T : Tx K mg) : FnT K "law" "law" s_law (He.ga K "law") := T.says.def_ 43 (d := d_law) rfl
theorem Tx.f_Set_init (T : Tx K mg) : FnT K "__init__" "Set.__init__" s_Set_init (He.ma K (He.ga K "Set") "__init__") := T.says.def_ 44 (d := d_Set_init) rfl
theorem Tx.f_Set_word (T : Tx K mg) : FnT K "word" "Set.word" s_Set_word (He.ma K (He.ga K "Set") "word") := T.says.def_ 45 (d := d_Set_word) rfl
theorem Tx.f_Set_told (T : Tx K mg) : FnT K "told" "Set.told" s_Set_told (He.ma K (He.ga K "Set") "told") := T.says.def_ 46 (d := d_Set_told) rfl
theorem Tx.f_Set_fits (T : Tx K mg) : FnT K "fits" "Set.fits" s_Set_fits (He.ma K (He.ga K "Set") "fits") := T.says.def_ 47 (d := d_Set_fits) rfl
theorem Tx.f_Set_do (T : Tx K mg) : FnT K "do" "Set.do" s_Set_do (He.ma K (He.ga K "Set") "do") := T.says.def_ 48 (d := d_Set_do) rfl
theorem Tx.f_Copy_init (T : Tx K mg) : FnT K "__init__" "Copy.__init__" s_Copy_init (He.ma K (He.ga K "Copy") "__init__") := T.says.def_ 49 (d := d_Copy_init) rfl
theorem Tx.f_Copy_word (T : Tx K mg) : FnT K "word" "Copy.word" s_Copy_word (He.ma K (He.ga K "Copy") "word") := T.says.def_ 50 (d := d_Copy_word) rfl
theorem Tx.f_Copy_told (T : Tx K mg) : FnT K "told" "Copy.told" s_Copy_told (He.ma K (He.ga K "Copy") "told") := T.says.def_ 51 (d := d_Copy_told) rfl
theorem Tx.f_Copy_fits (T : Tx K mg) : FnT K "fits" "Copy.fits" s_Copy_fits (He.ma K (He.ga K "Copy") "fits") := T.says.def_ 52 (d := d_Copy_fits) rfl
theorem Tx.f_Copy_do (T : Tx K mg) : FnT K "do" "Copy.do" s_Copy_do (He.ma K (He.ga K "Copy") "do") := T.says.def_ 53 (d := d_Copy_do) rfl
theorem Tx.f_Low_init (T : Tx K mg) : FnT K "__init__" "Pair.__init__" s_Pair_init (He.ma K (He.ga K "Low") "__init__") := T.says.def_ 54 (d := d_Low_init) rfl
theorem Tx.f_Low_word (T : Tx K mg) : FnT K "word" "Low.word" s_Low_word (He.ma K (He.ga K "Low") "word") := T.says.def_ 55 (d := d_Low_word) rfl
theorem Tx.f_Low_told (T : Tx K mg) : FnT K "told" "Pair.told" s_Pair_told (He.ma K (He.ga K "Low") "told") := T.says.def_ 56 (d := d_Low_told) rfl
theorem Tx.f_Low_fits (T : Tx K mg) : FnT K "fits" "Pair.fits" s_Pair_fits (He.ma K (He.ga K "Low") "fits") := T.says.def_ 57 (d := d_Low_fits) rfl
theorem Tx.f_Low_do (T : Tx K mg) : FnT K "do" "Pair.do" s_Pair_do (He.ma K (He.ga K "Low") "do") := T.says.def_ 58 (d := d_Low_do) rfl
theorem Tx.f_Low_worth (T : Tx K mg) : FnT K "worth" "Low.worth" s_Low_worth (He.ma K (He.ga K "Low") "worth") := T.says.def_ 59 (d := d_Low_worth) rfl
theorem Tx.f_High_init (T : Tx K mg) : FnT K "__init__" "Pair.__init__" s_Pair_init (He.ma K (He.ga K "High") "__init__") := T.says.def_ 60 (d := d_High_init) rfl
theorem Tx.f_High_word (T : Tx K mg) : FnT K "word" "High.word" s_High_word (He.ma K (He.ga K "High") "word") := T.says.def_ 61 (d := d_High_word) rfl
theorem Tx.f_High_told (T : Tx K mg) : FnT K "told" "Pair.told" s_Pair_told (He.ma K (He.ga K "High") "told") := T.says.def_ 62 (d := d_High_told) rfl
theorem Tx.f_High_fits (T : Tx K mg) : FnT K "fits" "Pair.fits" s_Pair_fits (He.ma K (He.ga K "High") "fits") := T.says.def_ 63 (d := d_High_fits) rfl
theorem Tx.f_High_do (T : Tx K mg) : FnT K "do" "Pair.do" s_Pair_do (He.ma K (He.ga K "High") "do") := T.says.def_ 64 (d := d_High_do) rfl
theorem Tx.f_High_worth (T : Tx K mg) : FnT K "worth" "High.worth" s_High_worth (He.ma K (He.ga K "High") "worth") := T.says.def_ 65 (d := d_High_worth) rfl
theorem Tx.f_Or_init (T : Tx K mg) : FnT K "__init__" "Pair.__init__" s_Pair_init (He.ma K (He.ga K "Or") "__init__") := T.says.def_ 66 (d := d_Or_init) rfl
theorem Tx.f_Or_word (T : Tx K mg) : FnT K "word" "Or.word" s_Or_word (He.ma K (He.ga K "Or") "word") := T.says.def_ 67 (d := d_Or_word) rfl
theorem Tx.f_Or_told (T : Tx K mg) : FnT K "told" "Pair.told" s_Pair_told (He.ma K (He.ga K "Or") "told") := T.says.def_ 68 (d := d_Or_told) rfl
theorem Tx.f_Or_fits (T : Tx K mg) : FnT K "fits" "Pair.fits" s_Pair_fits (He.ma K (He.ga K "Or") "fits") := T.says.def_ 69 (d := d_Or_fits) rfl
theorem Tx.f_Or_do (T : Tx K mg) : FnT K "do" "Pair.do" s_Pair_do (He.ma K (He.ga K "Or") "do") := T.says.def_ 70 (d := d_Or_do) rfl
theorem Tx.f_Or_worth (T : Tx K mg) : FnT K "worth" "Or.worth" s_Or_worth (He.ma K (He.ga K "Or") "worth") := T.says.def_ 71 (d := d_Or_worth) rfl
theorem Tx.f_Unlike_init (T : Tx K mg) : FnT K "__init__" "Pair.__init__" s_Pair_init (He.ma K (He.ga K "Unlike") "__init__") := T.says.def_ 72 (d := d_Unlike_init) rfl
theorem Tx.f_Unlike_word (T : Tx K mg) : FnT K "word" "Unlike.word" s_Unlike_word (He.ma K (He.ga K "Unlike") "word") := T.says.def_ 73 (d := d_Unlike_word) rfl
theorem Tx.f_Unlike_told (T : Tx K mg) : FnT K "told" "Pair.told" s_Pair_told (He.ma K (He.ga K "Unlike") "told") := T.says.def_ 74 (d := d_Unlike_told) rfl
theorem Tx.f_Unlike_fits (T : Tx K mg) : FnT K "fits" "Pair.fits" s_Pair_fits (He.ma K (He.ga K "Unlike") "fits") := T.says.def_ 75 (d := d_Unlike_fits) rfl
theorem Tx.f_Unlike_do (T : Tx K mg) : FnT K "do" "Pair.do" s_Pair_do (He.ma K (He.ga K "Unlike") "do") := T.says.def_ 76 (d := d_Unlike_do) rfl
theorem Tx.f_Unlike_worth (T : Tx K mg) : FnT K "worth" "Unlike.worth" s_Unlike_worth (He.ma K (He.ga K "Unlike") "worth") := T.says.def_ 77 (d := d_Unlike_worth) rfl
theorem Tx.f_Under_init (T : Tx K mg) : FnT K "__init__" "Pair.__init__" s_Pair_init (He.ma K (He.ga K "Under") "__init__") := T.says.def_ 78 (d := d_Under_init) rfl
theorem Tx.f_Under_word (T : Tx K mg) : FnT K "word" "Under.word" s_Under_word (He.ma K (He.ga K "Under") "word") := T.says.def_ 79 (d := d_Under_word) rfl
theorem Tx.f_Under_told (T : Tx K mg) : FnT K "told" "Pair.told" s_Pair_told (He.ma K (He.ga K "Under") "told") := T.says.def_ 80 (d := d_Under_told) rfl
theorem Tx.f_Under_fits (T : Tx K mg) : FnT K "fits" "Pair.fits" s_Pair_fits (He.ma K (He.ga K "Under") "fits") := T.says.def_ 81 (d := d_Under_fits) rfl
theorem Tx.f_Under_do (T : Tx K mg) : FnT K "do" "Pair.do" s_Pair_do (He.ma K (He.ga K "Under") "do") := T.says.def_ 82 (d := d_Under_do) rfl
theorem Tx.f_Under_worth (T : Tx K mg) : FnT K "worth" "Under.worth" s_Under_worth (He.ma K (He.ga K "Under") "worth") := T.says.def_ 83 (d := d_Under_worth) rfl
theorem Tx.f_Sum_init (T : Tx K mg) : FnT K "__init__" "Carrying.__init__" s_Carrying_init (He.ma K (He.ga K "Sum") "__init__") := T.says.def_ 84 (d := d_Sum_init) rfl
theorem Tx.f_Sum_word (T : Tx K mg) : FnT K "word" "Sum.word" s_Sum_word (He.ma K (He.ga K "Sum") "word") := T.says.def_ 85 (d := d_Sum_word) rfl
theorem Tx.f_Sum_told (T : Tx K mg) : FnT K "told" "Carrying.told" s_Carrying_told (He.ma K (He.ga K "Sum") "told") := T.says.def_ 86 (d := d_Sum_told) rfl
theorem Tx.f_Sum_fits (T : Tx K mg) : FnT K "fits" "Carrying.fits" s_Carrying_fits (He.ma K (He.ga K "Sum") "fits") := T.says.def_ 87 (d := d_Sum_fits) rfl
theorem Tx.f_Sum_do (T : Tx K mg) : FnT K "do" "Carrying.do" s_Carrying_do (He.ma K (He.ga K "Sum") "do") := T.says.def_ 88 (d := d_Sum_do) rfl
theorem Tx.f_Sum_both (T : Tx K mg) : FnT K "both" "Sum.both" s_Sum_both (He.ma K (He.ga K "Sum") "both") := T.says.def_ 89 (d := d_Sum_both) rfl
theorem Tx.f_Gap_init (T : Tx K mg) : FnT K "__init__" "Carrying.__init__" s_Carrying_init (He.ma K (He.ga K "Gap") "__init__") := T.says.def_ 90 (d := d_Gap_init) rfl
theorem Tx.f_Gap_word (T : Tx K mg) : FnT K "word" "Gap.word" s_Gap_word (He.ma K (He.ga K "Gap") "word") := T.says.def_ 91 (d := d_Gap_word) rfl
theorem Tx.f_Gap_told (T : Tx K mg) : FnT K "told" "Carrying.told" s_Carrying_told (He.ma K (He.ga K "Gap") "told") := T.says.def_ 92 (d := d_Gap_told) rfl
theorem Tx.f_Gap_fits (T : Tx K mg) : FnT K "fits" "Carrying.fits" s_Carrying_fits (He.ma K (He.ga K "Gap") "fits") := T.says.def_ 93 (d := d_Gap_fits) rfl
theorem Tx.f_Gap_do (T : Tx K mg) : FnT K "do" "Carrying.do" s_Carrying_do (He.ma K (He.ga K "Gap") "do") := T.says.def_ 94 (d := d_Gap_do) rfl
theorem Tx.f_Gap_both (T : Tx K mg) : FnT K "both" "Gap.both" s_Gap_both (He.ma K (He.ga K "Gap") "both") := T.says.def_ 95 (d := d_Gap_both) rfl
theorem Tx.f_Left_init (T : Tx K mg) : FnT K "__init__" "Shift.__init__" s_Shift_init (He.ma K (He.ga K "Left") "__init__") := T.says.def_ 96 (d := d_Left_init) rfl
theorem Tx.f_Left_word (T : Tx K mg) : FnT K "word" "Left.word" s_Left_word (He.ma K (He.ga K "Left") "word") := T.says.def_ 97 (d := d_Left_word) rfl
theorem Tx.f_Left_told (T : Tx K mg) : FnT K "told" "Shift.told" s_Shift_told (He.ma K (He.ga K "Left") "told") := T.says.def_ 98 (d := d_Left_told) rfl
theorem Tx.f_Left_fits (T : Tx K mg) : FnT K "fits" "Shift.fits" s_Shift_fits (He.ma K (He.ga K "Left") "fits") := T.says.def_ 99 (d := d_Left_fits) rfl
theorem Tx.f_Left_do (T : Tx K mg) : FnT K "do" "Shift.do" s_Shift_do (He.ma K (He.ga K "Left") "do") := T.says.def_ 100 (d := d_Left_do) rfl
theorem Tx.f_Left_moved (T : Tx K mg) : FnT K "moved" "Left.moved" s_Left_moved (He.ma K (He.ga K "Left") "moved") := T.says.def_ 101 (d := d_Left_moved) rfl
theorem Tx.f_Right_init (T : Tx K mg) : FnT K "__init__" "Shift.__init__" s_Shift_init (He.ma K (He.ga K "Right") "__init__") := T.says.def_ 102 (d := d_Right_init) rfl
theorem Tx.f_Right_word (T : Tx K mg) : FnT K "word" "Right.word" s_Right_word (He.ma K (He.ga K "Right") "word") := T.says.def_ 103 (d := d_Right_word) rfl
theorem Tx.f_Right_told (T : Tx K mg) : FnT K "told" "Shift.told" s_Shift_told (He.ma K (He.ga K "Right") "told") := T.says.def_ 104 (d := d_Right_told) rfl
theorem Tx.f_Right_fits (T : Tx K mg) : FnT K "fits" "Shift.fits" s_Shift_fits (He.ma K (He.ga K "Right") "fits") := T.says.def_ 105 (d := d_Right_fits) rfl
theorem Tx.f_Right_do (T : Tx K mg) : FnT K "do" "Shift.do" s_Shift_do (He.ma K (He.ga K "Right") "do") := T.says.def_ 106 (d := d_Right_do) rfl
theorem Tx.f_Right_moved (T : Tx K mg) : FnT K "moved" "Right.moved" s_Right_moved (He.ma K (He.ga K "Right") "moved") := T.says.def_ 107 (d := d_Right_moved) rfl
theorem Tx.f_Slide_init (T : Tx K mg) : FnT K "__init__" "Shift.__init__" s_Shift_init (He.ma K (He.ga K "Slide") "__init__") := T.says.def_ 108 (d := d_Slide_init) rfl
theorem Tx.f_Slide_word (T : Tx K mg) : FnT K "word" "Slide.word" s_Slide_word (He.ma K (He.ga K "Slide") "word") := T.says.def_ 109 (d := d_Slide_word) rfl
theorem Tx.f_Slide_told (T : Tx K mg) : FnT K "told" "Shift.told" s_Shift_told (He.ma K (He.ga K "Slide") "told") := T.says.def_ 110 (d := d_Slide_told) rfl
theorem Tx.f_Slide_fits (T : Tx K mg) : FnT K "fits" "Shift.fits" s_Shift_fits (He.ma K (He.ga K "Slide") "fits") := T.says.def_ 111 (d := d_Slide_fits) rfl
theorem Tx.f_Slide_do (T : Tx K mg) : FnT K "do" "Shift.do" s_Shift_do (He.ma K (He.ga K "Slide") "do") := T.says.def_ 112 (d := d_Slide_do) rfl
theorem Tx.f_Slide_moved (T : Tx K mg) : FnT K "moved" "Slide.moved" s_Slide_moved (He.ma K (He.ga K "Slide") "moved") := T.says.def_ 113 (d := d_Slide_moved) rfl
theorem Tx.f_Pick_init (T : Tx K mg) : FnT K "__init__" "Pick.__init__" s_Pick_init (He.ma K (He.ga K "Pick") "__init__") := T.says.def_ 114 (d := d_Pick_init) rfl
theorem Tx.f_Pick_word (T : Tx K mg) : FnT K "word" "Pick.word" s_Pick_word (He.ma K (He.ga K "Pick") "word") := T.says.def_ 115 (d := d_Pick_word) rfl
theorem Tx.f_Pick_told (T : Tx K mg) : FnT K "told" "Pick.told" s_Pick_told (He.ma K (He.ga K "Pick") "told") := T.says.def_ 116 (d := d_Pick_told) rfl
theorem Tx.f_Pick_fits (T : Tx K mg) : FnT K "fits" "Pick.fits" s_Pick_fits (He.ma K (He.ga K "Pick") "fits") := T.says.def_ 117 (d := d_Pick_fits) rfl
theorem Tx.f_Pick_do (T : Tx K mg) : FnT K "do" "Pick.do" s_Pick_do (He.ma K (He.ga K "Pick") "do") := T.says.def_ 118 (d := d_Pick_do) rfl
theorem Tx.f_Mark_init (T : Tx K mg) : FnT K "__init__" "Mark.__init__" s_Mark_init (He.ma K (He.ga K "Mark") "__init__") := T.says.def_ 119 (d := d_Mark_init) rfl
theorem Tx.f_Mark_word (T : Tx K mg) : FnT K "word" "Mark.word" s_Mark_word (He.ma K (He.ga K "Mark") "word") := T.says.def_ 120 (d := d_Mark_word) rfl
theorem Tx.f_Mark_told (T : Tx K mg) : FnT K "told" "Mark.told" s_Mark_told (He.ma K (He.ga K "Mark") "told") := T.says.def_ 121 (d := d_Mark_told) rfl
theorem Tx.f_Mark_fits (T : Tx K mg) : FnT K "fits" "Mark.fits" s_Mark_fits (He.ma K (He.ga K "Mark") "fits") := T.says.def_ 122 (d := d_Mark_fits) rfl
theorem Tx.f_Mark_do (T : Tx K mg) : FnT K "do" "Mark.do" s_Mark_do (He.ma K (He.ga K "Mark") "do") := T.says.def_ 123 (d := d_Mark_do) rfl
theorem Tx.f_Turns_init (T : Tx K mg) : FnT K "__init__" "Turns.__init__" s_Turns_init (He.ma K (He.ga K "Turns") "__init__") := T.says.def_ 124 (d := d_Turns_init) rfl
theorem Tx.f_Turns_fits (T : Tx K mg) : FnT K "fits" "Turns.fits" s_Turns_fits (He.ma K (He.ga K "Turns") "fits") := T.says.def_ 125 (d := d_Turns_fits) rfl
theorem S_is_whole : FnScope ["thing"] ["thing"] (C8.fnScope s_is_whole) := C8.fnScope_by (by decide +kernel)
theorem B_is_whole {f : Addr} {fd : FuncData} (F : FunD K "is_whole" "is_whole" (C8.fnArgs s_is_whole) (C8.fnBody s_is_whole) (C8.fnScope s_is_whole) [] [] f fd) : Binds K fd ["thing"] [] := F.bindsN fun _ _ _ _ _ _ us hl => match us, hl with | [_], _ => rfl
theorem S_need_width : FnScope ["width"] ["width"] (C8.fnScope s_need_width) := C8.fnScope_by (by decide +kernel)
theorem B_need_width {f : Addr} {fd : FuncData} (F : FunD K "need_width" "need_width" (C8.fnArgs s_need_width) (C8.fnBody s_need_width) (C8.fnScope s_need_width) [] [] f fd) : Binds K fd ["width"] [] := F.bindsN fun _ _ _ _ _ _ us hl => match us, hl with | [_], _ => rfl
theorem S_cut : FnScope ["width", "number"] ["width", "number"] (C8.fnScope s_cut) := C8.fnScope_by (by decide +kernel)
theorem B_cut {f : Addr} {fd : FuncData} (F : FunD K "cut" "cut" (C8.fnArgs s_cut) (C8.fnBody s_cut) (C8.fnScope s_cut) [] [] f fd) : Binds K fd ["width", "number"] [] := F.bindsN fun _ _ _ _ _ _ us hl => match us, hl with | [_, _], _ => rfl
theorem S_sum_of : FnScope ["width", "a", "b"] ["width", "a", "b"] (C8.fnScope s_sum_of) := C8.fnScope_by (by decide +kernel)
theorem B_sum_of {f : Addr} {fd : FuncData} (F : FunD K "sum_of" "sum_of" (C8.fnArgs s_sum_of) (C8.fnBody s_sum_of) (C8.fnScope s_sum_of) [] [] f fd) : Binds K fd ["width", "a", "b"] [] := F.bindsN fun _ _ _ _ _ _ us hl => match us, hl with | [_, _, _], _ => rfl
theorem S_gap_of : FnScope ["width", "a", "b"] ["width", "a", "b"] (C8.fnScope s_gap_of) := C8.fnScope_by (by decide +kernel)
theorem B_gap_of {f : Addr} {fd : FuncData} (F : FunD K "gap_of" "gap_of" (C8.fnArgs s_gap_of) (C8.fnBody s_gap_of) (C8.fnScope s_gap_of) [] [] f fd) : Binds K fd ["width", "a", "b"] [] := F.bindsN fun _ _ _ _ _ _ us hl => match us, hl with | [_, _, _], _ => rfl
theorem S_low_product : FnScope ["width", "a", "b"] ["width", "a", "b"] (C8.fnScope s_low_product) := C8.fnScope_by (by decide +kernel)
theorem B_low_product {f : Addr} {fd : FuncData} (F : FunD K "low_product" "low_product" (C8.fnArgs s_low_product) (C8.fnBody s_low_product) (C8.fnScope s_low_product) [] [] f fd) : Binds K fd ["width", "a", "b"] [] := F.bindsN fun _ _ _ _ _ _ us hl => match us, hl with | [_, _, _], _ => rfl
theorem S_high_product : FnScope ["width", "a", "b"] ["width", "a", "b"] (C8.fnScope s_high_product) := C8.fnScope_by (by decide +kernel)
theorem B_high_product {f : Addr} {fd : FuncData} (F : FunD K "high_product" "high_product" (C8.fnArgs s_high_product) (C8.fnBody s_high_product) (C8.fnScope s_high_product) [] [] f fd) : Binds K fd ["width", "a", "b"] [] := F.bindsN fun _ _ _ _ _ _ us hl => match us, hl with | [_, _, _], _ => rfl
theorem S_left : FnScope ["width", "a", "k"] ["width", "a", "k"] (C8.fnScope s_left) := C8.fnScope_by (by decide +kernel)
theorem B_left {f : Addr} {fd : FuncData} (F : FunD K "left" "left" (C8.fnArgs s_left) (C8.fnBody s_left) (C8.fnScope s_left) [] [] f fd) : Binds K fd ["width", "a", "k"] [] := F.bindsN fun _ _ _ _ _ _ us hl => match us, hl with | [_, _, _], _ => rfl
theorem S_right : FnScope ["width", "a", "k"] ["width", "a", "k"] (C8.fnScope s_right) := C8.fnScope_by (by decide +kernel)
theorem B_right {f : Addr} {fd : FuncData} (F : FunD K "right" "right" (C8.fnArgs s_right) (C8.fnBody s_right) (C8.fnScope s_right) [] [] f fd) : Binds K fd ["width", "a", "k"] [] := F.bindsN fun _ _ _ _ _ _ us hl => match us, hl with | [_, _, _], _ => rfl
theorem S_slide : FnScope ["width", "a", "k"] ["width", "a", "k"] (C8.fnScope s_slide) := C8.fnScope_by (by decide +kernel)
theorem B_slide {f : Addr} {fd : FuncData} (F : FunD K "slide" "slide" (C8.fnArgs s_slide) (C8.fnBody s_slide) (C8.fnScope s_slide) [] [] f fd) : Binds K fd ["width", "a", "k"] [] := F.bindsN fun _ _ _ _ _ _ us hl => match us, hl with | [_, _, _], _ => rfl
theorem S_row_words : FnScope [] [] (C8.fnScope s_row_words) := C8.fnScope_by (by decide +kernel)
theorem B_row_words {f : Addr} {fd : FuncData} (F : FunD K "row_words" "row_words" (C8.fnArgs s_row_words) (C8.fnBody s_row_words) (C8.fnScope s_row_words) [] [] f fd) : Binds K fd [] [] := F.bindsN fun _ _ _ _ _ _ us hl => match us, hl with | [], _ => rfl
theorem S_need_prices : FnScope ["prices", "kept", "word", "price"] ["prices"] (C8.fnScope s_need_prices) := C8.fnScope_by (by decide +kernel)
theorem B_need_prices {f : Addr} {fd : FuncData} (F : FunD K "need_prices" "need_prices" (C8.fnArgs s_need_prices) (C8.fnBody s_need_prices) (C8.fnScope s_need_prices) [] [] f fd) : Binds K fd ["prices"] [] := F.bindsN fun _ _ _ _ _ _ us hl => match us, hl with | [_], _ => rfl
theorem S_is_register : FnScope ["thing", "sign"] ["thing"] (C8.fnScope s_is_register) := C8.fnScope_by (by decide +kernel)
theorem B_is_register {f : Addr} {fd : FuncData} (F : FunD K "is_register" "is_register" (C8.fnArgs s_is_register) (C8.fnBody s_is_register) (C8.fnScope s_is_register) [] [] f fd) : Binds K fd ["thing"] [] := F.bindsN fun _ _ _ _ _ _ us hl => match us, hl with | [_], _ => rfl
theorem S_within : FnScope ["thing", "least", "greatest"] ["thing", "least", "greatest"] (C8.fnScope s_within) := C8.fnScope_by (by decide +kernel)
theorem B_within {f : Addr} {fd : FuncData} (F : FunD K "within" "within" (C8.fnArgs s_within) (C8.fnBody s_within) (C8.fnScope s_within) [] [] f fd) : Binds K fd ["thing", "least", "greatest"] [] := F.bindsN fun _ _ _ _ _ _ us hl => match us, hl with | [_, _, _], _ => rfl
theorem S_walked : FnScope ["width", "steps", "place", "about", "many", "step", "inner"] ["width", "steps", "place", "about"] (C8.fnScope s_walked) := C8.fnScope_by (by decide +kernel)
theorem B_walked {f : Addr} {fd : FuncData} (F : FunD K "walked" "walked" (C8.fnArgs s_walked) (C8.fnBody s_walked) (C8.fnScope s_walked) [] [] f fd) : Binds K fd ["width", "steps", "place", "about"] [] := F.bindsN fun _ _ _ _ _ _ us hl => match us, hl with | [_, _, _, _], _ => rfl
theorem S_check_steps : FnScope ["width", "steps", "many"] ["width", "steps"] (C8.fnScope s_check_steps) := C8.fnScope_by (by decide +kernel)
theorem B_check_steps {f : Addr} {fd : FuncData} (F : FunD K "check_steps" "check_steps" (C8.fnArgs s_check_steps) (C8.fnBody s_check_steps) (C8.fnScope s_check_steps) [] [] f fd) : Binds K fd ["width", "steps"] [] := F.bindsN fun _ _ _ _ _ _ us hl => match us, hl with | [_, _], _ => rfl
theorem S_need_registers : FnScope ["width", "registers", "others", "name", "texts"] ["width", "registers"] (C8.fnScope s_need_registers) := C8.fnScope_by (by decide +kernel)
theorem B_need_registers {f : Addr} {fd : FuncData} (F : FunD K "need_registers" "need_registers" (C8.fnArgs s_need_registers) (C8.fnBody s_need_registers) (C8.fnScope s_need_registers) [] [] f fd) : Binds K fd ["width", "registers"] [] := F.bindsN fun _ _ _ _ _ _ us hl => match us, hl with | [_, _], _ => rfl
theorem S_go : FnScope ["width", "steps", "held", "marks", "counts", "step", "turn"] ["width", "steps", "held", "marks", "counts"] (C8.fnScope s_go) := C8.fnScope_by (by decide +kernel)
theorem B_go {f : Addr} {fd : FuncData} (F : FunD K "go" "go" (C8.fnArgs s_go) (C8.fnBody s_go) (C8.fnScope s_go) [] [] f fd) : Binds K fd ["width", "steps", "held", "marks", "counts"] [] := F.bindsN fun _ _ _ _ _ _ us hl => match us, hl with | [_, _, _, _, _], _ => rfl
theorem S_run_steps : FnScope ["width", "steps", "registers", "held", "marks", "counts", "word"] ["width", "steps", "registers"] (C8.fnScope s_run_steps) := C8.fnScope_by (by decide +kernel)
theorem B_run_steps {f : Addr} {fd : FuncData} (F : FunD K "run_steps" "run_steps" (C8.fnArgs s_run_steps) (C8.fnBody s_run_steps) (C8.fnScope s_run_steps) [] [] f fd) : Binds K fd ["width", "steps", "registers"] [] := F.bindsN fun _ _ _ _ _ _ us hl => match us, hl with | [_, _, _], _ => rfl
theorem S_summed : FnScope ["steps", "prices", "cost", "step"] ["steps", "prices"] (C8.fnScope s_summed) := C8.fnScope_by (by decide +kernel)
theorem B_summed {f : Addr} {fd : FuncData} (F : FunD K "summed" "summed" (C8.fnArgs s_summed) (C8.fnBody s_summed) (C8.fnScope s_summed) [] [] f fd) : Binds K fd ["steps", "prices"] [] := F.bindsN fun _ _ _ _ _ _ us hl => match us, hl with | [_, _], _ => rfl
theorem S_cost_of : FnScope ["width", "steps", "prices"] ["width", "steps", "prices"] (C8.fnScope s_cost_of) := C8.fnScope_by (by decide +kernel)
theorem B_cost_of {f : Addr} {fd : FuncData} (F : FunD K "cost_of" "cost_of" (C8.fnArgs s_cost_of) (C8.fnBody s_cost_of) (C8.fnScope s_cost_of) [] [] f fd) : Binds K fd ["width", "steps", "prices"] [] := F.bindsN fun _ _ _ _ _ _ us hl => match us, hl with | [_, _, _], _ => rfl
theorem S_field_text : FnScope ["thing"] ["thing"] (C8.fnScope s_field_text) := C8.fnScope_by (by decide +kernel)
theorem B_field_text {f : Addr} {fd : FuncData} (F : FunD K "field_text" "field_text" (C8.fnArgs s_field_text) (C8.fnBody s_field_text) (C8.fnScope s_field_text) [] [] f fd) : Binds K fd ["thing"] [] := F.bindsN fun _ _ _ _ _ _ us hl => match us, hl with | [_], _ => rfl
theorem S_lines_of : FnScope ["steps", "lines", "step", "thing"] ["steps"] (C8.fnScope s_lines_of) := C8.fnScope_by (by decide +kernel)
theorem B_lines_of {f : Addr} {fd : FuncData} (F : FunD K "lines_of" "lines_of" (C8.fnArgs s_lines_of) (C8.fnBody s_lines_of) (C8.fnScope s_lines_of) [] [] f fd) : Binds K fd ["steps"] [] := F.bindsN fun _ _ _ _ _ _ us hl => match us, hl with | [_], _ => rfl
theorem S_steps_text : FnScope ["steps"] ["steps"] (C8.fnScope s_steps_text) := C8.fnScope_by (by decide +kernel)
theorem B_steps_text {f : Addr} {fd : FuncData} (F : FunD K "steps_text" "steps_text" (C8.fnArgs s_steps_text) (C8.fnBody s_steps_text) (C8.fnScope s_steps_text) [] [] f fd) : Binds K fd ["steps"] [] := F.bindsN fun _ _ _ _ _ _ us hl => match us, hl with | [_], _ => rfl
theorem S_number_in : FnScope ["text", "sign"] ["text"] (C8.fnScope s_number_in) := C8.fnScope_by (by decide +kernel)
theorem B_number_in {f : Addr} {fd : FuncData} (F : FunD K "number_in" "number_in" (C8.fnArgs s_number_in) (C8.fnBody s_number_in) (C8.fnScope s_number_in) [] [] f fd) : Binds K fd ["text"] [] := F.bindsN fun _ _ _ _ _ _ us hl => match us, hl with | [_], _ => rfl
theorem S_pair_row : FnScope ["word", "goal", "one", "other"] ["word", "goal", "one", "other"] (C8.fnScope s_pair_row) := C8.fnScope_by (by decide +kernel)
theorem B_pair_row {f : Addr} {fd : FuncData} (F : FunD K "pair_row" "pair_row" (C8.fnArgs s_pair_row) (C8.fnBody s_pair_row) (C8.fnScope s_pair_row) [] [] f fd) : Binds K fd ["word", "goal", "one", "other"] [] := F.bindsN fun _ _ _ _ _ _ us hl => match us, hl with | [_, _, _, _], _ => rfl
theorem S_row_of_four : FnScope ["word", "first", "second", "third"] ["word", "first", "second", "third"] (C8.fnScope s_row_of_four) := C8.fnScope_by (by decide +kernel)
theorem B_row_of_four {f : Addr} {fd : FuncData} (F : FunD K "row_of_four" "row_of_four" (C8.fnArgs s_row_of_four) (C8.fnBody s_row_of_four) (C8.fnScope s_row_of_four) [] [] f fd) : Binds K fd ["word", "first", "second", "third"] [] := F.bindsN fun _ _ _ _ _ _ us hl => match us, hl with | [_, _, _, _], _ => rfl
theorem S_row_of_five : FnScope ["word", "first", "second", "third", "fourth", "carry"] ["word", "first", "second", "third", "fourth"] (C8.fnScope s_row_of_five) := C8.fnScope_by (by decide +kernel)
theorem B_row_of_five {f : Addr} {fd : FuncData} (F : FunD K "row_of_five" "row_of_five" (C8.fnArgs s_row_of_five) (C8.fnBody s_row_of_five) (C8.fnScope s_row_of_five) [] [] f fd) : Binds K fd ["word", "first", "second", "third", "fourth"] [] := F.bindsN fun _ _ _ _ _ _ us hl => match us, hl with | [_, _, _, _, _], _ => rfl
theorem S_row_of : FnScope ["words"] ["words"] (C8.fnScope s_row_of) := C8.fnScope_by (by decide +kernel)
theorem B_row_of {f : Addr} {fd : FuncData} (F : FunD K "row_of" "row_of" (C8.fnArgs s_row_of) (C8.fnBody s_row_of) (C8.fnScope s_row_of) [] [] f fd) : Binds K fd ["words"] [] := F.bindsN fun _ _ _ _ _ _ us hl => match us, hl with | [_], _ => rfl
theorem S_turns_of : FnScope ["words"] ["words"] (C8.fnScope s_turns_of) := C8.fnScope_by (by decide +kernel)
theorem B_turns_of {f : Addr} {fd : FuncData} (F : FunD K "turns_of" "turns_of" (C8.fnArgs s_turns_of) (C8.fnBody s_turns_of) (C8.fnScope s_turns_of) [] [] f fd) : Binds K fd ["words"] [] := F.bindsN fun _ _ _ _ _ _ us hl => match us, hl with | [_], _ => rfl
theorem S_read_steps : FnScope ["text", "heads", "lines", "line", "words", "row", "head"] ["text"] (C8.fnScope s_read_steps) := C8.fnScope_by (by decide +kernel)
theorem B_read_steps {f : Addr} {fd : FuncData} (F : FunD K "read_steps" "read_steps" (C8.fnArgs s_read_steps) (C8.fnBody s_read_steps) (C8.fnScope s_read_steps) [] [] f fd) : Binds K fd ["text"] [] := F.bindsN fun _ _ _ _ _ _ us hl => match us, hl with | [_], _ => rfl
theorem S_law_cell : FnScope ["_law_script", "_law_k", "_law_number"] ["_law_script", "_law_k"] (C8.fnScope s_law_cell) := C8.fnScope_by (by decide +kernel)
theorem B_law_cell {f : Addr} {fd : FuncData} (F : FunD K "_law_cell" "_law_cell" (C8.fnArgs s_law_cell) (C8.fnBody s_law_cell) (C8.fnScope s_law_cell) [] [] f fd) : Binds K fd ["_law_script", "_law_k"] [] := F.bindsN fun _ _ _ _ _ _ us hl => match us, hl with | [_, _], _ => rfl
theorem S_law_begun : FnScope ["_law_cell_here", "_law_rest"] ["_law_cell_here"] (C8.fnScope s_law_begun) := C8.fnScope_by (by decide +kernel)
theorem B_law_begun {f : Addr} {fd : FuncData} (F : FunD K "_law_begun" "_law_begun" (C8.fnArgs s_law_begun) (C8.fnBody s_law_begun) (C8.fnScope s_law_begun) [] [] f fd) : Binds K fd ["_law_cell_here"] [] := F.bindsN fun _ _ _ _ _ _ us hl => match us, hl with | [_], _ => rfl
theorem S_law_draw : FnScope ["_law_state", "_law_many", "_law_found", "_law_number"] ["_law_state", "_law_many"] (C8.fnScope s_law_draw) := C8.fnScope_by (by decide +kernel)
theorem B_law_draw {f : Addr} {fd : FuncData} (F : FunD K "_law_draw" "_law_draw" (C8.fnArgs s_law_draw) (C8.fnBody s_law_draw) (C8.fnScope s_law_draw) [] [] f fd) : Binds K fd ["_law_state", "_law_many"] [] := F.bindsN fun _ _ _ _ _ _ us hl => match us, hl with | [_, _], _ => rfl
theorem S_law_whole : FnScope ["_law_found"] ["_law_found"] (C8.fnScope s_law_whole) := C8.fnScope_by (by decide +kernel)
theorem B_law_whole {f : Addr} {fd : FuncData} (F : FunD K "_law_whole" "_law_whole" (C8.fnArgs s_law_whole) (C8.fnBody s_law_whole) (C8.fnScope s_law_whole) [] [] f fd) : Binds K fd ["_law_found"] [] := F.bindsN fun _ _ _ _ _ _ us hl => match us, hl with | [_], _ => rfl
theorem S_law_word : FnScope ["_law_state", "_law_width", "_law_size", "_law_way"] ["_law_state", "_law_width"] (C8.fnScope s_law_word) := C8.fnScope_by (by decide +kernel)
theorem B_law_word {f : Addr} {fd : FuncData} (F : FunD K "_law_word" "_law_word" (C8.fnArgs s_law_word) (C8.fnBody s_law_word) (C8.fnScope s_law_word) [] [] f fd) : Binds K fd ["_law_state", "_law_width"] [] := F.bindsN fun _ _ _ _ _ _ us hl => match us, hl with | [_, _], _ => rfl
theorem S_law_bit : FnScope ["_law_width", "_law_n", "_law_rows"] ["_law_width", "_law_n"] (C8.fnScope s_law_bit) := C8.fnScope_by (by decide +kernel)
theorem B_law_bit {f : Addr} {fd : FuncData} (F : FunD K "_law_bit" "_law_bit" (C8.fnArgs s_law_bit) (C8.fnBody s_law_bit) (C8.fnScope s_law_bit) [] [] f fd) : Binds K fd ["_law_width", "_law_n"] [] := F.bindsN fun _ _ _ _ _ _ us hl => match us, hl with | [_, _], _ => rfl
theorem S_law_divided : FnScope ["_law_width", "_law_n", "_law_rows"] ["_law_width", "_law_n"] (C8.fnScope s_law_divided) := C8.fnScope_by (by decide +kernel)
theorem B_law_divided {f : Addr} {fd : FuncData} (F : FunD K "_law_divided" "_law_divided" (C8.fnArgs s_law_divided) (C8.fnBody s_law_divided) (C8.fnScope s_law_divided) [] [] f fd) : Binds K fd ["_law_width", "_law_n"] [] := F.bindsN fun _ _ _ _ _ _ us hl => match us, hl with | [_, _], _ => rfl
theorem S_law_product : FnScope ["_law_n", "_law_rows", "_law_one", "_law_other"] ["_law_n"] (C8.fnScope s_law_product) := C8.fnScope_by (by decide +kernel)
theorem B_law_product {f : Addr} {fd : FuncData} (F : FunD K "_law_product" "_law_product" (C8.fnArgs s_law_product) (C8.fnBody s_law_product) (C8.fnScope s_law_product) [] [] f fd) : Binds K fd ["_law_n"] [] := F.bindsN fun _ _ _ _ _ _ us hl => match us, hl with | [_], _ => rfl
theorem S_law_cost : FnScope ["_law_counts", "_law_prices", "_law_cost_here", "_law_at", "_law_word_here"] ["_law_counts"] (C8.fnScope s_law_cost) := C8.fnScope_by (by decide +kernel)
theorem B_law_cost {f : Addr} {fd : FuncData} (F : FunD K "_law_cost" "_law_cost" (C8.fnArgs s_law_cost) (C8.fnBody s_law_cost) (C8.fnScope s_law_cost) [] [] f fd) : Binds K fd ["_law_counts"] [] := F.bindsN fun _ _ _ _ _ _ us hl => match us, hl with | [_], _ => rfl
theorem S_law_counted : FnScope ["_law_width", "_law_steps", "_law_counts", "_law_due", "_law_prices", "_law_cost_here"] ["_law_width", "_law_steps", "_law_counts", "_law_due"] (C8.fnScope s_law_counted) := C8.fnScope_by (by decide +kernel)
theorem B_law_counted {f : Addr} {fd : FuncData} (F : FunD K "_law_counted" "_law_counted" (C8.fnArgs s_law_counted) (C8.fnBody s_law_counted) (C8.fnScope s_law_counted) [] [] f fd) : Binds K fd ["_law_width", "_law_steps", "_law_counts", "_law_due"] [] := F.bindsN fun _ _ _ _ _ _ us hl => match us, hl with | [_, _, _, _], _ => rfl
theorem S_law_division : FnScope ["_law_state", "_law_width", "_law_n", "_law_size", "_law_divisor", "_law_high", "_law_low", "_law_steps", "_law_behind", "_law_marks", "_law_counts", "_law_quotient", "_law_rest"] ["_law_state", "_law_width", "_law_n"] (C8.fnScope s_law_division) := C8.fnScope_by (by decide +kernel)
theorem B_law_division {f : Addr} {fd : FuncData} (F : FunD K "_law_division" "_law_division" (C8.fnArgs s_law_division) (C8.fnBody s_law_division) (C8.fnScope s_law_division) [] [] f fd) : Binds K fd ["_law_state", "_law_width", "_law_n"] [] := F.bindsN fun _ _ _ _ _ _ us hl => match us, hl with | [_, _, _], _ => rfl
theorem S_law_multiplied : FnScope ["_law_state", "_law_width", "_law_n", "_law_size", "_law_words", "_law_k", "_law_steps", "_law_held", "_law_behind", "_law_marks", "_law_counts", "_law_told", "_law_word_here", "_law_found", "_law_due"] ["_law_state", "_law_width", "_law_n"] (C8.fnScope s_law_multiplied) := C8.fnScope_by (by decide +kernel)
theorem B_law_multiplied {f : Addr} {fd : FuncData} (F : FunD K "_law_multiplied" "_law_multiplied" (C8.fnArgs s_law_multiplied) (C8.fnBody s_law_multiplied) (C8.fnScope s_law_multiplied) [] [] f fd) : Binds K fd ["_law_state", "_law_width", "_law_n"] [] := F.bindsN fun _ _ _ _ _ _ us hl => match us, hl with | [_, _, _], _ => rfl
theorem S_law : FnScope ["_law_script", "_law_k", "_law_state", "_law_width", "_law_name"] ["_law_script"] (C8.fnScope s_law) := C8.fnScope_by (by decide +kernel)
theorem B_law {f : Addr} {fd : FuncData} (F : FunD K "law" "law" (C8.fnArgs s_law) (C8.fnBody s_law) (C8.fnScope s_law) [] [] f fd) : Binds K fd ["_law_script"] [] := F.bindsN fun _ _ _ _ _ _ us hl => match us, hl with | [_], _ => rfl
theorem S_Set_init : FnScope ["self", "goal", "bits"] ["self", "goal", "bits"] (C8.fnScope s_Set_init) := C8.fnScope_by (by decide +kernel)
theorem B_Set_init {f : Addr} {fd : FuncData} (F : FunD K "__init__" "Set.__init__" (C8.fnArgs s_Set_init) (C8.fnBody s_Set_init) (C8.fnScope s_Set_init) [] [] f fd) : Binds K fd ["self", "goal", "bits"] [] := F.bindsN fun _ _ _ _ _ _ us hl => match us, hl with | [_, _, _], _ => rfl
theorem S_Set_word : FnScope ["self"] ["self"] (C8.fnScope s_Set_word) := C8.fnScope_by (by decide +kernel)
theorem B_Set_word {f : Addr} {fd : FuncData} (F : FunD K "word" "Set.word" (C8.fnArgs s_Set_word) (C8.fnBody s_Set_word) (C8.fnScope s_Set_word) [] [] f fd) : Binds K fd ["self"] [] := F.bindsN fun _ _ _ _ _ _ us hl => match us, hl with | [_], _ => rfl
theorem S_Set_told : FnScope ["self"] ["self"] (C8.fnScope s_Set_told) := C8.fnScope_by (by decide +kernel)
theorem B_Set_told {f : Addr} {fd : FuncData} (F : FunD K "told" "Set.told" (C8.fnArgs s_Set_told) (C8.fnBody s_Set_told) (C8.fnScope s_Set_told) [] [] f fd) : Binds K fd ["self"] [] := F.bindsN fun _ _ _ _ _ _ us hl => match us, hl with | [_], _ => rfl
theorem S_Set_fits : FnScope ["self", "width"] ["self", "width"] (C8.fnScope s_Set_fits) := C8.fnScope_by (by decide +kernel)
theorem B_Set_fits {f : Addr} {fd : FuncData} (F : FunD K "fits" "Set.fits" (C8.fnArgs s_Set_fits) (C8.fnBody s_Set_fits) (C8.fnScope s_Set_fits) [] [] f fd) : Binds K fd ["self", "width"] [] := F.bindsN fun _ _ _ _ _ _ us hl => match us, hl with | [_, _], _ => rfl
theorem S_Set_do : FnScope ["self", "width", "held", "marks"] ["self", "width", "held", "marks"] (C8.fnScope s_Set_do) := C8.fnScope_by (by decide +kernel)
theorem B_Set_do {f : Addr} {fd : FuncData} (F : FunD K "do" "Set.do" (C8.fnArgs s_Set_do) (C8.fnBody s_Set_do) (C8.fnScope s_Set_do) [] [] f fd) : Binds K fd ["self", "width", "held", "marks"] [] := F.bindsN fun _ _ _ _ _ _ us hl => match us, hl with | [_, _, _, _], _ => rfl
theorem S_Copy_init : FnScope ["self", "goal", "one"] ["self", "goal", "one"] (C8.fnScope s_Copy_init) := C8.fnScope_by (by decide +kernel)
theorem B_Copy_init {f : Addr} {fd : FuncData} (F : FunD K "__init__" "Copy.__init__" (C8.fnArgs s_Copy_init) (C8.fnBody s_Copy_init) (C8.fnScope s_Copy_init) [] [] f fd) : Binds K fd ["self", "goal", "one"] [] := F.bindsN fun _ _ _ _ _ _ us hl => match us, hl with | [_, _, _], _ => rfl
theorem S_Copy_word : FnScope ["self"] ["self"] (C8.fnScope s_Copy_word) := C8.fnScope_by (by decide +kernel)
theorem B_Copy_word {f : Addr} {fd : FuncData} (F : FunD K "word" "Copy.word" (C8.fnArgs s_Copy_word) (C8.fnBody s_Copy_word) (C8.fnScope s_Copy_word) [] [] f fd) : Binds K fd ["self"] [] := F.bindsN fun _ _ _ _ _ _ us hl => match us, hl with | [_], _ => rfl
theorem S_Copy_told : FnScope ["self"] ["self"] (C8.fnScope s_Copy_told) := C8.fnScope_by (by decide +kernel)
theorem B_Copy_told {f : Addr} {fd : FuncData} (F : FunD K "told" "Copy.told" (C8.fnArgs s_Copy_told) (C8.fnBody s_Copy_told) (C8.fnScope s_Copy_told) [] [] f fd) : Binds K fd ["self"] [] := F.bindsN fun _ _ _ _ _ _ us hl => match us, hl with | [_], _ => rfl
theorem S_Copy_fits : FnScope ["self", "width"] ["self", "width"] (C8.fnScope s_Copy_fits) := C8.fnScope_by (by decide +kernel)
theorem B_Copy_fits {f : Addr} {fd : FuncData} (F : FunD K "fits" "Copy.fits" (C8.fnArgs s_Copy_fits) (C8.fnBody s_Copy_fits) (C8.fnScope s_Copy_fits) [] [] f fd) : Binds K fd ["self", "width"] [] := F.bindsN fun _ _ _ _ _ _ us hl => match us, hl with | [_, _], _ => rfl
theorem S_Copy_do : FnScope ["self", "width", "held", "marks"] ["self", "width", "held", "marks"] (C8.fnScope s_Copy_do) := C8.fnScope_by (by decide +kernel)
theorem B_Copy_do {f : Addr} {fd : FuncData} (F : FunD K "do" "Copy.do" (C8.fnArgs s_Copy_do) (C8.fnBody s_Copy_do) (C8.fnScope s_Copy_do) [] [] f fd) : Binds K fd ["self", "width", "held", "marks"] [] := F.bindsN fun _ _ _ _ _ _ us hl => match us, hl with | [_, _, _, _], _ => rfl
theorem S_Pair_init : FnScope ["self", "goal", "one", "other"] ["self", "goal", "one", "other"] (C8.fnScope s_Pair_init) := C8.fnScope_by (by decide +kernel)
theorem B_Pair_init {f : Addr} {fd : FuncData} (F : FunD K "__init__" "Pair.__init__" (C8.fnArgs s_Pair_init) (C8.fnBody s_Pair_init) (C8.fnScope s_Pair_init) [] [] f fd) : Binds K fd ["self", "goal", "one", "other"] [] := F.bindsN fun _ _ _ _ _ _ us hl => match us, hl with | [_, _, _, _], _ => rfl
theorem S_Low_word : FnScope ["self"] ["self"] (C8.fnScope s_Low_word) := C8.fnScope_by (by decide +kernel)
theorem B_Low_word {f : Addr} {fd : FuncData} (F : FunD K "word" "Low.word" (C8.fnArgs s_Low_word) (C8.fnBody s_Low_word) (C8.fnScope s_Low_word) [] [] f fd) : Binds K fd ["self"] [] := F.bindsN fun _ _ _ _ _ _ us hl => match us, hl with | [_], _ => rfl
theorem S_Pair_told : FnScope ["self"] ["self"] (C8.fnScope s_Pair_told) := C8.fnScope_by (by decide +kernel)
theorem B_Pair_told {f : Addr} {fd : FuncData} (F : FunD K "told" "Pair.told" (C8.fnArgs s_Pair_told) (C8.fnBody s_Pair_told) (C8.fnScope s_Pair_told) [] [] f fd) : Binds K fd ["self"] [] := F.bindsN fun _ _ _ _ _ _ us hl => match us, hl with | [_], _ => rfl
theorem S_Pair_fits : FnScope ["self", "width"] ["self", "width"] (C8.fnScope s_Pair_fits) := C8.fnScope_by (by decide +kernel)
theorem B_Pair_fits {f : Addr} {fd : FuncData} (F : FunD K "fits" "Pair.fits" (C8.fnArgs s_Pair_fits) (C8.fnBody s_Pair_fits) (C8.fnScope s_Pair_fits) [] [] f fd) : Binds K fd ["self", "width"] [] := F.bindsN fun _ _ _ _ _ _ us hl => match us, hl with | [_, _], _ => rfl
theorem S_Pair_do : FnScope ["self", "width", "held", "marks"] ["self", "width", "held", "marks"] (C8.fnScope s_Pair_do) := C8.fnScope_by (by decide +kernel)
theorem B_Pair_do {f : Addr} {fd : FuncData} (F : FunD K "do" "Pair.do" (C8.fnArgs s_Pair_do) (C8.fnBody s_Pair_do) (C8.fnScope s_Pair_do) [] [] f fd) : Binds K fd ["self", "width", "held", "marks"] [] := F.bindsN fun _ _ _ _ _ _ us hl => match us, hl with | [_, _, _, _], _ => rfl
theorem S_Low_worth : FnScope ["self", "width", "a", "b"] ["self", "width", "a", "b"] (C8.fnScope s_Low_worth) := C8.fnScope_by (by decide +kernel)
theorem B_Low_worth {f : Addr} {fd : FuncData} (F : FunD K "worth" "Low.worth" (C8.fnArgs s_Low_worth) (C8.fnBody s_Low_worth) (C8.fnScope s_Low_worth) [] [] f fd) : Binds K fd ["self", "width", "a", "b"] [] := F.bindsN fun _ _ _ _ _ _ us hl => match us, hl with | [_, _, _, _], _ => rfl
theorem S_High_word : FnScope ["self"] ["self"] (C8.fnScope s_High_word) := C8.fnScope_by (by decide +kernel)
theorem B_High_word {f : Addr} {fd : FuncData} (F : FunD K "word" "High.word" (C8.fnArgs s_High_word) (C8.fnBody s_High_word) (C8.fnScope s_High_word) [] [] f fd) : Binds K fd ["self"] [] := F.bindsN fun _ _ _ _ _ _ us hl => match us, hl with | [_], _ => rfl
theorem S_High_worth : FnScope ["self", "width", "a", "b"] ["self", "width", "a", "b"] (C8.fnScope s_High_worth) := C8.fnScope_by (by decide +kernel)
theorem B_High_worth {f : Addr} {fd : FuncData} (F : FunD K "worth" "High.worth" (C8.fnArgs s_High_worth) (C8.fnBody s_High_worth) (C8.fnScope s_High_worth) [] [] f fd) : Binds K fd ["self", "width", "a", "b"] [] := F.bindsN fun _ _ _ _ _ _ us hl => match us, hl with | [_, _, _, _], _ => rfl
theorem S_Or_word : FnScope ["self"] ["self"] (C8.fnScope s_Or_word) := C8.fnScope_by (by decide +kernel)
theorem B_Or_word {f : Addr} {fd : FuncData} (F : FunD K "word" "Or.word" (C8.fnArgs s_Or_word) (C8.fnBody s_Or_word) (C8.fnScope s_Or_word) [] [] f fd) : Binds K fd ["self"] [] := F.bindsN fun _ _ _ _ _ _ us hl => match us, hl with | [_], _ => rfl
theorem S_Or_worth : FnScope ["self", "width", "a", "b"] ["self", "width", "a", "b"] (C8.fnScope s_Or_worth) := C8.fnScope_by (by decide +kernel)
theorem B_Or_worth {f : Addr} {fd : FuncData} (F : FunD K "worth" "Or.worth" (C8.fnArgs s_Or_worth) (C8.fnBody s_Or_worth) (C8.fnScope s_Or_worth) [] [] f fd) : Binds K fd ["self", "width", "a", "b"] [] := F.bindsN fun _ _ _ _ _ _ us hl => match us, hl with | [_, _, _, _], _ => rfl
theorem S_Unlike_word : FnScope ["self"] ["self"] (C8.fnScope s_Unlike_word) := C8.fnScope_by (by decide +kernel)
theorem B_Unlike_word {f : Addr} {fd : FuncData} (F : FunD K "word" "Unlike.word" (C8.fnArgs s_Unlike_word) (C8.fnBody s_Unlike_word) (C8.fnScope s_Unlike_word) [] [] f fd) : Binds K fd ["self"] [] := F.bindsN fun _ _ _ _ _ _ us hl => match us, hl with | [_], _ => rfl
theorem S_Unlike_worth : FnScope ["self", "width", "a", "b"] ["self", "width", "a", "b"] (C8.fnScope s_Unlike_worth) := C8.fnScope_by (by decide +kernel)
theorem B_Unlike_worth {f : Addr} {fd : FuncData} (F : FunD K "worth" "Unlike.worth" (C8.fnArgs s_Unlike_worth) (C8.fnBody s_Unlike_worth) (C8.fnScope s_Unlike_worth) [] [] f fd) : Binds K fd ["self", "width", "a", "b"] [] := F.bindsN fun _ _ _ _ _ _ us hl => match us, hl with | [_, _, _, _], _ => rfl
theorem S_Under_word : FnScope ["self"] ["self"] (C8.fnScope s_Under_word) := C8.fnScope_by (by decide +kernel)
theorem B_Under_word {f : Addr} {fd : FuncData} (F : FunD K "word" "Under.word" (C8.fnArgs s_Under_word) (C8.fnBody s_Under_word) (C8.fnScope s_Under_word) [] [] f fd) : Binds K fd ["self"] [] := F.bindsN fun _ _ _ _ _ _ us hl => match us, hl with | [_], _ => rfl
theorem S_Under_worth : FnScope ["self", "width", "a", "b"] ["self", "width", "a", "b"] (C8.fnScope s_Under_worth) := C8.fnScope_by (by decide +kernel)
theorem B_Under_worth {f : Addr} {fd : FuncData} (F : FunD K "worth" "Under.worth" (C8.fnArgs s_Under_worth) (C8.fnBody s_Under_worth) (C8.fnScope s_Under_worth) [] [] f fd) : Binds K fd ["self", "width", "a", "b"] [] := F.bindsN fun _ _ _ _ _ _ us hl => match us, hl with | [_, _, _, _], _ => rfl
theorem S_Carrying_init : FnScope ["self", "goal", "carry", "one", "other"] ["self", "goal", "carry", "one", "other"] (C8.fnScope s_Carrying_init) := C8.fnScope_by (by decide +kernel)
theorem B_Carrying_init {f : Addr} {fd : FuncData} (F : FunD K "__init__" "Carrying.__init__" (C8.fnArgs s_Carrying_init) (C8.fnBody s_Carrying_init) (C8.fnScope s_Carrying_init) [] [] f fd) : Binds K fd ["self", "goal", "carry", "one", "other"] [] := F.bindsN fun _ _ _ _ _ _ us hl => match us, hl with | [_, _, _, _, _], _ => rfl
theorem S_Sum_word : FnScope ["self"] ["self"] (C8.fnScope s_Sum_word) := C8.fnScope_by (by decide +kernel)
theorem B_Sum_word {f : Addr} {fd : FuncData} (F : FunD K "word" "Sum.word" (C8.fnArgs s_Sum_word) (C8.fnBody s_Sum_word) (C8.fnScope s_Sum_word) [] [] f fd) : Binds K fd ["self"] [] := F.bindsN fun _ _ _ _ _ _ us hl => match us, hl with | [_], _ => rfl
theorem S_Carrying_told : FnScope ["self"] ["self"] (C8.fnScope s_Carrying_told) := C8.fnScope_by (by decide +kernel)
theorem B_Carrying_told {f : Addr} {fd : FuncData} (F : FunD K "told" "Carrying.told" (C8.fnArgs s_Carrying_told) (C8.fnBody s_Carrying_told) (C8.fnScope s_Carrying_told) [] [] f fd) : Binds K fd ["self"] [] := F.bindsN fun _ _ _ _ _ _ us hl => match us, hl with | [_], _ => rfl
theorem S_Carrying_fits : FnScope ["self", "width"] ["self", "width"] (C8.fnScope s_Carrying_fits) := C8.fnScope_by (by decide +kernel)
theorem B_Carrying_fits {f : Addr} {fd : FuncData} (F : FunD K "fits" "Carrying.fits" (C8.fnArgs s_Carrying_fits) (C8.fnBody s_Carrying_fits) (C8.fnScope s_Carrying_fits) [] [] f fd) : Binds K fd ["self", "width"] [] := F.bindsN fun _ _ _ _ _ _ us hl => match us, hl with | [_, _], _ => rfl
theorem S_Carrying_do : FnScope ["self", "width", "held", "marks", "worth", "carried"] ["self", "width", "held", "marks"] (C8.fnScope s_Carrying_do) := C8.fnScope_by (by decide +kernel)
theorem B_Carrying_do {f : Addr} {fd : FuncData} (F : FunD K "do" "Carrying.do" (C8.fnArgs s_Carrying_do) (C8.fnBody s_Carrying_do) (C8.fnScope s_Carrying_do) [] [] f fd) : Binds K fd ["self", "width", "held", "marks"] [] := F.bindsN fun _ _ _ _ _ _ us hl => match us, hl with | [_, _, _, _], _ => rfl
theorem S_Sum_both : FnScope ["self", "width", "a", "b"] ["self", "width", "a", "b"] (C8.fnScope s_Sum_both) := C8.fnScope_by (by decide +kernel)
theorem B_Sum_both {f : Addr} {fd : FuncData} (F : FunD K "both" "Sum.both" (C8.fnArgs s_Sum_both) (C8.fnBody s_Sum_both) (C8.fnScope s_Sum_both) [] [] f fd) : Binds K fd ["self", "width", "a", "b"] [] := F.bindsN fun _ _ _ _ _ _ us hl => match us, hl with | [_, _, _, _], _ => rfl
theorem S_Gap_word : FnScope ["self"] ["self"] (C8.fnScope s_Gap_word) := C8.fnScope_by (by decide +kernel)
theorem B_Gap_word {f : Addr} {fd : FuncData} (F : FunD K "word" "Gap.word" (C8.fnArgs s_Gap_word) (C8.fnBody s_Gap_word) (C8.fnScope s_Gap_word) [] [] f fd) : Binds K fd ["self"] [] := F.bindsN fun _ _ _ _ _ _ us hl => match us, hl with | [_], _ => rfl
theorem S_Gap_both : FnScope ["self", "width", "a", "b"] ["self", "width", "a", "b"] (C8.fnScope s_Gap_both) := C8.fnScope_by (by decide +kernel)
theorem B_Gap_both {f : Addr} {fd : FuncData} (F : FunD K "both" "Gap.both" (C8.fnArgs s_Gap_both) (C8.fnBody s_Gap_both) (C8.fnScope s_Gap_both) [] [] f fd) : Binds K fd ["self", "width", "a", "b"] [] := F.bindsN fun _ _ _ _ _ _ us hl => match us, hl with | [_, _, _, _], _ => rfl
theorem S_Shift_init : FnScope ["self", "goal", "one", "k"] ["self", "goal", "one", "k"] (C8.fnScope s_Shift_init) := C8.fnScope_by (by decide +kernel)
theorem B_Shift_init {f : Addr} {fd : FuncData} (F : FunD K "__init__" "Shift.__init__" (C8.fnArgs s_Shift_init) (C8.fnBody s_Shift_init) (C8.fnScope s_Shift_init) [] [] f fd) : Binds K fd ["self", "goal", "one", "k"] [] := F.bindsN fun _ _ _ _ _ _ us hl => match us, hl with | [_, _, _, _], _ => rfl
theorem S_Left_word : FnScope ["self"] ["self"] (C8.fnScope s_Left_word) := C8.fnScope_by (by decide +kernel)
theorem B_Left_word {f : Addr} {fd : FuncData} (F : FunD K "word" "Left.word" (C8.fnArgs s_Left_word) (C8.fnBody s_Left_word) (C8.fnScope s_Left_word) [] [] f fd) : Binds K fd ["self"] [] := F.bindsN fun _ _ _ _ _ _ us hl => match us, hl with | [_], _ => rfl
theorem S_Shift_told : FnScope ["self"] ["self"] (C8.fnScope s_Shift_told) := C8.fnScope_by (by decide +kernel)
theorem B_Shift_told {f : Addr} {fd : FuncData} (F : FunD K "told" "Shift.told" (C8.fnArgs s_Shift_told) (C8.fnBody s_Shift_told) (C8.fnScope s_Shift_told) [] [] f fd) : Binds K fd ["self"] [] := F.bindsN fun _ _ _ _ _ _ us hl => match us, hl with | [_], _ => rfl
theorem S_Shift_fits : FnScope ["self", "width"] ["self", "width"] (C8.fnScope s_Shift_fits) := C8.fnScope_by (by decide +kernel)
theorem B_Shift_fits {f : Addr} {fd : FuncData} (F : FunD K "fits" "Shift.fits" (C8.fnArgs s_Shift_fits) (C8.fnBody s_Shift_fits) (C8.fnScope s_Shift_fits) [] [] f fd) : Binds K fd ["self", "width"] [] := F.bindsN fun _ _ _ _ _ _ us hl => match us, hl with | [_, _], _ => rfl
theorem S_Shift_do : FnScope ["self", "width", "held", "marks"] ["self", "width", "held", "marks"] (C8.fnScope s_Shift_do) := C8.fnScope_by (by decide +kernel)
theorem B_Shift_do {f : Addr} {fd : FuncData} (F : FunD K "do" "Shift.do" (C8.fnArgs s_Shift_do) (C8.fnBody s_Shift_do) (C8.fnScope s_Shift_do) [] [] f fd) : Binds K fd ["self", "width", "held", "marks"] [] := F.bindsN fun _ _ _ _ _ _ us hl => match us, hl with | [_, _, _, _], _ => rfl
theorem S_Left_moved : FnScope ["self", "width", "a"] ["self", "width", "a"] (C8.fnScope s_Left_moved) := C8.fnScope_by (by decide +kernel)
theorem B_Left_moved {f : Addr} {fd : FuncData} (F : FunD K "moved" "Left.moved" (C8.fnArgs s_Left_moved) (C8.fnBody s_Left_moved) (C8.fnScope s_Left_moved) [] [] f fd) : Binds K fd ["self", "width", "a"] [] := F.bindsN fun _ _ _ _ _ _ us hl => match us, hl with | [_, _, _], _ => rfl
theorem S_Right_word : FnScope ["self"] ["self"] (C8.fnScope s_Right_word) := C8.fnScope_by (by decide +kernel)
theorem B_Right_word {f : Addr} {fd : FuncData} (F : FunD K "word" "Right.word" (C8.fnArgs s_Right_word) (C8.fnBody s_Right_word) (C8.fnScope s_Right_word) [] [] f fd) : Binds K fd ["self"] [] := F.bindsN fun _ _ _ _ _ _ us hl => match us, hl with | [_], _ => rfl
theorem S_Right_moved : FnScope ["self", "width", "a"] ["self", "width", "a"] (C8.fnScope s_Right_moved) := C8.fnScope_by (by decide +kernel)
theorem B_Right_moved {f : Addr} {fd : FuncData} (F : FunD K "moved" "Right.moved" (C8.fnArgs s_Right_moved) (C8.fnBody s_Right_moved) (C8.fnScope s_Right_moved) [] [] f fd) : Binds K fd ["self", "width", "a"] [] := F.bindsN fun _ _ _ _ _ _ us hl => match us, hl with | [_, _, _], _ => rfl
theorem S_Slide_word : FnScope ["self"] ["self"] (C8.fnScope s_Slide_word) := C8.fnScope_by (by decide +kernel)
theorem B_Slide_word {f : Addr} {fd : FuncData} (F : FunD K "word" "Slide.word" (C8.fnArgs s_Slide_word) (C8.fnBody s_Slide_word) (C8.fnScope s_Slide_word) [] [] f fd) : Binds K fd ["self"] [] := F.bindsN fun _ _ _ _ _ _ us hl => match us, hl with | [_], _ => rfl
theorem S_Slide_moved : FnScope ["self", "width", "a"] ["self", "width", "a"] (C8.fnScope s_Slide_moved) := C8.fnScope_by (by decide +kernel)
theorem B_Slide_moved {f : Addr} {fd : FuncData} (F : FunD K "moved" "Slide.moved" (C8.fnArgs s_Slide_moved) (C8.fnBody s_Slide_moved) (C8.fnScope s_Slide_moved) [] [] f fd) : Binds K fd ["self", "width", "a"] [] := F.bindsN fun _ _ _ _ _ _ us hl => match us, hl with | [_, _, _], _ => rfl
theorem S_Pick_init : FnScope ["self", "goal", "by", "one", "other"] ["self", "goal", "by", "one", "other"] (C8.fnScope s_Pick_init) := C8.fnScope_by (by decide +kernel)
theorem B_Pick_init {f : Addr} {fd : FuncData} (F : FunD K "__init__" "Pick.__init__" (C8.fnArgs s_Pick_init) (C8.fnBody s_Pick_init) (C8.fnScope s_Pick_init) [] [] f fd) : Binds K fd ["self", "goal", "by", "one", "other"] [] := F.bindsN fun _ _ _ _ _ _ us hl => match us, hl with | [_, _, _, _, _], _ => rfl
theorem S_Pick_word : FnScope ["self"] ["self"] (C8.fnScope s_Pick_word) := C8.fnScope_by (by decide +kernel)
theorem B_Pick_word {f : Addr} {fd : FuncData} (F : FunD K "word" "Pick.word" (C8.fnArgs s_Pick_word) (C8.fnBody s_Pick_word) (C8.fnScope s_Pick_word) [] [] f fd) : Binds K fd ["self"] [] := F.bindsN fun _ _ _ _ _ _ us hl => match us, hl with | [_], _ => rfl
theorem S_Pick_told : FnScope ["self"] ["self"] (C8.fnScope s_Pick_told) := C8.fnScope_by (by decide +kernel)
theorem B_Pick_told {f : Addr} {fd : FuncData} (F : FunD K "told" "Pick.told" (C8.fnArgs s_Pick_told) (C8.fnBody s_Pick_told) (C8.fnScope s_Pick_told) [] [] f fd) : Binds K fd ["self"] [] := F.bindsN fun _ _ _ _ _ _ us hl => match us, hl with | [_], _ => rfl
theorem S_Pick_fits : FnScope ["self", "width", "name"] ["self", "width"] (C8.fnScope s_Pick_fits) := C8.fnScope_by (by decide +kernel)
theorem B_Pick_fits {f : Addr} {fd : FuncData} (F : FunD K "fits" "Pick.fits" (C8.fnArgs s_Pick_fits) (C8.fnBody s_Pick_fits) (C8.fnScope s_Pick_fits) [] [] f fd) : Binds K fd ["self", "width"] [] := F.bindsN fun _ _ _ _ _ _ us hl => match us, hl with | [_, _], _ => rfl
theorem S_Pick_do : FnScope ["self", "width", "held", "marks"] ["self", "width", "held", "marks"] (C8.fnScope s_Pick_do) := C8.fnScope_by (by decide +kernel)
theorem B_Pick_do {f : Addr} {fd : FuncData} (F : FunD K "do" "Pick.do" (C8.fnArgs s_Pick_do) (C8.fnBody s_Pick_do) (C8.fnScope s_Pick_do) [] [] f fd) : Binds K fd ["self", "width", "held", "marks"] [] := F.bindsN fun _ _ _ _ _ _ us hl => match us, hl with | [_, _, _, _], _ => rfl
theorem S_Mark_init : FnScope ["self", "line", "mark", "by"] ["self", "line", "mark", "by"] (C8.fnScope s_Mark_init) := C8.fnScope_by (by decide +kernel)
theorem B_Mark_init {f : Addr} {fd : FuncData} (F : FunD K "__init__" "Mark.__init__" (C8.fnArgs s_Mark_init) (C8.fnBody s_Mark_init) (C8.fnScope s_Mark_init) [] [] f fd) : Binds K fd ["self", "line", "mark", "by"] [] := F.bindsN fun _ _ _ _ _ _ us hl => match us, hl with | [_, _, _, _], _ => rfl
theorem S_Mark_word : FnScope ["self"] ["self"] (C8.fnScope s_Mark_word) := C8.fnScope_by (by decide +kernel)
theorem B_Mark_word {f : Addr} {fd : FuncData} (F : FunD K "word" "Mark.word" (C8.fnArgs s_Mark_word) (C8.fnBody s_Mark_word) (C8.fnScope s_Mark_word) [] [] f fd) : Binds K fd ["self"] [] := F.bindsN fun _ _ _ _ _ _ us hl => match us, hl with | [_], _ => rfl
theorem S_Mark_told : FnScope ["self"] ["self"] (C8.fnScope s_Mark_told) := C8.fnScope_by (by decide +kernel)
theorem B_Mark_told {f : Addr} {fd : FuncData} (F : FunD K "told" "Mark.told" (C8.fnArgs s_Mark_told) (C8.fnBody s_Mark_told) (C8.fnScope s_Mark_told) [] [] f fd) : Binds K fd ["self"] [] := F.bindsN fun _ _ _ _ _ _ us hl => match us, hl with | [_], _ => rfl
theorem S_Mark_fits : FnScope ["self", "width"] ["self", "width"] (C8.fnScope s_Mark_fits) := C8.fnScope_by (by decide +kernel)
theorem B_Mark_fits {f : Addr} {fd : FuncData} (F : FunD K "fits" "Mark.fits" (C8.fnArgs s_Mark_fits) (C8.fnBody s_Mark_fits) (C8.fnScope s_Mark_fits) [] [] f fd) : Binds K fd ["self", "width"] [] := F.bindsN fun _ _ _ _ _ _ us hl => match us, hl with | [_, _], _ => rfl
theorem S_Mark_do : FnScope ["self", "width", "held", "marks"] ["self", "width", "held", "marks"] (C8.fnScope s_Mark_do) := C8.fnScope_by (by decide +kernel)
theorem B_Mark_do {f : Addr} {fd : FuncData} (F : FunD K "do" "Mark.do" (C8.fnArgs s_Mark_do) (C8.fnBody s_Mark_do) (C8.fnScope s_Mark_do) [] [] f fd) : Binds K fd ["self", "width", "held", "marks"] [] := F.bindsN fun _ _ _ _ _ _ us hl => match us, hl with | [_, _, _, _], _ => rfl
theorem S_Turns_init : FnScope ["self", "times", "steps"] ["self", "times", "steps"] (C8.fnScope s_Turns_init) := C8.fnScope_by (by decide +kernel)
theorem B_Turns_init {f : Addr} {fd : FuncData} (F : FunD K "__init__" "Turns.__init__" (C8.fnArgs s_Turns_init) (C8.fnBody s_Turns_init) (C8.fnScope s_Turns_init) [] [] f fd) : Binds K fd ["self", "times", "steps"] [] := F.bindsN fun _ _ _ _ _ _ us hl => match us, hl with | [_, _, _], _ => rfl
theorem S_Turns_fits : FnScope ["self", "width"] ["self", "width"] (C8.fnScope s_Turns_fits) := C8.fnScope_by (by decide +kernel)
theorem B_Turns_fits {f : Addr} {fd : FuncData} (F : FunD K "fits" "Turns.fits" (C8.fnArgs s_Turns_fits) (C8.fnBody s_Turns_fits) (C8.fnScope s_Turns_fits) [] [] f fd) : Binds K fd ["self", "width"] [] := F.bindsN fun _ _ _ _ _ _ us hl => match us, hl with | [_, _], _ => rfl
end
end K76
set_option Elab.async false
set_option linter.all false
set_option maxRecDepth 100000
set_option maxHeartbeats 4000000
namespace K76
open PySem PySem.Spec PyProof.Rows L2
open Evl (Ex)
/-! ## bundles: a def that may be called, a method, a class -/
section
variable {P : Program} {w : World} {K : PySem.W.Frag} {mg : Str → Option Value} {base : Heap}
theorem FnT.fun {nm ql : Str} {st : Stmt} {f : Addr} {fd : FuncData} (F : FunD K nm ql (C8.fnArgs st) (C8.fnBody st) (C8.fnScope st) [] [] f fd) : C8.Fun K nm ql st f fd := by
  obtain ⟨oc, od, dV, kV, doc, pm, an, cdv, ct, osl, e, lk, hcd, _, _⟩ := F.ex
  exact ⟨oc, od, dV, kV, doc, pm, an, cdv, ct, osl, e, lk, hcd⟩
/-- what a body's proof gives -/
abbrev BodyOk (P : Program) (w : World) (K : PySem.W.Frag) (mg : Str → Option Value) (base : Heap) (N : List Str) (qual : Str) (st : Stmt) (k : Nat) (f : Addr) (sp : Sp) : Prop :=
  ∀ (cdv : Value) (A : Around) (outer : List Env) (s : Shared) (H : Hp) (vs : List V) (Q : VK) (E : XK), Room k (A.deeper (envOfC qual (C8.fnScope st) s.heap.objs.size f cdv)) → sp vs H Q E →
    ∃ t, PSs (cxOf C8.CX0 P w K mg base N qual (C8.fnScope st) f cdv A outer s H E).nox (C8.fnBody st) t ∧ t { nx := fun _ H' => Q .non H', rt := Q } (start N vs) H
theorem cal_mk {x : Str} {st : Stmt} {N ps : List Str} {k : Nat} {sp : Sp} (F : FnT K x x st (He.ga K x)) (hm : mg x = some (.ref (He.ga K x))) (S : FnScope N ps (C8.fnScope st))
    (B : ∀ {f : Addr} {fd : FuncData}, FunD K x x (C8.fnArgs st) (C8.fnBody st) (C8.fnScope st) [] [] f fd → Binds K fd ps []) (len : ∀ vs H Q E, sp vs H Q E → vs.length = ps.length)
    (hb : BodyOk P w K mg base N x st k (He.ga K x) sp) : C8.Cal P w K mg base (k + 1) x sp [] := by
  obtain ⟨fd, F⟩ := F
  exact ⟨_, fd, ps, [], C8.fn0 (FnT.fun F) S len hb, hm, F.kp, B F, .nil⟩
theorem met_mk {m ql : Str} {C : Addr} {st : Stmt} {N ps : List Str} {k : Nat} {sp : Sp} (F : FnT K m ql st (He.ma K C m)) (c : Cls K C) (hm : Meth K C m (He.ma K C m)) (S : FnScope N ps (C8.fnScope st))
    (B : ∀ {f : Addr} {fd : FuncData}, FunD K m ql (C8.fnArgs st) (C8.fnBody st) (C8.fnScope st) [] [] f fd → Binds K fd ps []) (len : ∀ vs H Q E, sp vs H Q E → vs.length = ps.length)
    (hb : BodyOk P w K mg base N ql st k (He.ma K C m) sp) : C8.Met P w K mg base (k + 1) C m sp [] := by
  obtain ⟨fd, F⟩ := F
  exact ⟨_, fd, ps, [], c, hm, C8.fn0 (FnT.fun F) S len hb, B F, .nil⟩
theorem mak_mk {x ql : Str} {st : Stmt} {N ps : List Str} {k : Nat} {sp : Sp} (F : FnT K "__init__" ql st (He.ma K (He.ga K x) "__init__")) (M : Mk K (He.ga K x) (He.ma K (He.ga K x) "__init__")) (hm : mg x = some (.ref (He.ga K x))) (S : FnScope N ps (C8.fnScope st))
    (B : ∀ {f : Addr} {fd : FuncData}, FunD K "__init__" ql (C8.fnArgs st) (C8.fnBody st) (C8.fnScope st) [] [] f fd → Binds K fd ps []) (len : ∀ vs H Q E, sp vs H Q E → vs.length = ps.length)
    (hb : BodyOk P w K mg base N ql st k (He.ma K (He.ga K x) "__init__") sp) : C8.Mak P w K mg base (k + 1) x (He.ga K x) sp [] := by
  obtain ⟨fd, F⟩ := F
  exact ⟨_, fd, ps, [], M, C8.fn0 (FnT.fun F) S len hb, hm, B F, .nil⟩
/-- a def asked beyond what it promises -/
theorem cal_no {x : Str} (F : ∃ st, FnT K x x st (He.ga K x) ∧ ∃ ps : List Str, ∀ {f : Addr} {fd : FuncData}, FunD K x x (C8.fnArgs st) (C8.fnBody st) (C8.fnScope st) [] [] f fd → Binds K fd ps []) (hm : mg x = some (.ref (He.ga K x))) :
    C8.Cal P w K mg base 0 x (fun _ _ _ _ => False) [] := by
  obtain ⟨st, ⟨fd, F⟩, ps, B⟩ := F
  exact ⟨_, fd, ps, [], ⟨fun _ _ _ _ h => h.elim, fun _ _ _ _ _ _ _ _ _ _ _ _ _ h => h.elim⟩, hm, F.kp, B F, .nil⟩
end
/-! ## further rules -/
section
variable {X : Cx}
/-- f() -/
theorem pe_c0 {k j : Nat} {x : Str} {sp : Sp} {p pos : Pos} (c : C8.Cal X.prog X.w X.K X.mg X.base k x sp []) (hr : Room j X.A) (hk : k ≤ j) (hg : Gl X x) (hdb : (x == ("__debug__" : Str)) = false := by decide) : PE X (.Call (.Name x p) [] [] pos) (tCall sp [] E0 tNil) := by
  obtain ⟨g, gd, ps, ds, F, hm, kp, bs, dv⟩ := c.ex
  cases dv
  exact pe_call0 F (hr.mono hk) hg hm kp bs .nil C8.pass0 hdb
theorem isi_at {K : PySem.W.Frag} (h : X.K = K) : CallR X (.builtin "isinstance") (rIsi K) := by
  subst h
  exact call_isi
/-- one of many readings -/
theorem pe_any {ι : Type} {e : Expr} {t : ι → TE} (h : ∀ i, PE X e (t i)) : PE X e (fun σ H Q => ∃ i, t i σ H Q) := ⟨fun pins s σ H Q I ⟨i, q⟩ => (h i).run pins s σ H Q I q⟩
/-- a method of one of many classes -/
theorem pe_mtA {ι : Type} {C : ι → Addr} {sp : ι → Sp} {k j : Nat} {m : Str} {pos apos : Pos} {e o : Expr} {es : List Expr} {ta : TE} {t : TA} (c : ∀ i, C8.Met X.prog X.w X.K X.mg X.base k (C i) m (sp i) []) (hr : Room j X.A) (hk : k ≤ j) (he : PE X o ta) (ha : PA X (e :: es) t)
    (hst : starEach (e :: es) X.env = (false, eval e X.env) :: starEach es X.env := by rfl) (hpl : (backTo pos (starEach es X.env)).any (·.1) = false := by rfl) {pl : Sem Bool}
    (hev : eval (.Call (.Attribute o m apos) (e :: es) [] pos) X.env = (do
      let me ← eval o X.env
      standAt apos.atName
      let (g, gs) ← holding [me] (getMethod me m pl)
      callWith pos g gs (backTo pos (starEach (e :: es) X.env)) (backToKw pos (keywordEach [] X.env))) := by rfl) :
    PE X (.Call (.Attribute o m apos) (e :: es) [] pos) (fun σ H Q => ∃ i, tMeth (C i) m (sp i) [] E0 ta t σ H Q) := pe_any fun i => C8.pe_mt (pl := pl) (c i) hr hk he ha hst hpl hev
theorem pe_mtA0 {ι : Type} {C : ι → Addr} {sp : ι → Sp} {k j : Nat} {m : Str} {pos apos : Pos} {o : Expr} {ta : TE} (c : ∀ i, C8.Met X.prog X.w X.K X.mg X.base k (C i) m (sp i) []) (hr : Room j X.A) (hk : k ≤ j) (he : PE X o ta) {pl : Sem Bool}
    (hev : eval (.Call (.Attribute o m apos) [] [] pos) X.env = (do
      let me ← eval o X.env
      standAt apos.atName
      let (g, gs) ← holding [me] (getMethod me m pl)
      callWith pos g gs (backTo pos (starEach [] X.env)) (backToKw pos (keywordEach [] X.env))) := by rfl) :
    PE X (.Call (.Attribute o m apos) [] [] pos) (fun σ H Q => ∃ i, tMeth (C i) m (sp i) [] E0 ta tNil σ H Q) := pe_any fun i => C8.pe_mt0 (pl := pl) (c i) hr hk he hev
/-- dict(d) -/
theorem call_dict_copy : CallR X (.type "dict") (fun xs H Q => ∃ a kvs, xs = [V.ref a] ∧ Rd H a (.dK kvs) ∧ ∀ p, H p = none → Q (.ref p) (upd H p (.dK kvs))) := by
  intro pins s τ H xs us Q I r hx
  obtain ⟨a, kvs, rfl, e, q⟩ := hx
  obtain ⟨v, rfl, hv⟩ := vals1 r
  have ev : v = Value.ref a := hv
  subst ev
  exact d_copyOf I e fun p s' hp I' => ⟨.ref p, _, I', rfl, q p hp⟩
/-- str(x) of a text, of a number -/
theorem call_str_any : CallR X (.type "str") (fun xs H Q => (∃ a, xs = [V.str a] ∧ Q (.str a) H) ∨ ∃ i : Int, xs = [V.int i] ∧ i.natAbs.log2 < 1920 ∧ Q (.str (toString i)) H) :=
  CallR.or SkE.call_str_str call_str_int
/-- xs != [] where something is in xs -/
theorem op_neE : OpR X (compareOp .NotEq) (fun x y H Q => ∃ a b xs, x = V.ref a ∧ y = V.ref b ∧ SqL X.K H a xs ∧ SqL X.K H b [] ∧ xs ≠ [] ∧ X.A.units < cLine ∧ Q (.bl true) H) := by
  intro pins s τ H x y v u Q I hx hy h
  obtain ⟨a, b, xs, rfl, rfl, ha, hb, ne, hu, q⟩ := h
  have e1 : v = Value.ref a := hx
  have e0 : u = Value.ref b := hy
  subst e1 e0
  obtain ⟨its, r1, p1, _⟩ := I.list ha
  obtain ⟨jts, r2, p2, _⟩ := I.list hb
  have e2 : jts = [] := by cases r2 <;> rfl
  subst e2
  refine SeqAt.RcNeAt.lists_lengths p1.isList p2.isList ?_ hu X.prog X.w X.xe _ ⟨.bl true, H, I, rfl, q⟩
  have hl := r1.length
  have : xs.length ≠ 0 := fun z => ne (List.length_eq_zero_iff.mp z)
  simp only [List.size_toArray, List.length_nil, bne_iff_ne]
  omega
end
/-! ## heaps -/
theorem ex_upd {H H' : Hp} {a : Addr} {o : HO} (e : Ex H H') : Ex (upd H a o) (upd H' a o) := fun b u h => by
  by_cases hb : b = a
  · subst hb
    rw [upd_same] at h ⊢
    exact h
  · rw [upd_ne hb] at h ⊢
    exact e b u h
theorem upd_self {a : Addr} {o : HO} {H : Hp} (h : H a = some o) : upd H a o = H := by
  funext b
  by_cases hb : b = a
  · rw [hb, upd_same, h]
  · rw [upd_ne hb]
theorem ex_rdk {H H' : Hp} {a : Addr} {u : HO} (e : Ex H H') (h : Rd H a u) : Rd H' a u := Evl.ex_rd e h
/-! ## rows -/
inductive PK where
  | low | high | or | unlike | under
  deriving DecidableEq
inductive CK where
  | sum | gap
  deriving DecidableEq
inductive SK where
  | left | right | slide
  deriving DecidableEq
inductive Kd where
  | set | copy | pair (k : PK) | carry (k : CK) | shift (k : SK) | pick | mark | turns
  deriving DecidableEq
def Kd.nm : Kd → Str
  | .set => "Set" | .copy => "Copy"
  | .pair .low => "Low" | .pair .high => "High" | .pair .or => "Or" | .pair .unlike => "Unlike" | .pair .under => "Under"
  | .carry .sum => "Sum" | .carry .gap => "Gap"
  | .shift .left => "Left" | .shift .right => "Right" | .shift .slide => "Slide"
  | .pick => "Pick" | .mark => "Mark" | .turns => "Turns"
def Kd.wd : Kd → Str
  | .set => "set" | .copy => "copy"
  | .pair .low => "low" | .pair .high => "high" | .pair .or => "or" | .pair .unlike => "unlike" | .pair .under => "under"
  | .carry .sum => "sum" | .carry .gap => "gap"
  | .shift .left => "left" | .shift .right => "right" | .shift .slide => "slide"
  | .pick => "pick" | .mark => "mark" | .turns => "turns"
/-- the class of a kind of rows -/
abbrev kC (K : PySem.W.Frag) (k : Kd) : Addr := He.ga K k.nm
inductive Rw where
  | set (g : Str) (b : Int)
  | copy (g a : Str)
  | pair (k : PK) (g a b : Str)
  | carry (k : CK) (g : Str) (c : Option Str) (a b : Str)
  | shift (k : SK) (g a : Str) (n : Int)
  | pick (g p a b : Str)
  | mark (l : Int) (m p : Str)
def Rw.kd : Rw → Kd
  | .set .. => .set | .copy .. => .copy | .pair k .. => .pair k | .carry k .. => .carry k | .shift k .. => .shift k | .pick .. => .pick | .mark .. => .mark
def oV : Option Str → V
  | none => .non
  | some c => .str c
/-- the fields of a row, in their order -/
def Rw.flds : Rw → List (Str × V)
  | .set g b => [("goal", .str g), ("bits", .int b)]
  | .copy g a => [("goal", .str g), ("one", .str a)]
  | .pair _ g a b => [("goal", .str g), ("one", .str a), ("other", .str b)]
  | .carry _ g c a b => [("goal", .str g), ("carry", oV c), ("one", .str a), ("other", .str b)]
  | .shift _ g a n => [("goal", .str g), ("one", .str a), ("k", .int n)]
  | .pick g p a b => [("goal", .str g), ("by", .str p), ("one", .str a), ("other", .str b)]
  | .mark l m p => [("line", .int l), ("mark", .str m), ("by", .str p)]
/-- a row of the machine stands at p -/
def RowAt (K : PySem.W.Frag) (H : Hp) (p : Addr) (r : Rw) : Prop := ∃ dx, H p = some (.ins (kC K r.kd) dx r.flds)
inductive It where
  | row (r : Rw)
  | turns (n : Nat) (rs : List Rw)
def RowsAt (K : PySem.W.Frag) (H : Hp) (l : Addr) (rs : List Rw) : Prop := ∃ ps : List Addr, H l = some (.lst (ps.map V.ref)) ∧ Paired (RowAt K H) ps rs
def ItAt (K : PySem.W.Frag) (H : Hp) (p : Addr) : It → Prop
  | .row r => RowAt K H p r
  | .turns n rs => ∃ dx l, H p = some (.ins (kC K .turns) dx [("times", .int n), ("steps", .ref l)]) ∧ RowsAt K H l rs
def ItsAt (K : PySem.W.Frag) (H : Hp) (l : Addr) (its : List It) : Prop := ∃ ps : List Addr, H l = some (.lst (ps.map V.ref)) ∧ Paired (ItAt K H) ps its
def It.kd : It → Kd
  | .row r => r.kd
  | .turns .. => .turns
theorem RowAt.ex {K : PySem.W.Frag} {H H' : Hp} {p : Addr} {r : Rw} (h : RowAt K H p r) (e : Ex H H') : RowAt K H' p r := let ⟨dx, q⟩ := h; ⟨dx, e _ _ q⟩
theorem RowsAt.ex {K : PySem.W.Frag} {H H' : Hp} {p : Addr} {rs : List Rw} (h : RowsAt K H p rs) (e : Ex H H') : RowsAt K H' p rs :=
  let ⟨ps, q, r⟩ := h; ⟨ps, e _ _ q, Paired.mapP r fun _ _ z => z.ex e⟩
theorem ItAt.ex {K : PySem.W.Frag} {H H' : Hp} {p : Addr} {it : It} (h : ItAt K H p it) (e : Ex H H') : ItAt K H' p it := by
  cases it with
  | row r => exact RowAt.ex h e
  | turns n rs =>
    obtain ⟨dx, l, q, r⟩ := h
    exact ⟨dx, l, e _ _ q, r.ex e⟩
theorem ItsAt.ex {K : PySem.W.Frag} {H H' : Hp} {p : Addr} {its : List It} (h : ItsAt K H p its) (e : Ex H H') : ItsAt K H' p its :=
  let ⟨ps, q, r⟩ := h; ⟨ps, e _ _ q, Paired.mapP r fun _ _ z => z.ex e⟩
theorem RowsAt.its {K : PySem.W.Frag} {H : Hp} {l : Addr} {rs : List Rw} (h : RowsAt K H l rs) : ItsAt K H l (rs.map .row) := by
  obtain ⟨ps, q, r⟩ := h
  refine ⟨ps, q, ?_⟩
  clear q
  induction r with
  | nil => exact .nil
  | cons h _ ih => exact .cons h ih
/-- the instance at p: its class by the kind -/
theorem ItAt.ins {K : PySem.W.Frag} {H : Hp} {p : Addr} {it : It} (h : ItAt K H p it) : ∃ dx fs, H p = some (.ins (kC K it.kd) dx fs) ∧ (∀ m : Str, m = "word" ∨ m = "told" ∨ m = "fits" ∨ m = "do" → fs.lookup m = none) := by
  cases it with
  | row r =>
    obtain ⟨dx, q⟩ := h
    refine ⟨dx, _, q, fun m hm => ?_⟩
    rcases hm with rfl | rfl | rfl | rfl <;> cases r <;> rfl
  | turns n rs =>
    obtain ⟨dx, l, q, _⟩ := h
    refine ⟨dx, _, q, fun m hm => ?_⟩
    rcases hm with rfl | rfl | rfl | rfl <;> rfl
/-! ## good rows -/
def isReg (s : Str) : Bool := decide (1 ≤ s.length) && decide (s.length ≤ 8) && (match s.cps.toList with
  | [] => false
  | c :: _ => decide (c ∈ ("abcdefghijklmnopqrstuvwxyz" : Str).cps.toList)) && s.cps.toList.all fun c => decide (c ∈ ("abcdefghijklmnopqrstuvwxyz0123456789" : Str).cps.toList)
def Rw.good (w : Nat) : Rw → Prop
  | .set g b => isReg g = true ∧ 0 ≤ b ∧ b < B w
  | .copy g a => isReg g = true ∧ isReg a = true
  | .pair _ g a b => isReg g = true ∧ isReg a = true ∧ isReg b = true
  | .carry _ g c a b => (∀ x, c = some x → isReg x = true) ∧ isReg g = true ∧ isReg a = true ∧ isReg b = true
  | .shift _ g a n => isReg g = true ∧ isReg a = true ∧ 0 ≤ n ∧ n < w
  | .pick g p a b => isReg g = true ∧ isReg p = true ∧ isReg a = true ∧ isReg b = true
  | .mark l m p => (m = "round" ∨ m = "stop" ∨ m = "nothing") ∧ 0 ≤ l ∧ l ≤ 9999 ∧ isReg p = true
def It.good (w : Nat) : It → Prop
  | .row r => r.good w
  | .turns n rs => 1 ≤ n ∧ n ≤ 64 ∧ rs ≠ [] ∧ ∀ r ∈ rs, r.good w
/-! ## what the machine does -/
abbrev Rg := Str → Option Int
def get (R : Rg) (s : Str) : Int := (R s).getD 0
def put (R : Rg) (g : Str) (v : Int) : Rg := fun s => if s = g then some v else R s
def pairV (w : Nat) : PK → Int → Int → Int
  | .low, a, b => a * b % B w
  | .high, a, b => a * b / B w
  | .or, a, b => Builtin.bitOr a b
  | .unlike, a, b => Builtin.bitXor a b
  | .under, a, b => if a < b then 1 else 0
def carryV (w : Nat) : CK → Int → Int → Int × Int
  | .sum, a, b => ((a + b) % B w, (a + b) / B w)
  | .gap, a, b => ((a - b) % B w, if a < b then 1 else 0)
def shiftV (w : Nat) : SK → Int → Int → Int
  | .left, a, n => a * 2 ^ n.toNat % B w
  | .right, a, n => a / 2 ^ n.toNat
  | .slide, a, n => (if a / B (w - 1) = 1 then a - B w else a) / 2 ^ n.toNat % B w
def stepR (w : Nat) (R : Rg) : Rw → Rg
  | .set g b => put R g b
  | .copy g a => put R g (get R a)
  | .pair k g a b => put R g (pairV w k (get R a) (get R b))
  | .carry k g c a b => match c with
    | none => put R g (carryV w k (get R a) (get R b)).1
    | some c => put (put R g (carryV w k (get R a) (get R b)).1) c (carryV w k (get R a) (get R b)).2
  | .shift k g a n => put R g (shiftV w k (get R a) n)
  | .pick g p a b => put R g (if get R p ≠ 0 then get R a else get R b)
  | .mark .. => R
def stepM (R : Rg) (ms : List (Int × Str)) : Rw → List (Int × Str)
  | .mark l m p => if get R p ≠ 0 then ms ++ [(l, m)] else ms
  | _ => ms
structure Ms where
  reg : Rg
  marks : List (Int × Str)
  cnt : Str → Int
def tick (c : Str → Int) (x : Str) : Str → Int := fun y => if y = x then c y + 1 else c y
def stepS (w : Nat) (S : Ms) (r : Rw) : Ms := ⟨stepR w S.reg r, stepM S.reg S.marks r, tick S.cnt r.kd.wd⟩
def runRows (w : Nat) (S : Ms) (rs : List Rw) : Ms := rs.foldl (stepS w) S
def turn1 (w : Nat) (rs : List Rw) (S : Ms) : Ms := runRows w ⟨S.reg, S.marks, tick S.cnt "turns"⟩ rs
def iter {α : Type} (f : α → α) : Nat → α → α
  | 0, a => a
  | n + 1, a => f (iter f n a)
def stepIt (w : Nat) (S : Ms) : It → Ms
  | .row r => stepS w S r
  | .turns n rs => iter (turn1 w rs) n S
def runIts (w : Nat) (S : Ms) (its : List It) : Ms := its.foldl (stepIt w) S
theorem runIts_rows (w : Nat) (rs : List Rw) : ∀ S, runIts w S (rs.map .row) = runRows w S rs := by
  induction rs with
  | nil => intro S; rfl
  | cons r rs ih => intro S; exact ih _
/-- all words -/
def Wd (w : Nat) (R : Rg) : Prop := ∀ s v, R s = some v → 0 ≤ v ∧ v < B w
theorem Wd.get {w : Nat} {R : Rg} (h : Wd w R) (s : Str) : 0 ≤ get R s ∧ get R s < B w := by
  unfold K76.get
  cases e : R s with
  | none => exact ⟨Int.le_refl 0, B_pos w⟩
  | some v => exact h s v e
theorem Wd.put {w : Nat} {R : Rg} (h : Wd w R) {g : Str} {v : Int} (hv : 0 ≤ v ∧ v < B w) : Wd w (put R g v) := fun s u e => by
  unfold K76.put at e
  split at e
  · cases e
    exact hv
  · exact h s u e
theorem mod_wd (w : Nat) (x : Int) : 0 ≤ x % B w ∧ x % B w < B w := ⟨Int.emod_nonneg _ (by have := B_pos w; omega), Int.emod_lt_of_pos _ (B_pos w)⟩
theorem bit_wd {w : Nat} {p : Prop} [Decidable p] (hw : 1 ≤ w) : 0 ≤ (if p then (1 : Int) else 0) ∧ (if p then (1 : Int) else 0) < B w := by
  have h1 := B_le hw
  have h2 : B 1 = 2 := rfl
  split <;> omega
theorem and_lt {w : Nat} {a b : Int} (ha : 0 ≤ a ∧ a < B w) (hb : 0 ≤ b ∧ b < B w) : 0 ≤ Builtin.bitOr a b ∧ Builtin.bitOr a b < B w ∧ 0 ≤ Builtin.bitXor a b ∧ Builtin.bitXor a b < B w := by
  have e := bitOr_and a b
  have e2 := bitXor_and a b
  have h1 := PyProof.Rows.bitAnd_pp ha.1 hb.1
  have hor : Builtin.bitOr a b = ((a.toNat ||| b.toNat : Nat) : Int) := by
    have := nat_or_add_and a.toNat b.toNat
    omega
  have hlt : a.toNat ||| b.toNat < 2 ^ w := Nat.or_lt_two_pow (by have := B_nat w; omega) (by have := B_nat w; omega)
  have hB := B_nat w
  have hand : a.toNat &&& b.toNat ≤ a.toNat ||| b.toNat := Nat.le_trans Nat.and_le_left Nat.left_le_or
  omega
theorem div_wd {w : Nat} {a b : Int} (ha : 0 ≤ a ∧ a < B w) (hb : 0 ≤ b ∧ b < B w) : 0 ≤ a * b / B w ∧ a * b / B w < B w := by
  have hp := B_pos w
  refine ⟨Int.ediv_nonneg (Int.mul_nonneg ha.1 hb.1) (by omega), Int.ediv_lt_of_lt_mul hp ?_⟩
  rcases Int.lt_or_eq_of_le hb.1 with h | h
  · exact Int.lt_of_lt_of_le (Int.mul_lt_mul_of_pos_right ha.2 h) (Int.mul_le_mul_of_nonneg_left (by omega) (by omega))
  · rw [← h, Int.mul_zero]
    exact Int.mul_pos hp hp
theorem pairV_wd {w : Nat} (hw : 1 ≤ w) (k : PK) {a b : Int} (ha : 0 ≤ a ∧ a < B w) (hb : 0 ≤ b ∧ b < B w) : 0 ≤ pairV w k a b ∧ pairV w k a b < B w := by
  cases k with
  | low => exact mod_wd w _
  | high => exact div_wd ha hb
  | or => exact ⟨(and_lt ha hb).1, (and_lt ha hb).2.1⟩
  | unlike => exact (and_lt ha hb).2.2
  | under => exact bit_wd hw
theorem carryV_wd {w : Nat} (hw : 1 ≤ w) (k : CK) {a b : Int} (ha : 0 ≤ a ∧ a < B w) (hb : 0 ≤ b ∧ b < B w) : (0 ≤ (carryV w k a b).1 ∧ (carryV w k a b).1 < B w) ∧ 0 ≤ (carryV w k a b).2 ∧ (carryV w k a b).2 < B w := by
  have hp := B_pos w
  have h1 := B_le hw
  have h2 : B 1 = 2 := rfl
  cases k with
  | sum =>
    refine ⟨mod_wd w _, Int.ediv_nonneg (by omega) (by omega), Int.lt_of_lt_of_le (Int.ediv_lt_of_lt_mul (b := 2) hp (by omega)) (by omega)⟩
  | gap => exact ⟨mod_wd w _, bit_wd hw⟩
theorem shiftV_wd {w : Nat} (k : SK) {a n : Int} (ha : 0 ≤ a ∧ a < B w) : 0 ≤ shiftV w k a n ∧ shiftV w k a n < B w := by
  have hp : (0 : Int) < 2 ^ n.toNat := Int.pow_pos (by decide)
  cases k with
  | left => exact mod_wd w _
  | right => exact ⟨Int.ediv_nonneg ha.1 (by omega), Int.lt_of_le_of_lt (Int.ediv_le_self _ ha.1) ha.2⟩
  | slide => exact mod_wd w _
theorem stepR_wd {w : Nat} (hw : 1 ≤ w) {R : Rg} (h : Wd w R) {r : Rw} (hr : r.good w) : Wd w (stepR w R r) := by
  cases r with
  | set g b => exact h.put hr.2
  | copy g a => exact h.put (h.get a)
  | pair k g a b => exact h.put (pairV_wd hw k (h.get a) (h.get b))
  | carry k g c a b =>
    have q := carryV_wd hw k (h.get a) (h.get b)
    cases c with
    | none => exact h.put q.1
    | some c => exact (h.put q.1).put q.2
  | shift k g a n => exact h.put (shiftV_wd k (h.get a))
  | pick g p a b =>
    refine h.put ?_
    split
    · exact h.get a
    · exact h.get b
  | mark l m p => exact h
end K76
set_option Elab.async false
set_option linter.all false
set_option maxRecDepth 100000
set_option maxHeartbeats 4000000
namespace K76
open PySem PySem.Spec PyProof.Rows L2
open Evl (Ex)
/-! ## words -/
def okw (w : Nat) : Prop := 4 ≤ w ∧ w ≤ 32
def wd (w : Nat) (a : Int) : Prop := 0 ≤ a ∧ a < B w
theorem wd.small {w : Nat} {a : Int} (h : wd w a) (hw : okw w) : -(2 ^ 64) < a ∧ a < 2 ^ 64 := by
  have h1 := B_le hw.2
  have h2 : B 32 = 4294967296 := rfl
  have h3 : ((2 : Int) ^ 64) = 18446744073709551616 := rfl
  obtain ⟨h4, h5⟩ := h
  omega
/-- is_whole of a number -/
def spWhole : Sp := fun vs H Q _ => ∃ i : Int, vs = [.int i] ∧ Q (.bl true) H
def spWidth : Sp := fun vs H Q _ => ∃ w : Nat, vs = [.int w] ∧ okw w ∧ Q .non H
def spCut : Sp := fun vs H Q _ => ∃ (w : Nat) (x : Int), vs = [.int w, .int x] ∧ okw w ∧ Q (.int (x % B w)) H
def spCarry (k : CK) : Sp := fun vs H Q _ => ∃ (w : Nat) (a b : Int), vs = [.int w, .int a, .int b] ∧ okw w ∧ ∀ t, H t = none → Q (.ref t) (upd H t (.tup [.int (carryV w k a b).1, .int (carryV w k a b).2]))
def spPair (k : PK) : Sp := fun vs H Q _ => ∃ (w : Nat) (a b : Int), vs = [.int w, .int a, .int b] ∧ okw w ∧ wd w a ∧ Q (.int (pairV w k a b)) H
def spShift (k : SK) : Sp := fun vs H Q _ => ∃ (w : Nat) (a n : Int), vs = [.int w, .int a, .int n] ∧ okw w ∧ wd w a ∧ 0 ≤ n ∧ n < w ∧ Q (.int (shiftV w k a n)) H
section
variable {P : Program} {w : World} {K : PySem.W.Frag} {mg : Str → Option Value} {base : Heap}
theorem ok_is_whole (T : Tx K mg) : C8.Cal P w K mg base 1 "is_whole" spWhole [] :=
  cal_mk T.f_is_whole T.g_is_whole S_is_whole B_is_whole (fun vs H Q E h => by obtain ⟨i, rfl, _⟩ := h; rfl) fun cdv A outer s H vs Q E hr h => by
    obtain ⟨i, rfl, k⟩ := h
    refine ⟨_, (pss_one (ps_ret (pe_and (pe_callB (id := "isinstance") (isi_at (K := K) rfl) (by rfl) T.z_isinstance (by decide +kernel) (pa_cons (pv 0) (pa_cons (pe_bltn (v := .ty "int") (u := .type "int") (by rfl) T.z_int (by decide +kernel) rfl) pa_nil))) (pe_one (pe_not (pe_callB (id := "isinstance") (isi_at (K := K) rfl) (by rfl) T.z_isinstance (by decide +kernel) (pa_cons (pv 0) (pa_cons (pe_bltn (v := .ty "bool") (u := .type "bool") (by rfl) T.z_bool (by decide +kernel) rfl) pa_nil)))))))), ?_⟩
    exact ⟨_, rfl, _, _, _, _, true, rfl, .ty _, .base (.int _), kit_ty (by decide +kernel), true, rfl, iteT ⟨_, rfl, _, _, _, _, false, rfl, .ty _, .base (.int _), kit_ty (by decide +kernel), false, rfl, k⟩⟩
theorem ok_need_width (T : Tx K mg) (k_is_whole : C8.Cal P w K mg base 1 "is_whole" spWhole []) : C8.Cal P w K mg base 2 "need_width" spWidth [] :=
  cal_mk T.f_need_width T.g_need_width S_need_width B_need_width (fun vs H Q E h => by obtain ⟨i, rfl, _⟩ := h; rfl) fun cdv A outer s H vs Q E hr h => by
    obtain ⟨i, rfl, hw, k⟩ := h
    refine ⟨_, (pss_one (ps_if (PW.pt (pw_or (pt_not (pt_val (C8.pe_c (k_is_whole) hr (by omega) rfl (pa_cons (pv 0) pa_nil)))) (pw_or1 (pt_not (pt_chain op_le op_le (C8.pe_gc rfl (T.i_LEAST_WIDTH)) (pv 0) (C8.pe_gc rfl (T.i_GREATEST_WIDTH_words))))))) (pss_one ps_never) pss_nil)), ?_⟩
    refine ⟨_, rfl, _, rfl, true, rfl, iteF ?_⟩
    refine ⟨_, rfl, _, _, rfl, rfl, _, rfl, ?_⟩
    have e1 : decide ((4 : Int) ≤ (i : Int)) = true := decide_eq_true (by have := hw.1; omega)
    have e2 : decide ((i : Int) ≤ (32 : Int)) = true := decide_eq_true (by have := hw.2; omega)
    rw [e1]
    refine iteT ⟨_, _, rfl, rfl, _, rfl, ?_⟩
    rw [e2]
    exact iteF k
theorem ok_cut (T : Tx K mg) : C8.Cal P w K mg base 1 "cut" spCut [] :=
  cal_mk T.f_cut T.g_cut S_cut B_cut (fun vs H Q E h => by obtain ⟨i, x, rfl, _⟩ := h; rfl) fun cdv A outer s H vs Q E hr h => by
    obtain ⟨i, x, rfl, hw, k⟩ := h
    refine ⟨_, (pss_one (ps_ret (pe_op op_and (pv 1) (pe_op op_sub (pe_op op_shl pe_int (pv 0)) pe_int)))), ?_⟩
    refine ⟨_, rfl, _, rfl, _, _, rfl, rfl, ⟨by omega, by have := hw.2; omega, by decide⟩, _, _, rfl, rfl, _, _, rfl, rfl, ?_⟩
    have e : Builtin.bitAnd x (1 * 2 ^ (i : Int).toNat - 1) = x % B i := by
      rw [Int.one_mul, Int.toNat_natCast]
      exact mask_mod x i
    show Q (.int (Builtin.bitAnd x (1 * 2 ^ (i : Int).toNat - 1))) H
    rw [e]
    exact k
theorem ok_sum_of (T : Tx K mg) (k_need_width : C8.Cal P w K mg base 2 "need_width" spWidth []) (k_cut : C8.Cal P w K mg base 1 "cut" spCut []) : C8.Cal P w K mg base 3 "sum_of" (spCarry .sum) [] :=
  cal_mk T.f_sum_of T.g_sum_of S_sum_of B_sum_of (fun vs H Q E h => by obtain ⟨i, a, b, rfl, _⟩ := h; rfl) fun cdv A outer s H vs Q E hr h => by
    obtain ⟨i, a, b, rfl, hw, k⟩ := h
    refine ⟨_, (pss_cons (ps_expr (C8.pe_c (k_need_width) hr (by omega) rfl (pa_cons (pv 0) pa_nil))) (pss_one (ps_ret (pe_tup (pa_cons (C8.pe_c (k_cut) hr (by omega) rfl (pa_cons (pv 0) (pa_cons (pe_op op_add (pv 1) (pv 2)) pa_nil))) (pa_cons (pe_op op_shr (pe_op op_add (pv 1) (pv 2)) (pv 0)) pa_nil)))))), ?_⟩
    refine ⟨_, rfl, _, rfl, hw, ?_⟩
    refine ⟨_, rfl, _, rfl, _, rfl, _, _, rfl, rfl, _, _, rfl, hw, ?_⟩
    refine ⟨_, rfl, _, rfl, _, _, rfl, rfl, _, rfl, _, _, rfl, rfl, by omega, ?_⟩
    exact ⟨by show 2 ≤ sizeLine; decide, fun t ht => k t ht⟩
theorem ok_gap_of (T : Tx K mg) (k_need_width : C8.Cal P w K mg base 2 "need_width" spWidth []) (k_cut : C8.Cal P w K mg base 1 "cut" spCut []) : C8.Cal P w K mg base 3 "gap_of" (spCarry .gap) [] :=
  cal_mk T.f_gap_of T.g_gap_of S_gap_of B_gap_of (fun vs H Q E h => by obtain ⟨i, a, b, rfl, _⟩ := h; rfl) fun cdv A outer s H vs Q E hr h => by
    obtain ⟨i, a, b, rfl, hw, k⟩ := h
    refine ⟨_, (pss_cons (ps_expr (C8.pe_c (k_need_width) hr (by omega) rfl (pa_cons (pv 0) pa_nil))) (pss_one (ps_ret (pe_tup (pa_cons (C8.pe_c (k_cut) hr (by omega) rfl (pa_cons (pv 0) (pa_cons (pe_op op_sub (pv 1) (pv 2)) pa_nil))) (pa_cons (pe_callTy (T := "int") call_int1 (by rfl) T.z_int (by decide +kernel) (pa_cons (pe_cmpR op_lt (pv 1) (pv 2) (nomark _)) pa_nil)) pa_nil)))))), ?_⟩
    refine ⟨_, rfl, _, rfl, hw, ?_⟩
    refine ⟨_, rfl, _, rfl, _, rfl, _, _, rfl, rfl, _, _, rfl, hw, ?_⟩
    refine ⟨_, rfl, _, rfl, _, _, rfl, rfl, .inr ⟨_, rfl, ?_⟩⟩
    refine ⟨by show 2 ≤ sizeLine; decide, fun t ht => ?_⟩
    have e : (if decide (a < b) = true then (1 : Int) else 0) = if a < b then 1 else 0 := by by_cases h : a < b <;> simp [h]
    show Q (.ref t) (upd H t (.tup [.int ((a - b) % B i), .int (if decide (a < b) = true then (1 : Int) else 0)]))
    rw [e]
    exact k t ht
theorem ok_low_product (T : Tx K mg) (k_need_width : C8.Cal P w K mg base 2 "need_width" spWidth []) (k_cut : C8.Cal P w K mg base 1 "cut" spCut []) : C8.Cal P w K mg base 3 "low_product" (spPair .low) [] :=
  cal_mk T.f_low_product T.g_low_product S_low_product B_low_product (fun vs H Q E h => by obtain ⟨i, a, b, rfl, _⟩ := h; rfl) fun cdv A outer s H vs Q E hr h => by
    obtain ⟨i, a, b, rfl, hw, ha, k⟩ := h
    refine ⟨_, (pss_cons (ps_expr (C8.pe_c (k_need_width) hr (by omega) rfl (pa_cons (pv 0) pa_nil))) (pss_one (ps_ret (C8.pe_c (k_cut) hr (by omega) rfl (pa_cons (pv 0) (pa_cons (pe_op op_mul (pv 1) (pv 2)) pa_nil)))))), ?_⟩
    refine ⟨_, rfl, _, rfl, hw, ?_⟩
    exact ⟨_, rfl, _, rfl, _, rfl, _, _, rfl, rfl, .inl (ha.small hw), _, _, rfl, hw, k⟩
theorem ok_high_product (T : Tx K mg) (k_need_width : C8.Cal P w K mg base 2 "need_width" spWidth []) : C8.Cal P w K mg base 3 "high_product" (spPair .high) [] :=
  cal_mk T.f_high_product T.g_high_product S_high_product B_high_product (fun vs H Q E h => by obtain ⟨i, a, b, rfl, _⟩ := h; rfl) fun cdv A outer s H vs Q E hr h => by
    obtain ⟨i, a, b, rfl, hw, ha, k⟩ := h
    refine ⟨_, (pss_cons (ps_expr (C8.pe_c (k_need_width) hr (by omega) rfl (pa_cons (pv 0) pa_nil))) (pss_one (ps_ret (pe_op op_shr (pe_op op_mul (pv 1) (pv 2)) (pv 0))))), ?_⟩
    refine ⟨_, rfl, _, rfl, hw, ?_⟩
    exact ⟨_, rfl, _, rfl, _, _, rfl, rfl, .inl (ha.small hw), _, rfl, _, _, rfl, rfl, by omega, k⟩
theorem ok_left (T : Tx K mg) (k_need_width : C8.Cal P w K mg base 2 "need_width" spWidth []) (k_cut : C8.Cal P w K mg base 1 "cut" spCut []) : C8.Cal P w K mg base 3 "left" (spShift .left) [] :=
  cal_mk T.f_left T.g_left S_left B_left (fun vs H Q E h => by obtain ⟨i, a, b, rfl, _⟩ := h; rfl) fun cdv A outer s H vs Q E hr h => by
    obtain ⟨i, a, b, rfl, hw, ha, hb, hb2, k⟩ := h
    refine ⟨_, (pss_cons (ps_expr (C8.pe_c (k_need_width) hr (by omega) rfl (pa_cons (pv 0) pa_nil))) (pss_one (ps_ret (C8.pe_c (k_cut) hr (by omega) rfl (pa_cons (pv 0) (pa_cons (pe_op op_shl (pv 1) (pv 2)) pa_nil)))))), ?_⟩
    refine ⟨_, rfl, _, rfl, hw, ?_⟩
    exact ⟨_, rfl, _, rfl, _, rfl, _, _, rfl, rfl, ⟨hb, by have := hw.2; omega, by have := ha.small hw; have := ha.1; omega⟩, _, _, rfl, hw, k⟩
theorem ok_right (T : Tx K mg) (k_need_width : C8.Cal P w K mg base 2 "need_width" spWidth []) : C8.Cal P w K mg base 3 "right" (spShift .right) [] :=
  cal_mk T.f_right T.g_right S_right B_right (fun vs H Q E h => by obtain ⟨i, a, b, rfl, _⟩ := h; rfl) fun cdv A outer s H vs Q E hr h => by
    obtain ⟨i, a, b, rfl, hw, ha, hb, hb2, k⟩ := h
    refine ⟨_, (pss_cons (ps_expr (C8.pe_c (k_need_width) hr (by omega) rfl (pa_cons (pv 0) pa_nil))) (pss_one (ps_ret (pe_op op_shr (pv 1) (pv 2))))), ?_⟩
    refine ⟨_, rfl, _, rfl, hw, ?_⟩
    exact ⟨_, rfl, _, rfl, _, _, rfl, rfl, hb, k⟩
theorem ok_slide (T : Tx K mg) (k_need_width : C8.Cal P w K mg base 2 "need_width" spWidth []) (k_cut : C8.Cal P w K mg base 1 "cut" spCut []) : C8.Cal P w K mg base 3 "slide" (spShift .slide) [] :=
  cal_mk T.f_slide T.g_slide S_slide B_slide (fun vs H Q E h => by obtain ⟨i, a, b, rfl, _⟩ := h; rfl) fun cdv A outer s H vs Q E hr h => by
    obtain ⟨i, a, b, rfl, hw, ha, hb, hb2, k⟩ := h
    refine ⟨_, (pss_cons (ps_expr (C8.pe_c (k_need_width) hr (by omega) rfl (pa_cons (pv 0) pa_nil))) (pss_cons (ps_if (pt_cmpR op_eq (pe_op op_shr (pv 1) (pe_op op_sub (pv 0) pe_int)) pe_int (nomark _)) (pss_one (ps_set (i := 1) S_slide.nd rfl (Or.inl rfl) (pe_op op_sub (pv 1) (pe_op op_shl pe_int (pv 0))))) pss_nil) (pss_one (ps_ret (C8.pe_c (k_cut) hr (by omega) rfl (pa_cons (pv 0) (pa_cons (pe_op op_shr (pv 1) (pv 2)) pa_nil))))))), ?_⟩
    refine ⟨_, rfl, _, rfl, hw, ?_⟩
    refine ⟨_, rfl, _, rfl, _, _, rfl, rfl, _, _, rfl, rfl, by have := hw.1; omega, rfl, _, rfl, ?_⟩
    have e1 : (2 : Int) ^ ((i : Int) - 1).toNat = B (i - 1) := by unfold B; rw [show ((i : Int) - 1).toNat = i - 1 by omega]
    have e2 : (1 : Int) * 2 ^ (i : Int).toNat = B i := by rw [Int.one_mul, Int.toNat_natCast]; rfl
    by_cases h1 : a / B (i - 1) = 1
    · have d : decide (V.int (a / 2 ^ ((i : Int) - 1).toNat) = V.int 1) = true := decide_eq_true (by rw [e1, h1])
      rw [d]
      refine iteT ?_
      refine ⟨_, rfl, _, rfl, _, _, rfl, rfl, ⟨by omega, by have := hw.2; omega, by decide⟩, _, _, rfl, rfl, ?_⟩
      refine ⟨_, rfl, _, rfl, _, rfl, _, _, rfl, rfl, hb, _, _, rfl, hw, ?_⟩
      show Q (.int ((a - 1 * 2 ^ (i : Int).toNat) / 2 ^ b.toNat % B i)) H
      rw [e2]
      have k2 : Q (.int ((if a / B (i - 1) = 1 then a - B i else a) / 2 ^ b.toNat % B i)) H := k
      rw [if_pos h1] at k2
      exact k2
    · have d : decide (V.int (a / 2 ^ ((i : Int) - 1).toNat) = V.int 1) = false := decide_eq_false (by rw [e1]; intro z; exact h1 (V.int.inj z))
      rw [d]
      refine iteF ?_
      refine ⟨_, rfl, _, rfl, _, rfl, _, _, rfl, rfl, hb, _, _, rfl, hw, ?_⟩
      have k2 : Q (.int ((if a / B (i - 1) = 1 then a - B i else a) / 2 ^ b.toNat % B i)) H := k
      rw [if_neg h1] at k2
      exact k2
end
end K76
set_option Elab.async false
set_option linter.all false
set_option maxRecDepth 100000
set_option maxHeartbeats 4000000
namespace K76
open PySem PySem.Spec PyProof.Rows L2
open Evl (Ex)
/-! ## prices, registers -/
def spWithin : Sp := fun vs H Q _ => ∃ a lo hi : Int, vs = [.int a, .int lo, .int hi] ∧ lo ≤ a ∧ a ≤ hi ∧ Q (.bl true) H
def spIsReg : Sp := fun vs H Q _ => ∃ z : Str, vs = [.str z] ∧ isReg z = true ∧ ∀ H2, Ex H H2 → Q (.bl true) H2
def spRowWords : Sp := fun vs H Q _ => vs = [] ∧ ∀ t, H t = none → Q (.ref t) (upd H t (.lst (rowWords.map V.str)))
section
variable {P : Program} {w : World} {K : PySem.W.Frag} {mg : Str → Option Value} {base : Heap}
theorem ok_within (T : Tx K mg) (k_is_whole : C8.Cal P w K mg base 1 "is_whole" spWhole []) : C8.Cal P w K mg base 2 "within" spWithin [] :=
  cal_mk T.f_within T.g_within S_within B_within (fun vs H Q E h => by obtain ⟨a, lo, hi, rfl, _⟩ := h; rfl) fun cdv A outer s H vs Q E hr h => by
    obtain ⟨a, lo, hi, rfl, h1, h2, k⟩ := h
    refine ⟨_, (pss_one (ps_ret (pe_and (C8.pe_c (k_is_whole) hr (by omega) rfl (pa_cons (pv 0) pa_nil)) (pe_one (pe_chain op_le op_le (pv 1) (pv 0) (pv 2)))))), ?_⟩
    refine ⟨_, rfl, _, rfl, true, rfl, iteT ⟨_, rfl, _, rfl, _, _, rfl, rfl, _, rfl, ?_⟩⟩
    rw [decide_eq_true h1]
    refine iteT ⟨_, rfl, _, _, rfl, rfl, ?_⟩
    show Q (.bl (decide (a ≤ hi))) H
    rw [decide_eq_true h2]
    exact k
theorem words_at (T : Tx K mg) (H : Hp) : SqT K H (He.ga K "ROW_WORDS") (rowWords.map V.str) := by
  have h := (He.ba T.more).2
  have q := He.tupB_ok h H
  rw [List.map_map] at q
  exact q
theorem ok_row_words (T : Tx K mg) : C8.Cal P w K mg base 1 "row_words" spRowWords [] :=
  cal_mk T.f_row_words T.g_row_words S_row_words B_row_words (fun vs H Q E h => by obtain ⟨rfl, _⟩ := h; rfl) fun cdv A outer s H vs Q E hr h => by
    obtain ⟨rfl, k⟩ := h
    refine ⟨_, (pss_one (ps_ret (pe_callTy (T := "list") call_list_of (by rfl) T.z_list (by decide +kernel) (pa_cons (pe_glob (v := .ref (He.ga K "ROW_WORDS")) rfl T.g_ROW_WORDS rfl) pa_nil)))), ?_⟩
    exact ⟨_, _, rfl, .inr (words_at T H), fun l hl => k l hl⟩
theorem isReg_parts {z : Str} (h : isReg z = true) : 1 ≤ z.length ∧ z.length ≤ 8 ∧ (∃ c, z.cps.toList[0]? = some c ∧ c ∈ ("abcdefghijklmnopqrstuvwxyz" : Str).cps.toList) ∧ ∀ c ∈ z.cps.toList, c ∈ ("abcdefghijklmnopqrstuvwxyz0123456789" : Str).cps.toList := by
  unfold isReg at h
  simp only [Bool.and_eq_true, decide_eq_true_eq, List.all_eq_true] at h
  obtain ⟨⟨⟨h1, h2⟩, h3⟩, h4⟩ := h
  refine ⟨h1, h2, ?_, h4⟩
  cases e : z.cps.toList with
  | nil =>
    rw [e] at h3
    cases h3
  | cons c r =>
    rw [e] at h3
    exact ⟨c, rfl, of_decide_eq_true h3⟩
theorem letters_figures : (("abcdefghijklmnopqrstuvwxyz" : Str) ++ ("0123456789" : Str)) = ("abcdefghijklmnopqrstuvwxyz0123456789" : Str) := by decide +kernel
theorem ok_is_register (T : Tx K mg) : C8.Cal P w K mg base 1 "is_register" spIsReg [] :=
  cal_mk T.f_is_register T.g_is_register S_is_register B_is_register (fun vs H Q E h => by obtain ⟨z, rfl, _⟩ := h; rfl) fun cdv A outer s H vs Q E hr h => by
    obtain ⟨z, rfl, hz, k⟩ := h
    obtain ⟨h1, h2, ⟨c, h3, h4⟩, h5⟩ := isReg_parts hz
    refine ⟨_, (pss_cons (ps_if (PW.pt (pw_or (pt_not (pt_val (pe_callB (id := "isinstance") (isi_at (K := K) rfl) (by rfl) T.z_isinstance (by decide +kernel) (pa_cons (pv 0) (pa_cons (pe_bltn (v := .ty "str") (u := .type "str") (by rfl) T.z_str (by decide +kernel) rfl) pa_nil))))) (pw_or (pt_not (pt_chain op_le op_le pe_int (pe_callB (id := "len") call_len_str (by rfl) T.z_len (by decide +kernel) (pa_cons (pv 0) pa_nil)) (C8.pe_gc rfl (T.i_LONGEST_NAME)))) (pw_or1 (pt_cmpR op_notIn_sign (pe_ix ix_str (pv 0) pe_int (fun _ _ => rfl)) (C8.pe_gc rfl (T.t_LETTERS)) (by rfl)))))) (pss_one (ps_ret pe_bl)) pss_nil) (pss_one (ps_ret (pe_callB (id := "all") (cr_all rfl) (by rfl) T.z_all (by decide +kernel) (pa_cons (pe_lc (own := [("sign", 1)]) (g := gName 1) (tt := tYes) rfl S_is_register.nd (pi_str (pv 0)) (blkOk_by (N := ["thing", "sign"]) (sc := C8.fnScope s_is_register) (by decide +kernel)) (fun _ _ _ _ _ => pg_name (i := 1) S_is_register.nd rfl (Or.inl rfl)) (fun _ _ _ _ _ => pts_nil) (fun _ _ _ _ _ => (pe_cmpR op_in_sign (pv 1) (pe_op op_add_str (C8.pe_gc rfl (T.t_LETTERS)) (C8.pe_gc rfl (T.t_FIGURES))) (by rfl)))) pa_nil))))), ?_⟩
    refine ⟨_, rfl, _, _, _, _, true, rfl, .ty _, .base (.str _), kit_ty (by decide +kernel), true, rfl, iteF ?_⟩
    refine ⟨_, rfl, z, rfl, Nat.le_trans h2 (by decide), _, _, rfl, rfl, _, rfl, ?_⟩
    have e1 : decide ((1 : Int) ≤ (z.length : Int)) = true := decide_eq_true (by omega)
    have e2 : decide ((z.length : Int) ≤ (8 : Int)) = true := decide_eq_true (by omega)
    rw [e1]
    refine iteT ⟨_, _, rfl, rfl, _, rfl, ?_⟩
    rw [e2]
    refine iteF ?_
    refine ⟨_, rfl, z, 0, c, rfl, rfl, Nat.le_trans h2 (by decide), atI_nat (j := 0) h3, c, _, rfl, rfl, _, rfl, ?_⟩
    have e3 : (!decide (c ∈ ("abcdefghijklmnopqrstuvwxyz" : Str).cps.toList)) = false := by rw [decide_eq_true h4]; rfl
    rw [e3]
    refine iteF ?_
    refine ⟨_, rfl, _, rfl, fun D hD => lc_it walk_str (fun i H' => Ex H H' ∧ H' D = some (.lst ((List.replicate i true).map V.bl))) ⟨Ex.new hD, upd_same⟩ (fun _ _ _ _ => True.intro) ?_ ?_⟩
    · rintro i x H' _ hi ⟨e, hl⟩ ⟨rfl, c', hc, rfl⟩
      refine ⟨rfl, ?_⟩
      refine ⟨_, rfl, _, _, rfl, rfl, by show 26 + 10 ≤ sizeLine; decide, _, _, rfl, rfl, _, hl, by rw [List.length_map, List.length_replicate]; exact Nat.lt_of_lt_of_le hi (Nat.le_trans h2 (by decide)), Ex.mut e hD, ?_⟩
      have hm : c' ∈ z.cps.toList := by
        rw [Array.getElem?_eq_some_iff] at hc
        obtain ⟨q1, q2⟩ := hc
        rw [← q2]
        exact Array.mem_toList_iff.mpr (Array.getElem_mem q1)
      have d : decide (c' ∈ (("abcdefghijklmnopqrstuvwxyz" : Str) ++ ("0123456789" : Str)).cps.toList) = true := decide_eq_true (by rw [letters_figures]; exact h5 c' hm)
      rw [upd_same, d, List.replicate_succ', List.map_append]
      rfl
    · rintro H' ⟨e, hl⟩
      refine ⟨_, _, rfl, SqL.of hl, ?_⟩
      have d : (List.replicate z.cps.size true).all id = true := by simp
      rw [d]
      exact k _ e
end
end K76
set_option Elab.async false
set_option linter.all false
set_option maxRecDepth 100000
set_option maxHeartbeats 4000000
namespace K76
open PySem PySem.Spec PyProof.Rows L2
open Evl (Ex)
/-! ## classes: made, their words -/
def spI2 (C : Addr) (n1 n2 : Str) : Sp := fun vs H Q _ => ∃ (p dx : Addr) (v1 v2 : V), vs = [.ref p, v1, v2] ∧ H p = some (.ins C dx []) ∧ Q .non (upd H p (.ins C dx [(n1, v1), (n2, v2)]))
def spI3 (C : Addr) (n1 n2 n3 : Str) : Sp := fun vs H Q _ => ∃ (p dx : Addr) (v1 v2 v3 : V), vs = [.ref p, v1, v2, v3] ∧ H p = some (.ins C dx []) ∧ Q .non (upd H p (.ins C dx [(n1, v1), (n2, v2), (n3, v3)]))
def spI4 (C : Addr) (n1 n2 n3 n4 : Str) : Sp := fun vs H Q _ => ∃ (p dx : Addr) (v1 v2 v3 v4 : V), vs = [.ref p, v1, v2, v3, v4] ∧ H p = some (.ins C dx []) ∧ Q .non (upd H p (.ins C dx [(n1, v1), (n2, v2), (n3, v3), (n4, v4)]))
def spWord (k : Kd) : Sp := fun vs H Q _ => ∃ p : Addr, vs = [.ref p] ∧ Q (.str k.wd) H
section
variable {P : Program} {w : World} {K : PySem.W.Frag} {mg : Str → Option Value} {base : Heap}
theorem ok_Set_init {x : Str} (F : FnT K "__init__" "Set.__init__" s_Set_init (He.ma K (He.ga K x) "__init__")) (M : Mk K (He.ga K x) (He.ma K (He.ga K x) "__init__")) (hm : mg x = some (.ref (He.ga K x))) (c : Cls K (He.ga K x)) (n1 : NoAttr K (He.ga K x) "goal") (n2 : NoAttr K (He.ga K x) "bits") :
    C8.Mak P w K mg base 1 x (He.ga K x) (spI2 (He.ga K x) "goal" "bits") [] :=
  mak_mk F M hm S_Set_init B_Set_init (fun vs H Q E h => by obtain ⟨p, dx, v1, v2, rfl, _⟩ := h; rfl) fun cdv A outer s H vs Q E hr h => by
    obtain ⟨p, dx, v1, v2, rfl, hp, k⟩ := h
    refine ⟨_, (pss_cons (ps_fld (pv 0) (pv 1) rfl) (pss_one (ps_fld (pv 0) (pv 2) rfl))), ?_⟩
    refine ⟨_, rfl, _, rfl, p, _, dx, _, rfl, hp, c, n1, (by show 0 < 1000; decide), _, rfl, _, rfl, p, _, dx, _, rfl, upd_same, c, n2, (by show 1 < 1000; decide), ?_⟩
    show Q .non (upd (upd H p _) p _)
    rw [upd_upd]
    exact k
theorem ok_Set_init' (T : Tx K mg) : C8.Mak P w K mg base 1 "Set" (He.ga K "Set") (spI2 (He.ga K "Set") "goal" "bits") [] := ok_Set_init T.f_Set_init T.k_Set T.g_Set T.c_Set T.n_Set_goal T.n_Set_bits
theorem ok_Copy_init {x : Str} (F : FnT K "__init__" "Copy.__init__" s_Copy_init (He.ma K (He.ga K x) "__init__")) (M : Mk K (He.ga K x) (He.ma K (He.ga K x) "__init__")) (hm : mg x = some (.ref (He.ga K x))) (c : Cls K (He.ga K x)) (n1 : NoAttr K (He.ga K x) "goal") (n2 : NoAttr K (He.ga K x) "one") :
    C8.Mak P w K mg base 1 x (He.ga K x) (spI2 (He.ga K x) "goal" "one") [] :=
  mak_mk F M hm S_Copy_init B_Copy_init (fun vs H Q E h => by obtain ⟨p, dx, v1, v2, rfl, _⟩ := h; rfl) fun cdv A outer s H vs Q E hr h => by
    obtain ⟨p, dx, v1, v2, rfl, hp, k⟩ := h
    refine ⟨_, (pss_cons (ps_fld (pv 0) (pv 1) rfl) (pss_one (ps_fld (pv 0) (pv 2) rfl))), ?_⟩
    refine ⟨_, rfl, _, rfl, p, _, dx, _, rfl, hp, c, n1, (by show 0 < 1000; decide), _, rfl, _, rfl, p, _, dx, _, rfl, upd_same, c, n2, (by show 1 < 1000; decide), ?_⟩
    show Q .non (upd (upd H p _) p _)
    rw [upd_upd]
    exact k
theorem ok_Copy_init' (T : Tx K mg) : C8.Mak P w K mg base 1 "Copy" (He.ga K "Copy") (spI2 (He.ga K "Copy") "goal" "one") [] := ok_Copy_init T.f_Copy_init T.k_Copy T.g_Copy T.c_Copy T.n_Copy_goal T.n_Copy_one
theorem ok_Pair_init {x : Str} (F : FnT K "__init__" "Pair.__init__" s_Pair_init (He.ma K (He.ga K x) "__init__")) (M : Mk K (He.ga K x) (He.ma K (He.ga K x) "__init__")) (hm : mg x = some (.ref (He.ga K x))) (c : Cls K (He.ga K x)) (n1 : NoAttr K (He.ga K x) "goal") (n2 : NoAttr K (He.ga K x) "one") (n3 : NoAttr K (He.ga K x) "other") :
    C8.Mak P w K mg base 1 x (He.ga K x) (spI3 (He.ga K x) "goal" "one" "other") [] :=
  mak_mk F M hm S_Pair_init B_Pair_init (fun vs H Q E h => by obtain ⟨p, dx, v1, v2, v3, rfl, _⟩ := h; rfl) fun cdv A outer s H vs Q E hr h => by
    obtain ⟨p, dx, v1, v2, v3, rfl, hp, k⟩ := h
    refine ⟨_, (pss_cons (ps_fld (pv 0) (pv 1) rfl) (pss_cons (ps_fld (pv 0) (pv 2) rfl) (pss_one (ps_fld (pv 0) (pv 3) rfl)))), ?_⟩
    refine ⟨_, rfl, _, rfl, p, _, dx, _, rfl, hp, c, n1, (by show 0 < 1000; decide), _, rfl, _, rfl, p, _, dx, _, rfl, upd_same, c, n2, (by show 1 < 1000; decide), _, rfl, _, rfl, p, _, dx, _, rfl, upd_same, c, n3, (by show 2 < 1000; decide), ?_⟩
    show Q .non (upd (upd (upd H p _) p _) p _)
    rw [upd_upd, upd_upd]
    exact k
theorem ok_Low_init' (T : Tx K mg) : C8.Mak P w K mg base 1 "Low" (He.ga K "Low") (spI3 (He.ga K "Low") "goal" "one" "other") [] := ok_Pair_init T.f_Low_init T.k_Low T.g_Low T.c_Low T.n_Low_goal T.n_Low_one T.n_Low_other
theorem ok_High_init' (T : Tx K mg) : C8.Mak P w K mg base 1 "High" (He.ga K "High") (spI3 (He.ga K "High") "goal" "one" "other") [] := ok_Pair_init T.f_High_init T.k_High T.g_High T.c_High T.n_High_goal T.n_High_one T.n_High_other
theorem ok_Or_init' (T : Tx K mg) : C8.Mak P w K mg base 1 "Or" (He.ga K "Or") (spI3 (He.ga K "Or") "goal" "one" "other") [] := ok_Pair_init T.f_Or_init T.k_Or T.g_Or T.c_Or T.n_Or_goal T.n_Or_one T.n_Or_other
theorem ok_Unlike_init' (T : Tx K mg) : C8.Mak P w K mg base 1 "Unlike" (He.ga K "Unlike") (spI3 (He.ga K "Unlike") "goal" "one" "other") [] := ok_Pair_init T.f_Unlike_init T.k_Unlike T.g_Unlike T.c_Unlike T.n_Unlike_goal T.n_Unlike_one T.n_Unlike_other
theorem ok_Under_init' (T : Tx K mg) : C8.Mak P w K mg base 1 "Under" (He.ga K "Under") (spI3 (He.ga K "Under") "goal" "one" "other") [] := ok_Pair_init T.f_Under_init T.k_Under T.g_Under T.c_Under T.n_Under_goal T.n_Under_one T.n_Under_other
theorem ok_Carrying_init {x : Str} (F : FnT K "__init__" "Carrying.__init__" s_Carrying_init (He.ma K (He.ga K x) "__init__")) (M : Mk K (He.ga K x) (He.ma K (He.ga K x) "__init__")) (hm : mg x = some (.ref (He.ga K x))) (c : Cls K (He.ga K x)) (n1 : NoAttr K (He.ga K x) "goal") (n2 : NoAttr K (He.ga K x) "carry") (n3 : NoAttr K (He.ga K x) "one") (n4 : NoAttr K (He.ga K x) "other") :
    C8.Mak P w K mg base 1 x (He.ga K x) (spI4 (He.ga K x) "goal" "carry" "one" "other") [] :=
  mak_mk F M hm S_Carrying_init B_Carrying_init (fun vs H Q E h => by obtain ⟨p, dx, v1, v2, v3, v4, rfl, _⟩ := h; rfl) fun cdv A outer s H vs Q E hr h => by
    obtain ⟨p, dx, v1, v2, v3, v4, rfl, hp, k⟩ := h
    refine ⟨_, (pss_cons (ps_fld (pv 0) (pv 1) rfl) (pss_cons (ps_fld (pv 0) (pv 2) rfl) (pss_cons (ps_fld (pv 0) (pv 3) rfl) (pss_one (ps_fld (pv 0) (pv 4) rfl))))), ?_⟩
    refine ⟨_, rfl, _, rfl, p, _, dx, _, rfl, hp, c, n1, (by show 0 < 1000; decide), _, rfl, _, rfl, p, _, dx, _, rfl, upd_same, c, n2, (by show 1 < 1000; decide), _, rfl, _, rfl, p, _, dx, _, rfl, upd_same, c, n3, (by show 2 < 1000; decide), _, rfl, _, rfl, p, _, dx, _, rfl, upd_same, c, n4, (by show 3 < 1000; decide), ?_⟩
    show Q .non (upd (upd (upd (upd H p _) p _) p _) p _)
    rw [upd_upd, upd_upd, upd_upd]
    exact k
theorem ok_Sum_init' (T : Tx K mg) : C8.Mak P w K mg base 1 "Sum" (He.ga K "Sum") (spI4 (He.ga K "Sum") "goal" "carry" "one" "other") [] := ok_Carrying_init T.f_Sum_init T.k_Sum T.g_Sum T.c_Sum T.n_Sum_goal T.n_Sum_carry T.n_Sum_one T.n_Sum_other
theorem ok_Gap_init' (T : Tx K mg) : C8.Mak P w K mg base 1 "Gap" (He.ga K "Gap") (spI4 (He.ga K "Gap") "goal" "carry" "one" "other") [] := ok_Carrying_init T.f_Gap_init T.k_Gap T.g_Gap T.c_Gap T.n_Gap_goal T.n_Gap_carry T.n_Gap_one T.n_Gap_other
theorem ok_Shift_init {x : Str} (F : FnT K "__init__" "Shift.__init__" s_Shift_init (He.ma K (He.ga K x) "__init__")) (M : Mk K (He.ga K x) (He.ma K (He.ga K x) "__init__")) (hm : mg x = some (.ref (He.ga K x))) (c : Cls K (He.ga K x)) (n1 : NoAttr K (He.ga K x) "goal") (n2 : NoAttr K (He.ga K x) "one") (n3 : NoAttr K (He.ga K x) "k") :
    C8.Mak P w K mg base 1 x (He.ga K x) (spI3 (He.ga K x) "goal" "one" "k") [] :=
  mak_mk F M hm S_Shift_init B_Shift_init (fun vs H Q E h => by obtain ⟨p, dx, v1, v2, v3, rfl, _⟩ := h; rfl) fun cdv A outer s H vs Q E hr h => by
    obtain ⟨p, dx, v1, v2, v3, rfl, hp, k⟩ := h
    refine ⟨_, (pss_cons (ps_fld (pv 0) (pv 1) rfl) (pss_cons (ps_fld (pv 0) (pv 2) rfl) (pss_one (ps_fld (pv 0) (pv 3) rfl)))), ?_⟩
    refine ⟨_, rfl, _, rfl, p, _, dx, _, rfl, hp, c, n1, (by show 0 < 1000; decide), _, rfl, _, rfl, p, _, dx, _, rfl, upd_same, c, n2, (by show 1 < 1000; decide), _, rfl, _, rfl, p, _, dx, _, rfl, upd_same, c, n3, (by show 2 < 1000; decide), ?_⟩
    show Q .non (upd (upd (upd H p _) p _) p _)
    rw [upd_upd, upd_upd]
    exact k
theorem ok_Left_init' (T : Tx K mg) : C8.Mak P w K mg base 1 "Left" (He.ga K "Left") (spI3 (He.ga K "Left") "goal" "one" "k") [] := ok_Shift_init T.f_Left_init T.k_Left T.g_Left T.c_Left T.n_Left_goal T.n_Left_one T.n_Left_k
theorem ok_Right_init' (T : Tx K mg) : C8.Mak P w K mg base 1 "Right" (He.ga K "Right") (spI3 (He.ga K "Right") "goal" "one" "k") [] := ok_Shift_init T.f_Right_init T.k_Right T.g_Right T.c_Right T.n_Right_goal T.n_Right_one T.n_Right_k
theorem ok_Slide_init' (T : Tx K mg) : C8.Mak P w K mg base 1 "Slide" (He.ga K "Slide") (spI3 (He.ga K "Slide") "goal" "one" "k") [] := ok_Shift_init T.f_Slide_init T.k_Slide T.g_Slide T.c_Slide T.n_Slide_goal T.n_Slide_one T.n_Slide_k
theorem ok_Pick_init {x : Str} (F : FnT K "__init__" "Pick.__init__" s_Pick_init (He.ma K (He.ga K x) "__init__")) (M : Mk K (He.ga K x) (He.ma K (He.ga K x) "__init__")) (hm : mg x = some (.ref (He.ga K x))) (c : Cls K (He.ga K x)) (n1 : NoAttr K (He.ga K x) "goal") (n2 : NoAttr K (He.ga K x) "by") (n3 : NoAttr K (He.ga K x) "one") (n4 : NoAttr K (He.ga K x) "other") :
    C8.Mak P w K mg base 1 x (He.ga K x) (spI4 (He.ga K x) "goal" "by" "one" "other") [] :=
  mak_mk F M hm S_Pick_init B_Pick_init (fun vs H Q E h => by obtain ⟨p, dx, v1, v2, v3, v4, rfl, _⟩ := h; rfl) fun cdv A outer s H vs Q E hr h => by
    obtain ⟨p, dx, v1, v2, v3, v4, rfl, hp, k⟩ := h
    refine ⟨_, (pss_cons (ps_fld (pv 0) (pv 1) rfl) (pss_cons (ps_fld (pv 0) (pv 2) rfl) (pss_cons (ps_fld (pv 0) (pv 3) rfl) (pss_one (ps_fld (pv 0) (pv 4) rfl))))), ?_⟩
    refine ⟨_, rfl, _, rfl, p, _, dx, _, rfl, hp, c, n1, (by show 0 < 1000; decide), _, rfl, _, rfl, p, _, dx, _, rfl, upd_same, c, n2, (by show 1 < 1000; decide), _, rfl, _, rfl, p, _, dx, _, rfl, upd_same, c, n3, (by show 2 < 1000; decide), _, rfl, _, rfl, p, _, dx, _, rfl, upd_same, c, n4, (by show 3 < 1000; decide), ?_⟩
    show Q .non (upd (upd (upd (upd H p _) p _) p _) p _)
    rw [upd_upd, upd_upd, upd_upd]
    exact k
theorem ok_Pick_init' (T : Tx K mg) : C8.Mak P w K mg base 1 "Pick" (He.ga K "Pick") (spI4 (He.ga K "Pick") "goal" "by" "one" "other") [] := ok_Pick_init T.f_Pick_init T.k_Pick T.g_Pick T.c_Pick T.n_Pick_goal T.n_Pick_by T.n_Pick_one T.n_Pick_other
theorem ok_Mark_init {x : Str} (F : FnT K "__init__" "Mark.__init__" s_Mark_init (He.ma K (He.ga K x) "__init__")) (M : Mk K (He.ga K x) (He.ma K (He.ga K x) "__init__")) (hm : mg x = some (.ref (He.ga K x))) (c : Cls K (He.ga K x)) (n1 : NoAttr K (He.ga K x) "line") (n2 : NoAttr K (He.ga K x) "mark") (n3 : NoAttr K (He.ga K x) "by") :
    C8.Mak P w K mg base 1 x (He.ga K x) (spI3 (He.ga K x) "line" "mark" "by") [] :=
  mak_mk F M hm S_Mark_init B_Mark_init (fun vs H Q E h => by obtain ⟨p, dx, v1, v2, v3, rfl, _⟩ := h; rfl) fun cdv A outer s H vs Q E hr h => by
    obtain ⟨p, dx, v1, v2, v3, rfl, hp, k⟩ := h
    refine ⟨_, (pss_cons (ps_fld (pv 0) (pv 1) rfl) (pss_cons (ps_fld (pv 0) (pv 2) rfl) (pss_one (ps_fld (pv 0) (pv 3) rfl)))), ?_⟩
    refine ⟨_, rfl, _, rfl, p, _, dx, _, rfl, hp, c, n1, (by show 0 < 1000; decide), _, rfl, _, rfl, p, _, dx, _, rfl, upd_same, c, n2, (by show 1 < 1000; decide), _, rfl, _, rfl, p, _, dx, _, rfl, upd_same, c, n3, (by show 2 < 1000; decide), ?_⟩
    show Q .non (upd (upd (upd H p _) p _) p _)
    rw [upd_upd, upd_upd]
    exact k
theorem ok_Mark_init' (T : Tx K mg) : C8.Mak P w K mg base 1 "Mark" (He.ga K "Mark") (spI3 (He.ga K "Mark") "line" "mark" "by") [] := ok_Mark_init T.f_Mark_init T.k_Mark T.g_Mark T.c_Mark T.n_Mark_line T.n_Mark_mark T.n_Mark_by
theorem ok_Set_word (T : Tx K mg) : C8.Met P w K mg base 1 (kC K (.set)) "word" (spWord (.set)) [] :=
  met_mk (C := kC K (.set)) T.f_Set_word T.c_Set T.m_Set_word S_Set_word B_Set_word (fun vs H Q E h => by obtain ⟨p, rfl, _⟩ := h; rfl) fun cdv A outer s H vs Q E hr h => by
    obtain ⟨p, rfl, k⟩ := h
    exact ⟨_, (pss_one (ps_ret pe_str)), k⟩
theorem ok_Copy_word (T : Tx K mg) : C8.Met P w K mg base 1 (kC K (.copy)) "word" (spWord (.copy)) [] :=
  met_mk (C := kC K (.copy)) T.f_Copy_word T.c_Copy T.m_Copy_word S_Copy_word B_Copy_word (fun vs H Q E h => by obtain ⟨p, rfl, _⟩ := h; rfl) fun cdv A outer s H vs Q E hr h => by
    obtain ⟨p, rfl, k⟩ := h
    exact ⟨_, (pss_one (ps_ret pe_str)), k⟩
theorem ok_Low_word (T : Tx K mg) : C8.Met P w K mg base 1 (kC K (.pair .low)) "word" (spWord (.pair .low)) [] :=
  met_mk (C := kC K (.pair .low)) T.f_Low_word T.c_Low T.m_Low_word S_Low_word B_Low_word (fun vs H Q E h => by obtain ⟨p, rfl, _⟩ := h; rfl) fun cdv A outer s H vs Q E hr h => by
    obtain ⟨p, rfl, k⟩ := h
    exact ⟨_, (pss_one (ps_ret pe_str)), k⟩
theorem ok_High_word (T : Tx K mg) : C8.Met P w K mg base 1 (kC K (.pair .high)) "word" (spWord (.pair .high)) [] :=
  met_mk (C := kC K (.pair .high)) T.f_High_word T.c_High T.m_High_word S_High_word B_High_word (fun vs H Q E h => by obtain ⟨p, rfl, _⟩ := h; rfl) fun cdv A outer s H vs Q E hr h => by
    obtain ⟨p, rfl, k⟩ := h
    exact ⟨_, (pss_one (ps_ret pe_str)), k⟩
theorem ok_Or_word (T : Tx K mg) : C8.Met P w K mg base 1 (kC K (.pair .or)) "word" (spWord (.pair .or)) [] :=
  met_mk (C := kC K (.pair .or)) T.f_Or_word T.c_Or T.m_Or_word S_Or_word B_Or_word (fun vs H Q E h => by obtain ⟨p, rfl, _⟩ := h; rfl) fun cdv A outer s H vs Q E hr h => by
    obtain ⟨p, rfl, k⟩ := h
    exact ⟨_, (pss_one (ps_ret pe_str)), k⟩
theorem ok_Unlike_word (T : Tx K mg) : C8.Met P w K mg base 1 (kC K (.pair .unlike)) "word" (spWord (.pair .unlike)) [] :=
  met_mk (C := kC K (.pair .unlike)) T.f_Unlike_word T.c_Unlike T.m_Unlike_word S_Unlike_word B_Unlike_word (fun vs H Q E h => by obtain ⟨p, rfl, _⟩ := h; rfl) fun cdv A outer s H vs Q E hr h => by
    obtain ⟨p, rfl, k⟩ := h
    exact ⟨_, (pss_one (ps_ret pe_str)), k⟩
theorem ok_Under_word (T : Tx K mg) : C8.Met P w K mg base 1 (kC K (.pair .under)) "word" (spWord (.pair .under)) [] :=
  met_mk (C := kC K (.pair .under)) T.f_Under_word T.c_Under T.m_Under_word S_Under_word B_Under_word (fun vs H Q E h => by obtain ⟨p, rfl, _⟩ := h; rfl) fun cdv A outer s H vs Q E hr h => by
    obtain ⟨p, rfl, k⟩ := h
    exact ⟨_, (pss_one (ps_ret pe_str)), k⟩
theorem ok_Sum_word (T : Tx K mg) : C8.Met P w K mg base 1 (kC K (.carry .sum)) "word" (spWord (.carry .sum)) [] :=
  met_mk (C := kC K (.carry .sum)) T.f_Sum_word T.c_Sum T.m_Sum_word S_Sum_word B_Sum_word (fun vs H Q E h => by obtain ⟨p, rfl, _⟩ := h; rfl) fun cdv A outer s H vs Q E hr h => by
    obtain ⟨p, rfl, k⟩ := h
    exact ⟨_, (pss_one (ps_ret pe_str)), k⟩
theorem ok_Gap_word (T : Tx K mg) : C8.Met P w K mg base 1 (kC K (.carry .gap)) "word" (spWord (.carry .gap)) [] :=
  met_mk (C := kC K (.carry .gap)) T.f_Gap_word T.c_Gap T.m_Gap_word S_Gap_word B_Gap_word (fun vs H Q E h => by obtain ⟨p, rfl, _⟩ := h; rfl) fun cdv A outer s H vs Q E hr h => by
    obtain ⟨p, rfl, k⟩ := h
    exact ⟨_, (pss_one (ps_ret pe_str)), k⟩
theorem ok_Left_word (T : Tx K mg) : C8.Met P w K mg base 1 (kC K (.shift .left)) "word" (spWord (.shift .left)) [] :=
  met_mk (C := kC K (.shift .left)) T.f_Left_word T.c_Left T.m_Left_word S_Left_word B_Left_word (fun vs H Q E h => by obtain ⟨p, rfl, _⟩ := h; rfl) fun cdv A outer s H vs Q E hr h => by
    obtain ⟨p, rfl, k⟩ := h
    exact ⟨_, (pss_one (ps_ret pe_str)), k⟩
theorem ok_Right_word (T : Tx K mg) : C8.Met P w K mg base 1 (kC K (.shift .right)) "word" (spWord (.shift .right)) [] :=
  met_mk (C := kC K (.shift .right)) T.f_Right_word T.c_Right T.m_Right_word S_Right_word B_Right_word (fun vs H Q E h => by obtain ⟨p, rfl, _⟩ := h; rfl) fun cdv A outer s H vs Q E hr h => by
    obtain ⟨p, rfl, k⟩ := h
    exact ⟨_, (pss_one (ps_ret pe_str)), k⟩
theorem ok_Slide_word (T : Tx K mg) : C8.Met P w K mg base 1 (kC K (.shift .slide)) "word" (spWord (.shift .slide)) [] :=
  met_mk (C := kC K (.shift .slide)) T.f_Slide_word T.c_Slide T.m_Slide_word S_Slide_word B_Slide_word (fun vs H Q E h => by obtain ⟨p, rfl, _⟩ := h; rfl) fun cdv A outer s H vs Q E hr h => by
    obtain ⟨p, rfl, k⟩ := h
    exact ⟨_, (pss_one (ps_ret pe_str)), k⟩
theorem ok_Pick_word (T : Tx K mg) : C8.Met P w K mg base 1 (kC K (.pick)) "word" (spWord (.pick)) [] :=
  met_mk (C := kC K (.pick)) T.f_Pick_word T.c_Pick T.m_Pick_word S_Pick_word B_Pick_word (fun vs H Q E h => by obtain ⟨p, rfl, _⟩ := h; rfl) fun cdv A outer s H vs Q E hr h => by
    obtain ⟨p, rfl, k⟩ := h
    exact ⟨_, (pss_one (ps_ret pe_str)), k⟩
theorem ok_Mark_word (T : Tx K mg) : C8.Met P w K mg base 1 (kC K (.mark)) "word" (spWord (.mark)) [] :=
  met_mk (C := kC K (.mark)) T.f_Mark_word T.c_Mark T.m_Mark_word S_Mark_word B_Mark_word (fun vs H Q E h => by obtain ⟨p, rfl, _⟩ := h; rfl) fun cdv A outer s H vs Q E hr h => by
    obtain ⟨p, rfl, k⟩ := h
    exact ⟨_, (pss_one (ps_ret pe_str)), k⟩

end
end K76
set_option Elab.async false
set_option linter.all false
set_option maxRecDepth 100000
set_option maxHeartbeats 4000000
namespace K76
open PySem PySem.Spec PyProof.Rows L2
open Evl (Ex)
/-! ## what rows reckon, what they tell -/
def spWorth (k : PK) : Sp := fun vs H Q _ => ∃ (p : Addr) (w : Nat) (a b : Int), vs = [.ref p, .int w, .int a, .int b] ∧ okw w ∧ wd w a ∧ wd w b ∧ Q (.int (pairV w k a b)) H
def spBoth (k : CK) : Sp := fun vs H Q _ => ∃ (p : Addr) (w : Nat) (a b : Int), vs = [.ref p, .int w, .int a, .int b] ∧ okw w ∧ ∀ t, H t = none → Q (.ref t) (upd H t (.tup [.int (carryV w k a b).1, .int (carryV w k a b).2]))
def spMoved (K : PySem.W.Frag) (k : SK) : Sp := fun vs H Q _ => ∃ (p : Addr) (w : Nat) (a : Int) (dx : Addr) (g o : Str) (n : Int), vs = [.ref p, .int w, .int a] ∧ H p = some (.ins (kC K (.shift k)) dx (Rw.flds (.shift k g o n))) ∧ okw w ∧ wd w a ∧ 0 ≤ n ∧ n < w ∧ Q (.int (shiftV w k a n)) H
def toldV (r : Rw) : List V := .str r.kd.wd :: r.flds.map Prod.snd
def spTold (K : PySem.W.Frag) (k : Kd) : Sp := fun vs H Q _ => ∃ (p : Addr) (r : Rw), vs = [.ref p] ∧ RowAt K H p r ∧ r.kd = k ∧ ∀ t, H t = none → Q (.ref t) (upd H t (.tup (toldV r)))
section
variable {P : Program} {w : World} {K : PySem.W.Frag} {mg : Str → Option Value} {base : Heap}
theorem ok_Low_worth (T : Tx K mg) (k_low_product : C8.Cal P w K mg base 3 "low_product" (spPair .low) []) : C8.Met P w K mg base 4 (kC K (.pair .low)) "worth" (spWorth .low) [] :=
  met_mk (C := kC K (.pair .low)) T.f_Low_worth T.c_Low T.m_Low_worth S_Low_worth B_Low_worth (fun vs H Q E h => by obtain ⟨p, i, a, b, rfl, _⟩ := h; rfl) fun cdv A outer s H vs Q E hr h => by
    obtain ⟨p, i, a, b, rfl, hw, ha, hb, k⟩ := h
    refine ⟨_, (pss_one (ps_ret (C8.pe_c (k_low_product) hr (by decide) rfl (pa_cons (pv 1) (pa_cons (pv 2) (pa_cons (pv 3) pa_nil)))))), ?_⟩
    exact ⟨_, rfl, _, rfl, _, rfl, i, a, b, rfl, hw, ha, k⟩
theorem ok_High_worth (T : Tx K mg) (k_high_product : C8.Cal P w K mg base 3 "high_product" (spPair .high) []) : C8.Met P w K mg base 4 (kC K (.pair .high)) "worth" (spWorth .high) [] :=
  met_mk (C := kC K (.pair .high)) T.f_High_worth T.c_High T.m_High_worth S_High_worth B_High_worth (fun vs H Q E h => by obtain ⟨p, i, a, b, rfl, _⟩ := h; rfl) fun cdv A outer s H vs Q E hr h => by
    obtain ⟨p, i, a, b, rfl, hw, ha, hb, k⟩ := h
    refine ⟨_, (pss_one (ps_ret (C8.pe_c (k_high_product) hr (by decide) rfl (pa_cons (pv 1) (pa_cons (pv 2) (pa_cons (pv 3) pa_nil)))))), ?_⟩
    exact ⟨_, rfl, _, rfl, _, rfl, i, a, b, rfl, hw, ha, k⟩
theorem ok_Or_worth (T : Tx K mg) : C8.Met P w K mg base 4 (kC K (.pair .or)) "worth" (spWorth .or) [] :=
  met_mk (C := kC K (.pair .or)) T.f_Or_worth T.c_Or T.m_Or_worth S_Or_worth B_Or_worth (fun vs H Q E h => by obtain ⟨p, i, a, b, rfl, _⟩ := h; rfl) fun cdv A outer s H vs Q E hr h => by
    obtain ⟨p, i, a, b, rfl, hw, ha, hb, k⟩ := h
    refine ⟨_, (pss_one (ps_ret (pe_op op_or (pv 2) (pv 3)))), ?_⟩
    exact ⟨_, rfl, _, rfl, _, _, rfl, rfl, k⟩
theorem ok_Unlike_worth (T : Tx K mg) : C8.Met P w K mg base 4 (kC K (.pair .unlike)) "worth" (spWorth .unlike) [] :=
  met_mk (C := kC K (.pair .unlike)) T.f_Unlike_worth T.c_Unlike T.m_Unlike_worth S_Unlike_worth B_Unlike_worth (fun vs H Q E h => by obtain ⟨p, i, a, b, rfl, _⟩ := h; rfl) fun cdv A outer s H vs Q E hr h => by
    obtain ⟨p, i, a, b, rfl, hw, ha, hb, k⟩ := h
    refine ⟨_, (pss_one (ps_ret (pe_op op_xor (pv 2) (pv 3)))), ?_⟩
    exact ⟨_, rfl, _, rfl, _, _, rfl, rfl, k⟩
theorem ok_Under_worth (T : Tx K mg) : C8.Met P w K mg base 4 (kC K (.pair .under)) "worth" (spWorth .under) [] :=
  met_mk (C := kC K (.pair .under)) T.f_Under_worth T.c_Under T.m_Under_worth S_Under_worth B_Under_worth (fun vs H Q E h => by obtain ⟨p, i, a, b, rfl, _⟩ := h; rfl) fun cdv A outer s H vs Q E hr h => by
    obtain ⟨p, i, a, b, rfl, hw, ha, hb, k⟩ := h
    refine ⟨_, (pss_one (ps_ret (pe_callTy call_int1 (by rfl) T.z_int (by decide +kernel) (pa_cons (pe_cmpR op_lt (pv 2) (pv 3) (nomark _)) pa_nil)))), ?_⟩
    refine ⟨_, rfl, _, rfl, _, _, rfl, rfl, .inr ⟨_, rfl, ?_⟩⟩
    have e : (if decide (a < b) = true then (1 : Int) else 0) = if a < b then 1 else 0 := by by_cases h : a < b <;> simp [h]
    show Q (.int (if decide (a < b) = true then (1 : Int) else 0)) H
    rw [e]
    exact k
theorem ok_Sum_both (T : Tx K mg) (k_sum_of : C8.Cal P w K mg base 3 "sum_of" (spCarry .sum) []) : C8.Met P w K mg base 4 (kC K (.carry .sum)) "both" (spBoth .sum) [] :=
  met_mk (C := kC K (.carry .sum)) T.f_Sum_both T.c_Sum T.m_Sum_both S_Sum_both B_Sum_both (fun vs H Q E h => by obtain ⟨p, i, a, b, rfl, _⟩ := h; rfl) fun cdv A outer s H vs Q E hr h => by
    obtain ⟨p, i, a, b, rfl, hw, k⟩ := h
    refine ⟨_, (pss_one (ps_ret (C8.pe_c (k_sum_of) hr (by decide) rfl (pa_cons (pv 1) (pa_cons (pv 2) (pa_cons (pv 3) pa_nil)))))), ?_⟩
    exact ⟨_, rfl, _, rfl, _, rfl, i, a, b, rfl, hw, k⟩
theorem ok_Gap_both (T : Tx K mg) (k_gap_of : C8.Cal P w K mg base 3 "gap_of" (spCarry .gap) []) : C8.Met P w K mg base 4 (kC K (.carry .gap)) "both" (spBoth .gap) [] :=
  met_mk (C := kC K (.carry .gap)) T.f_Gap_both T.c_Gap T.m_Gap_both S_Gap_both B_Gap_both (fun vs H Q E h => by obtain ⟨p, i, a, b, rfl, _⟩ := h; rfl) fun cdv A outer s H vs Q E hr h => by
    obtain ⟨p, i, a, b, rfl, hw, k⟩ := h
    refine ⟨_, (pss_one (ps_ret (C8.pe_c (k_gap_of) hr (by decide) rfl (pa_cons (pv 1) (pa_cons (pv 2) (pa_cons (pv 3) pa_nil)))))), ?_⟩
    exact ⟨_, rfl, _, rfl, _, rfl, i, a, b, rfl, hw, k⟩
theorem ok_Left_moved (T : Tx K mg) (k_left : C8.Cal P w K mg base 3 "left" (spShift .left) []) : C8.Met P w K mg base 4 (kC K (.shift .left)) "moved" (spMoved K .left) [] :=
  met_mk (C := kC K (.shift .left)) T.f_Left_moved T.c_Left T.m_Left_moved S_Left_moved B_Left_moved (fun vs H Q E h => by obtain ⟨p, i, a, dx, g, o, n, rfl, _⟩ := h; rfl) fun cdv A outer s H vs Q E hr h => by
    obtain ⟨p, i, a, dx, g, o, n, rfl, hp, hw, ha, hn, hn2, k⟩ := h
    refine ⟨_, (pss_one (ps_ret (C8.pe_c (k_left) hr (by decide) rfl (pa_cons (pv 1) (pa_cons (pv 2) (pa_cons (pe_fld (pv 0) rfl) pa_nil)))))), ?_⟩
    exact ⟨_, rfl, _, rfl, _, rfl, p, _, dx, _, _, rfl, hp, T.c_Left, T.n_Left_k, rfl, i, a, n, rfl, hw, ha, hn, hn2, k⟩
theorem ok_Right_moved (T : Tx K mg) (k_right : C8.Cal P w K mg base 3 "right" (spShift .right) []) : C8.Met P w K mg base 4 (kC K (.shift .right)) "moved" (spMoved K .right) [] :=
  met_mk (C := kC K (.shift .right)) T.f_Right_moved T.c_Right T.m_Right_moved S_Right_moved B_Right_moved (fun vs H Q E h => by obtain ⟨p, i, a, dx, g, o, n, rfl, _⟩ := h; rfl) fun cdv A outer s H vs Q E hr h => by
    obtain ⟨p, i, a, dx, g, o, n, rfl, hp, hw, ha, hn, hn2, k⟩ := h
    refine ⟨_, (pss_one (ps_ret (C8.pe_c (k_right) hr (by decide) rfl (pa_cons (pv 1) (pa_cons (pv 2) (pa_cons (pe_fld (pv 0) rfl) pa_nil)))))), ?_⟩
    exact ⟨_, rfl, _, rfl, _, rfl, p, _, dx, _, _, rfl, hp, T.c_Right, T.n_Right_k, rfl, i, a, n, rfl, hw, ha, hn, hn2, k⟩
theorem ok_Slide_moved (T : Tx K mg) (k_slide : C8.Cal P w K mg base 3 "slide" (spShift .slide) []) : C8.Met P w K mg base 4 (kC K (.shift .slide)) "moved" (spMoved K .slide) [] :=
  met_mk (C := kC K (.shift .slide)) T.f_Slide_moved T.c_Slide T.m_Slide_moved S_Slide_moved B_Slide_moved (fun vs H Q E h => by obtain ⟨p, i, a, dx, g, o, n, rfl, _⟩ := h; rfl) fun cdv A outer s H vs Q E hr h => by
    obtain ⟨p, i, a, dx, g, o, n, rfl, hp, hw, ha, hn, hn2, k⟩ := h
    refine ⟨_, (pss_one (ps_ret (C8.pe_c (k_slide) hr (by decide) rfl (pa_cons (pv 1) (pa_cons (pv 2) (pa_cons (pe_fld (pv 0) rfl) pa_nil)))))), ?_⟩
    exact ⟨_, rfl, _, rfl, _, rfl, p, _, dx, _, _, rfl, hp, T.c_Slide, T.n_Slide_k, rfl, i, a, n, rfl, hw, ha, hn, hn2, k⟩
theorem ok_Set_told (T : Tx K mg) : C8.Met P w K mg base 2 (kC K (.set)) "told" (spTold K (.set)) [] :=
  met_mk (C := kC K (.set)) T.f_Set_told T.c_Set T.m_Set_told S_Set_told B_Set_told (fun vs H Q E h => by obtain ⟨p, r, rfl, _⟩ := h; rfl) fun cdv A outer s H vs Q E hr h => by
    obtain ⟨p, r, rfl, ⟨dx, hp⟩, hk, k⟩ := h
    refine ⟨_, (pss_one (ps_ret (pe_tup (pa_cons pe_str (pa_cons (pe_fld (pv 0) rfl) (pa_cons (pe_fld (pv 0) rfl) pa_nil)))))), ?_⟩
    cases r <;> first | (exact Kd.noConfusion hk) | (exact ⟨_, rfl, p, _, dx, _, _, rfl, hp, T.c_Set, T.n_Set_goal, rfl, _, rfl, p, _, dx, _, _, rfl, hp, T.c_Set, T.n_Set_bits, rfl, by show 3 ≤ sizeLine; decide, fun t ht => k t ht⟩)
theorem ok_Copy_told (T : Tx K mg) : C8.Met P w K mg base 2 (kC K (.copy)) "told" (spTold K (.copy)) [] :=
  met_mk (C := kC K (.copy)) T.f_Copy_told T.c_Copy T.m_Copy_told S_Copy_told B_Copy_told (fun vs H Q E h => by obtain ⟨p, r, rfl, _⟩ := h; rfl) fun cdv A outer s H vs Q E hr h => by
    obtain ⟨p, r, rfl, ⟨dx, hp⟩, hk, k⟩ := h
    refine ⟨_, (pss_one (ps_ret (pe_tup (pa_cons pe_str (pa_cons (pe_fld (pv 0) rfl) (pa_cons (pe_fld (pv 0) rfl) pa_nil)))))), ?_⟩
    cases r <;> first | (exact Kd.noConfusion hk) | (exact ⟨_, rfl, p, _, dx, _, _, rfl, hp, T.c_Copy, T.n_Copy_goal, rfl, _, rfl, p, _, dx, _, _, rfl, hp, T.c_Copy, T.n_Copy_one, rfl, by show 3 ≤ sizeLine; decide, fun t ht => k t ht⟩)
theorem ok_Pair_told {j : PK} (F : FnT K "told" "Pair.told" s_Pair_told (He.ma K (kC K (.pair j)) "told")) (c : Cls K (kC K (.pair j))) (me : Meth K (kC K (.pair j)) "told" (He.ma K (kC K (.pair j)) "told")) (n_goal : NoAttr K (kC K (.pair j)) "goal") (n_one : NoAttr K (kC K (.pair j)) "one") (n_other : NoAttr K (kC K (.pair j)) "other") (k_self_word : C8.Met P w K mg base 1 (kC K (.pair j)) "word" (spWord (.pair j)) []) : C8.Met P w K mg base 2 (kC K (.pair j)) "told" (spTold K (.pair j)) [] :=
  met_mk F c me S_Pair_told B_Pair_told (fun vs H Q E h => by obtain ⟨p, r, rfl, _⟩ := h; rfl) fun cdv A outer s H vs Q E hr h => by
    obtain ⟨p, r, rfl, ⟨dx, hp⟩, hk, k⟩ := h
    refine ⟨_, (pss_one (ps_ret (pe_tup (pa_cons (C8.pe_mt0 (k_self_word) hr (by decide) (pv 0)) (pa_cons (pe_fld (pv 0) rfl) (pa_cons (pe_fld (pv 0) rfl) (pa_cons (pe_fld (pv 0) rfl) pa_nil))))))), ?_⟩
    cases r <;> first | (exact Kd.noConfusion hk) | skip
    obtain rfl := Kd.pair.inj hk
    exact ⟨_, rfl, p, dx, _, rfl, hp, rfl, p, rfl, _, rfl, p, _, dx, _, _, rfl, hp, c, n_goal, rfl, _, rfl, p, _, dx, _, _, rfl, hp, c, n_one, rfl, _, rfl, p, _, dx, _, _, rfl, hp, c, n_other, rfl, by show 4 ≤ sizeLine; decide, fun t ht => k t ht⟩
theorem ok_Carrying_told {j : CK} (F : FnT K "told" "Carrying.told" s_Carrying_told (He.ma K (kC K (.carry j)) "told")) (c : Cls K (kC K (.carry j))) (me : Meth K (kC K (.carry j)) "told" (He.ma K (kC K (.carry j)) "told")) (n_goal : NoAttr K (kC K (.carry j)) "goal") (n_carry : NoAttr K (kC K (.carry j)) "carry") (n_one : NoAttr K (kC K (.carry j)) "one") (n_other : NoAttr K (kC K (.carry j)) "other") (k_self_word : C8.Met P w K mg base 1 (kC K (.carry j)) "word" (spWord (.carry j)) []) : C8.Met P w K mg base 2 (kC K (.carry j)) "told" (spTold K (.carry j)) [] :=
  met_mk F c me S_Carrying_told B_Carrying_told (fun vs H Q E h => by obtain ⟨p, r, rfl, _⟩ := h; rfl) fun cdv A outer s H vs Q E hr h => by
    obtain ⟨p, r, rfl, ⟨dx, hp⟩, hk, k⟩ := h
    refine ⟨_, (pss_one (ps_ret (pe_tup (pa_cons (C8.pe_mt0 (k_self_word) hr (by decide) (pv 0)) (pa_cons (pe_fld (pv 0) rfl) (pa_cons (pe_fld (pv 0) rfl) (pa_cons (pe_fld (pv 0) rfl) (pa_cons (pe_fld (pv 0) rfl) pa_nil)))))))), ?_⟩
    cases r <;> first | (exact Kd.noConfusion hk) | skip
    obtain rfl := Kd.carry.inj hk
    exact ⟨_, rfl, p, dx, _, rfl, hp, rfl, p, rfl, _, rfl, p, _, dx, _, _, rfl, hp, c, n_goal, rfl, _, rfl, p, _, dx, _, _, rfl, hp, c, n_carry, rfl, _, rfl, p, _, dx, _, _, rfl, hp, c, n_one, rfl, _, rfl, p, _, dx, _, _, rfl, hp, c, n_other, rfl, by show 5 ≤ sizeLine; decide, fun t ht => k t ht⟩
theorem ok_Shift_told {j : SK} (F : FnT K "told" "Shift.told" s_Shift_told (He.ma K (kC K (.shift j)) "told")) (c : Cls K (kC K (.shift j))) (me : Meth K (kC K (.shift j)) "told" (He.ma K (kC K (.shift j)) "told")) (n_goal : NoAttr K (kC K (.shift j)) "goal") (n_one : NoAttr K (kC K (.shift j)) "one") (n_k : NoAttr K (kC K (.shift j)) "k") (k_self_word : C8.Met P w K mg base 1 (kC K (.shift j)) "word" (spWord (.shift j)) []) : C8.Met P w K mg base 2 (kC K (.shift j)) "told" (spTold K (.shift j)) [] :=
  met_mk F c me S_Shift_told B_Shift_told (fun vs H Q E h => by obtain ⟨p, r, rfl, _⟩ := h; rfl) fun cdv A outer s H vs Q E hr h => by
    obtain ⟨p, r, rfl, ⟨dx, hp⟩, hk, k⟩ := h
    refine ⟨_, (pss_one (ps_ret (pe_tup (pa_cons (C8.pe_mt0 (k_self_word) hr (by decide) (pv 0)) (pa_cons (pe_fld (pv 0) rfl) (pa_cons (pe_fld (pv 0) rfl) (pa_cons (pe_fld (pv 0) rfl) pa_nil))))))), ?_⟩
    cases r <;> first | (exact Kd.noConfusion hk) | skip
    obtain rfl := Kd.shift.inj hk
    exact ⟨_, rfl, p, dx, _, rfl, hp, rfl, p, rfl, _, rfl, p, _, dx, _, _, rfl, hp, c, n_goal, rfl, _, rfl, p, _, dx, _, _, rfl, hp, c, n_one, rfl, _, rfl, p, _, dx, _, _, rfl, hp, c, n_k, rfl, by show 4 ≤ sizeLine; decide, fun t ht => k t ht⟩
theorem ok_Pick_told (T : Tx K mg) : C8.Met P w K mg base 2 (kC K (.pick)) "told" (spTold K (.pick)) [] :=
  met_mk (C := kC K (.pick)) T.f_Pick_told T.c_Pick T.m_Pick_told S_Pick_told B_Pick_told (fun vs H Q E h => by obtain ⟨p, r, rfl, _⟩ := h; rfl) fun cdv A outer s H vs Q E hr h => by
    obtain ⟨p, r, rfl, ⟨dx, hp⟩, hk, k⟩ := h
    refine ⟨_, (pss_one (ps_ret (pe_tup (pa_cons pe_str (pa_cons (pe_fld (pv 0) rfl) (pa_cons (pe_fld (pv 0) rfl) (pa_cons (pe_fld (pv 0) rfl) (pa_cons (pe_fld (pv 0) rfl) pa_nil)))))))), ?_⟩
    cases r <;> first | (exact Kd.noConfusion hk) | (exact ⟨_, rfl, p, _, dx, _, _, rfl, hp, T.c_Pick, T.n_Pick_goal, rfl, _, rfl, p, _, dx, _, _, rfl, hp, T.c_Pick, T.n_Pick_by, rfl, _, rfl, p, _, dx, _, _, rfl, hp, T.c_Pick, T.n_Pick_one, rfl, _, rfl, p, _, dx, _, _, rfl, hp, T.c_Pick, T.n_Pick_other, rfl, by show 5 ≤ sizeLine; decide, fun t ht => k t ht⟩)
theorem ok_Mark_told (T : Tx K mg) : C8.Met P w K mg base 2 (kC K (.mark)) "told" (spTold K (.mark)) [] :=
  met_mk (C := kC K (.mark)) T.f_Mark_told T.c_Mark T.m_Mark_told S_Mark_told B_Mark_told (fun vs H Q E h => by obtain ⟨p, r, rfl, _⟩ := h; rfl) fun cdv A outer s H vs Q E hr h => by
    obtain ⟨p, r, rfl, ⟨dx, hp⟩, hk, k⟩ := h
    refine ⟨_, (pss_one (ps_ret (pe_tup (pa_cons pe_str (pa_cons (pe_fld (pv 0) rfl) (pa_cons (pe_fld (pv 0) rfl) (pa_cons (pe_fld (pv 0) rfl) pa_nil))))))), ?_⟩
    cases r <;> first | (exact Kd.noConfusion hk) | (exact ⟨_, rfl, p, _, dx, _, _, rfl, hp, T.c_Mark, T.n_Mark_line, rfl, _, rfl, p, _, dx, _, _, rfl, hp, T.c_Mark, T.n_Mark_mark, rfl, _, rfl, p, _, dx, _, _, rfl, hp, T.c_Mark, T.n_Mark_by, rfl, by show 4 ≤ sizeLine; decide, fun t ht => k t ht⟩)

end
end K76
set_option Elab.async false
set_option linter.all false
set_option maxRecDepth 100000
set_option maxHeartbeats 4000000
namespace K76
open PySem PySem.Spec PyProof.Rows L2
open Evl (Ex)
/-! ## good rows fit -/
def spTurnsI (C : Addr) : Sp := fun vs H Q _ => ∃ (p dx l : Addr) (v : V) (xs : List V), vs = [.ref p, v, .ref l] ∧ H p = some (.ins C dx []) ∧ H l = some (.lst xs) ∧
  ∀ l' H', H l' = none → H' p = some (.ins C dx [("times", v), ("steps", .ref l')]) → H' l' = some (.lst xs) → (∀ b o, H b = some o → b ≠ p → H' b = some o) → Q .non H'
def spFits (K : PySem.W.Frag) (k : Kd) : Sp := fun vs H Q _ => ∃ (p : Addr) (w : Nat) (it : It), vs = [.ref p, .int w] ∧ ItAt K H p it ∧ it.kd = k ∧ it.good w ∧ okw w ∧ ∀ H2, Ex H H2 → Q (.bl true) H2
theorem shlB (w : Nat) : (1 : Int) * 2 ^ ((w : Nat) : Int).toNat = B w := by rw [Int.one_mul, Int.toNat_natCast]; rfl
section
variable {P : Program} {w : World} {K : PySem.W.Frag} {mg : Str → Option Value} {base : Heap}
theorem ok_Turns_init (T : Tx K mg) : C8.Mak P w K mg base 1 "Turns" (He.ga K "Turns") (spTurnsI (He.ga K "Turns")) [] :=
  mak_mk T.f_Turns_init T.k_Turns T.g_Turns S_Turns_init B_Turns_init (fun vs H Q E h => by obtain ⟨p, dx, l, v, xs, rfl, _⟩ := h; rfl) fun cdv A outer s H vs Q E hr h => by
    obtain ⟨p, dx, l, v, xs, rfl, hp, hl, k⟩ := h
    refine ⟨_, (pss_cons (ps_fld (pv 0) (pv 1) rfl) (pss_cons (ps_fld (pv 0) (pv 2) rfl) (pss_one (ps_if (pt_val (pe_callB (id := "isinstance") (isi_at (K := K) rfl) (by rfl) T.z_isinstance (by decide +kernel) (pa_cons (pv 2) (pa_cons (pe_bltn (v := .ty "list") (u := .type "list") (by rfl) T.z_list (by decide +kernel) rfl) pa_nil)))) (pss_one (ps_fld (pv 0) (pe_callTy (T := "list") call_list_of (by rfl) T.z_list (by decide +kernel) (pa_cons (pv 2) pa_nil)) rfl)) pss_nil)))), ?_⟩
    have nlp : l ≠ p := ne_of hl hp (fun z => HO.noConfusion z)
    refine ⟨_, rfl, _, rfl, p, _, dx, _, rfl, hp, T.c_Turns, T.n_Turns_times, (by show 0 < 1000; decide), ?_⟩
    refine ⟨_, rfl, _, rfl, p, _, dx, _, rfl, upd_same, T.c_Turns, T.n_Turns_steps, (by show 1 < 1000; decide), ?_⟩
    have hl2 : (upd (upd H p (.ins (He.ga K "Turns") dx [("times", v)])) p (.ins (He.ga K "Turns") dx [("times", v), ("steps", .ref l)])) l = some (.lst xs) := by rw [upd_ne nlp, upd_ne nlp]; exact hl
    refine ⟨_, rfl, _, _, _, _, true, rfl, .ty _, .base (.lst hl2), kit_ty (by decide +kernel), true, rfl, iteT ?_⟩
    refine ⟨_, rfl, _, _, rfl, .inl (SqL.of hl2), fun l' hl' => ?_⟩
    have npl : p ≠ l' := fun z => by
      rw [← z] at hl'
      rw [upd_same] at hl'
      cases hl'
    have hl0 : H l' = none := by
      rw [upd_ne npl.symm, upd_ne npl.symm] at hl'
      exact hl'
    refine ⟨_, rfl, p, _, dx, _, rfl, by rw [upd_ne npl, upd_same], T.c_Turns, T.n_Turns_steps, (by show 2 < 1000; decide), ?_⟩
    refine k l' _ hl0 upd_same (by rw [upd_ne npl.symm, upd_same]) fun b o e hb => ?_
    rw [upd_ne hb, upd_ne (ne_of_none e hl0), upd_ne hb, upd_ne hb]
    exact e
theorem ok_Set_fits (T : Tx K mg) (k_is_register : C8.Cal P w K mg base 1 "is_register" spIsReg []) (k_within : C8.Cal P w K mg base 2 "within" spWithin []) : C8.Met P w K mg base 3 (kC K .set) "fits" (spFits K .set) [] :=
  met_mk (C := kC K .set) T.f_Set_fits T.c_Set T.m_Set_fits S_Set_fits B_Set_fits (fun vs H Q E h => by obtain ⟨p, i, it, rfl, _⟩ := h; rfl) fun cdv A outer s H vs Q E hr h => by
    obtain ⟨p, i, it, rfl, hp, hk, hg, hw, k⟩ := h
    refine ⟨_, (pss_one (ps_ret (pe_and (C8.pe_c (k_is_register) hr (by omega) rfl (pa_cons (pe_fld (pv 0) rfl) pa_nil)) (pe_one (C8.pe_c (k_within) hr (by omega) rfl (pa_cons (pe_fld (pv 0) rfl) (pa_cons pe_int (pa_cons (pe_op op_sub (pe_op op_shl pe_int (pv 1)) pe_int) pa_nil)))))))), ?_⟩
    cases it with
    | turns n rs => cases hk
    | row r =>
      cases r <;> first | (cases hk; done) | skip
      obtain ⟨dx, hp⟩ := hp
      obtain ⟨g1, g2, g3⟩ := hg
      refine ⟨_, rfl, p, _, dx, _, _, rfl, hp, T.c_Set, T.n_Set_goal, rfl, _, rfl, g1, fun H2 e2 => ⟨true, rfl, iteT ?_⟩⟩
      refine ⟨_, rfl, p, _, dx, _, _, rfl, e2 _ _ hp, T.c_Set, T.n_Set_bits, rfl, _, rfl, _, _, rfl, rfl, ⟨by omega, by have := hw.2; omega, by decide⟩, _, _, rfl, rfl, ?_⟩
      exact ⟨_, _, _, rfl, g2, by rw [shlB]; omega, k _ e2⟩
theorem ok_Copy_fits (T : Tx K mg) (k_is_register : C8.Cal P w K mg base 1 "is_register" spIsReg []) : C8.Met P w K mg base 3 (kC K .copy) "fits" (spFits K .copy) [] :=
  met_mk (C := kC K .copy) T.f_Copy_fits T.c_Copy T.m_Copy_fits S_Copy_fits B_Copy_fits (fun vs H Q E h => by obtain ⟨p, i, it, rfl, _⟩ := h; rfl) fun cdv A outer s H vs Q E hr h => by
    obtain ⟨p, i, it, rfl, hp, hk, hg, hw, k⟩ := h
    refine ⟨_, (pss_one (ps_ret (pe_and (C8.pe_c (k_is_register) hr (by omega) rfl (pa_cons (pe_fld (pv 0) rfl) pa_nil)) (pe_one (C8.pe_c (k_is_register) hr (by omega) rfl (pa_cons (pe_fld (pv 0) rfl) pa_nil)))))), ?_⟩
    cases it with
    | turns n rs => cases hk
    | row r =>
      cases r <;> first | (cases hk; done) | skip
      obtain ⟨dx, hp⟩ := hp
      obtain ⟨g1, g2⟩ := hg
      refine ⟨_, rfl, p, _, dx, _, _, rfl, hp, T.c_Copy, T.n_Copy_goal, rfl, _, rfl, g1, fun H2 e2 => ⟨true, rfl, iteT ?_⟩⟩
      exact ⟨_, rfl, p, _, dx, _, _, rfl, e2 _ _ hp, T.c_Copy, T.n_Copy_one, rfl, _, rfl, g2, fun H3 e3 => k _ (e2.trans e3)⟩
theorem ok_Pair_fits {j : PK} (F : FnT K "fits" "Pair.fits" s_Pair_fits (He.ma K (kC K (.pair j)) "fits")) (c : Cls K (kC K (.pair j))) (me : Meth K (kC K (.pair j)) "fits" (He.ma K (kC K (.pair j)) "fits")) (n1 : NoAttr K (kC K (.pair j)) "goal") (n2 : NoAttr K (kC K (.pair j)) "one") (n3 : NoAttr K (kC K (.pair j)) "other")
    (k_is_register : C8.Cal P w K mg base 1 "is_register" spIsReg []) : C8.Met P w K mg base 3 (kC K (.pair j)) "fits" (spFits K (.pair j)) [] :=
  met_mk F c me S_Pair_fits B_Pair_fits (fun vs H Q E h => by obtain ⟨p, i, it, rfl, _⟩ := h; rfl) fun cdv A outer s H vs Q E hr h => by
    obtain ⟨p, i, it, rfl, hp, hk, hg, hw, k⟩ := h
    refine ⟨_, (pss_one (ps_ret (pe_and (C8.pe_c (k_is_register) hr (by omega) rfl (pa_cons (pe_fld (pv 0) rfl) pa_nil)) (pe_and (C8.pe_c (k_is_register) hr (by omega) rfl (pa_cons (pe_fld (pv 0) rfl) pa_nil)) (pe_one (C8.pe_c (k_is_register) hr (by omega) rfl (pa_cons (pe_fld (pv 0) rfl) pa_nil))))))), ?_⟩
    cases it with
    | turns n rs => cases hk
    | row r =>
      cases r <;> first | (exact Kd.noConfusion hk) | skip
      obtain rfl := Kd.pair.inj hk
      obtain ⟨dx, hp⟩ := hp
      obtain ⟨g1, g2, g3⟩ := hg
      refine ⟨_, rfl, p, _, dx, _, _, rfl, hp, c, n1, rfl, _, rfl, g1, fun H2 e2 => ⟨true, rfl, iteT ?_⟩⟩
      refine ⟨_, rfl, p, _, dx, _, _, rfl, e2 _ _ hp, c, n2, rfl, _, rfl, g2, fun H3 e3 => ⟨true, rfl, iteT ?_⟩⟩
      exact ⟨_, rfl, p, _, dx, _, _, rfl, e3 _ _ (e2 _ _ hp), c, n3, rfl, _, rfl, g3, fun H4 e4 => k _ ((e2.trans e3).trans e4)⟩
theorem ok_Carrying_fits {j : CK} (F : FnT K "fits" "Carrying.fits" s_Carrying_fits (He.ma K (kC K (.carry j)) "fits")) (c : Cls K (kC K (.carry j))) (me : Meth K (kC K (.carry j)) "fits" (He.ma K (kC K (.carry j)) "fits")) (n1 : NoAttr K (kC K (.carry j)) "goal") (n4 : NoAttr K (kC K (.carry j)) "carry") (n2 : NoAttr K (kC K (.carry j)) "one") (n3 : NoAttr K (kC K (.carry j)) "other")
    (k_is_register : C8.Cal P w K mg base 1 "is_register" spIsReg []) : C8.Met P w K mg base 3 (kC K (.carry j)) "fits" (spFits K (.carry j)) [] :=
  met_mk F c me S_Carrying_fits B_Carrying_fits (fun vs H Q E h => by obtain ⟨p, i, it, rfl, _⟩ := h; rfl) fun cdv A outer s H vs Q E hr h => by
    obtain ⟨p, i, it, rfl, hp, hk, hg, hw, k⟩ := h
    refine ⟨_, (pss_cons (ps_if (PW.pt (pw_and (pt_cmpR op_notN (pe_fld (pv 0) rfl) pe_non (nomark _)) (pw_and1 (pt_not (pt_val (C8.pe_c (k_is_register) hr (by omega) rfl (pa_cons (pe_fld (pv 0) rfl) pa_nil))))))) (pss_one (ps_ret pe_bl)) pss_nil) (pss_one (ps_ret (pe_and (C8.pe_c (k_is_register) hr (by omega) rfl (pa_cons (pe_fld (pv 0) rfl) pa_nil)) (pe_and (C8.pe_c (k_is_register) hr (by omega) rfl (pa_cons (pe_fld (pv 0) rfl) pa_nil)) (pe_one (C8.pe_c (k_is_register) hr (by omega) rfl (pa_cons (pe_fld (pv 0) rfl) pa_nil)))))))), ?_⟩
    cases it with
    | turns n rs => cases hk
    | row r =>
      cases r <;> first | (exact Kd.noConfusion hk) | skip
      rename_i j' g cr a b
      obtain rfl := Kd.carry.inj hk
      obtain ⟨dx, hp⟩ := hp
      obtain ⟨g0, g1, g2, g3⟩ := hg
      refine ⟨_, rfl, p, _, dx, _, _, rfl, hp, c, n4, rfl, rfl, _, rfl, ?_⟩
      cases cr with
      | none =>
        refine iteF (iteF ?_)
        refine ⟨_, rfl, p, _, dx, _, _, rfl, hp, c, n1, rfl, _, rfl, g1, fun H2 e2 => ⟨true, rfl, iteT ?_⟩⟩
        refine ⟨_, rfl, p, _, dx, _, _, rfl, e2 _ _ hp, c, n2, rfl, _, rfl, g2, fun H3 e3 => ⟨true, rfl, iteT ?_⟩⟩
        exact ⟨_, rfl, p, _, dx, _, _, rfl, e3 _ _ (e2 _ _ hp), c, n3, rfl, _, rfl, g3, fun H4 e4 => k _ ((e2.trans e3).trans e4)⟩
      | some x =>
        refine iteT ?_
        refine ⟨_, rfl, p, _, dx, _, _, rfl, hp, c, n4, rfl, _, rfl, g0 x rfl, fun H1 e1 => ⟨true, rfl, iteF ?_⟩⟩
        refine ⟨_, rfl, p, _, dx, _, _, rfl, e1 _ _ hp, c, n1, rfl, _, rfl, g1, fun H2 e2 => ⟨true, rfl, iteT ?_⟩⟩
        refine ⟨_, rfl, p, _, dx, _, _, rfl, e2 _ _ (e1 _ _ hp), c, n2, rfl, _, rfl, g2, fun H3 e3 => ⟨true, rfl, iteT ?_⟩⟩
        exact ⟨_, rfl, p, _, dx, _, _, rfl, e3 _ _ (e2 _ _ (e1 _ _ hp)), c, n3, rfl, _, rfl, g3, fun H4 e4 => k _ (((e1.trans e2).trans e3).trans e4)⟩
theorem ok_Shift_fits {j : SK} (F : FnT K "fits" "Shift.fits" s_Shift_fits (He.ma K (kC K (.shift j)) "fits")) (c : Cls K (kC K (.shift j))) (me : Meth K (kC K (.shift j)) "fits" (He.ma K (kC K (.shift j)) "fits")) (n1 : NoAttr K (kC K (.shift j)) "goal") (n2 : NoAttr K (kC K (.shift j)) "one") (n3 : NoAttr K (kC K (.shift j)) "k")
    (k_is_register : C8.Cal P w K mg base 1 "is_register" spIsReg []) (k_within : C8.Cal P w K mg base 2 "within" spWithin []) : C8.Met P w K mg base 3 (kC K (.shift j)) "fits" (spFits K (.shift j)) [] :=
  met_mk F c me S_Shift_fits B_Shift_fits (fun vs H Q E h => by obtain ⟨p, i, it, rfl, _⟩ := h; rfl) fun cdv A outer s H vs Q E hr h => by
    obtain ⟨p, i, it, rfl, hp, hk, hg, hw, k⟩ := h
    refine ⟨_, (pss_one (ps_ret (pe_and (C8.pe_c (k_is_register) hr (by omega) rfl (pa_cons (pe_fld (pv 0) rfl) pa_nil)) (pe_and (C8.pe_c (k_is_register) hr (by omega) rfl (pa_cons (pe_fld (pv 0) rfl) pa_nil)) (pe_one (C8.pe_c (k_within) hr (by omega) rfl (pa_cons (pe_fld (pv 0) rfl) (pa_cons pe_int (pa_cons (pe_op op_sub (pv 1) pe_int) pa_nil))))))))), ?_⟩
    cases it with
    | turns n rs => cases hk
    | row r =>
      cases r <;> first | (exact Kd.noConfusion hk) | skip
      obtain rfl := Kd.shift.inj hk
      obtain ⟨dx, hp⟩ := hp
      obtain ⟨g1, g2, g3, g4⟩ := hg
      refine ⟨_, rfl, p, _, dx, _, _, rfl, hp, c, n1, rfl, _, rfl, g1, fun H2 e2 => ⟨true, rfl, iteT ?_⟩⟩
      refine ⟨_, rfl, p, _, dx, _, _, rfl, e2 _ _ hp, c, n2, rfl, _, rfl, g2, fun H3 e3 => ⟨true, rfl, iteT ?_⟩⟩
      refine ⟨_, rfl, p, _, dx, _, _, rfl, e3 _ _ (e2 _ _ hp), c, n3, rfl, _, rfl, _, _, rfl, rfl, ?_⟩
      exact ⟨_, _, _, rfl, g3, by omega, k _ (e2.trans e3)⟩
theorem ok_Pick_fits (T : Tx K mg) (k_is_register : C8.Cal P w K mg base 1 "is_register" spIsReg []) : C8.Met P w K mg base 3 (kC K .pick) "fits" (spFits K .pick) [] :=
  met_mk (C := kC K .pick) T.f_Pick_fits T.c_Pick T.m_Pick_fits S_Pick_fits B_Pick_fits (fun vs H Q E h => by obtain ⟨p, i, it, rfl, _⟩ := h; rfl) fun cdv A outer s H vs Q E hr h => by
    obtain ⟨p, i, it, rfl, hp, hk, hg, hw, k⟩ := h
    refine ⟨_, (pss_one (ps_ret (pe_callB (id := "all") (cr_all rfl) (by rfl) T.z_all (by decide +kernel) (pa_cons (pe_lc (own := [("name", 2)]) (g := gName 2) (tt := tYes) rfl S_Pick_fits.nd (pi_list (pe_lst (pa_cons (pe_fld (pv 0) rfl) (pa_cons (pe_fld (pv 0) rfl) (pa_cons (pe_fld (pv 0) rfl) (pa_cons (pe_fld (pv 0) rfl) pa_nil)))))) (blkOk_by (N := ["self", "width", "name"]) (sc := C8.fnScope s_Pick_fits) (by decide +kernel)) (fun _ _ _ _ _ => pg_name (i := 2) S_Pick_fits.nd rfl (Or.inl rfl)) (fun _ _ _ _ _ => pts_nil) (fun _ _ _ _ _ => (C8.pe_c (k_is_register) hr (by omega) rfl (pa_cons (pv 2) pa_nil)))) pa_nil)))), ?_⟩
    cases it with
    | turns n rs => cases hk
    | row r =>
      cases r <;> first | (cases hk; done) | skip
      rename_i g q a b
      obtain ⟨dx, hp⟩ := hp
      obtain ⟨g1, g2, g3, g4⟩ := hg
      refine ⟨_, rfl, p, _, dx, _, _, rfl, hp, T.c_Pick, T.n_Pick_goal, rfl, _, rfl, p, _, dx, _, _, rfl, hp, T.c_Pick, T.n_Pick_by, rfl, _, rfl, p, _, dx, _, _, rfl, hp, T.c_Pick, T.n_Pick_one, rfl, _, rfl, p, _, dx, _, _, rfl, hp, T.c_Pick, T.n_Pick_other, rfl, by show 4 ≤ sizeLine; decide, fun l hl => ?_⟩
      refine ⟨l, rfl, ⟨_, SqL.of upd_same⟩, fun D hD => lc_list (K := K) (a := l) (xs := [g, q, a, b].map V.str) (fun i H' => Ex (upd H l (.lst ([g, q, a, b].map V.str))) H' ∧ H' D = some (.lst ((List.replicate i true).map V.bl))) ⟨Ex.new hD, upd_same⟩ (fun i H' _ z => SqL.of (z.1 _ _ upd_same)) ?_ ?_⟩
      · rintro i x H' hi ⟨e, hl'⟩
        have hi4 : i < 4 := (List.getElem?_eq_some_iff.mp hi).1
        rw [List.getElem?_map] at hi
        obtain ⟨z, hz, rfl⟩ := Option.map_eq_some_iff.mp hi
        have hreg : isReg z = true := by
          have hm := List.mem_of_getElem? hz
          simp only [List.mem_cons, List.not_mem_nil, or_false] at hm
          rcases hm with rfl | rfl | rfl | rfl <;> assumption
        refine ⟨rfl, ?_⟩
        refine ⟨_, rfl, z, rfl, hreg, fun H2 e2 => ⟨_, e2 _ _ hl', by rw [List.length_map, List.length_replicate]; exact Nat.lt_of_lt_of_le hi4 (by decide), Ex.mut (e.trans e2) hD, ?_⟩⟩
        rw [upd_same, List.replicate_succ', List.map_append]
        rfl
      · rintro H' ⟨e, hl'⟩
        exact ⟨_, _, rfl, SqL.of hl', k _ ((Ex.new hl).trans e)⟩
theorem ok_Mark_fits (T : Tx K mg) (k_is_register : C8.Cal P w K mg base 1 "is_register" spIsReg []) (k_within : C8.Cal P w K mg base 2 "within" spWithin []) : C8.Met P w K mg base 3 (kC K .mark) "fits" (spFits K .mark) [] :=
  met_mk (C := kC K .mark) T.f_Mark_fits T.c_Mark T.m_Mark_fits S_Mark_fits B_Mark_fits (fun vs H Q E h => by obtain ⟨p, i, it, rfl, _⟩ := h; rfl) fun cdv A outer s H vs Q E hr h => by
    obtain ⟨p, i, it, rfl, hp, hk, hg, hw, k⟩ := h
    refine ⟨_, (pss_cons (ps_if (PW.pt (pw_or (pt_not (pt_val (pe_callB (id := "isinstance") (isi_at (K := K) rfl) (by rfl) T.z_isinstance (by decide +kernel) (pa_cons (pe_fld (pv 0) rfl) (pa_cons (pe_bltn (v := .ty "str") (u := .type "str") (by rfl) T.z_str (by decide +kernel) rfl) pa_nil))))) (pw_or1 (pt_cmpR op_notIn_seq (pe_fld (pv 0) rfl) (pe_tup (pa_cons pe_str (pa_cons pe_str (pa_cons pe_str pa_nil)))) (by rfl))))) (pss_one (ps_ret pe_bl)) pss_nil) (pss_one (ps_ret (pe_and (C8.pe_c (k_within) hr (by omega) rfl (pa_cons (pe_fld (pv 0) rfl) (pa_cons pe_int (pa_cons (C8.pe_gc rfl (T.i_MOST_LINE)) pa_nil)))) (pe_one (C8.pe_c (k_is_register) hr (by omega) rfl (pa_cons (pe_fld (pv 0) rfl) pa_nil))))))), ?_⟩
    cases it with
    | turns n rs => cases hk
    | row r =>
      cases r <;> first | (cases hk; done) | skip
      rename_i l m q
      obtain ⟨dx, hp⟩ := hp
      obtain ⟨g1, g2, g3, g4⟩ := hg
      refine ⟨_, rfl, p, _, dx, _, _, rfl, hp, T.c_Mark, T.n_Mark_mark, rfl, _, _, _, _, true, rfl, .ty _, .base (.str _), kit_ty (by decide +kernel), true, rfl, iteF ?_⟩
      refine ⟨_, rfl, p, _, dx, _, _, rfl, hp, T.c_Mark, T.n_Mark_mark, rfl, by show 3 ≤ sizeLine; decide, fun t ht => ?_⟩
      have hin : inV (V.str m) [V.str "round", V.str "stop", V.str "nothing"] = true := by rcases g1 with rfl | rfl | rfl <;> decide +kernel
      refine ⟨t, _, rfl, .inr (SqT.of upd_same), rfl, rfl, _, rfl, ?_⟩
      show if (!inV (V.str m) [V.str "round", V.str "stop", V.str "nothing"]) = true then _ else _
      rw [hin]
      refine iteF ?_
      have hp2 := (Ex.new (o := .tup [V.str "round", V.str "stop", V.str "nothing"]) ht) _ _ hp
      refine ⟨_, rfl, p, _, dx, _, _, rfl, hp2, T.c_Mark, T.n_Mark_line, rfl, _, _, _, rfl, g2, g3, true, rfl, iteT ?_⟩
      exact ⟨_, rfl, p, _, dx, _, _, rfl, hp2, T.c_Mark, T.n_Mark_by, rfl, _, rfl, g4, fun H2 e2 => k _ ((Ex.new ht).trans e2)⟩
theorem ok_Turns_fits (T : Tx K mg) (k_within : C8.Cal P w K mg base 2 "within" spWithin []) : C8.Met P w K mg base 3 (kC K .turns) "fits" (spFits K .turns) [] :=
  met_mk (C := kC K .turns) T.f_Turns_fits T.c_Turns T.m_Turns_fits S_Turns_fits B_Turns_fits (fun vs H Q E h => by obtain ⟨p, i, it, rfl, _⟩ := h; rfl) fun cdv A outer s H vs Q E hr h => by
    obtain ⟨p, i, it, rfl, hp, hk, hg, hw, k⟩ := h
    refine ⟨_, (pss_one (ps_ret (pe_and (C8.pe_c (k_within) hr (by omega) rfl (pa_cons (pe_fld (pv 0) rfl) (pa_cons pe_int (pa_cons (C8.pe_gc rfl (T.i_MOST_TIMES)) pa_nil)))) (pe_and (pe_callB (id := "isinstance") (isi_at (K := K) rfl) (by rfl) T.z_isinstance (by decide +kernel) (pa_cons (pe_fld (pv 0) rfl) (pa_cons (pe_bltn (v := .ty "list") (u := .type "list") (by rfl) T.z_list (by decide +kernel) rfl) pa_nil))) (pe_one (pe_cmpR op_neE (pe_fld (pv 0) rfl) (pe_lst pa_nil) (nomark _))))))), ?_⟩
    cases it with
    | row r => cases r <;> cases hk
    | turns n rs =>
      obtain ⟨dx, l, hp, ps, hl, hps⟩ := hp
      obtain ⟨g1, g2, g3, g4⟩ := hg
      have hne : ps.map V.ref ≠ [] := fun z => g3 (by
        have e := List.map_eq_nil_iff.mp z
        subst e
        cases hps
        rfl)
      refine ⟨_, rfl, p, _, dx, _, _, rfl, hp, T.c_Turns, T.n_Turns_times, rfl, _, _, _, rfl, by omega, by omega, true, rfl, iteT ?_⟩
      refine ⟨_, rfl, p, _, dx, _, _, rfl, hp, T.c_Turns, T.n_Turns_steps, rfl, _, _, _, _, true, rfl, .ty _, .base (.lst hl), kit_ty (by decide +kernel), true, rfl, iteT ?_⟩
      refine ⟨_, rfl, p, _, dx, _, _, rfl, hp, T.c_Turns, T.n_Turns_steps, rfl, Nat.zero_le _, fun t ht => ?_⟩
      exact ⟨l, t, _, rfl, rfl, SqL.of ((Ex.new ht) _ _ hl), SqL.of upd_same, hne, hr.units0, k _ (Ex.new ht)⟩
end
end K76
set_option Elab.async false
set_option linter.all false
set_option maxRecDepth 100000
set_option maxHeartbeats 4000000
namespace K76
open PySem PySem.Spec PyProof.Rows L2
open Evl (Ex)
/-! ## rows are done -/
/-- the dict of registers says what they hold -/
def Held (kvs : List (Key × V)) (R : Rg) : Prop := ∀ s : Str, valV kvs (.inr s) = (R s).map V.int
theorem Held.get {kvs : List (Key × V)} {R : Rg} (h : Held kvs R) (s : Str) : (valV kvs (.inr s)).getD (.int 0) = V.int (get R s) := by
  rw [h s]
  unfold K76.get
  cases R s <;> rfl
theorem Held.put {kvs : List (Key × V)} {R : Rg} (h : Held kvs R) (g : Str) (v : Int) : Held (putK kvs (.inr g) (.int v)) (put R g v) := fun s => by
  rw [valV_put]
  unfold K76.put
  by_cases e : s = g
  · rw [if_pos (by rw [e]), if_pos e]
    rfl
  · rw [if_neg (fun z => e (Sum.inr.inj z)), if_neg e]
    exact h s
def MarksAt (H : Hp) (ms : List V) (M : List (Int × Str)) : Prop := Paired (fun v m => ∃ t, v = V.ref t ∧ H t = some (.tup [.int m.1, .str m.2])) ms M
theorem MarksAt.ex {H H' : Hp} {ms : List V} {M : List (Int × Str)} (h : MarksAt H ms M) (e : ∀ t xs, H t = some (.tup xs) → H' t = some (.tup xs)) : MarksAt H' ms M :=
  Paired.mapP h fun _ _ ⟨t, e1, e2⟩ => ⟨t, e1, e t _ e2⟩
theorem paired_snoc {α β : Type} {F : α → β → Prop} {a : α} {b : β} (h : F a b) : ∀ {xs : List α} {ys : List β}, Paired F xs ys → Paired F (xs ++ [a]) (ys ++ [b])
  | _, _, .nil => .cons h .nil
  | _, _, .cons r t => .cons r (paired_snoc h t)
def spDo (K : PySem.W.Frag) (k : Kd) : Sp := fun vs H Q _ => ∃ (w : Nat) (p hd ml : Addr) (r : Rw) (kvs : List (Key × V)) (ms : List V) (R : Rg) (M : List (Int × Str)),
  vs = [.ref p, .int w, .ref hd, .ref ml] ∧ RowAt K H p r ∧ r.kd = k ∧ okw w ∧ r.good w ∧ H hd = some (.dK kvs) ∧ Held kvs R ∧ Wd w R ∧ kvs.length ≤ 90000 ∧ H ml = some (.lst ms) ∧ MarksAt H ms M ∧ ms.length ≤ 90000 ∧
  ∀ H' kvs' ms', Ex (upd (upd H hd (.dK kvs')) ml (.lst ms')) H' → Held kvs' (stepR w R r) → kvs'.length ≤ kvs.length + 2 → MarksAt H' ms' (stepM R M r) → ms'.length ≤ ms.length + 1 → Q .non H'
theorem small9 {n : Nat} (h : n ≤ 90000) : n < sizeLine := Nat.lt_of_le_of_lt h (by decide)
/-- behind one store -/
theorem do_put {H : Hp} {hd ml : Addr} {kvs kvs' : List (Key × V)} {ms : List V} {M : List (Int × Str)} (hh : H hd = some (.dK kvs)) (hm : H ml = some (.lst ms)) (hM : MarksAt H ms M) :
    Ex (upd (upd H hd (.dK kvs')) ml (.lst ms)) (upd H hd (.dK kvs')) ∧ MarksAt (upd H hd (.dK kvs')) ms M := by
  have ne : ml ≠ hd := ne_of hm hh (fun z => HO.noConfusion z)
  refine ⟨?_, hM.ex fun t xs e => ?_⟩
  · rw [upd_self (a := ml) (by rw [upd_ne ne]; exact hm)]
    exact Ex.refl _
  · rw [upd_ne (ne_of e hh (fun z => HO.noConfusion z))]
    exact e
section
variable {P : Program} {w : World} {K : PySem.W.Frag} {mg : Str → Option Value} {base : Heap}
theorem ok_Set_do (T : Tx K mg) : C8.Met P w K mg base 5 (kC K .set) "do" (spDo K .set) [] :=
  met_mk (C := kC K .set) T.f_Set_do T.c_Set T.m_Set_do S_Set_do B_Set_do (fun vs H Q E h => by obtain ⟨i, p, hd, ml, r, kvs, ms, R, M, rfl, _⟩ := h; rfl) fun cdv A outer s H vs Q E hr h => by
    obtain ⟨i, p, hd, ml, r, kvs, ms, R, M, rfl, ⟨dx, hp⟩, hk, hw, hg, hh, hR, hW, hz, hm, hM, hz2, k⟩ := h
    refine ⟨_, (pss_one (ps_dput (hu_of hr) (pv 2) (pe_fld (pv 0) rfl) (pe_fld (pv 0) rfl) rfl)), ?_⟩
    cases r <;> first | (cases hk; done) | skip
    refine ⟨_, rfl, p, _, dx, _, _, rfl, hp, T.c_Set, T.n_Set_bits, rfl, _, rfl, _, rfl, p, _, dx, _, _, rfl, hp, T.c_Set, T.n_Set_goal, rfl, hd, _, rfl, DPut.k (k := Sum.inr _) hh (small9 hz), ?_⟩
    exact k _ _ ms (do_put hh hm hM).1 (hR.put _ _) (Nat.le_trans (length_putK _ _ _) (by omega)) (do_put hh hm hM).2 (by omega)
theorem ok_Copy_do (T : Tx K mg) : C8.Met P w K mg base 5 (kC K .copy) "do" (spDo K .copy) [] :=
  met_mk (C := kC K .copy) T.f_Copy_do T.c_Copy T.m_Copy_do S_Copy_do B_Copy_do (fun vs H Q E h => by obtain ⟨i, p, hd, ml, r, kvs, ms, R, M, rfl, _⟩ := h; rfl) fun cdv A outer s H vs Q E hr h => by
    obtain ⟨i, p, hd, ml, r, kvs, ms, R, M, rfl, ⟨dx, hp⟩, hk, hw, hg, hh, hR, hW, hz, hm, hM, hz2, k⟩ := h
    refine ⟨_, (pss_one (ps_dput (hu_of hr) (pv 2) (pe_fld (pv 0) rfl) (pe_dget2 (hu_of hr) (pv 2) (pe_fld (pv 0) rfl) pe_int ⟨rfl, rfl, rfl, rfl⟩) rfl)), ?_⟩
    cases r <;> first | (cases hk; done) | skip
    refine ⟨_, rfl, hd, rfl, .inl ⟨kvs, .inl hh⟩, _, rfl, p, _, dx, _, _, rfl, hp, T.c_Copy, T.n_Copy_one, rfl, _, DGet.k (k := Sum.inr _) hh, ?_⟩
    rw [hR.get]
    refine ⟨_, rfl, _, rfl, p, _, dx, _, _, rfl, hp, T.c_Copy, T.n_Copy_goal, rfl, hd, _, rfl, DPut.k (k := Sum.inr _) hh (small9 hz), ?_⟩
    exact k _ _ ms (do_put hh hm hM).1 (hR.put _ _) (Nat.le_trans (length_putK _ _ _) (by omega)) (do_put hh hm hM).2 (by omega)
theorem ok_Pair_do {j : PK} (F : FnT K "do" "Pair.do" s_Pair_do (He.ma K (kC K (.pair j)) "do")) (c : Cls K (kC K (.pair j))) (me : Meth K (kC K (.pair j)) "do" (He.ma K (kC K (.pair j)) "do")) (n1 : NoAttr K (kC K (.pair j)) "goal") (n2 : NoAttr K (kC K (.pair j)) "one") (n3 : NoAttr K (kC K (.pair j)) "other")
    (k_self_worth : C8.Met P w K mg base 4 (kC K (.pair j)) "worth" (spWorth j) []) : C8.Met P w K mg base 5 (kC K (.pair j)) "do" (spDo K (.pair j)) [] :=
  met_mk F c me S_Pair_do B_Pair_do (fun vs H Q E h => by obtain ⟨i, p, hd, ml, r, kvs, ms, R, M, rfl, _⟩ := h; rfl) fun cdv A outer s H vs Q E hr h => by
    obtain ⟨i, p, hd, ml, r, kvs, ms, R, M, rfl, ⟨dx, hp⟩, hk, hw, hg, hh, hR, hW, hz, hm, hM, hz2, k⟩ := h
    refine ⟨_, (pss_one (ps_dput (hu_of hr) (pv 2) (pe_fld (pv 0) rfl) (C8.pe_mt (k_self_worth) hr (by omega) (pv 0) (pa_cons (pv 1) (pa_cons (pe_dget2 (hu_of hr) (pv 2) (pe_fld (pv 0) rfl) pe_int ⟨rfl, rfl, rfl, rfl⟩) (pa_cons (pe_dget2 (hu_of hr) (pv 2) (pe_fld (pv 0) rfl) pe_int ⟨rfl, rfl, rfl, rfl⟩) pa_nil)))) rfl)), ?_⟩
    cases r <;> first | (exact Kd.noConfusion hk) | skip
    obtain rfl := Kd.pair.inj hk
    refine ⟨_, rfl, p, dx, _, rfl, hp, rfl, _, rfl, ?_⟩
    refine ⟨_, rfl, hd, rfl, .inl ⟨kvs, .inl hh⟩, _, rfl, p, _, dx, _, _, rfl, hp, c, n2, rfl, _, DGet.k (k := Sum.inr _) hh, ?_⟩
    rw [hR.get]
    refine ⟨_, rfl, hd, rfl, .inl ⟨kvs, .inl hh⟩, _, rfl, p, _, dx, _, _, rfl, hp, c, n3, rfl, _, DGet.k (k := Sum.inr _) hh, ?_⟩
    rw [hR.get]
    refine ⟨p, i, _, _, rfl, hw, hW.get _, hW.get _, ?_⟩
    refine ⟨_, rfl, _, rfl, p, _, dx, _, _, rfl, hp, c, n1, rfl, hd, _, rfl, DPut.k (k := Sum.inr _) hh (small9 hz), ?_⟩
    exact k _ _ ms (do_put hh hm hM).1 (hR.put _ _) (Nat.le_trans (length_putK _ _ _) (by omega)) (do_put hh hm hM).2 (by omega)
theorem ok_Shift_do {j : SK} (F : FnT K "do" "Shift.do" s_Shift_do (He.ma K (kC K (.shift j)) "do")) (c : Cls K (kC K (.shift j))) (me : Meth K (kC K (.shift j)) "do" (He.ma K (kC K (.shift j)) "do")) (n1 : NoAttr K (kC K (.shift j)) "goal") (n2 : NoAttr K (kC K (.shift j)) "one")
    (k_self_moved : C8.Met P w K mg base 4 (kC K (.shift j)) "moved" (spMoved K j) []) : C8.Met P w K mg base 5 (kC K (.shift j)) "do" (spDo K (.shift j)) [] :=
  met_mk F c me S_Shift_do B_Shift_do (fun vs H Q E h => by obtain ⟨i, p, hd, ml, r, kvs, ms, R, M, rfl, _⟩ := h; rfl) fun cdv A outer s H vs Q E hr h => by
    obtain ⟨i, p, hd, ml, r, kvs, ms, R, M, rfl, ⟨dx, hp⟩, hk, hw, hg, hh, hR, hW, hz, hm, hM, hz2, k⟩ := h
    refine ⟨_, (pss_one (ps_dput (hu_of hr) (pv 2) (pe_fld (pv 0) rfl) (C8.pe_mt (k_self_moved) hr (by omega) (pv 0) (pa_cons (pv 1) (pa_cons (pe_dget2 (hu_of hr) (pv 2) (pe_fld (pv 0) rfl) pe_int ⟨rfl, rfl, rfl, rfl⟩) pa_nil))) rfl)), ?_⟩
    cases r <;> first | (exact Kd.noConfusion hk) | skip
    obtain rfl := Kd.shift.inj hk
    refine ⟨_, rfl, p, dx, _, rfl, hp, rfl, _, rfl, ?_⟩
    refine ⟨_, rfl, hd, rfl, .inl ⟨kvs, .inl hh⟩, _, rfl, p, _, dx, _, _, rfl, hp, c, n2, rfl, _, DGet.k (k := Sum.inr _) hh, ?_⟩
    rw [hR.get]
    refine ⟨p, i, _, dx, _, _, _, rfl, hp, hw, hW.get _, hg.2.2.1, hg.2.2.2, ?_⟩
    refine ⟨_, rfl, _, rfl, p, _, dx, _, _, rfl, hp, c, n1, rfl, hd, _, rfl, DPut.k (k := Sum.inr _) hh (small9 hz), ?_⟩
    exact k _ _ ms (do_put hh hm hM).1 (hR.put _ _) (Nat.le_trans (length_putK _ _ _) (by omega)) (do_put hh hm hM).2 (by omega)
theorem ok_Carrying_do {j : CK} (F : FnT K "do" "Carrying.do" s_Carrying_do (He.ma K (kC K (.carry j)) "do")) (c : Cls K (kC K (.carry j))) (me : Meth K (kC K (.carry j)) "do" (He.ma K (kC K (.carry j)) "do")) (n1 : NoAttr K (kC K (.carry j)) "goal") (n4 : NoAttr K (kC K (.carry j)) "carry") (n2 : NoAttr K (kC K (.carry j)) "one") (n3 : NoAttr K (kC K (.carry j)) "other")
    (k_self_both : C8.Met P w K mg base 4 (kC K (.carry j)) "both" (spBoth j) []) : C8.Met P w K mg base 5 (kC K (.carry j)) "do" (spDo K (.carry j)) [] :=
  met_mk F c me S_Carrying_do B_Carrying_do (fun vs H Q E h => by obtain ⟨i, p, hd, ml, r, kvs, ms, R, M, rfl, _⟩ := h; rfl) fun cdv A outer s H vs Q E hr h => by
    obtain ⟨i, p, hd, ml, r, kvs, ms, R, M, rfl, ⟨dx, hp⟩, hk, hw, hg, hh, hR, hW, hz, hm, hM, hz2, k⟩ := h
    refine ⟨_, (pss_cons (ps_asg (C8.pe_mt (k_self_both) hr (by omega) (pv 0) (pa_cons (pv 1) (pa_cons (pe_dget2 (hu_of hr) (pv 2) (pe_fld (pv 0) rfl) pe_int ⟨rfl, rfl, rfl, rfl⟩) (pa_cons (pe_dget2 (hu_of hr) (pv 2) (pe_fld (pv 0) rfl) pe_int ⟨rfl, rfl, rfl, rfl⟩) pa_nil)))) (pg_tup rfl (pgs_cons (pg_name (i := 4) S_Carrying_do.nd rfl (Or.inl rfl)) (pgs_cons (pg_name (i := 5) S_Carrying_do.nd rfl (Or.inl rfl)) pgs_nil)))) (pss_cons (ps_dput (hu_of hr) (pv 2) (pe_fld (pv 0) rfl) (pv 4) rfl) (pss_one (ps_if (pt_cmpR op_notN (pe_fld (pv 0) rfl) pe_non (nomark _)) (pss_one (ps_dput (hu_of hr) (pv 2) (pe_fld (pv 0) rfl) (pv 5) rfl)) pss_nil)))), ?_⟩
    cases r <;> first | (exact Kd.noConfusion hk) | skip
    rename_i j' g cr a b
    obtain rfl := Kd.carry.inj hk
    refine ⟨_, rfl, p, dx, _, rfl, hp, rfl, _, rfl, ?_⟩
    refine ⟨_, rfl, hd, rfl, .inl ⟨kvs, .inl hh⟩, _, rfl, p, _, dx, _, _, rfl, hp, c, n2, rfl, _, DGet.k (k := Sum.inr _) hh, ?_⟩
    rw [hR.get]
    refine ⟨_, rfl, hd, rfl, .inl ⟨kvs, .inl hh⟩, _, rfl, p, _, dx, _, _, rfl, hp, c, n3, rfl, _, DGet.k (k := Sum.inr _) hh, ?_⟩
    rw [hR.get]
    refine ⟨p, i, _, _, rfl, hw, fun t ht => ?_⟩
    have e0 := Ex.new (o := .tup [V.int (carryV i j' (get R a) (get R b)).1, V.int (carryV i j' (get R a) (get R b)).2]) ht
    refine ⟨t, _, rfl, SqT.of upd_same, rfl, _, _, rfl, _, _, rfl, rfl, ?_⟩
    refine ⟨_, rfl, _, rfl, _, rfl, p, _, dx, _, _, rfl, e0 _ _ hp, c, n1, rfl, hd, _, rfl, DPut.k (k := Sum.inr _) (e0 _ _ hh) (small9 hz), ?_⟩
    have neph : p ≠ hd := ne_of hp hh (fun z => HO.noConfusion z)
    refine ⟨_, rfl, p, _, dx, _, _, rfl, by rw [upd_ne neph]; exact e0 _ _ hp, c, n4, rfl, rfl, _, rfl, ?_⟩
    have q := hM.ex fun t xs e => e0 _ _ e
    have hh0 := e0 _ _ hh
    have hm0 := e0 _ _ hm
    cases cr with
    | none =>
      refine iteF ?_
      have q2 := do_put (kvs' := putK kvs (.inr g) (.int (carryV i j' (get R a) (get R b)).1)) hh0 hm0 q
      exact k _ _ ms ((ex_upd (ex_upd e0)).trans q2.1) (hR.put _ _) (Nat.le_trans (length_putK _ _ _) (by omega)) q2.2 (by omega)
    | some x =>
      refine iteT ?_
      refine ⟨_, rfl, _, rfl, _, rfl, p, _, dx, _, _, rfl, by rw [upd_ne neph]; exact e0 _ _ hp, c, n4, rfl, hd, _, rfl, DPut.k (k := Sum.inr _) upd_same (Nat.lt_of_le_of_lt (length_putK _ _ _) (Nat.lt_of_le_of_lt (Nat.succ_le_succ hz) (by decide))), ?_⟩
      have q2 := do_put (kvs' := putK (putK kvs (.inr g) (.int (carryV i j' (get R a) (get R b)).1)) (.inr x) (.int (carryV i j' (get R a) (get R b)).2)) hh0 hm0 q
      rw [upd_upd]
      refine k _ _ ms ((ex_upd (ex_upd e0)).trans q2.1) ((hR.put _ _).put _ _) ?_ q2.2 (by omega)
      have l1 := length_putK kvs (.inr g) (.int (carryV i j' (get R a) (get R b)).1)
      have l2 := length_putK (putK kvs (.inr g) (.int (carryV i j' (get R a) (get R b)).1)) (.inr x) (.int (carryV i j' (get R a) (get R b)).2)
      omega
theorem ok_Pick_do (T : Tx K mg) : C8.Met P w K mg base 5 (kC K .pick) "do" (spDo K .pick) [] :=
  met_mk (C := kC K .pick) T.f_Pick_do T.c_Pick T.m_Pick_do S_Pick_do B_Pick_do (fun vs H Q E h => by obtain ⟨i, p, hd, ml, r, kvs, ms, R, M, rfl, _⟩ := h; rfl) fun cdv A outer s H vs Q E hr h => by
    obtain ⟨i, p, hd, ml, r, kvs, ms, R, M, rfl, ⟨dx, hp⟩, hk, hw, hg, hh, hR, hW, hz, hm, hM, hz2, k⟩ := h
    refine ⟨_, (pss_one (ps_if (pt_cmpR op_ne (pe_dget2 (hu_of hr) (pv 2) (pe_fld (pv 0) rfl) pe_int ⟨rfl, rfl, rfl, rfl⟩) pe_int (nomark _)) (pss_one (ps_dput (hu_of hr) (pv 2) (pe_fld (pv 0) rfl) (pe_dget2 (hu_of hr) (pv 2) (pe_fld (pv 0) rfl) pe_int ⟨rfl, rfl, rfl, rfl⟩) rfl)) (pss_one (ps_dput (hu_of hr) (pv 2) (pe_fld (pv 0) rfl) (pe_dget2 (hu_of hr) (pv 2) (pe_fld (pv 0) rfl) pe_int ⟨rfl, rfl, rfl, rfl⟩) rfl)))), ?_⟩
    cases r <;> first | (cases hk; done) | skip
    rename_i g q a b
    refine ⟨_, rfl, hd, rfl, .inl ⟨kvs, .inl hh⟩, _, rfl, p, _, dx, _, _, rfl, hp, T.c_Pick, T.n_Pick_by, rfl, _, DGet.k (k := Sum.inr _) hh, ?_⟩
    rw [hR.get]
    refine ⟨rfl, _, rfl, ?_⟩
    have k2 := k _ (putK kvs (.inr g) (.int (if get R q ≠ 0 then get R a else get R b))) ms (do_put hh hm hM).1 (hR.put _ _) (Nat.le_trans (length_putK _ _ _) (by omega)) (do_put hh hm hM).2 (by omega)
    by_cases h0 : get R q = 0
    · rw [show (!decide (V.int (get R q) = V.int 0)) = false by rw [h0]; rfl]
      refine iteF ?_
      refine ⟨_, rfl, hd, rfl, .inl ⟨kvs, .inl hh⟩, _, rfl, p, _, dx, _, _, rfl, hp, T.c_Pick, T.n_Pick_other, rfl, _, DGet.k (k := Sum.inr _) hh, ?_⟩
      rw [hR.get]
      refine ⟨_, rfl, _, rfl, p, _, dx, _, _, rfl, hp, T.c_Pick, T.n_Pick_goal, rfl, hd, _, rfl, DPut.k (k := Sum.inr _) hh (small9 hz), ?_⟩
      rw [if_neg (fun z => z h0)] at k2
      exact k2
    · rw [show (!decide (V.int (get R q) = V.int 0)) = true by rw [decide_eq_false (fun z => h0 (V.int.inj z))]; rfl]
      refine iteT ?_
      refine ⟨_, rfl, hd, rfl, .inl ⟨kvs, .inl hh⟩, _, rfl, p, _, dx, _, _, rfl, hp, T.c_Pick, T.n_Pick_one, rfl, _, DGet.k (k := Sum.inr _) hh, ?_⟩
      rw [hR.get]
      refine ⟨_, rfl, _, rfl, p, _, dx, _, _, rfl, hp, T.c_Pick, T.n_Pick_goal, rfl, hd, _, rfl, DPut.k (k := Sum.inr _) hh (small9 hz), ?_⟩
      rw [if_pos h0] at k2
      exact k2
theorem ok_Mark_do (T : Tx K mg) : C8.Met P w K mg base 5 (kC K .mark) "do" (spDo K .mark) [] :=
  met_mk (C := kC K .mark) T.f_Mark_do T.c_Mark T.m_Mark_do S_Mark_do B_Mark_do (fun vs H Q E h => by obtain ⟨i, p, hd, ml, r, kvs, ms, R, M, rfl, _⟩ := h; rfl) fun cdv A outer s H vs Q E hr h => by
    obtain ⟨i, p, hd, ml, r, kvs, ms, R, M, rfl, ⟨dx, hp⟩, hk, hw, hg, hh, hR, hW, hz, hm, hM, hz2, k⟩ := h
    refine ⟨_, (pss_one (ps_if (pt_cmpR op_ne (pe_dget2 (hu_of hr) (pv 2) (pe_fld (pv 0) rfl) pe_int ⟨rfl, rfl, rfl, rfl⟩) pe_int (nomark _)) (pss_one (ps_expr (pe_bm PySem.F.plainAttrs_list PySem.F.slot_list_append PySem.F.type_list_append mt_append (pv 3) (pa_cons (pe_tup (pa_cons (pe_fld (pv 0) rfl) (pa_cons (pe_fld (pv 0) rfl) pa_nil))) pa_nil)))) pss_nil)), ?_⟩
    cases r <;> first | (cases hk; done) | skip
    rename_i l m q
    refine ⟨_, rfl, hd, rfl, .inl ⟨kvs, .inl hh⟩, _, rfl, p, _, dx, _, _, rfl, hp, T.c_Mark, T.n_Mark_by, rfl, _, DGet.k (k := Sum.inr _) hh, ?_⟩
    rw [hR.get]
    refine ⟨rfl, _, rfl, ?_⟩
    have eR : Held kvs (stepR i R (.mark l m q)) := hR
    by_cases h0 : get R q = 0
    · rw [show (!decide (V.int (get R q) = V.int 0)) = false by rw [h0]; rfl]
      refine iteF ?_
      refine k _ kvs ms ?_ eR (by omega) ?_ (by omega)
      · rw [upd_self hh, upd_self hm]
        exact Ex.refl _
      · show MarksAt H ms (if get R q ≠ 0 then M ++ [(l, m)] else M)
        rw [if_neg (fun z => z h0)]
        exact hM
    · rw [show (!decide (V.int (get R q) = V.int 0)) = true by rw [decide_eq_false (fun z => h0 (V.int.inj z))]; rfl]
      refine iteT ?_
      refine ⟨_, rfl, .inl ⟨rfl, _, SqL.of hm⟩, _, rfl, p, _, dx, _, _, rfl, hp, T.c_Mark, T.n_Mark_line, rfl, _, rfl, p, _, dx, _, _, rfl, hp, T.c_Mark, T.n_Mark_mark, rfl, by show 2 ≤ sizeLine; decide, fun t ht => ?_⟩
      have e0 := Ex.new (o := .tup [V.int l, V.str m]) ht
      refine ⟨ml, ms, _, rfl, rfl, e0 _ _ hm, small9 hz2, ?_⟩
      refine k _ kvs (ms ++ [.ref t]) ?_ eR (by omega) ?_ (by rw [List.length_append, List.length_singleton]; omega)
      · rw [upd_self hh]
        exact ex_upd e0
      · show MarksAt _ _ (if get R q ≠ 0 then M ++ [(l, m)] else M)
        rw [if_pos h0]
        have ntm : t ≠ ml := (ne_of_none hm ht).symm
        refine paired_snoc ⟨t, rfl, by rw [upd_ne ntm, upd_same]⟩ (hM.ex fun u xs e => ?_)
        rw [upd_ne (ne_of e hm (fun z => HO.noConfusion z))]
        exact e0 _ _ e
end
end K76
set_option Elab.async false
set_option linter.all false
set_option maxRecDepth 100000
set_option maxHeartbeats 4000000
namespace K76
open PySem PySem.Spec PyProof.Rows L2
open Evl (Ex)
/-! ## the machine -/
theorem pr_get {α β : Type} {F : α → β → Prop} : ∀ {xs : List α} {ys : List β}, Paired F xs ys → ∀ {i : Nat} {x : α}, xs[i]? = some x → ∃ y, ys[i]? = some y ∧ F x y
  | _, _, .cons r _, 0, _, h => ⟨_, rfl, by cases h; exact r⟩
  | _, _, .cons _ t, i + 1, _, h => pr_get t (i := i) (by simpa using h)
def It.dp : It → Nat
  | .row _ => 0
  | .turns .. => 1
theorem dp_lt (it : It) : it.dp < 2 := by cases it <;> simp [It.dp]
def It.many : It → Int
  | .row _ => 1
  | .turns n rs => n * (1 + rs.length)
def manyOf (its : List It) : Int := (its.map It.many).sum
theorem many_take {its : List It} {i : Nat} {it : It} (h : its[i]? = some it) : manyOf (its.take (i + 1)) = manyOf (its.take i) + it.many := by
  unfold manyOf
  rw [List.map_take, List.map_take]
  exact sum_take (by rw [List.getElem?_map, h]; rfl)
theorem many_rows (rs : List Rw) : manyOf (rs.map .row) = rs.length := by
  induction rs with
  | nil => rfl
  | cons r rs ih =>
    have e : manyOf ((r :: rs).map .row) = 1 + manyOf (rs.map .row) := List.sum_cons
    rw [e, ih, List.length_cons]
    omega
def It.gr : It → Nat
  | .row _ => 2
  | .turns n rs => n * (2 * rs.length)
def grOf (its : List It) : Nat := (its.map It.gr).sum
theorem gr_take : ∀ {its : List It} {i : Nat} {it : It}, its[i]? = some it → grOf (its.take (i + 1)) = grOf (its.take i) + it.gr ∧ grOf (its.take (i + 1)) ≤ grOf its
  | it :: r, 0, _, h => by
    cases h
    show It.gr it + 0 = 0 + It.gr it ∧ It.gr it + 0 ≤ It.gr it + grOf r
    omega
  | a :: r, i + 1, it, h => by
    have q := gr_take (its := r) (i := i) (it := it) (by simpa using h)
    show It.gr a + grOf (r.take (i + 1)) = It.gr a + grOf (r.take i) + it.gr ∧ It.gr a + grOf (r.take (i + 1)) ≤ It.gr a + grOf r
    omega
theorem gr_rows (rs : List Rw) : grOf (rs.map .row) = 2 * rs.length := by
  induction rs with
  | nil => rfl
  | cons r rs ih =>
    show 2 + grOf (rs.map .row) = _
    rw [ih, List.length_cons]
    omega
def spWalked (K : PySem.W.Frag) (d : Nat) : Sp := fun vs H Q _ => ∃ (w : Nat) (l : Addr) (pl : Int) (ab : Nat) (its : List It), vs = [.int w, .ref l, .int pl, .int ab] ∧ ItsAt K H l its ∧ 1 ≤ d ∧ (∀ it ∈ its, it.dp < d) ∧ (∀ it ∈ its, it.good w) ∧ okw w ∧ ab + d ≤ 6 ∧
  ∀ t H' pl', Ex H H' → H' t = some (.tup [.int pl', .int (manyOf its)]) → Q (.ref t) H'
def spCheck (K : PySem.W.Frag) : Sp := fun vs H Q _ => ∃ (w : Nat) (l : Addr) (its : List It), vs = [.int w, .ref l] ∧ ItsAt K H l its ∧ (∀ it ∈ its, it.good w) ∧ okw w ∧ manyOf its ≤ 1000000 ∧ ∀ H', Ex H H' → Q (.int (manyOf its)) H'
/-! ### the state of a run -/
def cntK (c : Str → Int) : List (Key × V) := rowWords.map fun x => (Sum.inr x, V.int (c x))
theorem find_cnt (c : Str → Int) (x : Str) : ∀ l : List Str, x ∈ l → valV (l.map fun x => ((Sum.inr x : Key), V.int (c x))) (.inr x) = some (.int (c x))
  | y :: r, h => by
    by_cases e : y = x
    · rw [List.map_cons, valV_pos (by rw [e]), e]
    · rw [List.map_cons, valV_neg (fun z => e (Sum.inr.inj z))]
      exact find_cnt c x r ((List.mem_cons.mp h).resolve_left fun z => e z.symm)
theorem cnt_get (c : Str → Int) {x : Str} (h : x ∈ rowWords) : valV (cntK c) (.inr x) = some (.int (c x)) := find_cnt c x rowWords h
theorem cnt_put (c : Str → Int) {x : Str} (h : x ∈ rowWords) : putK (cntK c) (.inr x) (.int (c x + 1)) = cntK (tick c x) := by
  unfold putK
  rw [if_pos (by rw [valV_any, cnt_get c h]; rfl)]
  unfold cntK
  rw [List.map_map]
  refine List.map_congr_left fun y _ => ?_
  show (if (Sum.inr y : Key) = Sum.inr x then ((Sum.inr y : Key), V.int (c x + 1)) else (Sum.inr y, V.int (c y))) = (Sum.inr y, V.int (tick c x y))
  unfold tick
  by_cases e : y = x
  · rw [if_pos (by rw [e]), if_pos e, e]
  · rw [if_neg (fun z => e (Sum.inr.inj z)), if_neg e]
theorem wd_in (k : Kd) : k.wd ∈ rowWords := by
  cases k with
  | pair j => cases j <;> decide +kernel
  | carry j => cases j <;> decide +kernel
  | shift j => cases j <;> decide +kernel
  | _ => decide +kernel
structure Mach (H0 H : Hp) (hd ml ct : Addr) (w n : Nat) (S : Ms) : Prop where
  ex : Ex H0 H
  h0 : H0 hd = none
  m0 : H0 ml = none
  c0 : H0 ct = none
  hc : hd ≠ ct
  held : ∃ kvs, H hd = some (.dK kvs) ∧ Held kvs S.reg ∧ kvs.length ≤ n
  wd : Wd w S.reg
  marks : ∃ ms, H ml = some (.lst ms) ∧ MarksAt H ms S.marks ∧ ms.length ≤ n
  cnt : H ct = some (.dK (cntK S.cnt))
/-- a count more -/
theorem Mach.tick {H0 H : Hp} {hd ml ct : Addr} {w n : Nat} {S : Ms} (M : Mach H0 H hd ml ct w n S) (x : Str) : Mach H0 (upd H ct (.dK (cntK (tick S.cnt x)))) hd ml ct w n ⟨S.reg, S.marks, K76.tick S.cnt x⟩ := by
  obtain ⟨kvs, h1, h2, h3⟩ := M.held
  obtain ⟨ms, m1, m2, m3⟩ := M.marks
  refine ⟨M.ex.mut M.c0, M.h0, M.m0, M.c0, M.hc, ⟨kvs, by rw [upd_ne M.hc]; exact h1, h2, h3⟩, M.wd, ⟨ms, by rw [upd_ne (ne_of m1 M.cnt (fun z => HO.noConfusion z))]; exact m1, m2.ex fun t xs e => ?_, m3⟩, upd_same⟩
  rw [upd_ne (ne_of e M.cnt (fun z => HO.noConfusion z))]
  exact e
theorem Mach.more {H0 H : Hp} {hd ml ct : Addr} {w n m : Nat} {S : Ms} (M : Mach H0 H hd ml ct w n S) (h : n ≤ m) : Mach H0 H hd ml ct w m S := by
  obtain ⟨kvs, h1, h2, h3⟩ := M.held
  obtain ⟨ms, m1, m2, m3⟩ := M.marks
  exact ⟨M.ex, M.h0, M.m0, M.c0, M.hc, ⟨kvs, h1, h2, Nat.le_trans h3 h⟩, M.wd, ⟨ms, m1, m2, Nat.le_trans m3 h⟩, M.cnt⟩
theorem Mach.grow {H0 H H' : Hp} {hd ml ct : Addr} {w n : Nat} {S : Ms} (M : Mach H0 H hd ml ct w n S) (e : Ex H H') : Mach H0 H' hd ml ct w n S := by
  obtain ⟨kvs, h1, h2, h3⟩ := M.held
  obtain ⟨ms, m1, m2, m3⟩ := M.marks
  exact ⟨M.ex.trans e, M.h0, M.m0, M.c0, M.hc, ⟨kvs, e _ _ h1, h2, h3⟩, M.wd, ⟨ms, e _ _ m1, m2.ex fun t xs q => e _ _ q, m3⟩, e _ _ M.cnt⟩
def spGo (K : PySem.W.Frag) (d : Nat) : Sp := fun vs H Q _ => ∃ (w : Nat) (l hd ml ct : Addr) (its : List It) (H0 : Hp) (S : Ms) (n : Nat), vs = [.int w, .ref l, .ref hd, .ref ml, .ref ct] ∧ ItsAt K H0 l its ∧ 1 ≤ d ∧ (∀ it ∈ its, it.dp < d) ∧ (∀ it ∈ its, it.good w) ∧ okw w ∧
  Mach H0 H hd ml ct w n S ∧ n + grOf its ≤ 90000 ∧ ∀ H', Mach H0 H' hd ml ct w (n + grOf its) (runIts w S its) → Q .non H'
abbrev NT : Type := {k : Kd // k ≠ .turns}
theorem kd_nt (r : Rw) : r.kd ≠ .turns := by cases r <;> exact fun z => Kd.noConfusion z
section
variable {P : Program} {w : World} {K : PySem.W.Frag} {mg : Str → Option Value} {base : Heap}
theorem get_desc (K : PySem.W.Frag) : PySem.W.specialIn K (.builtin "object.__class__") "__get__" = some (some (.builtin "getset_descriptor.__get__")) := by kernel_rfl
theorem takes_desc (K : PySem.W.Frag) : PySem.W.takesIn K (.builtin "object.__class__") = some true := by kernel_rfl
theorem Tx.cl (T : Tx K mg) (k : Kd) : Cls K (kC K k) := by
  cases k with
  | set => exact T.c_Set
  | copy => exact T.c_Copy
  | pair j => cases j; exact T.c_Low; exact T.c_High; exact T.c_Or; exact T.c_Unlike; exact T.c_Under
  | carry j => cases j; exact T.c_Sum; exact T.c_Gap
  | shift j => cases j; exact T.c_Left; exact T.c_Right; exact T.c_Slide
  | pick => exact T.c_Pick
  | mark => exact T.c_Mark
  | turns => exact T.c_Turns
theorem nm_in (k : Kd) : k.nm ∈ kns := by
  cases k with
  | pair j => cases j <;> decide +kernel
  | carry j => cases j <;> decide +kernel
  | shift j => cases j <;> decide +kernel
  | _ => decide +kernel
theorem nm_turns (k : Kd) : decide (k.nm = "Turns") = decide (k = .turns) := by
  cases k with
  | pair j => cases j <;> decide +kernel
  | carry j => cases j <;> decide +kernel
  | shift j => cases j <;> decide +kernel
  | _ => decide +kernel
theorem Tx.ty (T : Tx K mg) (k : Kd) : (∀ {H : Hp} {p dx : Addr} {fs : List (Str × V)}, H p = some (.ins (kC K k) dx fs) → TyX K H (.ref p) (.ref (kC K k))) ∧
    PySem.W.kitOne K (.ref (kC K k)) (.ref (He.ga K "Step")) = some true ∧ PySem.W.kitOne K (.ref (kC K k)) (.ref (He.ga K "Turns")) = some (decide (k = .turns)) := by
  have h := List.all_eq_true.mp (He.ba T.more).1 k.nm (nm_in k)
  unfold tyB at h
  simp only [Bool.and_eq_true, decide_eq_true_eq] at h
  obtain ⟨⟨⟨h1, h2⟩, h3⟩, h4⟩ := h
  exact ⟨fun hp => .base (.ins hp (T.cl k) (He.eqO_ok h1) (get_desc K) (takes_desc K) h2), h3, by rw [h4, nm_turns]⟩
theorem cal_imp {k : Nat} {x : Str} {sp sp' : Sp} (c : C8.Cal P w K mg base k x sp []) (h : ∀ vs H Q E, sp' vs H Q E → sp vs H Q E) : C8.Cal P w K mg base k x sp' [] := by
  obtain ⟨f, fd, ps, ds, F, r⟩ := c.ex
  exact ⟨f, fd, ps, ds, F.imp h, r⟩
theorem cal_mono {k j : Nat} {x : Str} {sp : Sp} (c : C8.Cal P w K mg base k x sp []) (h : k ≤ j) : C8.Cal P w K mg base j x sp [] := by
  obtain ⟨f, fd, ps, ds, F, r⟩ := c.ex
  exact ⟨f, fd, ps, ds, F.mono h, r⟩
theorem len_of (hv : V) (xs : List V) : True := True.intro
theorem ok_walked (T : Tx K mg) (d lv : Nat) (hlv : 3 ≤ lv) (k_any_fits : ∀ k : Kd, C8.Met P w K mg base 3 (kC K k) "fits" (spFits K k) []) (k_walked : C8.Cal P w K mg base lv "walked" (spWalked K d) []) : C8.Cal P w K mg base (lv + 1) "walked" (spWalked K (d + 1)) [] :=
  cal_mk T.f_walked T.g_walked S_walked B_walked (fun vs H Q E h => by obtain ⟨i, l, pl, ab, its, rfl, _⟩ := h; rfl) fun cdv A outer s H vs Q E hr h => by
    obtain ⟨i, l, pl, ab, its, rfl, ⟨ps, hl, hps⟩, _, hd, hg, hw, hab, k⟩ := h
    refine ⟨_, (pss_cons (ps_set (i := 4) S_walked.nd rfl (Or.inl rfl) pe_int) (pss_cons (ps_for PassesOwn.never rfl (pi_list (pv 1)) (pg_name (i := 5) S_walked.nd rfl (Or.inl rfl)) (pss_cons (ps_if (PW.pt (pw_or (pt_not (pt_val (pe_callB (id := "isinstance") (isi_at (K := K) rfl) (by rfl) T.z_isinstance (by decide +kernel) (pa_cons (pv 5) (pa_cons (pe_glob (v := .ref (He.ga K "Step")) rfl T.g_Step rfl) pa_nil))))) (pw_or1 (pt_not (pt_val (pe_mtA (k_any_fits) hr (by omega) (pv 5) (pa_cons (pv 0) pa_nil))))))) (pss_one ps_never) pss_nil) (pss_one (ps_if (pt_val (pe_callB (id := "isinstance") (isi_at (K := K) rfl) (by rfl) T.z_isinstance (by decide +kernel) (pa_cons (pv 5) (pa_cons (pe_glob (v := .ref (He.ga K "Turns")) rfl T.g_Turns rfl) pa_nil)))) (pss_cons (ps_if (pt_cmpR op_eq (pv 3) (C8.pe_gc rfl (T.i_DEEPEST)) (nomark _)) (pss_one ps_never) pss_nil) (pss_cons (ps_asg (C8.pe_c (k_walked) hr (by omega) rfl (pa_cons (pv 0) (pa_cons (pe_fld (pv 5) rfl) (pa_cons (pe_op op_add (pv 2) pe_int) (pa_cons (pe_op op_add (pv 3) pe_int) pa_nil))))) (pg_tup rfl (pgs_cons (pg_name (i := 2) S_walked.nd rfl (Or.inl rfl)) (pgs_cons (pg_name (i := 6) S_walked.nd rfl (Or.inl rfl)) pgs_nil)))) (pss_one (ps_set (i := 4) S_walked.nd rfl (Or.inl rfl) (pe_op op_add (pv 4) (pe_op op_mul (pe_fld (pv 5) rfl) (pe_op op_add pe_int (pv 6)))))))) (pss_cons (ps_set (i := 2) S_walked.nd rfl (Or.inl rfl) (pe_op op_add (pv 2) pe_int)) (pss_one (ps_set (i := 4) S_walked.nd rfl (Or.inl rfl) (pe_op op_add (pv 4) pe_int)))))))) (pss_one (ps_ret (pe_tup (pa_cons (pv 2) (pa_cons (pv 4) pa_nil))))))), ?_⟩
    have hlen : ps.length = its.length := Paired.length hps
    refine ⟨_, rfl, l, rfl, ⟨_, SqL.of hl⟩, for_list (K := K) (a := l) (xs := ps.map V.ref) (fun j σ H' => ∃ (pl' : Int) (v5 v6 : Option V), σ = [some (.int i), some (.ref l), some (.int pl'), some (.int ab), some (.int (manyOf (its.take j))), v5, v6] ∧ Ex H H')
      ⟨pl, none, none, rfl, Ex.refl H⟩ (fun j σ H' _ ⟨_, _, _, _, e⟩ => SqL.of (e _ _ hl)) ?_ ?_⟩
    · rintro j x σ H' hj ⟨pl', v5, v6, rfl, e⟩
      rw [List.getElem?_map] at hj
      obtain ⟨q, hq, rfl⟩ := Option.map_eq_some_iff.mp hj
      obtain ⟨it, hit, hat⟩ := pr_get hps hq
      have him := List.mem_of_getElem? hit
      have hat' := hat.ex e
      obtain ⟨dx, fs, hins, hno⟩ := hat'.ins
      obtain ⟨ty1, ty2, ty3⟩ := T.ty it.kd
      refine ⟨_, rfl, _, _, _, _, true, rfl, .own _, ty1 hins, ty2, true, rfl, iteF ?_⟩
      refine ⟨it.kd, _, rfl, q, dx, fs, rfl, hins, hno _ (.inr (.inr (.inl rfl))), _, rfl, q, i, it, rfl, hat', rfl, hg it him, hw, fun H2 e2 => ⟨true, rfl, iteF ?_⟩⟩
      have hins2 := e2 _ _ hins
      refine ⟨_, rfl, _, _, _, _, _, rfl, .own _, ty1 hins2, ty3, _, rfl, ?_⟩
      cases it with
      | row r =>
        rw [show decide ((It.row r).kd = Kd.turns) = false from decide_eq_false (kd_nt r)]
        refine iteF ?_
        refine ⟨_, rfl, _, _, rfl, rfl, _, rfl, _, _, rfl, rfl, ?_⟩
        exact ⟨pl' + 1, _, _, by rw [many_take hit]; rfl, e.trans e2⟩
      | turns n rs =>
        rw [show decide ((It.turns n rs).kd = Kd.turns) = true from decide_eq_true rfl]
        refine iteT ?_
        have hd1 : 1 < d + 1 := hd _ him
        refine ⟨_, rfl, rfl, _, rfl, ?_⟩
        rw [decide_eq_false (show ¬ V.int (ab : Int) = V.int 5 from fun z => by have := V.int.inj z; omega)]
        refine iteF ?_
        obtain ⟨dx', l', hp', hrows⟩ := hat'.ex e2
        have g := hg _ him
        refine ⟨_, rfl, _, rfl, q, _, dx', _, _, rfl, hp', T.c_Turns, T.n_Turns_steps, rfl, _, rfl, _, _, rfl, rfl, _, rfl, _, _, rfl, rfl, ?_⟩
        refine ⟨i, l', _, ab + 1, rs.map .row, by push_cast; rfl, hrows.its, by omega, ?_, ?_, hw, by omega, fun t H3 pl3 e3 ht => ?_⟩
        · intro it' hm
          obtain ⟨r, _, rfl⟩ := List.mem_map.mp hm
          show 0 < d
          omega
        · intro it' hm
          obtain ⟨r, hr', rfl⟩ := List.mem_map.mp hm
          exact g.2.2.2 r hr'
        · refine ⟨t, _, rfl, SqT.of ht, rfl, _, _, rfl, _, _, rfl, rfl, ?_⟩
          refine ⟨_, rfl, _, rfl, q, _, dx', _, _, rfl, e3 _ _ hp', T.c_Turns, T.n_Turns_times, rfl, _, rfl, _, _, rfl, rfl, _, _, rfl, rfl, .inl ⟨by have := g.2.1; omega, by have := g.2.1; omega⟩, _, _, rfl, rfl, ?_⟩
          refine ⟨pl3, some (V.ref q), some (V.int (manyOf (rs.map .row))), ?_, (e.trans e2).trans e3⟩
          rw [many_take hit, many_rows]
          rfl
    · rintro σ H' ⟨pl', v5, v6, rfl, e⟩
      refine ⟨_, rfl, _, rfl, by show 2 ≤ sizeLine; decide, fun t ht => ?_⟩
      refine k t _ pl' (e.trans (Ex.new ht)) ?_
      rw [upd_same, List.length_map, hlen, List.take_length]
theorem ok_check_steps (T : Tx K mg) (k_need_width : C8.Cal P w K mg base 2 "need_width" spWidth []) (k_walked : C8.Cal P w K mg base 5 "walked" (spWalked K 2) []) : C8.Cal P w K mg base 6 "check_steps" (spCheck K) [] :=
  cal_mk T.f_check_steps T.g_check_steps S_check_steps B_check_steps (fun vs H Q E h => by obtain ⟨i, l, its, rfl, _⟩ := h; rfl) fun cdv A outer s H vs Q E hr h => by
    obtain ⟨i, l, its, rfl, hI, hg, hw, hm, k⟩ := h
    refine ⟨_, (pss_cons (ps_expr (C8.pe_c (k_need_width) hr (by omega) rfl (pa_cons (pv 0) pa_nil))) (pss_cons (ps_if (pt_not (pt_val (pe_callB (id := "isinstance") (isi_at (K := K) rfl) (by rfl) T.z_isinstance (by decide +kernel) (pa_cons (pv 1) (pa_cons (pe_bltn (v := .ty "list") (u := .type "list") (by rfl) T.z_list (by decide +kernel) rfl) pa_nil))))) (pss_one ps_never) pss_nil) (pss_cons (ps_set (i := 2) S_check_steps.nd rfl (Or.inl rfl) (pe_ix ix_tup (C8.pe_c (k_walked) hr (by omega) rfl (pa_cons (pv 0) (pa_cons (pv 1) (pa_cons pe_int (pa_cons pe_int pa_nil))))) pe_int (fun _ _ => rfl))) (pss_cons (ps_if (pt_cmpR op_gt (pv 2) (C8.pe_gc rfl (T.i_MOST_RUN)) (nomark _)) (pss_one ps_never) pss_nil) (pss_one (ps_ret (pv 2))))))), ?_⟩
    obtain ⟨ps, hl, hps⟩ := id hI
    refine ⟨_, rfl, _, rfl, hw, ?_⟩
    refine ⟨_, rfl, _, _, _, _, true, rfl, .ty _, .base (.lst hl), kit_ty (by decide +kernel), true, rfl, iteF ?_⟩
    refine ⟨_, rfl, _, rfl, i, l, 0, 0, its, rfl, hI, by omega, fun it _ => dp_lt it, hg, hw, by omega, fun t H' pl' e ht => ?_⟩
    refine ⟨t, _, _, _, rfl, rfl, SqT.of ht, atI_nat (j := 1) rfl, ?_⟩
    refine ⟨_, rfl, _, _, rfl, rfl, _, rfl, ?_⟩
    rw [decide_eq_false (show ¬ (1000000 : Int) < manyOf its by omega)]
    refine iteF ?_
    exact ⟨_, rfl, k _ e⟩
end
end K76
set_option Elab.async false
set_option linter.all false
set_option maxRecDepth 100000
set_option maxHeartbeats 4000000
namespace K76
open PySem PySem.Spec PyProof.Rows L2
open Evl (Ex)
/-! ## a run -/
theorem run_take {w : Nat} {S : Ms} {its : List It} {i : Nat} {it : It} (h : its[i]? = some it) : runIts w S (its.take (i + 1)) = stepIt w (runIts w S (its.take i)) it := by
  unfold runIts
  have hi := (List.getElem?_eq_some_iff.mp h).1
  have e := (List.getElem?_eq_some_iff.mp h).2
  rw [← List.take_append_getElem hi, List.foldl_append, e]
  rfl
section
variable {P : Program} {w : World} {K : PySem.W.Frag} {mg : Str → Option Value} {base : Heap}
/-- a row done -/
theorem mach_row {H0 H H' : Hp} {hd ml ct : Addr} {w n : Nat} {S : Ms} {r : Rw} {kvs kvs' : List (Key × V)} {ms ms' : List V} (hw : okw w) (hr : r.good w) (M : Mach H0 H hd ml ct w n S) (h1 : H hd = some (.dK kvs)) (m1 : H ml = some (.lst ms)) (l1 : kvs.length ≤ n) (l2 : ms.length ≤ n)
    (e : Ex (upd (upd H hd (.dK kvs')) ml (.lst ms')) H') (hR : Held kvs' (stepR w S.reg r)) (z1 : kvs'.length ≤ kvs.length + 2) (hM : MarksAt H' ms' (stepM S.reg S.marks r)) (z2 : ms'.length ≤ ms.length + 1) :
    Mach H0 H' hd ml ct w (n + 2) ⟨stepR w S.reg r, stepM S.reg S.marks r, S.cnt⟩ := by
  have nm : hd ≠ ml := ne_of h1 m1 (fun z => HO.noConfusion z)
  have nc : ct ≠ ml := ne_of M.cnt m1 (fun z => HO.noConfusion z)
  refine ⟨fun b o q => e b o ?_, M.h0, M.m0, M.c0, M.hc, ⟨kvs', e _ _ (by rw [upd_ne nm, upd_same]), hR, by omega⟩, stepR_wd (by have := hw.1; omega) M.wd hr, ⟨ms', e _ _ upd_same, hM, by omega⟩, e _ _ (by rw [upd_ne nc, upd_ne M.hc.symm]; exact M.cnt)⟩
  rw [upd_ne (ne_of_none q M.m0), upd_ne (ne_of_none q M.h0)]
  exact M.ex b o q
theorem ok_go (T : Tx K mg) (d lv : Nat) (hlv : 5 ≤ lv) (k_any_word : ∀ k : NT, C8.Met P w K mg base 1 (kC K k.1) "word" (spWord k.1) []) (k_any_do : ∀ k : NT, C8.Met P w K mg base 5 (kC K k.1) "do" (spDo K k.1) []) (k_go : C8.Cal P w K mg base lv "go" (spGo K d) []) : C8.Cal P w K mg base (lv + 1) "go" (spGo K (d + 1)) [] :=
  cal_mk T.f_go T.g_go S_go B_go (fun vs H Q E h => by obtain ⟨i, l, hd, ml, ct, its, H0, S, n, rfl, _⟩ := h; rfl) fun cdv A outer s H vs Q E hr h => by
    obtain ⟨i, l, hd, ml, ct, its, H0, S, n, rfl, ⟨ps, hl, hps⟩, _, hdp, hg, hw, M0, hn, k⟩ := h
    refine ⟨_, (pss_one (ps_for PassesOwn.never rfl (pi_list (pv 1)) (pg_name (i := 5) S_go.nd rfl (Or.inl rfl)) (pss_one (ps_if (pt_val (pe_callB (id := "isinstance") (isi_at (K := K) rfl) (by rfl) T.z_isinstance (by decide +kernel) (pa_cons (pv 5) (pa_cons (pe_glob (v := .ref (He.ga K "Turns")) rfl T.g_Turns rfl) pa_nil)))) (pss_one (ps_for PassesOwn.never rfl (pi_range1 rfl T.z_range (pa_cons (pe_fld (pv 5) rfl) pa_nil)) (pg_name (i := 6) S_go.nd rfl (Or.inl rfl)) (pss_cons (ps_daug (hu_of hr) (pv 4) pe_str pe_int in_add (fun _ _ _ => rfl)) (pss_one (ps_expr (C8.pe_c (k_go) hr (by omega) rfl (pa_cons (pv 0) (pa_cons (pe_fld (pv 5) rfl) (pa_cons (pv 2) (pa_cons (pv 3) (pa_cons (pv 4) pa_nil))))))))))) (pss_cons (ps_daug (hu_of hr) (pv 4) (pe_mtA0 (k_any_word) hr (by omega) (pv 5)) pe_int in_add (fun _ _ _ => rfl)) (pss_one (ps_expr (pe_mtA (k_any_do) hr (by omega) (pv 5) (pa_cons (pv 0) (pa_cons (pv 2) (pa_cons (pv 3) pa_nil))))))))))), ?_⟩
    have hlen : ps.length = its.length := Paired.length hps
    refine ⟨_, rfl, l, rfl, ⟨_, SqL.of (M0.ex _ _ hl)⟩, for_list (K := K) (a := l) (xs := ps.map V.ref) (fun j σ H' => ∃ v5 v6 : Option V, σ = [some (.int i), some (.ref l), some (.ref hd), some (.ref ml), some (.ref ct), v5, v6] ∧ Mach H0 H' hd ml ct i (n + grOf (its.take j)) (runIts i S (its.take j)))
      ⟨none, none, rfl, M0⟩ (fun j σ H' _ ⟨_, _, _, M⟩ => SqL.of (M.ex _ _ hl)) ?_ ?_⟩
    · rintro j x σ H' hj ⟨v5, v6, rfl, M⟩
      rw [List.getElem?_map] at hj
      obtain ⟨q, hq, rfl⟩ := Option.map_eq_some_iff.mp hj
      obtain ⟨it, hit, hat⟩ := pr_get hps hq
      have him := List.mem_of_getElem? hit
      have hat' := hat.ex M.ex
      obtain ⟨dx, fs, hins, hno⟩ := hat'.ins
      obtain ⟨ty1, _, ty3⟩ := T.ty it.kd
      obtain ⟨gr1, gr2⟩ := gr_take hit
      refine ⟨_, rfl, _, _, _, _, _, rfl, .own _, ty1 hins, ty3, _, rfl, ?_⟩
      cases it with
      | row r =>
        rw [show decide ((It.row r).kd = Kd.turns) = false from decide_eq_false (kd_nt r)]
        refine iteF ?_
        have e1 := cnt_get (runIts i S (its.take j)).cnt (wd_in r.kd)
        have g1 := DGet.k (k := Sum.inr r.kd.wd) M.cnt
        rw [e1] at g1
        refine ⟨_, rfl, ⟨r.kd, kd_nt r⟩, _, rfl, q, dx, fs, rfl, hins, hno _ (.inl rfl), q, rfl, ct, _, rfl, g1, _, _, rfl, rfl, _, DPut.k (k := Sum.inr r.kd.wd) M.cnt (by unfold cntK; rw [List.length_map]; decide), ?_⟩
        rw [cnt_put _ (wd_in r.kd)]
        have M2 := M.tick r.kd.wd
        have hins2 := hat.ex M2.ex
        obtain ⟨dx2, fs2, hi2, hno2⟩ := hins2.ins
        obtain ⟨kvs, h1, h2, h3⟩ := M2.held
        obtain ⟨ms, m1, m2, m3⟩ := M2.marks
        refine ⟨⟨r.kd, kd_nt r⟩, _, rfl, q, dx2, fs2, rfl, hi2, hno2 _ (.inr (.inr (.inr rfl))), _, rfl, _, rfl, _, rfl, i, q, hd, ml, r, kvs, ms, _, _, rfl, hins2, rfl, hw, hg _ him, h1, h2, M2.wd, by omega, m1, m2, by omega, fun H3 kvs' ms' e3 hR z1 hM z2 => ?_⟩
        refine ⟨_, _, rfl, ?_⟩
        rw [run_take hit, gr1, ← Nat.add_assoc]
        exact mach_row hw (hg _ him) M2 h1 m1 h3 m3 e3 hR z1 hM z2
      | turns m rs =>
        rw [show decide ((It.turns m rs).kd = Kd.turns) = true from decide_eq_true rfl]
        refine iteT ?_
        have hd1 : 1 < d + 1 := hdp _ him
        have g := hg _ him
        obtain ⟨dx', l', hp', hrows⟩ := hat
        have hp2 := M.ex _ _ hp'
        refine ⟨_, rfl, q, _, dx', _, _, rfl, hp2, T.c_Turns, T.n_Turns_times, rfl, m, rfl, by omega, by have := g.2.1; omega, for_range (lo := 0) (n := m) (fun t σ H3 => ∃ v6 : Option V, σ = [some (.int i), some (.ref l), some (.ref hd), some (.ref ml), some (.ref ct), some (.ref q), v6] ∧ Mach H0 H3 hd ml ct i (n + grOf (its.take j) + t * (2 * rs.length)) (iter (turn1 i rs) t (runIts i S (its.take j))))
          ⟨_, rfl, by rw [Nat.zero_mul]; exact M⟩ ?_ ?_⟩
        · rintro t σ H3 ht ⟨v6', rfl, M3⟩
          have e1 := cnt_get (iter (turn1 i rs) t (runIts i S (its.take j))).cnt (show ("turns" : Str) ∈ rowWords from wd_in .turns)
          have g1 := DGet.k (k := Sum.inr ("turns" : Str)) M3.cnt
          rw [e1] at g1
          refine ⟨_, rfl, ct, _, rfl, g1, _, _, rfl, rfl, _, DPut.k (k := Sum.inr ("turns" : Str)) M3.cnt (by unfold cntK; rw [List.length_map]; decide), ?_⟩
          rw [cnt_put _ (show ("turns" : Str) ∈ rowWords from wd_in .turns)]
          have M4 := M3.tick "turns"
          have hb : n + grOf (its.take j) + t * (2 * rs.length) + grOf (rs.map .row) ≤ n + grOf (its.take (j + 1)) := by
            rw [gr1, gr_rows]
            show _ ≤ n + (grOf (its.take j) + m * (2 * rs.length))
            have : (t + 1) * (2 * rs.length) ≤ m * (2 * rs.length) := Nat.mul_le_mul_right _ ht
            rw [Nat.succ_mul] at this
            omega
          refine ⟨_, rfl, _, rfl, q, _, dx', _, _, rfl, M4.ex _ _ hp', T.c_Turns, T.n_Turns_steps, rfl, _, rfl, _, rfl, _, rfl, i, l', hd, ml, ct, rs.map .row, H0, _, _, rfl, hrows.its, by omega, ?_, ?_, hw, M4, by omega, fun H5 M5 => ?_⟩
          · intro it' hm
            obtain ⟨r, _, rfl⟩ := List.mem_map.mp hm
            show 0 < d
            omega
          · intro it' hm
            obtain ⟨r, hr', rfl⟩ := List.mem_map.mp hm
            exact g.2.2.2 r hr'
          · refine ⟨_, rfl, ?_⟩
            rw [runIts_rows, gr_rows, Nat.add_assoc, show t * (2 * rs.length) + 2 * rs.length = (t + 1) * (2 * rs.length) from (Nat.succ_mul _ _).symm] at M5
            exact M5
        · rintro σ H3 ⟨v6', rfl, M3⟩
          refine ⟨_, _, rfl, ?_⟩
          rw [run_take hit, gr1, ← Nat.add_assoc]
          exact M3
    · rintro σ H' ⟨v5, v6, rfl, M⟩
      rw [List.length_map, hlen, List.take_length] at M
      exact k _ M
end
end K76
set_option Elab.async false
set_option linter.all false
set_option maxRecDepth 100000
set_option maxHeartbeats 4000000
namespace K76
open PySem PySem.Spec PyProof.Rows L2
open Evl (Ex)
/-! ## registers handed in, prices, costs -/
def regK (rs : List (Str × Int)) : List (Key × V) := rs.map fun p => (Sum.inr p.1, V.int p.2)
def regOf (rs : List (Str × Int)) : Rg := fun s => (rs.find? fun p => decide (p.1 = s)).map (·.2)
theorem held_reg : ∀ rs : List (Str × Int), Held (regK rs) (regOf rs)
  | [], s => rfl
  | p :: r, s => by
    unfold regK regOf
    rw [List.map_cons, List.find?_cons]
    by_cases e : p.1 = s
    · rw [valV_pos (by rw [e]), decide_eq_true e]
      rfl
    · rw [valV_neg (fun z => e (Sum.inr.inj z)), decide_eq_false e]
      exact held_reg r s
theorem find_reg : ∀ {rs : List (Str × Int)} {s : Str}, s ∈ rs.map (·.1) → ∃ p ∈ rs, valV (regK rs) (.inr s) = some (.int p.2)
  | p :: r, s, h => by
    by_cases e : p.1 = s
    · exact ⟨p, List.mem_cons_self, by unfold regK; rw [List.map_cons, valV_pos (by rw [e])]⟩
    · obtain ⟨q, hq, eq⟩ := find_reg (rs := r) (s := s) ((List.mem_cons.mp h).resolve_left fun z => e z.symm)
      refine ⟨q, List.mem_cons_of_mem _ hq, ?_⟩
      unfold regK
      rw [List.map_cons, valV_neg (fun z => e (Sum.inr.inj z))]
      exact eq
def goodRegs (w : Nat) (rs : List (Str × Int)) : Prop := rs.length ≤ 60 ∧ ∀ p ∈ rs, isReg p.1 = true ∧ 0 ≤ p.2 ∧ p.2 < B w
theorem wd_reg {w : Nat} {rs : List (Str × Int)} (h : goodRegs w rs) : Wd w (regOf rs) := fun s v e => by
  unfold regOf at e
  obtain ⟨p, hp, rfl⟩ := Option.map_eq_some_iff.mp e
  exact (h.2 p (List.mem_of_find?_eq_some hp)).2
theorem lock_ex {H H' : Hp} {d : Addr} {od : Obj} {u : HO} (h : H d = some u) (e : Ex (upd H d (.frz od u)) H') : Ex H (upd H' d u) := fun b o q => by
  by_cases hb : b = d
  · subst hb
    rw [h] at q
    cases q
    exact upd_same
  · rw [upd_ne hb]
    exact e b o (by rw [upd_ne hb]; exact q)
def spNeedRegs : Sp := fun vs H Q _ => ∃ (w : Nat) (d : Addr) (rs : List (Str × Int)), vs = [.int w, .ref d] ∧ H d = some (.dK (regK rs)) ∧ okw w ∧ goodRegs w rs ∧ ∀ H', Ex H H' → Q .non H'
def spRun (K : PySem.W.Frag) : Sp := fun vs H Q _ => ∃ (w : Nat) (l d : Addr) (its : List It) (rs : List (Str × Int)), vs = [.int w, .ref l, .ref d] ∧ ItsAt K H l its ∧ (∀ it ∈ its, it.good w) ∧ okw w ∧ manyOf its ≤ 1000000 ∧ grOf its ≤ 80000 ∧ H d = some (.dK (regK rs)) ∧ goodRegs w rs ∧
  ∀ t hd ml ct H', H' t = some (.tup [.ref hd, .ref ml, .ref ct]) → Mach H H' hd ml ct w (60 + grOf its) (runIts w ⟨regOf rs, [], fun _ => 0⟩ its) → Q (.ref t) H'
theorem not_in_cnt (c : Str → Int) (x : Str) : ∀ l : List Str, x ∉ l → valV (l.map fun x => ((Sum.inr x : Key), V.int (c x))) (.inr x) = none
  | [], _ => rfl
  | y :: r, h => by
    rw [List.map_cons, valV_neg (fun z => h (by rw [Sum.inr.inj z]; exact List.mem_cons_self))]
    exact not_in_cnt c x r fun z => h (List.mem_cons_of_mem _ z)
def cntT (c : Str → Int) (j : Nat) : List (Key × V) := (rowWords.take j).map fun x => (Sum.inr x, V.int (c x))
theorem words_apart : ∀ j : Fin 16, rowWords[j.val]? ≠ none ∧ ∀ x, rowWords[j.val]? = some x → x ∉ rowWords.take j.val := by
  have h : ∀ j : Fin 16, (match rowWords[j.val]? with | some x => !((rowWords.take j.val).contains x) | none => false) = true := by decide +kernel
  intro j
  have q := h j
  cases e : rowWords[j.val]? with
  | none =>
    rw [e] at q
    cases q
  | some x =>
    rw [e] at q
    refine ⟨(fun z => by cases z), fun y hy hm => ?_⟩
    cases hy
    have q2 : (!(List.contains (rowWords.take j.val) x)) = true := q
    rw [List.contains_iff_mem.mpr hm] at q2
    cases q2
theorem words_len : rowWords.length = 16 := rfl
theorem cnt_add (c : Str → Int) {j : Nat} {x : Str} (h : rowWords[j]? = some x) : putK (cntT c j) (.inr x) (.int (c x)) = cntT c (j + 1) := by
  have hj : j < 16 := (List.getElem?_eq_some_iff.mp h).1
  have ne := (words_apart ⟨j, hj⟩).2 x h
  unfold cntT
  rw [putK_new _ (not_in_cnt c x _ ne), ← List.take_append_getElem (show j < rowWords.length from hj), List.map_append, (List.getElem?_eq_some_iff.mp h).2]
  rfl
def It.cost (pr : Str → Int) : It → Int
  | .row r => pr r.kd.wd
  | .turns n rs => n * (pr "turns" + (rs.map fun r => pr r.kd.wd).sum)
def costOf (pr : Str → Int) (its : List It) : Int := (its.map (It.cost pr)).sum
theorem cost_take {pr : Str → Int} {its : List It} {i : Nat} {it : It} (h : its[i]? = some it) : costOf pr (its.take (i + 1)) = costOf pr (its.take i) + it.cost pr := by
  unfold costOf
  rw [List.map_take, List.map_take]
  exact sum_take (by rw [List.getElem?_map, h]; rfl)
theorem cost_rows (pr : Str → Int) (rs : List Rw) : costOf pr (rs.map .row) = (rs.map fun r => pr r.kd.wd).sum := by
  unfold costOf
  rw [List.map_map]
  rfl
def goodPr (pr : Str → Int) : Prop := ∀ x ∈ rowWords, 0 ≤ pr x ∧ pr x ≤ 1000
def spPrices : Sp := fun vs H Q _ => ∃ (d : Addr) (pr : Str → Int), vs = [.ref d] ∧ H d = some (.dK (cntK pr)) ∧ goodPr pr ∧ ∀ t H', Ex H H' → H' t = some (.dK (cntK pr)) → Q (.ref t) H'
def spSummed (K : PySem.W.Frag) (d : Nat) : Sp := fun vs H Q _ => ∃ (l pd : Addr) (pr : Str → Int) (its : List It) (w : Nat), vs = [.ref l, .ref pd] ∧ ItsAt K H l its ∧ 1 ≤ d ∧ (∀ it ∈ its, it.dp < d) ∧ (∀ it ∈ its, it.good w) ∧ H pd = some (.dK (cntK pr)) ∧ ∀ H', Ex H H' → Q (.int (costOf pr its)) H'
def spCost (K : PySem.W.Frag) : Sp := fun vs H Q _ => ∃ (w : Nat) (l pd : Addr) (pr : Str → Int) (its : List It), vs = [.int w, .ref l, .ref pd] ∧ ItsAt K H l its ∧ (∀ it ∈ its, it.good w) ∧ okw w ∧ manyOf its ≤ 1000000 ∧ H pd = some (.dK (cntK pr)) ∧ goodPr pr ∧ ∀ H', Ex H H' → Q (.int (costOf pr its)) H'
section
variable {P : Program} {w : World} {K : PySem.W.Frag} {mg : Str → Option Value} {base : Heap}
theorem ok_need_registers (T : Tx K mg) (k_is_register : C8.Cal P w K mg base 1 "is_register" spIsReg []) (k_within : C8.Cal P w K mg base 2 "within" spWithin []) : C8.Cal P w K mg base 3 "need_registers" spNeedRegs [] :=
  cal_mk T.f_need_registers T.g_need_registers S_need_registers B_need_registers (fun vs H Q E h => by obtain ⟨i, d, rs, rfl, _⟩ := h; rfl) fun cdv A outer s H vs Q E hr h => by
    obtain ⟨i, d, rs, rfl, hd, hw, hg, k⟩ := h
    refine ⟨_, (pss_cons (ps_lock (ps_setLc (i := 2) (own := [("name", 3)]) (g := gName 3) rfl S_need_registers.nd rfl rfl (sw_true rfl rfl rfl (by decide +kernel)) (pi_keys (pv 1)) (blkOk_by (N := ["width", "registers", "others", "name", "texts"]) (sc := C8.fnScope s_need_registers) (by decide +kernel)) (fun _ _ _ _ _ => pg_name (i := 3) S_need_registers.nd rfl (Or.inl rfl)) (fun _ _ _ _ _ => (pts_one (pt_not (pt_val (pe_callB (id := "isinstance") (isi_at (K := K) rfl) (by rfl) T.z_isinstance (by decide +kernel) (pa_cons (pv 3) (pa_cons (pe_bltn (v := .ty "str") (u := .type "str") (by rfl) T.z_str (by decide +kernel) rfl) pa_nil))))))) (fun _ _ _ _ _ => (pv 3)))) (pss_cons (ps_set (i := 4) S_need_registers.nd rfl (Or.inl rfl) (pe_callB (id := "sorted") cr_sortedS (by rfl) T.z_sorted (by decide +kernel) (pa_cons (pe_lock (pe_lc (own := [("name", 3)]) (g := gName 3) rfl S_need_registers.nd (pi_keys (pv 1)) (blkOk_by (N := ["width", "registers", "others", "name", "texts"]) (sc := C8.fnScope s_need_registers) (by decide +kernel)) (fun _ _ _ _ _ => pg_name (i := 3) S_need_registers.nd rfl (Or.inl rfl)) (fun _ _ _ _ _ => (pts_one (pt_val (pe_callB (id := "isinstance") (isi_at (K := K) rfl) (by rfl) T.z_isinstance (by decide +kernel) (pa_cons (pv 3) (pa_cons (pe_bltn (v := .ty "str") (u := .type "str") (by rfl) T.z_str (by decide +kernel) rfl) pa_nil)))))) (fun _ _ _ _ _ => (pv 3)))) pa_nil))) (pss_one (ps_for PassesOwn.never rfl (pi_list (pe_op op_cat (pv 2) (pv 4))) (pg_name (i := 3) S_need_registers.nd rfl (Or.inl rfl)) (pss_one (ps_if (PW.pt (pw_or (pt_not (pt_val (C8.pe_c (k_is_register) hr (by omega) rfl (pa_cons (pv 3) pa_nil)))) (pw_or1 (pt_not (pt_val (C8.pe_c (k_within) hr (by omega) rfl (pa_cons (pe_dget (hu_of hr) (pv 1) (pv 3) (fun _ _ => rfl)) (pa_cons pe_int (pa_cons (pe_op op_sub (pe_op op_shl pe_int (pv 0)) pe_int) pa_nil))))))))) (pss_one ps_never) pss_nil)))))), ?_⟩
    have hkv : ∀ j k v, (regK rs)[j]? = some (k, v) → ∃ p : Str × Int, rs[j]? = some p ∧ k = Sum.inr p.1 := fun j k v e => by
      unfold regK at e
      rw [List.getElem?_map] at e
      obtain ⟨p, hp, q⟩ := Option.map_eq_some_iff.mp e
      exact ⟨p, hp, (Prod.mk.inj q).1.symm⟩
    refine ⟨d, _, hd, True.intro, fun od => ?_⟩
    refine ⟨_, rfl, d, od, rfl, .inl ⟨_, upd_same, fun D hD => lc_it walk_keys (fun _ H' => Ex (upd H d (.frz od (.dK (regK rs)))) H' ∧ H' D = some (.lst [])) ⟨Ex.new hD, upd_same⟩ (fun _ H' _ z => z.1 _ _ upd_same) ?_ ?_⟩⟩
    · rintro j x H1 _ hj ⟨e, hl⟩ ⟨rfl, k', v', hk', rfl⟩
      obtain ⟨p, _, rfl⟩ := hkv j k' v' hk'
      refine ⟨rfl, ?_⟩
      exact ⟨_, rfl, _, _, _, _, true, rfl, .ty _, .base (.str _), kit_ty (by decide +kernel), true, rfl, iteF ⟨e, hl⟩⟩
    rintro H1 ⟨e1, hl1⟩
    have nDd : D ≠ d := fun z => by
      rw [z, upd_same] at hD
      cases hD
    refine ⟨e1 _ _ upd_same, ?_⟩
    have e2 := lock_ex hd e1
    have hD2 : (upd H1 d (.dK (regK rs))) D = some (.lst []) := by rw [upd_ne nDd]; exact hl1
    have hd2 : (upd H1 d (.dK (regK rs))) d = some (.dK (regK rs)) := upd_same
    generalize upd H1 d (.dK (regK rs)) = H2 at e2 hD2 hd2 ⊢
    -- the texts
    refine ⟨d, _, hd2, True.intro, fun od => ?_⟩
    refine ⟨_, rfl, d, od, rfl, .inl ⟨_, upd_same, fun D2 hD2' => lc_it walk_keys (fun j H' => Ex (upd H2 d (.frz od (.dK (regK rs)))) H' ∧ H' D2 = some (.lst (((rs.take j).map (·.1)).map V.str))) ⟨Ex.new hD2', upd_same⟩ (fun _ H' _ z => z.1 _ _ upd_same) ?_ ?_⟩⟩
    · rintro j x H3 _ hj ⟨e, hl⟩ ⟨rfl, k', v', hk', rfl⟩
      obtain ⟨p, hp, rfl⟩ := hkv j k' v' hk'
      refine ⟨rfl, ?_⟩
      refine ⟨_, rfl, _, _, _, _, true, rfl, .ty _, .base (.str _), kit_ty (by decide +kernel), true, rfl, iteT ?_⟩
      have hj2 := (List.getElem?_eq_some_iff.mp hp).1
      refine ⟨_, rfl, _, hl, by rw [List.length_map, List.length_map, List.length_take]; exact Nat.lt_of_le_of_lt (Nat.le_trans (Nat.min_le_right _ _) hg.1) (by decide), Ex.mut e hD2', ?_⟩
      rw [upd_same, ← List.take_append_getElem hj2, List.map_append, List.map_append, (List.getElem?_eq_some_iff.mp hp).2]
      rfl
    rintro H3 ⟨e3, hl3⟩
    have nDd2 : D2 ≠ d := fun z => by
      rw [z, upd_same] at hD2'
      cases hD2'
    refine ⟨e3 _ _ upd_same, ?_⟩
    have e4 := lock_ex hd2 e3
    have hl4 : (upd H3 d (.dK (regK rs))) D2 = some (.lst ((rs.map (·.1)).map V.str)) := by
      rw [upd_ne nDd2, hl3]
      unfold regK
      rw [List.length_map, List.take_length]
    have hd4 : (upd H3 d (.dK (regK rs))) d = some (.dK (regK rs)) := upd_same
    generalize upd H3 d (.dK (regK rs)) = H4 at e4 hl4 hd4 ⊢
    refine ⟨D2, rs.map (·.1), rfl, SqL.of hl4, by rw [List.length_map]; have := hg.1; omega, fun ys p perm _ hp => ?_⟩
    have e5 := Ex.new (o := .lst (ys.map V.str)) hp
    have hylen : ys.length ≤ 60 := by rw [perm.length_eq, List.length_map]; exact hg.1
    refine ⟨_, rfl, _, rfl, D, p, [], ys.map V.str, rfl, rfl, e5 _ _ (e4 _ _ hD2), upd_same, by rw [List.length_map]; exact Nat.le_trans (by simp; exact hylen) (show 60 ≤ sizeLine by decide), fun l hl => ?_⟩
    have e6 := Ex.new (o := .lst ([] ++ ys.map V.str)) hl
    have eAll := (((e2.trans e4).trans e5).trans e6)
    refine ⟨l, rfl, ⟨_, SqL.of upd_same⟩, for_list (K := K) (a := l) (xs := [] ++ ys.map V.str) (fun j σ H' => ∃ v3, σ = [some (.int i), some (.ref d), some (.ref D), v3, some (.ref p)] ∧ Ex (upd (upd H4 p (.lst (ys.map V.str))) l (.lst ([] ++ ys.map V.str))) H')
      ⟨none, rfl, Ex.refl _⟩ (fun j σ H' _ ⟨_, _, e⟩ => SqL.of (e _ _ upd_same)) ?_ ?_⟩
    · rintro j x σ H' hj ⟨v3, rfl, e⟩
      rw [List.nil_append, List.getElem?_map] at hj
      obtain ⟨z, hz, rfl⟩ := Option.map_eq_some_iff.mp hj
      have hzm : z ∈ rs.map (·.1) := perm.mem_iff.mp (List.mem_of_getElem? hz)
      obtain ⟨q, hq, hq2⟩ := find_reg hzm
      obtain ⟨q0, hq0, rfl⟩ := List.mem_map.mp hzm
      refine ⟨_, rfl, q0.1, rfl, (hg.2 q0 hq0).1, fun H6 e7 => ⟨true, rfl, iteF ?_⟩⟩
      have hd6 := (e.trans e7) _ _ (e6 _ _ (e5 _ _ hd4))
      have g1 := DGet.k (k := Sum.inr q0.1) hd6
      rw [hq2] at g1
      refine ⟨_, rfl, _, rfl, d, _, rfl, g1, _, rfl, _, _, rfl, rfl, ⟨by omega, by have := hw.2; omega, by decide⟩, _, _, rfl, rfl, _, _, _, rfl, (hg.2 q hq).2.1, by rw [shlB]; have := (hg.2 q hq).2.2; omega, true, rfl, iteF ?_⟩
      exact ⟨_, rfl, e.trans e7⟩
    · rintro σ H' ⟨v3, rfl, e⟩
      exact k _ (eAll.trans e)
theorem ok_run_steps (T : Tx K mg) (k_check_steps : C8.Cal P w K mg base 6 "check_steps" (spCheck K) []) (k_need_registers : C8.Cal P w K mg base 3 "need_registers" spNeedRegs []) (k_row_words : C8.Cal P w K mg base 1 "row_words" spRowWords []) (k_go : C8.Cal P w K mg base 7 "go" (spGo K 2) []) : C8.Cal P w K mg base 8 "run_steps" (spRun K) [] :=
  cal_mk T.f_run_steps T.g_run_steps S_run_steps B_run_steps (fun vs H Q E h => by obtain ⟨i, l, d, its, rs, rfl, _⟩ := h; rfl) fun cdv A outer s H vs Q E hr h => by
    obtain ⟨i, l, d, its, rs, rfl, hI, hg, hw, hm, hgr, hd, hgd, k⟩ := h
    refine ⟨_, (pss_cons (ps_expr (C8.pe_c (k_check_steps) hr (by omega) rfl (pa_cons (pv 0) (pa_cons (pv 1) pa_nil)))) (pss_cons (ps_expr (C8.pe_c (k_need_registers) hr (by omega) rfl (pa_cons (pv 0) (pa_cons (pv 2) pa_nil)))) (pss_cons (ps_set (i := 3) S_run_steps.nd rfl (Or.inl rfl) (pe_callTy (T := "dict") call_dict_copy (by rfl) T.z_dict (by decide +kernel) (pa_cons (pv 2) pa_nil))) (pss_cons (ps_set (i := 4) S_run_steps.nd rfl (Or.inl rfl) (pe_lst pa_nil)) (pss_cons (ps_set (i := 5) S_run_steps.nd rfl (Or.inl rfl) pe_dnewK) (pss_cons (ps_for PassesOwn.never rfl (pi_list (pe_c0 (k_row_words) hr (by omega) rfl)) (pg_name (i := 6) S_run_steps.nd rfl (Or.inl rfl)) (pss_one (ps_dput (hu_of hr) (pv 5) (pv 6) pe_int rfl))) (pss_cons (ps_expr (C8.pe_c (k_go) hr (by omega) rfl (pa_cons (pv 0) (pa_cons (pv 1) (pa_cons (pv 3) (pa_cons (pv 4) (pa_cons (pv 5) pa_nil))))))) (pss_one (ps_ret (pe_tup (pa_cons (pv 3) (pa_cons (pv 4) (pa_cons (pv 5) pa_nil))))))))))))), ?_⟩
    refine ⟨_, rfl, _, rfl, i, l, its, rfl, hI, hg, hw, hm, fun H1 e1 => ?_⟩
    refine ⟨_, rfl, _, rfl, i, d, rs, rfl, e1 _ _ hd, hw, hgd, fun H2 e2 => ?_⟩
    have e12 := e1.trans e2
    refine ⟨_, rfl, d, _, rfl, .inl (e12 _ _ hd), fun hd' hn1 => ?_⟩
    refine ⟨Nat.zero_le _, fun ml hn2 => ?_⟩
    refine fun ct hn3 => ?_
    have n1 : H hd' = none := Evl.fresh_back e12 hn1
    have n2' : H2 ml = none := Evl.fresh_back (Ex.new hn1) hn2
    have n2 : H ml = none := Evl.fresh_back e12 n2'
    have n3' : (upd H2 hd' (.dK (regK rs))) ct = none := Evl.fresh_back (Ex.new hn2) hn3
    have n3'' : H2 ct = none := Evl.fresh_back (Ex.new hn1) n3'
    have n3 : H ct = none := Evl.fresh_back e12 n3''
    have hc : hd' ≠ ct := fun z => by
      rw [← z, upd_same] at n3'
      cases n3'
    have hmc : ml ≠ ct := fun z => by
      rw [← z, upd_same] at hn3
      cases hn3
    have hhm : hd' ≠ ml := fun z => by
      rw [← z, upd_same] at hn2
      cases hn2
    have eB : Ex H2 (upd (upd H2 hd' (.dK (regK rs))) ml (.lst [])) := (Ex.new hn1).trans (Ex.new hn2)
    refine ⟨rfl, fun lw hlw => ?_⟩
    have nlw : (upd (upd H2 hd' (.dK (regK rs))) ml (.lst [])) lw = none := Evl.fresh_back (Ex.new hn3) hlw
    have ncl : ct ≠ lw := fun z => by
      rw [← z, upd_same] at hlw
      cases hlw
    have nhl : hd' ≠ lw := fun z => by
      rw [← z, upd_ne hhm, upd_same] at nlw
      cases nlw
    have nml : ml ≠ lw := fun z => by
      rw [← z, upd_same] at nlw
      cases nlw
    refine ⟨lw, rfl, ⟨_, SqL.of upd_same⟩, for_list (K := K) (a := lw) (xs := rowWords.map V.str) (fun j σ H' => ∃ v6, σ = [some (.int i), some (.ref l), some (.ref d), some (.ref hd'), some (.ref ml), some (.ref ct), v6] ∧ Ex H H' ∧ H' lw = some (.lst (rowWords.map V.str)) ∧ H' hd' = some (.dK (regK rs)) ∧ H' ml = some (.lst []) ∧ H' ct = some (.dK (cntT (fun _ => 0) j)))
      ⟨none, rfl, (e12.trans eB).trans ((Ex.new hn3).trans (Ex.new hlw)), upd_same, by rw [upd_ne nhl, upd_ne hc, upd_ne hhm, upd_same], by rw [upd_ne nml, upd_ne hmc, upd_same], by rw [upd_ne ncl, upd_same]; rfl⟩
      (fun j σ H' _ ⟨_, _, _, e, _⟩ => SqL.of e) ?_ ?_⟩
    · rintro j x σ H' hj ⟨v6, rfl, e, a1, a2, a3, a4⟩
      rw [List.getElem?_map] at hj
      obtain ⟨z, hz, rfl⟩ := Option.map_eq_some_iff.mp hj
      have hl16 : (cntT (fun _ => 0) j).length < sizeLine := by
        unfold cntT
        rw [List.length_map, List.length_take]
        exact Nat.lt_of_le_of_lt (Nat.min_le_right _ _) (by decide)
      refine ⟨_, rfl, _, rfl, ct, _, rfl, DPut.k (k := Sum.inr z) a4 hl16, ?_⟩
      refine ⟨_, rfl, e.mut n3, by rw [upd_ne ncl.symm]; exact a1, by rw [upd_ne hc]; exact a2, by rw [upd_ne hmc]; exact a3, ?_⟩
      rw [upd_same, cnt_add (fun _ => 0) hz]
    · rintro σ H' ⟨v6, rfl, e, a1, a2, a3, a4⟩
      have M0 : Mach H H' hd' ml ct i 60 ⟨regOf rs, [], fun _ => 0⟩ := ⟨e, n1, n2, n3, hc, ⟨_, a2, held_reg rs, by unfold regK; rw [List.length_map]; exact hgd.1⟩, wd_reg hgd, ⟨[], a3, .nil, Nat.zero_le _⟩, a4⟩
      refine ⟨_, rfl, _, rfl, _, rfl, _, rfl, _, rfl, i, l, hd', ml, ct, its, H, _, 60, rfl, hI, by omega, fun it _ => dp_lt it, hg, hw, M0, by omega, fun H3 M => ?_⟩
      refine ⟨_, rfl, _, rfl, _, rfl, by show 3 ≤ sizeLine; decide, fun t ht => ?_⟩
      exact k t hd' ml ct _ upd_same (M.grow (Ex.new ht))
theorem ok_need_prices (T : Tx K mg) (k_is_whole : C8.Cal P w K mg base 1 "is_whole" spWhole []) : C8.Cal P w K mg base 2 "need_prices" spPrices [] :=
  cal_mk T.f_need_prices T.g_need_prices S_need_prices B_need_prices (fun vs H Q E h => by obtain ⟨d, pr, rfl, _⟩ := h; rfl) fun cdv A outer s H vs Q E hr h => by
    obtain ⟨d, pr, rfl, hd, hg, k⟩ := h
    refine ⟨_, (pss_cons (ps_if (pt_not (pt_val (pe_callB (id := "isinstance") (isi_at (K := K) rfl) (by rfl) T.z_isinstance (by decide +kernel) (pa_cons (pv 0) (pa_cons (pe_bltn (v := .ty "dict") (u := .type "dict") (by rfl) T.z_dict (by decide +kernel) rfl) pa_nil))))) (pss_one ps_never) pss_nil) (pss_cons (ps_set (i := 1) S_need_prices.nd rfl (Or.inl rfl) pe_dnewK) (pss_cons (ps_for PassesOwn.never rfl (pi_tup (pe_glob (v := .ref (He.ga K "ROW_WORDS")) rfl T.g_ROW_WORDS rfl)) (pg_name (i := 2) S_need_prices.nd rfl (Or.inl rfl)) (pss_cons (ps_set (i := 3) S_need_prices.nd rfl (Or.inl rfl) (pe_dget1 (hu_of hr) (pv 0) (pv 2) ⟨rfl, rfl, rfl, rfl⟩)) (pss_cons (ps_if (PW.pt (pw_or (pt_not (pt_val (C8.pe_c (k_is_whole) hr (by omega) rfl (pa_cons (pv 3) pa_nil)))) (pw_or1 (pt_not (pt_chain op_le op_le pe_int (pv 3) (C8.pe_gc rfl (T.i_MOST_PRICE))))))) (pss_one ps_never) pss_nil) (pss_one (ps_dput (hu_of hr) (pv 1) (pv 2) (pv 3) rfl))))) (pss_one (ps_ret (pv 1)))))), ?_⟩
    refine ⟨_, rfl, _, _, _, _, true, rfl, .ty _, .base (.dK hd), kit_ty (by decide +kernel), true, rfl, iteF ?_⟩
    refine fun t ht => ?_
    have ntd : d ≠ t := ne_of_none hd ht
    refine ⟨_, rfl, ⟨_, words_at T _⟩, for_tup (K := K) (a := He.ga K "ROW_WORDS") (xs := rowWords.map V.str) (fun j σ H' => ∃ v2 v3, σ = [some (.ref d), some (.ref t), v2, v3] ∧ Ex H H' ∧ H' t = some (.dK (cntT pr j)))
      ⟨none, none, rfl, Ex.new ht, upd_same⟩ (fun j σ H' _ _ => words_at T _) ?_ ?_⟩
    · rintro j x σ H' hj ⟨v2, v3, rfl, e, a1⟩
      rw [List.getElem?_map] at hj
      obtain ⟨z, hz, rfl⟩ := Option.map_eq_some_iff.mp hj
      have hzm : z ∈ rowWords := List.mem_of_getElem? hz
      have g1 := DGet.k (k := Sum.inr z) (e _ _ hd)
      rw [cnt_get pr hzm] at g1
      refine ⟨_, rfl, d, rfl, .inl ⟨_, .inl (e _ _ hd)⟩, _, rfl, _, g1, ?_⟩
      refine ⟨_, rfl, _, rfl, true, rfl, iteF ?_⟩
      refine ⟨_, rfl, _, _, rfl, rfl, _, rfl, ?_⟩
      rw [decide_eq_true (hg z hzm).1]
      refine iteT ⟨_, _, rfl, rfl, _, rfl, ?_⟩
      rw [decide_eq_true (hg z hzm).2]
      refine iteF ?_
      have hl16 : (cntT pr j).length < sizeLine := by
        unfold cntT
        rw [List.length_map, List.length_take]
        exact Nat.lt_of_le_of_lt (Nat.min_le_right _ _) (by decide)
      refine ⟨_, rfl, _, rfl, _, rfl, t, _, rfl, DPut.k (k := Sum.inr z) a1 hl16, ?_⟩
      refine ⟨_, _, rfl, e.mut ht, ?_⟩
      rw [upd_same]
      exact congrArg (fun z => some (HO.dK z)) (cnt_add pr hz)
    · rintro σ H' ⟨v2, v3, rfl, e, a1⟩
      exact ⟨_, rfl, k t _ e a1⟩
theorem ok_summed (T : Tx K mg) (d lv : Nat) (hlv : 1 ≤ lv) (k_any_word : ∀ k : NT, C8.Met P w K mg base 1 (kC K k.1) "word" (spWord k.1) []) (k_summed : C8.Cal P w K mg base lv "summed" (spSummed K d) []) : C8.Cal P w K mg base (lv + 1) "summed" (spSummed K (d + 1)) [] :=
  cal_mk T.f_summed T.g_summed S_summed B_summed (fun vs H Q E h => by obtain ⟨l, pd, pr, its, i, rfl, _⟩ := h; rfl) fun cdv A outer s H vs Q E hr h => by
    obtain ⟨l, pd, pr, its, i, rfl, ⟨ps, hl, hps⟩, _, hdp, hg, hpd, k⟩ := h
    refine ⟨_, (pss_cons (ps_set (i := 2) S_summed.nd rfl (Or.inl rfl) pe_int) (pss_cons (ps_for PassesOwn.never rfl (pi_list (pv 0)) (pg_name (i := 3) S_summed.nd rfl (Or.inl rfl)) (pss_one (ps_if (pt_val (pe_callB (id := "isinstance") (isi_at (K := K) rfl) (by rfl) T.z_isinstance (by decide +kernel) (pa_cons (pv 3) (pa_cons (pe_glob (v := .ref (He.ga K "Turns")) rfl T.g_Turns rfl) pa_nil)))) (pss_one (ps_set (i := 2) S_summed.nd rfl (Or.inl rfl) (pe_op op_add (pv 2) (pe_op op_mul (pe_fld (pv 3) rfl) (pe_op op_add (pe_dget (hu_of hr) (pv 1) pe_str (fun _ _ => rfl)) (C8.pe_c (k_summed) hr (by omega) rfl (pa_cons (pe_fld (pv 3) rfl) (pa_cons (pv 1) pa_nil)))))))) (pss_one (ps_set (i := 2) S_summed.nd rfl (Or.inl rfl) (pe_op op_add (pv 2) (pe_dget (hu_of hr) (pv 1) (pe_mtA0 (k_any_word) hr (by omega) (pv 3)) (fun _ _ => rfl)))))))) (pss_one (ps_ret (pv 2))))), ?_⟩
    have hlen : ps.length = its.length := Paired.length hps
    refine ⟨_, rfl, l, rfl, ⟨_, SqL.of hl⟩, for_list (K := K) (a := l) (xs := ps.map V.ref) (fun j σ H' => ∃ v3, σ = [some (.ref l), some (.ref pd), some (.int (costOf pr (its.take j))), v3] ∧ Ex H H')
      ⟨none, rfl, Ex.refl H⟩ (fun j σ H' _ ⟨_, _, e⟩ => SqL.of (e _ _ hl)) ?_ ?_⟩
    · rintro j x σ H' hj ⟨v3, rfl, e⟩
      rw [List.getElem?_map] at hj
      obtain ⟨q, hq, rfl⟩ := Option.map_eq_some_iff.mp hj
      obtain ⟨it, hit, hat⟩ := pr_get hps hq
      have him := List.mem_of_getElem? hit
      have hat' := hat.ex e
      obtain ⟨dx, fs, hins, hno⟩ := hat'.ins
      obtain ⟨ty1, _, ty3⟩ := T.ty it.kd
      refine ⟨_, rfl, _, _, _, _, _, rfl, .own _, ty1 hins, ty3, _, rfl, ?_⟩
      cases it with
      | row r =>
        rw [show decide ((It.row r).kd = Kd.turns) = false from decide_eq_false (kd_nt r)]
        refine iteF ?_
        have g1 := DGet.k (k := Sum.inr r.kd.wd) (e _ _ hpd)
        rw [cnt_get pr (wd_in r.kd)] at g1
        refine ⟨_, rfl, _, rfl, ⟨r.kd, kd_nt r⟩, _, rfl, q, dx, fs, rfl, hins, hno _ (.inl rfl), q, rfl, pd, _, rfl, g1, _, _, rfl, rfl, ?_⟩
        exact ⟨_, by rw [cost_take hit]; rfl, e⟩
      | turns m rs =>
        rw [show decide ((It.turns m rs).kd = Kd.turns) = true from decide_eq_true rfl]
        refine iteT ?_
        have hd1 : 1 < d + 1 := hdp _ him
        have g := hg _ him
        obtain ⟨dx', l', hp', hrows⟩ := hat'
        have g1 := DGet.k (k := Sum.inr ("turns" : Str)) (e _ _ hpd)
        rw [cnt_get pr (show ("turns" : Str) ∈ rowWords from wd_in .turns)] at g1
        refine ⟨_, rfl, _, rfl, q, _, dx', _, _, rfl, hp', T.c_Turns, T.n_Turns_times, rfl, _, rfl, pd, _, rfl, g1, ?_⟩
        refine ⟨_, rfl, q, _, dx', _, _, rfl, hp', T.c_Turns, T.n_Turns_steps, rfl, _, rfl, l', pd, pr, rs.map .row, i, rfl, hrows.its, by omega, ?_, ?_, e _ _ hpd, fun H3 e3 => ?_⟩
        · intro it' hm
          obtain ⟨r, _, rfl⟩ := List.mem_map.mp hm
          show 0 < d
          omega
        · intro it' hm
          obtain ⟨r, hr', rfl⟩ := List.mem_map.mp hm
          exact g.2.2.2 r hr'
        · refine ⟨_, _, rfl, rfl, _, _, rfl, rfl, .inl ⟨by have := g.2.1; omega, by have := g.2.1; omega⟩, _, _, rfl, rfl, ?_⟩
          refine ⟨some (V.ref q), ?_, e.trans e3⟩
          rw [cost_take hit, cost_rows]
          rfl
    · rintro σ H' ⟨v3, rfl, e⟩
      rw [List.length_map, hlen, List.take_length]
      exact ⟨_, rfl, k _ e⟩
theorem ok_cost_of (T : Tx K mg) (k_check_steps : C8.Cal P w K mg base 6 "check_steps" (spCheck K) []) (k_need_prices : C8.Cal P w K mg base 2 "need_prices" spPrices []) (k_summed : C8.Cal P w K mg base 3 "summed" (spSummed K 2) []) : C8.Cal P w K mg base 7 "cost_of" (spCost K) [] :=
  cal_mk T.f_cost_of T.g_cost_of S_cost_of B_cost_of (fun vs H Q E h => by obtain ⟨i, l, pd, pr, its, rfl, _⟩ := h; rfl) fun cdv A outer s H vs Q E hr h => by
    obtain ⟨i, l, pd, pr, its, rfl, hI, hg, hw, hm, hpd, hpr, k⟩ := h
    refine ⟨_, (pss_cons (ps_expr (C8.pe_c (k_check_steps) hr (by omega) rfl (pa_cons (pv 0) (pa_cons (pv 1) pa_nil)))) (pss_one (ps_ret (C8.pe_c (k_summed) hr (by omega) rfl (pa_cons (pv 1) (pa_cons (C8.pe_c (k_need_prices) hr (by omega) rfl (pa_cons (pv 2) pa_nil)) pa_nil)))))), ?_⟩
    refine ⟨_, rfl, _, rfl, i, l, its, rfl, hI, hg, hw, hm, fun H1 e1 => ?_⟩
    refine ⟨_, rfl, _, rfl, pd, pr, rfl, e1 _ _ hpd, hpr, fun t H2 e2 ht => ?_⟩
    exact ⟨l, t, pr, its, i, rfl, hI.ex (e1.trans e2), by omega, fun it _ => dp_lt it, hg, ht, fun H3 e3 => k _ ((e1.trans e2).trans e3)⟩
end
end K76
set_option Elab.async false
set_option linter.all false
set_option maxRecDepth 100000
set_option maxHeartbeats 4000000
namespace K76
open PySem PySem.Spec PyProof.Rows L2
open Evl (Ex)
/-! ## rows as texts, plain -/
def nS (i : Int) : Str := Str.ofString (toString i)
def fieldS : V → Str
  | .non => "-"
  | .str s => s
  | .int i => nS i
  | _ => ""
def toldS (r : Rw) : List Str := (toldV r).map fieldS
def lineOf (r : Rw) : Str := Txt.join " " (toldS r)
inductive Tk where
  | row (r : Rw)
  | turns (n : Nat)
  | fin
def Tk.line : Tk → Str
  | .row r => lineOf r
  | .turns n => ("turns " : Str) ++ nS n
  | .fin => "end"
def It.tks : It → List Tk
  | .row r => [.row r]
  | .turns n rs => .turns n :: (rs.map .row ++ [.fin])
def tksOf (its : List It) : List Tk := its.flatMap It.tks
def textOf (its : List It) : Str := Txt.join "\n" ((tksOf its).map Tk.line)
def Rw.small : Rw → Prop
  | .set _ b => b < 64
  | .shift _ _ _ n => n < 64
  | .mark l _ _ => l < 64
  | _ => True
def Rw.tgood (r : Rw) : Prop := r.good 32 ∧ r.small
def It.tgood : It → Prop
  | .row r => r.tgood
  | .turns n rs => 1 ≤ n ∧ n < 64 ∧ rs ≠ [] ∧ ∀ r ∈ rs, r.tgood
/-! ### fields -/
def clean (s : Str) : Bool := decide (s.length ≤ 10) && s.cps.toList.all fun c => decide (c ≠ 32) && decide (c ≠ 10)
theorem clean_parts {s : Str} (h : clean s = true) : s.length ≤ 10 ∧ ∀ c ∈ TL.tl s, c ≠ 32 ∧ c ≠ 10 := by
  unfold clean at h
  simp only [Bool.and_eq_true, decide_eq_true_eq, List.all_eq_true] at h
  exact h
theorem clean_of {s : Str} (h1 : s.length ≤ 10) (h2 : ∀ c ∈ s.cps.toList, c ≠ 32 ∧ c ≠ 10) : clean s = true := by
  unfold clean
  simp only [Bool.and_eq_true, decide_eq_true_eq, List.all_eq_true]
  exact ⟨h1, h2⟩
theorem lf_clean : ∀ c ∈ ("abcdefghijklmnopqrstuvwxyz0123456789" : Str).cps.toList, c ≠ 32 ∧ c ≠ 10 := by decide +kernel
theorem reg_clean {s : Str} (h : isReg s = true) : clean s = true := by
  obtain ⟨_, h2, _, h4⟩ := isReg_parts h
  exact clean_of (by omega) fun c hc => lf_clean c (h4 c hc)
/-- what is asked of a small number's text -/
def numOk (n : Nat) : Bool := decide (1 ≤ (nS n).length) && decide ((nS n).length ≤ 2) && (decide ((nS n).cps.toList[0]? ≠ some 48) || decide (nS n = "0")) && ((nS n).cps.toList.all fun c => decide (c ∈ ("0123456789" : Str).cps.toList)) &&
  decide (PySem.intText? (nS n) = some (n : Int)) && clean (nS n) && decide (n.log2 < 1920)
theorem num_all : ∀ n : Fin 64, numOk n.val = true := by decide +kernel
structure NumOk (n : Nat) : Prop where
  l1 : 1 ≤ (nS n).length
  l2 : (nS n).length ≤ 2
  z : (nS n).cps.toList[0]? = some 48 → nS n = "0"
  ds : ∀ c ∈ (nS n).cps.toList, c ∈ ("0123456789" : Str).cps.toList
  rd : PySem.intText? (nS n) = some (n : Int)
  cl : clean (nS n) = true
  lg : n.log2 < 1920
theorem num_ok {n : Nat} (h : n < 64) : NumOk n := by
  have q := num_all ⟨n, h⟩
  have q : numOk n = true := q
  unfold numOk at q
  simp only [Bool.and_eq_true, Bool.or_eq_true, decide_eq_true_eq, List.all_eq_true] at q
  obtain ⟨⟨⟨⟨⟨⟨h1, h2⟩, h3⟩, h4⟩, h5⟩, h6⟩, h7⟩ := q
  exact ⟨h1, h2, fun e => h3.resolve_left fun z => z e, h4, h5, h6, h7⟩
theorem nat_of {i : Int} (h0 : 0 ≤ i) (h : i < 64) : ∃ n : Nat, n < 64 ∧ i = (n : Int) := ⟨i.toNat, by omega, by omega⟩
theorem wd_clean (k : Kd) : clean k.wd = true := by
  cases k with
  | pair j => cases j <;> decide +kernel
  | carry j => cases j <;> decide +kernel
  | shift j => cases j <;> decide +kernel
  | _ => decide +kernel
theorem told_clean {r : Rw} (h : r.tgood) : ∀ f ∈ toldS r, clean f = true := by
  obtain ⟨hg, hs⟩ := h
  intro f hf
  have hw := wd_clean r.kd
  have hn : ∀ i : Int, 0 ≤ i → i < 64 → clean (nS i) = true := fun i h0 h1 => by
    obtain ⟨n, hn, rfl⟩ := nat_of h0 h1
    exact (num_ok hn).cl
  have hf2 : f = r.kd.wd ∨ f ∈ (r.flds.map Prod.snd).map fieldS := List.mem_cons.mp hf
  rcases hf2 with rfl | hf2
  · exact hw
  cases r with
  | set g b =>
    simp only [Rw.flds, List.map_cons, List.map_nil, List.mem_cons, List.not_mem_nil, or_false] at hf2
    rcases hf2 with rfl | rfl
    · exact reg_clean hg.1
    · exact hn b hg.2.1 hs
  | copy g a =>
    simp only [Rw.flds, List.map_cons, List.map_nil, List.mem_cons, List.not_mem_nil, or_false] at hf2
    rcases hf2 with rfl | rfl
    · exact reg_clean hg.1
    · exact reg_clean hg.2
  | pair k g a b =>
    simp only [Rw.flds, List.map_cons, List.map_nil, List.mem_cons, List.not_mem_nil, or_false] at hf2
    rcases hf2 with rfl | rfl | rfl
    · exact reg_clean hg.1
    · exact reg_clean hg.2.1
    · exact reg_clean hg.2.2
  | carry k g c a b =>
    simp only [Rw.flds, List.map_cons, List.map_nil, List.mem_cons, List.not_mem_nil, or_false] at hf2
    rcases hf2 with rfl | rfl | rfl | rfl
    · exact reg_clean hg.2.1
    · cases c with
      | none => decide +kernel
      | some x => exact reg_clean (hg.1 x rfl)
    · exact reg_clean hg.2.2.1
    · exact reg_clean hg.2.2.2
  | shift k g a n =>
    simp only [Rw.flds, List.map_cons, List.map_nil, List.mem_cons, List.not_mem_nil, or_false] at hf2
    rcases hf2 with rfl | rfl | rfl
    · exact reg_clean hg.1
    · exact reg_clean hg.2.1
    · exact hn n hg.2.2.1 hs
  | pick g p a b =>
    simp only [Rw.flds, List.map_cons, List.map_nil, List.mem_cons, List.not_mem_nil, or_false] at hf2
    rcases hf2 with rfl | rfl | rfl | rfl
    · exact reg_clean hg.1
    · exact reg_clean hg.2.1
    · exact reg_clean hg.2.2.1
    · exact reg_clean hg.2.2.2
  | mark l m p =>
    simp only [Rw.flds, List.map_cons, List.map_nil, List.mem_cons, List.not_mem_nil, or_false] at hf2
    rcases hf2 with rfl | rfl | rfl
    · exact hn l hg.2.1 hs
    · rcases hg.1 with rfl | rfl | rfl <;> decide +kernel
    · exact reg_clean hg.2.2.2
theorem told_len (r : Rw) : 3 ≤ (toldS r).length ∧ (toldS r).length ≤ 5 := by cases r <;> exact ⟨by simp [toldS, toldV, Rw.flds], by simp [toldS, toldV, Rw.flds]⟩
/-! ### joined, split -/
theorem mem_joinL {S : List Nat} {c : Nat} : ∀ {ps : List (List Nat)}, c ∈ TL.joinL S ps → c ∈ S ∨ ∃ p ∈ ps, c ∈ p
  | [], h => by cases h
  | [p], h => .inr ⟨p, List.mem_cons_self, h⟩
  | p :: q :: r, h => by
    have h : c ∈ p ++ (S ++ TL.joinL S (q :: r)) := h
    rcases List.mem_append.mp h with h | h
    · exact .inr ⟨p, List.mem_cons_self, h⟩
    · rcases List.mem_append.mp h with h | h
      · exact .inl h
      · rcases mem_joinL h with h | ⟨z, hz, h⟩
        · exact .inl h
        · exact .inr ⟨z, List.mem_cons_of_mem _ hz, h⟩
theorem mem_join {y : Str} {c : Nat} {ps : List Str} (h : c ∈ TL.tl (Txt.join y ps)) : c ∈ TL.tl y ∨ ∃ p ∈ ps, c ∈ TL.tl p := by
  rw [TL.join_eq, TL.tl_join] at h
  rcases mem_joinL h with h | ⟨p, hp, h⟩
  · exact .inl h
  · obtain ⟨z, hz, rfl⟩ := List.mem_map.mp hp
    exact .inr ⟨z, hz, h⟩
theorem sum_le {l : List Nat} {k : Nat} (h : ∀ x ∈ l, x ≤ k) : l.sum ≤ l.length * k := by
  induction l with
  | nil => exact Nat.zero_le _
  | cons a r ih =>
    rw [List.sum_cons, List.length_cons, Nat.succ_mul]
    have h1 := h a List.mem_cons_self
    have h2 := ih fun x hx => h x (List.mem_cons_of_mem _ hx)
    omega
theorem join_bound {y : Str} {ps : List Str} {k : Nat} (h : ∀ p ∈ ps, p.length ≤ k) (hy : y.length = 1) : (ps.map (·.length)).sum + ps.length * y.length ≤ ps.length * (k + 1) ∧ (Txt.join y ps).length ≤ ps.length * (k + 1) := by
  have h1 := sum_le (l := ps.map (·.length)) (k := k) fun x hx => by
    obtain ⟨p, hp, rfl⟩ := List.mem_map.mp hx
    exact h p hp
  have h2 := StrLaws.join_length_le y ps
  rw [← TL.join_eq] at h2
  rw [List.length_map] at h1
  rw [hy] at h2 ⊢
  have e : ps.length * (k + 1) = ps.length * k + ps.length := Nat.mul_succ _ _
  rw [e]
  omega
theorem split_line {r : Rw} (h : r.tgood) : Txt.split (lineOf r) " " = toldS r :=
  TL.split_join (s := 32) (S := []) (by decide +kernel) (by decide +kernel) (fun z => by have := (told_len r).1; rw [z] at this; cases this) fun p hp hc => ((clean_parts (told_clean h p hp)).2 32 hc).1 rfl
theorem line_ne {r : Rw} (h : r.tgood) {z : Str} (hz : (Txt.split z " ").length ≤ 2) : lineOf r ≠ z := fun e => by
  have q := split_line h
  rw [e] at q
  have := (told_len r).1
  rw [← q] at this
  omega
theorem line_bound {r : Rw} (h : r.tgood) : ((toldS r).map (·.length)).sum + (toldS r).length * (" " : Str).length ≤ 16777216 ∧ (lineOf r).length ≤ 55 := by
  obtain ⟨h1, h2⟩ := join_bound (y := " ") (ps := toldS r) (k := 10) (fun p hp => (clean_parts (told_clean h p hp)).1) rfl
  have := (told_len r).2
  have h3 : (toldS r).length * (10 + 1) ≤ 55 := by omega
  exact ⟨by omega, Nat.le_trans h2 h3⟩
def Tk.tgood : Tk → Prop
  | .row r => r.tgood
  | .turns n => n < 64
  | .fin => True
theorem tk_line {t : Tk} (h : t.tgood) : t.line.length ≤ 60 ∧ t.line ≠ "" ∧ 10 ∉ TL.tl t.line := by
  cases t with
  | row r =>
    refine ⟨Nat.le_trans (line_bound h).2 (by decide), line_ne h (by decide +kernel), fun hc => ?_⟩
    rcases mem_join hc with hc | ⟨p, hp, hc⟩
    · exact absurd hc (by decide +kernel)
    · exact ((clean_parts (told_clean h p hp)).2 10 hc).2 rfl
  | turns n =>
    have q : ∀ n : Fin 64, (decide ((Tk.line (.turns n.val)).length ≤ 60) && !decide (Tk.line (.turns n.val) = "") && !decide (10 ∈ TL.tl (Tk.line (.turns n.val)))) = true := by decide +kernel
    have q := q ⟨n, h⟩
    simp only [Bool.and_eq_true, Bool.not_eq_true', decide_eq_true_eq, decide_eq_false_iff_not] at q
    exact ⟨q.1.1, q.1.2, q.2⟩
  | fin => exact ⟨by decide +kernel, by decide +kernel, by decide +kernel⟩
theorem split_turns {n : Nat} (h : n < 64) : Txt.split (Tk.line (.turns n)) " " = (["turns", nS n] : List Str) := by
  have q : ∀ n : Fin 64, Txt.split (Tk.line (.turns n.val)) " " = (["turns", nS n.val] : List Str) := by decide +kernel
  exact q ⟨n, h⟩
theorem turns_line {n : Nat} (h : n < 64) : Tk.line (.turns n) ≠ "end" := by
  have q : ∀ n : Fin 64, Tk.line (.turns n.val) ≠ "end" := by decide +kernel
  exact q ⟨n, h⟩
theorem split_fin : Txt.split (Tk.line .fin) " " = (["end"] : List Str) := by decide +kernel
theorem tks_good {its : List It} (h : ∀ it ∈ its, it.tgood) : ∀ t ∈ tksOf its, t.tgood := by
  intro t ht
  obtain ⟨it, hi, ht⟩ := List.mem_flatMap.mp ht
  have g := h it hi
  cases it with
  | row r =>
    rw [show It.tks (.row r) = [Tk.row r] from rfl, List.mem_singleton] at ht
    rw [ht]
    exact g
  | turns n rs =>
    rcases List.mem_cons.mp (show t ∈ Tk.turns n :: (rs.map .row ++ [.fin]) from ht) with rfl | ht
    · exact g.2.1
    · rcases List.mem_append.mp ht with ht | ht
      · obtain ⟨r, hr, rfl⟩ := List.mem_map.mp ht
        exact g.2.2.2 r hr
      · rw [List.mem_singleton.mp ht]
        exact True.intro
theorem split_text {its : List It} (hne : tksOf its ≠ []) (h : ∀ it ∈ its, it.tgood) : Txt.split (textOf its) "\n" = (tksOf its).map Tk.line ∧ textOf its ≠ "" := by
  have g := tks_good h
  have e : Txt.split (textOf its) "\n" = (tksOf its).map Tk.line :=
    TL.split_join (s := 10) (S := []) (by decide +kernel) (by decide +kernel) (fun z => hne (List.map_eq_nil_iff.mp z)) fun p hp => by
      obtain ⟨t, ht, rfl⟩ := List.mem_map.mp hp
      exact (tk_line (g t ht)).2.2
  refine ⟨e, fun z => ?_⟩
  rw [z, show Txt.split ("" : Str) "\n" = ([""] : List Str) by decide +kernel] at e
  cases q : tksOf its with
  | nil => exact hne q
  | cons t r =>
    rw [q] at e
    have e2 : ("" : Str) = t.line := (List.cons.inj e).1
    exact (tk_line (g t (by rw [q]; exact List.mem_cons_self))).2.1 e2.symm
theorem text_bound {its : List It} (h : ∀ it ∈ its, it.tgood) (hl : (tksOf its).length ≤ 1000) : (((tksOf its).map Tk.line).map (·.length)).sum + ((tksOf its).map Tk.line).length * ("\n" : Str).length ≤ 16777216 ∧ (textOf its).length ≤ 61000 := by
  obtain ⟨h1, h2⟩ := join_bound (y := "\n") (ps := (tksOf its).map Tk.line) (k := 60) (fun p hp => by
    obtain ⟨t, ht, rfl⟩ := List.mem_map.mp hp
    exact (tk_line (tks_good h t ht)).1) rfl
  rw [List.length_map] at h1 h2
  rw [List.length_map]
  have h3 : (tksOf its).length * (60 + 1) ≤ 61000 := by omega
  exact ⟨by omega, Nat.le_trans h2 h3⟩
/-! ### reading tokens -/
structure PSt where
  top : List It
  inner : Option (Nat × List Rw)
def PSt.step (p : PSt) : Tk → PSt
  | .row r => match p.inner with
    | none => ⟨p.top ++ [.row r], none⟩
    | some (n, rs) => ⟨p.top, some (n, rs ++ [r])⟩
  | .turns n => ⟨p.top, some (n, [])⟩
  | .fin => match p.inner with
    | none => p
    | some (n, rs) => ⟨p.top ++ [.turns n rs], none⟩
theorem fold_rows (t : List It) (n : Nat) (r2 : List Tk) : ∀ (rs r0 : List Rw), (rs.map Tk.row ++ r2).foldl PSt.step ⟨t, some (n, r0)⟩ = r2.foldl PSt.step ⟨t, some (n, r0 ++ rs)⟩
  | [], r0 => by rw [List.append_nil]; rfl
  | r :: rs, r0 => by
    have e := fold_rows t n r2 rs (r0 ++ [r])
    rw [List.append_assoc] at e
    exact e
theorem fold_tks : ∀ (its t : List It), (tksOf its).foldl PSt.step ⟨t, none⟩ = ⟨t ++ its, none⟩
  | [], t => by rw [List.append_nil]; rfl
  | .row r :: its, t => by
    have e := fold_tks its (t ++ [.row r])
    rw [List.append_assoc] at e
    exact e
  | .turns n rs :: its, t => by
    have e := fold_tks its (t ++ [.turns n rs])
    rw [List.append_assoc] at e
    show ((Tk.turns n :: (rs.map Tk.row ++ [Tk.fin])) ++ tksOf its).foldl PSt.step ⟨t, none⟩ = _
    rw [List.cons_append, List.append_assoc]
    show ((rs.map Tk.row) ++ ([Tk.fin] ++ tksOf its)).foldl PSt.step ⟨t, some (n, [])⟩ = _
    rw [fold_rows]
    exact e
end K76
set_option Elab.async false
set_option linter.all false
set_option maxRecDepth 100000
set_option maxHeartbeats 4000000
namespace K76
open PySem PySem.Spec PyProof.Rows L2
open Evl (Ex)
/-! ## rows are written -/
def fieldOk (v : V) : Prop := v = .non ∨ (∃ s, v = .str s) ∨ ∃ n : Nat, n < 64 ∧ v = .int n
theorem told_ok {r : Rw} (h : r.tgood) : ∀ v ∈ toldV r, fieldOk v := by
  obtain ⟨hg, hs⟩ := h
  intro v hv
  have hv2 : v = .str r.kd.wd ∨ v ∈ r.flds.map Prod.snd := List.mem_cons.mp hv
  rcases hv2 with rfl | hv2
  · exact .inr (.inl ⟨_, rfl⟩)
  cases r with
  | set g b =>
    simp only [Rw.flds, List.map_cons, List.map_nil, List.mem_cons, List.not_mem_nil, or_false] at hv2
    rcases hv2 with rfl | rfl
    · exact .inr (.inl ⟨_, rfl⟩)
    · obtain ⟨n, hn, rfl⟩ := nat_of hg.2.1 hs
      exact .inr (.inr ⟨n, hn, rfl⟩)
  | copy g a =>
    simp only [Rw.flds, List.map_cons, List.map_nil, List.mem_cons, List.not_mem_nil, or_false] at hv2
    rcases hv2 with rfl | rfl <;> exact .inr (.inl ⟨_, rfl⟩)
  | pair k g a b =>
    simp only [Rw.flds, List.map_cons, List.map_nil, List.mem_cons, List.not_mem_nil, or_false] at hv2
    rcases hv2 with rfl | rfl | rfl <;> exact .inr (.inl ⟨_, rfl⟩)
  | carry k g c a b =>
    simp only [Rw.flds, List.map_cons, List.map_nil, List.mem_cons, List.not_mem_nil, or_false] at hv2
    rcases hv2 with rfl | rfl | rfl | rfl
    · exact .inr (.inl ⟨_, rfl⟩)
    · cases c with
      | none => exact .inl rfl
      | some x => exact .inr (.inl ⟨_, rfl⟩)
    · exact .inr (.inl ⟨_, rfl⟩)
    · exact .inr (.inl ⟨_, rfl⟩)
  | shift k g a n =>
    simp only [Rw.flds, List.map_cons, List.map_nil, List.mem_cons, List.not_mem_nil, or_false] at hv2
    rcases hv2 with rfl | rfl | rfl
    · exact .inr (.inl ⟨_, rfl⟩)
    · exact .inr (.inl ⟨_, rfl⟩)
    · obtain ⟨m, hm, rfl⟩ := nat_of hg.2.2.1 hs
      exact .inr (.inr ⟨m, hm, rfl⟩)
  | pick g p a b =>
    simp only [Rw.flds, List.map_cons, List.map_nil, List.mem_cons, List.not_mem_nil, or_false] at hv2
    rcases hv2 with rfl | rfl | rfl | rfl <;> exact .inr (.inl ⟨_, rfl⟩)
  | mark l m p =>
    simp only [Rw.flds, List.map_cons, List.map_nil, List.mem_cons, List.not_mem_nil, or_false] at hv2
    rcases hv2 with rfl | rfl | rfl
    · obtain ⟨n, hn, rfl⟩ := nat_of hg.2.1 hs
      exact .inr (.inr ⟨n, hn, rfl⟩)
    · exact .inr (.inl ⟨_, rfl⟩)
    · exact .inr (.inl ⟨_, rfl⟩)
def lineV (its : List It) : List V := ((tksOf its).map Tk.line).map V.str
theorem tks_take {its : List It} {i : Nat} {it : It} (h : its[i]? = some it) : tksOf (its.take (i + 1)) = tksOf (its.take i) ++ it.tks ∧ (tksOf (its.take (i + 1))).length ≤ (tksOf its).length := by
  have hi := (List.getElem?_eq_some_iff.mp h).1
  have e := (List.getElem?_eq_some_iff.mp h).2
  constructor
  · unfold tksOf
    rw [← List.take_append_getElem hi, List.flatMap_append, e]
    simp
  · have e2 : tksOf its = tksOf (its.take (i + 1)) ++ tksOf (its.drop (i + 1)) := by
      unfold tksOf
      rw [← List.flatMap_append, List.take_append_drop]
    rw [e2, List.length_append]
    omega
theorem tks_rows (rs : List Rw) : tksOf (rs.map .row) = rs.map .row := by
  induction rs with
  | nil => rfl
  | cons r rs ih =>
    show [Tk.row r] ++ tksOf (rs.map .row) = _
    rw [ih]
    rfl
def spField : Sp := fun vs H Q _ => ∃ v : V, vs = [v] ∧ fieldOk v ∧ Q (.str (fieldS v)) H
def spLines (K : PySem.W.Frag) (d : Nat) : Sp := fun vs H Q _ => ∃ (l : Addr) (its : List It), vs = [.ref l] ∧ ItsAt K H l its ∧ 1 ≤ d ∧ (∀ it ∈ its, it.dp < d) ∧ (∀ it ∈ its, it.tgood) ∧ (tksOf its).length ≤ 1000 ∧ ∀ t H', Ex H H' → H' t = some (.lst (lineV its)) → Q (.ref t) H'
def spText (K : PySem.W.Frag) : Sp := fun vs H Q _ => ∃ (l : Addr) (its : List It), vs = [.ref l] ∧ ItsAt K H l its ∧ (∀ it ∈ its, it.tgood) ∧ (tksOf its).length ≤ 1000 ∧ ∀ H', Ex H H' → Q (.str (textOf its)) H'
def spNum : Sp := fun vs H Q _ => ∃ n : Nat, vs = [.str (nS n)] ∧ n < 64 ∧ Q (.int n) H
section
variable {P : Program} {w : World} {K : PySem.W.Frag} {mg : Str → Option Value} {base : Heap}
theorem log_nat {n : Nat} (h : n < 64) : ((n : Nat) : Int).natAbs.log2 < 1920 := by rw [Int.natAbs_natCast]; exact (num_ok h).lg
theorem ok_field_text (T : Tx K mg) : C8.Cal P w K mg base 1 "field_text" spField [] :=
  cal_mk T.f_field_text T.g_field_text S_field_text B_field_text (fun vs H Q E h => by obtain ⟨v, rfl, _⟩ := h; rfl) fun cdv A outer s H vs Q E hr h => by
    obtain ⟨v, rfl, hv, k⟩ := h
    refine ⟨_, (pss_cons (ps_if (pt_cmpR op_isN (pv 0) pe_non (nomark _)) (pss_one (ps_ret pe_str)) pss_nil) (pss_one (ps_ret (pe_callTy (T := "str") call_str_any (by rfl) T.z_str (by decide +kernel) (pa_cons (pv 0) pa_nil))))), ?_⟩
    refine ⟨_, rfl, rfl, _, rfl, ?_⟩
    rcases hv with rfl | ⟨x, rfl⟩ | ⟨n, hn, rfl⟩
    · exact iteT k
    · exact iteF ⟨_, rfl, .inl ⟨_, rfl, k⟩⟩
    · exact iteF ⟨_, rfl, .inr ⟨_, rfl, log_nat hn, k⟩⟩
theorem ok_lines_of (T : Tx K mg) (d lv : Nat) (hlv : 2 ≤ lv) (k_any_told : ∀ k : NT, C8.Met P w K mg base 2 (kC K k.1) "told" (spTold K k.1) []) (k_field_text : C8.Cal P w K mg base 1 "field_text" spField []) (k_lines_of : C8.Cal P w K mg base lv "lines_of" (spLines K d) []) : C8.Cal P w K mg base (lv + 1) "lines_of" (spLines K (d + 1)) [] :=
  cal_mk T.f_lines_of T.g_lines_of S_lines_of B_lines_of (fun vs H Q E h => by obtain ⟨l, its, rfl, _⟩ := h; rfl) fun cdv A outer s H vs Q E hr h => by
    obtain ⟨l, its, rfl, ⟨ps, hl, hps⟩, _, hdp, hg, hlen0, k⟩ := h
    refine ⟨_, (pss_cons (ps_set (i := 1) S_lines_of.nd rfl (Or.inl rfl) (pe_lst pa_nil)) (pss_cons (ps_for PassesOwn.never rfl (pi_list (pv 0)) (pg_name (i := 2) S_lines_of.nd rfl (Or.inl rfl)) (pss_one (ps_if (pt_val (pe_callB (id := "isinstance") (isi_at (K := K) rfl) (by rfl) T.z_isinstance (by decide +kernel) (pa_cons (pv 2) (pa_cons (pe_glob (v := .ref (He.ga K "Turns")) rfl T.g_Turns rfl) pa_nil)))) (pss_cons (ps_expr (pe_bm PySem.F.plainAttrs_list PySem.F.slot_list_append PySem.F.type_list_append mt_append (pv 1) (pa_cons (pe_op op_add_str pe_str (pe_callTy (T := "str") call_str_any (by rfl) T.z_str (by decide +kernel) (pa_cons (pe_fld (pv 2) rfl) pa_nil))) pa_nil))) (pss_cons (ps_expr (pe_bm PySem.F.plainAttrs_list PySem.F.slot_list_extend PySem.F.type_list_extend mt_extend (pv 1) (pa_cons (C8.pe_c (k_lines_of) hr (by omega) rfl (pa_cons (pe_fld (pv 2) rfl) pa_nil)) pa_nil))) (pss_one (ps_expr (pe_bm PySem.F.plainAttrs_list PySem.F.slot_list_append PySem.F.type_list_append mt_append (pv 1) (pa_cons pe_str pa_nil)))))) (pss_one (ps_expr (pe_bm PySem.F.plainAttrs_list PySem.F.slot_list_append PySem.F.type_list_append mt_append (pv 1) (pa_cons (pe_join pe_str (pe_lc (own := [("thing", 3)]) (g := gName 3) (tt := tYes) rfl S_lines_of.nd (pi_tup (pe_mtA0 (k_any_told) hr (by omega) (pv 2))) (blkOk_by (N := ["steps", "lines", "step", "thing"]) (sc := C8.fnScope s_lines_of) (by decide +kernel)) (fun _ _ _ _ _ => pg_name (i := 3) S_lines_of.nd rfl (Or.inl rfl)) (fun _ _ _ _ _ => pts_nil) (fun _ _ _ _ _ => (C8.pe_c (k_field_text) hr (by omega) rfl (pa_cons (pv 3) pa_nil))))) pa_nil))))))) (pss_one (ps_ret (pv 1))))), ?_⟩
    have hlen : ps.length = its.length := Paired.length hps
    refine ⟨Nat.zero_le _, fun L hL => ?_⟩
    refine ⟨_, rfl, l, rfl, ⟨_, SqL.of ((Ex.new hL) _ _ hl)⟩, for_list (K := K) (a := l) (xs := ps.map V.ref) (fun j σ H' => ∃ v2, σ = [some (.ref l), some (.ref L), v2, none] ∧ Ex H H' ∧ H' L = some (.lst (lineV (its.take j))))
      ⟨none, rfl, Ex.new hL, upd_same⟩ (fun j σ H' _ ⟨_, _, e, _⟩ => SqL.of (e _ _ hl)) ?_ ?_⟩
    · rintro j x σ H' hj ⟨v2, rfl, e, hLs⟩
      rw [List.getElem?_map] at hj
      obtain ⟨q, hq, rfl⟩ := Option.map_eq_some_iff.mp hj
      obtain ⟨it, hit, hat⟩ := pr_get hps hq
      have him := List.mem_of_getElem? hit
      have hat' := hat.ex e
      obtain ⟨dx, fs, hins, hno⟩ := hat'.ins
      obtain ⟨ty1, _, ty3⟩ := T.ty it.kd
      obtain ⟨tk1, tk2⟩ := tks_take hit
      have hz : (lineV (its.take j)).length ≤ 1000 := by
        unfold lineV
        rw [List.length_map, List.length_map]
        rw [tk1, List.length_append] at tk2
        omega
      have hz' : (lineV (its.take j)).length < sizeLine := Nat.lt_of_le_of_lt hz (by decide)
      refine ⟨_, rfl, _, _, _, _, _, rfl, .own _, ty1 hins, ty3, _, rfl, ?_⟩
      cases it with
      | row r =>
        rw [show decide ((It.row r).kd = Kd.turns) = false from decide_eq_false (kd_nt r)]
        refine iteF ?_
        have gr : r.tgood := hg _ him
        refine ⟨_, rfl, .inl ⟨rfl, _, SqL.of hLs⟩, ⟨_, rfl⟩, ?_⟩
        refine ⟨⟨r.kd, kd_nt r⟩, _, rfl, q, dx, fs, rfl, hins, hno _ (.inr (.inl rfl)), q, r, rfl, hat', rfl, fun t ht => ?_⟩
        refine ⟨t, rfl, ⟨_, SqT.of upd_same⟩, fun D hD => lc_tup (K := K) (a := t) (xs := toldV r) (fun i H3 => Ex (upd H' t (.tup (toldV r))) H3 ∧ H3 D = some (.lst (((toldS r).take i).map V.str))) ⟨Ex.new hD, upd_same⟩ (fun i H3 _ z => SqT.of (z.1 _ _ upd_same)) ?_ ?_⟩
        · rintro i x H3 hi ⟨e3, hl3⟩
          have hi5 : i < 5 := by
            have := (List.getElem?_eq_some_iff.mp hi).1
            have h5 := (told_len r).2
            unfold toldS at h5
            rw [List.length_map] at h5
            omega
          refine ⟨rfl, ?_⟩
          refine ⟨_, rfl, x, rfl, told_ok gr x (List.mem_of_getElem? hi), _, hl3, by rw [List.length_map, List.length_take]; exact Nat.lt_of_le_of_lt (Nat.le_trans (Nat.min_le_left _ _) (Nat.le_of_lt hi5)) (by decide), Ex.mut e3 hD, ?_⟩
          have hi' : (toldS r)[i]? = some (fieldS x) := by
            unfold toldS
            rw [List.getElem?_map, hi]
            rfl
          have hlt := (List.getElem?_eq_some_iff.mp hi').1
          rw [upd_same, ← List.take_append_getElem hlt, List.map_append, (List.getElem?_eq_some_iff.mp hi').2]
          rfl
        · rintro H3 ⟨e3, hl3⟩
          have el : (toldV r).length = (toldS r).length := by unfold toldS; rw [List.length_map]
          rw [el, List.take_length] at hl3
          refine ⟨" ", D, toldS r, rfl, rfl, .inl (SqL.of hl3), (line_bound gr).1, ?_⟩
          have e4 := (Ex.new (o := .tup (toldV r)) ht).trans e3
          refine ⟨L, _, _, rfl, rfl, e4 _ _ hLs, hz', ?_⟩
          refine ⟨_, rfl, (e.trans e4).mut hL, ?_⟩
          rw [upd_same]
          unfold lineV
          rw [tk1, List.map_append, List.map_append]
          rfl
      | turns n rs =>
        rw [show decide ((It.turns n rs).kd = Kd.turns) = true from decide_eq_true rfl]
        refine iteT ?_
        have hd1 : 1 < d + 1 := hdp _ him
        have g := hg _ him
        obtain ⟨dx', l', hp', hrows⟩ := hat
        have hp2 := e _ _ hp'
        refine ⟨_, rfl, .inl ⟨rfl, _, SqL.of hLs⟩, ?_⟩
        refine ⟨_, rfl, q, _, dx', _, _, rfl, hp2, T.c_Turns, T.n_Turns_times, rfl, .inr ⟨_, rfl, log_nat g.2.1, ?_⟩⟩
        refine ⟨_, _, rfl, rfl, Nat.le_trans (Nat.add_le_add (Nat.le_refl 6) (num_ok g.2.1).l2) (by decide), ?_⟩
        refine ⟨L, _, _, rfl, rfl, hLs, hz', ?_⟩
        have eA := e.mut (o := .lst (lineV (its.take j) ++ [V.str (("turns " : Str) ++ nS n)])) hL
        refine ⟨_, rfl, .inl ⟨rfl, _, SqL.of upd_same⟩, ?_⟩
        refine ⟨_, rfl, q, _, dx', _, _, rfl, eA _ _ hp', T.c_Turns, T.n_Turns_steps, rfl, l', rs.map .row, rfl, (hrows.ex eA).its, by omega, ?_, ?_, ?_, fun t H3 e3 ht => ?_⟩
        · intro it' hm
          obtain ⟨r, _, rfl⟩ := List.mem_map.mp hm
          show 0 < d
          omega
        · intro it' hm
          obtain ⟨r, hr', rfl⟩ := List.mem_map.mp hm
          exact g.2.2.2 r hr'
        · rw [tk1, List.length_append] at tk2
          have : (It.turns n rs).tks.length = rs.length + 2 := by
            show (Tk.turns n :: (rs.map Tk.row ++ [Tk.fin])).length = _
            rw [List.length_cons, List.length_append, List.length_map]
            rfl
          rw [tks_rows, List.length_map]
          omega
        · have hLt : (lineV (rs.map .row)).length ≤ 1000 := by
            unfold lineV
            rw [List.length_map, List.length_map, tks_rows, List.length_map]
            rw [tk1, List.length_append] at tk2
            have : (It.turns n rs).tks.length = rs.length + 2 := by
              show (Tk.turns n :: (rs.map Tk.row ++ [Tk.fin])).length = _
              rw [List.length_cons, List.length_append, List.length_map]
              rfl
            omega
          refine ⟨L, t, _, _, rfl, rfl, e3 _ _ upd_same, ht, ?_, ?_⟩
          · rw [List.length_append, List.length_singleton]
            exact Nat.le_trans (Nat.add_le_add (Nat.add_le_add hz (Nat.le_refl 1)) hLt) (by decide)
          have eB := eA.trans e3
          refine ⟨_, rfl, .inl ⟨rfl, _, SqL.of upd_same⟩, ?_⟩
          refine ⟨L, _, _, rfl, rfl, upd_same, ?_, ?_⟩
          · rw [List.length_append, List.length_append, List.length_singleton]
            exact Nat.lt_of_le_of_lt (Nat.add_le_add (Nat.add_le_add hz (Nat.le_refl 1)) hLt) (by decide)
          refine ⟨_, rfl, (eB.mut hL).mut hL, ?_⟩
          rw [upd_same]
          unfold lineV
          rw [tk1, tks_rows]
          show _ = some (HO.lst (List.map V.str (List.map Tk.line (tksOf (List.take j its) ++ (Tk.turns n :: (rs.map Tk.row ++ [Tk.fin]))))))
          simp only [List.map_append, List.map_cons, List.map_nil, List.append_assoc, List.cons_append, List.nil_append]
          rfl
    · rintro σ H' ⟨v2, rfl, e, hLs⟩
      rw [List.length_map, hlen, List.take_length] at hLs
      exact ⟨_, rfl, k L _ e hLs⟩
theorem ok_steps_text (T : Tx K mg) (k_lines_of : C8.Cal P w K mg base 4 "lines_of" (spLines K 2) []) : C8.Cal P w K mg base 5 "steps_text" (spText K) [] :=
  cal_mk T.f_steps_text T.g_steps_text S_steps_text B_steps_text (fun vs H Q E h => by obtain ⟨l, its, rfl, _⟩ := h; rfl) fun cdv A outer s H vs Q E hr h => by
    obtain ⟨l, its, rfl, hI, hg, hz, k⟩ := h
    refine ⟨_, (pss_one (ps_ret (pe_join pe_str (C8.pe_c (k_lines_of) hr (by omega) rfl (pa_cons (pv 0) pa_nil))))), ?_⟩
    refine ⟨⟨_, rfl⟩, _, rfl, l, its, rfl, hI, by omega, fun it _ => dp_lt it, hg, hz, fun t H' e ht => ?_⟩
    exact ⟨"\n", t, (tksOf its).map Tk.line, rfl, rfl, .inl (SqL.of ht), (text_bound hg hz).1, k _ e⟩
theorem ok_number_in (T : Tx K mg) : C8.Cal P w K mg base 1 "number_in" spNum [] :=
  cal_mk T.f_number_in T.g_number_in S_number_in B_number_in (fun vs H Q E h => by obtain ⟨n, rfl, _⟩ := h; rfl) fun cdv A outer s H vs Q E hr h => by
    obtain ⟨n, rfl, hn, k⟩ := h
    refine ⟨_, (pss_cons (ps_if (PW.pt (pw_or (pt_not (pt_chain op_le op_le pe_int (pe_callB (id := "len") call_len_str (by rfl) T.z_len (by decide +kernel) (pa_cons (pv 0) pa_nil)) (C8.pe_gc rfl (T.i_LONGEST_NUMBER)))) (pw_or1 (PW.pt (pw_and (pt_cmpR op_eq (pe_ix ix_str (pv 0) pe_int (fun _ _ => rfl)) pe_str (nomark _)) (pw_and1 (pt_cmpR op_ne (pv 0) pe_str (nomark _)))))))) (pss_one (ps_ret pe_non)) pss_nil) (pss_cons (ps_for PassesOwn.never rfl (pi_str (pv 0)) (pg_name (i := 1) S_number_in.nd rfl (Or.inl rfl)) (pss_one (ps_if (pt_cmpR op_notIn_sign (pv 1) pe_str (by rfl)) (pss_one (ps_ret pe_non)) pss_nil))) (pss_one (ps_ret (pe_callTy (T := "int") call_int_str (by rfl) T.z_int (by decide +kernel) (pa_cons (pv 0) pa_nil)))))), ?_⟩
    obtain ⟨l1, l2, z0, ds, rd, cl, lg⟩ := num_ok hn
    have hc : ∃ c, (nS n).cps.toList[0]? = some c := by
      rw [TL.len_tl] at l1
      exact ⟨(TL.tl (nS n))[0]'(by omega), List.getElem?_eq_getElem _⟩
    obtain ⟨c, hc⟩ := hc
    have hs : (nS n).length ≤ sizeLine := Nat.le_trans l2 (by decide)
    refine ⟨_, rfl, nS n, rfl, hs, _, _, rfl, rfl, _, rfl, ?_⟩
    rw [show decide ((1 : Int) ≤ ((nS n).length : Int)) = true from decide_eq_true (by omega)]
    refine iteT ⟨_, _, rfl, rfl, _, rfl, ?_⟩
    rw [show decide (((nS n).length : Int) ≤ (10 : Int)) = true from decide_eq_true (by omega)]
    refine iteF ?_
    refine ⟨_, rfl, nS n, 0, c, rfl, rfl, hs, atI_nat (j := 0) hc, rfl, _, rfl, ?_⟩
    have rest : tSeq (tFor (iStr (tVar 0)) (gName 1) (tIfS (tTest (tOp (fun x y H Q => ∃ (c : Nat) (z : Str), x = .str ⟨#[c]⟩ ∧ y = .str z ∧ Q (.bl (!decide (c ∈ z.cps.toList))) H) (tVar 1) (tC (.str "0123456789")))) (tRet (tC .non)) tNext)) (tRet (tCB (fun xs H Q => ∃ a n, xs = [.str a] ∧ PySem.intText? a = some n ∧ a.length ≤ 640 ∧ Q (.int n) H) (tCons (tVar 0) tNil))) { nx := fun _ H' => Q .non H', rt := Q } (L2.start ["text", "sign"] [V.str (nS n)]) H := by
      refine ⟨_, rfl, _, rfl, for_it walk_str (fun _ σ H' => ∃ v1, σ = [some (.str (nS n)), v1] ∧ H' = H) ⟨none, rfl, rfl⟩ (fun _ _ _ _ _ => True.intro) ?_ ?_⟩
      · rintro i x σ H1 H' hi ⟨v1, rfl, rfl⟩ ⟨rfl, c', hc', rfl⟩
        have hm : c' ∈ (nS n).cps.toList := by
          rw [Array.getElem?_eq_some_iff] at hc'
          obtain ⟨q1, q2⟩ := hc'
          rw [← q2]
          exact Array.mem_toList_iff.mpr (Array.getElem_mem q1)
        refine ⟨_, rfl, c', _, rfl, rfl, _, rfl, ?_⟩
        rw [decide_eq_true (ds c' hm)]
        exact iteF ⟨_, rfl, rfl⟩
      · rintro σ H' ⟨v1, rfl, rfl⟩
        exact ⟨_, rfl, _, _, rfl, rd, Nat.le_trans l2 (by decide), k⟩
    by_cases h0 : c = 48
    · subst h0
      have ez := z0 hc
      rw [show decide (V.str ⟨#[48]⟩ = V.str "0") = true by decide +kernel]
      refine iteT ?_
      refine ⟨_, rfl, rfl, _, rfl, ?_⟩
      rw [show (!decide (V.str (nS n) = V.str "0")) = false by rw [ez]; decide +kernel]
      exact iteF rest
    · rw [decide_eq_false (show ¬ V.str ⟨#[c]⟩ = V.str "0" from fun z => h0 (by
        have z1 := V.str.inj z
        have z2 : TL.tl ⟨#[c]⟩ = TL.tl ("0" : Str) := by rw [z1]
        have z3 : TL.tl ("0" : Str) = [48] := by decide +kernel
        rw [z3] at z2
        exact (List.cons.inj z2).1))]
      exact iteF (iteF rest)
end
end K76
set_option Elab.async false
set_option linter.all false
set_option maxRecDepth 100000
set_option maxHeartbeats 4000000
namespace K76
open PySem PySem.Spec PyProof.Rows L2
open Evl (Ex)
/-! ## a line's words as a row -/
theorem ifSN {a b : Str} {A B : Prop} (h : ¬ a = b) (q : B) : if decide (V.str a = V.str b) = true then A else B := by
  rw [decide_eq_false (fun z => h (V.str.inj z))]
  exact iteF q
theorem ifSY {a : Str} {A B : Prop} (q : A) : if decide (V.str a = V.str a) = true then A else B := by
  rw [decide_eq_true rfl]
  exact iteT q
theorem ifLN {ws : List Str} {m : Int} {A B : Prop} (h : ¬ (ws.length : Int) = m) (q : B) : if decide (V.int (((ws.map V.str).length : Nat) : Int) = V.int m) = true then A else B := by
  rw [decide_eq_false (fun z => h (by have := V.int.inj z; rw [List.length_map] at this; exact this))]
  exact iteF q
theorem ifLY {ws : List Str} {m : Int} {A B : Prop} (h : (ws.length : Int) = m) (q : A) : if decide (V.int (((ws.map V.str).length : Nat) : Int) = V.int m) = true then A else B := by
  rw [decide_eq_true (by rw [List.length_map, h])]
  exact iteT q
theorem made_ex {H : Hp} {x dx : Addr} {o1 o2 o3 : HO} (nx : H x = none) (nd : H dx = none) : Ex H (upd (upd (upd H dx o1) x o2) x o3) := fun b o e => by
  rw [upd_ne (ne_of_none e nx), upd_ne (ne_of_none e nx), upd_ne (ne_of_none e nd)]
  exact e
/-- what making a row gives -/
def RowNew (K : PySem.W.Frag) (r : Rw) (H : Hp) (Q : VK) : Prop := ∀ p H', Ex H H' → RowAt K H' p r → Q (.ref p) H'
def spPairRow (K : PySem.W.Frag) : Sp := fun vs H Q _ => ∃ (j : PK) (g a b : Str), vs = [.str (Kd.pair j).wd, .str g, .str a, .str b] ∧ RowNew K (.pair j g a b) H Q
def spFour (K : PySem.W.Frag) : Sp := fun vs H Q _ => ∃ (r : Rw) (w a b c : Str), vs = [.str w, .str a, .str b, .str c] ∧ toldS r = [w, a, b, c] ∧ r.tgood ∧ RowNew K r H Q
def spFive (K : PySem.W.Frag) : Sp := fun vs H Q _ => ∃ (r : Rw) (w a b c d : Str), vs = [.str w, .str a, .str b, .str c, .str d] ∧ toldS r = [w, a, b, c, d] ∧ r.tgood ∧ RowNew K r H Q
def spRowOf (K : PySem.W.Frag) : Sp := fun vs H Q _ => ∃ (wl : Addr) (ws : List Str), vs = [.ref wl] ∧ H wl = some (.lst (ws.map V.str)) ∧ ((∃ r : Rw, ws = toldS r ∧ r.tgood ∧ RowNew K r H Q) ∨ (ws.length ≤ 2 ∧ Q .non H))
def spTurnsOf (K : PySem.W.Frag) : Sp := fun vs H Q _ => ∃ (wl : Addr) (ws : List Str), vs = [.ref wl] ∧ H wl = some (.lst (ws.map V.str)) ∧ ((∃ n : Nat, n < 64 ∧ ws = (["turns", nS n] : List Str) ∧ ∀ p l dx H', Ex H H' → H l = none → H' p = some (.ins (kC K .turns) dx [("times", .int n), ("steps", .ref l)]) → H' l = some (.lst []) → Q (.ref p) H') ∨ (ws.length ≠ 2 ∧ Q .non H))
section
variable {P : Program} {w : World} {K : PySem.W.Frag} {mg : Str → Option Value} {base : Heap}
theorem ok_pair_row (T : Tx K mg) (k_Low_init : C8.Mak P w K mg base 1 "Low" (He.ga K "Low") (spI3 (He.ga K "Low") "goal" "one" "other") []) (k_High_init : C8.Mak P w K mg base 1 "High" (He.ga K "High") (spI3 (He.ga K "High") "goal" "one" "other") [])
    (k_Or_init : C8.Mak P w K mg base 1 "Or" (He.ga K "Or") (spI3 (He.ga K "Or") "goal" "one" "other") []) (k_Unlike_init : C8.Mak P w K mg base 1 "Unlike" (He.ga K "Unlike") (spI3 (He.ga K "Unlike") "goal" "one" "other") [])
    (k_Under_init : C8.Mak P w K mg base 1 "Under" (He.ga K "Under") (spI3 (He.ga K "Under") "goal" "one" "other") []) : C8.Cal P w K mg base 3 "pair_row" (spPairRow K) [] :=
  cal_mk T.f_pair_row T.g_pair_row S_pair_row B_pair_row (fun vs H Q E h => by obtain ⟨j, g, a, b, rfl, _⟩ := h; rfl) fun cdv A outer s H vs Q E hr h => by
    obtain ⟨j, g, a, b, rfl, k⟩ := h
    refine ⟨_, (pss_cons (ps_if (pt_cmpR op_eq (pv 0) pe_str (nomark _)) (pss_one (ps_ret (C8.pe_mk (k_Low_init) hr (by omega) rfl (pa_cons (pv 1) (pa_cons (pv 2) (pa_cons (pv 3) pa_nil)))))) pss_nil) (pss_cons (ps_if (pt_cmpR op_eq (pv 0) pe_str (nomark _)) (pss_one (ps_ret (C8.pe_mk (k_High_init) hr (by omega) rfl (pa_cons (pv 1) (pa_cons (pv 2) (pa_cons (pv 3) pa_nil)))))) pss_nil) (pss_cons (ps_if (pt_cmpR op_eq (pv 0) pe_str (nomark _)) (pss_one ps_never) pss_nil) (pss_cons (ps_if (pt_cmpR op_eq (pv 0) pe_str (nomark _)) (pss_one (ps_ret (C8.pe_mk (k_Or_init) hr (by omega) rfl (pa_cons (pv 1) (pa_cons (pv 2) (pa_cons (pv 3) pa_nil)))))) pss_nil) (pss_cons (ps_if (pt_cmpR op_eq (pv 0) pe_str (nomark _)) (pss_one (ps_ret (C8.pe_mk (k_Unlike_init) hr (by omega) rfl (pa_cons (pv 1) (pa_cons (pv 2) (pa_cons (pv 3) pa_nil)))))) pss_nil) (pss_cons (ps_if (pt_cmpR op_eq (pv 0) pe_str (nomark _)) (pss_one (ps_ret (C8.pe_mk (k_Under_init) hr (by omega) rfl (pa_cons (pv 1) (pa_cons (pv 2) (pa_cons (pv 3) pa_nil)))))) pss_nil) (pss_one (ps_ret pe_non)))))))), ?_⟩
    cases j with
    | low =>
      refine ⟨_, rfl, rfl, _, rfl, ifSY ?_⟩
      exact ⟨_, rfl, _, rfl, _, rfl, fun x dx nx nd ne => ⟨x, dx, _, _, _, rfl, upd_same, rfl, k x _ (made_ex nx nd) ⟨dx, upd_same⟩⟩⟩
    | high =>
      refine ⟨_, rfl, rfl, _, rfl, ifSN (by decide +kernel) ?_⟩
      refine ⟨_, rfl, rfl, _, rfl, ifSY ?_⟩
      exact ⟨_, rfl, _, rfl, _, rfl, fun x dx nx nd ne => ⟨x, dx, _, _, _, rfl, upd_same, rfl, k x _ (made_ex nx nd) ⟨dx, upd_same⟩⟩⟩
    | or =>
      refine ⟨_, rfl, rfl, _, rfl, ifSN (by decide +kernel) ?_⟩
      refine ⟨_, rfl, rfl, _, rfl, ifSN (by decide +kernel) ?_⟩
      refine ⟨_, rfl, rfl, _, rfl, ifSN (by decide +kernel) ?_⟩
      refine ⟨_, rfl, rfl, _, rfl, ifSY ?_⟩
      exact ⟨_, rfl, _, rfl, _, rfl, fun x dx nx nd ne => ⟨x, dx, _, _, _, rfl, upd_same, rfl, k x _ (made_ex nx nd) ⟨dx, upd_same⟩⟩⟩
    | unlike =>
      refine ⟨_, rfl, rfl, _, rfl, ifSN (by decide +kernel) ?_⟩
      refine ⟨_, rfl, rfl, _, rfl, ifSN (by decide +kernel) ?_⟩
      refine ⟨_, rfl, rfl, _, rfl, ifSN (by decide +kernel) ?_⟩
      refine ⟨_, rfl, rfl, _, rfl, ifSN (by decide +kernel) ?_⟩
      refine ⟨_, rfl, rfl, _, rfl, ifSY ?_⟩
      exact ⟨_, rfl, _, rfl, _, rfl, fun x dx nx nd ne => ⟨x, dx, _, _, _, rfl, upd_same, rfl, k x _ (made_ex nx nd) ⟨dx, upd_same⟩⟩⟩
    | under =>
      refine ⟨_, rfl, rfl, _, rfl, ifSN (by decide +kernel) ?_⟩
      refine ⟨_, rfl, rfl, _, rfl, ifSN (by decide +kernel) ?_⟩
      refine ⟨_, rfl, rfl, _, rfl, ifSN (by decide +kernel) ?_⟩
      refine ⟨_, rfl, rfl, _, rfl, ifSN (by decide +kernel) ?_⟩
      refine ⟨_, rfl, rfl, _, rfl, ifSN (by decide +kernel) ?_⟩
      refine ⟨_, rfl, rfl, _, rfl, ifSY ?_⟩
      exact ⟨_, rfl, _, rfl, _, rfl, fun x dx nx nd ne => ⟨x, dx, _, _, _, rfl, upd_same, rfl, k x _ (made_ex nx nd) ⟨dx, upd_same⟩⟩⟩
theorem ok_row_of_four (T : Tx K mg) (k_number_in : C8.Cal P w K mg base 1 "number_in" spNum []) (k_pair_row : C8.Cal P w K mg base 3 "pair_row" (spPairRow K) [])
    (k_Left_init : C8.Mak P w K mg base 1 "Left" (He.ga K "Left") (spI3 (He.ga K "Left") "goal" "one" "k") []) (k_Right_init : C8.Mak P w K mg base 1 "Right" (He.ga K "Right") (spI3 (He.ga K "Right") "goal" "one" "k") [])
    (k_Slide_init : C8.Mak P w K mg base 1 "Slide" (He.ga K "Slide") (spI3 (He.ga K "Slide") "goal" "one" "k") []) (k_Mark_init : C8.Mak P w K mg base 1 "Mark" (He.ga K "Mark") (spI3 (He.ga K "Mark") "line" "mark" "by") []) : C8.Cal P w K mg base 4 "row_of_four" (spFour K) [] :=
  cal_mk T.f_row_of_four T.g_row_of_four S_row_of_four B_row_of_four (fun vs H Q E h => by obtain ⟨r, w, a, b, c, rfl, _⟩ := h; rfl) fun cdv A outer s H vs Q E hr h => by
    obtain ⟨r, w0, a, b, c, rfl, ht, hg, k⟩ := h
    refine ⟨_, (pss_cons (ps_if (pt_cmpR op_eq (pv 0) pe_str (nomark _)) (pss_one (ps_ret (C8.pe_mk (k_Left_init) hr (by omega) rfl (pa_cons (pv 1) (pa_cons (pv 2) (pa_cons (C8.pe_c (k_number_in) hr (by omega) rfl (pa_cons (pv 3) pa_nil)) pa_nil)))))) pss_nil) (pss_cons (ps_if (pt_cmpR op_eq (pv 0) pe_str (nomark _)) (pss_one (ps_ret (C8.pe_mk (k_Right_init) hr (by omega) rfl (pa_cons (pv 1) (pa_cons (pv 2) (pa_cons (C8.pe_c (k_number_in) hr (by omega) rfl (pa_cons (pv 3) pa_nil)) pa_nil)))))) pss_nil) (pss_cons (ps_if (pt_cmpR op_eq (pv 0) pe_str (nomark _)) (pss_one (ps_ret (C8.pe_mk (k_Slide_init) hr (by omega) rfl (pa_cons (pv 1) (pa_cons (pv 2) (pa_cons (C8.pe_c (k_number_in) hr (by omega) rfl (pa_cons (pv 3) pa_nil)) pa_nil)))))) pss_nil) (pss_cons (ps_if (pt_cmpR op_eq (pv 0) pe_str (nomark _)) (pss_one (ps_ret (C8.pe_mk (k_Mark_init) hr (by omega) rfl (pa_cons (C8.pe_c (k_number_in) hr (by omega) rfl (pa_cons (pv 1) pa_nil)) (pa_cons (pv 2) (pa_cons (pv 3) pa_nil)))))) pss_nil) (pss_one (ps_ret (C8.pe_c (k_pair_row) hr (by omega) rfl (pa_cons (pv 0) (pa_cons (pv 1) (pa_cons (pv 2) (pa_cons (pv 3) pa_nil))))))))))), ?_⟩
    cases r with
    | set g b => simp [toldS, toldV, Rw.flds] at ht
    | copy g a => simp [toldS, toldV, Rw.flds] at ht
    | carry j g cr a b => simp [toldS, toldV, Rw.flds] at ht
    | pick g p a b => simp [toldS, toldV, Rw.flds] at ht
    | pair j g o t =>
      simp only [toldS, toldV, Rw.flds, Rw.kd, fieldS, List.map_cons, List.map_nil, List.cons.injEq, and_true] at ht
      obtain ⟨rfl, rfl, rfl, rfl⟩ := ht
      refine ⟨_, rfl, rfl, _, rfl, ifSN (by cases j <;> decide +kernel) ?_⟩
      refine ⟨_, rfl, rfl, _, rfl, ifSN (by cases j <;> decide +kernel) ?_⟩
      refine ⟨_, rfl, rfl, _, rfl, ifSN (by cases j <;> decide +kernel) ?_⟩
      refine ⟨_, rfl, rfl, _, rfl, ifSN (by cases j <;> decide +kernel) ?_⟩
      exact ⟨_, rfl, _, rfl, _, rfl, _, rfl, j, g, o, t, rfl, k⟩
    | shift j g o n =>
      obtain ⟨m, hm, rfl⟩ := nat_of hg.1.2.2.1 hg.2
      simp only [toldS, toldV, Rw.flds, Rw.kd, fieldS, List.map_cons, List.map_nil, List.cons.injEq, and_true] at ht
      obtain ⟨rfl, rfl, rfl, rfl⟩ := ht
      cases j with
      | left =>
        refine ⟨_, rfl, rfl, _, rfl, ifSY ?_⟩
        exact ⟨_, rfl, _, rfl, _, rfl, m, rfl, hm, fun x dx nx nd ne => ⟨x, dx, _, _, _, rfl, upd_same, rfl, k x _ (made_ex nx nd) ⟨dx, upd_same⟩⟩⟩
      | right =>
        refine ⟨_, rfl, rfl, _, rfl, ifSN (by decide +kernel) ?_⟩
        refine ⟨_, rfl, rfl, _, rfl, ifSY ?_⟩
        exact ⟨_, rfl, _, rfl, _, rfl, m, rfl, hm, fun x dx nx nd ne => ⟨x, dx, _, _, _, rfl, upd_same, rfl, k x _ (made_ex nx nd) ⟨dx, upd_same⟩⟩⟩
      | slide =>
        refine ⟨_, rfl, rfl, _, rfl, ifSN (by decide +kernel) ?_⟩
        refine ⟨_, rfl, rfl, _, rfl, ifSN (by decide +kernel) ?_⟩
        refine ⟨_, rfl, rfl, _, rfl, ifSY ?_⟩
        exact ⟨_, rfl, _, rfl, _, rfl, m, rfl, hm, fun x dx nx nd ne => ⟨x, dx, _, _, _, rfl, upd_same, rfl, k x _ (made_ex nx nd) ⟨dx, upd_same⟩⟩⟩
    | mark l mk p =>
      obtain ⟨m, hm, rfl⟩ := nat_of hg.1.2.1 hg.2
      simp only [toldS, toldV, Rw.flds, Rw.kd, fieldS, List.map_cons, List.map_nil, List.cons.injEq, and_true] at ht
      obtain ⟨rfl, rfl, rfl, rfl⟩ := ht
      refine ⟨_, rfl, rfl, _, rfl, ifSN (by decide +kernel) ?_⟩
      refine ⟨_, rfl, rfl, _, rfl, ifSN (by decide +kernel) ?_⟩
      refine ⟨_, rfl, rfl, _, rfl, ifSN (by decide +kernel) ?_⟩
      refine ⟨_, rfl, rfl, _, rfl, ifSY ?_⟩
      exact ⟨_, rfl, m, rfl, hm, _, rfl, _, rfl, fun x dx nx nd ne => ⟨x, dx, _, _, _, rfl, upd_same, rfl, k x _ (made_ex nx nd) ⟨dx, upd_same⟩⟩⟩
theorem ok_row_of_five (T : Tx K mg) (k_Pick_init : C8.Mak P w K mg base 1 "Pick" (He.ga K "Pick") (spI4 (He.ga K "Pick") "goal" "by" "one" "other") [])
    (k_Sum_init : C8.Mak P w K mg base 1 "Sum" (He.ga K "Sum") (spI4 (He.ga K "Sum") "goal" "carry" "one" "other") []) (k_Gap_init : C8.Mak P w K mg base 1 "Gap" (He.ga K "Gap") (spI4 (He.ga K "Gap") "goal" "carry" "one" "other") []) : C8.Cal P w K mg base 4 "row_of_five" (spFive K) [] :=
  cal_mk T.f_row_of_five T.g_row_of_five S_row_of_five B_row_of_five (fun vs H Q E h => by obtain ⟨r, w, a, b, c, d, rfl, _⟩ := h; rfl) fun cdv A outer s H vs Q E hr h => by
    obtain ⟨r, w0, a, b, c, d, rfl, ht, hg, k⟩ := h
    refine ⟨_, (pss_cons (ps_if (pt_cmpR op_eq (pv 0) pe_str (nomark _)) (pss_one (ps_ret (C8.pe_mk (k_Pick_init) hr (by omega) rfl (pa_cons (pv 1) (pa_cons (pv 2) (pa_cons (pv 3) (pa_cons (pv 4) pa_nil))))))) pss_nil) (pss_cons (ps_set (i := 5) S_row_of_five.nd rfl (Or.inl rfl) (pv 2)) (pss_cons (ps_if (pt_cmpR op_eq (pv 2) pe_str (nomark _)) (pss_one (ps_set (i := 5) S_row_of_five.nd rfl (Or.inl rfl) pe_non)) pss_nil) (pss_cons (ps_if (pt_cmpR op_eq (pv 0) pe_str (nomark _)) (pss_one (ps_ret (C8.pe_mk (k_Sum_init) hr (by omega) rfl (pa_cons (pv 1) (pa_cons (pv 5) (pa_cons (pv 3) (pa_cons (pv 4) pa_nil))))))) pss_nil) (pss_cons (ps_if (pt_cmpR op_eq (pv 0) pe_str (nomark _)) (pss_one (ps_ret (C8.pe_mk (k_Gap_init) hr (by omega) rfl (pa_cons (pv 1) (pa_cons (pv 5) (pa_cons (pv 3) (pa_cons (pv 4) pa_nil))))))) pss_nil) (pss_one (ps_ret pe_non))))))), ?_⟩
    cases r with
    | set g b => simp [toldS, toldV, Rw.flds] at ht
    | copy g a => simp [toldS, toldV, Rw.flds] at ht
    | pair j g a b => simp [toldS, toldV, Rw.flds] at ht
    | shift j g a n => simp [toldS, toldV, Rw.flds] at ht
    | mark l m p => simp [toldS, toldV, Rw.flds] at ht
    | pick g p o t =>
      simp only [toldS, toldV, Rw.flds, Rw.kd, fieldS, List.map_cons, List.map_nil, List.cons.injEq, and_true] at ht
      obtain ⟨rfl, rfl, rfl, rfl, rfl⟩ := ht
      refine ⟨_, rfl, rfl, _, rfl, ifSY ?_⟩
      exact ⟨_, rfl, _, rfl, _, rfl, _, rfl, fun x dx nx nd ne => ⟨x, dx, _, _, _, _, rfl, upd_same, rfl, k x _ (made_ex nx nd) ⟨dx, upd_same⟩⟩⟩
    | carry j g cr o t =>
      simp only [toldS, toldV, Rw.flds, Rw.kd, fieldS, List.map_cons, List.map_nil, List.cons.injEq, and_true] at ht
      obtain ⟨rfl, rfl, e2, rfl, rfl⟩ := ht
      refine ⟨_, rfl, rfl, _, rfl, ifSN (by cases j <;> decide +kernel) ?_⟩
      refine ⟨_, rfl, ?_⟩
      cases cr with
      | none =>
        have e3 : b = "-" := e2.symm
        subst e3
        refine ⟨_, rfl, rfl, _, rfl, ifSY ?_⟩
        cases j with
        | sum =>
          refine ⟨_, rfl, rfl, _, rfl, ifSY ?_⟩
          exact ⟨_, rfl, _, rfl, _, rfl, _, rfl, fun x dx nx nd ne => ⟨x, dx, _, _, _, _, rfl, upd_same, rfl, k x _ (made_ex nx nd) ⟨dx, upd_same⟩⟩⟩
        | gap =>
          refine ⟨_, rfl, rfl, _, rfl, ifSN (by decide +kernel) ?_⟩
          refine ⟨_, rfl, rfl, _, rfl, ifSY ?_⟩
          exact ⟨_, rfl, _, rfl, _, rfl, _, rfl, fun x dx nx nd ne => ⟨x, dx, _, _, _, _, rfl, upd_same, rfl, k x _ (made_ex nx nd) ⟨dx, upd_same⟩⟩⟩
      | some z =>
        have e3 : b = z := e2.symm
        subst e3
        have hz := hg.1.1 b rfl
        refine ⟨_, rfl, rfl, _, rfl, ifSN (fun q => by rw [q] at hz; revert hz; decide +kernel) ?_⟩
        cases j with
        | sum =>
          refine ⟨_, rfl, rfl, _, rfl, ifSY ?_⟩
          exact ⟨_, rfl, _, rfl, _, rfl, _, rfl, fun x dx nx nd ne => ⟨x, dx, _, _, _, _, rfl, upd_same, rfl, k x _ (made_ex nx nd) ⟨dx, upd_same⟩⟩⟩
        | gap =>
          refine ⟨_, rfl, rfl, _, rfl, ifSN (by decide +kernel) ?_⟩
          refine ⟨_, rfl, rfl, _, rfl, ifSY ?_⟩
          exact ⟨_, rfl, _, rfl, _, rfl, _, rfl, fun x dx nx nd ne => ⟨x, dx, _, _, _, _, rfl, upd_same, rfl, k x _ (made_ex nx nd) ⟨dx, upd_same⟩⟩⟩
end
end K76
set_option Elab.async false
set_option linter.all false
set_option maxRecDepth 100000
set_option maxHeartbeats 4000000
namespace K76
open PySem PySem.Spec PyProof.Rows L2
open Evl (Ex)
/-! ## rows are read back -/
section
variable {P : Program} {w : World} {K : PySem.W.Frag} {mg : Str → Option Value} {base : Heap}
theorem ok_row_of (T : Tx K mg) (k_number_in : C8.Cal P w K mg base 1 "number_in" spNum []) (k_row_of_four : C8.Cal P w K mg base 4 "row_of_four" (spFour K) []) (k_row_of_five : C8.Cal P w K mg base 4 "row_of_five" (spFive K) [])
    (k_Set_init : C8.Mak P w K mg base 1 "Set" (He.ga K "Set") (spI2 (He.ga K "Set") "goal" "bits") []) (k_Copy_init : C8.Mak P w K mg base 1 "Copy" (He.ga K "Copy") (spI2 (He.ga K "Copy") "goal" "one") []) : C8.Cal P w K mg base 5 "row_of" (spRowOf K) [] :=
  cal_mk T.f_row_of T.g_row_of S_row_of B_row_of (fun vs H Q E h => by obtain ⟨wl, ws, rfl, _⟩ := h; rfl) fun cdv A outer s H vs Q E hr h => by
    obtain ⟨wl, ws, rfl, hws, hh⟩ := h
    refine ⟨_, (pss_cons (ps_if (PW.pt (pw_and (pt_cmpR op_eq (pe_callB (id := "len") call_len_seq (by rfl) T.z_len (by decide +kernel) (pa_cons (pv 0) pa_nil)) pe_int (nomark _)) (pw_and1 (pt_cmpR op_eq (pe_ix ix_list (pv 0) pe_int (fun _ _ => rfl)) pe_str (nomark _))))) (pss_one (ps_ret (C8.pe_mk (k_Set_init) hr (by omega) rfl (pa_cons (pe_ix ix_list (pv 0) pe_int (fun _ _ => rfl)) (pa_cons (C8.pe_c (k_number_in) hr (by omega) rfl (pa_cons (pe_ix ix_list (pv 0) pe_int (fun _ _ => rfl)) pa_nil)) pa_nil))))) pss_nil) (pss_cons (ps_if (PW.pt (pw_and (pt_cmpR op_eq (pe_callB (id := "len") call_len_seq (by rfl) T.z_len (by decide +kernel) (pa_cons (pv 0) pa_nil)) pe_int (nomark _)) (pw_and1 (pt_cmpR op_eq (pe_ix ix_list (pv 0) pe_int (fun _ _ => rfl)) pe_str (nomark _))))) (pss_one (ps_ret (C8.pe_mk (k_Copy_init) hr (by omega) rfl (pa_cons (pe_ix ix_list (pv 0) pe_int (fun _ _ => rfl)) (pa_cons (pe_ix ix_list (pv 0) pe_int (fun _ _ => rfl)) pa_nil))))) pss_nil) (pss_cons (ps_if (pt_cmpR op_eq (pe_callB (id := "len") call_len_seq (by rfl) T.z_len (by decide +kernel) (pa_cons (pv 0) pa_nil)) pe_int (nomark _)) (pss_one (ps_ret (C8.pe_c (k_row_of_four) hr (by omega) rfl (pa_cons (pe_ix ix_list (pv 0) pe_int (fun _ _ => rfl)) (pa_cons (pe_ix ix_list (pv 0) pe_int (fun _ _ => rfl)) (pa_cons (pe_ix ix_list (pv 0) pe_int (fun _ _ => rfl)) (pa_cons (pe_ix ix_list (pv 0) pe_int (fun _ _ => rfl)) pa_nil))))))) pss_nil) (pss_cons (ps_if (pt_cmpR op_eq (pe_callB (id := "len") call_len_seq (by rfl) T.z_len (by decide +kernel) (pa_cons (pv 0) pa_nil)) pe_int (nomark _)) (pss_one (ps_ret (C8.pe_c (k_row_of_five) hr (by omega) rfl (pa_cons (pe_ix ix_list (pv 0) pe_int (fun _ _ => rfl)) (pa_cons (pe_ix ix_list (pv 0) pe_int (fun _ _ => rfl)) (pa_cons (pe_ix ix_list (pv 0) pe_int (fun _ _ => rfl)) (pa_cons (pe_ix ix_list (pv 0) pe_int (fun _ _ => rfl)) (pa_cons (pe_ix ix_list (pv 0) pe_int (fun _ _ => rfl)) pa_nil)))))))) pss_nil) (pss_one (ps_ret pe_non)))))), ?_⟩
    rcases hh with ⟨r, rfl, hg, k⟩ | ⟨hlen, k⟩
    · refine ⟨_, rfl, wl, _, rfl, .inl (SqL.of hws), rfl, _, rfl, ?_⟩
      cases r with
      | set g b =>
        obtain ⟨m, hm, rfl⟩ := nat_of hg.1.2.1 hg.2
        refine ifLY rfl ?_
        refine ⟨_, rfl, wl, _, _, _, rfl, rfl, SqL.of hws, atI_nat (j := 0) rfl, rfl, _, rfl, ifSY (a := "set") ?_⟩
        exact ⟨_, rfl, wl, _, _, _, rfl, rfl, SqL.of hws, atI_nat (j := 1) rfl, _, rfl, wl, _, _, _, rfl, rfl, SqL.of hws, atI_nat (j := 2) rfl, m, rfl, hm, fun x dx nx nd ne => ⟨x, dx, _, _, rfl, upd_same, rfl, k x _ (made_ex nx nd) ⟨dx, upd_same⟩⟩⟩
      | copy g a =>
        refine ifLY rfl ?_
        refine ⟨_, rfl, wl, _, _, _, rfl, rfl, SqL.of hws, atI_nat (j := 0) rfl, rfl, _, rfl, ifSN (a := "copy") (by decide +kernel) ?_⟩
        refine ⟨_, rfl, wl, _, rfl, .inl (SqL.of hws), rfl, _, rfl, ifLY rfl ?_⟩
        refine ⟨_, rfl, wl, _, _, _, rfl, rfl, SqL.of hws, atI_nat (j := 0) rfl, rfl, _, rfl, ifSY (a := "copy") ?_⟩
        exact ⟨_, rfl, wl, _, _, _, rfl, rfl, SqL.of hws, atI_nat (j := 1) rfl, _, rfl, wl, _, _, _, rfl, rfl, SqL.of hws, atI_nat (j := 2) rfl, fun x dx nx nd ne => ⟨x, dx, _, _, rfl, upd_same, rfl, k x _ (made_ex nx nd) ⟨dx, upd_same⟩⟩⟩
      | pair j g a b =>
        refine ifLN (by show ¬ ((4 : Nat) : Int) = 3; decide) (iteF ?_)
        refine ⟨_, rfl, wl, _, rfl, .inl (SqL.of hws), rfl, _, rfl, ifLN (by show ¬ ((4 : Nat) : Int) = 3; decide) (iteF ?_)⟩
        refine ⟨_, rfl, wl, _, rfl, .inl (SqL.of hws), rfl, _, rfl, ifLY rfl ?_⟩
        exact ⟨_, rfl, wl, _, _, _, rfl, rfl, SqL.of hws, atI_nat (j := 0) rfl, _, rfl, wl, _, _, _, rfl, rfl, SqL.of hws, atI_nat (j := 1) rfl, _, rfl, wl, _, _, _, rfl, rfl, SqL.of hws, atI_nat (j := 2) rfl, _, rfl, wl, _, _, _, rfl, rfl, SqL.of hws, atI_nat (j := 3) rfl, _, _, _, _, _, rfl, rfl, hg, k⟩
      | shift j g a n =>
        refine ifLN (by show ¬ ((4 : Nat) : Int) = 3; decide) (iteF ?_)
        refine ⟨_, rfl, wl, _, rfl, .inl (SqL.of hws), rfl, _, rfl, ifLN (by show ¬ ((4 : Nat) : Int) = 3; decide) (iteF ?_)⟩
        refine ⟨_, rfl, wl, _, rfl, .inl (SqL.of hws), rfl, _, rfl, ifLY rfl ?_⟩
        exact ⟨_, rfl, wl, _, _, _, rfl, rfl, SqL.of hws, atI_nat (j := 0) rfl, _, rfl, wl, _, _, _, rfl, rfl, SqL.of hws, atI_nat (j := 1) rfl, _, rfl, wl, _, _, _, rfl, rfl, SqL.of hws, atI_nat (j := 2) rfl, _, rfl, wl, _, _, _, rfl, rfl, SqL.of hws, atI_nat (j := 3) rfl, _, _, _, _, _, rfl, rfl, hg, k⟩
      | mark l m p =>
        refine ifLN (by show ¬ ((4 : Nat) : Int) = 3; decide) (iteF ?_)
        refine ⟨_, rfl, wl, _, rfl, .inl (SqL.of hws), rfl, _, rfl, ifLN (by show ¬ ((4 : Nat) : Int) = 3; decide) (iteF ?_)⟩
        refine ⟨_, rfl, wl, _, rfl, .inl (SqL.of hws), rfl, _, rfl, ifLY rfl ?_⟩
        exact ⟨_, rfl, wl, _, _, _, rfl, rfl, SqL.of hws, atI_nat (j := 0) rfl, _, rfl, wl, _, _, _, rfl, rfl, SqL.of hws, atI_nat (j := 1) rfl, _, rfl, wl, _, _, _, rfl, rfl, SqL.of hws, atI_nat (j := 2) rfl, _, rfl, wl, _, _, _, rfl, rfl, SqL.of hws, atI_nat (j := 3) rfl, _, _, _, _, _, rfl, rfl, hg, k⟩
      | carry j g cr a b =>
        refine ifLN (by show ¬ ((5 : Nat) : Int) = 3; decide) (iteF ?_)
        refine ⟨_, rfl, wl, _, rfl, .inl (SqL.of hws), rfl, _, rfl, ifLN (by show ¬ ((5 : Nat) : Int) = 3; decide) (iteF ?_)⟩
        refine ⟨_, rfl, wl, _, rfl, .inl (SqL.of hws), rfl, _, rfl, ifLN (by show ¬ ((5 : Nat) : Int) = 4; decide) ?_⟩
        refine ⟨_, rfl, wl, _, rfl, .inl (SqL.of hws), rfl, _, rfl, ifLY rfl ?_⟩
        exact ⟨_, rfl, wl, _, _, _, rfl, rfl, SqL.of hws, atI_nat (j := 0) rfl, _, rfl, wl, _, _, _, rfl, rfl, SqL.of hws, atI_nat (j := 1) rfl, _, rfl, wl, _, _, _, rfl, rfl, SqL.of hws, atI_nat (j := 2) rfl, _, rfl, wl, _, _, _, rfl, rfl, SqL.of hws, atI_nat (j := 3) rfl, _, rfl, wl, _, _, _, rfl, rfl, SqL.of hws, atI_nat (j := 4) rfl, _, _, _, _, _, _, rfl, rfl, hg, k⟩
      | pick g p a b =>
        refine ifLN (by show ¬ ((5 : Nat) : Int) = 3; decide) (iteF ?_)
        refine ⟨_, rfl, wl, _, rfl, .inl (SqL.of hws), rfl, _, rfl, ifLN (by show ¬ ((5 : Nat) : Int) = 3; decide) (iteF ?_)⟩
        refine ⟨_, rfl, wl, _, rfl, .inl (SqL.of hws), rfl, _, rfl, ifLN (by show ¬ ((5 : Nat) : Int) = 4; decide) ?_⟩
        refine ⟨_, rfl, wl, _, rfl, .inl (SqL.of hws), rfl, _, rfl, ifLY rfl ?_⟩
        exact ⟨_, rfl, wl, _, _, _, rfl, rfl, SqL.of hws, atI_nat (j := 0) rfl, _, rfl, wl, _, _, _, rfl, rfl, SqL.of hws, atI_nat (j := 1) rfl, _, rfl, wl, _, _, _, rfl, rfl, SqL.of hws, atI_nat (j := 2) rfl, _, rfl, wl, _, _, _, rfl, rfl, SqL.of hws, atI_nat (j := 3) rfl, _, rfl, wl, _, _, _, rfl, rfl, SqL.of hws, atI_nat (j := 4) rfl, _, _, _, _, _, _, rfl, rfl, hg, k⟩
    · refine ⟨_, rfl, wl, _, rfl, .inl (SqL.of hws), rfl, _, rfl, ifLN (by omega) (iteF ?_)⟩
      refine ⟨_, rfl, wl, _, rfl, .inl (SqL.of hws), rfl, _, rfl, ifLN (by omega) (iteF ?_)⟩
      refine ⟨_, rfl, wl, _, rfl, .inl (SqL.of hws), rfl, _, rfl, ifLN (by omega) ?_⟩
      exact ⟨_, rfl, wl, _, rfl, .inl (SqL.of hws), rfl, _, rfl, ifLN (by omega) k⟩
theorem ok_turns_of (T : Tx K mg) (k_number_in : C8.Cal P w K mg base 1 "number_in" spNum []) (k_Turns_init : C8.Mak P w K mg base 1 "Turns" (He.ga K "Turns") (spTurnsI (He.ga K "Turns")) []) : C8.Cal P w K mg base 3 "turns_of" (spTurnsOf K) [] :=
  cal_mk T.f_turns_of T.g_turns_of S_turns_of B_turns_of (fun vs H Q E h => by obtain ⟨wl, ws, rfl, _⟩ := h; rfl) fun cdv A outer s H vs Q E hr h => by
    obtain ⟨wl, ws, rfl, hws, hh⟩ := h
    refine ⟨_, (pss_cons (ps_if (PW.pt (pw_or (pt_cmpR op_ne (pe_callB (id := "len") call_len_seq (by rfl) T.z_len (by decide +kernel) (pa_cons (pv 0) pa_nil)) pe_int (nomark _)) (pw_or (pt_cmpR op_ne (pe_ix ix_list (pv 0) pe_int (fun _ _ => rfl)) pe_str (nomark _)) (pw_or1 (pt_cmpR op_isN (C8.pe_c (k_number_in) hr (by omega) rfl (pa_cons (pe_ix ix_list (pv 0) pe_int (fun _ _ => rfl)) pa_nil)) pe_non (nomark _)))))) (pss_one (ps_ret pe_non)) pss_nil) (pss_one (ps_ret (C8.pe_mk (k_Turns_init) hr (by omega) rfl (pa_cons (C8.pe_c (k_number_in) hr (by omega) rfl (pa_cons (pe_ix ix_list (pv 0) pe_int (fun _ _ => rfl)) pa_nil)) (pa_cons (pe_lst pa_nil) pa_nil)))))), ?_⟩
    refine ⟨_, rfl, wl, _, rfl, .inl (SqL.of hws), rfl, _, rfl, ?_⟩
    rcases hh with ⟨n, hn, rfl, k⟩ | ⟨hlen, k⟩
    · rw [show (!decide (V.int (((([("turns" : Str), nS n] : List Str).map V.str).length : Nat) : Int) = V.int 2)) = false from rfl]
      refine iteF ?_
      refine ⟨_, rfl, wl, _, _, _, rfl, rfl, SqL.of hws, atI_nat (j := 0) rfl, rfl, _, rfl, ?_⟩
      rw [show (!decide (V.str "turns" = V.str "turns")) = false by rw [decide_eq_true rfl]; rfl]
      refine iteF ?_
      refine ⟨_, rfl, wl, _, _, _, rfl, rfl, SqL.of hws, atI_nat (j := 1) rfl, n, rfl, hn, rfl, _, rfl, iteF ?_⟩
      refine ⟨_, rfl, wl, _, _, _, rfl, rfl, SqL.of hws, atI_nat (j := 1) rfl, n, rfl, hn, Nat.zero_le _, fun l hl => ?_⟩
      refine fun x dx nx nd ne => ?_
      have nlx : l ≠ x := fun z => by
        rw [← z, upd_same] at nx
        cases nx
      have nld : l ≠ dx := fun z => by
        rw [← z, upd_same] at nd
        cases nd
      refine ⟨x, dx, l, _, [], rfl, upd_same, by rw [upd_ne nlx, upd_ne nld, upd_same], fun l' H' hl' hx hl2 hk => ⟨rfl, ?_⟩⟩
      have nx2 : (upd (upd H l (.lst [])) dx (.own x)) x = none := by rw [upd_ne ne.symm]; exact nx
      have nH : H l' = none := Evl.fresh_back ((Ex.new hl).trans ((Ex.new nd).trans (Ex.new nx2))) hl'
      refine k x l' dx H' (fun b o e => hk b o ?_ ?_) nH hx hl2
      · have nbx : b ≠ x := ne_of_none ((Ex.new hl) _ _ e) nx
        rw [upd_ne nbx, upd_ne (ne_of_none ((Ex.new hl) _ _ e) nd)]
        exact (Ex.new hl) _ _ e
      · exact ne_of_none ((Ex.new hl) _ _ e) nx
    · rw [show (!decide (V.int (((ws.map V.str).length : Nat) : Int) = V.int 2)) = true by rw [decide_eq_false (fun z => hlen (by have := V.int.inj z; rw [List.length_map] at this; omega))]; rfl]
      exact iteT (iteT k)
end
end K76
set_option Elab.async false
set_option linter.all false
set_option maxRecDepth 100000
set_option maxHeartbeats 4000000
namespace K76
open PySem PySem.Spec PyProof.Rows L2
open Evl (Ex)
/-! ## read_steps: what stands while it reads -/
theorem map_ref_inj : ∀ {a b : List Addr}, a.map V.ref = b.map V.ref → a = b
  | [], [], _ => rfl
  | [], _ :: _, h => by cases h
  | _ :: _, [], h => by cases h
  | x :: a, y :: b, h => by
    have h1 := List.cons.inj h
    rw [V.ref.inj h1.1, map_ref_inj h1.2]
def hid (H : Hp) (a b c : Addr) : Hp := fun x => if x = a ∨ x = b ∨ x = c then none else H x
theorem hid_ex (H : Hp) (a b c : Addr) : Ex (hid H a b c) H := fun x o e => by
  unfold hid at e
  split at e
  · cases e
  · exact e
theorem hid_at {H : Hp} {a b c x : Addr} (h1 : x ≠ a) (h2 : x ≠ b) (h3 : x ≠ c) : hid H a b c x = H x := by
  unfold hid
  rw [if_neg (by simp [h1, h2, h3])]
theorem hid_ne {H : Hp} {a b c x : Addr} {o : HO} (e : hid H a b c x = some o) : x ≠ a ∧ x ≠ b ∧ x ≠ c ∧ H x = some o := by
  unfold hid at e
  split at e
  · cases e
  · rename_i h
    simp only [not_or] at h
    exact ⟨h.1, h.2.1, h.2.2, e⟩
theorem hid_to {H H' : Hp} {a b c a' b' c' : Addr} (h : ∀ x o, x ≠ a → x ≠ b → x ≠ c → H x = some o → H' x = some o ∧ x ≠ a' ∧ x ≠ b' ∧ x ≠ c') : Ex (hid H a b c) (hid H' a' b' c') := fun x o e => by
  obtain ⟨h1, h2, h3, h4⟩ := hid_ne e
  obtain ⟨q, q1, q2, q3⟩ := h x o h1 h2 h3 h4
  rw [hid_at q1 q2 q3]
  exact q
theorem hid_grow {H H' : Hp} {a b c : Addr} (e : Ex H H') : Ex (hid H a b c) (hid H' a b c) := hid_to fun x o h1 h2 h3 q => ⟨e x o q, h1, h2, h3⟩
/-- the read text's standing objects -/
structure RB (K : PySem.W.Frag) (H0 H : Hp) (lw hl h0 s0 : Addr) (ls : List V) : Prop where
  ex : Ex H0 H
  nh : H0 hl = none
  ns : H0 s0 = none
  lw_ : H lw = some (.lst ls)
  d1 : lw ≠ hl
  d2 : lw ≠ s0
  d3 : hl ≠ s0
  hd : ∃ dx, H h0 = some (.ins (kC K .turns) dx [("times", .int 1), ("steps", .ref s0)])
theorem RB.grow {K : PySem.W.Frag} {H0 H H' : Hp} {lw hl h0 s0 : Addr} {ls : List V} (r : RB K H0 H lw hl h0 s0 ls) (e : Ex H H') : RB K H0 H' lw hl h0 s0 ls :=
  ⟨r.ex.trans e, r.nh, r.ns, e _ _ r.lw_, r.d1, r.d2, r.d3, let ⟨dx, q⟩ := r.hd; ⟨dx, e _ _ q⟩⟩
theorem RB.upd {K : PySem.W.Frag} {H0 H : Hp} {lw hl h0 s0 a : Addr} {ls xs : List V} {o : HO} (r : RB K H0 H lw hl h0 s0 ls) (na : H0 a = none) (nl : lw ≠ a) (ha : H a = some (.lst xs)) : RB K H0 (upd H a o) lw hl h0 s0 ls := by
  obtain ⟨dx, q⟩ := r.hd
  exact ⟨r.ex.mut na, r.nh, r.ns, by rw [upd_ne nl]; exact r.lw_, r.d1, r.d2, r.d3, dx, by rw [upd_ne (ne_of q ha (fun z => HO.noConfusion z))]; exact q⟩
/-- outside of Turns -/
def R0 (K : PySem.W.Frag) (H : Hp) (hl h0 s0 : Addr) (top : List It) : Prop := H hl = some (.lst [.ref h0]) ∧ ∃ ps : List Addr, H s0 = some (.lst (ps.map V.ref)) ∧ Paired (ItAt K (hid H hl s0 s0)) ps top
/-- within -/
def R1 (K : PySem.W.Frag) (H0 H : Hp) (lw hl h0 s0 : Addr) (top : List It) (n : Nat) (rs : List Rw) : Prop := ∃ (h1 s1 dx1 : Addr) (ps ps1 : List Addr), H hl = some (.lst [.ref h0, .ref h1]) ∧ H s0 = some (.lst (ps.map V.ref)) ∧
  H h1 = some (.ins (kC K .turns) dx1 [("times", .int n), ("steps", .ref s1)]) ∧ H s1 = some (.lst (ps1.map V.ref)) ∧ s1 ≠ hl ∧ s1 ≠ s0 ∧ s1 ≠ lw ∧ H0 s1 = none ∧ Paired (ItAt K (hid H hl s0 s1)) ps top ∧ Paired (RowAt K (hid H hl s0 s1)) ps1 rs
def RI (K : PySem.W.Frag) (H0 H : Hp) (lw hl h0 s0 : Addr) (ls : List V) (p : PSt) : Prop := RB K H0 H lw hl h0 s0 ls ∧ match p.inner with
  | none => R0 K H hl h0 s0 p.top
  | some (n, rs) => R1 K H0 H lw hl h0 s0 p.top n rs
theorem R0.grow {K : PySem.W.Frag} {H H' : Hp} {hl h0 s0 : Addr} {top : List It} (r : R0 K H hl h0 s0 top) (e : Ex H H') : R0 K H' hl h0 s0 top := by
  obtain ⟨a, ps, b, c⟩ := r
  exact ⟨e _ _ a, ps, e _ _ b, Paired.mapP c fun _ _ z => z.ex (hid_grow e)⟩
theorem R1.grow {K : PySem.W.Frag} {H0 H H' : Hp} {lw hl h0 s0 : Addr} {top : List It} {n : Nat} {rs : List Rw} (r : R1 K H0 H lw hl h0 s0 top n rs) (e : Ex H H') : R1 K H0 H' lw hl h0 s0 top n rs := by
  obtain ⟨h1, s1, dx1, ps, ps1, a, b, c, d, n1, n2, n3, n4, f, g⟩ := r
  exact ⟨h1, s1, dx1, ps, ps1, e _ _ a, e _ _ b, e _ _ c, e _ _ d, n1, n2, n3, n4, Paired.mapP f fun _ _ z => z.ex (hid_grow e), Paired.mapP g fun _ _ z => z.ex (hid_grow e)⟩
theorem RI.grow {K : PySem.W.Frag} {H0 H H' : Hp} {lw hl h0 s0 : Addr} {ls : List V} {p : PSt} (r : RI K H0 H lw hl h0 s0 ls p) (e : Ex H H') : RI K H0 H' lw hl h0 s0 ls p := by
  obtain ⟨b, c⟩ := r
  refine ⟨b.grow e, ?_⟩
  cases q : p.inner with
  | none =>
    rw [q] at c
    exact R0.grow c e
  | some z =>
    rw [q] at c
    exact R1.grow c e
/-! ### which tokens may stand where -/
def PSt.ok (p : PSt) : Tk → Prop
  | .row r => r.tgood
  | .turns n => p.inner = none ∧ n < 64
  | .fin => ∃ n rs, p.inner = some (n, rs) ∧ It.tgood (.turns n rs)
def valid : PSt → List Tk → Prop
  | _, [] => True
  | p, t :: r => p.ok t ∧ valid (p.step t) r
theorem valid_at : ∀ {l : List Tk} {p : PSt} {j : Nat} {t : Tk}, valid p l → l[j]? = some t → ((l.take j).foldl PSt.step p).ok t
  | t :: r, p, 0, _, h, e => by cases e; exact h.1
  | a :: r, p, j + 1, t, h, e => valid_at (l := r) (p := p.step a) (j := j) h.2 (by simpa using e)
theorem valid_rows {t : List It} {n : Nat} {l : List Tk} : ∀ {rs r0 : List Rw}, (∀ r ∈ rs, r.tgood) → valid ⟨t, some (n, r0 ++ rs)⟩ l → valid ⟨t, some (n, r0)⟩ (rs.map Tk.row ++ l)
  | [], r0, _, h => by rw [List.append_nil] at h; exact h
  | r :: rs, r0, hg, h => by
    refine ⟨hg r List.mem_cons_self, ?_⟩
    refine valid_rows (r0 := r0 ++ [r]) (fun z hz => hg z (List.mem_cons_of_mem _ hz)) ?_
    rw [List.append_assoc]
    exact h
theorem valid_tks : ∀ {its t : List It}, (∀ it ∈ its, it.tgood) → valid ⟨t, none⟩ (tksOf its)
  | [], _, _ => True.intro
  | .row r :: its, t, h => ⟨h _ List.mem_cons_self, valid_tks (t := t ++ [.row r]) fun z hz => h z (List.mem_cons_of_mem _ hz)⟩
  | .turns n rs :: its, t, h => by
    have g : It.tgood (.turns n rs) := h _ List.mem_cons_self
    show valid ⟨t, none⟩ ((Tk.turns n :: (rs.map Tk.row ++ [Tk.fin])) ++ tksOf its)
    rw [List.cons_append, List.append_assoc]
    refine ⟨⟨rfl, g.2.1⟩, ?_⟩
    refine valid_rows (r0 := []) g.2.2.2 ?_
    exact ⟨⟨n, rs, rfl, g⟩, valid_tks (t := t ++ [.turns n rs]) fun z hz => h z (List.mem_cons_of_mem _ hz)⟩
def PSt.size (p : PSt) : Nat := p.top.length + match p.inner with
  | none => 0
  | some (_, rs) => rs.length
theorem size_step (p : PSt) (t : Tk) : (p.step t).size ≤ p.size + 1 := by
  obtain ⟨top, inner⟩ := p
  cases t with
  | row r =>
    cases inner with
    | none =>
      show (top ++ [It.row r]).length + 0 ≤ top.length + 0 + 1
      rw [List.length_append, List.length_singleton]
      omega
    | some z =>
      obtain ⟨n, rs⟩ := z
      show top.length + (rs ++ [r]).length ≤ top.length + rs.length + 1
      rw [List.length_append, List.length_singleton]
      omega
  | turns n =>
    show top.length + 0 ≤ PSt.size ⟨top, inner⟩ + 1
    unfold PSt.size
    exact Nat.le_trans (Nat.le_add_right _ _) (Nat.le_succ _)
  | fin =>
    cases inner with
    | none => exact Nat.le_succ _
    | some z =>
      obtain ⟨n, rs⟩ := z
      show (top ++ [It.turns n rs]).length + 0 ≤ top.length + rs.length + 1
      rw [List.length_append, List.length_singleton]
      omega
theorem size_fold : ∀ (l : List Tk) (p : PSt), (l.foldl PSt.step p).size ≤ p.size + l.length
  | [], p => Nat.le_refl _
  | t :: r, p => by
    have h1 := size_fold r (p.step t)
    have h2 := size_step p t
    rw [List.length_cons]
    show (r.foldl PSt.step (p.step t)).size ≤ _
    omega
theorem fold_take {l : List Tk} {p : PSt} {j : Nat} {t : Tk} (h : l[j]? = some t) : (l.take (j + 1)).foldl PSt.step p = ((l.take j).foldl PSt.step p).step t := by
  have hj := (List.getElem?_eq_some_iff.mp h).1
  rw [← List.take_append_getElem hj, List.foldl_append, (List.getElem?_eq_some_iff.mp h).2]
  rfl
theorem tgood_row {r : Rw} (h : r.tgood) : It.good 32 (.row r) := h.1
theorem tgood_it {it : It} (h : it.tgood) : It.good 32 it := by
  cases it with
  | row r => exact h.1
  | turns n rs => exact ⟨h.1, by have := h.2.1; omega, h.2.2.1, fun r hr => (h.2.2.2 r hr).1⟩
def spRead (K : PySem.W.Frag) : Sp := fun vs H Q _ => ∃ its : List It, vs = [.str (textOf its)] ∧ tksOf its ≠ [] ∧ (∀ it ∈ its, it.tgood) ∧ (tksOf its).length ≤ 1000 ∧ ∀ l H', Ex H H' → ItsAt K H' l its → Q (.ref l) H'
theorem nth_line {its : List It} {j : Nat} {x : V} (h : (((tksOf its).map Tk.line).map V.str)[j]? = some x) : ∃ t, (tksOf its)[j]? = some t ∧ x = .str t.line := by
  rw [List.map_map, List.getElem?_map] at h
  obtain ⟨t, ht, rfl⟩ := Option.map_eq_some_iff.mp h
  exact ⟨t, ht, rfl⟩
section
variable {P : Program} {w : World} {K : PySem.W.Frag} {mg : Str → Option Value} {base : Heap}
theorem okw32 : okw 32 := ⟨by decide, by decide⟩
theorem ok_read_steps (T : Tx K mg) (k_row_of : C8.Cal P w K mg base 5 "row_of" (spRowOf K) []) (k_turns_of : C8.Cal P w K mg base 3 "turns_of" (spTurnsOf K) []) (k_any_fits : ∀ k : Kd, C8.Met P w K mg base 3 (kC K k) "fits" (spFits K k) [])
    (k_Turns_init : C8.Mak P w K mg base 1 "Turns" (He.ga K "Turns") (spTurnsI (He.ga K "Turns")) []) : C8.Cal P w K mg base 6 "read_steps" (spRead K) [] :=
  cal_mk T.f_read_steps T.g_read_steps S_read_steps B_read_steps (fun vs H Q E h => by obtain ⟨its, rfl, _⟩ := h; rfl) fun cdv A outer s H vs Q E hr h => by
    obtain ⟨its, rfl, hne, hg, hz, k⟩ := h
    refine ⟨_, (pss_cons (ps_if (pt_not (pt_val (pe_callB (id := "isinstance") (isi_at (K := K) rfl) (by rfl) T.z_isinstance (by decide +kernel) (pa_cons (pv 0) (pa_cons (pe_bltn (v := .ty "str") (u := .type "str") (by rfl) T.z_str (by decide +kernel) rfl) pa_nil))))) (pss_one ps_never) pss_nil) (pss_cons (ps_set (i := 1) S_read_steps.nd rfl (Or.inl rfl) (pe_lst (pa_cons (C8.pe_mk (k_Turns_init) hr (by omega) rfl (pa_cons pe_int (pa_cons (pe_lst pa_nil) pa_nil))) pa_nil))) (pss_cons (ps_set (i := 2) S_read_steps.nd rfl (Or.inl rfl) (pe_split (pv 0) pe_str)) (pss_cons (ps_if (pt_cmpR op_eq (pv 0) pe_str (nomark _)) (pss_one (ps_set (i := 2) S_read_steps.nd rfl (Or.inl rfl) (pe_lst pa_nil))) pss_nil) (pss_cons (ps_for PassesOwn.never rfl (pi_list (pv 2)) (pg_name (i := 3) S_read_steps.nd rfl (Or.inl rfl)) (pss_cons (ps_set (i := 4) S_read_steps.nd rfl (Or.inl rfl) (pe_split (pv 3) pe_str)) (pss_cons (ps_set (i := 5) S_read_steps.nd rfl (Or.inl rfl) (C8.pe_c (k_row_of) hr (by omega) rfl (pa_cons (pv 4) pa_nil))) (pss_cons (ps_set (i := 6) S_read_steps.nd rfl (Or.inl rfl) (C8.pe_c (k_turns_of) hr (by omega) rfl (pa_cons (pv 4) pa_nil))) (pss_cons (ps_if (PW.pt (pw_and (pt_cmpR op_eq (pv 3) pe_str (nomark _)) (pw_and1 (pt_cmpR op_gt (pe_callB (id := "len") call_len_seq (by rfl) T.z_len (by decide +kernel) (pa_cons (pv 1) pa_nil)) pe_int (nomark _))))) (pss_one (ps_set (i := 5) S_read_steps.nd rfl (Or.inl rfl) (pe_bm0 PySem.F.plainAttrs_list PySem.F.slot_list_pop PySem.F.type_list_pop mt_pop (pv 1)))) pss_nil) (pss_one (ps_if (PW.pt (pw_and (pt_cmpR op_notN (pv 6) pe_non (nomark _)) (pw_and1 (pt_cmpR op_le (pe_callB (id := "len") call_len_seq (by rfl) T.z_len (by decide +kernel) (pa_cons (pv 1) pa_nil)) (C8.pe_gc rfl (T.i_DEEPEST)) (nomark _))))) (pss_one (ps_expr (pe_bm PySem.F.plainAttrs_list PySem.F.slot_list_append PySem.F.type_list_append mt_append (pv 1) (pa_cons (pv 6) pa_nil)))) (pss_one (ps_if (PW.pt (pw_and (pt_cmpR op_notN (pv 5) pe_non (nomark _)) (pw_and1 (pt_val (pe_mtA (k_any_fits) hr (by omega) (pv 5) (pa_cons (C8.pe_gc rfl (T.i_GREATEST_WIDTH_steptexts)) pa_nil)))))) (pss_one (ps_expr (pe_bm PySem.F.plainAttrs_list PySem.F.slot_list_append PySem.F.type_list_append mt_append (pe_fld (pe_ix ix_list (pv 1) (pe_op op_sub (pe_callB (id := "len") call_len_seq (by rfl) T.z_len (by decide +kernel) (pa_cons (pv 1) pa_nil)) pe_int) (fun _ _ => rfl)) rfl) (pa_cons (pv 5) pa_nil)))) (pss_one ps_never)))))))))) (pss_cons (ps_if (pt_cmpR op_gt (pe_callB (id := "len") call_len_seq (by rfl) T.z_len (by decide +kernel) (pa_cons (pv 1) pa_nil)) pe_int (nomark _)) (pss_one ps_never) pss_nil) (pss_one (ps_ret (pe_fld (pe_ix ix_list (pv 1) pe_int (fun _ _ => rfl)) rfl))))))))), ?_⟩
    obtain ⟨hsplit, hte⟩ := split_text hne hg
    have htb := (text_bound hg hz).2
    refine ⟨_, rfl, _, _, _, _, true, rfl, .ty _, .base (.str _), kit_ty (by decide +kernel), true, rfl, iteF ?_⟩
    -- heads = [Turns(1, [])]
    refine ⟨Nat.zero_le _, fun l0 hl0 => ?_⟩
    refine fun h0 dx n0 nd ne => ?_
    have nl0 : l0 ≠ h0 := fun z => by
      rw [← z, upd_same] at n0
      cases n0
    have nld : l0 ≠ dx := fun z => by
      rw [← z, upd_same] at nd
      cases nd
    have n02 : (upd (upd H l0 (.lst [])) dx (.own h0)) h0 = none := by rw [upd_ne ne.symm]; exact n0
    have eA : Ex H (upd (upd (upd H l0 (.lst [])) dx (.own h0)) h0 (.ins (He.ga K "Turns") dx [])) := (Ex.new hl0).trans ((Ex.new nd).trans (Ex.new n02))
    refine ⟨h0, dx, l0, .int 1, [], rfl, upd_same, by rw [upd_ne nl0, upd_ne nld, upd_same], fun s0 H1 hs0 hh0 hs1 hkeep => ⟨rfl, ?_⟩⟩
    have e1 : Ex H H1 := fun b o q => hkeep b o (eA b o q) (ne_of_none ((Ex.new hl0) _ _ q) n0)
    have ns0 : H s0 = none := Evl.fresh_back eA hs0
    refine ⟨by show 1 ≤ sizeLine; decide, fun hl hhl => ?_⟩
    have nhl : H hl = none := Evl.fresh_back e1 hhl
    have d3 : hl ≠ s0 := fun z => by
      rw [z, hs1] at hhl
      cases hhl
    -- lines = text.split
    refine ⟨_, rfl, ⟨_, rfl⟩, ?_⟩
    refine ⟨_, _, rfl, rfl, rfl, Nat.le_trans (Nat.add_le_add htb (Nat.le_refl 2)) (by decide), fun lw hlw => ?_⟩
    rw [hsplit]
    have hlw1 : H1 lw = none := Evl.fresh_back (Ex.new hhl) hlw
    have d1 : lw ≠ hl := fun z => by
      rw [z, upd_same] at hlw
      cases hlw
    have d2 : lw ≠ s0 := fun z => by
      rw [z, hs1] at hlw1
      cases hlw1
    have d4 : h0 ≠ hl := fun z => by
      rw [← z, hh0] at hhl
      cases hhl
    have d5 : h0 ≠ lw := fun z => by
      rw [← z, hh0] at hlw1
      cases hlw1
    refine ⟨_, rfl, rfl, _, rfl, ifSN hte ?_⟩
    have I0 : RI K H (upd (upd H1 hl (.lst [.ref h0])) lw (.lst (((tksOf its).map Tk.line).map V.str))) lw hl h0 s0 (((tksOf its).map Tk.line).map V.str) ⟨[], none⟩ := by
      refine ⟨⟨(e1.mut nhl).trans (Ex.new hlw), nhl, ns0, upd_same, d1, d2, d3, dx, ?_⟩, ?_, [], ?_, .nil⟩
      · rw [upd_ne d5, upd_ne d4]
        exact hh0
      · rw [upd_ne d1.symm, upd_same]
      · rw [upd_ne d2.symm, upd_ne d3.symm]
        exact hs1
    generalize upd (upd H1 hl (.lst [.ref h0])) lw (.lst (((tksOf its).map Tk.line).map V.str)) = H2 at I0
    refine ⟨_, rfl, lw, rfl, ⟨_, SqL.of I0.1.lw_⟩, for_list (K := K) (a := lw) (xs := ((tksOf its).map Tk.line).map V.str) (fun j σ H' => ∃ v3 v4 v5 v6, σ = [some (.str (textOf its)), some (.ref hl), some (.ref lw), v3, v4, v5, v6] ∧ RI K H H' lw hl h0 s0 (((tksOf its).map Tk.line).map V.str) (((tksOf its).take j).foldl PSt.step ⟨[], none⟩))
      ⟨none, none, none, none, rfl, I0⟩ (fun j σ H' _ ⟨_, _, _, _, _, I⟩ => SqL.of I.1.lw_) ?_ ?_⟩
    · rintro j x σ H3 hj ⟨v3, v4, v5, v6, rfl, I⟩
      obtain ⟨t, ht, rfl⟩ := nth_line hj
      have hok := valid_at (valid_tks (t := []) hg) ht
      have htg := tks_good hg t (List.mem_of_getElem? ht)
      obtain ⟨b1, b2, b3⟩ := tk_line htg
      have hsz : (((tksOf its).take j).foldl PSt.step ⟨[], none⟩).size ≤ 1000 := by
        have q := size_fold ((tksOf its).take j) ⟨[], none⟩
        rw [List.length_take] at q
        have q2 : PSt.size ⟨[], none⟩ = 0 := rfl
        omega
      rw [fold_take ht]
      generalize ((tksOf its).take j).foldl PSt.step ⟨[], none⟩ = p at I hok hsz ⊢
      obtain ⟨top, inner⟩ := p
      -- words = line.split(" ")
      refine ⟨_, rfl, ⟨_, rfl⟩, ?_⟩
      refine ⟨_, _, rfl, rfl, rfl, Nat.le_trans (Nat.add_le_add b1 (Nat.le_refl 2)) (by decide), fun wl hwl => ?_⟩
      have eW := Ex.new (o := .lst ((Txt.split t.line " ").map V.str)) hwl
      have IW := I.grow eW
      have hW : (upd H3 wl (.lst ((Txt.split t.line " ").map V.str))) wl = some (.lst ((Txt.split t.line " ").map V.str)) := upd_same
      generalize upd H3 wl (.lst ((Txt.split t.line " ").map V.str)) = H4 at IW hW eW ⊢
      cases t with
      | row r =>
        have hr : r.tgood := hok
        have es := split_line hr
        change H4 wl = some (.lst ((Txt.split (lineOf r) " ").map V.str)) at hW
        rw [es] at hW
        refine ⟨_, rfl, wl, toldS r, rfl, hW, .inl ⟨r, rfl, hr, fun q H5 e5 hq => ?_⟩⟩
        refine ⟨_, rfl, wl, toldS r, rfl, e5 _ _ hW, .inr ⟨by have := (told_len r).1; omega, ?_⟩⟩
        refine ⟨_, rfl, rfl, _, rfl, ifSN (line_ne hr (by decide +kernel)) (iteF ?_)⟩
        refine ⟨_, rfl, rfl, _, rfl, iteF (iteF ?_)⟩
        refine ⟨_, rfl, rfl, _, rfl, ?_⟩
        rw [show (!decide (V.ref q = V.non)) = true from rfl]
        refine iteT ?_
        obtain ⟨dq, hq'⟩ := id hq
        have hno := (show ItAt K H5 q (.row r) from hq).ins
        obtain ⟨dx5, fs5, hi5, hno5⟩ := hno
        refine ⟨r.kd, _, rfl, q, dx5, fs5, rfl, hi5, hno5 _ (.inr (.inr (.inl rfl))), q, 32, .row r, rfl, hq, rfl, tgood_row hr, okw32, fun H6 e6 => ⟨true, rfl, iteT ?_⟩⟩
        have I6 := (IW.grow e5).grow e6
        have hq6 : RowAt K H6 q r := hq.ex e6
        obtain ⟨RB6, R6⟩ := I6
        obtain ⟨dx0, hh06⟩ := RB6.hd
        have nqs : ∀ a xs, H6 a = some (.lst xs) → q ≠ a := fun a xs ha => by
          obtain ⟨dq6, hq6'⟩ := id hq6
          exact ne_of hq6' ha (fun z => HO.noConfusion z)
        cases inner with
        | none =>
          obtain ⟨c1, ps, c2, c3⟩ := R6
          have hps : ps.length = top.length := Paired.length c3
          have htop : top.length ≤ 1000 := Nat.le_trans (Nat.le_add_right _ _) hsz
          refine ⟨_, rfl, _, rfl, hl, _, rfl, .inl (SqL.of c1), _, _, rfl, rfl, hl, _, _, _, rfl, rfl, SqL.of c1, atI_nat (j := 0) rfl, h0, _, dx0, _, _, rfl, hh06, T.c_Turns, T.n_Turns_steps, rfl, .inl ⟨rfl, _, SqL.of c2⟩, _, rfl, s0, _, _, rfl, rfl, c2, by rw [List.length_map]; exact Nat.lt_of_le_of_lt (Nat.le_trans (Nat.le_of_eq hps) htop) (by decide), ?_⟩
          refine ⟨_, _, _, _, rfl, RB6.upd RB6.ns RB6.d2 c2, by rw [upd_ne RB6.d3]; exact c1, ps ++ [q], by rw [upd_same, List.map_append]; rfl, ?_⟩
          have eh : Ex (hid H6 hl s0 s0) (hid (upd H6 s0 (.lst (ps.map V.ref ++ [.ref q]))) hl s0 s0) := hid_to fun x o h1 h2 h3 hx => ⟨by rw [upd_ne h2]; exact hx, h1, h2, h3⟩
          refine paired_snoc ?_ (Paired.mapP c3 fun _ _ z => z.ex eh)
          refine RowAt.ex ?_ eh
          obtain ⟨dq6, hq6'⟩ := id hq6
          exact ⟨dq6, by rw [hid_at (nqs _ _ c1) (nqs _ _ c2) (nqs _ _ c2)]; exact hq6'⟩
        | some z =>
          obtain ⟨n, rs⟩ := z
          obtain ⟨h1, s1, dx1, ps, ps1, c1, c2, c3, c4, m1, m2, m3, m4, c5, c6⟩ := R6
          have hps : ps1.length = rs.length := Paired.length c6
          have hrs : rs.length ≤ 1000 := Nat.le_trans (Nat.le_add_left _ _) hsz
          refine ⟨_, rfl, _, rfl, hl, _, rfl, .inl (SqL.of c1), _, _, rfl, rfl, hl, _, _, _, rfl, rfl, SqL.of c1, atI_nat (j := 1) rfl, h1, _, dx1, _, _, rfl, c3, T.c_Turns, T.n_Turns_steps, rfl, .inl ⟨rfl, _, SqL.of c4⟩, _, rfl, s1, _, _, rfl, rfl, c4, by rw [List.length_map]; exact Nat.lt_of_le_of_lt (Nat.le_trans (Nat.le_of_eq hps) hrs) (by decide), ?_⟩
          have eh : Ex (hid H6 hl s0 s1) (hid (upd H6 s1 (.lst (ps1.map V.ref ++ [.ref q]))) hl s0 s1) := hid_to fun x o h1 h2 h3 hx => ⟨by rw [upd_ne h3]; exact hx, h1, h2, h3⟩
          refine ⟨_, _, _, _, rfl, RB6.upd m4 m3.symm c4, h1, s1, dx1, ps, ps1 ++ [q], by rw [upd_ne m1.symm]; exact c1, by rw [upd_ne m2.symm]; exact c2, by rw [upd_ne (ne_of c3 c4 (fun z => HO.noConfusion z))]; exact c3, by rw [upd_same, List.map_append]; rfl, m1, m2, m3, m4, Paired.mapP c5 fun _ _ z => z.ex eh, ?_⟩
          refine paired_snoc ?_ (Paired.mapP c6 fun _ _ z => z.ex eh)
          refine RowAt.ex ?_ eh
          obtain ⟨dq6, hq6'⟩ := id hq6
          exact ⟨dq6, by rw [hid_at (nqs _ _ c1) (nqs _ _ c2) (nqs _ _ c4)]; exact hq6'⟩
      | turns n =>
        obtain ⟨hin, hn⟩ := hok
        have hin : inner = none := hin
        subst hin
        have es := split_turns hn
        rw [es] at hW
        refine ⟨_, rfl, wl, _, rfl, hW, .inr ⟨Nat.le_refl 2, ?_⟩⟩
        refine ⟨_, rfl, wl, _, rfl, hW, .inl ⟨n, hn, rfl, fun h1 s1 dx1 H5 e5 ns1 hh1 hs1' => ?_⟩⟩
        refine ⟨_, rfl, rfl, _, rfl, ifSN (turns_line hn) (iteF ?_)⟩
        refine ⟨_, rfl, rfl, _, rfl, ?_⟩
        rw [show (!decide (V.ref h1 = V.non)) = true from rfl]
        refine iteT ?_
        obtain ⟨RB5, c1, ps, c2, c3⟩ := IW.grow e5
        refine ⟨_, rfl, hl, _, rfl, .inl (SqL.of c1), _, _, rfl, rfl, _, rfl, ?_⟩
        refine iteT ?_
        refine ⟨_, rfl, .inl ⟨rfl, _, SqL.of c1⟩, _, rfl, hl, _, _, rfl, rfl, c1, by show 1 < sizeLine; decide, ?_⟩
        obtain ⟨RB4, c14, ps4, c24, c34⟩ := id IW
        have m1 : s1 ≠ hl := fun z => by
          rw [z, c14] at ns1
          cases ns1
        have m2 : s1 ≠ s0 := fun z => by
          rw [z, c24] at ns1
          cases ns1
        have m3 : s1 ≠ lw := fun z => by
          rw [z, RB4.lw_] at ns1
          cases ns1
        refine ⟨_, _, _, _, rfl, RB5.upd RB5.nh RB5.d1 c1, h1, s1, dx1, ps, [], by rw [upd_same]; rfl, by rw [upd_ne RB5.d3.symm]; exact c2, by rw [upd_ne (ne_of hh1 c1 (fun z => HO.noConfusion z))]; exact hh1, by rw [upd_ne m1]; exact hs1', m1, m2, m3, Evl.fresh_back RB4.ex ns1, ?_, .nil⟩
        -- the old items: made ahead of s1
        obtain rfl : ps4 = ps := by
          have q := (e5 _ _ c24).symm.trans c2
          have q2 := HO.lst.inj (Option.some.inj q)
          exact map_ref_inj q2
        refine Paired.mapP c34 fun _ _ z => z.ex (hid_to fun x o h1' h2' h3' hx => ?_)
        exact ⟨by rw [upd_ne h1']; exact e5 _ _ hx, h1', h2', fun z => by rw [z, ns1] at hx; cases hx⟩
      | fin =>
        obtain ⟨n, rs, hin, hgt⟩ := hok
        have hin : inner = some (n, rs) := hin
        subst hin
        have es := split_fin
        rw [es] at hW
        refine ⟨_, rfl, wl, _, rfl, hW, .inr ⟨by decide, ?_⟩⟩
        refine ⟨_, rfl, wl, _, rfl, hW, .inr ⟨by decide, ?_⟩⟩
        obtain ⟨RB4, h1, s1, dx1, ps, ps1, c1, c2, c3, c4, m1, m2, m3, m4, c5, c6⟩ := IW
        refine ⟨_, rfl, rfl, _, rfl, ifSY (a := "end") ?_⟩
        refine ⟨_, rfl, hl, _, rfl, .inl (SqL.of c1), _, _, rfl, rfl, _, rfl, iteT ?_⟩
        refine ⟨_, rfl, .inl ⟨rfl, _, SqL.of c1⟩, hl, _, _, rfl, rfl, c1, rfl, ?_⟩
        refine ⟨_, rfl, rfl, _, rfl, iteF (iteF ?_)⟩
        refine ⟨_, rfl, rfl, _, rfl, ?_⟩
        rw [show (!decide (V.ref h1 = V.non)) = true from rfl]
        refine iteT ?_
        have n1 : h1 ≠ hl := ne_of c3 c1 (fun z => HO.noConfusion z)
        have hit : ItAt K (upd H4 hl (.lst [V.ref h0, V.ref h1].dropLast)) h1 (.turns n rs) := by
          refine ⟨dx1, s1, by rw [upd_ne n1]; exact c3, ps1, by rw [upd_ne m1]; exact c4, Paired.mapP c6 fun _ _ z => RowAt.ex z fun x o e => ?_⟩
          obtain ⟨q1, q2, q3, q4⟩ := hid_ne e
          rw [upd_ne q1]
          exact q4
        have RB5 := RB4.upd (o := .lst [V.ref h0, V.ref h1].dropLast) RB4.nh RB4.d1 c1
        refine ⟨.turns, _, rfl, h1, dx1, _, rfl, by rw [upd_ne n1]; exact c3, rfl, h1, 32, .turns n rs, rfl, hit, rfl, tgood_it hgt, okw32, fun H6 e6 => ⟨true, rfl, iteT ?_⟩⟩
        have RB6 := RB5.grow e6
        obtain ⟨dx0, hh06⟩ := RB6.hd
        have c16 : H6 hl = some (.lst [V.ref h0]) := e6 _ _ upd_same
        have c26 : H6 s0 = some (.lst (ps.map V.ref)) := e6 _ _ (by rw [upd_ne RB4.d3.symm]; exact c2)
        have c36 := e6 _ _ (show (upd H4 hl (.lst [V.ref h0, V.ref h1].dropLast)) h1 = _ by rw [upd_ne n1]; exact c3)
        have c46 := e6 _ _ (show (upd H4 hl (.lst [V.ref h0, V.ref h1].dropLast)) s1 = _ by rw [upd_ne m1]; exact c4)
        have hps : ps.length = top.length := Paired.length c5
        have htop : top.length ≤ 1000 := Nat.le_trans (Nat.le_add_right _ _) hsz
        refine ⟨_, rfl, _, rfl, hl, _, rfl, .inl (SqL.of c16), _, _, rfl, rfl, hl, _, _, _, rfl, rfl, SqL.of c16, atI_nat (j := 0) rfl, h0, _, dx0, _, _, rfl, hh06, T.c_Turns, T.n_Turns_steps, rfl, .inl ⟨rfl, _, SqL.of c26⟩, _, rfl, s0, _, _, rfl, rfl, c26, by rw [List.length_map]; exact Nat.lt_of_le_of_lt (Nat.le_trans (Nat.le_of_eq hps) htop) (by decide), ?_⟩
        have eh : Ex (hid H4 hl s0 s1) (hid (upd H6 s0 (.lst (ps.map V.ref ++ [.ref h1]))) hl s0 s0) := hid_to fun x o q1 q2 q3 hx => ⟨by rw [upd_ne q2]; exact e6 _ _ (by rw [upd_ne q1]; exact hx), q1, q2, q2⟩
        refine ⟨_, _, _, _, rfl, RB6.upd RB6.ns RB6.d2 c26, by rw [upd_ne RB6.d3]; exact c16, ps ++ [h1], by rw [upd_same, List.map_append]; rfl, ?_⟩
        refine paired_snoc ?_ (Paired.mapP c5 fun _ _ z => z.ex eh)
        have n2 : h1 ≠ s0 := ne_of c36 c26 (fun z => HO.noConfusion z)
        refine ⟨dx1, s1, by rw [hid_at n1 n2 n2, upd_ne n2]; exact c36, ps1, by rw [hid_at m1 m2 m2, upd_ne m2]; exact c46, Paired.mapP c6 fun _ _ z => z.ex eh⟩
    · rintro σ H3 ⟨v3, v4, v5, v6, rfl, I⟩
      rw [List.length_map, List.length_map, List.take_length, fold_tks] at I
      obtain ⟨RB3, c1, ps, c2, c3⟩ := I
      refine ⟨_, rfl, hl, _, rfl, .inl (SqL.of c1), _, _, rfl, rfl, _, rfl, iteF ?_⟩
      obtain ⟨dx0, hh03⟩ := RB3.hd
      refine ⟨_, rfl, hl, _, _, _, rfl, rfl, SqL.of c1, atI_nat (j := 0) rfl, h0, _, dx0, _, _, rfl, hh03, T.c_Turns, T.n_Turns_steps, rfl, ?_⟩
      exact k s0 _ RB3.ex ⟨ps, c2, Paired.mapP c3 fun _ _ z => z.ex (hid_ex _ _ _ _)⟩
end
end K76
set_option Elab.async false
set_option linter.all false
set_option maxRecDepth 100000
set_option maxHeartbeats 4000000
namespace K76
open PySem PySem.Spec PyProof.Rows L2
/-! ## the plain law: the rows over names without their beginning -/
inductive Nm where
  | t | r | u | q | c | d | s | one | x | y | k | v | e | z | h | l | p0 | p1 | p2 | p3 | a0 | a1 | b0 | b1 | w | f
  deriving DecidableEq
def Nm.s_ : Nm → Str
  | .t => "t" | .r => "r" | .u => "u" | .q => "q" | .c => "c" | .d => "d" | .s => "s" | .one => "one" | .x => "x" | .y => "y" | .k => "k" | .v => "v" | .e => "e" | .z => "z" | .h => "h" | .l => "l"
  | .p0 => "p0" | .p1 => "p1" | .p2 => "p2" | .p3 => "p3" | .a0 => "a0" | .a1 => "a1" | .b0 => "b0" | .b1 => "b1" | .w => "w" | .f => "f"
theorem nm_inj : ∀ {a b : Nm}, a.s_ = b.s_ → a = b := by
  have h : ∀ a b : Nm, decide (a.s_ = b.s_) = decide (a = b) := by
    intro a b
    cases a <;> cases b <;> decide +kernel
  intro a b e
  have q := h a b
  rw [decide_eq_true e] at q
  exact of_decide_eq_true q.symm
def nn (n : Str) (a : Nm) : Str := n ++ a.s_
theorem nn_inj {n : Str} {a b : Nm} (h : nn n a = nn n b) : a = b := by
  unfold nn at h
  have e : TL.tl (n ++ a.s_) = TL.tl (n ++ b.s_) := by rw [h]
  rw [TL.tl_append, TL.tl_append] at e
  exact nm_inj (TL.ext_tl (List.append_cancel_left e))
inductive Rn where
  | set (g : Nm) (b : Int)
  | copy (g a : Nm)
  | pair (k : PK) (g a b : Nm)
  | carry (k : CK) (g : Nm) (c : Option Nm) (a b : Nm)
  | shift (k : SK) (g a : Nm) (n : Int)
  | pick (g p a b : Nm)
  | mark (l : Int) (m : Str) (p : Nm)
def Rn.rw (n : Str) : Rn → Rw
  | .set g b => .set (nn n g) b
  | .copy g a => .copy (nn n g) (nn n a)
  | .pair k g a b => .pair k (nn n g) (nn n a) (nn n b)
  | .carry k g c a b => .carry k (nn n g) (c.map (nn n)) (nn n a) (nn n b)
  | .shift k g a i => .shift k (nn n g) (nn n a) i
  | .pick g p a b => .pick (nn n g) (nn n p) (nn n a) (nn n b)
  | .mark l m p => .mark l m (nn n p)
abbrev Fn := Nm → Option Int
def gt (F : Fn) (a : Nm) : Int := (F a).getD 0
def pt (F : Fn) (g : Nm) (v : Int) : Fn := fun a => if a = g then some v else F a
def stN (w : Nat) (F : Fn) : Rn → Fn
  | .set g b => pt F g b
  | .copy g a => pt F g (gt F a)
  | .pair k g a b => pt F g (pairV w k (gt F a) (gt F b))
  | .carry k g c a b => match c with
    | none => pt F g (carryV w k (gt F a) (gt F b)).1
    | some c => pt (pt F g (carryV w k (gt F a) (gt F b)).1) c (carryV w k (gt F a) (gt F b)).2
  | .shift k g a i => pt F g (shiftV w k (gt F a) i)
  | .pick g p a b => pt F g (if gt F p ≠ 0 then gt F a else gt F b)
  | .mark .. => F
def smN (F : Fn) (M : List (Int × Str)) : Rn → List (Int × Str)
  | .mark l m p => if gt F p ≠ 0 then M ++ [(l, m)] else M
  | _ => M
def RelN (n : Str) (R : Rg) (F : Fn) : Prop := ∀ a, R (nn n a) = F a
theorem RelN.get {n : Str} {R : Rg} {F : Fn} (h : RelN n R F) (a : Nm) : get R (nn n a) = gt F a := by unfold K76.get gt; rw [h a]
theorem RelN.put {n : Str} {R : Rg} {F : Fn} (h : RelN n R F) (g : Nm) (v : Int) : RelN n (put R (nn n g) v) (pt F g v) := fun a => by
  unfold K76.put pt
  by_cases e : a = g
  · rw [if_pos (by rw [e]), if_pos e]
  · rw [if_neg (fun z => e (nn_inj z)), if_neg e]
    exact h a
theorem rel_step {n : Str} {w : Nat} {R : Rg} {F : Fn} (h : RelN n R F) (r : Rn) : RelN n (stepR w R (r.rw n)) (stN w F r) := by
  cases r with
  | set g b => exact h.put g b
  | copy g a => show RelN n (put R _ (get R _)) _; rw [h.get]; exact h.put _ _
  | pair k g a b => show RelN n (put R _ (pairV w k (get R _) (get R _))) _; rw [h.get, h.get]; exact h.put _ _
  | carry k g c a b =>
    cases c with
    | none => show RelN n (put R _ (carryV w k (get R _) (get R _)).1) _; rw [h.get, h.get]; exact h.put _ _
    | some c => show RelN n (put (put R _ (carryV w k (get R _) (get R _)).1) _ (carryV w k (get R _) (get R _)).2) _; rw [h.get, h.get]; exact (h.put _ _).put _ _
  | shift k g a i => show RelN n (put R _ (shiftV w k (get R _) i)) _; rw [h.get]; exact h.put _ _
  | pick g p a b => show RelN n (put R _ (if get R _ ≠ 0 then get R _ else get R _)) _; rw [h.get, h.get, h.get]; exact h.put _ _
  | mark l m p => exact h
theorem rel_mark {n : Str} {R : Rg} {F : Fn} {M : List (Int × Str)} (h : RelN n R F) (r : Rn) : stepM R M (r.rw n) = smN F M r := by
  cases r with
  | mark l m p => show (if get R (nn n p) ≠ 0 then _ else _) = _; rw [h.get]; rfl
  | _ => rfl
/-- the state over names: registers and marks -/
abbrev Sn := Fn × List (Int × Str)
def runN (w : Nat) (S : Sn) (rs : List Rn) : Sn := rs.foldl (fun S r => (stN w S.1 r, smN S.1 S.2 r)) S
def RelS (n : Str) (S : Ms) (T : Sn) : Prop := RelN n S.reg T.1 ∧ S.marks = T.2
theorem rel_run {n : Str} {w : Nat} : ∀ {rs : List Rn} {S : Ms} {T : Sn}, RelS n S T → RelS n (runRows w S (rs.map (Rn.rw n))) (runN w T rs)
  | [], _, _, h => h
  | r :: rs, S, T, h => rel_run (rs := rs) ⟨rel_step h.1 r, by show stepM S.reg S.marks (r.rw n) = _; rw [rel_mark h.1, h.2]⟩
theorem rel_iter {n : Str} {w : Nat} {rs : List Rn} : ∀ {m : Nat} {S : Ms} {T : Sn}, RelS n S T → RelS n (iter (turn1 w (rs.map (Rn.rw n))) m S) (iter (fun T => runN w T rs) m T)
  | 0, _, _, h => h
  | m + 1, S, T, h => by
    have q := rel_iter (m := m) (rs := rs) (w := w) h
    show RelS n (turn1 w (rs.map (Rn.rw n)) (iter (turn1 w (rs.map (Rn.rw n))) m S)) (runN w (iter (fun T => runN w T rs) m T) rs)
    exact rel_run (S := ⟨_, _, _⟩) ⟨q.1, q.2⟩
/-! ### the division's rows -/
def bitN (w : Nat) : List Rn := [.shift .right .t .r ((w : Int) - 1), .shift .left .r .r 1, .shift .right .u .q ((w : Int) - 1), .pair .or .r .r .u, .shift .left .q .q 1, .pair .under .c .r .d, .pair .unlike .c .c .one, .pair .or .c .c .t,
  .carry .gap .s none .r .d, .pick .r .c .s .r, .pair .or .q .q .c]
def headN : List Rn := [.set .one 1, .copy .r .h, .copy .q .l]
def tailN (w : Nat) : List Rn := [.pair .low .x .q .d, .pair .high .y .q .d, .carry .sum .x (some .k) .x .r, .carry .sum .y (some .v) .y .k, .pair .unlike .e .x .l, .mark 1 "round" .e, .pair .unlike .e .y .h, .mark 2 "stop" .e, .mark 3 "nothing" .v, .mark 4 "stop" .one,
  .shift .slide .z .l ((w : Int) - 1)]
structure DI (F : Fn) (r q d h l : Int) : Prop where
  r_ : F .r = some r
  q_ : F .q = some q
  d_ : F .d = some d
  one_ : F .one = some 1
  h_ : F .h = some h
  l_ : F .l = some l
theorem pow_pred {w : Nat} (hw : 1 ≤ w) : (2 : Int) ^ ((w : Int) - 1).toNat = B (w - 1) := by unfold B; rw [show ((w : Int) - 1).toNat = w - 1 by omega]
theorem bit_ok {w : Nat} (hw : 1 ≤ w) {F : Fn} {M : List (Int × Str)} {r q d h l : Int} (I : DI F r q d h l) (hr : 0 ≤ r ∧ r < d) (hd : d < B w) (hq : 0 ≤ q ∧ q < B w) :
    ∃ r' q' c : Int, DI (runN w (F, M) (bitN w)).1 r' q' d h l ∧ (runN w (F, M) (bitN w)).2 = M ∧ (0 ≤ r' ∧ r' < d) ∧ (0 ≤ q' ∧ q' < B w) ∧ 0 ≤ c ∧ c ≤ 1 ∧ r' * B w + q' = 2 * (r * B w + q) - c * (d * B w - 1) := by
  obtain ⟨i1, i2, i3, i4, i5, i6⟩ := I
  have hB := B_half hw
  have hH : 1 ≤ B (w - 1) := by have := B_pos (w - 1); omega
  have key := div_turn (Hf := B (w - 1)) (r := r) (q := q) (d := d) hH hr (by omega) ⟨hq.1, by omega⟩ rfl rfl rfl rfl rfl rfl rfl rfl rfl rfl rfl
  rw [← hB] at key
  obtain ⟨k1, k2, c, k3, k4, k5⟩ := key
  refine ⟨_, _, c, ⟨?_, ?_, ?_, ?_, ?_, ?_⟩, ?_, k1, k2, k3, k4, k5⟩
  · simp only [runN, bitN, List.foldl_cons, List.foldl_nil, stN, smN, pt, gt, pairV, carryV, shiftV, pow_pred hw, i1, i2, i3, i4, Option.getD_some, reduceIte, reduceCtorEq, Int.toNat_one, Int.pow_one, show (1 : Int).toNat = 1 from rfl]
  · simp only [runN, bitN, List.foldl_cons, List.foldl_nil, stN, smN, pt, gt, pairV, carryV, shiftV, pow_pred hw, i1, i2, i3, i4, Option.getD_some, reduceIte, reduceCtorEq, Int.toNat_one, Int.pow_one, show (1 : Int).toNat = 1 from rfl]
  · simp only [runN, bitN, List.foldl_cons, List.foldl_nil, stN, smN, pt, i3, reduceIte, reduceCtorEq]
  · simp only [runN, bitN, List.foldl_cons, List.foldl_nil, stN, smN, pt, i4, reduceIte, reduceCtorEq]
  · simp only [runN, bitN, List.foldl_cons, List.foldl_nil, stN, smN, pt, i5, reduceIte, reduceCtorEq]
  · simp only [runN, bitN, List.foldl_cons, List.foldl_nil, stN, smN, pt, i6, reduceIte, reduceCtorEq]
  · rfl
theorem bits_ok {w : Nat} (hw : 1 ≤ w) {F : Fn} {d h l : Int} (I : DI F h l d h l) (hh : 0 ≤ h ∧ h < d) (hd : d < B w) (hl : 0 ≤ l ∧ l < B w) : ∀ i : Nat,
    ∃ r q Z : Int, DI (iter (fun T => runN w T (bitN w)) i (F, ([] : List (Int × Str)))).1 r q d h l ∧ (iter (fun T => runN w T (bitN w)) i (F, ([] : List (Int × Str)))).2 = [] ∧ (0 ≤ r ∧ r < d) ∧ (0 ≤ q ∧ q < B w) ∧ (0 ≤ Z ∧ Z < B i) ∧ r * B w + q = B i * (h * B w + l) - Z * (d * B w - 1)
  | 0 => ⟨h, l, 0, I, rfl, hh, hl, ⟨Int.le_refl 0, by decide⟩, by rw [show B 0 = 1 from rfl]; omega⟩
  | i + 1 => by
    obtain ⟨r, q, Z, J, hm, hr, hq, hZ, e⟩ := bits_ok hw I hh hd hl i
    obtain ⟨r', q', c, J', hm', hr', hq', c0, c1, e'⟩ := bit_ok hw (M := (iter (fun T => runN w T (bitN w)) i (F, ([] : List (Int × Str)))).2) J hr hd hq
    refine ⟨r', q', 2 * Z + c, J', hm'.trans hm, hr', hq', ⟨by omega, by rw [B_succ]; omega⟩, ?_⟩
    rw [e', e, B_succ]
    grind
theorem div_rows {w : Nat} (hw : 4 ≤ w) {F : Fn} {d h l : Int} (hF : F .h = some h ∧ F .l = some l ∧ F .d = some d) (hh : 0 ≤ h ∧ h < d) (hd : d < B w) (hl : 0 ≤ l ∧ l < B w) :
    ∃ (q r : Int) (G : Fn), runN w (iter (fun T => runN w T (bitN w)) w (runN w (F, []) headN)) (tailN w) = (G, [((4 : Int), ("stop" : Str))]) ∧ G .q = some q ∧ G .r = some r ∧ (0 ≤ r ∧ r < d) ∧ (0 ≤ q ∧ q < B w) ∧ q * d + r = h * B w + l ∧ G .x = some l ∧ G .y = some h ∧ G .v = some 0 ∧
      G .z = some ((B w - 1) * (if B w ≤ 2 * l then 1 else 0)) := by
  obtain ⟨f1, f2, f3⟩ := hF
  have h1 : 1 ≤ w := by omega
  have I0 : DI (runN w (F, ([] : List (Int × Str))) headN).1 h l d h l := by
    refine ⟨?_, ?_, ?_, ?_, ?_, ?_⟩ <;> simp only [runN, headN, List.foldl_cons, List.foldl_nil, stN, smN, pt, gt, f1, f2, f3, Option.getD_some, reduceIte, reduceCtorEq]
  have e0 : runN w (F, ([] : List (Int × Str))) headN = ((runN w (F, ([] : List (Int × Str))) headN).1, []) := rfl
  rw [e0]
  obtain ⟨r, q, Z, J, hm, hr, hq, hZ, e⟩ := bits_ok h1 I0 hh hd hl w
  generalize iter (fun T => runN w T (bitN w)) w ((runN w (F, ([] : List (Int × Str))) headN).1, []) = T at J hm ⊢
  obtain ⟨G0, M0⟩ := T
  have hm : M0 = [] := hm
  subst hm
  obtain ⟨j1, j2, j3, j4, j5, j6⟩ := J
  dsimp only at j1 j2 j3 j4 j5 j6
  obtain ⟨eq1, eq2⟩ := div_end (B_pos w) hq hZ e
  obtain ⟨b1, b2, b3⟩ := back_ok (B_pos w) hl ⟨hh.1, by omega⟩ eq2 rfl rfl rfl rfl rfl rfl
  have hB := B_half h1
  have hH : 1 ≤ B (w - 1) := by have := B_pos (w - 1); omega
  have sl := slide_ok (Hf := B (w - 1)) (l := l) hH ⟨hl.1, by omega⟩ rfl
  rw [← hB] at sl
  have xs : ∀ a : Int, Builtin.bitXor a a = 0 := bitXor_self
  refine ⟨q, r, _, Prod.ext rfl ?_, ?_, ?_, hr, hq, eq2, ?_, ?_, ?_, ?_⟩
  · simp only [runN, tailN, List.foldl_cons, List.foldl_nil, stN, smN, pt, gt, pairV, carryV, shiftV, j1, j2, j3, j4, j5, j6, Option.getD_some, reduceIte, reduceCtorEq, b1, b2, b3, xs]
    rfl
  · simp only [runN, tailN, List.foldl_cons, List.foldl_nil, stN, pt, j2, reduceIte, reduceCtorEq]
  · simp only [runN, tailN, List.foldl_cons, List.foldl_nil, stN, pt, j1, reduceIte, reduceCtorEq]
  · simp only [runN, tailN, List.foldl_cons, List.foldl_nil, stN, pt, gt, pairV, carryV, shiftV, j1, j2, j3, j4, j5, j6, Option.getD_some, reduceIte, reduceCtorEq, b1, b2, b3]
  · simp only [runN, tailN, List.foldl_cons, List.foldl_nil, stN, pt, gt, pairV, carryV, shiftV, j1, j2, j3, j4, j5, j6, Option.getD_some, reduceIte, reduceCtorEq, b1, b2, b3]
  · simp only [runN, tailN, List.foldl_cons, List.foldl_nil, stN, pt, gt, pairV, carryV, shiftV, j1, j2, j3, j4, j5, j6, Option.getD_some, reduceIte, reduceCtorEq, b1, b2, b3]
  · simp only [runN, tailN, List.foldl_cons, List.foldl_nil, stN, pt, gt, pairV, carryV, shiftV, pow_pred h1, j1, j2, j3, j4, j5, j6, Option.getD_some, reduceIte, reduceCtorEq, ← sl]
    by_cases hc : l / B (w - 1) = 1
    · rw [if_pos hc, if_pos hc]
    · rw [if_neg hc, if_neg hc]
/-! ### the product's rows -/
def onceN (a b : Nm) : List Rn := [.pair .low .w a b, .carry .sum .p1 (some .k) .p1 .w, .carry .sum .p2 (some .f) .p2 .k, .carry .sum .p3 none .p3 .f, .pair .high .w a b, .carry .sum .p2 (some .k) .p2 .w, .carry .sum .p3 none .p3 .k]
def prodN : List Rn := [.pair .low .p0 .a0 .b0, .pair .high .p1 .a0 .b0, .set .p2 0, .set .p3 0] ++ (onceN .a0 .b1 ++ (onceN .a1 .b0 ++ [.pair .low .w .a1 .b1, .carry .sum .p2 (some .k) .p2 .w, .pair .high .w .a1 .b1, .carry .sum .p3 none .p3 .w, .carry .sum .p3 none .p3 .k]))
theorem prod_rows {w : Nat} {F : Fn} {x0 x1 y0 y1 : Int} (hF : F .a0 = some x0 ∧ F .a1 = some x1 ∧ F .b0 = some y0 ∧ F .b1 = some y1) (h0 : 0 ≤ x0 ∧ x0 < B w) (h1 : 0 ≤ x1 ∧ x1 < B w) (h2 : 0 ≤ y0 ∧ y0 < B w) (h3 : 0 ≤ y1 ∧ y1 < B w) :
    ∃ (p0 p1 p2 p3 : Int) (G : Fn), runN w (F, []) prodN = (G, []) ∧ G .p0 = some p0 ∧ G .p1 = some p1 ∧ G .p2 = some p2 ∧ G .p3 = some p3 ∧ (0 ≤ p0 ∧ p0 < B w) ∧ (0 ≤ p1 ∧ p1 < B w) ∧ (0 ≤ p2 ∧ p2 < B w) ∧ (0 ≤ p3 ∧ p3 < B w) ∧
      ((p3 * B w + p2) * B w + p1) * B w + p0 = (x1 * B w + x0) * (y1 * B w + y0) := by
  obtain ⟨f0, f1, f2, f3⟩ := hF
  have key := prod_ok (a0 := x0) (a1 := x1) (b0 := y0) (b1 := y1) (B_pos w) h0 h1 h2 h3 rfl rfl rfl rfl rfl rfl rfl rfl rfl rfl rfl rfl rfl rfl rfl rfl rfl rfl rfl rfl rfl rfl rfl rfl rfl rfl rfl rfl
  refine ⟨_, _, _, _, _, Prod.ext rfl rfl, ?_, ?_, ?_, ?_, mod_wd w _, mod_wd w _, mod_wd w _, mod_wd w _, key⟩ <;>
    simp only [runN, prodN, onceN, List.cons_append, List.nil_append, List.foldl_cons, List.foldl_nil, stN, pt, gt, pairV, carryV, f0, f1, f2, f3, Option.getD_some, reduceIte, reduceCtorEq]
end K76
set_option Elab.async false
set_option linter.all false
set_option maxRecDepth 100000
set_option maxHeartbeats 4000000
namespace K76
open PySem PySem.Spec PyProof.Rows L2
open Evl (Ex)
/-! ## list(d.keys()), sum(d.values()) -/
def tKeysL (te : TE) : TE := fun σ H Q => te σ H fun x H1 => ∃ (d : Addr) (kvs : List (Key × V)), x = .ref d ∧ H1 d = some (.dK kvs) ∧ ∀ q, H1 q = none → Q (.ref q) (upd H1 q (.lst (kvs.map fun kv => kV kv.1)))
def tSumV (te : TE) : TE := fun σ H Q => te σ H fun x H1 => ∃ (d : Addr) (kvs : List (Key × V)) (ns : List Int), x = .ref d ∧ H1 d = some (.dK kvs) ∧ kvs.map (·.2) = ns.map V.int ∧ Q (.int ns.sum) H1
theorem keys_laid {kvs : List (Key × V)} {vs : List (Key × Value)} {acc : Array Value} (r : KV kvs vs) (h : PySem.ItemsOf (fun i v => ∃ k x, vs[i]? = some (k, x) ∧ keyIs k v = true) acc vs.length) : Vals (kvs.map fun kv => kV kv.1) acc.toList := by
  obtain ⟨hn, hv⟩ := h
  have hv' : ∀ j v, acc.toList[j]? = some v → ∃ k x, vs[j]? = some (k, x) ∧ keyIs k v = true := fun j v e => hv j v (by rw [← Array.getElem?_toList]; exact e)
  have hn' : acc.toList.length = vs.length := by rw [Array.length_toList]; exact hn
  clear hv hn
  generalize acc.toList = us at hv' hn' ⊢
  induction r generalizing us with
  | nil =>
    obtain rfl := List.length_eq_zero_iff.mp hn'
    exact .nil
  | @cons p q ps qs h1 _ ih =>
    cases us with
    | nil => cases hn'
    | cons u us =>
      obtain ⟨k, x, e1, e2⟩ := hv' 0 u rfl
      obtain rfl := Option.some.inj e1
      refine .cons ?_ (ih us (fun j v e => hv' (j + 1) v e) (Nat.succ.inj hn'))
      show L2.RelV (kV p.1) u
      rw [h1.1]
      exact relV_key e2
theorem pre_ints : ∀ (us : List Value) (ns : List Int), Vals (ns.map V.int) us → (∀ i v, us[i]? = some v → ∃ t, v = Value.int (ns.getD i 0) t)
  | [], _, _, i, v, e => by cases e
  | u :: us, n :: ns, r, 0, v, e => by
    cases e
    cases r with
    | cons h t => exact h
  | u :: us, n :: ns, r, i + 1, v, e => by
    cases r with
    | cons h t => exact pre_ints us ns t i v e
  | u :: us, [], r, i, v, e => by cases r
theorem pre_sum (ns : List Int) : ∀ j : Nat, PySem.preSum (fun i => ns.getD i 0) j = (ns.take j).sum
  | 0 => by simp [PySem.preSum]
  | j + 1 => by
    rw [PySem.preSum, pre_sum ns j]
    by_cases hj : j < ns.length
    · rw [← List.take_append_getElem hj, List.sum_append]
      simp [List.getD_eq_getElem?_getD, hj]
    · rw [List.take_of_length_le (by omega), List.take_of_length_le (by omega)]
      simp [List.getD_eq_getElem?_getD, show ns.length ≤ j by omega]
section
variable {X : Cx} {te : TE} {e : Expr} {p cpos apos pos : Pos}
theorem pe_keysL (hc : X.calm = true) (he : PE X e te) (hg : Gl X "list") (hm : X.mg "list" = none) (hbase : attributeBase e "keys" X.env (eval e X.env) = eval e X.env := by rfl) (hline : (apos.endLine == cpos.line) = true := by rfl)
    (hs : starEach [.Call (.Attribute e "keys" apos) [] [] cpos] X.env = (false, eval (.Call (.Attribute e "keys" apos) [] [] cpos) X.env) :: starEach [] X.env := by rfl) :
    PE X (.Call (.Name "list" p) [.Call (.Attribute e "keys" apos) [] [] cpos] [] pos) (tKeysL te) := by
  refine ⟨fun pins s σ H Q I hq => wpAny_Call_Name_kw (ld_blt I hg hm boot_list (PyProof.Rows.callWith_type1 ?_ hs rfl))⟩
  rw [hs]
  show wpAny _ _ (spliced ((false, eval (.Call (.Attribute e "keys" apos) [] [] cpos) X.env) :: backTo pos (starEach [] X.env))) _ _ s
  refine Calls.spliced_cons (wpAny_Call_method (T := "dict") (id := "dict.keys") hbase rfl hline F.plainAttrs_dict F.slot_dict_keys F.type_dict_keys (thn (he.run pins s σ H _ I hq) fun u sa ⟨x, H1, J1, rx, d, kvs, ex, hd, q⟩ => ?_))
  subst ex
  obtain rfl : u = Value.ref d := rx
  obtain ⟨big, nsy, vs, kr, hD⟩ := J1.hok d _ hd
  obtain ⟨ep, hA⟩ := hD.dictAt
  have lkv : kvs.length = vs.length := Paired.length kr
  refine ⟨hD.typeIs, hD.mapOf.noDict, ?_⟩
  show wpAny _ _ (callWith cpos (.builtin "dict.keys") [.ref d] [] []) _ X.xe sa
  refine method_meetsIn F.slot_dict_keys F.entry_dict_keys rfl (PySem.evalArgs_none ⟨rfl, hD.typeIs, F.args_dict_keys_1 _, _, PySem.W.kdl_meets_keys (mixKind X.prog X.w) d nsy, ⟨vs, hD⟩, Calls.spliced_nil ?_⟩)
  refine PySem.W.kdl_call (PySem.W.kdl_keys (knd := mixKind X.prog X.w) (r := sa.heap.objs.size) (d := d) (kvs := vs) (ep := ep)) (J1.ok.hd hc) ⟨⟨_, Heap.get?_push_size _ rfl, rfl, rfl⟩, hA.push _⟩ (by omega) fun h' tk acc c kp eS hacc => ?_
  have J2 : Inv X pins σ H1 { sa with heap := sa.heap.push { cls := .type "dict_keys", data := .fields #[.ref d] } } := J1.kept (t' := sa.toks) fun b ob q => Heap.get?_push_of_some _ q
  refine ⟨.ref _, _, J2.laid (t' := tk) kp (Nat.le_refl _) (show ObjOk X.prog X.w _ h' _ (.lst (kvs.map fun kr => kV kr.1)) from ⟨by rw [List.length_map]; exact big, acc.toList, c, keys_laid kr hacc, by rw [Array.toArray_toList]; exact eS⟩), rfl, q _ (J2.hok.fresh (Nat.le_refl _))⟩
theorem pe_sumV (hc : X.calm = true) (he : PE X e te) (hg : Gl X "sum") (hm : X.mg "sum" = none) (hbase : attributeBase e "values" X.env (eval e X.env) = eval e X.env := by rfl) (hline : (apos.endLine == cpos.line) = true := by rfl)
    (hs : starEach [.Call (.Attribute e "values" apos) [] [] cpos] X.env = (false, eval (.Call (.Attribute e "values" apos) [] [] cpos) X.env) :: starEach [] X.env := by rfl) :
    PE X (.Call (.Name "sum" p) [.Call (.Attribute e "values" apos) [] [] cpos] [] pos) (tSumV te) := by
  refine ⟨fun pins s σ H Q I hq => wpAny_Call_Name_kw (ld_blt I hg hm boot_sum (PyProof.Rows.callWith_builtin1 ?_ hs rfl))⟩
  rw [hs]
  show wpAny _ _ (spliced ((false, eval (.Call (.Attribute e "values" apos) [] [] cpos) X.env) :: backTo pos (starEach [] X.env))) _ _ s
  refine Calls.spliced_cons (wpAny_Call_method (T := "dict") (id := "dict.values") hbase rfl hline F.plainAttrs_dict F.slot_dict_values F.type_dict_values (thn (he.run pins s σ H _ I hq) fun u sa ⟨x, H1, J1, rx, d, kvs, ns, ex, hd, en, q⟩ => ?_))
  subst ex
  obtain rfl : u = Value.ref d := rx
  obtain ⟨big, nsy, vs, kr, hD⟩ := J1.hok d _ hd
  obtain ⟨ep, hA⟩ := hD.dictAt
  have lkv : kvs.length = vs.length := Paired.length kr
  have rv : Vals (ns.map V.int) (vs.map (·.2)) := by
    rw [← en]
    clear big nsy hD hA lkv en hd
    induction kr with
    | nil => exact .nil
    | cons h1 _ ih => exact .cons h1.2 ih
  have ln : ns.length = vs.length := by have := rv.length; simpa using this
  refine ⟨hD.typeIs, hD.mapOf.noDict, ?_⟩
  show wpAny _ _ (callWith cpos (.builtin "dict.values") [.ref d] [] []) _ X.xe sa
  refine method_meetsIn F.slot_dict_values F.entry_dict_values rfl (PySem.evalArgs_none ⟨rfl, hD.typeIs, F.args_dict_values_1 _, _, PySem.meets_dict_values (mixKind X.prog X.w) d nsy, ⟨vs, hD⟩, Calls.spliced_nil ?_⟩)
  have J2 : Inv X pins σ H1 { sa with heap := sa.heap.push { cls := .type "dict_values", data := .fields #[.ref d] } } := J1.kept (t' := sa.toks) fun b ob q => Heap.get?_push_of_some _ q
  have hd' := J1.ok.hd hc
  refine PySem.call_sum_walkAnyS ?_
  have K := PySem.W.kdl_values (prog := X.prog) (w := X.w) (knd := mixKind X.prog X.w) (r := sa.heap.objs.size) (d := d) (kvs := vs) (ep := ep)
  have hok : (fun h : Heap => h.IsValuesView sa.heap.objs.size d ∧ h.DictAt (mixKind X.prog X.w) d vs ep) (sa.heap.push { cls := .type "dict_values", data := .fields #[.ref d] }) := ⟨⟨_, Heap.get?_push_size _ rfl, rfl, rfl⟩, hA.push _⟩
  obtain ⟨oI, St, hit, W, st⟩ := K.iter X.A.in1 { sa with heap := sa.heap.push { cls := .type "dict_values", data := .fields #[.ref d] } } hd' hok
  refine hit _ _ ⟨_, _, _, _, vs.length, _, _, fun i => ns.getD i 0, rfl, W.toS, st, fun b hb => ?_, fun i v hv => ?_, fun s' t' hm => ?_⟩
  · show b < (Heap.push _ oI).objs.size
    rw [Heap.size_push]
    rcases List.mem_cons.mp hb with rfl | hb
    · exact Nat.lt_succ_self _
    · obtain rfl := List.mem_singleton.mp hb
      exact Nat.lt_succ_of_lt hok.2.lt_size
  · obtain ⟨k, hk⟩ := hv
    exact pre_ints (vs.map (·.2)) ns rv i v (by rw [List.getElem?_map, hk]; rfl)
  · have kp : ∀ b o, (sa.heap.push { cls := .type "dict_values", data := .fields #[.ref d] }).get? b = some o → s'.heap.get? b = some o := fun b o e0 =>
      hm.heap b o (fun hI => absurd (Heap.lt_size e0) (by rw [List.mem_singleton.mp hI]; exact Nat.lt_irrefl _)) (Heap.get?_push_of_some _ e0)
    rw [PySem.Moved.eq_with hm, pre_sum, List.take_of_length_le (by omega)]
    exact ⟨.int _, H1, J2.kept (t' := s'.toks) kp, ⟨_, rfl⟩, q⟩
end
end K76
set_option Elab.async false
set_option linter.all false
set_option maxRecDepth 100000
set_option maxHeartbeats 4000000
namespace K76
open PySem PySem.Spec PyProof.Rows L2
open Evl (Ex)
/-! ## the law's own numbers -/
def St3 (H : Hp) (t : Addr) : Prop := ∃ a b c : Int, H t = some (.lst [.int a, .int b, .int c])
def Stp (t : Addr) (H H' : Hp) : Prop := ∃ a b c : Int, Ex (upd H t (.lst [.int a, .int b, .int c])) H'
theorem Stp.st {t : Addr} {H H' : Hp} (h : Stp t H H') : St3 H' t := let ⟨a, b, c, e⟩ := h; ⟨a, b, c, e _ _ upd_same⟩
theorem Stp.ex {t : Addr} {H H' H2 : Hp} (h : Stp t H H') (e : Ex H' H2) : Stp t H H2 := let ⟨a, b, c, q⟩ := h; ⟨a, b, c, q.trans e⟩
theorem Stp.trans {t : Addr} {H H' H2 : Hp} (h : Stp t H H') (g : Stp t H' H2) : Stp t H H2 := by
  obtain ⟨a, b, c, q⟩ := h
  obtain ⟨a', b', c', q'⟩ := g
  refine ⟨a', b', c', ?_⟩
  have r := ex_upd (a := t) (o := .lst [.int a', .int b', .int c']) q
  rw [upd_upd] at r
  exact r.trans q'
theorem Stp.at {t : Addr} {H H' : Hp} (h : Stp t H H') {b : Addr} {o : HO} (n : b ≠ t) (e : H b = some o) : H' b = some o := let ⟨a, b', c, q⟩ := h; q _ _ (by rw [upd_ne n]; exact e)
theorem Stp.back {t : Addr} {H H' : Hp} (h : Stp t H H') {b : Addr} (e : H' b = none) : b ≠ t ∧ H b = none := by
  obtain ⟨a, b', c, q⟩ := h
  have r := Evl.fresh_back q e
  by_cases z : b = t
  · rw [z, upd_same] at r
    cases r
  · rw [upd_ne z] at r
    exact ⟨z, r⟩
theorem Stp.old {t : Addr} {H0 H H' : Hp} (e : Ex H0 H) (n : H0 t = none) (h : Stp t H H') : Ex H0 H' := fun b o q => h.at (fun z => by rw [z, n] at q; cases q) (e b o q)
theorem Stp.of_ex {t : Addr} {H H' : Hp} (s : St3 H t) (e : Ex H H') : Stp t H H' := by
  obtain ⟨a, b, c, q⟩ := s
  refine ⟨a, b, c, ?_⟩
  rw [upd_self q]
  exact e
def spLaw (K : PySem.W.Frag) : Sp := fun vs H Q _ => ∃ (a : Addr) (xs : List Int), vs = [.ref a] ∧ SqL K H a (xs.map V.int) ∧ ∀ H', Q (.bl true) H'
def spWholeL : Sp := fun vs H Q _ => ∃ i : Int, vs = [.int i] ∧ Q (.bl true) H
def spCell (K : PySem.W.Frag) : Sp := fun vs H Q _ => ∃ (a : Addr) (xs : List Int) (k : Nat), vs = [.ref a, .int k] ∧ SqL K H a (xs.map V.int) ∧ (k < xs.length ∨ xs = []) ∧ k < 10 ∧ ∀ v : Int, Q (.int v) H
def spBegun : Sp := fun vs H Q _ => ∃ x : Int, vs = [.int x] ∧ ∀ (a c : Int) p, H p = none → Q (.ref p) (upd H p (.lst [.int a, .int 0, .int c]))
def spDraw : Sp := fun vs H Q _ => ∃ (t : Addr) (m : Int), vs = [.ref t, .int m] ∧ St3 H t ∧ 1 ≤ m ∧ m ≤ 65536 ∧ ∀ (v : Int) H', Stp t H H' → 0 ≤ v → v < m → Q (.int v) H'
def spWordL : Sp := fun vs H Q _ => ∃ (t : Addr) (w : Nat), vs = [.ref t, .int w] ∧ St3 H t ∧ okw w ∧ ∀ (v : Int) H', Stp t H H' → 0 ≤ v → v < B w → Q (.int v) H'
theorem fmod_in {a m : Int} (h : 1 ≤ m) : 0 ≤ a.fmod m ∧ a.fmod m < m := by
  rw [Int.fmod_eq_emod_of_nonneg a (by omega)]
  exact ⟨Int.emod_nonneg _ (by omega), Int.emod_lt_of_pos _ (by omega)⟩
theorem nzM {n : Nat} : (OfNat.ofNat (n + 1) : Int) ≠ 0 := by
  show ((n + 1 : Nat) : Int) ≠ 0
  omega
section
variable {P : Program} {w : World} {K : PySem.W.Frag} {mg : Str → Option Value} {base : Heap}
theorem ok_law_whole (T : Tx K mg) : C8.Cal P w K mg base 1 "_law_whole" spWholeL [] :=
  cal_mk T.f_law_whole T.g__law_whole S_law_whole B_law_whole (fun vs H Q E h => by obtain ⟨i, rfl, _⟩ := h; rfl) fun cdv A outer s H vs Q E hr h => by
    obtain ⟨i, rfl, k⟩ := h
    refine ⟨_, (pss_one (ps_ret (pe_and (pe_callB (id := "isinstance") (isi_at (K := K) rfl) (by rfl) T.z_isinstance (by decide +kernel) (pa_cons (pv 0) (pa_cons (pe_bltn (v := .ty "int") (u := .type "int") (by rfl) T.z_int (by decide +kernel) rfl) pa_nil))) (pe_one (pe_not (pe_callB (id := "isinstance") (isi_at (K := K) rfl) (by rfl) T.z_isinstance (by decide +kernel) (pa_cons (pv 0) (pa_cons (pe_bltn (v := .ty "bool") (u := .type "bool") (by rfl) T.z_bool (by decide +kernel) rfl) pa_nil)))))))), ?_⟩
    exact ⟨_, rfl, _, _, _, _, true, rfl, .ty _, .base (.int _), kit_ty (by decide +kernel), true, rfl, iteT ⟨_, rfl, _, _, _, _, false, rfl, .ty _, .base (.int _), kit_ty (by decide +kernel), false, rfl, k⟩⟩
theorem ok_law_begun (T : Tx K mg) : C8.Cal P w K mg base 1 "_law_begun" spBegun [] :=
  cal_mk T.f_law_begun T.g__law_begun S_law_begun B_law_begun (fun vs H Q E h => by obtain ⟨i, rfl, _⟩ := h; rfl) fun cdv A outer s H vs Q E hr h => by
    obtain ⟨i, rfl, k⟩ := h
    refine ⟨_, (pss_cons (ps_set (i := 1) S_law_begun.nd rfl (Or.inl rfl) pe_int) (pss_cons (ps_if (pt_cmpR op_ge (pv 0) (pe_op op_pow pe_int pe_int) (nomark _)) (pss_one (ps_set (i := 1) S_law_begun.nd rfl (Or.inl rfl) (pv 0))) pss_nil) (pss_one (ps_ret (pe_lst (pa_cons (pv 1) (pa_cons pe_int (pa_cons (pe_op op_modN (pv 0) pe_int) pa_nil)))))))), ?_⟩
    refine ⟨_, rfl, _, _, rfl, rfl, ⟨by decide, by decide, by decide⟩, _, _, rfl, rfl, _, rfl, ?_⟩
    by_cases hc : i ≥ 10 ^ (18 : Int).toNat
    · rw [decide_eq_true hc]
      refine iteT ⟨_, rfl, ?_⟩
      refine ⟨_, rfl, _, rfl, _, _, rfl, rfl, nzM, ?_⟩
      exact ⟨by show 3 ≤ sizeLine; decide, fun p hp => k _ _ p hp⟩
    · rw [decide_eq_false hc]
      refine iteF ?_
      refine ⟨_, rfl, _, rfl, _, _, rfl, rfl, nzM, ?_⟩
      exact ⟨by show 3 ≤ sizeLine; decide, fun p hp => k _ _ p hp⟩
theorem ok_law_draw (T : Tx K mg) : C8.Cal P w K mg base 1 "_law_draw" spDraw [] :=
  cal_mk T.f_law_draw T.g__law_draw S_law_draw B_law_draw (fun vs H Q E h => by obtain ⟨t, m, rfl, _⟩ := h; rfl) fun cdv A outer s H vs Q E hr h => by
    obtain ⟨t, m, rfl, ⟨a, b, c, ht⟩, h1, h2, k⟩ := h
    refine ⟨_, (pss_cons (ps_if (pt_cmpR op_gt (pe_ix ix_list (pv 0) pe_int (fun _ _ => rfl)) pe_int (nomark _)) (pss_cons (ps_set (i := 2) S_law_draw.nd rfl (Or.inl rfl) (pe_op op_modN (pe_ix ix_list (pv 0) pe_int (fun _ _ => rfl)) (pv 1))) (pss_cons (ps_asg (pe_op op_fdivN (pe_ix ix_list (pv 0) pe_int (fun _ _ => rfl)) (pv 1)) (pg_sub (pv 0) pe_int set_list)) (pss_one (ps_ret (pv 2))))) pss_nil) (pss_cons (ps_asg (pe_op op_add (pe_ix ix_list (pv 0) pe_int (fun _ _ => rfl)) pe_int) (pg_sub (pv 0) pe_int set_list)) (pss_cons (ps_set (i := 3) S_law_draw.nd rfl (Or.inl rfl) (pe_op op_modN (pe_op op_add (pe_op op_mul (pe_ix ix_list (pv 0) pe_int (fun _ _ => rfl)) pe_int) (pe_op op_mul (pe_ix ix_list (pv 0) pe_int (fun _ _ => rfl)) pe_int)) pe_int)) (pss_cons (ps_set (i := 3) S_law_draw.nd rfl (Or.inl rfl) (pe_op op_modN (pe_op op_add (pe_op op_mul (pv 3) (pv 3)) (pe_op op_mul (pe_ix ix_list (pv 0) pe_int (fun _ _ => rfl)) pe_int)) pe_int)) (pss_one (ps_ret (pe_op op_modN (pe_op op_modN (pe_op op_mul (pv 3) (pv 3)) pe_int) (pv 1)))))))), ?_⟩
    have q : ∀ (v : Int) (a' b' c' : Int), 0 ≤ v → v < m → Q (.int v) (upd H t (.lst [.int a', .int b', .int c'])) := fun v a' b' c' e1 e2 => k v _ ⟨a', b', c', Ex.refl _⟩ e1 e2
    refine ⟨_, rfl, t, _, _, _, rfl, rfl, SqL.of ht, rfl, _, _, rfl, rfl, _, rfl, ?_⟩
    by_cases hc : a > 0
    · rw [decide_eq_true hc]
      refine iteT ?_
      refine ⟨_, rfl, t, _, _, _, rfl, rfl, SqL.of ht, rfl, _, rfl, _, _, rfl, rfl, by omega, ?_⟩
      refine ⟨_, rfl, t, _, _, _, rfl, rfl, SqL.of ht, rfl, _, rfl, _, _, rfl, rfl, ⟨by omega, by omega⟩, ?_⟩
      refine ⟨_, rfl, t, _, _, _, rfl, rfl, ht, rfl, ?_⟩
      exact ⟨_, rfl, q _ _ _ _ (fmod_in h1).1 (fmod_in h1).2⟩
    · rw [decide_eq_false hc]
      refine iteF ?_
      refine ⟨_, rfl, t, _, _, _, rfl, rfl, SqL.of ht, rfl, _, _, rfl, rfl, ?_⟩
      refine ⟨_, rfl, t, _, _, _, rfl, rfl, ht, rfl, ?_⟩
      have ht2 : (upd H t (.lst [.int a, .int (b + 1), .int c])) t = some (.lst [.int a, .int (b + 1), .int c]) := upd_same
      refine ⟨_, rfl, t, _, _, _, rfl, rfl, SqL.of ht2, rfl, _, _, rfl, rfl, .inr (by decide), _, rfl, t, _, _, _, rfl, rfl, SqL.of ht2, rfl, _, _, rfl, rfl, .inr (by decide), _, _, rfl, rfl, _, _, rfl, rfl, nzM, ?_⟩
      have r1 := fmod_in (a := c * 48271 + (b + 1) * 1299709) (m := 2147483647) (by decide)
      refine ⟨_, rfl, _, rfl, _, _, rfl, rfl, .inl (by omega), _, rfl, t, _, _, _, rfl, rfl, SqL.of ht2, rfl, _, _, rfl, rfl, .inr (by decide), _, _, rfl, rfl, _, _, rfl, rfl, nzM, ?_⟩
      have r2 := fmod_in (a := (c * 48271 + (b + 1) * 1299709).fmod 2147483647 * (c * 48271 + (b + 1) * 1299709).fmod 2147483647 + (b + 1) * 7919) (m := 2147483629) (by decide)
      refine ⟨_, rfl, _, rfl, _, _, rfl, rfl, .inl (by omega), _, _, rfl, rfl, nzM, _, rfl, _, _, rfl, rfl, by omega, ?_⟩
      exact q _ _ _ _ (fmod_in h1).1 (fmod_in h1).2
theorem ok_law_cell (T : Tx K mg) : C8.Cal P w K mg base 1 "_law_cell" (spCell K) [] :=
  cal_mk T.f_law_cell T.g__law_cell S_law_cell B_law_cell (fun vs H Q E h => by obtain ⟨t, xs, m, rfl, _⟩ := h; rfl) fun cdv A outer s H vs Q E hr h => by
    obtain ⟨a, xs, m, rfl, ha, hm, h10, k⟩ := h
    refine ⟨_, (pss_cons (ps_if (pt_cmpR op_lt (pv 1) (pe_callB (id := "len") call_len_seq (by rfl) T.z_len (by decide +kernel) (pa_cons (pv 0) pa_nil)) (nomark _)) (pss_one (ps_ret (pe_ix ix_list (pv 0) (pv 1) (fun _ _ => rfl)))) pss_nil) (pss_cons (ps_set (i := 2) S_law_cell.nd rfl (Or.inl rfl) (pe_op op_add (pe_op op_mul (pv 1) pe_int) pe_int)) (pss_cons (ps_if (pt_cmpR op_gt (pe_callB (id := "len") call_len_seq (by rfl) T.z_len (by decide +kernel) (pa_cons (pv 0) pa_nil)) pe_int (nomark _)) (pss_one (ps_set (i := 2) S_law_cell.nd rfl (Or.inl rfl) (pe_op op_modN (pe_op op_add (pe_op op_mul (pe_ix ix_list (pv 0) (pe_op op_modN (pe_op op_mul (pv 1) pe_int) (pe_callB (id := "len") call_len_seq (by rfl) T.z_len (by decide +kernel) (pa_cons (pv 0) pa_nil))) (fun _ _ => rfl)) pe_int) (pe_op op_mul (pv 1) pe_int)) pe_int))) pss_nil) (pss_one (ps_ret (pe_op op_modN (pe_op op_mul (pv 2) (pv 2)) pe_int)))))), ?_⟩
    refine ⟨_, rfl, _, rfl, a, _, rfl, .inl ha, _, _, rfl, rfl, _, rfl, ?_⟩
    rw [List.length_map]
    rcases hm with hm | rfl
    · rw [decide_eq_true (show (m : Int) < (xs.length : Int) by omega)]
      refine iteT ⟨_, rfl, _, rfl, a, _, _, V.int (xs[m]'hm), rfl, rfl, ha, ?_, k _⟩
      exact atI_nat (by rw [List.getElem?_map, List.getElem?_eq_getElem hm]; rfl)
    · refine iteF ?_
      refine ⟨_, rfl, _, _, rfl, rfl, .inr (by decide), _, _, rfl, rfl, ?_⟩
      refine ⟨_, rfl, a, _, rfl, .inl ha, _, _, rfl, rfl, _, rfl, iteF ?_⟩
      exact ⟨_, rfl, _, rfl, _, _, rfl, rfl, .inl (by omega), _, _, rfl, rfl, nzM, k _⟩
theorem ok_law_word (T : Tx K mg) (k_law_draw : C8.Cal P w K mg base 1 "_law_draw" spDraw []) : C8.Cal P w K mg base 2 "_law_word" spWordL [] :=
  cal_mk T.f_law_word T.g__law_word S_law_word B_law_word (fun vs H Q E h => by obtain ⟨t, m, rfl, _⟩ := h; rfl) fun cdv A outer s H vs Q E hr h => by
    obtain ⟨t, m, rfl, hs, hw, k⟩ := h
    refine ⟨_, (pss_cons (ps_set (i := 2) S_law_word.nd rfl (Or.inl rfl) (pe_op op_shl pe_int (pv 1))) (pss_cons (ps_set (i := 3) S_law_word.nd rfl (Or.inl rfl) (C8.pe_c (k_law_draw) hr (by omega) rfl (pa_cons (pv 0) (pa_cons pe_int pa_nil)))) (pss_cons (ps_if (pt_cmpR op_lt (pv 3) pe_int (nomark _)) (pss_one (ps_ret (pe_ix ix_list (pe_lst (pa_cons pe_int (pa_cons pe_int (pa_cons (pe_op op_sub (pv 2) pe_int) pa_nil)))) (pv 3) (fun _ _ => rfl)))) pss_nil) (pss_cons (ps_if (pt_cmpR op_eq (pv 3) pe_int (nomark _)) (pss_one (ps_ret (pe_op op_sub (pe_op op_fdivN (pv 2) pe_int) (C8.pe_c (k_law_draw) hr (by omega) rfl (pa_cons (pv 0) (pa_cons pe_int pa_nil)))))) pss_nil) (pss_cons (ps_if (pt_cmpR op_eq (pv 3) pe_int (nomark _)) (pss_one (ps_ret (pe_op op_shl pe_int (C8.pe_c (k_law_draw) hr (by omega) rfl (pa_cons (pv 0) (pa_cons (pv 1) pa_nil)))))) pss_nil) (pss_cons (ps_if (pt_cmpR op_eq (pv 3) pe_int (nomark _)) (pss_one (ps_ret (pe_op op_modN (C8.pe_c (k_law_draw) hr (by omega) rfl (pa_cons (pv 0) (pa_cons pe_int pa_nil))) (pv 2)))) pss_nil) (pss_one (ps_ret (pe_op op_modN (pe_op op_add (pe_op op_mul (C8.pe_c (k_law_draw) hr (by omega) rfl (pa_cons (pv 0) (pa_cons pe_int pa_nil))) pe_int) (C8.pe_c (k_law_draw) hr (by omega) rfl (pa_cons (pv 0) (pa_cons pe_int pa_nil)))) (pv 2)))))))))), ?_⟩
    have e2 : (1 : Int) * 2 ^ (m : Int).toNat = B m := by rw [Int.one_mul, Int.toNat_natCast]; rfl
    have hB := B_le hw.1
    have hB4 : B 4 = 16 := rfl
    have hB32 := B_le hw.2
    have h32 : B 32 = 4294967296 := rfl
    refine ⟨_, rfl, _, _, rfl, rfl, ⟨by omega, by have := hw.2; omega, by decide⟩, ?_⟩
    dsimp only
    rw [e2]
    refine ⟨_, rfl, t, 8, rfl, hs, by decide, by decide, fun y H1 s1 y0 y8 => ?_⟩
    have st1 := s1.st
    refine ⟨_, rfl, _, _, rfl, rfl, _, rfl, ?_⟩
    by_cases c1 : y < 3
    · rw [decide_eq_true c1]
      refine iteT ⟨_, rfl, _, _, rfl, rfl, ?_⟩
      refine ⟨by show 3 ≤ sizeLine; decide, fun p hp => ?_⟩
      have s2 := s1.ex (Ex.new (o := .lst [.int 0, .int 1, .int (B m - 1)]) hp)
      rcases (show y = 0 ∨ y = 1 ∨ y = 2 by omega) with rfl | rfl | rfl
      · exact ⟨_, rfl, p, _, _, _, rfl, rfl, SqL.of upd_same, rfl, k _ _ s2 (by omega) (by omega)⟩
      · exact ⟨_, rfl, p, _, _, _, rfl, rfl, SqL.of upd_same, rfl, k _ _ s2 (by omega) (by omega)⟩
      · exact ⟨_, rfl, p, _, _, _, rfl, rfl, SqL.of upd_same, rfl, k _ _ s2 (by omega) (by omega)⟩
    rw [decide_eq_false c1]
    refine iteF ⟨_, rfl, rfl, _, rfl, ?_⟩
    by_cases c2 : y = 3
    · rw [decide_eq_true (show V.int y = V.int 3 by rw [c2])]
      refine iteT ⟨_, rfl, _, _, rfl, rfl, ⟨by decide, by decide⟩, _, rfl, t, 2, rfl, st1, by decide, by decide, fun z H2 s2 z0 z2 => ?_⟩
      have e3 : (B m).fdiv 2 = B m / 2 := Int.fdiv_eq_ediv_of_nonneg _ (by decide)
      exact ⟨_, _, rfl, rfl, k _ _ (s1.trans s2) (by omega) (by omega)⟩
    rw [decide_eq_false (show ¬ V.int y = V.int 3 from fun z => c2 (V.int.inj z))]
    refine iteF ⟨_, rfl, rfl, _, rfl, ?_⟩
    by_cases c3 : y = 4
    · rw [decide_eq_true (show V.int y = V.int 4 by rw [c3])]
      refine iteT ⟨_, rfl, _, rfl, t, m, rfl, st1, by have := hw.1; omega, by have := hw.2; omega, fun z H2 s2 z0 z2 => ?_⟩
      refine ⟨_, _, rfl, rfl, ⟨z0, by have := hw.2; omega, by decide⟩, ?_⟩
      have e3 := B_half (show 1 ≤ m by have := hw.1; omega)
      have p1 := B_pos z.toNat
      have p2 := B_le (show z.toNat ≤ m - 1 by omega)
      refine k _ _ (s1.trans s2) ?_ ?_
      · show 0 ≤ 1 * B z.toNat
        omega
      · show 1 * B z.toNat < B m
        omega
    rw [decide_eq_false (show ¬ V.int y = V.int 4 from fun z => c3 (V.int.inj z))]
    refine iteF ⟨_, rfl, rfl, _, rfl, ?_⟩
    have hp := B_pos m
    by_cases c4 : y = 5
    · rw [decide_eq_true (show V.int y = V.int 5 by rw [c4])]
      refine iteT ⟨_, rfl, t, 17, rfl, st1, by decide, by decide, fun z H2 s2 z0 z2 => ?_⟩
      exact ⟨_, rfl, _, _, rfl, rfl, by omega, k _ _ (s1.trans s2) (fmod_in (by omega)).1 (fmod_in (by omega)).2⟩
    rw [decide_eq_false (show ¬ V.int y = V.int 5 from fun z => c4 (V.int.inj z))]
    refine iteF ?_
    refine ⟨_, rfl, t, 65536, rfl, st1, by decide, by decide, fun z H2 s2 z0 z2 => ?_⟩
    refine ⟨_, _, rfl, rfl, .inr (by decide), ?_⟩
    refine ⟨_, rfl, t, 65536, rfl, s2.st, by decide, by decide, fun z' H3 s3 z0' z2' => ?_⟩
    exact ⟨_, _, rfl, rfl, _, rfl, _, _, rfl, rfl, by omega, k _ _ ((s1.trans s2).trans s3) (fmod_in (by omega)).1 (fmod_in (by omega)).2⟩
end
end K76
set_option Elab.async false
set_option linter.all false
set_option maxRecDepth 100000
set_option maxHeartbeats 4000000
namespace K76
open PySem PySem.Spec PyProof.Rows L2
open Evl (Ex)
/-! ## what was counted -/
def totL (c pr : Str → Int) (l : List Str) : Int := (l.map fun x => c x * pr x).sum
def tot (c pr : Str → Int) : Int := totL c pr rowWords
theorem totL_off {c pr : Str → Int} {x : Str} : ∀ {l : List Str}, x ∉ l → totL (tick c x) pr l = totL c pr l
  | [], _ => rfl
  | y :: r, h => by
    show tick c x y * pr y + totL (tick c x) pr r = c y * pr y + totL c pr r
    rw [totL_off (fun z => h (List.mem_cons_of_mem _ z))]
    unfold tick
    rw [if_neg (fun z => h (by rw [z]; exact List.mem_cons_self))]
theorem totL_on {c pr : Str → Int} {x : Str} : ∀ {l : List Str}, l.Nodup → x ∈ l → totL (tick c x) pr l = totL c pr l + pr x
  | y :: r, n, h => by
    have n' := List.nodup_cons.mp n
    show tick c x y * pr y + totL (tick c x) pr r = c y * pr y + totL c pr r + pr x
    by_cases e : y = x
    · subst e
      rw [totL_off n'.1]
      unfold tick
      rw [if_pos rfl]
      grind
    · rw [totL_on n'.2 ((List.mem_cons.mp h).resolve_left fun z => e z.symm)]
      unfold tick
      rw [if_neg e]
      omega
theorem words_nodup : rowWords.Nodup := by decide +kernel
theorem tot_tick (c pr : Str → Int) {x : Str} (h : x ∈ rowWords) : tot (tick c x) pr = tot c pr + pr x := totL_on words_nodup h
theorem tot_rows (w : Nat) (pr : Str → Int) : ∀ (rs : List Rw) (S : Ms), tot (runRows w S rs).cnt pr = tot S.cnt pr + (rs.map fun r => pr r.kd.wd).sum
  | [], S => by show _ = _ + 0; rw [Int.add_zero]; rfl
  | r :: rs, S => by
    show tot (runRows w (stepS w S r) rs).cnt pr = _
    rw [tot_rows w pr rs, List.map_cons, List.sum_cons]
    show tot (tick S.cnt r.kd.wd) pr + _ = _
    rw [tot_tick _ _ (wd_in r.kd)]
    omega
theorem tot_iter (w : Nat) (pr : Str → Int) (rs : List Rw) : ∀ (n : Nat) (S : Ms), tot (iter (turn1 w rs) n S).cnt pr = tot S.cnt pr + n * (pr "turns" + (rs.map fun r => pr r.kd.wd).sum)
  | 0, S => by show tot S.cnt pr = _; simp
  | n + 1, S => by
    show tot (runRows w ⟨_, _, tick (iter (turn1 w rs) n S).cnt "turns"⟩ rs).cnt pr = _
    rw [tot_rows]
    show tot (tick (iter (turn1 w rs) n S).cnt "turns") pr + _ = _
    rw [tot_tick _ _ (show ("turns" : Str) ∈ rowWords from wd_in .turns), tot_iter w pr rs n S]
    have e : ((n + 1 : Nat) : Int) = (n : Int) + 1 := by omega
    rw [e]
    grind
theorem tot_its (w : Nat) (pr : Str → Int) : ∀ (its : List It) (S : Ms), tot (runIts w S its).cnt pr = tot S.cnt pr + costOf pr its
  | [], S => by show _ = _ + 0; rw [Int.add_zero]; rfl
  | it :: its, S => by
    show tot (runIts w (stepIt w S it) its).cnt pr = _
    rw [tot_its w pr its]
    have e : costOf pr (it :: its) = it.cost pr + costOf pr its := by unfold costOf; rw [List.map_cons, List.sum_cons]
    rw [e]
    have e2 : tot (stepIt w S it).cnt pr = tot S.cnt pr + it.cost pr := by
      cases it with
      | row r => exact tot_tick S.cnt pr (wd_in r.kd)
      | turns n rs => exact tot_iter w pr rs n S
    rw [e2]
    omega
theorem cost_one : ∀ its : List It, costOf (fun _ => 1) its = manyOf its
  | [] => rfl
  | it :: its => by
    have e : costOf (fun _ => 1) (it :: its) = it.cost (fun _ => 1) + costOf (fun _ => 1) its := by unfold costOf; rw [List.map_cons, List.sum_cons]
    have e' : manyOf (it :: its) = it.many + manyOf its := by unfold manyOf; rw [List.map_cons, List.sum_cons]
    rw [e, e', cost_one its]
    cases it with
    | row r => rfl
    | turns n rs =>
      have e2 : (rs.map fun _ : Rw => (1 : Int)).sum = rs.length := by
        clear e e'
        induction rs with
        | nil => rfl
        | cons r rs ih => rw [List.map_cons, List.sum_cons, ih, List.length_cons]; omega
      show (n : Int) * (1 + (rs.map fun _ : Rw => (1 : Int)).sum) + _ = _
      rw [e2]
      rfl
theorem tot_zero (pr : Str → Int) : tot (fun _ => 0) pr = 0 := by
  unfold tot totL
  induction rowWords with
  | nil => rfl
  | cons x l ih => rw [List.map_cons, List.sum_cons, ih]; show 0 * pr x + 0 = 0; omega
theorem tot_run (w : Nat) (pr : Str → Int) (R : Rg) (M : List (Int × Str)) (its : List It) : tot (runIts w ⟨R, M, fun _ => 0⟩ its).cnt pr = costOf pr its := by
  rw [tot_its]
  show tot (fun _ => 0) pr + _ = _
  rw [tot_zero]
  omega
theorem cnt_sum (w : Nat) (R : Rg) (M : List (Int × Str)) (its : List It) : (rowWords.map (runIts w ⟨R, M, fun _ => 0⟩ its).cnt).sum = manyOf its := by
  rw [← cost_one, ← tot_run w (fun _ => 1) R M its]
  unfold tot totL
  congr 1
  refine List.map_congr_left fun x _ => ?_
  exact (Int.mul_one _).symm
theorem wd_turns : ∀ k : Kd, k ≠ .turns → ("turns" : Str) ≠ k.wd
  | .turns, h => fun _ => h rfl
  | .set, _ => by decide +kernel
  | .copy, _ => by decide +kernel
  | .pick, _ => by decide +kernel
  | .mark, _ => by decide +kernel
  | .pair .low, _ => by decide +kernel
  | .pair .high, _ => by decide +kernel
  | .pair .or, _ => by decide +kernel
  | .pair .unlike, _ => by decide +kernel
  | .pair .under, _ => by decide +kernel
  | .carry .sum, _ => by decide +kernel
  | .carry .gap, _ => by decide +kernel
  | .shift .left, _ => by decide +kernel
  | .shift .right, _ => by decide +kernel
  | .shift .slide, _ => by decide +kernel
theorem tick_turns (c : Str → Int) (r : Rw) : tick c r.kd.wd "turns" = c "turns" := if_neg (wd_turns r.kd (kd_nt r))
theorem turns_rows (w : Nat) : ∀ (rs : List Rw) (S : Ms), (runRows w S rs).cnt "turns" = S.cnt "turns"
  | [], S => rfl
  | r :: rs, S => (turns_rows w rs (stepS w S r)).trans (tick_turns S.cnt r)
theorem turns_iter (w : Nat) (rs : List Rw) : ∀ (n : Nat) (S : Ms), (iter (turn1 w rs) n S).cnt "turns" = S.cnt "turns" + n
  | 0, S => by show S.cnt "turns" = S.cnt "turns" + 0; omega
  | n + 1, S => by
    show (runRows w ⟨_, _, tick (iter (turn1 w rs) n S).cnt "turns"⟩ rs).cnt "turns" = _
    rw [turns_rows]
    have e : tick (iter (turn1 w rs) n S).cnt "turns" "turns" = (iter (turn1 w rs) n S).cnt "turns" + 1 := if_pos rfl
    refine e.trans ?_
    rw [turns_iter w rs n S]
    omega
/-- the law's prices -/
def prs (x : Str) : Int := 7 * (rowWords.idxOf x : Nat) + 3
theorem prs_at {j : Nat} {x : Str} (h : rowWords[j]? = some x) : prs x = 7 * (j : Int) + 3 := by
  have hj : j < 16 := (List.getElem?_eq_some_iff.mp h).1
  have q : ∀ j : Fin 16, (rowWords[j.val]?).map (fun x => rowWords.idxOf x) = some j.val := by decide +kernel
  have := q ⟨j, hj⟩
  rw [h] at this
  have e : rowWords.idxOf x = j := Option.some.inj this
  unfold prs
  rw [e]
theorem prs_good : goodPr prs := by
  intro x hx
  obtain ⟨j, hj, e⟩ := List.getElem_of_mem hx
  have hj' : j < 16 := hj
  rw [prs_at (j := j) (by rw [List.getElem?_eq_getElem hj, e])]
  omega
theorem sum_takes {l : List Int} {j : Nat} {v : Int} (h : l[j]? = some v) : (l.take (j + 1)).sum = (l.take j).sum + v := sum_take h
def spCostL : Sp := fun vs H Q _ => ∃ (ct : Addr) (c : Str → Int), vs = [.ref ct] ∧ H ct = some (.dK (cntK c)) ∧ ∀ l pd H', Ex H H' → H' l = some (.lst [.ref pd, .int (tot c prs)]) → H' pd = some (.dK (cntK prs)) → Q (.ref l) H'
def spCounted (K : PySem.W.Frag) : Sp := fun vs H Q _ => ∃ (w : Nat) (l ct : Addr) (due : Int) (its : List It) (c : Str → Int), vs = [.int w, .ref l, .ref ct, .int due] ∧ ItsAt K H l its ∧ (∀ it ∈ its, it.good w) ∧ okw w ∧ manyOf its ≤ 1000000 ∧ H ct = some (.dK (cntK c)) ∧
  manyOf its = due ∧ (rowWords.map c).sum = due ∧ (c "turns" = 0 ∨ c "turns" = w) ∧ tot c prs = costOf prs its ∧ ∀ H', Ex H H' → Q (.bl true) H'
section
variable {P : Program} {w : World} {K : PySem.W.Frag} {mg : Str → Option Value} {base : Heap}
theorem ok_law_cost (T : Tx K mg) : C8.Cal P w K mg base 1 "_law_cost" spCostL [] :=
  cal_mk T.f_law_cost T.g__law_cost S_law_cost B_law_cost (fun vs H Q E h => by obtain ⟨t, m, rfl, _⟩ := h; rfl) fun cdv A outer s H vs Q E hr h => by
    obtain ⟨ct, c, rfl, hct, k⟩ := h
    refine ⟨_, (pss_cons (ps_set (i := 1) S_law_cost.nd rfl (Or.inl rfl) pe_dnewK) (pss_cons (ps_set (i := 2) S_law_cost.nd rfl (Or.inl rfl) pe_int) (pss_cons (ps_for PassesOwn.never rfl (pi_enum (by rfl) T.z_enumerate (pa_cons (pe_keysL (by rfl) (pv 0) (by rfl) T.z_list) pa_nil)) (pg_tup rfl (pgs_cons (pg_name (i := 3) S_law_cost.nd rfl (Or.inl rfl)) (pgs_cons (pg_name (i := 4) S_law_cost.nd rfl (Or.inl rfl)) pgs_nil))) (pss_cons (ps_dput (hu_of hr) (pv 1) (pv 4) (pe_op op_add (pe_op op_mul pe_int (pv 3)) pe_int) rfl) (pss_one (ps_set (i := 2) S_law_cost.nd rfl (Or.inl rfl) (pe_op op_add (pv 2) (pe_op op_mul (pe_dget (hu_of hr) (pv 0) (pv 4) (fun _ _ => rfl)) (pe_op op_add (pe_op op_mul pe_int (pv 3)) pe_int))))))) (pss_one (ps_ret (pe_lst (pa_cons (pv 1) (pa_cons (pv 2) pa_nil)))))))), ?_⟩
    refine fun pd hpd => ?_
    have npc : ct ≠ pd := ne_of_none hct hpd
    have e1 := Ex.new (o := .dK []) hpd
    refine ⟨_, rfl, ct, _, rfl, e1 _ _ hct, fun lk hlk => ?_⟩
    have hks : ((cntK c).map fun kv => kV kv.1) = rowWords.map V.str := by
      unfold cntK
      rw [List.map_map]
      rfl
    rw [hks]
    have e2 := Ex.new (o := .lst (rowWords.map V.str)) hlk
    refine ⟨lk, _, rfl, SqL.of upd_same, for_it (walk_enum (xs := rowWords.map V.str)) (fun j σ H' => ∃ v3 v4, σ = [some (.ref ct), some (.ref pd), some (.int ((rowWords.map fun x => c x * prs x).take j).sum), v3, v4] ∧ Ex H H' ∧ H' lk = some (.lst (rowWords.map V.str)) ∧ H' pd = some (.dK (cntT prs j)))
      ⟨none, none, rfl, e1.trans e2, upd_same, e2 _ _ upd_same⟩ (fun j σ H' _ ⟨_, _, _, _, e, _⟩ => SqL.of e) ?_ ?_⟩
    · rintro j x σ H1 H2 hj ⟨v3, v4, rfl, e, hl, hp⟩ ⟨tt, x1, x2, rfl, htt, rfl, hx1, hx2⟩
      cases hx1
      have hx2 : (rowWords.map V.str)[j]? = some x2 := hx2
      rw [List.getElem?_map] at hx2
      obtain ⟨z, hz, rfl⟩ := Option.map_eq_some_iff.mp hx2
      have hzm : z ∈ rowWords := List.mem_of_getElem? hz
      have en := Ex.new (o := .tup [V.int (j : Nat), V.str z]) htt
      have hl16 : (cntT prs j).length < sizeLine := by
        unfold cntT
        rw [List.length_map, List.length_take]
        exact Nat.lt_of_le_of_lt (Nat.min_le_right _ _) (by decide)
      have hp2 := en _ _ hp
      refine ⟨tt, _, rfl, SqT.of upd_same, rfl, _, _, rfl, _, _, rfl, rfl, ?_⟩
      have hjj := (List.getElem?_eq_some_iff.mp hz).1
      have hj16 : j < 16 := hjj
      refine ⟨_, rfl, _, _, rfl, rfl, .inl (by decide), _, _, rfl, rfl, _, rfl, _, rfl, pd, _, rfl, DPut.k (k := Sum.inr z) hp2 hl16, ?_⟩
      have hc3 : (upd (upd H1 tt (.tup [V.int (j : Nat), V.str z])) pd (.dK (putK (cntT prs j) (.inr z) (.int (7 * (j : Int) + 3))))) ct = some (.dK (cntK c)) := by rw [upd_ne npc]; exact en _ _ (e _ _ hct)
      have g1 := DGet.k (k := Sum.inr z) hc3
      rw [cnt_get c hzm] at g1
      refine ⟨_, rfl, _, rfl, _, rfl, ct, _, rfl, g1, _, rfl, _, _, rfl, rfl, .inl (by decide), _, _, rfl, rfl, _, _, rfl, rfl, .inr (by omega), _, _, rfl, rfl, ?_⟩
      have nlp : lk ≠ pd := ne_of hl hp (fun z => HO.noConfusion z)
      refine ⟨_, _, congrArg (fun v => [some (V.ref ct), some (V.ref pd), some (V.int v), some (V.int j), some (V.str z)]) ?_, (e.trans en).mut hpd, by rw [upd_ne nlp]; exact en _ _ hl, ?_⟩
      · rw [sum_takes (v := c z * prs z) (by rw [List.getElem?_map, hz]; rfl), prs_at hz]
      · have e5 := cnt_add prs hz
        rw [prs_at hz] at e5
        rw [upd_same]
        exact congrArg (fun z => some (HO.dK z)) e5
    · rintro σ H' ⟨v3, v4, rfl, e, hl, hp⟩
      refine ⟨_, rfl, _, rfl, by show 2 ≤ sizeLine; decide, fun l hl2 => ?_⟩
      have en := Ex.new (o := .lst [V.ref pd, V.int ((rowWords.map fun x => c x * prs x).take (rowWords.map V.str).length).sum]) hl2
      refine k l pd _ (e.trans en) ?_ (en _ _ (by rw [hp]; rfl))
      rw [upd_same]
      rfl
theorem ok_law_counted (T : Tx K mg) (k_law_cost : C8.Cal P w K mg base 1 "_law_cost" spCostL []) (k_check_steps : C8.Cal P w K mg base 6 "check_steps" (spCheck K) []) (k_cost_of : C8.Cal P w K mg base 7 "cost_of" (spCost K) []) : C8.Cal P w K mg base 8 "_law_counted" (spCounted K) [] :=
  cal_mk T.f_law_counted T.g__law_counted S_law_counted B_law_counted (fun vs H Q E h => by obtain ⟨i, l, ct, due, its, c, rfl, _⟩ := h; rfl) fun cdv A outer s H vs Q E hr h => by
    obtain ⟨i, l, ct, due, its, c, rfl, hI, hg, hw, hm, hct, hdue, hsum, htur, htot, k⟩ := h
    refine ⟨_, (pss_cons (ps_asg (C8.pe_c (k_law_cost) hr (by omega) rfl (pa_cons (pv 2) pa_nil)) (pg_unl rfl (pgs_cons (pg_name (i := 4) S_law_counted.nd rfl (Or.inl rfl)) (pgs_cons (pg_name (i := 5) S_law_counted.nd rfl (Or.inl rfl)) pgs_nil)))) (pss_cons (ps_if (PW.pt (pw_or (pt_cmpR op_ne (pe_sumV (by rfl) (pv 2) (by rfl) T.z_sum) (pv 3) (nomark _)) (pw_or1 (pt_cmpR op_ne (C8.pe_c (k_check_steps) hr (by omega) rfl (pa_cons (pv 0) (pa_cons (pv 1) pa_nil))) (pv 3) (nomark _))))) (pss_one (ps_ret pe_bl)) pss_nil) (pss_one (ps_ret (pe_and (pe_cmpR op_in_seq (pe_dget (hu_of hr) (pv 2) pe_str (fun _ _ => rfl)) (pe_lst (pa_cons pe_int (pa_cons (pv 0) pa_nil))) (by rfl)) (pe_one (pe_cmpR op_eq (C8.pe_c (k_cost_of) hr (by omega) rfl (pa_cons (pv 0) (pa_cons (pv 1) (pa_cons (pv 4) pa_nil)))) (pv 5) (nomark _)))))))), ?_⟩
    refine ⟨_, rfl, ct, c, rfl, hct, fun l2 pd H1 e1 hl2 hpd => ?_⟩
    refine ⟨l2, _, rfl, SqL.of hl2, rfl, _, _, rfl, _, _, rfl, rfl, ?_⟩
    have nb : ∀ {a b : Int}, a = b → V.bl (!decide (V.int a = V.int b)) = V.bl false := fun e => by rw [e, decide_eq_true rfl]; rfl
    have eb : ∀ {a b : Int}, a = b → V.bl (decide (V.int a = V.int b)) = V.bl true := fun e => by rw [e, decide_eq_true rfl]
    refine ⟨_, rfl, ct, _, rowWords.map c, rfl, e1 _ _ hct, ?_, _, rfl, rfl, false, nb hsum, iteF ?_⟩
    · unfold cntK
      rw [List.map_map, List.map_map]
      rfl
    refine ⟨_, rfl, _, rfl, i, l, its, rfl, hI.ex e1, hg, hw, hm, fun H2 e2 => ⟨_, rfl, rfl, false, nb hdue, iteF ?_⟩⟩
    have g1 := DGet.k (k := Sum.inr ("turns" : Str)) (e2 _ _ (e1 _ _ hct))
    rw [cnt_get c (show ("turns" : Str) ∈ rowWords from wd_in .turns)] at g1
    refine ⟨_, rfl, ct, _, rfl, g1, ?_⟩
    refine ⟨_, rfl, by show 2 ≤ sizeLine; decide, fun p hp => ?_⟩
    have e3 := Ex.new (o := .lst [V.int 0, V.int i]) hp
    have hin : V.bl (inV (V.int (c "turns")) [V.int 0, V.int i]) = V.bl true := by
      unfold inV
      rcases htur with z | z
      · rw [z]
        rfl
      · have e : eqV (V.int (i : Int)) (V.int (i : Int)) = true := decide_eq_true rfl
        rw [z]
        show V.bl (eqV (V.int 0) (V.int i) || (eqV (V.int i) (V.int i) || false)) = V.bl true
        rw [e]
        simp
    refine ⟨p, _, rfl, .inl (SqL.of upd_same), rfl, rfl, true, hin, iteT ?_⟩
    have e123 := (e1.trans e2).trans e3
    refine ⟨_, rfl, _, rfl, _, rfl, i, l, pd, prs, its, rfl, hI.ex e123, hg, hw, hm, (e2.trans e3) _ _ hpd, prs_good, fun H4 e4 => ⟨_, rfl, rfl, ?_⟩⟩
    have q := k _ (e123.trans e4)
    rw [← eb htot.symm] at q
    exact q
end
end K76
set_option Elab.async false
set_option linter.all false
set_option maxRecDepth 100000
set_option maxHeartbeats 4000000
namespace K76
open PySem PySem.Spec PyProof.Rows L2
open Evl (Ex Ev EvA ev_var ev_c ev_op rv_I0 ea_nil ea_cons)
/-! ## lists of rows are built -/
def EvI (K : PySem.W.Frag) (te : TE) (σ : L2.St) (H : Hp) (it : It) : Prop := ∀ H1, Ex H H1 → ∀ Q : VK, (∀ p H2, Ex H1 H2 → ItAt K H2 p it → Q (.ref p) H2) → te σ H1 Q
def EvIs (K : PySem.W.Frag) (ta : TA) (σ : L2.St) (H : Hp) (its : List It) : Prop := ∀ H1, Ex H H1 → ∀ Q : List V → Hp → Prop, (∀ (ps : List Addr) H2, Ex H1 H2 → Paired (ItAt K H2) ps its → Q (ps.map V.ref) H2) → ta σ H1 Q
def EvLs (K : PySem.W.Frag) (te : TE) (σ : L2.St) (H : Hp) (its : List It) : Prop := ∀ H1, Ex H H1 → ∀ Q : VK, (∀ l H2, Ex H1 H2 → ItsAt K H2 l its → Q (.ref l) H2) → te σ H1 Q
theorem rows_back {K : PySem.W.Frag} {H : Hp} {l : Addr} {rs : List Rw} (h : ItsAt K H l (rs.map .row)) : RowsAt K H l rs := by
  obtain ⟨ps, q, r⟩ := h
  refine ⟨ps, q, ?_⟩
  clear q
  induction rs generalizing ps with
  | nil => cases r; exact .nil
  | cons a rs ih =>
    cases r with
    | cons h t => exact .cons h (ih _ t)
theorem paired_cat {α β : Type} {F : α → β → Prop} {xs' : List α} {ys' : List β} (h' : Paired F xs' ys') : ∀ {xs : List α} {ys : List β}, Paired F xs ys → Paired F (xs ++ xs') (ys ++ ys')
  | _, _, .nil => h'
  | _, _, .cons r t => .cons r (paired_cat h' t)
section
variable {K : PySem.W.Frag} {σ : L2.St} {H : Hp} {te tb : TE} {ta : TA} {ts : TS} {D : Ends} {its its0 : List It} {it : It} {i : Nat} {l : Addr}
theorem evis_nil : EvIs K tNil σ H [] := fun H1 _ _ q => q [] H1 (Ex.refl H1) .nil
theorem evis_cons (h : EvI K te σ H it) (r : EvIs K ta σ H its) : EvIs K (tCons te ta) σ H (it :: its) := fun H1 e _ q =>
  h H1 e _ fun p H2 e2 hp => r H2 (e.trans e2) _ fun ps H3 e3 hps => q (p :: ps) H3 (e2.trans e3) (.cons (hp.ex e3) hps)
theorem evls_lst (h : EvIs K ta σ H its) (hl : its.length ≤ 1000) : EvLs K (tLst ta) σ H its := fun H1 e _ q =>
  h H1 e _ fun ps H2 e2 hps => ⟨by rw [List.length_map, Paired.length hps]; exact Nat.le_trans hl (by decide), fun p hp => q p _ (e2.trans (Ex.new hp)) ⟨ps, upd_same, Paired.mapP hps fun _ _ z => z.ex (Ex.new hp)⟩⟩
theorem evls_cat (hv : σ[i]? = some (some (.ref l))) (h0 : ItsAt K H l its0) (h : EvLs K tb σ H its) (hl : its0.length + its.length ≤ 1000) : EvLs K (tOp rCat (tVar i) tb) σ H (its0 ++ its) := fun H1 e _ q =>
  ⟨.ref l, hv, h H1 e _ fun b H2 e2 ⟨zs, hb, hzs⟩ => by
    obtain ⟨xs, hl0, hxs⟩ := h0.ex (e.trans e2)
    refine ⟨l, b, _, _, rfl, rfl, hl0, hb, ?_, fun p hp => q p _ (e2.trans (Ex.new hp)) ⟨xs ++ zs, by rw [upd_same, List.map_append], ?_⟩⟩
    · rw [List.length_map, List.length_map, Paired.length hxs, Paired.length hzs]
      exact Nat.le_trans hl (by decide)
    · exact paired_cat (Paired.mapP hzs fun _ _ (z : ItAt K H2 _ _) => z.ex (Ex.new (o := .lst (xs.map V.ref ++ zs.map V.ref)) hp)) (Paired.mapP hxs fun _ _ (z : ItAt K H2 _ _) => z.ex (Ex.new (o := .lst (xs.map V.ref ++ zs.map V.ref)) hp))⟩
theorem evls_set (h : EvLs K te σ H its) (k : ∀ l H1, Ex H H1 → ItsAt K H1 l its → ts D (σ.set i (some (.ref l))) H1) : tSeq (tAsg te (gName i)) ts D σ H :=
  h H (Ex.refl H) _ fun l H1 e hl => k l H1 e hl
theorem evls_set1 (h : EvLs K te σ H its) (k : ∀ l H1, Ex H H1 → ItsAt K H1 l its → D.nx (σ.set i (some (.ref l))) H1) : tAsg te (gName i) D σ H :=
  h H (Ex.refl H) _ fun l H1 e hl => k l H1 e hl
theorem evls_ret (h : EvLs K te σ H its) (k : ∀ l H1, Ex H H1 → ItsAt K H1 l its → D.rt (.ref l) H1) : tRet te D σ H :=
  h H (Ex.refl H) _ fun l H1 e hl => k l H1 e hl
/-! one row -/
theorem made {C : Addr} {sp : Sp} {fs : List (Str × V)} {vs : List V} {r : Rw} (hC : C = kC K r.kd) (hf : r.flds = fs) (ha : EvA ta σ H vs)
    (hs : ∀ (p dx : Addr) (H1 : Hp) (Q : VK) (E : XK), H1 p = some (.ins C dx []) → Q .non (upd H1 p (.ins C dx fs)) → sp (.ref p :: (vs ++ [])) H1 Q E) : EvI K (tMake C sp [] C8.E0 ta) σ H (.row r) := fun H1 e Q q =>
  ha H1 e _ fun H2 e2 => fun x dx hx hdx ne => hs x dx _ _ _ upd_same ⟨rfl, q x _ (e2.trans (((Ex.new hdx).mut hx).mut hx)) ⟨dx, by rw [upd_same, hC, hf]⟩⟩
theorem evi_set {tg tb : TE} {g : Str} {b : Int} (h1 : Ev tg σ H (.str g)) (h2 : Ev tb σ H (.int b)) : EvI K (tMake (kC K .set) (spI2 (kC K .set) "goal" "bits") [] C8.E0 (tCons tg (tCons tb tNil))) σ H (.row (.set g b)) :=
  made (r := .set g b) rfl rfl (ea_cons h1 (ea_cons h2 ea_nil)) fun p dx H1 Q E hp q => ⟨p, dx, _, _, rfl, hp, q⟩
theorem evi_copy {tg tb : TE} {g b : Str} (h1 : Ev tg σ H (.str g)) (h2 : Ev tb σ H (.str b)) : EvI K (tMake (kC K .copy) (spI2 (kC K .copy) "goal" "one") [] C8.E0 (tCons tg (tCons tb tNil))) σ H (.row (.copy g b)) :=
  made (r := .copy g b) rfl rfl (ea_cons h1 (ea_cons h2 ea_nil)) fun p dx H1 Q E hp q => ⟨p, dx, _, _, rfl, hp, q⟩
theorem evi_pair {k : PK} {tg tb tc : TE} {g a b : Str} (h1 : Ev tg σ H (.str g)) (h2 : Ev tb σ H (.str a)) (h3 : Ev tc σ H (.str b)) : EvI K (tMake (kC K (.pair k)) (spI3 (kC K (.pair k)) "goal" "one" "other") [] C8.E0 (tCons tg (tCons tb (tCons tc tNil)))) σ H (.row (.pair k g a b)) :=
  made (r := .pair k g a b) rfl rfl (ea_cons h1 (ea_cons h2 (ea_cons h3 ea_nil))) fun p dx H1 Q E hp q => ⟨p, dx, _, _, _, rfl, hp, q⟩
theorem evi_shift {k : SK} {tg tb tc : TE} {g a : Str} {n : Int} (h1 : Ev tg σ H (.str g)) (h2 : Ev tb σ H (.str a)) (h3 : Ev tc σ H (.int n)) : EvI K (tMake (kC K (.shift k)) (spI3 (kC K (.shift k)) "goal" "one" "k") [] C8.E0 (tCons tg (tCons tb (tCons tc tNil)))) σ H (.row (.shift k g a n)) :=
  made (r := .shift k g a n) rfl rfl (ea_cons h1 (ea_cons h2 (ea_cons h3 ea_nil))) fun p dx H1 Q E hp q => ⟨p, dx, _, _, _, rfl, hp, q⟩
theorem evi_mark {tg tb tc : TE} {g : Int} {a b : Str} (h1 : Ev tg σ H (.int g)) (h2 : Ev tb σ H (.str a)) (h3 : Ev tc σ H (.str b)) : EvI K (tMake (kC K .mark) (spI3 (kC K .mark) "line" "mark" "by") [] C8.E0 (tCons tg (tCons tb (tCons tc tNil)))) σ H (.row (.mark g a b)) :=
  made (r := .mark g a b) rfl rfl (ea_cons h1 (ea_cons h2 (ea_cons h3 ea_nil))) fun p dx H1 Q E hp q => ⟨p, dx, _, _, _, rfl, hp, q⟩
theorem evi_carry {k : CK} {tg tc tb td : TE} {g a b : Str} {c : Option Str} (h1 : Ev tg σ H (.str g)) (h2 : Ev tc σ H (oV c)) (h3 : Ev tb σ H (.str a)) (h4 : Ev td σ H (.str b)) : EvI K (tMake (kC K (.carry k)) (spI4 (kC K (.carry k)) "goal" "carry" "one" "other") [] C8.E0 (tCons tg (tCons tc (tCons tb (tCons td tNil))))) σ H (.row (.carry k g c a b)) :=
  made (r := .carry k g c a b) rfl rfl (ea_cons h1 (ea_cons h2 (ea_cons h3 (ea_cons h4 ea_nil)))) fun p dx H1 Q E hp q => ⟨p, dx, _, _, _, _, rfl, hp, q⟩
theorem evi_pick {tg tc tb td : TE} {g p a b : Str} (h1 : Ev tg σ H (.str g)) (h2 : Ev tc σ H (.str p)) (h3 : Ev tb σ H (.str a)) (h4 : Ev td σ H (.str b)) : EvI K (tMake (kC K .pick) (spI4 (kC K .pick) "goal" "by" "one" "other") [] C8.E0 (tCons tg (tCons tc (tCons tb (tCons td tNil))))) σ H (.row (.pick g p a b)) :=
  made (r := .pick g p a b) rfl rfl (ea_cons h1 (ea_cons h2 (ea_cons h3 (ea_cons h4 ea_nil)))) fun p dx H1 Q E hp q => ⟨p, dx, _, _, _, _, rfl, hp, q⟩
theorem evi_turns {tn tr : TE} {n : Nat} {rs : List Rw} (h1 : Ev tn σ H (.int n)) (h2 : EvLs K tr σ H (rs.map .row)) : EvI K (tMake (kC K .turns) (spTurnsI (kC K .turns)) [] C8.E0 (tCons tn (tCons tr tNil))) σ H (.turns n rs) := fun H1 e Q q =>
  h1 H1 e _ fun H2 e2 => h2 H2 (e.trans e2) _ fun l H3 e3 hl => fun x dx hx hdx ne => by
    have e4 := (Ex.new (o := .own x) hdx).mut (o := .ins (kC K .turns) dx []) hx
    obtain ⟨ps, hl1, hps⟩ := rows_back hl
    refine ⟨x, dx, l, .int n, _, rfl, upd_same, e4 _ _ hl1, fun l' H' hl' hp hl2 hk => ⟨rfl, ?_⟩⟩
    have e5 : Ex H3 H' := fun b o hb => hk b o (e4 _ _ hb) (fun z => by rw [z, hx] at hb; cases hb)
    exact q x H' ((e2.trans e3).trans e5) ⟨dx, l', hp, ps, hl2, Paired.mapP hps fun _ _ z => z.ex e5⟩
/-! names -/
def rAddT : R2 := fun x y H Q => ∃ i j, x = .str i ∧ y = .str j ∧ i.length + j.length ≤ sizeLine ∧ Q (.str (i ++ j)) H
theorem nm_len (a : Nm) : a.s_.length ≤ 3 := by cases a <;> decide +kernel
theorem rv_nm {n : Str} {a : Nm} (hn : n.length ≤ 8) : Evl.RV rAddT (.str n) (.str a.s_) H (.str (nn n a)) := fun H1 _ _ q => ⟨n, a.s_, rfl, rfl, Nat.le_trans (Nat.add_le_add hn (nm_len a)) (by decide), q H1 (Ex.refl H1)⟩
theorem ev_nm {n : Str} {a : Nm} (h : σ[i]? = some (some (.str n))) (hn : n.length ≤ 8) : Ev (tOp rAddT (tVar i) (tC (.str a.s_))) σ H (.str (nn n a)) := ev_op (ev_var h) ev_c (rv_nm hn)
theorem ev_nmV {j : Nat} {n : Str} {a : Nm} (h : σ[i]? = some (some (.str n))) (h2 : σ[j]? = some (some (.str a.s_))) (hn : n.length ≤ 8) : Ev (tOp rAddT (tVar i) (tVar j)) σ H (.str (nn n a)) := ev_op (ev_var h) (ev_var h2) (rv_nm hn)
theorem ev_less {n m : Int} (h : σ[i]? = some (some (.int n))) : Ev (tOp (rI0 fun i j => .int (i - j)) (tVar i) (tC (.int m))) σ H (.int (n - m)) := ev_op (ev_var h) ev_c rv_I0
end
end K76
set_option Elab.async false
set_option linter.all false
set_option maxRecDepth 100000
set_option maxHeartbeats 4000000
set_option pp.maxSteps 800
namespace K76
open PySem PySem.Spec PyProof.Rows L2
open Evl (Ex Ev EvA ev_var ev_c ev_op rv_I0 ea_nil ea_cons)
/-! ## the law's rows -/
abbrev rI (n : Str) (rs : List Rn) : List It := rs.map fun r => .row (r.rw n)
def divIts (w : Nat) (n : Str) : List It := rI n headN ++ (It.turns w ((bitN w).map (Rn.rw n)) :: rI n (tailN w))
def prodIts (n : Str) : List It := rI n prodN
def spBit (K : PySem.W.Frag) : Sp := fun vs H Q _ => ∃ (w : Nat) (n : Str), vs = [.int w, .str n] ∧ n.length ≤ 8 ∧ ∀ l H', Ex H H' → ItsAt K H' l (rI n (bitN w)) → Q (.ref l) H'
def spDivided (K : PySem.W.Frag) : Sp := fun vs H Q _ => ∃ (w : Nat) (n : Str), vs = [.int w, .str n] ∧ n.length ≤ 8 ∧ ∀ l H', Ex H H' → ItsAt K H' l (divIts w n) → Q (.ref l) H'
def spProduct (K : PySem.W.Frag) : Sp := fun vs H Q _ => ∃ n : Str, vs = [.str n] ∧ n.length ≤ 8 ∧ ∀ l H', Ex H H' → ItsAt K H' l (prodIts n) → Q (.ref l) H'
section
variable {P : Program} {w : World} {K : PySem.W.Frag} {mg : Str → Option Value} {base : Heap}
theorem ok_law_bit (T : Tx K mg) (k_Right_init : C8.Mak P w K mg base 1 "Right" (He.ga K "Right") (spI3 (He.ga K "Right") "goal" "one" "k") []) (k_Left_init : C8.Mak P w K mg base 1 "Left" (He.ga K "Left") (spI3 (He.ga K "Left") "goal" "one" "k") []) (k_Or_init : C8.Mak P w K mg base 1 "Or" (He.ga K "Or") (spI3 (He.ga K "Or") "goal" "one" "other") []) (k_Under_init : C8.Mak P w K mg base 1 "Under" (He.ga K "Under") (spI3 (He.ga K "Under") "goal" "one" "other") []) (k_Unlike_init : C8.Mak P w K mg base 1 "Unlike" (He.ga K "Unlike") (spI3 (He.ga K "Unlike") "goal" "one" "other") []) (k_Gap_init : C8.Mak P w K mg base 1 "Gap" (He.ga K "Gap") (spI4 (He.ga K "Gap") "goal" "carry" "one" "other") []) (k_Pick_init : C8.Mak P w K mg base 1 "Pick" (He.ga K "Pick") (spI4 (He.ga K "Pick") "goal" "by" "one" "other") []) : C8.Cal P w K mg base 3 "_law_bit" (spBit K) [] :=
  cal_mk T.f_law_bit T.g__law_bit S_law_bit B_law_bit (fun vs H Q E h => by obtain ⟨i, n, rfl, _⟩ := h; rfl) fun cdv A outer s H vs Q E hr h => by
    obtain ⟨i, n, rfl, hn, k⟩ := h
    refine ⟨_, (pss_cons (ps_set (i := 2) S_law_bit.nd rfl (Or.inl rfl) (pe_lst (pa_cons (C8.pe_mk (k_Right_init) hr (by omega) rfl (pa_cons (pe_op op_add_str (pv 1) pe_str) (pa_cons (pe_op op_add_str (pv 1) pe_str) (pa_cons (pe_op op_sub (pv 0) pe_int) pa_nil)))) (pa_cons (C8.pe_mk (k_Left_init) hr (by omega) rfl (pa_cons (pe_op op_add_str (pv 1) pe_str) (pa_cons (pe_op op_add_str (pv 1) pe_str) (pa_cons pe_int pa_nil)))) (pa_cons (C8.pe_mk (k_Right_init) hr (by omega) rfl (pa_cons (pe_op op_add_str (pv 1) pe_str) (pa_cons (pe_op op_add_str (pv 1) pe_str) (pa_cons (pe_op op_sub (pv 0) pe_int) pa_nil)))) pa_nil))))) (pss_cons (ps_set (i := 2) S_law_bit.nd rfl (Or.inl rfl) (pe_op op_cat (pv 2) (pe_lst (pa_cons (C8.pe_mk (k_Or_init) hr (by omega) rfl (pa_cons (pe_op op_add_str (pv 1) pe_str) (pa_cons (pe_op op_add_str (pv 1) pe_str) (pa_cons (pe_op op_add_str (pv 1) pe_str) pa_nil)))) (pa_cons (C8.pe_mk (k_Left_init) hr (by omega) rfl (pa_cons (pe_op op_add_str (pv 1) pe_str) (pa_cons (pe_op op_add_str (pv 1) pe_str) (pa_cons pe_int pa_nil)))) (pa_cons (C8.pe_mk (k_Under_init) hr (by omega) rfl (pa_cons (pe_op op_add_str (pv 1) pe_str) (pa_cons (pe_op op_add_str (pv 1) pe_str) (pa_cons (pe_op op_add_str (pv 1) pe_str) pa_nil)))) pa_nil)))))) (pss_cons (ps_set (i := 2) S_law_bit.nd rfl (Or.inl rfl) (pe_op op_cat (pv 2) (pe_lst (pa_cons (C8.pe_mk (k_Unlike_init) hr (by omega) rfl (pa_cons (pe_op op_add_str (pv 1) pe_str) (pa_cons (pe_op op_add_str (pv 1) pe_str) (pa_cons (pe_op op_add_str (pv 1) pe_str) pa_nil)))) (pa_cons (C8.pe_mk (k_Or_init) hr (by omega) rfl (pa_cons (pe_op op_add_str (pv 1) pe_str) (pa_cons (pe_op op_add_str (pv 1) pe_str) (pa_cons (pe_op op_add_str (pv 1) pe_str) pa_nil)))) pa_nil))))) (pss_cons (ps_set (i := 2) S_law_bit.nd rfl (Or.inl rfl) (pe_op op_cat (pv 2) (pe_lst (pa_cons (C8.pe_mk (k_Gap_init) hr (by omega) rfl (pa_cons (pe_op op_add_str (pv 1) pe_str) (pa_cons pe_non (pa_cons (pe_op op_add_str (pv 1) pe_str) (pa_cons (pe_op op_add_str (pv 1) pe_str) pa_nil))))) (pa_cons (C8.pe_mk (k_Pick_init) hr (by omega) rfl (pa_cons (pe_op op_add_str (pv 1) pe_str) (pa_cons (pe_op op_add_str (pv 1) pe_str) (pa_cons (pe_op op_add_str (pv 1) pe_str) (pa_cons (pe_op op_add_str (pv 1) pe_str) pa_nil))))) pa_nil))))) (pss_one (ps_ret (pe_op op_cat (pv 2) (pe_lst (pa_cons (C8.pe_mk (k_Or_init) hr (by omega) rfl (pa_cons (pe_op op_add_str (pv 1) pe_str) (pa_cons (pe_op op_add_str (pv 1) pe_str) (pa_cons (pe_op op_add_str (pv 1) pe_str) pa_nil)))) pa_nil))))))))), ?_⟩
    refine evls_set (K := K) (its := rI n [.shift .right .t .r ((i : Int) - 1), .shift .left .r .r 1, .shift .right .u .q ((i : Int) - 1)]) (evls_lst (evis_cons (evi_shift (ev_nm rfl hn) (ev_nm rfl hn) (ev_less rfl)) (evis_cons (evi_shift (ev_nm rfl hn) (ev_nm rfl hn) ev_c) (evis_cons (evi_shift (ev_nm rfl hn) (ev_nm rfl hn) (ev_less rfl)) evis_nil))) (Nat.le_of_ble_eq_true rfl)) fun l1 H1 e1 hl1 => ?_
    refine evls_set  (evls_cat (K := K) (its := rI n [.pair .or .r .r .u, .shift .left .q .q 1, .pair .under .c .r .d]) rfl hl1 (evls_lst (evis_cons (evi_pair (ev_nm rfl hn) (ev_nm rfl hn) (ev_nm rfl hn)) (evis_cons (evi_shift (ev_nm rfl hn) (ev_nm rfl hn) ev_c) (evis_cons (evi_pair (ev_nm rfl hn) (ev_nm rfl hn) (ev_nm rfl hn)) evis_nil))) (Nat.le_of_ble_eq_true rfl)) (Nat.le_of_ble_eq_true rfl)) fun l2 H2 e2 hl2 => ?_
    refine evls_set  (evls_cat (K := K) (its := rI n [.pair .unlike .c .c .one, .pair .or .c .c .t]) rfl hl2 (evls_lst (evis_cons (evi_pair (ev_nm rfl hn) (ev_nm rfl hn) (ev_nm rfl hn)) (evis_cons (evi_pair (ev_nm rfl hn) (ev_nm rfl hn) (ev_nm rfl hn)) evis_nil)) (Nat.le_of_ble_eq_true rfl)) (Nat.le_of_ble_eq_true rfl)) fun l3 H3 e3 hl3 => ?_
    refine evls_set  (evls_cat (K := K) (its := rI n [.carry .gap .s none .r .d, .pick .r .c .s .r]) rfl hl3 (evls_lst (evis_cons (evi_carry (ev_nm rfl hn) ev_c (ev_nm rfl hn) (ev_nm rfl hn)) (evis_cons (evi_pick (ev_nm rfl hn) (ev_nm rfl hn) (ev_nm rfl hn) (ev_nm rfl hn)) evis_nil)) (Nat.le_of_ble_eq_true rfl)) (Nat.le_of_ble_eq_true rfl)) fun l4 H4 e4 hl4 => ?_
    refine evls_ret  (evls_cat (K := K) (its := rI n [.pair .or .q .q .c]) rfl hl4 (evls_lst (evis_cons (evi_pair (ev_nm rfl hn) (ev_nm rfl hn) (ev_nm rfl hn)) evis_nil) (Nat.le_of_ble_eq_true rfl)) (Nat.le_of_ble_eq_true rfl)) fun l5 H5 e5 hl5 => ?_
    exact k l5 H5 ((((e1.trans e2).trans e3).trans e4).trans e5) hl5
theorem ok_law_divided (T : Tx K mg) (k_Set_init : C8.Mak P w K mg base 1 "Set" (He.ga K "Set") (spI2 (He.ga K "Set") "goal" "bits") []) (k_Copy_init : C8.Mak P w K mg base 1 "Copy" (He.ga K "Copy") (spI2 (He.ga K "Copy") "goal" "one") []) (k_Low_init : C8.Mak P w K mg base 1 "Low" (He.ga K "Low") (spI3 (He.ga K "Low") "goal" "one" "other") []) (k_High_init : C8.Mak P w K mg base 1 "High" (He.ga K "High") (spI3 (He.ga K "High") "goal" "one" "other") []) (k_Sum_init : C8.Mak P w K mg base 1 "Sum" (He.ga K "Sum") (spI4 (He.ga K "Sum") "goal" "carry" "one" "other") []) (k_Unlike_init : C8.Mak P w K mg base 1 "Unlike" (He.ga K "Unlike") (spI3 (He.ga K "Unlike") "goal" "one" "other") []) (k_Mark_init : C8.Mak P w K mg base 1 "Mark" (He.ga K "Mark") (spI3 (He.ga K "Mark") "line" "mark" "by") []) (k_Slide_init : C8.Mak P w K mg base 1 "Slide" (He.ga K "Slide") (spI3 (He.ga K "Slide") "goal" "one" "k") []) (k_Turns_init : C8.Mak P w K mg base 1 "Turns" (He.ga K "Turns") (spTurnsI (He.ga K "Turns")) []) (k_law_bit : C8.Cal P w K mg base 3 "_law_bit" (spBit K) []) : C8.Cal P w K mg base 4 "_law_divided" (spDivided K) [] :=
  cal_mk T.f_law_divided T.g__law_divided S_law_divided B_law_divided (fun vs H Q E h => by obtain ⟨i, n, rfl, _⟩ := h; rfl) fun cdv A outer s H vs Q E hr h => by
    obtain ⟨i, n, rfl, hn, k⟩ := h
    refine ⟨_, (pss_cons (ps_set (i := 2) S_law_divided.nd rfl (Or.inl rfl) (pe_lst (pa_cons (C8.pe_mk (k_Set_init) hr (by omega) rfl (pa_cons (pe_op op_add_str (pv 1) pe_str) (pa_cons pe_int pa_nil))) (pa_cons (C8.pe_mk (k_Copy_init) hr (by omega) rfl (pa_cons (pe_op op_add_str (pv 1) pe_str) (pa_cons (pe_op op_add_str (pv 1) pe_str) pa_nil))) (pa_cons (C8.pe_mk (k_Copy_init) hr (by omega) rfl (pa_cons (pe_op op_add_str (pv 1) pe_str) (pa_cons (pe_op op_add_str (pv 1) pe_str) pa_nil))) (pa_cons (C8.pe_mk (k_Turns_init) hr (by omega) rfl (pa_cons (pv 0) (pa_cons (C8.pe_c (k_law_bit) hr (by omega) rfl (pa_cons (pv 0) (pa_cons (pv 1) pa_nil))) pa_nil))) pa_nil)))))) (pss_cons (ps_set (i := 2) S_law_divided.nd rfl (Or.inl rfl) (pe_op op_cat (pv 2) (pe_lst (pa_cons (C8.pe_mk (k_Low_init) hr (by omega) rfl (pa_cons (pe_op op_add_str (pv 1) pe_str) (pa_cons (pe_op op_add_str (pv 1) pe_str) (pa_cons (pe_op op_add_str (pv 1) pe_str) pa_nil)))) (pa_cons (C8.pe_mk (k_High_init) hr (by omega) rfl (pa_cons (pe_op op_add_str (pv 1) pe_str) (pa_cons (pe_op op_add_str (pv 1) pe_str) (pa_cons (pe_op op_add_str (pv 1) pe_str) pa_nil)))) pa_nil))))) (pss_cons (ps_set (i := 2) S_law_divided.nd rfl (Or.inl rfl) (pe_op op_cat (pv 2) (pe_lst (pa_cons (C8.pe_mk (k_Sum_init) hr (by omega) rfl (pa_cons (pe_op op_add_str (pv 1) pe_str) (pa_cons (pe_op op_add_str (pv 1) pe_str) (pa_cons (pe_op op_add_str (pv 1) pe_str) (pa_cons (pe_op op_add_str (pv 1) pe_str) pa_nil))))) (pa_cons (C8.pe_mk (k_Sum_init) hr (by omega) rfl (pa_cons (pe_op op_add_str (pv 1) pe_str) (pa_cons (pe_op op_add_str (pv 1) pe_str) (pa_cons (pe_op op_add_str (pv 1) pe_str) (pa_cons (pe_op op_add_str (pv 1) pe_str) pa_nil))))) pa_nil))))) (pss_cons (ps_set (i := 2) S_law_divided.nd rfl (Or.inl rfl) (pe_op op_cat (pv 2) (pe_lst (pa_cons (C8.pe_mk (k_Unlike_init) hr (by omega) rfl (pa_cons (pe_op op_add_str (pv 1) pe_str) (pa_cons (pe_op op_add_str (pv 1) pe_str) (pa_cons (pe_op op_add_str (pv 1) pe_str) pa_nil)))) (pa_cons (C8.pe_mk (k_Mark_init) hr (by omega) rfl (pa_cons pe_int (pa_cons pe_str (pa_cons (pe_op op_add_str (pv 1) pe_str) pa_nil)))) (pa_cons (C8.pe_mk (k_Unlike_init) hr (by omega) rfl (pa_cons (pe_op op_add_str (pv 1) pe_str) (pa_cons (pe_op op_add_str (pv 1) pe_str) (pa_cons (pe_op op_add_str (pv 1) pe_str) pa_nil)))) pa_nil)))))) (pss_cons (ps_set (i := 2) S_law_divided.nd rfl (Or.inl rfl) (pe_op op_cat (pv 2) (pe_lst (pa_cons (C8.pe_mk (k_Mark_init) hr (by omega) rfl (pa_cons pe_int (pa_cons pe_str (pa_cons (pe_op op_add_str (pv 1) pe_str) pa_nil)))) (pa_cons (C8.pe_mk (k_Mark_init) hr (by omega) rfl (pa_cons pe_int (pa_cons pe_str (pa_cons (pe_op op_add_str (pv 1) pe_str) pa_nil)))) (pa_cons (C8.pe_mk (k_Mark_init) hr (by omega) rfl (pa_cons pe_int (pa_cons pe_str (pa_cons (pe_op op_add_str (pv 1) pe_str) pa_nil)))) pa_nil)))))) (pss_one (ps_ret (pe_op op_cat (pv 2) (pe_lst (pa_cons (C8.pe_mk (k_Slide_init) hr (by omega) rfl (pa_cons (pe_op op_add_str (pv 1) pe_str) (pa_cons (pe_op op_add_str (pv 1) pe_str) (pa_cons (pe_op op_sub (pv 0) pe_int) pa_nil)))) pa_nil)))))))))), ?_⟩
    refine evls_set (K := K) (its := ([.row (.set (nn n .one) 1), .row (.copy (nn n .r) (nn n .h)), .row (.copy (nn n .q) (nn n .l)), .turns i ((bitN i).map (Rn.rw n))] : List It)) (evls_lst (evis_cons (evi_set (ev_nm rfl hn) ev_c) (evis_cons (evi_copy (ev_nm rfl hn) (ev_nm rfl hn)) (evis_cons (evi_copy (ev_nm rfl hn) (ev_nm rfl hn)) (evis_cons (evi_turns (ev_var rfl) ?_) evis_nil)))) (Nat.le_of_ble_eq_true rfl)) fun l1 H1 e1 hl1 => ?_
    · intro H1 e Q q
      refine ⟨_, rfl, _, rfl, i, n, rfl, hn, fun l H2 e2 hl => q l H2 e2 ?_⟩
      rw [List.map_map]
      exact hl
    refine evls_set  (evls_cat (K := K) (its := rI n [.pair .low .x .q .d, .pair .high .y .q .d]) rfl hl1 (evls_lst (evis_cons (evi_pair (ev_nm rfl hn) (ev_nm rfl hn) (ev_nm rfl hn)) (evis_cons (evi_pair (ev_nm rfl hn) (ev_nm rfl hn) (ev_nm rfl hn)) evis_nil)) (Nat.le_of_ble_eq_true rfl)) (Nat.le_of_ble_eq_true rfl)) fun l2 H2 e2 hl2 => ?_
    refine evls_set  (evls_cat (K := K) (its := rI n [.carry .sum .x (some .k) .x .r, .carry .sum .y (some .v) .y .k]) rfl hl2 (evls_lst (evis_cons (evi_carry (ev_nm rfl hn) (ev_nm rfl hn) (ev_nm rfl hn) (ev_nm rfl hn)) (evis_cons (evi_carry (ev_nm rfl hn) (ev_nm rfl hn) (ev_nm rfl hn) (ev_nm rfl hn)) evis_nil)) (Nat.le_of_ble_eq_true rfl)) (Nat.le_of_ble_eq_true rfl)) fun l3 H3 e3 hl3 => ?_
    refine evls_set  (evls_cat (K := K) (its := rI n [.pair .unlike .e .x .l, .mark 1 "round" .e, .pair .unlike .e .y .h]) rfl hl3 (evls_lst (evis_cons (evi_pair (ev_nm rfl hn) (ev_nm rfl hn) (ev_nm rfl hn)) (evis_cons (evi_mark ev_c ev_c (ev_nm rfl hn)) (evis_cons (evi_pair (ev_nm rfl hn) (ev_nm rfl hn) (ev_nm rfl hn)) evis_nil))) (Nat.le_of_ble_eq_true rfl)) (Nat.le_of_ble_eq_true rfl)) fun l4 H4 e4 hl4 => ?_
    refine evls_set  (evls_cat (K := K) (its := rI n [.mark 2 "stop" .e, .mark 3 "nothing" .v, .mark 4 "stop" .one]) rfl hl4 (evls_lst (evis_cons (evi_mark ev_c ev_c (ev_nm rfl hn)) (evis_cons (evi_mark ev_c ev_c (ev_nm rfl hn)) (evis_cons (evi_mark ev_c ev_c (ev_nm rfl hn)) evis_nil))) (Nat.le_of_ble_eq_true rfl)) (Nat.le_of_ble_eq_true rfl)) fun l5 H5 e5 hl5 => ?_
    refine evls_ret  (evls_cat (K := K) (its := rI n [.shift .slide .z .l ((i : Int) - 1)]) rfl hl5 (evls_lst (evis_cons (evi_shift (ev_nm rfl hn) (ev_nm rfl hn) (ev_less rfl)) evis_nil) (Nat.le_of_ble_eq_true rfl)) (Nat.le_of_ble_eq_true rfl)) fun l6 H6 e6 hl6 => ?_
    exact k l6 H6 (((((e1.trans e2).trans e3).trans e4).trans e5).trans e6) hl6
theorem ok_law_product (T : Tx K mg) (k_Low_init : C8.Mak P w K mg base 1 "Low" (He.ga K "Low") (spI3 (He.ga K "Low") "goal" "one" "other") []) (k_High_init : C8.Mak P w K mg base 1 "High" (He.ga K "High") (spI3 (He.ga K "High") "goal" "one" "other") []) (k_Set_init : C8.Mak P w K mg base 1 "Set" (He.ga K "Set") (spI2 (He.ga K "Set") "goal" "bits") []) (k_Sum_init : C8.Mak P w K mg base 1 "Sum" (He.ga K "Sum") (spI4 (He.ga K "Sum") "goal" "carry" "one" "other") []) : C8.Cal P w K mg base 3 "_law_product" (spProduct K) [] :=
  cal_mk T.f_law_product T.g__law_product S_law_product B_law_product (fun vs H Q E h => by obtain ⟨n, rfl, _⟩ := h; rfl) fun cdv A outer s H vs Q E hr h => by
    obtain ⟨n, rfl, hn, k⟩ := h
    refine ⟨_, (pss_cons (ps_set (i := 1) S_law_product.nd rfl (Or.inl rfl) (pe_lst (pa_cons (C8.pe_mk (k_Low_init) hr (by omega) rfl (pa_cons (pe_op op_add_str (pv 0) pe_str) (pa_cons (pe_op op_add_str (pv 0) pe_str) (pa_cons (pe_op op_add_str (pv 0) pe_str) pa_nil)))) (pa_cons (C8.pe_mk (k_High_init) hr (by omega) rfl (pa_cons (pe_op op_add_str (pv 0) pe_str) (pa_cons (pe_op op_add_str (pv 0) pe_str) (pa_cons (pe_op op_add_str (pv 0) pe_str) pa_nil)))) (pa_cons (C8.pe_mk (k_Set_init) hr (by omega) rfl (pa_cons (pe_op op_add_str (pv 0) pe_str) (pa_cons pe_int pa_nil))) (pa_cons (C8.pe_mk (k_Set_init) hr (by omega) rfl (pa_cons (pe_op op_add_str (pv 0) pe_str) (pa_cons pe_int pa_nil))) pa_nil)))))) (pss_cons (ps_for PassesOwn.never rfl (pi_list (pe_lst (pa_cons (pe_tup (pa_cons pe_str (pa_cons pe_str pa_nil))) (pa_cons (pe_tup (pa_cons pe_str (pa_cons pe_str pa_nil))) pa_nil)))) (pg_tup rfl (pgs_cons (pg_name (i := 2) S_law_product.nd rfl (Or.inl rfl)) (pgs_cons (pg_name (i := 3) S_law_product.nd rfl (Or.inl rfl)) pgs_nil))) (pss_cons (ps_set (i := 1) S_law_product.nd rfl (Or.inl rfl) (pe_op op_cat (pv 1) (pe_lst (pa_cons (C8.pe_mk (k_Low_init) hr (by omega) rfl (pa_cons (pe_op op_add_str (pv 0) pe_str) (pa_cons (pe_op op_add_str (pv 0) (pv 2)) (pa_cons (pe_op op_add_str (pv 0) (pv 3)) pa_nil)))) (pa_cons (C8.pe_mk (k_Sum_init) hr (by omega) rfl (pa_cons (pe_op op_add_str (pv 0) pe_str) (pa_cons (pe_op op_add_str (pv 0) pe_str) (pa_cons (pe_op op_add_str (pv 0) pe_str) (pa_cons (pe_op op_add_str (pv 0) pe_str) pa_nil))))) pa_nil))))) (pss_cons (ps_set (i := 1) S_law_product.nd rfl (Or.inl rfl) (pe_op op_cat (pv 1) (pe_lst (pa_cons (C8.pe_mk (k_Sum_init) hr (by omega) rfl (pa_cons (pe_op op_add_str (pv 0) pe_str) (pa_cons (pe_op op_add_str (pv 0) pe_str) (pa_cons (pe_op op_add_str (pv 0) pe_str) (pa_cons (pe_op op_add_str (pv 0) pe_str) pa_nil))))) (pa_cons (C8.pe_mk (k_Sum_init) hr (by omega) rfl (pa_cons (pe_op op_add_str (pv 0) pe_str) (pa_cons pe_non (pa_cons (pe_op op_add_str (pv 0) pe_str) (pa_cons (pe_op op_add_str (pv 0) pe_str) pa_nil))))) pa_nil))))) (pss_cons (ps_set (i := 1) S_law_product.nd rfl (Or.inl rfl) (pe_op op_cat (pv 1) (pe_lst (pa_cons (C8.pe_mk (k_High_init) hr (by omega) rfl (pa_cons (pe_op op_add_str (pv 0) pe_str) (pa_cons (pe_op op_add_str (pv 0) (pv 2)) (pa_cons (pe_op op_add_str (pv 0) (pv 3)) pa_nil)))) (pa_cons (C8.pe_mk (k_Sum_init) hr (by omega) rfl (pa_cons (pe_op op_add_str (pv 0) pe_str) (pa_cons (pe_op op_add_str (pv 0) pe_str) (pa_cons (pe_op op_add_str (pv 0) pe_str) (pa_cons (pe_op op_add_str (pv 0) pe_str) pa_nil))))) pa_nil))))) (pss_one (ps_set (i := 1) S_law_product.nd rfl (Or.inl rfl) (pe_op op_cat (pv 1) (pe_lst (pa_cons (C8.pe_mk (k_Sum_init) hr (by omega) rfl (pa_cons (pe_op op_add_str (pv 0) pe_str) (pa_cons pe_non (pa_cons (pe_op op_add_str (pv 0) pe_str) (pa_cons (pe_op op_add_str (pv 0) pe_str) pa_nil))))) pa_nil))))))))) (pss_cons (ps_set (i := 1) S_law_product.nd rfl (Or.inl rfl) (pe_op op_cat (pv 1) (pe_lst (pa_cons (C8.pe_mk (k_Low_init) hr (by omega) rfl (pa_cons (pe_op op_add_str (pv 0) pe_str) (pa_cons (pe_op op_add_str (pv 0) pe_str) (pa_cons (pe_op op_add_str (pv 0) pe_str) pa_nil)))) (pa_cons (C8.pe_mk (k_Sum_init) hr (by omega) rfl (pa_cons (pe_op op_add_str (pv 0) pe_str) (pa_cons (pe_op op_add_str (pv 0) pe_str) (pa_cons (pe_op op_add_str (pv 0) pe_str) (pa_cons (pe_op op_add_str (pv 0) pe_str) pa_nil))))) pa_nil))))) (pss_cons (ps_set (i := 1) S_law_product.nd rfl (Or.inl rfl) (pe_op op_cat (pv 1) (pe_lst (pa_cons (C8.pe_mk (k_High_init) hr (by omega) rfl (pa_cons (pe_op op_add_str (pv 0) pe_str) (pa_cons (pe_op op_add_str (pv 0) pe_str) (pa_cons (pe_op op_add_str (pv 0) pe_str) pa_nil)))) (pa_cons (C8.pe_mk (k_Sum_init) hr (by omega) rfl (pa_cons (pe_op op_add_str (pv 0) pe_str) (pa_cons pe_non (pa_cons (pe_op op_add_str (pv 0) pe_str) (pa_cons (pe_op op_add_str (pv 0) pe_str) pa_nil))))) pa_nil))))) (pss_one (ps_ret (pe_op op_cat (pv 1) (pe_lst (pa_cons (C8.pe_mk (k_Sum_init) hr (by omega) rfl (pa_cons (pe_op op_add_str (pv 0) pe_str) (pa_cons pe_non (pa_cons (pe_op op_add_str (pv 0) pe_str) (pa_cons (pe_op op_add_str (pv 0) pe_str) pa_nil))))) pa_nil))))))))), ?_⟩
    refine evls_set (K := K) (its := rI n [.pair .low .p0 .a0 .b0, .pair .high .p1 .a0 .b0, .set .p2 0, .set .p3 0]) (evls_lst (evis_cons (evi_pair (ev_nm rfl hn) (ev_nm rfl hn) (ev_nm rfl hn)) (evis_cons (evi_pair (ev_nm rfl hn) (ev_nm rfl hn) (ev_nm rfl hn)) (evis_cons (evi_set (ev_nm rfl hn) ev_c) (evis_cons (evi_set (ev_nm rfl hn) ev_c) evis_nil)))) (Nat.le_of_ble_eq_true rfl)) fun l1 H1 e1 hl1 => ?_
    refine ⟨by show 2 ≤ sizeLine; decide, fun t1 ht1 => ?_⟩
    refine ⟨by show 2 ≤ sizeLine; decide, fun t2 ht2 => ?_⟩
    refine ⟨by show 2 ≤ sizeLine; decide, fun lp hlp => ?_⟩
    have d1 := Ex.new (o := .tup [V.str "a0", V.str "b1"]) ht1
    have d2 := Ex.new (o := .tup [V.str "a1", V.str "b0"]) ht2
    have d3 := Ex.new (o := .lst [V.ref t1, V.ref t2]) hlp
    have hl1' := hl1.ex ((d1.trans d2).trans d3)
    have g1 := (d2.trans d3) _ _ (upd_same (H := H1) (a := t1) (o := .tup [V.str "a0", V.str "b1"]))
    have g2 := d3 _ _ (upd_same (a := t2) (o := .tup [V.str "a1", V.str "b0"]))
    have e1' := e1.trans ((d1.trans d2).trans d3)
    have glp : (upd (upd (upd H1 t1 (.tup [V.str "a0", V.str "b1"])) t2 (.tup [V.str "a1", V.str "b0"])) lp (.lst [V.ref t1, V.ref t2])) lp = some (.lst [V.ref t1, V.ref t2]) := upd_same
    generalize upd (upd (upd H1 t1 (.tup [V.str "a0", V.str "b1"])) t2 (.tup [V.str "a1", V.str "b0"])) lp (.lst [V.ref t1, V.ref t2]) = G at d3 hl1' g1 g2 e1' glp ⊢
    have hlen : ∀ j : Nat, (([onceN .a0 .b1, onceN .a1 .b0].take j).flatten).length ≤ 14 := fun j => match j with | 0 => by decide | 1 => by decide | (m + 2) => by simp [onceN]
    have key : ∀ (j : Nat) (x : V), [V.ref t1, V.ref t2][j]? = some x → ∃ (A B : Nm) (t : Addr), x = .ref t ∧ G t = some (.tup [.str A.s_, .str B.s_]) ∧ (([onceN .a0 .b1, onceN .a1 .b0].take (j + 1)).flatten) = (([onceN .a0 .b1, onceN .a1 .b0].take j).flatten) ++ onceN A B := by
      intro j x hx
      match j, hx with
      | 0, hx => cases hx; exact ⟨.a0, .b1, t1, rfl, g1, rfl⟩
      | 1, hx => cases hx; exact ⟨.a1, .b0, t2, rfl, g2, rfl⟩
    refine ⟨lp, rfl, ⟨_, SqL.of glp⟩, for_list (K := K) (a := lp) (xs := [V.ref t1, V.ref t2]) (fun j σ H' => ∃ v2 v3 l, σ = [some (.str n), some (.ref l), v2, v3] ∧ Ex G H' ∧ ItsAt K H' l (rI n [.pair .low .p0 .a0 .b0, .pair .high .p1 .a0 .b0, .set .p2 0, .set .p3 0] ++ rI n (([onceN .a0 .b1, onceN .a1 .b0].take j).flatten)))
      ⟨none, none, l1, rfl, Ex.refl _, hl1'⟩ (fun j σ H' _ ⟨_, _, _, _, e, _⟩ => SqL.of (e _ _ glp)) ?_ ?_⟩
    · rintro j x σ H' hj ⟨v2, v3, l, rfl, e, hl⟩
      obtain ⟨A, B, t, rfl, gt, hk⟩ := key j x hj
      refine ⟨t, _, rfl, SqT.of (e _ _ gt), rfl, _, _, rfl, _, _, rfl, rfl, ?_⟩
      refine evls_set (evls_cat (K := K) (its := rI n [.pair .low .w A B, .carry .sum .p1 (some .k) .p1 .w]) rfl hl (evls_lst (evis_cons (evi_pair (ev_nm rfl hn) (ev_nmV rfl rfl hn) (ev_nmV rfl rfl hn)) (evis_cons (evi_carry (ev_nm rfl hn) (ev_nm rfl hn) (ev_nm rfl hn) (ev_nm rfl hn)) evis_nil)) (Nat.le_of_ble_eq_true rfl)) (by simp only [List.length_append, List.length_map]; have := hlen j; simp only [List.length_cons, List.length_nil]; omega)) fun l11 H11 e11 hl11 => ?_
      refine evls_set (evls_cat (K := K) (its := rI n [.carry .sum .p2 (some .f) .p2 .k, .carry .sum .p3 none .p3 .f]) rfl hl11 (evls_lst (evis_cons (evi_carry (ev_nm rfl hn) (ev_nm rfl hn) (ev_nm rfl hn) (ev_nm rfl hn)) (evis_cons (evi_carry (ev_nm rfl hn) ev_c (ev_nm rfl hn) (ev_nm rfl hn)) evis_nil)) (Nat.le_of_ble_eq_true rfl)) (by simp only [List.length_append, List.length_map]; have := hlen j; simp only [List.length_cons, List.length_nil]; omega)) fun l12 H12 e12 hl12 => ?_
      refine evls_set (evls_cat (K := K) (its := rI n [.pair .high .w A B, .carry .sum .p2 (some .k) .p2 .w]) rfl hl12 (evls_lst (evis_cons (evi_pair (ev_nm rfl hn) (ev_nmV rfl rfl hn) (ev_nmV rfl rfl hn)) (evis_cons (evi_carry (ev_nm rfl hn) (ev_nm rfl hn) (ev_nm rfl hn) (ev_nm rfl hn)) evis_nil)) (Nat.le_of_ble_eq_true rfl)) (by simp only [List.length_append, List.length_map]; have := hlen j; simp only [List.length_cons, List.length_nil]; omega)) fun l13 H13 e13 hl13 => ?_
      refine evls_set1 (evls_cat (K := K) (its := rI n [.carry .sum .p3 none .p3 .k]) rfl hl13 (evls_lst (evis_cons (evi_carry (ev_nm rfl hn) ev_c (ev_nm rfl hn) (ev_nm rfl hn)) evis_nil) (Nat.le_of_ble_eq_true rfl)) (by simp only [List.length_append, List.length_map]; have := hlen j; simp only [List.length_cons, List.length_nil]; omega)) fun l14 H14 e14 hl14 => ?_
      refine ⟨_, _, _, rfl, (((e.trans e11).trans e12).trans e13).trans e14, ?_⟩
      rw [hk]
      have z := hl14
      simp only [rI, onceN, List.map_append, List.append_assoc, List.map_cons, List.map_nil, List.cons_append, List.nil_append] at z ⊢
      exact z
    · rintro σ H' ⟨v2, v3, l, rfl, e, hl⟩
      refine evls_set (evls_cat (K := K) (its := rI n [.pair .low .w .a1 .b1, .carry .sum .p2 (some .k) .p2 .w]) rfl hl (evls_lst (evis_cons (evi_pair (ev_nm rfl hn) (ev_nm rfl hn) (ev_nm rfl hn)) (evis_cons (evi_carry (ev_nm rfl hn) (ev_nm rfl hn) (ev_nm rfl hn) (ev_nm rfl hn)) evis_nil)) (Nat.le_of_ble_eq_true rfl)) (by exact Nat.le_of_ble_eq_true rfl)) fun l21 H21 e21 hl21 => ?_
      refine evls_set (evls_cat (K := K) (its := rI n [.pair .high .w .a1 .b1, .carry .sum .p3 none .p3 .w]) rfl hl21 (evls_lst (evis_cons (evi_pair (ev_nm rfl hn) (ev_nm rfl hn) (ev_nm rfl hn)) (evis_cons (evi_carry (ev_nm rfl hn) ev_c (ev_nm rfl hn) (ev_nm rfl hn)) evis_nil)) (Nat.le_of_ble_eq_true rfl)) (by exact Nat.le_of_ble_eq_true rfl)) fun l22 H22 e22 hl22 => ?_
      refine evls_ret (evls_cat (K := K) (its := rI n [.carry .sum .p3 none .p3 .k]) rfl hl22 (evls_lst (evis_cons (evi_carry (ev_nm rfl hn) ev_c (ev_nm rfl hn) (ev_nm rfl hn)) evis_nil) (Nat.le_of_ble_eq_true rfl)) (by exact Nat.le_of_ble_eq_true rfl)) fun l23 H23 e23 hl23 => ?_
      refine k l23 H23 ((((e1'.trans e).trans e21).trans e22).trans e23) ?_
      have z := hl23
      unfold prodIts prodN
      simp only [rI, onceN, List.map_append, List.append_assoc, List.map_cons, List.map_nil, List.cons_append, List.nil_append] at z ⊢
      exact z
end
end K76
set_option Elab.async false
set_option linter.all false
set_option maxRecDepth 100000
set_option maxHeartbeats 4000000
set_option pp.maxSteps 1500
namespace K76
open PySem PySem.Spec PyProof.Rows L2
open Evl (Ex)
/-! ## the law's rows are good, their counts -/
def NMs : List Str := ["", "a", "zz", "t1", "q"]
theorem reg_all : ∀ a : Nm, (NMs.all fun n => isReg (nn n a)) = true := by
  intro a
  cases a <;> decide +kernel
theorem reg_ok {n : Str} (h : n ∈ NMs) (a : Nm) : isReg (nn n a) = true := List.all_eq_true.mp (reg_all a) n h
theorem nm_short {n : Str} (h : n ∈ NMs) : n.length ≤ 8 := by
  have q : (NMs.all fun n => decide (n.length ≤ 8)) = true := by decide +kernel
  exact of_decide_eq_true (List.all_eq_true.mp q n h)
def Rn.okN (w : Nat) : Rn → Prop
  | .set _ b => 0 ≤ b ∧ b ≤ 1
  | .shift _ _ _ i => 0 ≤ i ∧ i < w
  | .mark l m _ => (m = "round" ∨ m = "stop" ∨ m = "nothing") ∧ 0 ≤ l ∧ l ≤ 4
  | _ => True
theorem rn_good {w : Nat} {n : Str} (hw : okw w) (hn : n ∈ NMs) {r : Rn} (h : r.okN w) : (r.rw n).good w ∧ (r.rw n).tgood := by
  have hB := B_le (show 1 ≤ w by have := hw.1; omega)
  have hB1 : B 1 = 2 := rfl
  have hB2 := B_le (show 1 ≤ 32 by decide)
  have h32 := hw.2
  cases r with
  | set g b => exact ⟨⟨reg_ok hn _, h.1, by have := h.2; omega⟩, ⟨reg_ok hn _, h.1, by have := h.2; omega⟩, by have := h.2; show b < 64; omega⟩
  | copy g a => exact ⟨⟨reg_ok hn _, reg_ok hn _⟩, ⟨reg_ok hn _, reg_ok hn _⟩, True.intro⟩
  | pair k g a b => exact ⟨⟨reg_ok hn _, reg_ok hn _, reg_ok hn _⟩, ⟨reg_ok hn _, reg_ok hn _, reg_ok hn _⟩, True.intro⟩
  | carry k g c a b =>
    have q : ∀ x, c.map (nn n) = some x → isReg x = true := fun x e => by
      obtain ⟨y, _, rfl⟩ := Option.map_eq_some_iff.mp e
      exact reg_ok hn _
    exact ⟨⟨q, reg_ok hn _, reg_ok hn _, reg_ok hn _⟩, ⟨q, reg_ok hn _, reg_ok hn _, reg_ok hn _⟩, True.intro⟩
  | shift k g a i =>
    have h2 : i < w := h.2
    exact ⟨⟨reg_ok hn _, reg_ok hn _, h.1, h2⟩, ⟨reg_ok hn _, reg_ok hn _, h.1, by show i < ((32 : Nat) : Int); omega⟩, by show i < 64; omega⟩
  | pick g p a b => exact ⟨⟨reg_ok hn _, reg_ok hn _, reg_ok hn _, reg_ok hn _⟩, ⟨reg_ok hn _, reg_ok hn _, reg_ok hn _, reg_ok hn _⟩, True.intro⟩
  | mark l m p =>
    have h3 : l ≤ 4 := h.2.2
    exact ⟨⟨h.1, h.2.1, by omega, reg_ok hn _⟩, ⟨h.1, h.2.1, by omega, reg_ok hn _⟩, by show l < 64; omega⟩
theorem rI_good {w : Nat} {n : Str} (hw : okw w) (hn : n ∈ NMs) {rs : List Rn} (h : ∀ r ∈ rs, r.okN w) : ∀ it ∈ rI n rs, it.good w ∧ it.tgood := by
  intro it hm
  obtain ⟨r, hr, rfl⟩ := List.mem_map.mp hm
  exact rn_good hw hn (h r hr)
theorem bit_okN {w : Nat} (hw : okw w) : ∀ r ∈ bitN w, r.okN w := by
  have h1 := hw.1
  have hs : ∀ (k : SK) (g a : Nm), (Rn.shift k g a ((w : Int) - 1)).okN w := fun k g a => ⟨by omega, by omega⟩
  have h0 : ∀ (k : SK) (g a : Nm), (Rn.shift k g a 1).okN w := fun k g a => ⟨by omega, by omega⟩
  unfold bitN
  simp only [List.forall_mem_cons, List.not_mem_nil, false_implies, implies_true, and_true]
  exact ⟨hs _ _ _, h0 _ _ _, hs _ _ _, True.intro, h0 _ _ _, True.intro, True.intro, True.intro, True.intro, True.intro, True.intro⟩
theorem head_okN {w : Nat} : ∀ r ∈ headN, r.okN w := by
  unfold headN
  simp only [List.forall_mem_cons, List.not_mem_nil, false_implies, implies_true, and_true]
  exact ⟨⟨by decide, by decide⟩, True.intro, True.intro⟩
theorem tail_okN {w : Nat} (hw : okw w) : ∀ r ∈ tailN w, r.okN w := by
  have h1 := hw.1
  unfold tailN
  simp only [List.forall_mem_cons, List.not_mem_nil, false_implies, implies_true, and_true]
  exact ⟨True.intro, True.intro, True.intro, True.intro, True.intro, ⟨.inl rfl, by decide, by decide⟩, True.intro, ⟨.inr (.inl rfl), by decide, by decide⟩, ⟨.inr (.inr rfl), by decide, by decide⟩, ⟨.inr (.inl rfl), by decide, by decide⟩, ⟨by omega, by omega⟩⟩
theorem prod_okN {w : Nat} : ∀ r ∈ prodN, r.okN w := by
  unfold prodN onceN
  simp only [List.cons_append, List.nil_append, List.forall_mem_cons, List.not_mem_nil, false_implies, implies_true, and_true]
  simp [Rn.okN]
theorem div_good {w : Nat} {n : Str} (hw : okw w) (hn : n ∈ NMs) : ∀ it ∈ divIts w n, it.good w ∧ it.tgood := by
  intro it hm
  have h1 := hw.1
  have h2 := hw.2
  rcases List.mem_append.mp hm with h | h
  · exact rI_good hw hn head_okN it h
  · rcases List.mem_cons.mp h with rfl | h
    · have hr : ∀ r ∈ (bitN w).map (Rn.rw n), r.good w ∧ r.tgood := fun r hr => by
        obtain ⟨x, hx, rfl⟩ := List.mem_map.mp hr
        exact rn_good hw hn (bit_okN hw x hx)
      exact ⟨⟨by omega, by omega, (fun z => by cases z), fun r q => (hr r q).1⟩, ⟨by omega, by omega, (fun z => by cases z), fun r q => (hr r q).2⟩⟩
    · exact rI_good hw hn (tail_okN hw) it h
theorem prod_good {w : Nat} {n : Str} (hw : okw w) (hn : n ∈ NMs) : ∀ it ∈ prodIts n, it.good w := fun it h => (rI_good hw hn prod_okN it h).1
theorem many_cat (a b : List It) : manyOf (a ++ b) = manyOf a + manyOf b := by unfold manyOf; rw [List.map_append, List.sum_append]
theorem many_rI (n : Str) (rs : List Rn) : manyOf (rI n rs) = rs.length := by
  rw [show rI n rs = (rs.map (Rn.rw n)).map .row by unfold rI; rw [List.map_map]; rfl, many_rows, List.length_map]
theorem gr_cat (a b : List It) : grOf (a ++ b) = grOf a + grOf b := by unfold grOf; rw [List.map_append, List.sum_append]
theorem gr_rI (n : Str) (rs : List Rn) : grOf (rI n rs) = 2 * rs.length := by
  rw [show rI n rs = (rs.map (Rn.rw n)).map .row by unfold rI; rw [List.map_map]; rfl, gr_rows, List.length_map]
theorem many_div (w : Nat) (n : Str) : manyOf (divIts w n) = 12 * w + 14 := by
  unfold divIts
  rw [many_cat, many_rI]
  have e : manyOf (It.turns w ((bitN w).map (Rn.rw n)) :: rI n (tailN w)) = w * (1 + 11) + manyOf (rI n (tailN w)) := List.sum_cons
  rw [e, many_rI]
  show ((3 : Nat) : Int) + (w * (1 + 11) + ((11 : Nat) : Int)) = _
  omega
theorem gr_div (w : Nat) (n : Str) : grOf (divIts w n) = 22 * w + 28 := by
  unfold divIts
  rw [gr_cat, gr_rI]
  have e : grOf (It.turns w ((bitN w).map (Rn.rw n)) :: rI n (tailN w)) = w * (2 * 11) + grOf (rI n (tailN w)) := List.sum_cons
  rw [e, gr_rI]
  show 2 * 3 + (w * (2 * 11) + 2 * 11) = _
  omega
theorem many_prod (n : Str) : manyOf (prodIts n) = 23 := by unfold prodIts; rw [many_rI]; rfl
theorem gr_prod (n : Str) : grOf (prodIts n) = 46 := by unfold prodIts; rw [gr_rI]; rfl
theorem tks_rI (n : Str) (rs : List Rn) : (tksOf (rI n rs)).length = rs.length := by
  induction rs with
  | nil => rfl
  | cons r rs ih =>
    show ([Tk.row (r.rw n)] ++ tksOf (rI n rs)).length = _
    rw [List.length_append, ih, List.length_cons, List.length_cons, List.length_nil]
    omega
theorem tks_div (w : Nat) (n : Str) : (tksOf (divIts w n)).length = 27 := by
  unfold divIts
  have e : tksOf (rI n headN ++ (It.turns w ((bitN w).map (Rn.rw n)) :: rI n (tailN w))) = tksOf (rI n headN) ++ ((Tk.turns w :: (((bitN w).map (Rn.rw n)).map .row ++ [.fin])) ++ tksOf (rI n (tailN w))) := by
    unfold tksOf
    rw [List.flatMap_append, List.flatMap_cons]
    rfl
  rw [e, List.length_append, List.length_append, tks_rI, tks_rI, List.length_cons, List.length_append, List.length_map, List.length_map]
  rfl
/-! ### the runs -/
theorem rI_run (w : Nat) (n : Str) (rs : List Rn) (S : Ms) : runIts w S (rI n rs) = runRows w S (rs.map (Rn.rw n)) := by
  rw [show rI n rs = (rs.map (Rn.rw n)).map .row by unfold rI; rw [List.map_map]; rfl, runIts_rows]
theorem run_cat (w : Nat) (S : Ms) (a b : List It) : runIts w S (a ++ b) = runIts w (runIts w S a) b := List.foldl_append
theorem run_cons (w : Nat) (S : Ms) (it : It) (its : List It) : runIts w S (it :: its) = runIts w (stepIt w S it) its := rfl
theorem step_turns (w : Nat) (S : Ms) (n : Nat) (rs : List Rw) : stepIt w S (.turns n rs) = iter (turn1 w rs) n S := rfl
theorem div_run (w : Nat) (n : Str) (S : Ms) : runIts w S (divIts w n) = runRows w (iter (turn1 w ((bitN w).map (Rn.rw n))) w (runRows w S (headN.map (Rn.rw n)))) ((tailN w).map (Rn.rw n)) := by
  unfold divIts
  rw [run_cat, rI_run, run_cons, rI_run, step_turns]
theorem div_turns (w : Nat) (n : Str) (S : Ms) : (runIts w S (divIts w n)).cnt "turns" = S.cnt "turns" + w := by
  rw [div_run, turns_rows, turns_iter, turns_rows]
theorem prod_turns (w : Nat) (n : Str) (S : Ms) : (runIts w S (prodIts n)).cnt "turns" = S.cnt "turns" := by
  unfold prodIts
  rw [rI_run, turns_rows]
/-- the registers handed in, by their names -/
def regN (n : Str) (rs : List (Nm × Int)) : List (Str × Int) := rs.map fun p => (nn n p.1, p.2)
def fnN (rs : List (Nm × Int)) : Fn := fun a => (rs.find? fun p => decide (p.1 = a)).map (·.2)
theorem reg_fn (n : Str) : ∀ (rs : List (Nm × Int)) (a : Nm), regOf (regN n rs) (nn n a) = fnN rs a
  | [], a => rfl
  | p :: r, a => by
    unfold regOf regN fnN
    rw [List.map_cons, List.find?_cons, List.find?_cons]
    by_cases e : p.1 = a
    · rw [decide_eq_true (show nn n p.1 = nn n a by rw [e]), decide_eq_true e]
      rfl
    · rw [decide_eq_false (show ¬ nn n p.1 = nn n a from fun z => e (nn_inj z)), decide_eq_false e]
      exact reg_fn n r a
theorem rel0 (n : Str) (rs : List (Nm × Int)) : RelS n ⟨regOf (regN n rs), [], fun _ => 0⟩ (fnN rs, []) := ⟨fun a => reg_fn n rs a, rfl⟩
theorem div_law {w : Nat} (hw : okw w) (n : Str) {d h l : Int} (hh : 0 ≤ h ∧ h < d) (hd : d < B w) (hl : 0 ≤ l ∧ l < B w) {S : Ms} (hS : S = runIts w ⟨regOf (regN n [(.h, h), (.l, l), (.d, d)]), [], fun _ => 0⟩ (divIts w n)) :
    ∃ q r : Int, S.marks = [((4 : Int), ("stop" : Str))] ∧ S.reg (nn n .q) = some q ∧ S.reg (nn n .r) = some r ∧ (0 ≤ r ∧ r < d) ∧ (0 ≤ q ∧ q < B w) ∧ q * d + r = h * B w + l ∧ S.reg (nn n .x) = some l ∧ S.reg (nn n .y) = some h ∧ S.reg (nn n .v) = some 0 ∧
      S.reg (nn n .z) = some ((B w - 1) * (if B w ≤ 2 * l then 1 else 0)) := by
  have R := rel_run (rs := tailN w) (w := w) (rel_iter (rs := bitN w) (m := w) (w := w) (rel_run (rs := headN) (w := w) (rel0 n [(.h, h), (.l, l), (.d, d)])))
  rw [← div_run, ← hS] at R
  obtain ⟨q, r, G, e, g1, g2, g3, g4, g5, g6, g7, g8, g9⟩ := div_rows hw.1 (F := fnN [(.h, h), (.l, l), (.d, d)]) ⟨rfl, rfl, rfl⟩ hh hd hl
  rw [e] at R
  obtain ⟨R1, R2⟩ := R
  exact ⟨q, r, R2, (R1 _).trans g1, (R1 _).trans g2, g3, g4, g5, (R1 _).trans g6, (R1 _).trans g7, (R1 _).trans g8, (R1 _).trans g9⟩
theorem prod_law {w : Nat} (n : Str) {x0 x1 y0 y1 : Int} (h0 : 0 ≤ x0 ∧ x0 < B w) (h1 : 0 ≤ x1 ∧ x1 < B w) (h2 : 0 ≤ y0 ∧ y0 < B w) (h3 : 0 ≤ y1 ∧ y1 < B w) {S : Ms} (hS : S = runIts w ⟨regOf (regN n [(.a0, x0), (.a1, x1), (.b0, y0), (.b1, y1)]), [], fun _ => 0⟩ (prodIts n)) :
    ∃ p0 p1 p2 p3 : Int, S.marks = [] ∧ S.reg (nn n .p0) = some p0 ∧ S.reg (nn n .p1) = some p1 ∧ S.reg (nn n .p2) = some p2 ∧ S.reg (nn n .p3) = some p3 ∧ (0 ≤ p0 ∧ p0 < B w) ∧ (0 ≤ p1 ∧ p1 < B w) ∧ (0 ≤ p2 ∧ p2 < B w) ∧ (0 ≤ p3 ∧ p3 < B w) ∧
      ((p3 * B w + p2) * B w + p1) * B w + p0 = (x1 * B w + x0) * (y1 * B w + y0) := by
  have R := rel_run (rs := prodN) (w := w) (rel0 n [(.a0, x0), (.a1, x1), (.b0, y0), (.b1, y1)])
  rw [← rI_run] at R
  obtain ⟨p0, p1, p2, p3, G, e, g0, g1, g2, g3, g⟩ := prod_rows (F := fnN [(.a0, x0), (.a1, x1), (.b0, y0), (.b1, y1)]) ⟨rfl, rfl, rfl, rfl⟩ h0 h1 h2 h3
  rw [e] at R
  obtain ⟨R1, R2⟩ := R
  subst hS
  exact ⟨p0, p1, p2, p3, R2, (R1 _).trans g0, (R1 _).trans g1, (R1 _).trans g2, (R1 _).trans g3, g⟩
/-- a dict display of names apart -/
theorem merge_names (n : Str) : ∀ {rs : List (Nm × Int)} (acc : List (Nm × Int)), (acc.map (·.1) ++ rs.map (·.1)).Nodup → mergeK (regK (regN n acc)) (regK (regN n rs)) = regK (regN n (acc ++ rs))
  | [], acc, _ => by rw [List.append_nil]; rfl
  | p :: r, acc, h => by
    show mergeK (putK (regK (regN n acc)) (.inr (nn n p.1)) (.int p.2)) (regK (regN n r)) = _
    have hn : valV (regK (regN n acc)) (.inr (nn n p.1)) = none := by
      have q := held_reg (regN n acc) (nn n p.1)
      rw [q, reg_fn]
      unfold fnN
      rw [List.find?_eq_none.mpr]
      · rfl
      · intro x hx z
        have hne := (List.nodup_append.mp h).2.2 x.1 (List.mem_map.mpr ⟨x, hx, rfl⟩) p.1 (by simp)
        exact hne (of_decide_eq_true z)
    rw [putK_new _ hn]
    have e : regK (regN n acc) ++ [(Sum.inr (nn n p.1), V.int p.2)] = regK (regN n (acc ++ [p])) := by
      unfold regK regN
      rw [List.map_append, List.map_append]
      rfl
    rw [e, merge_names n (acc ++ [p]) (by simpa using h), List.append_assoc]
    rfl
theorem regs_good {w : Nat} {n : Str} (hn : n ∈ NMs) {rs : List (Nm × Int)} (hl : rs.length ≤ 60) (h : ∀ p ∈ rs, 0 ≤ p.2 ∧ p.2 < B w) : goodRegs w (regN n rs) := by
  refine ⟨by unfold regN; rw [List.length_map]; exact hl, fun p hp => ?_⟩
  obtain ⟨x, hx, rfl⟩ := List.mem_map.mp hp
  exact ⟨reg_ok hn _, h x hx⟩
/-- items stand behind a draw -/
theorem rows_stp {K : PySem.W.Frag} {t : Addr} {H H' : Hp} (hs : St3 H t) (g : Stp t H H') {l : Addr} {rs : List Rw} (h : RowsAt K H l rs) : RowsAt K H' l rs := by
  obtain ⟨ps, hl, hp⟩ := h
  obtain ⟨a, b, c, ht⟩ := hs
  refine ⟨ps, g.at (fun z => ?_) hl, Paired.mapP hp fun p r ⟨dx, q⟩ => ⟨dx, g.at (fun z => ?_) q⟩⟩
  · rw [z, ht] at hl
    cases ps with
    | nil => cases hl
    | cons x xs => cases hl
  · rw [z, ht] at q
    cases q
theorem its_stp {K : PySem.W.Frag} {t : Addr} {H H' : Hp} (hs : St3 H t) (g : Stp t H H') {l : Addr} {its : List It} (h : ItsAt K H l its) : ItsAt K H' l its := by
  obtain ⟨ps, hl, hp⟩ := h
  have hs' := hs
  obtain ⟨a, b, c, ht⟩ := hs
  refine ⟨ps, g.at (fun z => ?_) hl, Paired.mapP hp fun p it q => ?_⟩
  · rw [z, ht] at hl
    cases ps with
    | nil => cases hl
    | cons x xs => cases hl
  · cases it with
    | row r =>
      obtain ⟨dx, q⟩ := q
      refine ⟨dx, g.at (fun z => ?_) q⟩
      rw [z, ht] at q
      cases q
    | turns n rs =>
      obtain ⟨dx, l', q, hr⟩ := q
      refine ⟨dx, l', g.at (fun z => ?_) q, rows_stp hs' g hr⟩
      rw [z, ht] at q
      cases q
end K76
set_option Elab.async false
set_option linter.all false
set_option maxRecDepth 100000
set_option maxHeartbeats 4000000
set_option pp.maxSteps 1500
namespace K76
open PySem PySem.Spec PyProof.Rows L2
open Evl (Ex)
/-! ## the law's two halves -/
theorem seq_join {A B : TS} {D : Ends} {σ : L2.St} {H : Hp} {C : Addr → Hp → Prop} {f : Addr → L2.St} (h1 : ∀ N : L2.St → Hp → Prop, (∀ l H', C l H' → N (f l) H') → A { D with nx := N } σ H) (h2 : ∀ l H', C l H' → B D (f l) H') : tSeq A B D σ H := h1 (B D) h2
theorem nbI {a b : Int} (e : a = b) : V.bl (!decide (V.int a = V.int b)) = V.bl false := by rw [e, decide_eq_true rfl]; rfl
theorem ebI {a b : Int} (e : a = b) : V.bl (decide (V.int a = V.int b)) = V.bl true := by rw [e, decide_eq_true rfl]
theorem ltB {a b : Int} (e : a < b) : V.bl (decide (a < b)) = V.bl true := by rw [decide_eq_true e]
theorem leB {a b : Int} (e : a ≤ b) : V.bl (decide (a ≤ b)) = V.bl true := by rw [decide_eq_true e]
theorem max_one {d w : Int} (h : d < w) (hw : 2 ≤ w) : 1 ≤ (if d > 1 then d else 1) ∧ (if d > 1 then d else 1) < w := by
  split <;> omega
def spHalf : Sp := fun vs H Q _ => ∃ (t : Addr) (w : Nat) (n : Str), vs = [.ref t, .int w, .str n] ∧ St3 H t ∧ okw w ∧ n ∈ NMs ∧ ∀ H', Stp t H H' → Q (.bl true) H'
section
variable {P : Program} {w : World} {K : PySem.W.Frag} {mg : Str → Option Value} {base : Heap}
theorem ok_law_division (T : Tx K mg) (k_law_word : C8.Cal P w K mg base 2 "_law_word" spWordL []) (k_law_draw : C8.Cal P w K mg base 1 "_law_draw" spDraw []) (k_law_whole : C8.Cal P w K mg base 1 "_law_whole" spWholeL []) (k_law_divided : C8.Cal P w K mg base 4 "_law_divided" (spDivided K) [])
    (k_read_steps : C8.Cal P w K mg base 6 "read_steps" (spRead K) []) (k_steps_text : C8.Cal P w K mg base 5 "steps_text" (spText K) []) (k_run_steps : C8.Cal P w K mg base 8 "run_steps" (spRun K) []) (k_law_counted : C8.Cal P w K mg base 8 "_law_counted" (spCounted K) []) : C8.Cal P w K mg base 9 "_law_division" spHalf [] :=
  cal_mk T.f_law_division T.g__law_division S_law_division B_law_division (fun vs H Q E h => by obtain ⟨t, i, n, rfl, _⟩ := h; rfl) fun cdv A outer s H vs Q E hr h => by
    obtain ⟨t, m, n, rfl, hs, hw, hn, k⟩ := h
    refine ⟨_, (pss_cons (ps_set (i := 3) S_law_division.nd rfl (Or.inl rfl) (pe_op op_shl pe_int (pv 1))) (pss_cons (ps_set (i := 4) S_law_division.nd rfl (Or.inl rfl) (pe_callB (id := "max") (call_max2 rfl) (by rfl) T.z_max (by decide +kernel) (pa_cons pe_int (pa_cons (C8.pe_c (k_law_word) hr (by omega) rfl (pa_cons (pv 0) (pa_cons (pv 1) pa_nil))) pa_nil)))) (pss_cons (ps_set (i := 5) S_law_division.nd rfl (Or.inl rfl) (pe_op op_modN (C8.pe_c (k_law_word) hr (by omega) rfl (pa_cons (pv 0) (pa_cons (pv 1) pa_nil))) (pv 4))) (pss_cons (ps_set (i := 6) S_law_division.nd rfl (Or.inl rfl) (C8.pe_c (k_law_word) hr (by omega) rfl (pa_cons (pv 0) (pa_cons (pv 1) pa_nil)))) (pss_cons (ps_set (i := 7) S_law_division.nd rfl (Or.inl rfl) (C8.pe_c (k_law_divided) hr (by omega) rfl (pa_cons (pv 1) (pa_cons (pv 2) pa_nil)))) (pss_cons (ps_if (pt_cmpR op_eq (C8.pe_c (k_law_draw) hr (by omega) rfl (pa_cons (pv 0) (pa_cons pe_int pa_nil))) pe_int (nomark _)) (pss_one (ps_set (i := 7) S_law_division.nd rfl (Or.inl rfl) (C8.pe_c (k_read_steps) hr (by omega) rfl (pa_cons (C8.pe_c (k_steps_text) hr (by omega) rfl (pa_cons (pv 7) pa_nil)) pa_nil)))) pss_nil) (pss_cons (ps_asg (C8.pe_c (k_run_steps) hr (by omega) rfl (pa_cons (pv 1) (pa_cons (pv 7) (pa_cons (pe_disp (pps_cons (pe_op op_add_str (pv 2) pe_str) (pv 5) (pps_cons (pe_op op_add_str (pv 2) pe_str) (pv 6) (pps_cons (pe_op op_add_str (pv 2) pe_str) (pv 4) pps_nil))) (by rfl) (by rfl) (fun z => by cases z) (by decide)) pa_nil)))) (pg_tup rfl (pgs_cons (pg_name (i := 8) S_law_division.nd rfl (Or.inl rfl)) (pgs_cons (pg_name (i := 9) S_law_division.nd rfl (Or.inl rfl)) (pgs_cons (pg_name (i := 10) S_law_division.nd rfl (Or.inl rfl)) pgs_nil))))) (pss_cons (ps_set (i := 11) S_law_division.nd rfl (Or.inl rfl) (pe_dget (hu_of hr) (pv 8) (pe_op op_add_str (pv 2) pe_str) (fun _ _ => rfl))) (pss_cons (ps_set (i := 12) S_law_division.nd rfl (Or.inl rfl) (pe_dget (hu_of hr) (pv 8) (pe_op op_add_str (pv 2) pe_str) (fun _ _ => rfl))) (pss_cons (ps_if (PW.pt (pw_or (pt_not (pt_val (C8.pe_c (k_law_whole) hr (by omega) rfl (pa_cons (pv 11) pa_nil)))) (pw_or (pt_not (pt_val (C8.pe_c (k_law_whole) hr (by omega) rfl (pa_cons (pv 12) pa_nil)))) (pw_or (pt_not (pt_chain op_le op_lt pe_int (pv 12) (pv 4))) (pw_or1 (pt_not (pt_chain op_le op_lt pe_int (pv 11) (pv 3)))))))) (pss_one (ps_ret pe_bl)) pss_nil) (pss_cons (ps_if (PW.pt (pw_or (pt_cmpR op_ne (pe_op op_add (pe_op op_mul (pv 11) (pv 4)) (pv 12)) (pe_op op_add (pe_op op_mul (pv 5) (pv 3)) (pv 6)) (nomark _)) (pw_or1 (pt_cmpR (op_neD hr.units) (pv 9) (pe_lst (pa_cons (pe_tup (pa_cons pe_int (pa_cons pe_str pa_nil))) pa_nil)) (nomark _))))) (pss_one (ps_ret pe_bl)) pss_nil) (pss_cons (ps_if (PW.pt (pw_or (pt_cmpR op_ne (pe_dget (hu_of hr) (pv 8) (pe_op op_add_str (pv 2) pe_str) (fun _ _ => rfl)) (pv 6) (nomark _)) (pw_or (pt_cmpR op_ne (pe_dget (hu_of hr) (pv 8) (pe_op op_add_str (pv 2) pe_str) (fun _ _ => rfl)) (pv 5) (nomark _)) (pw_or1 (pt_cmpR op_ne (pe_dget (hu_of hr) (pv 8) (pe_op op_add_str (pv 2) pe_str) (fun _ _ => rfl)) pe_int (nomark _)))))) (pss_one (ps_ret pe_bl)) pss_nil) (pss_one (ps_ret (pe_and (pe_cmpR op_eq (pe_dget (hu_of hr) (pv 8) (pe_op op_add_str (pv 2) pe_str) (fun _ _ => rfl)) (pe_op op_mul (pe_op op_sub (pv 3) pe_int) (pe_callTy (T := "int") call_int1 (by rfl) T.z_int (by decide +kernel) (pa_cons (pe_cmpR op_ge (pe_op op_mul pe_int (pv 6)) (pv 3) (nomark _)) pa_nil))) (nomark _)) (pe_one (C8.pe_c (k_law_counted) hr (by omega) rfl (pa_cons (pv 1) (pa_cons (pv 7) (pa_cons (pv 10) (pa_cons (pe_op op_add (pe_op op_mul pe_int (pv 1)) pe_int) pa_nil))))))))))))))))))))), ?_⟩
    have e2 : (1 : Int) * 2 ^ (m : Int).toNat = B m := by rw [Int.one_mul, Int.toNat_natCast]; rfl
    have hB := B_le hw.1
    have hB4 : B 4 = 16 := rfl
    have hB32 := B_le hw.2
    have h32 : B 32 = 4294967296 := rfl
    have hz : ∀ a : Nm, n.length + a.s_.length ≤ sizeLine := fun a => Nat.le_trans (Nat.add_le_add (nm_short hn) (nm_len a)) (by decide)
    refine ⟨_, rfl, _, _, rfl, rfl, ⟨by omega, by have := hw.2; omega, by decide⟩, ?_⟩
    dsimp only
    rw [e2]
    refine ⟨_, rfl, _, rfl, t, m, rfl, hs, hw, fun d0 H1 s1 d00 d01 => ?_⟩
    refine ⟨_, _, rfl, ?_⟩
    obtain ⟨D1, D2⟩ := max_one d01 (show 2 ≤ B m by omega)
    generalize (if d0 > 1 then d0 else 1) = D at D1 D2 ⊢
    refine ⟨_, rfl, _, rfl, t, m, rfl, s1.st, hw, fun h0 H2 s2 h00 h01 => ⟨_, rfl, _, _, rfl, rfl, by omega, ?_⟩⟩
    obtain ⟨V1, V2⟩ := fmod_in (a := h0) D1
    dsimp only
    generalize h0.fmod D = hv at V1 V2 ⊢
    refine ⟨_, rfl, _, rfl, t, m, rfl, s2.st, hw, fun l0 H3 s3 l00 l01 => ?_⟩
    refine ⟨_, rfl, _, rfl, m, n, rfl, nm_short hn, fun l H4 e4 hl => ?_⟩
    have s4 : Stp t H H4 := ((s1.trans s2).trans s3).ex e4
    have gd := div_good hw hn
    have tl : (tksOf (divIts m n)).length ≤ 1000 := by rw [tks_div]; decide
    have tn : tksOf (divIts m n) ≠ [] := fun z => by have := tks_div m n; rw [z] at this; cases this
    dsimp only [gName]
    refine seq_join (C := fun l' H' => Stp t H H' ∧ ItsAt K H' l' (divIts m n)) (f := fun l' => [some (.ref t), some (.int m), some (.str n), some (.int (B m)), some (.int D), some (.int hv), some (.int l0), some (.ref l'), none, none, none, none, none]) (fun N kN => ?_) ?_
    · refine ⟨_, rfl, t, 2, rfl, s4.st, by decide, by decide, fun b H5 s5 b0 b2 => ⟨rfl, _, rfl, ?_⟩⟩
      have hl5 := its_stp s4.st s5 hl
      by_cases hb : b = 1
      · rw [decide_eq_true (show V.int b = V.int 1 by rw [hb])]
        refine iteT ⟨_, rfl, l, divIts m n, rfl, hl5, fun it h => (gd it h).2, tl, fun H6 e6 => ?_⟩
        exact ⟨divIts m n, rfl, tn, fun it h => (gd it h).2, tl, fun l' H7 e7 hl7 => kN l' H7 ⟨(s4.trans s5).ex (e6.trans e7), hl7⟩⟩
      · rw [decide_eq_false (show ¬ V.int b = V.int 1 from fun z => hb (V.int.inj z))]
        exact iteF (kN l H5 ⟨s4.trans s5, hl5⟩)
    rintro l' H5 ⟨s5, hl5⟩
    have hmerge : mergeK [] [(Sum.inr (nn n .h), V.int hv), (Sum.inr (nn n .l), V.int l0), (Sum.inr (nn n .d), V.int D)] = regK (regN n [(.h, hv), (.l, l0), (.d, D)]) := merge_names n (rs := [(.h, hv), (.l, l0), (.d, D)]) [] (by simp)
    have hregs : goodRegs m (regN n [(.h, hv), (.l, l0), (.d, D)]) := regs_good hn (by simp) (by simp only [List.forall_mem_cons, List.not_mem_nil, false_implies, implies_true, and_true]; omega)
    refine ⟨_, rfl, _, rfl, fun p hp => ⟨_, rfl, _, _, rfl, rfl, hz .h, _, rfl, _, rfl, _, _, rfl, rfl, hz .l, _, rfl, _, rfl, _, _, rfl, rfl, hz .d, _, rfl, upd_same, [(.inr (nn n .h), .int hv), (.inr (nn n .l), .int l0), (.inr (nn n .d), .int D)], rfl, Nat.le_of_ble_eq_true rfl, ?_⟩⟩
    rw [hmerge, upd_upd]
    have e6 := Ex.new (o := .dK (regK (regN n [(.h, hv), (.l, l0), (.d, D)]))) hp
    refine ⟨m, l', p, divIts m n, _, rfl, hl5.ex e6, fun it h => (gd it h).1, hw, by rw [many_div]; have := hw.2; omega, by rw [gr_div]; have := hw.2; omega, upd_same, hregs, fun tt hd ml ct H7 htt M => ?_⟩
    generalize hS : runIts m ⟨regOf (regN n [(.h, hv), (.l, l0), (.d, D)]), [], fun _ => 0⟩ (divIts m n) = S at M
    obtain ⟨q, r, lm, lq, lr, r1, q1, leq, lx, ly, lv, lz⟩ := div_law hw n ⟨V1, V2⟩ D2 ⟨l00, l01⟩ hS.symm
    have s7 := (s5.ex e6).ex M.ex
    obtain ⟨kvs, hkv, hheld, _⟩ := M.held
    have gtE : ∀ {H' : Hp} {a : Nm} {v : Int}, Ex H7 H' → S.reg (nn n a) = some v → DGet H' hd (.str (nn n a)) (some (.int v)) := fun {H' a v} e0 e => by
      have g := DGet.k (k := Sum.inr (nn n a)) (e0 _ _ hkv)
      rw [hheld (nn n a), e] at g
      exact g
    have gt : ∀ {a : Nm} {v : Int}, S.reg (nn n a) = some v → DGet H7 hd (.str (nn n a)) (some (.int v)) := fun {a v} e => gtE (Ex.refl _) e
    refine ⟨tt, _, rfl, SqT.of htt, rfl, _, _, rfl, _, _, rfl, _, _, rfl, rfl, ?_⟩
    refine ⟨_, rfl, _, rfl, _, _, rfl, rfl, hz .q, hd, _, rfl, gt lq, ?_⟩
    refine ⟨_, rfl, _, rfl, _, _, rfl, rfl, hz .r, hd, _, rfl, gt lr, ?_⟩
    refine ⟨_, rfl, q, rfl, true, rfl, iteF ?_⟩
    refine ⟨_, rfl, r, rfl, true, rfl, iteF ?_⟩
    refine ⟨_, rfl, _, _, rfl, rfl, true, leB r1.1, iteT ⟨_, rfl, _, _, rfl, rfl, true, ltB r1.2, iteF ?_⟩⟩
    refine ⟨_, rfl, _, _, rfl, rfl, true, leB q1.1, iteT ⟨_, rfl, _, _, rfl, rfl, true, ltB q1.2, iteF ?_⟩⟩
    refine ⟨_, rfl, _, rfl, _, _, rfl, rfl, .inl ⟨by omega, by omega⟩, _, rfl, _, _, rfl, rfl, _, rfl, _, rfl, _, _, rfl, rfl, .inl ⟨by omega, by omega⟩, _, rfl, _, _, rfl, rfl, rfl, false, nbI leq, iteF ?_⟩
    obtain ⟨ms, hml, hmarks, _⟩ := M.marks
    rw [lm] at hmarks
    obtain ⟨tm, rfl, htm⟩ : ∃ tm, ms = [V.ref tm] ∧ H7 tm = some (.tup [.int 4, .str "stop"]) := by
      cases hmarks with
      | cons h r =>
        cases r
        obtain ⟨tm, rfl, e⟩ := h
        exact ⟨tm, rfl, e⟩
    refine ⟨_, rfl, by show 2 ≤ sizeLine; decide, fun tq htq => ⟨by show 1 ≤ sizeLine; decide, fun lq hlq => ?_⟩⟩
    have eq1 := Ex.new (o := .tup [V.int 4, V.str "stop"]) htq
    have eq2 := Ex.new (o := .lst [V.ref tq]) hlq
    have e8 := eq1.trans eq2
    have dd : ∀ {H' : Hp} {a b : Addr}, H' a = some (.lst [V.ref b]) → H' b = some (.tup [V.int 4, V.str "stop"]) → Dp K H' (.ref a) (.list [.tuple [.int 4, .str "stop"]]) := fun {H' a b} ha hb => .lst (SqL.of ha) (.cons (.tup (SqT.of hb) (.cons (.int 4) (.cons (.str "stop") .nil))) .nil)
    refine ⟨_, _, dd (e8 _ _ hml) (e8 _ _ htm), dd upd_same (eq2 _ _ upd_same), by decide +kernel, by decide +kernel, false, ?_, iteF ?_⟩
    · decide +kernel
    refine ⟨_, rfl, _, rfl, _, _, rfl, rfl, hz .x, hd, _, rfl, gtE e8 lx, _, rfl, rfl, false, nbI rfl, iteF ?_⟩
    refine ⟨_, rfl, _, rfl, _, _, rfl, rfl, hz .y, hd, _, rfl, gtE e8 ly, _, rfl, rfl, false, nbI rfl, iteF ?_⟩
    refine ⟨_, rfl, _, rfl, _, _, rfl, rfl, hz .v, hd, _, rfl, gtE e8 lv, rfl, false, nbI rfl, iteF ?_⟩
    refine ⟨_, rfl, _, rfl, _, _, rfl, rfl, hz .z, hd, _, rfl, gtE e8 lz, _, rfl, _, _, rfl, rfl, _, rfl, _, _, rfl, rfl, .inl (by decide), _, rfl, _, _, rfl, rfl, .inr ⟨_, rfl, _, _, rfl, rfl, .inl ⟨by omega, by omega⟩, rfl, true, ?_, iteT ?_⟩⟩
    · refine ebI ?_
      by_cases hc : B m ≤ 2 * l0
      · rw [if_pos hc, if_pos (decide_eq_true hc)]
      · rw [if_neg hc, if_neg (by rw [decide_eq_false hc]; decide)]
    · refine ⟨_, rfl, _, rfl, _, rfl, _, rfl, _, _, rfl, rfl, .inl (by decide), _, _, rfl, rfl, ?_⟩
      refine ⟨m, l', ct, _, divIts m n, S.cnt, rfl, (hl5.ex e6).ex (M.ex.trans e8), fun it h => (gd it h).1, hw, by rw [many_div]; have := hw.2; omega, e8 _ _ M.cnt, many_div m n, ?_, .inr ?_, ?_, fun H9 e9 => k H9 (s7.ex (e8.trans e9))⟩
      · rw [← hS, cnt_sum, many_div]
      · rw [← hS, div_turns]
        show (0 : Int) + m = m
        omega
      · rw [← hS, tot_run]
end
end K76
set_option Elab.async false
set_option linter.all false
set_option maxRecDepth 100000
set_option maxHeartbeats 4000000
set_option pp.maxSteps 1500
namespace K76
open PySem PySem.Spec PyProof.Rows L2
open Evl (Ex)
theorem Stp.mut {t : Addr} {H H' : Hp} (h : Stp t H H') {b : Addr} {o : HO} (n : H b = none) (ne : b ≠ t) : Stp t H (upd H' b o) := by
  obtain ⟨x, y, z, q⟩ := h
  exact ⟨x, y, z, q.mut (by rw [upd_ne ne]; exact n)⟩
theorem four_of {vs : List Int} (h : vs.length = 4) : ∃ a b c d : Int, vs = [a, b, c, d] := match vs, h with | [a, b, c, d], _ => ⟨a, b, c, d, rfl⟩
theorem two_words {w x : Int} {y : Int} (h : 0 ≤ x ∧ x < w) (g : 0 ≤ y ∧ y < w) (hw : w ≤ 4294967296) : -(2 ^ 64) < x * w + y ∧ x * w + y < 2 ^ 64 := by
  have h1 : (x + 1) * w ≤ w * w := Int.mul_le_mul_of_nonneg_right (by omega) (by omega)
  have h2 : w * w ≤ 4294967296 * 4294967296 := Int.mul_le_mul hw hw (by omega) (by decide)
  have h3 : 0 ≤ x * w := Int.mul_nonneg h.1 (by omega)
  have h4 : (x + 1) * w = x * w + w := by rw [Int.add_mul, Int.one_mul]
  have h5 : (4294967296 : Int) * 4294967296 = 2 ^ 64 := by decide
  omega
section
variable {P : Program} {w : World} {K : PySem.W.Frag} {mg : Str → Option Value} {base : Heap}
theorem ok_law_multiplied (T : Tx K mg) (k_law_word : C8.Cal P w K mg base 2 "_law_word" spWordL []) (k_law_whole : C8.Cal P w K mg base 1 "_law_whole" spWholeL []) (k_law_product : C8.Cal P w K mg base 3 "_law_product" (spProduct K) [])
    (k_run_steps : C8.Cal P w K mg base 8 "run_steps" (spRun K) []) (k_law_counted : C8.Cal P w K mg base 8 "_law_counted" (spCounted K) []) : C8.Cal P w K mg base 9 "_law_multiplied" spHalf [] :=
  cal_mk T.f_law_multiplied T.g__law_multiplied S_law_multiplied B_law_multiplied (fun vs H Q E h => by obtain ⟨t, i, n, rfl, _⟩ := h; rfl) fun cdv A outer s H vs Q E hr h => by
    obtain ⟨t, m, n, rfl, hs, hw, hn, k⟩ := h
    refine ⟨_, (pss_cons (ps_set (i := 3) S_law_multiplied.nd rfl (Or.inr rfl) (pe_op op_shl pe_int (pv 1))) (pss_cons (ps_setLc (i := 4) (own := [("_law_k", 5)]) (g := gName 5) (tt := tYes) rfl S_law_multiplied.nd rfl rfl (sw_true rfl rfl rfl (by decide +kernel)) (pi_range1 rfl T.z_range (pa_cons pe_int pa_nil)) (blkOk_by (N := ["_law_state", "_law_width", "_law_n", "_law_size", "_law_words", "_law_k", "_law_steps", "_law_held", "_law_behind", "_law_marks", "_law_counts", "_law_told", "_law_word_here", "_law_found", "_law_due"]) (sc := C8.fnScope s_law_multiplied) (by decide +kernel)) (fun _ _ _ _ _ => pg_name (i := 5) S_law_multiplied.nd rfl (Or.inl rfl)) (fun _ _ _ _ _ => pts_nil) (fun _ _ _ _ _ => (C8.pe_c (k_law_word) hr (by omega) rfl (pa_cons (pv 0) (pa_cons (pv 1) pa_nil))))) (pss_cons (ps_set (i := 6) S_law_multiplied.nd rfl (Or.inl rfl) (C8.pe_c (k_law_product) hr (by omega) rfl (pa_cons (pv 2) pa_nil))) (pss_cons (ps_set (i := 7) S_law_multiplied.nd rfl (Or.inl rfl) (pe_disp (pps_cons (pe_op op_add_str (pv 2) pe_str) (pe_ix ix_list (pv 4) pe_int (fun _ _ => rfl)) (pps_cons (pe_op op_add_str (pv 2) pe_str) (pe_ix ix_list (pv 4) pe_int (fun _ _ => rfl)) (pps_cons (pe_op op_add_str (pv 2) pe_str) (pe_ix ix_list (pv 4) pe_int (fun _ _ => rfl)) (pps_cons (pe_op op_add_str (pv 2) pe_str) (pe_ix ix_list (pv 4) pe_int (fun _ _ => rfl)) pps_nil)))) (by rfl) (by rfl) (fun z => by cases z) (by decide))) (pss_cons (ps_asg (C8.pe_c (k_run_steps) hr (by omega) rfl (pa_cons (pv 1) (pa_cons (pv 6) (pa_cons (pv 7) pa_nil)))) (pg_tup rfl (pgs_cons (pg_name (i := 8) S_law_multiplied.nd rfl (Or.inl rfl)) (pgs_cons (pg_name (i := 9) S_law_multiplied.nd rfl (Or.inl rfl)) (pgs_cons (pg_name (i := 10) S_law_multiplied.nd rfl (Or.inl rfl)) pgs_nil))))) (pss_cons (ps_set (i := 11) S_law_multiplied.nd rfl (Or.inl rfl) (pe_lst (pa_cons (pe_dget (hu_of hr) (pv 8) (pe_op op_add_str (pv 2) pe_str) (fun _ _ => rfl)) (pa_cons (pe_dget (hu_of hr) (pv 8) (pe_op op_add_str (pv 2) pe_str) (fun _ _ => rfl)) (pa_cons (pe_dget (hu_of hr) (pv 8) (pe_op op_add_str (pv 2) pe_str) (fun _ _ => rfl)) (pa_cons (pe_dget (hu_of hr) (pv 8) (pe_op op_add_str (pv 2) pe_str) (fun _ _ => rfl)) pa_nil)))))) (pss_cons (ps_if (PW.pt (pw_or (pt_not (pt_val (pe_callB (id := "all") (cr_all rfl) (by rfl) T.z_all (by decide +kernel) (pa_cons (pe_lc (own := [("_law_word_here", 12)]) (g := gName 12) (tt := tYes) rfl S_law_multiplied.nd (pi_list (pv 11)) (blkOk_by (N := ["_law_state", "_law_width", "_law_n", "_law_size", "_law_words", "_law_k", "_law_steps", "_law_held", "_law_behind", "_law_marks", "_law_counts", "_law_told", "_law_word_here", "_law_found", "_law_due"]) (sc := C8.fnScope s_law_multiplied) (by decide +kernel)) (fun _ _ _ _ _ => pg_name (i := 12) S_law_multiplied.nd rfl (Or.inl rfl)) (fun _ _ _ _ _ => pts_nil) (fun _ _ _ _ _ => (pe_and (C8.pe_c (k_law_whole) hr (by omega) rfl (pa_cons (pv 12) pa_nil)) (pe_one (pe_chain op_le op_lt pe_int (pv 12) (pv 3)))))) pa_nil)))) (pw_or1 (pt_cmpR (op_neD hr.units) (pv 9) (pe_lst pa_nil) (nomark _))))) (pss_one (ps_ret pe_bl)) pss_nil) (pss_cons (ps_set (i := 13) S_law_multiplied.nd rfl (Or.inl rfl) pe_int) (pss_cons (ps_for PassesOwn.never rfl (pi_list (pe_revL (pv 11))) (pg_name (i := 12) S_law_multiplied.nd rfl (Or.inl rfl)) (pss_one (ps_set (i := 13) S_law_multiplied.nd rfl (Or.inl rfl) (pe_op op_add (pe_op op_mul (pv 13) (pv 3)) (pv 12))))) (pss_cons (ps_set (i := 14) S_law_multiplied.nd rfl (Or.inl rfl) (pe_op op_mul (pe_op op_add (pe_op op_mul (pe_ix ix_list (pv 4) pe_int (fun _ _ => rfl)) (pv 3)) (pe_ix ix_list (pv 4) pe_int (fun _ _ => rfl))) (pe_op op_add (pe_op op_mul (pe_ix ix_list (pv 4) pe_int (fun _ _ => rfl)) (pv 3)) (pe_ix ix_list (pv 4) pe_int (fun _ _ => rfl))))) (pss_one (ps_ret (pe_and (pe_cmpR op_eq (pv 13) (pv 14) (nomark _)) (pe_one (C8.pe_c (k_law_counted) hr (by omega) rfl (pa_cons (pv 1) (pa_cons (pv 6) (pa_cons (pv 10) (pa_cons pe_int pa_nil))))))))))))))))))), ?_⟩
    have e2 : (1 : Int) * 2 ^ (m : Int).toNat = B m := by rw [Int.one_mul, Int.toNat_natCast]; rfl
    have hB := B_le hw.1
    have hB4 : B 4 = 16 := rfl
    have hB32 := B_le hw.2
    have h32 : B 32 = 4294967296 := rfl
    have hz : ∀ a : Nm, n.length + a.s_.length ≤ sizeLine := fun a => Nat.le_trans (Nat.add_le_add (nm_short hn) (nm_len a)) (by decide)
    refine ⟨_, rfl, _, _, rfl, rfl, ⟨by omega, by have := hw.2; omega, by decide⟩, ?_⟩
    dsimp only
    rw [e2]
    refine ⟨4, rfl, by decide, by decide, fun wl hwl => ?_⟩
    have nwt : wl ≠ t := fun z => by
      obtain ⟨a, b, c, q⟩ := hs
      rw [z, q] at hwl
      cases hwl
    refine lc_it walk_range (fun j H' => ∃ vs : List Int, vs.length = j ∧ (∀ v ∈ vs, 0 ≤ v ∧ v < B m) ∧ H' wl = some (.lst (vs.map V.int)) ∧ Stp t H H')
      ⟨[], rfl, (fun v hv => by cases hv), upd_same, Stp.of_ex hs (Ex.new hwl)⟩ (fun _ _ _ _ => True.intro) ?_ ?_
    · rintro j x H1 _ hj ⟨vs, hlen, hvs, hw1, s1⟩ ⟨rfl, rfl⟩
      refine ⟨rfl, ?_⟩
      unfold tYes
      dsimp only
      first | rw [if_pos rfl] | skip
      refine ⟨_, rfl, _, rfl, t, m, rfl, s1.st, hw, fun v H2 s2 v0 v1 => ?_⟩
      have hj4 : j < 4 := hj
      refine ⟨_, s2.at nwt hw1, by rw [List.length_map, hlen]; exact Nat.lt_trans hj4 (by decide), vs ++ [v], by rw [List.length_append, hlen]; rfl, ?_, by rw [upd_same, List.map_append]; rfl, (s1.trans s2).mut hwl nwt⟩
      intro u hu
      rcases List.mem_append.mp hu with h | h
      · exact hvs u h
      · rw [List.mem_singleton.mp h]
        exact ⟨v0, v1⟩
    rintro H1 ⟨vs, hlen, hvs, hw1, s1⟩
    obtain ⟨x0, x1, y0, y1, rfl⟩ := four_of (vs := vs) hlen
    have X0 := hvs x0 (by simp)
    have X1 := hvs x1 (by simp)
    have Y0 := hvs y0 (by simp)
    have Y1 := hvs y1 (by simp)
    refine ⟨_, rfl, n, rfl, nm_short hn, fun l H2 e2' hl => ?_⟩
    refine fun p hp => ?_
    have hw2 : (upd H2 p (.dK [])) wl = some (.lst [.int x0, .int x1, .int y0, .int y1]) := (Ex.new hp) _ _ (e2' _ _ hw1)
    have hmerge : mergeK [] [(Sum.inr (nn n .a0), V.int x0), (Sum.inr (nn n .a1), V.int x1), (Sum.inr (nn n .b0), V.int y0), (Sum.inr (nn n .b1), V.int y1)] = regK (regN n [(.a0, x0), (.a1, x1), (.b0, y0), (.b1, y1)]) := merge_names n (rs := [(.a0, x0), (.a1, x1), (.b0, y0), (.b1, y1)]) [] (by simp)
    have hregs : goodRegs m (regN n [(.a0, x0), (.a1, x1), (.b0, y0), (.b1, y1)]) := regs_good hn (by simp) (by simp only [List.forall_mem_cons, List.not_mem_nil, false_implies, implies_true, and_true]; omega)
    refine ⟨_, rfl, _, _, rfl, rfl, hz .a0, _, rfl, wl, _, _, _, rfl, rfl, SqL.of hw2, rfl, ?_⟩
    refine ⟨_, rfl, _, _, rfl, rfl, hz .a1, _, rfl, wl, _, _, _, rfl, rfl, SqL.of hw2, rfl, ?_⟩
    refine ⟨_, rfl, _, _, rfl, rfl, hz .b0, _, rfl, wl, _, _, _, rfl, rfl, SqL.of hw2, rfl, ?_⟩
    refine ⟨_, rfl, _, _, rfl, rfl, hz .b1, _, rfl, wl, _, _, _, rfl, rfl, SqL.of hw2, rfl, ?_⟩
    refine ⟨upd_same, [(.inr (nn n .a0), .int x0), (.inr (nn n .a1), .int x1), (.inr (nn n .b0), .int y0), (.inr (nn n .b1), .int y1)], rfl, Nat.le_of_ble_eq_true rfl, ?_⟩
    rw [hmerge, upd_upd]
    have e3 := Ex.new (o := .dK (regK (regN n [(.a0, x0), (.a1, x1), (.b0, y0), (.b1, y1)]))) hp
    refine ⟨_, rfl, _, rfl, _, rfl, m, l, p, prodIts n, _, rfl, hl.ex e3, prod_good hw hn, hw, by rw [many_prod]; decide, by rw [gr_prod]; decide, upd_same, hregs, fun tt hd ml ct H7 htt M => ?_⟩
    generalize hS : runIts m ⟨regOf (regN n [(.a0, x0), (.a1, x1), (.b0, y0), (.b1, y1)]), [], fun _ => 0⟩ (prodIts n) = S at M
    obtain ⟨p0, p1, p2, p3, lm, l0, l1, l2, l3, P0, P1, P2, P3, leq⟩ := prod_law n X0 X1 Y0 Y1 hS.symm
    have e7 := (e2'.trans e3).trans M.ex
    have s7 := s1.ex e7
    obtain ⟨kvs, hkv, hheld, _⟩ := M.held
    have gt : ∀ {a : Nm} {v : Int}, S.reg (nn n a) = some v → DGet H7 hd (.str (nn n a)) (some (.int v)) := fun {a v} e => by
      have g := DGet.k (k := Sum.inr (nn n a)) hkv
      rw [hheld (nn n a), e] at g
      exact g
    refine ⟨tt, _, rfl, SqT.of htt, rfl, _, _, rfl, _, _, rfl, _, _, rfl, rfl, ?_⟩
    refine ⟨_, rfl, _, rfl, _, _, rfl, rfl, hz .p0, hd, _, rfl, gt l0, ?_⟩
    refine ⟨_, rfl, _, rfl, _, _, rfl, rfl, hz .p1, hd, _, rfl, gt l1, ?_⟩
    refine ⟨_, rfl, _, rfl, _, _, rfl, rfl, hz .p2, hd, _, rfl, gt l2, ?_⟩
    refine ⟨_, rfl, _, rfl, _, _, rfl, rfl, hz .p3, hd, _, rfl, gt l3, ?_⟩
    refine ⟨by show 4 ≤ sizeLine; decide, fun lt hlt => ?_⟩
    have e8 := Ex.new (o := .lst [V.int p0, V.int p1, V.int p2, V.int p3]) hlt
    have hlt8 : (upd H7 lt (.lst [V.int p0, V.int p1, V.int p2, V.int p3])) lt = some (.lst [V.int p0, V.int p1, V.int p2, V.int p3]) := upd_same
    dsimp only
    generalize upd H7 lt (.lst [V.int p0, V.int p1, V.int p2, V.int p3]) = H8 at e8 hlt8 ⊢
    have hall : ∀ v ∈ [p0, p1, p2, p3], 0 ≤ v ∧ v < B m := by
      simp only [List.forall_mem_cons, List.not_mem_nil, false_implies, implies_true, and_true]
      exact ⟨P0, P1, P2, P3⟩
    refine ⟨_, rfl, lt, rfl, ⟨_, SqL.of hlt8⟩, fun bl hbl => ?_⟩
    refine lc_it (walk_list (xs := [V.int p0, V.int p1, V.int p2, V.int p3])) (fun j H' => Ex H8 H' ∧ H' bl = some (.lst ((List.replicate j true).map V.bl)))
      ⟨Ex.new hbl, upd_same⟩ (fun _ _ _ z => SqL.of (z.1 _ _ hlt8)) ?_ ?_
    · rintro j x H9 _ hj ⟨e9, hb9⟩ ⟨rfl, hx⟩
      obtain ⟨v, hv, rfl⟩ : ∃ v : Int, [p0, p1, p2, p3][j]? = some v ∧ x = V.int v := by
        have hx' : ([p0, p1, p2, p3].map V.int)[j]? = some x := hx
        rw [List.getElem?_map] at hx'
        obtain ⟨v, hv, e⟩ := Option.map_eq_some_iff.mp hx'
        exact ⟨v, hv, e.symm⟩
      have hv2 := hall v (List.mem_of_getElem? hv)
      have hj4 : j < 4 := hj
      refine ⟨rfl, ?_⟩
      unfold tYes
      dsimp only
      first | rw [if_pos rfl] | skip
      refine ⟨_, rfl, v, rfl, true, rfl, iteT ⟨_, rfl, _, _, rfl, rfl, true, leB hv2.1, iteT ⟨_, rfl, _, _, rfl, rfl, ?_⟩⟩⟩
      refine ⟨_, hb9, by rw [List.length_map, List.length_replicate]; exact Nat.lt_trans hj4 (by decide), Ex.mut e9 hbl, ?_⟩
      dsimp only
      rw [upd_same, ltB hv2.2, List.replicate_succ', List.map_append]
      rfl
    rintro H9 ⟨e9, hb9⟩
    refine ⟨bl, [true, true, true, true], rfl, SqL.of hb9, true, rfl, iteF ?_⟩
    obtain ⟨ms, hml, hmarks, _⟩ := M.marks
    rw [lm] at hmarks
    obtain rfl : ms = [] := by cases hmarks; rfl
    refine ⟨_, rfl, Nat.zero_le _, fun lq hlq => ?_⟩
    have e10 := Ex.new (o := .lst []) hlq
    have dd : ∀ {H' : Hp} {a : Addr}, H' a = some (.lst []) → Dp K H' (.ref a) (.list []) := fun {H' a} ha => .lst (SqL.of ha) .nil
    refine ⟨_, _, dd (e10 _ _ (e9 _ _ (e8 _ _ hml))), dd upd_same, by decide +kernel, by decide +kernel, false, ?_, iteF ?_⟩
    · decide +kernel
    refine ⟨_, rfl, lt, _, rfl, SqL.of (e10 _ _ (e9 _ _ hlt8)), fun rv hrv => ?_⟩
    have e11 := Ex.new (o := .lst [V.int p3, V.int p2, V.int p1, V.int p0]) hrv
    have e811 := (e8.trans e9).trans (e10.trans e11)
    refine ⟨rv, rfl, ⟨_, SqL.of upd_same⟩, for_list (K := K) (a := rv) (xs := [V.int p3, V.int p2, V.int p1, V.int p0]) (fun j σ H' => ∃ v12, σ = [some (.ref t), some (.int m), some (.str n), some (.int (B m)), some (.ref wl), none, some (.ref l), some (.ref p), some (.ref hd), some (.ref ml), some (.ref ct), some (.ref lt), v12, some (.int (([p3, p2, p1, p0].take j).foldl (fun a v => a * B m + v) 0)), none] ∧ Ex H7 H' ∧ H' rv = some (.lst [V.int p3, V.int p2, V.int p1, V.int p0]))
      ⟨none, rfl, e811, upd_same⟩ (fun j σ H' _ ⟨_, _, _, e⟩ => SqL.of e) ?_ ?_⟩
    · rintro j x σ H' hj ⟨v12, rfl, e, hrl⟩
      obtain ⟨v, hv, rfl⟩ : ∃ v : Int, [p3, p2, p1, p0][j]? = some v ∧ x = V.int v := by
        have hx' : ([p3, p2, p1, p0].map V.int)[j]? = some x := hj
        rw [List.getElem?_map] at hx'
        obtain ⟨v, hv, e⟩ := Option.map_eq_some_iff.mp hx'
        exact ⟨v, hv, e.symm⟩
      refine ⟨_, rfl, _, rfl, _, _, rfl, rfl, .inr ⟨by omega, by omega⟩, _, rfl, _, _, rfl, rfl, ?_⟩
      refine ⟨_, congrArg (fun z => [some (V.ref t), some (V.int m), some (V.str n), some (V.int (B m)), some (V.ref wl), none, some (V.ref l), some (V.ref p), some (V.ref hd), some (V.ref ml), some (V.ref ct), some (V.ref lt), some (V.int v), some (V.int z), none]) ?_, e, hrl⟩
      have hj2 := (List.getElem?_eq_some_iff.mp hv).1
      rw [← List.take_append_getElem hj2, List.foldl_append, (List.getElem?_eq_some_iff.mp hv).2]
      rfl
    · rintro σ H' ⟨v12, rfl, e, hrl⟩
      have hwH := e _ _ (M.ex _ _ (e3 _ _ (e2' _ _ hw1)))
      refine ⟨_, rfl, wl, _, _, _, rfl, rfl, SqL.of hwH, rfl, _, rfl, _, _, rfl, rfl, .inl ⟨by omega, by omega⟩, _, rfl, wl, _, _, _, rfl, rfl, SqL.of hwH, rfl, _, _, rfl, rfl, ?_⟩
      refine ⟨_, rfl, wl, _, _, _, rfl, rfl, SqL.of hwH, rfl, _, rfl, _, _, rfl, rfl, .inl ⟨by omega, by omega⟩, _, rfl, wl, _, _, _, rfl, rfl, SqL.of hwH, rfl, _, _, rfl, rfl, ?_⟩
      refine ⟨_, _, rfl, rfl, .inl (two_words X1 X0 (by omega)), ?_⟩
      refine ⟨_, rfl, _, rfl, rfl, true, ebI ?_, iteT ?_⟩
      · show (((0 * B m + p3) * B m + p2) * B m + p1) * B m + p0 = (x1 * B m + x0) * (y1 * B m + y0)
        rw [Int.zero_mul, Int.zero_add]
        exact leq
      · refine ⟨_, rfl, _, rfl, _, rfl, m, l, ct, 23, prodIts n, S.cnt, rfl, (hl.ex e3).ex (M.ex.trans e), prod_good hw hn, hw, by rw [many_prod]; decide, e _ _ M.cnt, many_prod n, ?_, .inl ?_, ?_, fun H9 e9 => k H9 (s7.ex (e.trans e9))⟩
        · rw [← hS, cnt_sum, many_prod]
        · rw [← hS, prod_turns]
        · rw [← hS, tot_run]
end
end K76
set_option Elab.async false
set_option linter.all false
set_option maxRecDepth 100000
set_option maxHeartbeats 4000000
set_option pp.maxSteps 1500
namespace K76
open PySem PySem.Spec PyProof.Rows L2
open Evl (Ex)
/-! ## the law -/
section
variable {P : Program} {w : World} {K : PySem.W.Frag} {mg : Str → Option Value} {base : Heap}
theorem many_cells {n : Nat} {N : Int} (h : N = if (if (n : Int) < 6 then (n : Int) else 6) > 1 then (if (n : Int) < 6 then (n : Int) else 6) else 1) : 1 ≤ N ∧ N ≤ 6 ∧ (N ≤ n ∨ n = 0) := by
  subst h
  split <;> split <;> omega
theorem body_law (T : Tx K mg) (k_law_cell : C8.Cal P w K mg base 1 "_law_cell" (spCell K) []) (k_law_begun : C8.Cal P w K mg base 1 "_law_begun" spBegun []) (k_law_draw : C8.Cal P w K mg base 1 "_law_draw" spDraw []) (k_law_division : C8.Cal P w K mg base 9 "_law_division" spHalf []) (k_law_multiplied : C8.Cal P w K mg base 9 "_law_multiplied" spHalf []) :
    BodyOk P w K mg base ["_law_script", "_law_k", "_law_state", "_law_width", "_law_name"] "law" s_law 9 (He.ga K "law") (spLaw K) := fun cdv A outer s H vs Q E hr h => by
    obtain ⟨a, xs, rfl, ha, k⟩ := h
    refine ⟨_, (pss_cons (ps_for PassesOwn.never rfl (pi_range1 rfl T.z_range (pa_cons (pe_callB (id := "max") (call_max2 rfl) (by rfl) T.z_max (by decide +kernel) (pa_cons pe_int (pa_cons (pe_callB (id := "min") (call_min2 rfl) (by rfl) T.z_min (by decide +kernel) (pa_cons pe_int (pa_cons (pe_callB (id := "len") call_len_seq (by rfl) T.z_len (by decide +kernel) (pa_cons (pv 0) pa_nil)) pa_nil))) pa_nil))) pa_nil)) (pg_name (i := 1) S_law.nd rfl (Or.inl rfl)) (pss_cons (ps_set (i := 2) S_law.nd rfl (Or.inl rfl) (C8.pe_c (k_law_begun) hr (by omega) rfl (pa_cons (C8.pe_c (k_law_cell) hr (by omega) rfl (pa_cons (pv 0) (pa_cons (pv 1) pa_nil))) pa_nil))) (pss_cons (ps_set (i := 3) S_law.nd rfl (Or.inl rfl) (pe_op op_add pe_int (C8.pe_c (k_law_draw) hr (by omega) rfl (pa_cons (pv 2) (pa_cons pe_int pa_nil))))) (pss_cons (ps_set (i := 4) S_law.nd rfl (Or.inl rfl) (pe_ix ix_list (pe_lst (pa_cons pe_str (pa_cons pe_str (pa_cons pe_str (pa_cons pe_str (pa_cons pe_str pa_nil)))))) (C8.pe_c (k_law_draw) hr (by omega) rfl (pa_cons (pv 2) (pa_cons pe_int pa_nil))) (fun _ _ => rfl))) (pss_one (ps_if (PW.pt (pw_or (pt_not (pt_val (C8.pe_c (k_law_division) hr (by omega) rfl (pa_cons (pv 2) (pa_cons (pv 3) (pa_cons (pv 4) pa_nil)))))) (pw_or1 (pt_not (pt_val (C8.pe_c (k_law_multiplied) hr (by omega) rfl (pa_cons (pv 2) (pa_cons (pv 3) (pa_cons (pv 4) pa_nil))))))))) (pss_one (ps_ret pe_bl)) pss_nil)))))) (pss_one (ps_ret pe_bl))), ?_⟩
    refine ⟨_, rfl, a, _, rfl, .inl ha, _, _, rfl, _, _, rfl, _, rfl, ?_⟩
    rw [List.length_map]
    obtain ⟨N, hN⟩ : ∃ N : Int, N = if (if (xs.length : Int) < 6 then (xs.length : Int) else 6) > 1 then (if (xs.length : Int) < 6 then (xs.length : Int) else 6) else 1 := ⟨_, rfl⟩
    obtain ⟨n1, n2, n3⟩ := many_cells hN
    rw [← hN]
    refine ⟨by omega, by omega, for_it (walk_range (lo := 0) (n := N.toNat)) (fun j σ H' => ∃ v1 v2 v3 v4, σ = [some (.ref a), v1, v2, v3, v4] ∧ Ex H H') ⟨none, none, none, none, rfl, Ex.refl H⟩ (fun _ _ _ _ _ => True.intro) ?_ ?_⟩
    · rintro j x σ H0 H1 hj ⟨v1, v2, v3, v4, rfl, e⟩ ⟨rfl, rfl⟩
      have z0 : (0 : Int) + (j : Nat) = (j : Nat) := by omega
      dsimp only
      rw [z0]
      refine ⟨_, rfl, _, rfl, a, xs, j, rfl, Evl.ex_l e ha, ?_, by omega, fun v => ?_⟩
      · rcases n3 with h | h
        · exact .inl (by omega)
        · exact .inr (List.length_eq_zero_iff.mp h)
      refine ⟨v, rfl, fun a0 c0 t ht => ?_⟩
      have s0 : St3 (upd H1 t (.lst [.int a0, .int 0, .int c0])) t := ⟨_, _, _, upd_same⟩
      have e0 := Ex.new (o := .lst [V.int a0, V.int 0, V.int c0]) ht
      refine ⟨_, rfl, t, 29, rfl, s0, by decide, by decide, fun y H2 s2 y0 y1 => ⟨_, _, rfl, rfl, ?_⟩⟩
      obtain ⟨m, hm⟩ : ∃ m : Nat, 4 + y = (m : Int) := ⟨(4 + y).toNat, by omega⟩
      dsimp only
      rw [hm]
      have hw : okw m := ⟨by omega, by omega⟩
      refine ⟨by show 5 ≤ sizeLine; decide, fun p hp => ?_⟩
      have e2 := Ex.new (o := .lst [V.str "", V.str "a", V.str "zz", V.str "t1", V.str "q"]) hp
      have s2' := s2.ex e2
      have npt : p ≠ t := fun z => by
        obtain ⟨q1, q2, q3, q⟩ := s2.st
        rw [z, q] at hp
        cases hp
      refine ⟨_, rfl, t, 5, rfl, s2'.st, by decide, by decide, fun z H3 s3 z0 z1 => ?_⟩
      obtain ⟨i, rfl⟩ : ∃ i : Nat, z = (i : Int) := ⟨z.toNat, by omega⟩
      have hi : i < NMs.length := by show i < 5; omega
      have hat : atI (NMs.map V.str) (i : Int) = some (V.str NMs[i]) := atI_nat (by rw [List.getElem?_map, List.getElem?_eq_getElem hi]; rfl)
      have hn : NMs[i] ∈ NMs := List.getElem_mem hi
      refine ⟨p, NMs.map V.str, (i : Int), V.str NMs[i], rfl, rfl, SqL.of (s3.at npt upd_same), hat, ?_⟩
      generalize NMs[i] = n at hn ⊢
      have s23 := s2'.trans s3
      refine ⟨_, rfl, _, rfl, _, rfl, t, m, n, rfl, s3.st, hw, hn, fun H4 s4 => ⟨true, rfl, iteF ?_⟩⟩
      refine ⟨_, rfl, _, rfl, _, rfl, t, m, n, rfl, s4.st, hw, hn, fun H5 s5 => ⟨true, rfl, iteF ?_⟩⟩
      exact ⟨_, _, _, _, rfl, e.trans (Stp.old e0 ht ((s23.trans s4).trans s5))⟩
    · rintro σ H' ⟨v1, v2, v3, v4, rfl, e⟩
      exact k H'
theorem body_all (T : Tx K mg) : BodyOk P w K mg base ["_law_script", "_law_k", "_law_state", "_law_width", "_law_name"] "law" s_law 9 (He.ga K "law") (spLaw K) := by
  have k_is_whole := ok_is_whole (P := P) (w := w) (base := base) T 
  have k_need_width := ok_need_width (P := P) (w := w) (base := base) T k_is_whole
  have k_cut := ok_cut (P := P) (w := w) (base := base) T 
  have k_sum_of := ok_sum_of (P := P) (w := w) (base := base) T k_need_width k_cut
  have k_gap_of := ok_gap_of (P := P) (w := w) (base := base) T k_need_width k_cut
  have k_low_product := ok_low_product (P := P) (w := w) (base := base) T k_need_width k_cut
  have k_high_product := ok_high_product (P := P) (w := w) (base := base) T k_need_width
  have k_left := ok_left (P := P) (w := w) (base := base) T k_need_width k_cut
  have k_right := ok_right (P := P) (w := w) (base := base) T k_need_width
  have k_slide := ok_slide (P := P) (w := w) (base := base) T k_need_width k_cut
  have k_within := ok_within (P := P) (w := w) (base := base) T k_is_whole
  have k_row_words := ok_row_words (P := P) (w := w) (base := base) T 
  have k_is_register := ok_is_register (P := P) (w := w) (base := base) T 
  have k_Set_init := ok_Set_init' (P := P) (w := w) (base := base) T
  have k_Copy_init := ok_Copy_init' (P := P) (w := w) (base := base) T
  have k_Low_init := ok_Low_init' (P := P) (w := w) (base := base) T
  have k_High_init := ok_High_init' (P := P) (w := w) (base := base) T
  have k_Or_init := ok_Or_init' (P := P) (w := w) (base := base) T
  have k_Unlike_init := ok_Unlike_init' (P := P) (w := w) (base := base) T
  have k_Under_init := ok_Under_init' (P := P) (w := w) (base := base) T
  have k_Sum_init := ok_Sum_init' (P := P) (w := w) (base := base) T
  have k_Gap_init := ok_Gap_init' (P := P) (w := w) (base := base) T
  have k_Left_init := ok_Left_init' (P := P) (w := w) (base := base) T
  have k_Right_init := ok_Right_init' (P := P) (w := w) (base := base) T
  have k_Slide_init := ok_Slide_init' (P := P) (w := w) (base := base) T
  have k_Pick_init := ok_Pick_init' (P := P) (w := w) (base := base) T
  have k_Mark_init := ok_Mark_init' (P := P) (w := w) (base := base) T
  have k_Turns_init := ok_Turns_init (P := P) (w := w) (base := base) T 
  have w_Set := ok_Set_word (P := P) (w := w) (base := base) T
  have w_Copy := ok_Copy_word (P := P) (w := w) (base := base) T
  have w_Low := ok_Low_word (P := P) (w := w) (base := base) T
  have w_High := ok_High_word (P := P) (w := w) (base := base) T
  have w_Or := ok_Or_word (P := P) (w := w) (base := base) T
  have w_Unlike := ok_Unlike_word (P := P) (w := w) (base := base) T
  have w_Under := ok_Under_word (P := P) (w := w) (base := base) T
  have w_Sum := ok_Sum_word (P := P) (w := w) (base := base) T
  have w_Gap := ok_Gap_word (P := P) (w := w) (base := base) T
  have w_Left := ok_Left_word (P := P) (w := w) (base := base) T
  have w_Right := ok_Right_word (P := P) (w := w) (base := base) T
  have w_Slide := ok_Slide_word (P := P) (w := w) (base := base) T
  have w_Pick := ok_Pick_word (P := P) (w := w) (base := base) T
  have w_Mark := ok_Mark_word (P := P) (w := w) (base := base) T
  have v_Low := ok_Low_worth (P := P) (w := w) (base := base) T k_low_product
  have v_High := ok_High_worth (P := P) (w := w) (base := base) T k_high_product
  have v_Or := ok_Or_worth (P := P) (w := w) (base := base) T 
  have v_Unlike := ok_Unlike_worth (P := P) (w := w) (base := base) T 
  have v_Under := ok_Under_worth (P := P) (w := w) (base := base) T 
  have v_Sum := ok_Sum_both (P := P) (w := w) (base := base) T k_sum_of
  have v_Gap := ok_Gap_both (P := P) (w := w) (base := base) T k_gap_of
  have v_Left := ok_Left_moved (P := P) (w := w) (base := base) T k_left
  have v_Right := ok_Right_moved (P := P) (w := w) (base := base) T k_right
  have v_Slide := ok_Slide_moved (P := P) (w := w) (base := base) T k_slide
  have k_any_word : ∀ k : NT, C8.Met P w K mg base 1 (kC K k.1) "word" (spWord k.1) [] := by
    rintro ⟨k, hk⟩
    match k, hk with
    | .set, _ => exact w_Set
    | .copy, _ => exact w_Copy
    | .pair .low, _ => exact w_Low
    | .pair .high, _ => exact w_High
    | .pair .or, _ => exact w_Or
    | .pair .unlike, _ => exact w_Unlike
    | .pair .under, _ => exact w_Under
    | .carry .sum, _ => exact w_Sum
    | .carry .gap, _ => exact w_Gap
    | .shift .left, _ => exact w_Left
    | .shift .right, _ => exact w_Right
    | .shift .slide, _ => exact w_Slide
    | .pick, _ => exact w_Pick
    | .mark, _ => exact w_Mark
    | .turns, hk => exact absurd rfl hk
  have k_any_told : ∀ k : NT, C8.Met P w K mg base 2 (kC K k.1) "told" (spTold K k.1) [] := by
    rintro ⟨k, hk⟩
    match k, hk with
    | .set, _ => exact ok_Set_told (P := P) (w := w) (base := base) T 
    | .copy, _ => exact ok_Copy_told (P := P) (w := w) (base := base) T 
    | .pair .low, _ => exact ok_Pair_told (P := P) (w := w) (base := base) (j := .low) T.f_Low_told T.c_Low T.m_Low_told T.n_Low_goal T.n_Low_one T.n_Low_other w_Low
    | .pair .high, _ => exact ok_Pair_told (P := P) (w := w) (base := base) (j := .high) T.f_High_told T.c_High T.m_High_told T.n_High_goal T.n_High_one T.n_High_other w_High
    | .pair .or, _ => exact ok_Pair_told (P := P) (w := w) (base := base) (j := .or) T.f_Or_told T.c_Or T.m_Or_told T.n_Or_goal T.n_Or_one T.n_Or_other w_Or
    | .pair .unlike, _ => exact ok_Pair_told (P := P) (w := w) (base := base) (j := .unlike) T.f_Unlike_told T.c_Unlike T.m_Unlike_told T.n_Unlike_goal T.n_Unlike_one T.n_Unlike_other w_Unlike
    | .pair .under, _ => exact ok_Pair_told (P := P) (w := w) (base := base) (j := .under) T.f_Under_told T.c_Under T.m_Under_told T.n_Under_goal T.n_Under_one T.n_Under_other w_Under
    | .carry .sum, _ => exact ok_Carrying_told (P := P) (w := w) (base := base) (j := .sum) T.f_Sum_told T.c_Sum T.m_Sum_told T.n_Sum_goal T.n_Sum_carry T.n_Sum_one T.n_Sum_other w_Sum
    | .carry .gap, _ => exact ok_Carrying_told (P := P) (w := w) (base := base) (j := .gap) T.f_Gap_told T.c_Gap T.m_Gap_told T.n_Gap_goal T.n_Gap_carry T.n_Gap_one T.n_Gap_other w_Gap
    | .shift .left, _ => exact ok_Shift_told (P := P) (w := w) (base := base) (j := .left) T.f_Left_told T.c_Left T.m_Left_told T.n_Left_goal T.n_Left_one T.n_Left_k w_Left
    | .shift .right, _ => exact ok_Shift_told (P := P) (w := w) (base := base) (j := .right) T.f_Right_told T.c_Right T.m_Right_told T.n_Right_goal T.n_Right_one T.n_Right_k w_Right
    | .shift .slide, _ => exact ok_Shift_told (P := P) (w := w) (base := base) (j := .slide) T.f_Slide_told T.c_Slide T.m_Slide_told T.n_Slide_goal T.n_Slide_one T.n_Slide_k w_Slide
    | .pick, _ => exact ok_Pick_told (P := P) (w := w) (base := base) T 
    | .mark, _ => exact ok_Mark_told (P := P) (w := w) (base := base) T 
    | .turns, hk => exact absurd rfl hk
  have k_any_do : ∀ k : NT, C8.Met P w K mg base 5 (kC K k.1) "do" (spDo K k.1) [] := by
    rintro ⟨k, hk⟩
    match k, hk with
    | .set, _ => exact ok_Set_do (P := P) (w := w) (base := base) T 
    | .copy, _ => exact ok_Copy_do (P := P) (w := w) (base := base) T 
    | .pair .low, _ => exact ok_Pair_do (P := P) (w := w) (base := base) (j := .low) T.f_Low_do T.c_Low T.m_Low_do T.n_Low_goal T.n_Low_one T.n_Low_other v_Low
    | .pair .high, _ => exact ok_Pair_do (P := P) (w := w) (base := base) (j := .high) T.f_High_do T.c_High T.m_High_do T.n_High_goal T.n_High_one T.n_High_other v_High
    | .pair .or, _ => exact ok_Pair_do (P := P) (w := w) (base := base) (j := .or) T.f_Or_do T.c_Or T.m_Or_do T.n_Or_goal T.n_Or_one T.n_Or_other v_Or
    | .pair .unlike, _ => exact ok_Pair_do (P := P) (w := w) (base := base) (j := .unlike) T.f_Unlike_do T.c_Unlike T.m_Unlike_do T.n_Unlike_goal T.n_Unlike_one T.n_Unlike_other v_Unlike
    | .pair .under, _ => exact ok_Pair_do (P := P) (w := w) (base := base) (j := .under) T.f_Under_do T.c_Under T.m_Under_do T.n_Under_goal T.n_Under_one T.n_Under_other v_Under
    | .carry .sum, _ => exact ok_Carrying_do (P := P) (w := w) (base := base) (j := .sum) T.f_Sum_do T.c_Sum T.m_Sum_do T.n_Sum_goal T.n_Sum_carry T.n_Sum_one T.n_Sum_other v_Sum
    | .carry .gap, _ => exact ok_Carrying_do (P := P) (w := w) (base := base) (j := .gap) T.f_Gap_do T.c_Gap T.m_Gap_do T.n_Gap_goal T.n_Gap_carry T.n_Gap_one T.n_Gap_other v_Gap
    | .shift .left, _ => exact ok_Shift_do (P := P) (w := w) (base := base) (j := .left) T.f_Left_do T.c_Left T.m_Left_do T.n_Left_goal T.n_Left_one v_Left
    | .shift .right, _ => exact ok_Shift_do (P := P) (w := w) (base := base) (j := .right) T.f_Right_do T.c_Right T.m_Right_do T.n_Right_goal T.n_Right_one v_Right
    | .shift .slide, _ => exact ok_Shift_do (P := P) (w := w) (base := base) (j := .slide) T.f_Slide_do T.c_Slide T.m_Slide_do T.n_Slide_goal T.n_Slide_one v_Slide
    | .pick, _ => exact ok_Pick_do (P := P) (w := w) (base := base) T 
    | .mark, _ => exact ok_Mark_do (P := P) (w := w) (base := base) T 
    | .turns, hk => exact absurd rfl hk
  have k_any_fits : ∀ k : Kd, C8.Met P w K mg base 3 (kC K k) "fits" (spFits K k) [] := by
    intro k
    match k with
    | .set => exact ok_Set_fits (P := P) (w := w) (base := base) T k_is_register k_within
    | .copy => exact ok_Copy_fits (P := P) (w := w) (base := base) T k_is_register
    | .pair .low => exact ok_Pair_fits (P := P) (w := w) (base := base) (j := .low) T.f_Low_fits T.c_Low T.m_Low_fits T.n_Low_goal T.n_Low_one T.n_Low_other k_is_register
    | .pair .high => exact ok_Pair_fits (P := P) (w := w) (base := base) (j := .high) T.f_High_fits T.c_High T.m_High_fits T.n_High_goal T.n_High_one T.n_High_other k_is_register
    | .pair .or => exact ok_Pair_fits (P := P) (w := w) (base := base) (j := .or) T.f_Or_fits T.c_Or T.m_Or_fits T.n_Or_goal T.n_Or_one T.n_Or_other k_is_register
    | .pair .unlike => exact ok_Pair_fits (P := P) (w := w) (base := base) (j := .unlike) T.f_Unlike_fits T.c_Unlike T.m_Unlike_fits T.n_Unlike_goal T.n_Unlike_one T.n_Unlike_other k_is_register
    | .pair .under => exact ok_Pair_fits (P := P) (w := w) (base := base) (j := .under) T.f_Under_fits T.c_Under T.m_Under_fits T.n_Under_goal T.n_Under_one T.n_Under_other k_is_register
    | .carry .sum => exact ok_Carrying_fits (P := P) (w := w) (base := base) (j := .sum) T.f_Sum_fits T.c_Sum T.m_Sum_fits T.n_Sum_goal T.n_Sum_carry T.n_Sum_one T.n_Sum_other k_is_register
    | .carry .gap => exact ok_Carrying_fits (P := P) (w := w) (base := base) (j := .gap) T.f_Gap_fits T.c_Gap T.m_Gap_fits T.n_Gap_goal T.n_Gap_carry T.n_Gap_one T.n_Gap_other k_is_register
    | .shift .left => exact ok_Shift_fits (P := P) (w := w) (base := base) (j := .left) T.f_Left_fits T.c_Left T.m_Left_fits T.n_Left_goal T.n_Left_one T.n_Left_k k_is_register k_within
    | .shift .right => exact ok_Shift_fits (P := P) (w := w) (base := base) (j := .right) T.f_Right_fits T.c_Right T.m_Right_fits T.n_Right_goal T.n_Right_one T.n_Right_k k_is_register k_within
    | .shift .slide => exact ok_Shift_fits (P := P) (w := w) (base := base) (j := .slide) T.f_Slide_fits T.c_Slide T.m_Slide_fits T.n_Slide_goal T.n_Slide_one T.n_Slide_k k_is_register k_within
    | .pick => exact ok_Pick_fits (P := P) (w := w) (base := base) T k_is_register
    | .mark => exact ok_Mark_fits (P := P) (w := w) (base := base) T k_is_register k_within
    | .turns => exact ok_Turns_fits (P := P) (w := w) (base := base) T k_within
  have r0_walked : C8.Cal P w K mg base 3 "walked" (spWalked K 0) [] := cal_mono (cal_imp (cal_no ⟨s_walked, T.f_walked, _, B_walked⟩ T.g_walked) fun vs H Q E h => by obtain ⟨_, _, _, _, _, _, _, h, _⟩ := h; omega) (by omega)
  have r1_walked := ok_walked (P := P) (w := w) (base := base) T 0 3 (by omega) k_any_fits r0_walked
  have k_walked := ok_walked (P := P) (w := w) (base := base) T 1 4 (by omega) k_any_fits r1_walked
  have k_check_steps := ok_check_steps (P := P) (w := w) (base := base) T k_need_width k_walked
  have r0_go : C8.Cal P w K mg base 5 "go" (spGo K 0) [] := cal_mono (cal_imp (cal_no ⟨s_go, T.f_go, _, B_go⟩ T.g_go) fun vs H Q E h => by obtain ⟨_, _, _, _, _, _, _, _, _, _, _, h, _⟩ := h; omega) (by omega)
  have r1_go := ok_go (P := P) (w := w) (base := base) T 0 5 (by omega) k_any_word k_any_do r0_go
  have k_go := ok_go (P := P) (w := w) (base := base) T 1 6 (by omega) k_any_word k_any_do r1_go
  have k_need_registers := ok_need_registers (P := P) (w := w) (base := base) T k_is_register k_within
  have k_run_steps := ok_run_steps (P := P) (w := w) (base := base) T k_check_steps k_need_registers k_row_words k_go
  have k_need_prices := ok_need_prices (P := P) (w := w) (base := base) T k_is_whole
  have r0_summed : C8.Cal P w K mg base 1 "summed" (spSummed K 0) [] := cal_mono (cal_imp (cal_no ⟨s_summed, T.f_summed, _, B_summed⟩ T.g_summed) fun vs H Q E h => by obtain ⟨_, _, _, _, _, _, _, h, _⟩ := h; omega) (by omega)
  have r1_summed := ok_summed (P := P) (w := w) (base := base) T 0 1 (by omega) k_any_word r0_summed
  have k_summed := ok_summed (P := P) (w := w) (base := base) T 1 2 (by omega) k_any_word r1_summed
  have k_cost_of := ok_cost_of (P := P) (w := w) (base := base) T k_check_steps k_need_prices k_summed
  have k_field_text := ok_field_text (P := P) (w := w) (base := base) T 
  have r0_lines_of : C8.Cal P w K mg base 2 "lines_of" (spLines K 0) [] := cal_mono (cal_imp (cal_no ⟨s_lines_of, T.f_lines_of, _, B_lines_of⟩ T.g_lines_of) fun vs H Q E h => by obtain ⟨_, _, _, _, h, _⟩ := h; omega) (by omega)
  have r1_lines_of := ok_lines_of (P := P) (w := w) (base := base) T 0 2 (by omega) k_any_told k_field_text r0_lines_of
  have k_lines_of := ok_lines_of (P := P) (w := w) (base := base) T 1 3 (by omega) k_any_told k_field_text r1_lines_of
  have k_steps_text := ok_steps_text (P := P) (w := w) (base := base) T k_lines_of
  have k_number_in := ok_number_in (P := P) (w := w) (base := base) T 
  have k_pair_row := ok_pair_row (P := P) (w := w) (base := base) T k_Low_init k_High_init k_Or_init k_Unlike_init k_Under_init
  have k_row_of_four := ok_row_of_four (P := P) (w := w) (base := base) T k_number_in k_pair_row k_Left_init k_Right_init k_Slide_init k_Mark_init
  have k_row_of_five := ok_row_of_five (P := P) (w := w) (base := base) T k_Pick_init k_Sum_init k_Gap_init
  have k_row_of := ok_row_of (P := P) (w := w) (base := base) T k_number_in k_row_of_four k_row_of_five k_Set_init k_Copy_init
  have k_turns_of := ok_turns_of (P := P) (w := w) (base := base) T k_number_in k_Turns_init
  have k_read_steps := ok_read_steps (P := P) (w := w) (base := base) T k_row_of k_turns_of k_any_fits k_Turns_init
  have k_law_whole := ok_law_whole (P := P) (w := w) (base := base) T 
  have k_law_begun := ok_law_begun (P := P) (w := w) (base := base) T 
  have k_law_draw := ok_law_draw (P := P) (w := w) (base := base) T 
  have k_law_cell := ok_law_cell (P := P) (w := w) (base := base) T 
  have k_law_word := ok_law_word (P := P) (w := w) (base := base) T k_law_draw
  have k_law_cost := ok_law_cost (P := P) (w := w) (base := base) T 
  have k_law_counted := ok_law_counted (P := P) (w := w) (base := base) T k_law_cost k_check_steps k_cost_of
  have k_law_bit := ok_law_bit (P := P) (w := w) (base := base) T k_Right_init k_Left_init k_Or_init k_Under_init k_Unlike_init k_Gap_init k_Pick_init
  have k_law_divided := ok_law_divided (P := P) (w := w) (base := base) T k_Set_init k_Copy_init k_Low_init k_High_init k_Sum_init k_Unlike_init k_Mark_init k_Slide_init k_Turns_init k_law_bit
  have k_law_product := ok_law_product (P := P) (w := w) (base := base) T k_Low_init k_High_init k_Set_init k_Sum_init
  have k_law_division := ok_law_division (P := P) (w := w) (base := base) T k_law_word k_law_draw k_law_whole k_law_divided k_read_steps k_steps_text k_run_steps k_law_counted
  have k_law_multiplied := ok_law_multiplied (P := P) (w := w) (base := base) T k_law_word k_law_whole k_law_product k_run_steps k_law_counted
  exact body_law T k_law_cell k_law_begun k_law_draw k_law_division k_law_multiplied
end
end K76
set_option Elab.async false
set_option linter.all false
set_option maxRecDepth 100000
set_option maxHeartbeats 4000000
namespace K76
open PySem PySem.Spec PyProof.Rows L2
/-! ## from the law's walk to the law -/
def LawBody : Prop := ∀ (P : Program) (w : World) (K : PySem.W.Frag) (mg : Str → Option Value) (base : Heap), Tx K mg → BodyOk P w K mg base ["_law_script", "_law_k", "_law_state", "_law_width", "_law_name"] "law" s_law 9 (He.ga K "law") (spLaw K)
theorem law_facts (L : LawBody) {P : Program} {w : World} {K : PySem.W.Frag} {h : Heap} {mg : Str → Option Value} {f : Addr} (X : K.In h) (G : h.Ns mainGlobals mg) (hfa : mg ("law" : Str) = some (.ref f)) (c : SaysE K) :
    ∃ fd : FuncData, (∀ (s : Shared) (v : Value), BindsTo s fd ⟨[v], []⟩ [("_law_script", v)]) ∧ ∀ base : Heap, K.In base → base.Ns mainGlobals mg → FnOk P w K mg base C8.CX0 10 f fd ["_law_script"] (spLaw K) := by
  have T : Tx K mg := ⟨c.1, c.2, h, X, G⟩
  obtain ⟨fd, F⟩ := T.f_law
  have e := hfa.symm.trans T.g_law
  cases e
  have b := FunD.bindsA (ps := ["_law_script"]) F fun _ _ _ _ _ _ us hl => match us, hl with | [_], _ => rfl
  exact ⟨fd, fun s v => b s [v] rfl, fun base _ _ => C8.fn0 (FnT.fun F) S_law (fun vs H Q E h => by obtain ⟨a, xs, rfl, _⟩ := h; rfl) (L P w K mg base T)⟩
end K76
open PySem PySem.W PySem.Calls PyProof.Rows
theorem k76_head (L : K76.LawBody) : PySem.Challenge.rw_overwise_k76_whole_division_by_rows.Holds := by
  w_on; o_law
  refine HandSHeadRun.head_any (r := OpenLaw.row PySem.Challenge.rw_overwise_k76_whole_division_by_rows) (q := view (OpenLaw.row PySem.Challenge.rw_overwise_k76_whole_division_by_rows).prog [90]) (H := K76.hk) (ob := K76.ob) (M := 20000) (loose := K76.loose) (d := HandSHeadRun.topDef (OpenLaw.row PySem.Challenge.rw_overwise_k76_whole_division_by_rows).prog 90) (kwd := []) K76.ob_eq
    (by kernel_rfl) (fun s => by kernel_rfl) K76.run (by kernel_rfl) (by kernel_rfl) (by kernel_rfl) (by rfl) (by first | assumption | decide +kernel) (by decide +kernel) ⟨rfl, rfl, rfl, rfl, rfl, by decide +kernel⟩ ?hw ?hc
  case hw => w_witness2
  case hc =>
    refine L2.walk_ofE (l := PySem.Challenge.rw_overwise_k76_whole_division_by_rows) (n := 63) (k := 10) (x := "_law_script") (CX := C8.CX0) rfl (by decide) (by kernel_rfl) ⟨rfl, by decide, by decide⟩ ?F (fun _ _ _ _ z => z)
    intro w mg fa h Y G hmg0
    obtain ⟨K, KX, c⟩ := Y
    have hmg : mg ("law" : PySem.Str) = some (.ref fa) := by
      have e : (HandSHeadRun.topDef (OpenLaw.row PySem.Challenge.rw_overwise_k76_whole_division_by_rows).prog 90).name = ("law" : PySem.Str) := by kernel_rfl
      rw [← e]
      exact hmg0
    obtain ⟨fd, hb, hF⟩ := K76.law_facts L (P := (PySem.Challenge.rw_overwise_k76_whole_division_by_rows).prog) (w := w) KX G hmg c
    exact ⟨K, fd, K76.spLaw K, KX, hb, fun H a ns hl _ hS => ⟨a, ns, rfl, hS, fun _ => rfl⟩, hF⟩
theorem PySem.Challenge.cw_overwise_k76_whole_division_by_rows_holds : PySem.Challenge.rw_overwise_k76_whole_division_by_rows.Holds := by
  exact k76_head fun P w K mg base T => K76.body_all T
