import PyProof.Rows.All
import Wide.All
import OpenK.AllK
import Wide.FinOn
import HandS.ForMost
import HandS.ForExc
import KE.KStateDown
import HandS.HeadHook4
import HandS.HeadWalk
import HandS.Head2
import HandS.Wide
import HandS.SortInts
import HandS.TupAny
import HandS.Evl
import HandS.Set
import HandS.SetFor
import HandS.Strs
import PyProof.Rows.SortShellAny
import PyProof.ZipIter
import KE.KItemsList
import PyProof.ListNew
import HandS.Exc
import HandS.Comp
import KE.GoesRaise
import HandS.ExcOwn
import HandS.WordsExc
import HandS.ExcIs
import PySem.Challenge.RW_offerhouse_k84_whole_quoted
set_option Elab.async false
set_option linter.all false
set_option maxRecDepth 100000
/-! The program's text by places. -/
namespace OH
open PySem L2
def top (i : Nat) : Stmt := PySem.Challenge.pw_offerhouse_k84_whole_quoted.main.body.getD i (.Pass ⟨0, 0, 0, 0⟩)
abbrev s_down : Stmt := top 10
abbrev s_up : Stmt := top 11
abbrev s_line_at : Stmt := top 12
abbrev s_no_dearer : Stmt := top 13
abbrev s_lower_line : Stmt := top 14
abbrev s_drawn_on : Stmt := top 16
abbrev s_joins : Stmt := top 17
abbrev s_begun : Stmt := top 18
abbrev s_laid : Stmt := top 19
abbrev s_cost_at : Stmt := top 20
abbrev s_clipped : Stmt := top 22
abbrev s_plus : Stmt := top 23
abbrev s_raised : Stmt := top 24
abbrev s_within : Stmt := top 25
abbrev s_without : Stmt := top 26
abbrev s_freed : Stmt := top 27
abbrev s_lines_over : Stmt := top 29
abbrev s_side_by_side : Stmt := top 30
abbrev s_least : Stmt := top 31
abbrev s_greatest : Stmt := top 32
abbrev s_is_name : Stmt := top 54
abbrev s_look_at_names : Stmt := top 57
abbrev s_look_at_rules : Stmt := top 58
abbrev s_look_for_rings : Stmt := top 59
abbrev s_rule_of : Stmt := top 61
abbrev s_gathered : Stmt := top 62
abbrev s_order_of : Stmt := top 63
abbrev s_form_of : Stmt := top 64
abbrev s_quote : Stmt := top 65
abbrev s_law_at : Stmt := top 67
abbrev s_law_mix : Stmt := top 68
abbrev s_law_price : Stmt := top 69
abbrev s_law_rows : Stmt := top 70
abbrev s_law_leaf : Stmt := top 71
abbrev s_law_turned : Stmt := top 72
abbrev s_law_tree : Stmt := top 73
abbrev s_law_words : Stmt := top 74
abbrev s_law_folded : Stmt := top 75
abbrev s_law_book : Stmt := top 76
abbrev s_law_rule : Stmt := top 77
abbrev s_law_made : Stmt := top 78
abbrev s_law_plan_of : Stmt := top 79
abbrev s_law_leaf_cost : Stmt := top 80
abbrev s_law_both : Stmt := top 81
abbrev s_law_cost : Stmt := top 82
abbrev s_law_ends : Stmt := top 83
abbrev s_law_amounts : Stmt := top 84
abbrev s_law_quoted : Stmt := top 85
abbrev s_law_form_or_none : Stmt := top 86
abbrev s_law_no_offer : Stmt := top 87
abbrev s_law : Stmt := top 88
abbrev s_Rule_inner : Stmt := inClass (top 35) 0
abbrev s_Rule_own_names : Stmt := inClass (top 35) 1
abbrev s_Rule_names : Stmt := inClass (top 35) 2
abbrev s_Rule_look_at : Stmt := inClass (top 35) 3
abbrev s_Rule_made : Stmt := inClass (top 35) 6
abbrev s_Rule_form : Stmt := inClass (top 35) 8
abbrev s_Each_init : Stmt := inClass (top 36) 0
abbrev s_Each_drawn : Stmt := inClass (top 36) 2
abbrev s_Flat_init : Stmt := inClass (top 37) 0
abbrev s_Flat_drawn : Stmt := inClass (top 37) 2
abbrev s_Bands_init : Stmt := inClass (top 38) 0
abbrev s_Bands_drawn : Stmt := inClass (top 38) 2
abbrev s_Steps_init : Stmt := inClass (top 39) 0
abbrev s_Steps_drawn : Stmt := inClass (top 39) 2
abbrev s_Blocks_init : Stmt := inClass (top 40) 0
abbrev s_Blocks_drawn : Stmt := inClass (top 40) 2
abbrev s_Named_init : Stmt := inClass (top 41) 0
abbrev s_Named_own_names : Stmt := inClass (top 41) 1
abbrev s_Named_drawn : Stmt := inClass (top 41) 3
abbrev s_Pair_init : Stmt := inClass (top 42) 0
abbrev s_Pair_inner : Stmt := inClass (top 42) 1
abbrev s_Sum_drawn : Stmt := inClass (top 43) 2
abbrev s_Cheaper_drawn : Stmt := inClass (top 44) 2
abbrev s_Dearer_drawn : Stmt := inClass (top 45) 2
abbrev s_Turned_inner : Stmt := inClass (top 46) 0
abbrev s_Only_init : Stmt := inClass (top 47) 0
abbrev s_Only_drawn : Stmt := inClass (top 47) 3
abbrev s_After_init : Stmt := inClass (top 48) 0
abbrev s_After_drawn : Stmt := inClass (top 48) 3
abbrev s_Fee_init : Stmt := inClass (top 49) 0
abbrev s_Fee_drawn : Stmt := inClass (top 49) 3
abbrev s_Book_init : Stmt := inClass (top 60) 0
end OH
set_option Elab.async false
set_option linter.all false
set_option maxRecDepth 100000
set_option maxHeartbeats 0
namespace OH
open PySem L2
def d_down : He.DefD := ⟨("down", none), "down", "down", defArgs s_down, defBody s_down, defScope s_down, [], []⟩
def d_up : He.DefD := ⟨("up", none), "up", "up", defArgs s_up, defBody s_up, defScope s_up, [], []⟩
def d_line_at : He.DefD := ⟨("line_at", none), "line_at", "line_at", defArgs s_line_at, defBody s_line_at, defScope s_line_at, [], []⟩
def d_no_dearer : He.DefD := ⟨("no_dearer", none), "no_dearer", "no_dearer", defArgs s_no_dearer, defBody s_no_dearer, defScope s_no_dearer, [], []⟩
def d_lower_line : He.DefD := ⟨("lower_line", none), "lower_line", "lower_line", defArgs s_lower_line, defBody s_lower_line, defScope s_lower_line, [], []⟩
def d_drawn_on : He.DefD := ⟨("drawn_on", none), "drawn_on", "drawn_on", defArgs s_drawn_on, defBody s_drawn_on, defScope s_drawn_on, [], []⟩
def d_joins : He.DefD := ⟨("joins", none), "joins", "joins", defArgs s_joins, defBody s_joins, defScope s_joins, [], []⟩
def d_begun : He.DefD := ⟨("begun", none), "begun", "begun", defArgs s_begun, defBody s_begun, defScope s_begun, [], []⟩
def d_laid : He.DefD := ⟨("laid", none), "laid", "laid", defArgs s_laid, defBody s_laid, defScope s_laid, [], []⟩
def d_cost_at : He.DefD := ⟨("cost_at", none), "cost_at", "cost_at", defArgs s_cost_at, defBody s_cost_at, defScope s_cost_at, [], []⟩
def d_clipped : He.DefD := ⟨("clipped", none), "clipped", "clipped", defArgs s_clipped, defBody s_clipped, defScope s_clipped, [], []⟩
def d_plus : He.DefD := ⟨("plus", none), "plus", "plus", defArgs s_plus, defBody s_plus, defScope s_plus, [], []⟩
def d_raised : He.DefD := ⟨("raised", none), "raised", "raised", defArgs s_raised, defBody s_raised, defScope s_raised, [], []⟩
def d_within : He.DefD := ⟨("within", none), "within", "within", defArgs s_within, defBody s_within, defScope s_within, [], []⟩
def d_without : He.DefD := ⟨("without", none), "without", "without", defArgs s_without, defBody s_without, defScope s_without, [], []⟩
def d_freed : He.DefD := ⟨("freed", none), "freed", "freed", defArgs s_freed, defBody s_freed, defScope s_freed, [], []⟩
def d_lines_over : He.DefD := ⟨("lines_over", none), "lines_over", "lines_over", defArgs s_lines_over, defBody s_lines_over, defScope s_lines_over, [], []⟩
def d_side_by_side : He.DefD := ⟨("side_by_side", none), "side_by_side", "side_by_side", defArgs s_side_by_side, defBody s_side_by_side, defScope s_side_by_side, [], []⟩
def d_least : He.DefD := ⟨("least", none), "least", "least", defArgs s_least, defBody s_least, defScope s_least, [], []⟩
def d_greatest : He.DefD := ⟨("greatest", none), "greatest", "greatest", defArgs s_greatest, defBody s_greatest, defScope s_greatest, [], []⟩
def d_is_name : He.DefD := ⟨("is_name", none), "is_name", "is_name", defArgs s_is_name, defBody s_is_name, defScope s_is_name, [], []⟩
def d_look_at_names : He.DefD := ⟨("look_at_names", none), "look_at_names", "look_at_names", defArgs s_look_at_names, defBody s_look_at_names, defScope s_look_at_names, [], []⟩
def d_look_at_rules : He.DefD := ⟨("look_at_rules", none), "look_at_rules", "look_at_rules", defArgs s_look_at_rules, defBody s_look_at_rules, defScope s_look_at_rules, [], []⟩
def d_look_for_rings : He.DefD := ⟨("look_for_rings", none), "look_for_rings", "look_for_rings", defArgs s_look_for_rings, defBody s_look_for_rings, defScope s_look_for_rings, [], []⟩
def d_rule_of : He.DefD := ⟨("rule_of", none), "rule_of", "rule_of", defArgs s_rule_of, defBody s_rule_of, defScope s_rule_of, [], []⟩
def d_gathered : He.DefD := ⟨("gathered", none), "gathered", "gathered", defArgs s_gathered, defBody s_gathered, defScope s_gathered, [], []⟩
def d_order_of : He.DefD := ⟨("order_of", none), "order_of", "order_of", defArgs s_order_of, defBody s_order_of, defScope s_order_of, [], []⟩
def d_form_of : He.DefD := ⟨("form_of", none), "form_of", "form_of", defArgs s_form_of, defBody s_form_of, defScope s_form_of, [], []⟩
def d_quote : He.DefD := ⟨("quote", none), "quote", "quote", defArgs s_quote, defBody s_quote, defScope s_quote, [], []⟩
def d_law_at : He.DefD := ⟨("_law_at", none), "_law_at", "_law_at", defArgs s_law_at, defBody s_law_at, defScope s_law_at, [], []⟩
def d_law_mix : He.DefD := ⟨("_law_mix", none), "_law_mix", "_law_mix", defArgs s_law_mix, defBody s_law_mix, defScope s_law_mix, [], []⟩
def d_law_price : He.DefD := ⟨("_law_price", none), "_law_price", "_law_price", defArgs s_law_price, defBody s_law_price, defScope s_law_price, [], []⟩
def d_law_rows : He.DefD := ⟨("_law_rows", none), "_law_rows", "_law_rows", defArgs s_law_rows, defBody s_law_rows, defScope s_law_rows, [], []⟩
def d_law_leaf : He.DefD := ⟨("_law_leaf", none), "_law_leaf", "_law_leaf", defArgs s_law_leaf, defBody s_law_leaf, defScope s_law_leaf, [], []⟩
def d_law_turned : He.DefD := ⟨("_law_turned", none), "_law_turned", "_law_turned", defArgs s_law_turned, defBody s_law_turned, defScope s_law_turned, [], []⟩
def d_law_tree : He.DefD := ⟨("_law_tree", none), "_law_tree", "_law_tree", defArgs s_law_tree, defBody s_law_tree, defScope s_law_tree, [], []⟩
def d_law_words : He.DefD := ⟨("_law_words", none), "_law_words", "_law_words", defArgs s_law_words, defBody s_law_words, defScope s_law_words, [], []⟩
def d_law_folded : He.DefD := ⟨("_law_folded", none), "_law_folded", "_law_folded", defArgs s_law_folded, defBody s_law_folded, defScope s_law_folded, [], []⟩
def d_law_book : He.DefD := ⟨("_law_book", none), "_law_book", "_law_book", defArgs s_law_book, defBody s_law_book, defScope s_law_book, [], []⟩
def d_law_rule : He.DefD := ⟨("_law_rule", none), "_law_rule", "_law_rule", defArgs s_law_rule, defBody s_law_rule, defScope s_law_rule, [], []⟩
def d_law_made : He.DefD := ⟨("_law_made", none), "_law_made", "_law_made", defArgs s_law_made, defBody s_law_made, defScope s_law_made, [], []⟩
def d_law_plan_of : He.DefD := ⟨("_law_plan_of", none), "_law_plan_of", "_law_plan_of", defArgs s_law_plan_of, defBody s_law_plan_of, defScope s_law_plan_of, [], []⟩
def d_law_leaf_cost : He.DefD := ⟨("_law_leaf_cost", none), "_law_leaf_cost", "_law_leaf_cost", defArgs s_law_leaf_cost, defBody s_law_leaf_cost, defScope s_law_leaf_cost, [], []⟩
def d_law_both : He.DefD := ⟨("_law_both", none), "_law_both", "_law_both", defArgs s_law_both, defBody s_law_both, defScope s_law_both, [], []⟩
def d_law_cost : He.DefD := ⟨("_law_cost", none), "_law_cost", "_law_cost", defArgs s_law_cost, defBody s_law_cost, defScope s_law_cost, [], []⟩
def d_law_ends : He.DefD := ⟨("_law_ends", none), "_law_ends", "_law_ends", defArgs s_law_ends, defBody s_law_ends, defScope s_law_ends, [], []⟩
def d_law_amounts : He.DefD := ⟨("_law_amounts", none), "_law_amounts", "_law_amounts", defArgs s_law_amounts, defBody s_law_amounts, defScope s_law_amounts, [], []⟩
def d_law_quoted : He.DefD := ⟨("_law_quoted", none), "_law_quoted", "_law_quoted", defArgs s_law_quoted, defBody s_law_quoted, defScope s_law_quoted, [], []⟩
def d_law_form_or_none : He.DefD := ⟨("_law_form_or_none", none), "_law_form_or_none", "_law_form_or_none", defArgs s_law_form_or_none, defBody s_law_form_or_none, defScope s_law_form_or_none, [], []⟩
def d_law_no_offer : He.DefD := ⟨("_law_no_offer", none), "_law_no_offer", "_law_no_offer", defArgs s_law_no_offer, defBody s_law_no_offer, defScope s_law_no_offer, [], []⟩
def d_law : He.DefD := ⟨("law", none), "law", "law", defArgs s_law, defBody s_law, defScope s_law, [], []⟩
def d_Rule_inner : He.DefD := ⟨("Rule", some "inner"), "inner", "Rule.inner", defArgs s_Rule_inner, defBody s_Rule_inner, defScope s_Rule_inner, [], []⟩
def d_Rule_own_names : He.DefD := ⟨("Rule", some "own_names"), "own_names", "Rule.own_names", defArgs s_Rule_own_names, defBody s_Rule_own_names, defScope s_Rule_own_names, [], []⟩
def d_Rule_names : He.DefD := ⟨("Rule", some "names"), "names", "Rule.names", defArgs s_Rule_names, defBody s_Rule_names, defScope s_Rule_names, [], []⟩
def d_Rule_look_at : He.DefD := ⟨("Rule", some "look_at"), "look_at", "Rule.look_at", defArgs s_Rule_look_at, defBody s_Rule_look_at, defScope s_Rule_look_at, [], []⟩
def d_Rule_made : He.DefD := ⟨("Rule", some "made"), "made", "Rule.made", defArgs s_Rule_made, defBody s_Rule_made, defScope s_Rule_made, [], []⟩
def d_Rule_form : He.DefD := ⟨("Rule", some "form"), "form", "Rule.form", defArgs s_Rule_form, defBody s_Rule_form, defScope s_Rule_form, [], []⟩
def d_Each_init : He.DefD := ⟨("Each", some "__init__"), "__init__", "Each.__init__", defArgs s_Each_init, defBody s_Each_init, defScope s_Each_init, [], []⟩
def d_Each_drawn : He.DefD := ⟨("Each", some "drawn"), "drawn", "Each.drawn", defArgs s_Each_drawn, defBody s_Each_drawn, defScope s_Each_drawn, [], []⟩
def d_Flat_init : He.DefD := ⟨("Flat", some "__init__"), "__init__", "Flat.__init__", defArgs s_Flat_init, defBody s_Flat_init, defScope s_Flat_init, [], []⟩
def d_Flat_drawn : He.DefD := ⟨("Flat", some "drawn"), "drawn", "Flat.drawn", defArgs s_Flat_drawn, defBody s_Flat_drawn, defScope s_Flat_drawn, [], []⟩
def d_Bands_init : He.DefD := ⟨("Bands", some "__init__"), "__init__", "Bands.__init__", defArgs s_Bands_init, defBody s_Bands_init, defScope s_Bands_init, [], []⟩
def d_Bands_drawn : He.DefD := ⟨("Bands", some "drawn"), "drawn", "Bands.drawn", defArgs s_Bands_drawn, defBody s_Bands_drawn, defScope s_Bands_drawn, [], []⟩
def d_Steps_init : He.DefD := ⟨("Steps", some "__init__"), "__init__", "Steps.__init__", defArgs s_Steps_init, defBody s_Steps_init, defScope s_Steps_init, [], []⟩
def d_Steps_drawn : He.DefD := ⟨("Steps", some "drawn"), "drawn", "Steps.drawn", defArgs s_Steps_drawn, defBody s_Steps_drawn, defScope s_Steps_drawn, [], []⟩
def d_Blocks_init : He.DefD := ⟨("Blocks", some "__init__"), "__init__", "Blocks.__init__", defArgs s_Blocks_init, defBody s_Blocks_init, defScope s_Blocks_init, [], []⟩
def d_Blocks_drawn : He.DefD := ⟨("Blocks", some "drawn"), "drawn", "Blocks.drawn", defArgs s_Blocks_drawn, defBody s_Blocks_drawn, defScope s_Blocks_drawn, [], []⟩
def d_Named_init : He.DefD := ⟨("Named", some "__init__"), "__init__", "Named.__init__", defArgs s_Named_init, defBody s_Named_init, defScope s_Named_init, [], []⟩
def d_Named_own_names : He.DefD := ⟨("Named", some "own_names"), "own_names", "Named.own_names", defArgs s_Named_own_names, defBody s_Named_own_names, defScope s_Named_own_names, [], []⟩
def d_Named_drawn : He.DefD := ⟨("Named", some "drawn"), "drawn", "Named.drawn", defArgs s_Named_drawn, defBody s_Named_drawn, defScope s_Named_drawn, [], []⟩
def d_Pair_init : He.DefD := ⟨("Pair", some "__init__"), "__init__", "Pair.__init__", defArgs s_Pair_init, defBody s_Pair_init, defScope s_Pair_init, [], []⟩
def d_Pair_inner : He.DefD := ⟨("Pair", some "inner"), "inner", "Pair.inner", defArgs s_Pair_inner, defBody s_Pair_inner, defScope s_Pair_inner, [], []⟩
def d_Sum_drawn : He.DefD := ⟨("Sum", some "drawn"), "drawn", "Sum.drawn", defArgs s_Sum_drawn, defBody s_Sum_drawn, defScope s_Sum_drawn, [], []⟩
def d_Cheaper_drawn : He.DefD := ⟨("Cheaper", some "drawn"), "drawn", "Cheaper.drawn", defArgs s_Cheaper_drawn, defBody s_Cheaper_drawn, defScope s_Cheaper_drawn, [], []⟩
def d_Dearer_drawn : He.DefD := ⟨("Dearer", some "drawn"), "drawn", "Dearer.drawn", defArgs s_Dearer_drawn, defBody s_Dearer_drawn, defScope s_Dearer_drawn, [], []⟩
def d_Turned_inner : He.DefD := ⟨("Turned", some "inner"), "inner", "Turned.inner", defArgs s_Turned_inner, defBody s_Turned_inner, defScope s_Turned_inner, [], []⟩
def d_Only_init : He.DefD := ⟨("Only", some "__init__"), "__init__", "Only.__init__", defArgs s_Only_init, defBody s_Only_init, defScope s_Only_init, [], []⟩
def d_Only_drawn : He.DefD := ⟨("Only", some "drawn"), "drawn", "Only.drawn", defArgs s_Only_drawn, defBody s_Only_drawn, defScope s_Only_drawn, [], []⟩
def d_After_init : He.DefD := ⟨("After", some "__init__"), "__init__", "After.__init__", defArgs s_After_init, defBody s_After_init, defScope s_After_init, [], []⟩
def d_After_drawn : He.DefD := ⟨("After", some "drawn"), "drawn", "After.drawn", defArgs s_After_drawn, defBody s_After_drawn, defScope s_After_drawn, [], []⟩
def d_Fee_init : He.DefD := ⟨("Fee", some "__init__"), "__init__", "Fee.__init__", defArgs s_Fee_init, defBody s_Fee_init, defScope s_Fee_init, [], []⟩
def d_Fee_drawn : He.DefD := ⟨("Fee", some "drawn"), "drawn", "Fee.drawn", defArgs s_Fee_drawn, defBody s_Fee_drawn, defScope s_Fee_drawn, [], []⟩
def d_Book_init : He.DefD := ⟨("Book", some "__init__"), "__init__", "Book.__init__", defArgs s_Book_init, defBody s_Book_init, defScope s_Book_init, [], []⟩
def fnAll : List He.DefD := [d_down, d_up, d_line_at, d_no_dearer, d_lower_line, d_drawn_on, d_joins, d_begun, d_laid, d_cost_at, d_clipped, d_plus, d_raised, d_within, d_without, d_freed, d_lines_over, d_side_by_side, d_least, d_greatest, d_is_name, d_look_at_names, d_look_at_rules, d_look_for_rings, d_rule_of, d_gathered, d_order_of, d_form_of, d_quote, d_law_at, d_law_mix, d_law_price, d_law_rows, d_law_leaf, d_law_turned, d_law_tree, d_law_words, d_law_folded, d_law_book, d_law_rule, d_law_made, d_law_plan_of, d_law_leaf_cost, d_law_both, d_law_cost, d_law_ends, d_law_amounts, d_law_quoted, d_law_form_or_none, d_law_no_offer, d_law, d_Rule_inner, d_Rule_own_names, d_Rule_names, d_Rule_look_at, d_Rule_made, d_Rule_form, d_Each_init, d_Each_drawn, d_Flat_init, d_Flat_drawn, d_Bands_init, d_Bands_drawn, d_Steps_init, d_Steps_drawn, d_Blocks_init, d_Blocks_drawn, d_Named_init, d_Named_own_names, d_Named_drawn, d_Pair_init, d_Pair_inner, d_Sum_drawn, d_Cheaper_drawn, d_Dearer_drawn, d_Turned_inner, d_Only_init, d_Only_drawn, d_After_init, d_After_drawn, d_Fee_init, d_Fee_drawn, d_Book_init]
def faAll : List He.Fa := [.glo "down", .glo "up", .glo "line_at", .glo "no_dearer", .glo "lower_line", .glo "drawn_on", .glo "joins", .glo "begun", .glo "laid", .glo "cost_at", .glo "clipped", .glo "plus", .glo "raised", .glo "within", .glo "without", .glo "freed", .glo "lines_over", .glo "side_by_side", .glo "least", .glo "greatest", .glo "is_name", .glo "look_at_names", .glo "look_at_rules", .glo "look_for_rings", .glo "rule_of", .glo "gathered", .glo "order_of", .glo "form_of", .glo "quote", .glo "_law_at", .glo "_law_mix", .glo "_law_price", .glo "_law_rows", .glo "_law_leaf", .glo "_law_turned", .glo "_law_tree", .glo "_law_words", .glo "_law_folded", .glo "_law_book", .glo "_law_rule", .glo "_law_made", .glo "_law_plan_of", .glo "_law_leaf_cost", .glo "_law_both", .glo "_law_cost", .glo "_law_ends", .glo "_law_amounts", .glo "_law_quoted", .glo "_law_form_or_none", .glo "_law_no_offer", .glo "law", .glo "Each", .cls "Each", .mkr "Each", .noat "Each" "unit", .noat "Each" "low", .noat "Each" "high", .glo "Flat", .cls "Flat", .mkr "Flat", .noat "Flat" "price", .noat "Flat" "low", .noat "Flat" "high", .glo "Bands", .cls "Bands", .mkr "Bands", .noat "Bands" "rows", .glo "Steps", .cls "Steps", .mkr "Steps", .noat "Steps" "rows", .glo "Blocks", .cls "Blocks", .mkr "Blocks", .noat "Blocks" "size", .noat "Blocks" "price", .noat "Blocks" "many", .glo "Named", .cls "Named", .mkr "Named", .noat "Named" "name", .glo "Sum", .cls "Sum", .mkr "Sum", .noat "Sum" "one", .noat "Sum" "other", .glo "Cheaper", .cls "Cheaper", .mkr "Cheaper", .noat "Cheaper" "one", .noat "Cheaper" "other", .glo "Dearer", .cls "Dearer", .mkr "Dearer", .noat "Dearer" "one", .noat "Dearer" "other", .glo "Only", .cls "Only", .mkr "Only", .noat "Only" "one", .noat "Only" "low", .noat "Only" "high", .glo "After", .cls "After", .mkr "After", .noat "After" "one", .noat "After" "count", .glo "Fee", .cls "Fee", .mkr "Fee", .noat "Fee" "one", .noat "Fee" "price", .glo "Book", .cls "Book", .mkr "Book", .noat "Book" "offers", .meth "Each" "inner", .meth "Each" "own_names", .meth "Each" "names", .meth "Each" "look_at", .meth "Each" "drawn", .meth "Each" "made", .meth "Each" "form", .meth "Flat" "inner", .meth "Flat" "own_names", .meth "Flat" "names", .meth "Flat" "look_at", .meth "Flat" "drawn", .meth "Flat" "made", .meth "Flat" "form", .meth "Bands" "inner", .meth "Bands" "own_names", .meth "Bands" "names", .meth "Bands" "look_at", .meth "Bands" "drawn", .meth "Bands" "made", .meth "Bands" "form", .meth "Steps" "inner", .meth "Steps" "own_names", .meth "Steps" "names", .meth "Steps" "look_at", .meth "Steps" "drawn", .meth "Steps" "made", .meth "Steps" "form", .meth "Blocks" "inner", .meth "Blocks" "own_names", .meth "Blocks" "names", .meth "Blocks" "look_at", .meth "Blocks" "drawn", .meth "Blocks" "made", .meth "Blocks" "form", .meth "Named" "inner", .meth "Named" "own_names", .meth "Named" "names", .meth "Named" "look_at", .meth "Named" "drawn", .meth "Named" "made", .meth "Named" "form", .meth "Sum" "inner", .meth "Sum" "own_names", .meth "Sum" "names", .meth "Sum" "look_at", .meth "Sum" "drawn", .meth "Sum" "made", .meth "Sum" "form", .meth "Cheaper" "inner", .meth "Cheaper" "own_names", .meth "Cheaper" "names", .meth "Cheaper" "look_at", .meth "Cheaper" "drawn", .meth "Cheaper" "made", .meth "Cheaper" "form", .meth "Dearer" "inner", .meth "Dearer" "own_names", .meth "Dearer" "names", .meth "Dearer" "look_at", .meth "Dearer" "drawn", .meth "Dearer" "made", .meth "Dearer" "form", .meth "Only" "inner", .meth "Only" "own_names", .meth "Only" "names", .meth "Only" "look_at", .meth "Only" "drawn", .meth "Only" "made", .meth "Only" "form", .meth "After" "inner", .meth "After" "own_names", .meth "After" "names", .meth "After" "look_at", .meth "After" "drawn", .meth "After" "made", .meth "After" "form", .meth "Fee" "inner", .meth "Fee" "own_names", .meth "Fee" "names", .meth "Fee" "look_at", .meth "Fee" "drawn", .meth "Fee" "made", .meth "Fee" "form", .glo "NotOffered", .exc "NotOffered", .glo "TooMany", .exc "TooMany", .glo "NoOffer", .exc "NoOffer", .glo "BadName", .exc "BadName", .glo "Twice", .exc "Twice", .glo "Ring", .exc "Ring", .exm "NotOffered" "NotOffered" true, .exm "TooMany" "TooMany" true, .exm "NoOffer" "NoOffer" true, .int "MOST_STRETCHES" 60, .int "MOST_SIGNS" 8, .int "MOST_OFFERS" 30, .str "LETTERS" "abcdefghijklmnopqrstuvwxyz", .glo "WORDS", .free "len", .free "list", .free "sorted", .free "set", .free "tuple", .free "min", .free "max", .free "zip", .free "range", .free "all", .free "int", .free "sum", .free "isinstance", .free "ValueError"]
abbrev HR : PySem.W.OpenRow := PySem.W.OpenLaw.row PySem.Challenge.rw_offerhouse_k84_whole_quoted
def loose0 : List PySem.Str := ["_wall", "__name__", "OfferError", "NotOffered", "TooMany", "BadName", "NoOffer", "Twice", "Ring", "down", "up", "line_at", "no_dearer", "lower_line", "drawn_on", "joins", "begun", "laid", "cost_at", "clipped", "plus", "raised", "within", "without", "freed", "lines_over", "side_by_side", "least", "greatest", "MOST_STRETCHES"]
def loose1 : List PySem.Str := ["Rule", "Each", "Flat", "Bands", "Steps", "Blocks", "Named", "Pair", "Sum", "Cheaper", "Dearer", "Turned", "Only", "After", "Fee", "LETTERS", "WORDS", "MOST_SIGNS", "is_name", "MOST_OFFERS", "look_at_names", "look_at_rules", "look_for_rings", "Book", "rule_of", "gathered", "order_of", "form_of", "quote", "_law_at"]
def loose2 : List PySem.Str := ["_law_mix", "_law_price", "_law_rows", "_law_leaf", "_law_turned", "_law_tree", "_law_words", "_law_folded", "_law_book", "_law_rule", "_law_made", "_law_plan_of", "_law_leaf_cost", "_law_both", "_law_cost", "_law_ends", "_law_amounts", "_law_quoted", "_law_form_or_none", "_law_no_offer"]
def looseAll : List PySem.Str := loose0 ++ loose1 ++ loose2
def wordsD : List He.Dv := [.str "each", .str "flat", .str "from", .str "to", .str "bands", .str "steps", .str "blocks", .str "at", .str "times", .str "plus", .str "or", .str "max", .str "only", .str "after", .str "roomy", .str "fee"]
/-- isinstance of a caught NotOffered -/
def isB (K : PySem.W.Frag) : Bool :=
  He.eqO (PySem.W.findIn K (.ref (He.ga K "NotOffered")) "__getattribute__") (some (some (.builtin "BaseException.__getattribute__"))) && (He.eqO (PySem.W.findIn K (.ref (He.ga K "NotOffered")) "__getattr__") (some none) &&
  (decide (PySem.W.subIn K (.ref (He.ga K "NotOffered")) (.type "BaseException") = some true) && (PySem.W.hasDictIn K (He.ga K "NotOffered") && (He.eqO (PySem.W.findIn K (.ref (He.ga K "NotOffered")) "__class__") (some (some (.builtin "object.__class__"))) &&
  (He.eqO (PySem.W.specialIn K (.builtin "object.__class__") "__get__") (some (some (.builtin "getset_descriptor.__get__"))) && (decide (PySem.W.takesIn K (.builtin "object.__class__") = some true) && (decide (PySem.W.mroIn K (He.ga K "NotOffered") (.type "object") = some true) &&
  decide (PySem.W.kitOne K (.ref (He.ga K "NotOffered")) (.type "ValueError") = some true))))))))
def inh0 : List (Str × Str × Str) := [("Each", "inner", "Rule"), ("Each", "own_names", "Rule"), ("Each", "names", "Rule"), ("Each", "look_at", "Rule"), ("Each", "made", "Rule"), ("Each", "form", "Rule"), ("Flat", "inner", "Rule"), ("Flat", "own_names", "Rule"), ("Flat", "names", "Rule"), ("Flat", "look_at", "Rule"), ("Flat", "made", "Rule"), ("Flat", "form", "Rule"), ("Bands", "inner", "Rule"), ("Bands", "own_names", "Rule"), ("Bands", "names", "Rule"), ("Bands", "look_at", "Rule"), ("Bands", "made", "Rule"), ("Bands", "form", "Rule"), ("Steps", "inner", "Rule"), ("Steps", "own_names", "Rule"), ("Steps", "names", "Rule"), ("Steps", "look_at", "Rule"), ("Steps", "made", "Rule"), ("Steps", "form", "Rule"), ("Blocks", "inner", "Rule")]
def inh1 : List (Str × Str × Str) := [("Blocks", "own_names", "Rule"), ("Blocks", "names", "Rule"), ("Blocks", "look_at", "Rule"), ("Blocks", "made", "Rule"), ("Blocks", "form", "Rule"), ("Named", "inner", "Rule"), ("Named", "names", "Rule"), ("Named", "look_at", "Rule"), ("Named", "made", "Rule"), ("Named", "form", "Rule"), ("Sum", "inner", "Pair"), ("Sum", "own_names", "Rule"), ("Sum", "names", "Rule"), ("Sum", "look_at", "Rule"), ("Sum", "made", "Rule"), ("Sum", "form", "Rule"), ("Sum", "__init__", "Pair"), ("Cheaper", "inner", "Pair"), ("Cheaper", "own_names", "Rule"), ("Cheaper", "names", "Rule"), ("Cheaper", "look_at", "Rule"), ("Cheaper", "made", "Rule"), ("Cheaper", "form", "Rule"), ("Cheaper", "__init__", "Pair"), ("Dearer", "inner", "Pair")]
def inh2 : List (Str × Str × Str) := [("Dearer", "own_names", "Rule"), ("Dearer", "names", "Rule"), ("Dearer", "look_at", "Rule"), ("Dearer", "made", "Rule"), ("Dearer", "form", "Rule"), ("Dearer", "__init__", "Pair"), ("Only", "inner", "Turned"), ("Only", "own_names", "Rule"), ("Only", "names", "Rule"), ("Only", "look_at", "Rule"), ("Only", "made", "Rule"), ("Only", "form", "Rule"), ("After", "inner", "Turned"), ("After", "own_names", "Rule"), ("After", "names", "Rule"), ("After", "look_at", "Rule"), ("After", "made", "Rule"), ("After", "form", "Rule"), ("Fee", "inner", "Turned"), ("Fee", "own_names", "Rule"), ("Fee", "names", "Rule"), ("Fee", "look_at", "Rule"), ("Fee", "made", "Rule"), ("Fee", "form", "Rule")]
def inhAll : List (Str × Str × Str) := inh0 ++ inh1 ++ inh2
def inhB (K : PySem.W.Frag) : Bool := inhAll.all fun q => decide (He.ma K (He.ga K q.1) q.2.1 = He.ma K (He.ga K q.2.2) q.2.1)
def exAll (K : PySem.W.Frag) : Bool := He.tupB K "WORDS" wordsD && (isB K && inhB K)
theorem inh_of {K : PySem.W.Frag} (h : exAll K = true) : inhB K = true := (He.ba (He.ba h).2).2
theorem inh_at {K : PySem.W.Frag} (h : inhB K = true) {i : Nat} {c m b : Str} (e : inhAll[i]? = some (c, m, b)) : He.ma K (He.ga K c) m = He.ma K (He.ga K b) m :=
  of_decide_eq_true (List.all_eq_true.mp h _ (List.mem_of_getElem? e))
def ads0 : List Addr := [3, 6, 4, 21, 31, 44, 56, 68, 80, 92, 104, 113, 120, 127, 134, 141, 148, 155, 162, 169, 176, 183, 190, 195, 202, 209, 216, 223, 228, 235, 242, 320, 362, 402, 442, 482, 522, 569, 609, 642]
def ads1 : List Addr := [675, 708, 741, 781, 821, 861, 864, 869, 876, 881, 886, 901, 912, 919, 926, 933, 940, 947, 954, 961, 968, 975, 982, 989, 994, 1001, 1006, 1013, 1018, 1023, 1028, 1035, 1042, 1047, 1054, 1061, 1068, 1075, 1082, 20]
def ads2 : List Addr := [30, 43, 55, 67, 79, 91, 103, 112, 119, 126, 133, 140, 147, 154, 161, 168, 175, 182, 189, 194, 201, 208, 215, 222, 227, 234, 241, 319, 361, 401, 441, 481, 521, 568, 608, 641, 674, 707, 740, 780]
def ads3 : List Addr := [820, 860, 868, 875, 880, 885, 900, 911, 918, 925, 932, 939, 946, 953, 960, 967, 974, 981, 988, 993, 1000, 1005, 1012, 1017, 1022, 1027, 1034, 1041, 1046, 1053, 1060, 1067, 1074, 1081, 29, 32, 42, 54, 66, 78]
def ads4 : List Addr := [90, 102, 256, 263, 270, 277, 284, 291, 296, 303, 310, 317, 318, 321, 322, 338, 345, 352, 359, 360, 378, 385, 392, 399, 400, 418, 425, 432, 439, 440, 458, 465, 472, 479, 480, 498, 505, 512, 519, 520]
def ads5 : List Addr := [538, 545, 552, 559, 566, 567, 585, 592, 599, 606, 607, 625, 632, 639, 640, 658, 665, 672, 673, 691, 698, 705, 706, 724, 731, 738, 739, 757, 764, 771, 778, 779, 797, 804, 811, 818, 819, 837, 844, 851]
def ads6 : List Addr := [858, 859, 898, 899, 902, 903, 255, 262, 269, 276, 283, 290, 295, 302, 309, 316, 337, 344, 351, 358, 377, 384, 391, 398, 417, 424, 431, 438, 457, 464, 471, 478, 497, 504, 511, 518, 537, 544, 551, 558]
def ads7 : List Addr := [565, 584, 591, 598, 605, 624, 631, 638, 657, 664, 671, 690, 697, 704, 723, 730, 737, 756, 763, 770, 777, 796, 803, 810, 817, 836, 843, 850, 857, 897]
def adsAll : List Addr := ads0 ++ ads1 ++ ads2 ++ ads3 ++ ads4 ++ ads5 ++ ads6 ++ ads7
/-- the head's facts over the objects at given places -/
def hookM (as : List Addr) (fa : List He.Fa) (fn : List He.DefD) (ex : PySem.W.Frag → Bool) : PySem.W.Hook where
  α := He.AlD × Bool
  obs := fun s => (He.obsD fa fn (He.frG s.heap.get? as), ex (He.frG s.heap.get? as))
  val := fun _ => (He.valD fn, true)
  says := fun _ h => ∃ K : PySem.W.Frag, K.In h ∧ He.SaysD fa fn K ∧ ex K = true
  of := fun _ _ e => ⟨_, He.frG_in, congrArg (fun z : He.AlD × Bool => z.1) e, congrArg (fun z : He.AlD × Bool => z.2) e⟩
  keeps := fun _ _ _ ⟨K, hK, c⟩ k => ⟨K, PySem.W.Frag.In.keeps hK k, c⟩
abbrev hkA : PySem.W.Hook := hookM adsAll faAll fnAll exAll
def obA (s : PySem.W.SharedT) : He.AlD × Bool := (He.obsD faAll fnAll (He.frG (HandSHeadRun.getT s) adsAll), exAll (He.frG (HandSHeadRun.getT s) adsAll))
theorem obA_eq (s : PySem.W.SharedT) : obA s = hkA.obs s.abs := by
  have e : HandSHeadRun.getT s = s.abs.heap.get? := funext (HandSHeadRun.getT_eq s)
  unfold obA
  rw [e]
  rfl
end OH
set_option Elab.async false
set_option linter.all false
set_option maxRecDepth 100000
set_option maxHeartbeats 0
namespace OH
open PySem PySem.Spec PyProof.Rows L2 HandSHeadRun PySem.W
/-- the top's run -/
noncomputable abbrev ranA (w : World) (os : OsState) := endF (stepQ (denQ tabQ) HR.prog w) 12000 HR.prog w os
abbrev vwA : Program := view HR.prog [88]
/-! one run for each look at its end: less memory at a time -/
theorem run_ex (w : World) : ∀ os : OsState, (ranA w os).map (fun s => exAll (He.frG (getT s) adsAll)) = some true := by
  intro os
  kernel_rfl
theorem run_fa (w : World) : ∀ os : OsState, (ranA w os).map (fun s => He.obsD faAll fnAll (He.frG (getT s) adsAll)) = some (He.valD fnAll) := by
  intro os
  kernel_rfl
theorem run_lk (w : World) : ∀ os : OsState, (ranA w os).map (fun s => (looksF HR.prog (boot_heap w.params) s.abs, seenQ vwA looseAll (importedModules HR.prog.main.body) (fun s => xlAt vwA [] s && recOk HR.toRowW.records s) s.abs)) = some (true, openGood vwA looseAll) := by
  intro os
  kernel_rfl
theorem join4 {α β γ δ η : Type} {X : Option α} {f1 : α → β} {f2 : α → γ} {f3 : α → δ} {f4 : α → η} {b : β} {c : γ} {d : δ} {e : η} (h : X.map (fun s => (f1 s, f2 s)) = some (b, c)) (k : X.map f3 = some d) (m : X.map f4 = some e) : X.map (fun s => (f1 s, f2 s, (f3 s, f4 s))) = some (b, c, (d, e)) := by
  cases X with
  | none => cases h
  | some s =>
    have h1 : (f1 s, f2 s) = (b, c) := Option.some.inj h
    have h2 : f3 s = d := Option.some.inj k
    have h3 : f4 s = e := Option.some.inj m
    show some (f1 s, f2 s, (f3 s, f4 s)) = _
    rw [(Prod.mk.inj h1).1, (Prod.mk.inj h1).2, h2, h3]
theorem runA (w : World) : RunEq HR (view HR.prog [88]) hkA obA 12000 looseAll w := fun os =>
  join4 (X := ranA w os) (f1 := fun s => looksF HR.prog (boot_heap w.params) s.abs) (f2 := fun s => seenQ vwA looseAll (importedModules HR.prog.main.body) (fun s => xlAt vwA [] s && recOk HR.toRowW.records s) s.abs)
    (f3 := fun s => He.obsD faAll fnAll (He.frG (getT s) adsAll)) (f4 := fun s => exAll (He.frG (getT s) adsAll)) (b := true) (c := openGood vwA looseAll) (d := He.valD fnAll) (e := true) (run_lk w os) (run_fa w os) (run_ex w os)
end OH
set_option autoImplicit false
set_option linter.all false
/-! The mathematics of offers: forms, what they cost, the deeds on them; no program in sight. -/
namespace OH
structure S4 where
  lo : Int
  hi : Int
  pr : Int
  st : Int
  deriving DecidableEq
abbrev Form := List S4
/-- what the stretch, drawn on, would make x cost -/
def S4.at (s : S4) (x : Int) : Int := s.pr + s.st * (x - s.lo)
theorem at_shift (s : S4) (a x : Int) : s.at a + s.st * (x - a) = s.at x := by
  unfold S4.at
  rw [Int.add_assoc, ← Int.mul_add, show a - s.lo + (x - a) = x - s.lo by omega]
def costAt : Form → Int → Option Int
  | [], _ => none
  | s :: r, x => if s.lo ≤ x ∧ x ≤ s.hi then some (s.at x) else costAt r x
/-- ascending, each stretch with an amount -/
structure Asc (f : Form) : Prop where
  pw : f.Pairwise fun a b => a.hi < b.lo
  ne : ∀ s ∈ f, s.lo ≤ s.hi
theorem Asc.nil : Asc [] := ⟨List.Pairwise.nil, fun _ h => nomatch h⟩
theorem Asc.tail {s : S4} {r : Form} (h : Asc (s :: r)) : Asc r := ⟨(List.pairwise_cons.mp h.pw).2, fun t ht => h.ne t (List.mem_cons_of_mem _ ht)⟩
theorem Asc.one {s : S4} (h : s.lo ≤ s.hi) : Asc [s] := ⟨List.pairwise_singleton _ _, fun t ht => by rw [List.mem_singleton.mp ht]; exact h⟩
theorem Asc.append {f g : Form} (hf : Asc f) (hg : Asc g) (h : ∀ a ∈ f, ∀ b ∈ g, a.hi < b.lo) : Asc (f ++ g) :=
  ⟨List.pairwise_append.mpr ⟨hf.pw, hg.pw, h⟩, fun s hs => (List.mem_append.mp hs).elim (hf.ne s) (hg.ne s)⟩
theorem Asc.parts {f g : Form} (h : Asc (f ++ g)) : Asc f ∧ Asc g ∧ ∀ a ∈ f, ∀ b ∈ g, a.hi < b.lo :=
  have q := List.pairwise_append.mp h.pw
  ⟨⟨q.1, fun s hs => h.ne s (List.mem_append_left _ hs)⟩, ⟨q.2.1, fun s hs => h.ne s (List.mem_append_right _ hs)⟩, q.2.2⟩
theorem cost_append (f g : Form) (x : Int) : costAt (f ++ g) x = (costAt f x).or (costAt g x) := by
  induction f with
  | nil => rfl
  | cons s r ih =>
    rw [List.cons_append]
    show (if s.lo ≤ x ∧ x ≤ s.hi then some (s.at x) else costAt (r ++ g) x) = ((if s.lo ≤ x ∧ x ≤ s.hi then some (s.at x) else costAt r x)).or (costAt g x)
    split
    · rfl
    · exact ih
theorem cost_none {f : Form} {x : Int} (h : ∀ s ∈ f, ¬ (s.lo ≤ x ∧ x ≤ s.hi)) : costAt f x = none := by
  induction f with
  | nil => rfl
  | cons s r ih =>
    show (if s.lo ≤ x ∧ x ≤ s.hi then some (s.at x) else costAt r x) = none
    rw [if_neg (h s List.mem_cons_self)]
    exact ih fun t ht => h t (List.mem_cons_of_mem _ ht)
theorem cost_some {f : Form} {x c : Int} (h : costAt f x = some c) : ∃ s ∈ f, s.lo ≤ x ∧ x ≤ s.hi ∧ c = s.at x := by
  induction f with
  | nil => cases h
  | cons s r ih =>
    have h' : (if s.lo ≤ x ∧ x ≤ s.hi then some (s.at x) else costAt r x) = some c := h
    split at h'
    · rename_i q
      exact ⟨s, List.mem_cons_self, q.1, q.2, (Option.some.inj h').symm⟩
    · obtain ⟨t, ht, q⟩ := ih h'
      exact ⟨t, List.mem_cons_of_mem _ ht, q⟩
theorem cost_of {f : Form} (a : Asc f) {s : S4} (hs : s ∈ f) {x : Int} (h1 : s.lo ≤ x) (h2 : x ≤ s.hi) : costAt f x = some (s.at x) := by
  induction f with
  | nil => cases hs
  | cons t r ih =>
    show (if t.lo ≤ x ∧ x ≤ t.hi then some (t.at x) else costAt r x) = _
    rcases List.mem_cons.mp hs with e | m
    · subst e
      rw [if_pos ⟨h1, h2⟩]
    · have q := (List.pairwise_cons.mp a.pw).1 s m
      rw [if_neg (by omega)]
      exact ih a.tail m
/-! ### laid -/
def joins (t : S4) (lo pr : Int) : Bool := decide (t.hi = lo - 1) && (decide (t.lo = t.hi) || decide (t.at lo = pr))
def begun (lo hi pr st : Int) : S4 := if lo = hi then ⟨lo, hi, pr, 0⟩ else ⟨lo, hi, pr, st⟩
def own (t : S4) (pr : Int) : Int := if t.lo = t.hi then pr - t.pr else t.st
/-- what laid puts in the place of the last stretch t and the next row r that joins it -/
def joined (t r : S4) : List S4 :=
  if r.lo = r.hi ∨ r.st = own t r.pr then [⟨t.lo, r.hi, t.pr, own t r.pr⟩] else [⟨t.lo, r.lo, t.pr, own t r.pr⟩, begun (r.lo + 1) r.hi (r.pr + r.st) r.st]
def laidStep (told : List S4) (r : S4) : List S4 := match told.getLast? with
  | none => told ++ [begun r.lo r.hi r.pr r.st]
  | some t => if joins t r.lo r.pr = true then told.dropLast ++ joined t r else told ++ [begun r.lo r.hi r.pr r.st]
def laid (rows : List S4) : Form := rows.foldl laidStep []
theorem begun_cost (lo hi pr st x : Int) : costAt [begun lo hi pr st] x = costAt [⟨lo, hi, pr, st⟩] x := by
  unfold begun
  split
  · rename_i e
    show (if lo ≤ x ∧ x ≤ hi then some (pr + 0 * (x - lo)) else none) = (if lo ≤ x ∧ x ≤ hi then some (pr + st * (x - lo)) else none)
    split
    · rename_i q
      rw [show x - lo = 0 by omega, Int.mul_zero, Int.mul_zero]
    · rfl
  · rfl
theorem begun_lo (lo hi pr st : Int) : (begun lo hi pr st).lo = lo := by unfold begun; split <;> rfl
theorem begun_hi (lo hi pr st : Int) : (begun lo hi pr st).hi = hi := by unfold begun; split <;> rfl
theorem cost2 (s t : S4) (x : Int) : costAt [s, t] x = if s.lo ≤ x ∧ x ≤ s.hi then some (s.at x) else costAt [t] x := rfl
theorem cost1 (s : S4) (x : Int) : costAt [s] x = if s.lo ≤ x ∧ x ≤ s.hi then some (s.at x) else none := rfl
/-- the joined stretch costs at the next row's low what the row does -/
theorem own_at {t r : S4} (ht : t.lo ≤ t.hi) (j : joins t r.lo r.pr = true) : t.pr + own t r.pr * (r.lo - t.lo) = r.pr := by
  unfold joins at j
  rw [Bool.and_eq_true, Bool.or_eq_true, decide_eq_true_eq, decide_eq_true_eq, decide_eq_true_eq] at j
  obtain ⟨j1, j2⟩ := j
  unfold own
  split
  · rename_i e
    rw [show r.lo - t.lo = 1 by omega, Int.mul_one]
    omega
  · rename_i e
    exact j2.resolve_left e
theorem own_in {t r : S4} (x : Int) (ht : t.lo ≤ t.hi) (hx : t.lo ≤ x) (hx2 : x ≤ t.hi) : t.pr + own t r.pr * (x - t.lo) = t.at x := by
  unfold own S4.at
  split
  · rw [show x - t.lo = 0 by omega, Int.mul_zero, Int.mul_zero]
  · rfl
theorem joins_hi {t : S4} {lo pr : Int} (j : joins t lo pr = true) : t.hi = lo - 1 := by
  unfold joins at j
  rw [Bool.and_eq_true] at j
  exact of_decide_eq_true j.1
theorem joined_cost {t r : S4} (ht : t.lo ≤ t.hi) (hr : r.lo ≤ r.hi) (j : joins t r.lo r.pr = true) (x : Int) : costAt (joined t r) x = costAt [t, r] x := by
  have j1 := joins_hi j
  have e0 := own_at ht j
  have key : ∀ y : Int, t.lo ≤ y → y ≤ t.hi → t.pr + own t r.pr * (y - t.lo) = t.at y := fun y a b => own_in y ht a b
  have past : ∀ y : Int, t.pr + own t r.pr * (y - t.lo) = r.pr + own t r.pr * (y - r.lo) := fun y => by
    generalize own t r.pr = o at e0 ⊢
    rw [← e0, Int.add_assoc, ← Int.mul_add, show r.lo - t.lo + (y - r.lo) = y - t.lo by omega]
  unfold joined
  split
  · rename_i c
    rw [cost1, cost2, cost1]
    dsimp only
    by_cases h1 : t.lo ≤ x ∧ x ≤ t.hi
    · rw [if_pos (by omega), if_pos h1]
      exact congrArg some (key x h1.1 h1.2)
    · rw [if_neg h1]
      by_cases h2 : r.lo ≤ x ∧ x ≤ r.hi
      · rw [if_pos (by omega), if_pos h2]
        refine congrArg some ?_
        show t.pr + own t r.pr * (x - t.lo) = r.pr + r.st * (x - r.lo)
        rw [past]
        rcases c with c | c
        · rw [show x - r.lo = 0 by omega, Int.mul_zero, Int.mul_zero]
        · rw [c]
      · rw [if_neg (by omega), if_neg h2]
  · rename_i c
    have c1 : ¬ r.lo = r.hi := fun z => c (Or.inl z)
    rw [show ([⟨t.lo, r.lo, t.pr, own t r.pr⟩, begun (r.lo + 1) r.hi (r.pr + r.st) r.st] : List S4) = [⟨t.lo, r.lo, t.pr, own t r.pr⟩] ++ [begun (r.lo + 1) r.hi (r.pr + r.st) r.st] from rfl, cost_append, begun_cost, cost1, cost1, cost2, cost1]
    dsimp only
    by_cases h1 : t.lo ≤ x ∧ x ≤ t.hi
    · rw [if_pos (by omega), if_pos h1]
      exact congrArg some (key x h1.1 h1.2)
    · rw [if_neg h1]
      by_cases h2 : x = r.lo
      · rw [if_pos (show t.lo ≤ x ∧ x ≤ r.lo by omega), if_pos (show r.lo ≤ x ∧ x ≤ r.hi by omega)]
        refine congrArg some ?_
        show t.pr + own t r.pr * (x - t.lo) = r.pr + r.st * (x - r.lo)
        rw [past, h2, Int.sub_self, Int.mul_zero, Int.mul_zero]
      · by_cases h3 : r.lo ≤ x ∧ x ≤ r.hi
        · rw [if_neg (by omega), if_pos (by omega), if_pos h3]
          refine congrArg some ?_
          show r.pr + r.st + r.st * (x - (r.lo + 1)) = r.pr + r.st * (x - r.lo)
          rw [show x - r.lo = 1 + (x - (r.lo + 1)) by omega, Int.mul_add, Int.mul_one]
          omega
        · rw [if_neg (by omega), if_neg (by omega), if_neg h3]
          rfl
theorem joined_asc {t r : S4} (ht : t.lo ≤ t.hi) (hr : r.lo ≤ r.hi) (j : joins t r.lo r.pr = true) : Asc (joined t r) ∧ ∀ s ∈ joined t r, t.lo ≤ s.lo ∧ s.hi ≤ r.hi := by
  have j1 := joins_hi j
  unfold joined
  split
  · refine ⟨Asc.one (show t.lo ≤ r.hi by omega), fun s hs => ?_⟩
    rw [List.mem_singleton.mp hs]
    exact ⟨Int.le_refl _, Int.le_refl _⟩
  · rename_i c
    have c1 : ¬ r.lo = r.hi := fun z => c (Or.inl z)
    refine ⟨⟨List.pairwise_cons.mpr ⟨fun s hs => ?_, List.pairwise_singleton _ _⟩, fun s hs => ?_⟩, fun s hs => ?_⟩
    · rw [List.mem_singleton.mp hs, begun_lo]
      show r.lo < r.lo + 1
      omega
    · rcases List.mem_cons.mp hs with e | e
      · rw [e]
        show t.lo ≤ r.lo
        omega
      · rw [List.mem_singleton.mp e, begun_lo, begun_hi]
        omega
    · rcases List.mem_cons.mp hs with e | e
      · rw [e]
        exact ⟨Int.le_refl _, hr⟩
      · rw [List.mem_singleton.mp e, begun_lo, begun_hi]
        exact ⟨by omega, Int.le_refl _⟩
theorem asc_swap {f g g' h : Form} (a : Asc (f ++ g ++ h)) (a' : Asc g') (b : ∀ s ∈ g', (∃ u ∈ g, u.lo ≤ s.lo) ∧ ∃ u ∈ g, s.hi ≤ u.hi) : Asc (f ++ g' ++ h) := by
  obtain ⟨a1, a2, a3⟩ := a.parts
  obtain ⟨b1, b2, b3⟩ := a1.parts
  refine (b1.append a' fun x hx y hy => ?_).append a2 fun x hx y hy => ?_
  · obtain ⟨⟨u, hu, q⟩, _⟩ := b y hy
    have := b3 x hx u hu
    omega
  · rcases List.mem_append.mp hx with hx | hx
    · exact a3 x (List.mem_append_left _ hx) y hy
    · obtain ⟨_, u, hu, q⟩ := b x hx
      have := a3 u (List.mem_append_right _ hu) y hy
      omega
theorem cost_swap {f g g' h : Form} {x : Int} (e : costAt g' x = costAt g x) : costAt (f ++ g' ++ h) x = costAt (f ++ g ++ h) x := by
  rw [cost_append, cost_append, cost_append (f ++ g), cost_append f g, e]
theorem last_split {told : List S4} {t : S4} (h : told.getLast? = some t) : told = told.dropLast ++ [t] := by
  have hne : told ≠ [] := fun e => by rw [e] at h; cases h
  have e := List.dropLast_concat_getLast hne
  rw [List.getLast?_eq_some_getLast hne] at h
  rw [← Option.some.inj h]
  exact e.symm
theorem laidStep_ok {told rest : List S4} {r : S4} (a : Asc (told ++ [r] ++ rest)) :
    Asc (laidStep told r ++ rest) ∧ ∀ x, costAt (laidStep told r ++ rest) x = costAt (told ++ [r] ++ rest) x := by
  have hr : r.lo ≤ r.hi := a.ne r (by simp)
  have beg : Asc (told ++ [begun r.lo r.hi r.pr r.st] ++ rest) ∧ ∀ x, costAt (told ++ [begun r.lo r.hi r.pr r.st] ++ rest) x = costAt (told ++ [r] ++ rest) x := by
    refine ⟨asc_swap a (Asc.one (by rw [begun_lo, begun_hi]; exact hr)) fun s hs => ?_, fun x => cost_swap (begun_cost r.lo r.hi r.pr r.st x)⟩
    rw [List.mem_singleton.mp hs, begun_lo, begun_hi]
    exact ⟨⟨r, List.mem_singleton.mpr rfl, Int.le_refl _⟩, ⟨r, List.mem_singleton.mpr rfl, Int.le_refl _⟩⟩
  unfold laidStep
  split
  · exact beg
  · rename_i t ht
    split
    · rename_i j
      have es := last_split ht
      have a2 : Asc (told.dropLast ++ [t, r] ++ rest) := by
        have z : told.dropLast ++ [t, r] ++ rest = told ++ [r] ++ rest := by
          rw [show ([t, r] : List S4) = [t] ++ [r] from rfl, ← List.append_assoc, ← es]
        rw [z]
        exact a
      have htt : t.lo ≤ t.hi := a2.ne t (by simp)
      obtain ⟨k1, k2⟩ := joined_asc htt hr j
      refine ⟨asc_swap a2 k1 fun s hs => ⟨⟨t, by simp, (k2 s hs).1⟩, ⟨r, by simp, (k2 s hs).2⟩⟩, fun x => ?_⟩
      rw [cost_swap (joined_cost htt hr j x)]
      have z : told.dropLast ++ [t, r] ++ rest = told ++ [r] ++ rest := by
        rw [show ([t, r] : List S4) = [t] ++ [r] from rfl, ← List.append_assoc, ← es]
      rw [z]
    · exact beg
theorem laid_go : ∀ (rows told : List S4), Asc (told ++ rows) → Asc (rows.foldl laidStep told) ∧ ∀ x, costAt (rows.foldl laidStep told) x = costAt (told ++ rows) x
  | [], told, a => by
    rw [List.append_nil] at a
    exact ⟨a, fun x => by rw [List.append_nil]; rfl⟩
  | r :: rows, told, a => by
    have a' : Asc (told ++ [r] ++ rows) := by rw [List.append_assoc]; exact a
    obtain ⟨k1, k2⟩ := laidStep_ok a'
    obtain ⟨h1, h2⟩ := laid_go rows (laidStep told r) k1
    refine ⟨h1, fun x => ?_⟩
    rw [List.foldl_cons, h2 x, k2 x, List.append_assoc]
    rfl
theorem laid_asc {rows : List S4} (a : Asc rows) : Asc (laid rows) := (laid_go rows [] a).1
theorem laid_cost {rows : List S4} (a : Asc rows) (x : Int) : costAt (laid rows) x = costAt rows x := (laid_go rows [] a).2 x
theorem laidStep_len (told : List S4) (r : S4) : (laidStep told r).length ≤ told.length + 1 := by
  unfold laidStep
  split
  · simp
  · rename_i t ht
    have hne : told ≠ [] := fun e => by rw [e] at ht; cases ht
    have hl : 0 < told.length := List.length_pos_iff.mpr hne
    split
    · unfold joined
      split <;> simp <;> omega
    · simp
theorem laid_len_go : ∀ (rows told : List S4), (rows.foldl laidStep told).length ≤ told.length + rows.length
  | [], told => Nat.le_refl _
  | r :: rows, told => by
    have h1 := laid_len_go rows (laidStep told r)
    have h2 := laidStep_len told r
    rw [List.foldl_cons, List.length_cons]
    omega
theorem laid_len (rows : List S4) : (laid rows).length ≤ rows.length := by
  have h := laid_len_go rows []
  rw [List.length_nil, Nat.zero_add] at h
  exact h
end OH
set_option autoImplicit false
set_option linter.all false
/-! Deeds on forms. -/
namespace OH
theorem asc_flat {α : Type} {f : α → List S4} : ∀ {l : List α}, (∀ a ∈ l, Asc (f a)) → (l.Pairwise fun a b => ∀ s ∈ f a, ∀ t ∈ f b, s.hi < t.lo) → Asc (l.flatMap f)
  | [], _, _ => Asc.nil
  | a :: l, h, p => by
    obtain ⟨p1, p2⟩ := List.pairwise_cons.mp p
    rw [List.flatMap_cons]
    refine (h a List.mem_cons_self).append (asc_flat (fun b hb => h b (List.mem_cons_of_mem _ hb)) p2) fun s hs t ht => ?_
    obtain ⟨b, hb, ht⟩ := List.mem_flatMap.mp ht
    exact p1 b hb s hs t ht
/-! ### clip -/
def mx (a b : Int) : Int := if b > a then b else a
def mn (a b : Int) : Int := if b < a then b else a
def clip (s : S4) (lo hi : Int) : List S4 := if mn hi s.hi < mx lo s.lo then [] else [⟨mx lo s.lo, mn hi s.hi, s.at (mx lo s.lo), s.st⟩]
theorem clip_cost (s : S4) (lo hi x : Int) : costAt (clip s lo hi) x = if (lo ≤ x ∧ x ≤ hi) ∧ s.lo ≤ x ∧ x ≤ s.hi then some (s.at x) else none := by
  unfold clip
  split
  · rename_i c
    rw [if_neg]
    · rfl
    · unfold mn mx at c
      split at c <;> split at c <;> omega
  · rename_i c
    rw [cost1]
    dsimp only
    by_cases h : (lo ≤ x ∧ x ≤ hi) ∧ s.lo ≤ x ∧ x ≤ s.hi
    · rw [if_pos h, if_pos (by unfold mn mx; split <;> split <;> omega)]
      exact congrArg some (at_shift s _ x)
    · rw [if_neg h, if_neg (by unfold mn mx; split <;> split <;> omega)]
theorem clip_in {s t : S4} {lo hi : Int} (h : t ∈ clip s lo hi) : lo ≤ t.lo ∧ s.lo ≤ t.lo ∧ t.hi ≤ hi ∧ t.hi ≤ s.hi ∧ t.lo ≤ t.hi := by
  unfold clip at h
  split at h
  · cases h
  · rename_i c
    rw [List.mem_singleton.mp h]
    dsimp only
    unfold mn mx at c ⊢
    split <;> split at c <;> (try split) <;> (try split at c) <;> omega
theorem clip_asc (s : S4) (lo hi : Int) : Asc (clip s lo hi) := by
  refine ⟨?_, fun t ht => (clip_in ht).2.2.2.2⟩
  unfold clip
  split
  · exact List.Pairwise.nil
  · exact List.pairwise_singleton _ _
/-! ### within, without, raised, freed -/
def withinR (f : Form) (lo hi : Int) : List S4 := f.flatMap fun s => clip s lo hi
def within (f : Form) (lo hi : Int) : Form := laid (withinR f lo hi)
theorem flat_parts {f : Form} (a : Asc f) (g : S4 → List S4) (hg : ∀ s ∈ f, Asc (g s)) (hin : ∀ s ∈ f, ∀ t ∈ g s, s.lo ≤ t.lo ∧ t.hi ≤ s.hi) : Asc (f.flatMap g) := by
  refine asc_flat hg ?_
  refine (List.Pairwise.and_mem.mp a.pw).imp fun {x y} h s hs t ht => ?_
  have h1 := hin x h.1 s hs
  have h2 := hin y h.2.1 t ht
  have := h.2.2
  omega
/-- a function of the stretches that keeps costs on some amounts -/
theorem flat_cost {f : Form} {x : Int} {P : Prop} [Decidable P] (g : S4 → List S4) (hg : ∀ s ∈ f, costAt (g s) x = if P ∧ s.lo ≤ x ∧ x ≤ s.hi then some (s.at x) else none) :
    costAt (f.flatMap g) x = if P then costAt f x else none := by
  induction f with
  | nil =>
    rw [List.flatMap_nil]
    split <;> rfl
  | cons s r ih =>
    rw [List.flatMap_cons, cost_append, hg s List.mem_cons_self, ih fun t ht => hg t (List.mem_cons_of_mem _ ht)]
    show _ = if P then (if s.lo ≤ x ∧ x ≤ s.hi then some (s.at x) else costAt r x) else none
    by_cases p : P
    · rw [if_pos p, if_pos p]
      by_cases q : s.lo ≤ x ∧ x ≤ s.hi
      · rw [if_pos ⟨p, q⟩, if_pos q]
        rfl
      · rw [if_neg fun z => q z.2, if_neg q]
        rfl
    · rw [if_neg p, if_neg p, if_neg fun z => p z.1]
      rfl
theorem withinR_asc {f : Form} (a : Asc f) (lo hi : Int) : Asc (withinR f lo hi) :=
  flat_parts a _ (fun s _ => clip_asc s lo hi) fun s _ t ht => ⟨(clip_in ht).2.1, (clip_in ht).2.2.2.1⟩
theorem within_ok {f : Form} (a : Asc f) (lo hi : Int) : Asc (within f lo hi) ∧ ∀ x, costAt (within f lo hi) x = if lo ≤ x ∧ x ≤ hi then costAt f x else none := by
  have r := withinR_asc a lo hi
  refine ⟨laid_asc r, fun x => ?_⟩
  unfold within
  rw [laid_cost r x]
  exact flat_cost _ fun s _ => clip_cost s lo hi x
def withoutR (f : Form) (lo hi : Int) : List S4 := f.flatMap fun s => clip s s.lo (lo - 1) ++ clip s (hi + 1) s.hi
def without (f : Form) (lo hi : Int) : Form := laid (withoutR f lo hi)
theorem without_ok {f : Form} (a : Asc f) {lo hi : Int} (hl : lo ≤ hi) : Asc (without f lo hi) ∧ ∀ x, costAt (without f lo hi) x = if x < lo ∨ hi < x then costAt f x else none := by
  have r : Asc (withoutR f lo hi) := by
    refine flat_parts a _ (fun s _ => ?_) fun s _ t ht => ?_
    · refine (clip_asc _ _ _).append (clip_asc _ _ _) fun u hu v hv => ?_
      have h1 := clip_in hu
      have h2 := clip_in hv
      omega
    · rcases List.mem_append.mp ht with ht | ht
      · exact ⟨(clip_in ht).2.1, (clip_in ht).2.2.2.1⟩
      · exact ⟨(clip_in ht).2.1, (clip_in ht).2.2.2.1⟩
  refine ⟨laid_asc r, fun x => ?_⟩
  unfold without
  rw [laid_cost r x]
  refine flat_cost _ fun s _ => ?_
  rw [cost_append, clip_cost, clip_cost]
  by_cases h : (x < lo ∨ hi < x) ∧ s.lo ≤ x ∧ x ≤ s.hi
  · rw [if_pos h]
    by_cases q : x < lo
    · rw [if_pos (by omega)]
      rfl
    · rw [if_neg (by omega), if_pos (by omega)]
      rfl
  · rw [if_neg h, if_neg (by omega), if_neg (by omega)]
    rfl
def raisedR (f : Form) (p : Int) : List S4 := f.map fun s => ⟨s.lo, s.hi, s.pr + p, s.st⟩
def raised (f : Form) (p : Int) : Form := laid (raisedR f p)
theorem raisedR_cost (p x : Int) : ∀ f : Form, costAt (raisedR f p) x = (costAt f x).map (· + p)
  | [] => rfl
  | s :: r => by
    show (if s.lo ≤ x ∧ x ≤ s.hi then some (s.pr + p + s.st * (x - s.lo)) else costAt (raisedR r p) x) = Option.map (· + p) (if s.lo ≤ x ∧ x ≤ s.hi then some (s.at x) else costAt r x)
    split
    · show _ = some (s.pr + s.st * (x - s.lo) + p)
      exact congrArg some (by omega)
    · exact raisedR_cost p x r
theorem raised_ok {f : Form} (a : Asc f) (p : Int) : Asc (raised f p) ∧ ∀ x, costAt (raised f p) x = (costAt f x).map (· + p) := by
  have r : Asc (raisedR f p) := by
    refine ⟨List.pairwise_map.mpr a.pw, fun s hs => ?_⟩
    obtain ⟨t, ht, e⟩ := List.mem_map.mp hs
    rw [← e]
    exact a.ne t ht
  refine ⟨laid_asc r, fun x => ?_⟩
  unfold raised
  rw [laid_cost r x, raisedR_cost]
def shift (count : Int) (s : S4) : S4 := ⟨s.lo + count, s.hi + count, s.pr, s.st⟩
def freedHead (f : Form) (count : Int) : List S4 := match costAt f 0 with
  | none => []
  | some p => [⟨0, count, p, 0⟩]
def freedR (f : Form) (count : Int) : List S4 := freedHead f count ++ f.flatMap fun s => (clip s 1 s.hi).map (shift count)
def freed (f : Form) (count : Int) : Form := laid (freedR f count)
theorem shift_cost (count x : Int) : ∀ f : Form, costAt (f.map (shift count)) x = costAt f (x - count)
  | [] => rfl
  | s :: r => by
    show (if s.lo + count ≤ x ∧ x ≤ s.hi + count then some (s.pr + s.st * (x - (s.lo + count))) else costAt (r.map (shift count)) x) = (if s.lo ≤ x - count ∧ x - count ≤ s.hi then some (s.pr + s.st * (x - count - s.lo)) else costAt r (x - count))
    by_cases h : s.lo ≤ x - count ∧ x - count ≤ s.hi
    · rw [if_pos h, if_pos (by omega), show x - (s.lo + count) = x - count - s.lo by omega]
    · rw [if_neg h, if_neg (by omega)]
      exact shift_cost count x r
theorem freed_ok {f : Form} (a : Asc f) {count : Int} (hc : 0 ≤ count) : Asc (freed f count) ∧ ∀ x, costAt (freed f count) x = if x < 0 then none else costAt f (mx 0 (x - count)) := by
  have hin : ∀ s t : S4, t ∈ (clip s 1 s.hi).map (shift count) → 1 + count ≤ t.lo ∧ s.lo + count ≤ t.lo ∧ t.hi ≤ s.hi + count ∧ t.lo ≤ t.hi := fun s t ht => by
    obtain ⟨u, hu, e⟩ := List.mem_map.mp ht
    have h := clip_in hu
    rw [← e]
    show 1 + count ≤ u.lo + count ∧ s.lo + count ≤ u.lo + count ∧ u.hi + count ≤ s.hi + count ∧ u.lo + count ≤ u.hi + count
    omega
  have r2 : Asc (f.flatMap fun s => (clip s 1 s.hi).map (shift count)) := by
    refine asc_flat (fun s _ => ⟨List.pairwise_map.mpr ((clip_asc s 1 s.hi).pw.imp fun {x y} h => ?_), fun t ht => (hin s t ht).2.2.2⟩) (a.pw.imp fun {x y} h s hs t ht => ?_)
    · show x.hi + count < y.lo + count
      omega
    · have h1 := hin x s hs
      have h2 := hin y t ht
      omega
  have r : Asc (freedR f count) := by
    refine Asc.append ?_ r2 fun s hs t ht => ?_
    · unfold freedHead
      split
      · exact Asc.nil
      · exact Asc.one hc
    · unfold freedHead at hs
      split at hs
      · cases hs
      · rw [List.mem_singleton.mp hs]
        obtain ⟨u, _, hu⟩ := List.mem_flatMap.mp ht
        have := hin u t hu
        show count < t.lo
        omega
  refine ⟨laid_asc r, fun x => ?_⟩
  unfold freed
  rw [laid_cost r x]
  unfold freedR
  rw [cost_append]
  have e2 : costAt (f.flatMap fun s => (clip s 1 s.hi).map (shift count)) x = if 1 ≤ x - count then costAt f (x - count) else none := by
    have e3 : ∀ l : Form, costAt (l.flatMap fun s => (clip s 1 s.hi).map (shift count)) x = costAt (l.flatMap fun s => clip s 1 s.hi) (x - count) := by
      intro l
      induction l with
      | nil => rfl
      | cons s r ih => rw [List.flatMap_cons, List.flatMap_cons, cost_append, cost_append, shift_cost, ih]
    rw [e3]
    exact flat_cost (P := 1 ≤ x - count) _ fun s _ => by
      rw [clip_cost]
      by_cases h : 1 ≤ x - count ∧ s.lo ≤ x - count ∧ x - count ≤ s.hi
      · rw [if_pos h, if_pos (by omega)]
      · rw [if_neg h, if_neg (by omega)]
  rw [e2]
  have e1 : costAt (freedHead f count) x = if 0 ≤ x ∧ x ≤ count then costAt f 0 else none := by
    unfold freedHead
    cases q : costAt f 0 with
    | none =>
      show costAt [] x = _
      split <;> rfl
    | some p =>
      show costAt [⟨0, count, p, 0⟩] x = _
      rw [cost1]
      show (if 0 ≤ x ∧ x ≤ count then some (p + 0 * (x - 0)) else none) = _
      rw [Int.zero_mul, Int.add_zero]
  rw [e1]
  by_cases h0 : x < 0
  · rw [if_pos h0, if_neg (by omega), if_neg (by omega)]
    rfl
  · rw [if_neg h0]
    by_cases h1 : x ≤ count
    · rw [if_pos (by omega), if_neg (by omega), show mx 0 (x - count) = 0 by unfold mx; split <;> omega]
      exact Option.or_none
    · rw [if_neg (by omega), if_pos (by omega), show mx 0 (x - count) = x - count by unfold mx; split <;> omega]
      rfl
/-! ### plus -/
def plusOne (a b : S4) : List S4 := match clip a b.lo b.hi with
  | [] => []
  | s :: _ => [⟨s.lo, s.hi, s.pr + b.at s.lo, s.st + b.st⟩]
def plusR : Form → Form → List S4
  | [], _ => []
  | _ :: _, [] => []
  | a :: r, b :: t => plusOne a b ++ if a.hi < b.hi then plusR r (b :: t) else plusR (a :: r) t
termination_by f g => f.length + g.length
def plus (f g : Form) : Form := laid (plusR f g)
def both (h : Int → Int → Int) : Option Int → Option Int → Option Int
  | some a, some b => some (h a b)
  | _, _ => none
theorem plusOne_in {a b s : S4} (h : s ∈ plusOne a b) : a.lo ≤ s.lo ∧ b.lo ≤ s.lo ∧ s.hi ≤ a.hi ∧ s.hi ≤ b.hi ∧ s.lo ≤ s.hi := by
  unfold plusOne at h
  split at h
  · cases h
  · rename_i u l e
    have hu : u ∈ clip a b.lo b.hi := by rw [e]; exact List.mem_cons_self
    have q := clip_in hu
    rw [List.mem_singleton.mp h]
    dsimp only
    omega
theorem plusOne_asc (a b : S4) : Asc (plusOne a b) := by
  refine ⟨?_, fun s hs => (plusOne_in hs).2.2.2.2⟩
  unfold plusOne
  split
  · exact List.Pairwise.nil
  · exact List.pairwise_singleton _ _
theorem plusOne_cost (a b : S4) (x : Int) : costAt (plusOne a b) x = if (a.lo ≤ x ∧ x ≤ a.hi) ∧ b.lo ≤ x ∧ x ≤ b.hi then some (a.at x + b.at x) else none := by
  have q := clip_cost a b.lo b.hi x
  unfold plusOne
  unfold clip at q ⊢
  split
  · rename_i e
    split at e
    · rename_i c
      rw [if_pos c] at q
      show none = _
      by_cases h : (a.lo ≤ x ∧ x ≤ a.hi) ∧ b.lo ≤ x ∧ x ≤ b.hi
      · rw [if_pos (by omega)] at q
        cases q
      · rw [if_neg h]
    · cases e
  · rename_i u l e
    split at e
    · cases e
    · rename_i c
      rw [if_neg c] at q
      injection e with e1 e2
      rw [e1] at q
      rw [cost1] at q ⊢
      dsimp only at q ⊢
      by_cases h : (a.lo ≤ x ∧ x ≤ a.hi) ∧ b.lo ≤ x ∧ x ≤ b.hi
      · rw [if_pos (show (b.lo ≤ x ∧ x ≤ b.hi) ∧ a.lo ≤ x ∧ x ≤ a.hi by omega)] at q
        split at q
        · rename_i c2
          rw [if_pos h, if_pos c2]
          have q1 : u.pr + u.st * (x - u.lo) = a.at x := Option.some.inj q
          have q2 := at_shift b u.lo x
          refine congrArg some ?_
          show u.pr + b.at u.lo + (u.st + b.st) * (x - u.lo) = _
          rw [Int.add_mul]
          omega
        · cases q
      · rw [if_neg (show ¬ ((b.lo ≤ x ∧ x ≤ b.hi) ∧ a.lo ≤ x ∧ x ≤ a.hi) by omega)] at q
        split at q
        · cases q
        · rename_i c2
          rw [if_neg h, if_neg c2]
theorem plusR_in : ∀ (f g : Form) (s : S4), s ∈ plusR f g → ∃ a ∈ f, ∃ b ∈ g, a.lo ≤ s.lo ∧ b.lo ≤ s.lo
  | [], _, s, h => by rw [plusR] at h; cases h
  | _ :: _, [], s, h => by rw [plusR] at h; cases h
  | a :: r, b :: t, s, h => by
    rw [plusR] at h
    rcases List.mem_append.mp h with h | h
    · exact ⟨a, List.mem_cons_self, b, List.mem_cons_self, (plusOne_in h).1, (plusOne_in h).2.1⟩
    · split at h
      · obtain ⟨u, hu, v, hv, q⟩ := plusR_in r (b :: t) s h
        exact ⟨u, List.mem_cons_of_mem _ hu, v, hv, q⟩
      · obtain ⟨u, hu, v, hv, q⟩ := plusR_in (a :: r) t s h
        exact ⟨u, hu, v, List.mem_cons_of_mem _ hv, q⟩
termination_by f g => f.length + g.length
theorem plusR_ok : ∀ (f g : Form), Asc f → Asc g → Asc (plusR f g) ∧ ∀ x, costAt (plusR f g) x = both (· + ·) (costAt f x) (costAt g x)
  | [], _, _, _ => by rw [plusR]; exact ⟨Asc.nil, fun _ => rfl⟩
  | a :: r, [], _, _ => by
    rw [plusR]
    exact ⟨Asc.nil, fun x => by
      show none = both (· + ·) (costAt (a :: r) x) none
      cases costAt (a :: r) x <;> rfl⟩
  | a :: r, b :: t, ha, hb => by
    rw [plusR]
    have pa := (List.pairwise_cons.mp ha.pw).1
    have pb := (List.pairwise_cons.mp hb.pw).1
    have za := ha.ne a List.mem_cons_self
    have zb := hb.ne b List.mem_cons_self
    have ca : ∀ x, costAt (a :: r) x = if a.lo ≤ x ∧ x ≤ a.hi then some (a.at x) else costAt r x := fun _ => rfl
    have cb : ∀ x, costAt (b :: t) x = if b.lo ≤ x ∧ x ≤ b.hi then some (b.at x) else costAt t x := fun _ => rfl
    have nr : ∀ x, x ≤ a.hi → costAt r x = none := fun x hx => cost_none fun s hs q => by
      have := pa s hs
      omega
    have nt : ∀ x, x ≤ b.hi → costAt t x = none := fun x hx => cost_none fun s hs q => by
      have := pb s hs
      omega
    split
    · rename_i c
      obtain ⟨k1, k2⟩ := plusR_ok r (b :: t) ha.tail hb
      refine ⟨(plusOne_asc a b).append k1 fun s hs u hu => ?_, fun x => ?_⟩
      · have h1 := plusOne_in hs
        obtain ⟨v, hv, _, _, q1, _⟩ := plusR_in r (b :: t) u hu
        have := pa v hv
        omega
      · rw [cost_append, plusOne_cost, k2 x, ca]
        by_cases h : a.lo ≤ x ∧ x ≤ a.hi
        · rw [if_pos h, nr x h.2, cb]
          by_cases h2 : b.lo ≤ x ∧ x ≤ b.hi
          · rw [if_pos ⟨h, h2⟩, if_pos h2]
            rfl
          · rw [if_neg (fun z => h2 z.2), if_neg h2, nt x (by omega)]
            rfl
        · rw [if_neg (fun z => h z.1), if_neg h]
          rfl
    · rename_i c
      obtain ⟨k1, k2⟩ := plusR_ok (a :: r) t ha hb.tail
      refine ⟨(plusOne_asc a b).append k1 fun s hs u hu => ?_, fun x => ?_⟩
      · have h1 := plusOne_in hs
        obtain ⟨_, _, v, hv, _, q1⟩ := plusR_in (a :: r) t u hu
        have := pb v hv
        omega
      · rw [cost_append, plusOne_cost, k2 x, cb]
        by_cases h2 : b.lo ≤ x ∧ x ≤ b.hi
        · rw [if_pos h2, nt x h2.2, ca]
          by_cases h : a.lo ≤ x ∧ x ≤ a.hi
          · rw [if_pos ⟨h, h2⟩, if_pos h]
            rfl
          · rw [if_neg (fun z => h z.1), if_neg h, nr x (by omega)]
            rfl
        · rw [if_neg (fun z => h2 z.2), if_neg h2]
          rfl
termination_by f g => f.length + g.length
theorem plus_ok {f g : Form} (a : Asc f) (b : Asc g) : Asc (plus f g) ∧ ∀ x, costAt (plus f g) x = both (· + ·) (costAt f x) (costAt g x) := by
  obtain ⟨k1, k2⟩ := plusR_ok f g a b
  refine ⟨laid_asc k1, fun x => ?_⟩
  unfold plus
  rw [laid_cost k1 x, k2 x]
end OH
set_option autoImplicit false
set_option linter.all false
/-! The lesser and the greater of two forms. -/
namespace OH
abbrev Line := Int × Int
def lineAt (l : Line) (lo x : Int) : Int := l.1 + l.2 * (x - lo)
def up (a b : Int) : Int := -((-a) / b)
/-- first and last amount (as offsets from low) at which the line one costs no more than other -/
def ndFirst (one other : Line) : Int := if one.2 - other.2 > 0 then 0 else if one.2 - other.2 < 0 then mx 0 (up (one.1 - other.1) (-(one.2 - other.2))) else 0
def ndLast (one other : Line) (lo hi : Int) : Int := if one.2 - other.2 > 0 then mn (hi - lo) ((-(one.1 - other.1)) / (one.2 - other.2)) else hi - lo
def noDearer (one other : Line) (lo hi : Int) : Option (Int × Int) :=
  if ¬ one.2 - other.2 > 0 ∧ ¬ one.2 - other.2 < 0 ∧ one.1 - other.1 > 0 then none
  else if ndFirst one other > ndLast one other lo hi then none
  else some (lo + ndFirst one other, lo + ndLast one other lo hi)
def lowerLine (one other : Line) (lo hi : Int) : List S4 := match noDearer one other lo hi with
  | none => [⟨lo, hi, other.1, other.2⟩]
  | some (first, last) => (if lo < first then [⟨lo, first - 1, other.1, other.2⟩] else []) ++ [⟨first, last, lineAt one lo first, one.2⟩] ++ (if last < hi then [⟨last + 1, hi, lineAt other lo (last + 1), other.2⟩] else [])
theorem le_div {a b t : Int} (hb : 0 < b) : t ≤ a / b ↔ t * b ≤ a := Int.le_ediv_iff_mul_le hb
theorem up_le {a b t : Int} (hb : 0 < b) : up a b ≤ t ↔ a ≤ t * b := by
  have h : -t ≤ (-a) / b ↔ -t * b ≤ -a := le_div hb
  rw [Int.neg_mul] at h
  unfold up
  constructor
  · intro q
    have := h.mp (by omega)
    omega
  · intro q
    have := h.mpr (by omega)
    omega
/-- where noDearer holds: just where one costs no more -/
theorem nd_mem {one other : Line} {lo hi x : Int} (h1 : lo ≤ x) (h2 : x ≤ hi) (hn : ¬ (¬ one.2 - other.2 > 0 ∧ ¬ one.2 - other.2 < 0 ∧ one.1 - other.1 > 0)) :
    (lo + ndFirst one other ≤ x ∧ x ≤ lo + ndLast one other lo hi) ↔ lineAt one lo x ≤ lineAt other lo x := by
  unfold lineAt
  have key : one.1 + one.2 * (x - lo) ≤ other.1 + other.2 * (x - lo) ↔ (x - lo) * (one.2 - other.2) ≤ -(one.1 - other.1) := by
    generalize x - lo = t
    rw [Int.mul_sub, Int.mul_comm one.2 t, Int.mul_comm other.2 t]
    omega
  rw [key]
  unfold ndFirst ndLast
  by_cases c1 : one.2 - other.2 > 0
  · rw [if_pos c1, if_pos c1]
    rw [← le_div c1]
    generalize (-(one.1 - other.1)) / (one.2 - other.2) = q
    unfold mn
    split <;> omega
  · rw [if_neg c1, if_neg c1]
    by_cases c2 : one.2 - other.2 < 0
    · rw [if_pos c2]
      have h := up_le (a := one.1 - other.1) (b := -(one.2 - other.2)) (t := x - lo) (by omega)
      rw [Int.mul_neg] at h
      have h' : up (one.1 - other.1) (-(one.2 - other.2)) ≤ x - lo ↔ (x - lo) * (one.2 - other.2) ≤ -(one.1 - other.1) := by
        rw [h]
        omega
      rw [← h']
      generalize up (one.1 - other.1) (-(one.2 - other.2)) = q
      unfold mx
      split <;> omega
    · rw [if_neg c2]
      rw [show one.2 - other.2 = 0 by omega, Int.mul_zero]
      omega
theorem nd_none {one other : Line} {lo hi x : Int} (h1 : lo ≤ x) (h2 : x ≤ hi) (hn : noDearer one other lo hi = none) : ¬ lineAt one lo x ≤ lineAt other lo x := by
  unfold noDearer at hn
  split at hn
  · rename_i c
    intro q
    unfold lineAt at q
    rw [show one.2 = other.2 by omega] at q
    omega
  · rename_i c
    split at hn
    · rename_i d
      intro q
      have := (nd_mem h1 h2 c).mpr q
      omega
    · cases hn
theorem nd_some {one other : Line} {lo hi a b x : Int} (h1 : lo ≤ x) (h2 : x ≤ hi) (hn : noDearer one other lo hi = some (a, b)) : (a ≤ x ∧ x ≤ b) ↔ lineAt one lo x ≤ lineAt other lo x := by
  unfold noDearer at hn
  split at hn
  · cases hn
  · rename_i c
    split at hn
    · cases hn
    · injection hn with e
      injection e with e1 e2
      rw [← nd_mem h1 h2 c, e1, e2]
theorem nd_range {one other : Line} {lo hi a b : Int} (hn : noDearer one other lo hi = some (a, b)) : lo ≤ a ∧ a ≤ b ∧ b ≤ hi := by
  unfold noDearer at hn
  split at hn
  · cases hn
  · split at hn
    · cases hn
    · rename_i d
      injection hn with e
      injection e with e1 e2
      have f0 : 0 ≤ ndFirst one other := by
        unfold ndFirst
        split
        · exact Int.le_refl _
        · split
          · unfold mx
            split <;> omega
          · exact Int.le_refl _
      have l0 : ndLast one other lo hi ≤ hi - lo := by
        unfold ndLast
        split
        · unfold mn
          split <;> omega
        · exact Int.le_refl _
      omega
theorem if_list {α : Type} {P : Prop} [Decidable P] {s t : α} (h : t ∈ (if P then [s] else [])) : P ∧ t = s := by
  split at h
  · rename_i p
    exact ⟨p, List.mem_singleton.mp h⟩
  · cases h
theorem cost_if {P : Prop} [Decidable P] (s : S4) (x : Int) : costAt (if P then [s] else []) x = if P ∧ s.lo ≤ x ∧ x ≤ s.hi then some (s.at x) else none := by
  by_cases p : P
  · rw [if_pos p, cost1]
    by_cases q : s.lo ≤ x ∧ x ≤ s.hi
    · rw [if_pos q, if_pos ⟨p, q⟩]
    · rw [if_neg q, if_neg fun z => q z.2]
  · rw [if_neg p, if_neg fun z => p z.1]
    rfl
theorem asc_if {P : Prop} [Decidable P] {s : S4} (h : P → s.lo ≤ s.hi) : Asc (if P then [s] else []) := by
  split
  · rename_i p
    exact Asc.one (h p)
  · exact Asc.nil
theorem lowerLine_in {one other : Line} {lo hi : Int} (hl : lo ≤ hi) {s : S4} (h : s ∈ lowerLine one other lo hi) : lo ≤ s.lo ∧ s.hi ≤ hi ∧ s.lo ≤ s.hi := by
  unfold lowerLine at h
  split at h
  · rw [List.mem_singleton.mp h]
    exact ⟨Int.le_refl _, Int.le_refl _, hl⟩
  · rename_i a b e
    have r := nd_range e
    rcases List.mem_append.mp h with h | h
    · rcases List.mem_append.mp h with h | h
      · obtain ⟨p, rfl⟩ := if_list h
        dsimp only
        omega
      · rw [List.mem_singleton.mp h]
        dsimp only
        omega
    · obtain ⟨p, rfl⟩ := if_list h
      dsimp only
      omega
theorem lowerLine_asc {one other : Line} {lo hi : Int} (hl : lo ≤ hi) : Asc (lowerLine one other lo hi) := by
  refine ⟨?_, fun s hs => (lowerLine_in hl hs).2.2⟩
  unfold lowerLine
  split
  · exact List.pairwise_singleton _ _
  · rename_i a b e
    have r := nd_range e
    refine List.pairwise_append.mpr ⟨List.pairwise_append.mpr ⟨?_, List.pairwise_singleton _ _, fun x hx y hy => ?_⟩, ?_, fun x hx y hy => ?_⟩
    · split <;> first | exact List.Pairwise.nil | exact List.pairwise_singleton _ _
    · obtain ⟨p, rfl⟩ := if_list hx
      rw [List.mem_singleton.mp hy]
      dsimp only
      omega
    · split <;> first | exact List.Pairwise.nil | exact List.pairwise_singleton _ _
    · obtain ⟨p, rfl⟩ := if_list hy
      rcases List.mem_append.mp hx with hx | hx
      · obtain ⟨p', rfl⟩ := if_list hx
        dsimp only
        omega
      · rw [List.mem_singleton.mp hx]
        dsimp only
        omega
theorem line_shift (l : Line) (lo a x : Int) : lineAt l lo a + l.2 * (x - a) = lineAt l lo x := by
  unfold lineAt
  rw [Int.add_assoc, ← Int.mul_add, show a - lo + (x - a) = x - lo by omega]
theorem lowerLine_cost {one other : Line} {lo hi : Int} (hl : lo ≤ hi) (x : Int) :
    costAt (lowerLine one other lo hi) x = if lo ≤ x ∧ x ≤ hi then some (mn (lineAt one lo x) (lineAt other lo x)) else none := by
  by_cases h : lo ≤ x ∧ x ≤ hi
  · rw [if_pos h]
    unfold lowerLine
    split
    · rename_i e
      have q := nd_none h.1 h.2 e
      rw [cost1, if_pos h]
      refine congrArg some ?_
      show lineAt other lo x = _
      unfold mn
      rw [if_pos (by omega)]
    · rename_i a b e
      have q := nd_some h.1 h.2 e
      have r := nd_range e
      rw [cost_append, cost_append, cost_if, cost1, cost_if]
      dsimp only
      by_cases c : a ≤ x ∧ x ≤ b
      · rw [if_neg (by omega), if_pos c]
        refine congrArg some ?_
        show lineAt one lo a + one.2 * (x - a) = _
        rw [line_shift]
        have := q.mp c
        unfold mn
        rw [if_neg (by omega)]
      · rw [if_neg c]
        have q2 : ¬ lineAt one lo x ≤ lineAt other lo x := fun z => c (q.mpr z)
        have qm : mn (lineAt one lo x) (lineAt other lo x) = lineAt other lo x := by
          unfold mn
          rw [if_pos (by omega)]
        rw [qm]
        by_cases d : x < a
        · rw [if_pos (by omega)]
          rfl
        · rw [if_neg (by omega), if_pos (by omega)]
          refine congrArg some ?_
          show lineAt other lo (b + 1) + other.2 * (x - (b + 1)) = _
          exact line_shift other lo (b + 1) x
  · rw [if_neg h]
    refine cost_none fun s hs q => ?_
    have := lowerLine_in hl hs
    omega
/-! ### two forms cut at the same amounts -/
def ends : Form → List Int
  | [] => []
  | s :: r => s.lo :: (s.hi + 1) :: ends r
theorem ends_mem {f : Form} {s : S4} (h : s ∈ f) : s.lo ∈ ends f ∧ s.hi + 1 ∈ ends f := by
  induction f with
  | nil => cases h
  | cons t r ih =>
    rcases List.mem_cons.mp h with e | m
    · rw [e]
      exact ⟨List.mem_cons_self, List.mem_cons_of_mem _ List.mem_cons_self⟩
    · exact ⟨List.mem_cons_of_mem _ (List.mem_cons_of_mem _ (ih m).1), List.mem_cons_of_mem _ (List.mem_cons_of_mem _ (ih m).2)⟩
/-- strictly ascending, with just these members -/
structure CutsOf (l cuts : List Int) : Prop where
  asc : cuts.Pairwise (· < ·)
  mem : ∀ k, k ∈ cuts ↔ k ∈ l
theorem cuts_one {l a b : List Int} (ha : CutsOf l a) (hb : CutsOf l b) : a = b := by
  have key : ∀ (a b : List Int), a.Pairwise (· < ·) → b.Pairwise (· < ·) → (∀ k, k ∈ a ↔ k ∈ b) → a = b := by
    intro a
    induction a with
    | nil =>
      intro b _ _ h
      cases b with
      | nil => rfl
      | cons y t => exact absurd ((h y).mpr List.mem_cons_self) (by simp)
    | cons x r ih =>
      intro b ha hb h
      cases b with
      | nil => exact absurd ((h x).mp List.mem_cons_self) (by simp)
      | cons y t =>
        obtain ⟨a1, a2⟩ := List.pairwise_cons.mp ha
        obtain ⟨b1, b2⟩ := List.pairwise_cons.mp hb
        have exy : x = y := by
          rcases List.mem_cons.mp ((h x).mp List.mem_cons_self) with e | m
          · exact e
          · rcases List.mem_cons.mp ((h y).mpr List.mem_cons_self) with e | m'
            · exact e.symm
            · have := b1 x m
              have := a1 y m'
              omega
        subst exy
        refine congrArg (x :: ·) (ih t a2 b2 fun k => ⟨fun m => ?_, fun m => ?_⟩)
        · rcases List.mem_cons.mp ((h k).mp (List.mem_cons_of_mem _ m)) with e | q
          · have := a1 k m
            omega
          · exact q
        · rcases List.mem_cons.mp ((h k).mpr (List.mem_cons_of_mem _ m)) with e | q
          · have := b1 k m
            omega
          · exact q
  exact key a b ha.asc hb.asc fun k => (ha.mem k).trans (hb.mem k).symm
/-- the line of a form from low on -/
def lineOf (f : Form) (low : Int) : Option Line := match f.dropWhile fun s => decide (s.hi < low) with
  | [] => none
  | s :: _ => if s.lo ≤ low then some (s.at low, s.st) else none
/-- (low, high) between two cuts that follow one another -/
def cells : List Int → List (Int × Int)
  | a :: b :: r => (a, b - 1) :: cells (b :: r)
  | _ => []
theorem cells_in : ∀ {cuts : List Int}, cuts.Pairwise (· < ·) → ∀ c ∈ cells cuts, c.1 ≤ c.2 ∧ c.1 ∈ cuts ∧ c.2 + 1 ∈ cuts
  | [], _, c, h => by cases h
  | [_], _, c, h => by cases h
  | a :: b :: r, p, c, h => by
    obtain ⟨p1, p2⟩ := List.pairwise_cons.mp p
    rcases List.mem_cons.mp h with e | m
    · rw [e]
      have := p1 b List.mem_cons_self
      dsimp only
      refine ⟨by omega, List.mem_cons_self, ?_⟩
      rw [show b - 1 + 1 = b by omega]
      exact List.mem_cons_of_mem _ List.mem_cons_self
    · obtain ⟨q1, q2, q3⟩ := cells_in p2 c m
      exact ⟨q1, List.mem_cons_of_mem _ q2, List.mem_cons_of_mem _ q3⟩
theorem cells_pw : ∀ {cuts : List Int}, cuts.Pairwise (· < ·) → (cells cuts).Pairwise fun c d => c.2 < d.1
  | [], _ => List.Pairwise.nil
  | [_], _ => List.Pairwise.nil
  | a :: b :: r, p => by
    obtain ⟨p1, p2⟩ := List.pairwise_cons.mp p
    refine List.pairwise_cons.mpr ⟨fun c hc => ?_, cells_pw p2⟩
    obtain ⟨_, q2, _⟩ := cells_in p2 c hc
    obtain ⟨b1, _⟩ := List.pairwise_cons.mp p2
    show b - 1 < c.1
    rcases List.mem_cons.mp q2 with e | m
    · omega
    · have := b1 c.1 m
      omega
/-- no cut lies within a cell -/
theorem cells_free : ∀ {cuts : List Int}, cuts.Pairwise (· < ·) → ∀ c ∈ cells cuts, ∀ k ∈ cuts, k ≤ c.1 ∨ c.2 < k
  | [], _, c, h, _, _ => by cases h
  | [_], _, c, h, _, _ => by cases h
  | a :: b :: r, p, c, h, k, hk => by
    obtain ⟨p1, p2⟩ := List.pairwise_cons.mp p
    obtain ⟨b1, _⟩ := List.pairwise_cons.mp p2
    rcases List.mem_cons.mp h with e | m
    · rw [e]
      show k ≤ a ∨ b - 1 < k
      rcases List.mem_cons.mp hk with e2 | m2
      · omega
      · rcases List.mem_cons.mp m2 with e3 | m3
        · omega
        · have := b1 k m3
          omega
    · rcases List.mem_cons.mp hk with e2 | m2
      · obtain ⟨_, q2, _⟩ := cells_in p2 c m
        have := p1 c.1 q2
        omega
      · exact cells_free p2 c m k m2
/-- every amount between the cuts lies in a cell -/
theorem cells_cover : ∀ {cuts : List Int}, cuts.Pairwise (· < ·) → ∀ x a b : Int, a ∈ cuts → b ∈ cuts → a ≤ x → x < b → ∃ c ∈ cells cuts, c.1 ≤ x ∧ x ≤ c.2
  | [], _, _, _, _, h, _, _, _ => by cases h
  | [y], _, x, a, b, h, h2, h3, h4 => by
    rw [List.mem_singleton.mp h] at h3
    rw [List.mem_singleton.mp h2] at h4
    omega
  | y :: z :: r, p, x, a, b, h, h2, h3, h4 => by
    obtain ⟨p1, p2⟩ := List.pairwise_cons.mp p
    by_cases c : x < z
    · refine ⟨(y, z - 1), List.mem_cons_self, ?_, ?_⟩
      · show y ≤ x
        rcases List.mem_cons.mp h with e | m
        · omega
        · have := p1 a m
          omega
      · show x ≤ z - 1
        omega
    · obtain ⟨d, hd, q⟩ := cells_cover p2 x z b List.mem_cons_self (by
        rcases List.mem_cons.mp h2 with e | m
        · have := p1 z List.mem_cons_self
          omega
        · exact m) (by omega) h4
      exact ⟨d, List.mem_cons_of_mem _ hd, q⟩
theorem line_cost {f : Form} (a : Asc f) {lo hi x : Int} (h1 : lo ≤ x) (h2 : x ≤ hi) (free : ∀ k ∈ ends f, k ≤ lo ∨ hi < k) : costAt f x = (lineOf f lo).map fun l => lineAt l lo x := by
  unfold lineOf
  induction f with
  | nil => rfl
  | cons s r ih =>
    have es := free s.lo (ends_mem List.mem_cons_self).1
    have eh := free (s.hi + 1) (ends_mem List.mem_cons_self).2
    have fr : ∀ k ∈ ends r, k ≤ lo ∨ hi < k := fun k hk => free k (List.mem_cons_of_mem _ (List.mem_cons_of_mem _ hk))
    rw [List.dropWhile_cons]
    show (if s.lo ≤ x ∧ x ≤ s.hi then some (s.at x) else costAt r x) = _
    by_cases c : s.hi < lo
    · rw [if_pos (decide_eq_true c), if_neg (by omega)]
      exact ih a.tail fr
    · have c' : ¬ (decide (s.hi < lo) = true) := fun z => c (of_decide_eq_true z)
      rw [if_neg c']
      show _ = Option.map _ (if s.lo ≤ lo then some (s.at lo, s.st) else none)
      by_cases d : s.lo ≤ lo
      · rw [if_pos d, if_pos (by omega)]
        show some (s.at x) = some (lineAt (s.at lo, s.st) lo x)
        exact congrArg some (at_shift s lo x).symm
      · rw [if_neg d, if_neg (by omega)]
        refine cost_none fun t ht q => ?_
        have := (List.pairwise_cons.mp a.pw).1 t ht
        have := a.ne s List.mem_cons_self
        omega
/-- the rows that a function of a cell and the two lines gives -/
def cellRows (g : Int → Int → Option Line → Option Line → List S4) (f h : Form) (cuts : List Int) : List S4 := (cells cuts).flatMap fun c => g c.1 c.2 (lineOf f c.1) (lineOf h c.1)
structure CellOk (g : Int → Int → Option Line → Option Line → List S4) (op : Option Int → Option Int → Option Int) : Prop where
  asc : ∀ lo hi a b, lo ≤ hi → Asc (g lo hi a b)
  inn : ∀ lo hi a b, lo ≤ hi → ∀ s ∈ g lo hi a b, lo ≤ s.lo ∧ s.hi ≤ hi
  cost : ∀ lo hi a b x, lo ≤ x → x ≤ hi → costAt (g lo hi a b) x = op (a.map fun l => lineAt l lo x) (b.map fun l => lineAt l lo x)
  non : op none none = none
theorem cellRows_ok {g : Int → Int → Option Line → Option Line → List S4} {op : Option Int → Option Int → Option Int} (G : CellOk g op) {f h : Form} (af : Asc f) (ah : Asc h) {cuts : List Int} (C : CutsOf (ends (f ++ h)) cuts) :
    Asc (cellRows g f h cuts) ∧ ∀ x, costAt (cellRows g f h cuts) x = op (costAt f x) (costAt h x) := by
  have em : ∀ l m : Form, ∀ k, k ∈ ends (l ++ m) ↔ k ∈ ends l ∨ k ∈ ends m := by
    intro l m k
    induction l with
    | nil => simp [ends]
    | cons s r ih => simp only [List.cons_append, ends, List.mem_cons, ih, or_assoc]
  have hin := cells_in C.asc
  have asc : Asc (cellRows g f h cuts) := by
    refine asc_flat (fun c hc => G.asc _ _ _ _ (hin c hc).1) ((List.Pairwise.and_mem.mp (cells_pw C.asc)).imp fun {c d} q s hs t ht => ?_)
    have h1 := G.inn _ _ _ _ (hin c q.1).1 s hs
    have h2 := G.inn _ _ _ _ (hin d q.2.1).1 t ht
    have := q.2.2
    omega
  refine ⟨asc, fun x => ?_⟩
  by_cases hx : ∃ c ∈ cells cuts, c.1 ≤ x ∧ x ≤ c.2
  · obtain ⟨c, hc, h1, h2⟩ := hx
    have fr := cells_free C.asc c hc
    rw [line_cost af h1 h2 fun k hk => fr k ((C.mem k).mpr ((em f h k).mpr (.inl hk))), line_cost ah h1 h2 fun k hk => fr k ((C.mem k).mpr ((em f h k).mpr (.inr hk))), ← G.cost c.1 c.2 _ _ x h1 h2]
    -- the cell's own rows
    have pw := cells_pw C.asc
    have go : ∀ l : List (Int × Int), (∀ d ∈ l, d ∈ cells cuts) → l.Pairwise (fun c d => c.2 < d.1) → c ∈ l → costAt (l.flatMap fun c => g c.1 c.2 (lineOf f c.1) (lineOf h c.1)) x = costAt (g c.1 c.2 (lineOf f c.1) (lineOf h c.1)) x := by
      intro l
      induction l with
      | nil =>
        intro _ _ hm
        cases hm
      | cons d r ih =>
        intro hl hp hm
        obtain ⟨hp1, hp2⟩ := List.pairwise_cons.mp hp
        rw [List.flatMap_cons, cost_append]
        by_cases e : c = d
        · rw [← e]
          have z : costAt (r.flatMap fun c => g c.1 c.2 (lineOf f c.1) (lineOf h c.1)) x = none := by
            refine cost_none fun s hs q => ?_
            obtain ⟨u, hu, hs⟩ := List.mem_flatMap.mp hs
            have h3 := G.inn _ _ _ _ (hin u (hl u (List.mem_cons_of_mem _ hu))).1 s hs
            have h4 := hp1 u hu
            rw [← e] at h4
            omega
          rw [z]
          exact Option.or_none
        · have hm2 : c ∈ r := (List.mem_cons.mp hm).resolve_left e
          have z : costAt (g d.1 d.2 (lineOf f d.1) (lineOf h d.1)) x = none := by
            refine cost_none fun s hs q => ?_
            have h3 := G.inn _ _ _ _ (hin d (hl d List.mem_cons_self)).1 s hs
            have h4 := hp1 c hm2
            omega
          rw [z, Option.none_or]
          exact ih (fun u hu => hl u (List.mem_cons_of_mem _ hu)) hp2 hm2
    exact go _ (fun _ q => q) pw hc
  · have n1 : ∀ l : Form, (∀ s ∈ l, s.lo ∈ cuts ∧ s.hi + 1 ∈ cuts) → costAt l x = none := fun l hl => cost_none fun s hs q => by
      obtain ⟨a1, a2⟩ := hl s hs
      exact hx (cells_cover C.asc x _ _ a1 a2 q.1 (by omega))
    rw [n1 f fun s hs => ⟨(C.mem _).mpr ((em f h _).mpr (.inl (ends_mem hs).1)), (C.mem _).mpr ((em f h _).mpr (.inl (ends_mem hs).2))⟩,
      n1 h fun s hs => ⟨(C.mem _).mpr ((em f h _).mpr (.inr (ends_mem hs).1)), (C.mem _).mpr ((em f h _).mpr (.inr (ends_mem hs).2))⟩, G.non]
    refine cost_none fun s hs q => hx ?_
    obtain ⟨c, hc, hs⟩ := List.mem_flatMap.mp hs
    have h3 := G.inn _ _ _ _ (hin c hc).1 s hs
    exact ⟨c, hc, by omega, by omega⟩
/-! ### least, greatest -/
def leastCell (lo hi : Int) : Option Line → Option Line → List S4
  | some a, some b => lowerLine a b lo hi
  | some a, none => [⟨lo, hi, a.1, a.2⟩]
  | none, some b => [⟨lo, hi, b.1, b.2⟩]
  | none, none => []
def cheaper : Option Int → Option Int → Option Int
  | some a, some b => some (mn a b)
  | some a, none => some a
  | none, b => b
theorem least_cell : CellOk leastCell cheaper where
  asc := fun lo hi a b hl => by
    cases a <;> cases b
    · exact Asc.nil
    · exact Asc.one hl
    · exact Asc.one hl
    · exact lowerLine_asc hl
  inn := fun lo hi a b hl s hs => by
    cases a <;> cases b
    · cases hs
    · rw [List.mem_singleton.mp hs]; exact ⟨Int.le_refl _, Int.le_refl _⟩
    · rw [List.mem_singleton.mp hs]; exact ⟨Int.le_refl _, Int.le_refl _⟩
    · exact ⟨(lowerLine_in hl hs).1, (lowerLine_in hl hs).2.1⟩
  cost := fun lo hi a b x h1 h2 => by
    cases a with
    | none =>
      cases b with
      | none => rfl
      | some b => exact (cost1 _ _).trans (if_pos ⟨h1, h2⟩)
    | some a =>
      cases b with
      | none => exact (cost1 _ _).trans (if_pos ⟨h1, h2⟩)
      | some b => exact (lowerLine_cost (by omega) x).trans (if_pos ⟨h1, h2⟩)
  non := rfl
def negS (s : S4) : S4 := ⟨s.lo, s.hi, -s.pr, -s.st⟩
def negL (l : Line) : Line := (-l.1, -l.2)
def greatCell (lo hi : Int) : Option Line → Option Line → List S4
  | some a, some b => (lowerLine (negL a) (negL b) lo hi).map negS
  | _, _ => []
theorem neg_cost (x : Int) : ∀ f : Form, costAt (f.map negS) x = (costAt f x).map fun c => -c
  | [] => rfl
  | s :: r => by
    show (if s.lo ≤ x ∧ x ≤ s.hi then some (-s.pr + -s.st * (x - s.lo)) else costAt (r.map negS) x) = Option.map (fun c => -c) (if s.lo ≤ x ∧ x ≤ s.hi then some (s.pr + s.st * (x - s.lo)) else costAt r x)
    split
    · rw [Int.neg_mul]
      refine congrArg some ?_
      show _ = -(s.pr + s.st * (x - s.lo))
      omega
    · exact neg_cost x r
theorem great_cell : CellOk greatCell (both mx) where
  asc := fun lo hi a b hl => by
    cases a <;> cases b
    · exact Asc.nil
    · exact Asc.nil
    · exact Asc.nil
    · rename_i a b
      have q := lowerLine_asc (one := negL a) (other := negL b) hl
      exact ⟨List.pairwise_map.mpr q.pw, fun s hs => by
        obtain ⟨t, ht, e⟩ := List.mem_map.mp hs
        rw [← e]
        exact q.ne t ht⟩
  inn := fun lo hi a b hl s hs => by
    cases a <;> cases b
    · cases hs
    · cases hs
    · cases hs
    · obtain ⟨t, ht, e⟩ := List.mem_map.mp hs
      rw [← e]
      exact ⟨(lowerLine_in hl ht).1, (lowerLine_in hl ht).2.1⟩
  cost := fun lo hi a b x h1 h2 => by
    cases a with
    | none => cases b <;> rfl
    | some a =>
      cases b with
      | none => rfl
      | some b =>
        show costAt ((lowerLine (negL a) (negL b) lo hi).map negS) x = some (mx (lineAt a lo x) (lineAt b lo x))
        rw [neg_cost, lowerLine_cost (by omega) x, if_pos ⟨h1, h2⟩]
        refine congrArg some ?_
        have e : ∀ l : Line, lineAt (negL l) lo x = -lineAt l lo x := fun l => by
          show -l.1 + -l.2 * (x - lo) = -(l.1 + l.2 * (x - lo))
          rw [Int.neg_mul]
          omega
        rw [e, e]
        show -(mn (-lineAt a lo x) (-lineAt b lo x)) = _
        unfold mn mx
        split <;> split <;> omega
  non := rfl
/-- the cuts of two forms: the strictly ascending list of their ends -/
def insertC (k : Int) : List Int → List Int
  | [] => [k]
  | x :: r => if k < x then k :: x :: r else if k = x then x :: r else x :: insertC k r
theorem insertC_mem (k j : Int) : ∀ l : List Int, j ∈ insertC k l ↔ j = k ∨ j ∈ l
  | [] => by simp [insertC]
  | x :: r => by
    unfold insertC
    split
    · simp
    · split
      · rename_i e
        subst e
        simp
      · simp only [List.mem_cons, insertC_mem k j r]
        constructor
        · rintro (h | h | h)
          · exact .inr (.inl h)
          · exact .inl h
          · exact .inr (.inr h)
        · rintro (h | h | h)
          · exact .inr (.inl h)
          · exact .inl h
          · exact .inr (.inr h)
theorem insertC_asc (k : Int) : ∀ {l : List Int}, l.Pairwise (· < ·) → (insertC k l).Pairwise (· < ·)
  | [], _ => List.pairwise_singleton _ _
  | x :: r, p => by
    obtain ⟨p1, p2⟩ := List.pairwise_cons.mp p
    unfold insertC
    split
    · rename_i c
      refine List.pairwise_cons.mpr ⟨fun y hy => ?_, p⟩
      rcases List.mem_cons.mp hy with e | m
      · omega
      · have := p1 y m
        omega
    · split
      · exact p
      · rename_i c d
        refine List.pairwise_cons.mpr ⟨fun y hy => ?_, insertC_asc k p2⟩
        rcases (insertC_mem k y r).mp hy with e | m
        · omega
        · exact p1 y m
def cutsOf (l : List Int) : List Int := l.foldr insertC []
theorem cutsOf_ok (l : List Int) : CutsOf l (cutsOf l) := by
  induction l with
  | nil => exact ⟨List.Pairwise.nil, fun k => Iff.rfl⟩
  | cons x r ih =>
    refine ⟨insertC_asc x ih.asc, fun k => ?_⟩
    show k ∈ insertC x (cutsOf r) ↔ _
    rw [insertC_mem, ih.mem, List.mem_cons]
def cuts2 (f g : Form) : List Int := cutsOf (ends (f ++ g))
def least (f g : Form) : Form := laid (cellRows leastCell f g (cuts2 f g))
def greatest (f g : Form) : Form := laid (cellRows greatCell f g (cuts2 f g))
theorem least_ok {f g : Form} (a : Asc f) (b : Asc g) : Asc (least f g) ∧ ∀ x, costAt (least f g) x = cheaper (costAt f x) (costAt g x) := by
  obtain ⟨k1, k2⟩ := cellRows_ok least_cell a b (cutsOf_ok (ends (f ++ g)))
  exact ⟨laid_asc k1, fun x => (laid_cost k1 x).trans (k2 x)⟩
theorem greatest_ok {f g : Form} (a : Asc f) (b : Asc g) : Asc (greatest f g) ∧ ∀ x, costAt (greatest f g) x = both mx (costAt f x) (costAt g x) := by
  obtain ⟨k1, k2⟩ := cellRows_ok great_cell a b (cutsOf_ok (ends (f ++ g)))
  exact ⟨laid_asc k1, fun x => (laid_cost k1 x).trans (k2 x)⟩
end OH
set_option autoImplicit false
set_option linter.all false
/-! Plans: what is due, the form that is made; sizes. -/
namespace OH
/-! ### sizes -/
def Sz (n : Nat) (i : Int) : Prop := i.natAbs < 2 ^ n
theorem Sz.mono {n m : Nat} {i : Int} (h : Sz n i) (l : n ≤ m) : Sz m i := Nat.lt_of_lt_of_le h (Nat.pow_le_pow_right (by decide) l)
theorem Sz.add {n : Nat} {i j : Int} (h : Sz n i) (k : Sz n j) : Sz (n + 1) (i + j) := by
  unfold Sz at *
  rw [Nat.pow_succ]
  omega
theorem Sz.neg {n : Nat} {i : Int} (h : Sz n i) : Sz n (-i) := by
  unfold Sz at *
  omega
theorem Sz.sub {n : Nat} {i j : Int} (h : Sz n i) (k : Sz n j) : Sz (n + 1) (i - j) := by
  unfold Sz at *
  rw [Nat.pow_succ]
  omega
theorem Sz.mul {n m : Nat} {i j : Int} (h : Sz n i) (k : Sz m j) : Sz (n + m) (i * j) := by
  unfold Sz at *
  rw [Int.natAbs_mul, Nat.pow_add]
  exact Nat.mul_lt_mul'' h k
theorem Sz.zero {n : Nat} : Sz n 0 := Nat.two_pow_pos n
theorem Sz.btw {n : Nat} {i j k : Int} (hi : Sz n i) (hk : Sz n k) (h1 : i ≤ j) (h2 : j ≤ k) : Sz n j := by
  unfold Sz at *
  omega
theorem Sz.mx {n : Nat} {i j : Int} (h : Sz n i) (k : Sz n j) : Sz n (OH.mx i j) := by
  unfold OH.mx
  split <;> assumption
theorem Sz.mn {n : Nat} {i j : Int} (h : Sz n i) (k : Sz n j) : Sz n (OH.mn i j) := by
  unfold OH.mn
  split <;> assumption
/-- amounts below 2^a, prices below 2^p -/
structure SB (a p : Nat) (s : S4) : Prop where
  lo : Sz a s.lo
  hi : Sz a s.hi
  pr : Sz p s.pr
  st : Sz p s.st
def FB (a p : Nat) (f : List S4) : Prop := ∀ s ∈ f, SB a p s
theorem SB.mono {a p b q : Nat} {s : S4} (h : SB a p s) (l : a ≤ b) (m : p ≤ q) : SB b q s := ⟨h.lo.mono l, h.hi.mono l, h.pr.mono m, h.st.mono m⟩
theorem FB.mono {a p b q : Nat} {f : List S4} (h : FB a p f) (l : a ≤ b) (m : p ≤ q) : FB b q f := fun s hs => (h s hs).mono l m
theorem SB.at {a p : Nat} {s : S4} (h : SB a p s) {x : Int} (hx : Sz a x) : Sz (p + a + 2) (s.at x) := by
  have h1 : Sz (p + (a + 1)) (s.st * (x - s.lo)) := h.st.mul (hx.sub h.lo)
  have h2 : Sz (p + (a + 1)) s.pr := h.pr.mono (by omega)
  exact (h2.add h1).mono (by omega)
theorem FB.nil {a p : Nat} : FB a p [] := fun _ h => nomatch h
theorem FB.append {a p : Nat} {f g : List S4} (h : FB a p f) (k : FB a p g) : FB a p (f ++ g) := fun s hs => (List.mem_append.mp hs).elim (h s) (k s)
theorem FB.one {a p : Nat} {s : S4} (h : SB a p s) : FB a p [s] := fun t ht => by rw [List.mem_singleton.mp ht]; exact h
theorem FB.clip {a p : Nat} {s : S4} (h : SB a p s) {lo hi : Int} (hl : Sz a lo) (hh : Sz a hi) : FB a (p + a + 2) (OH.clip s lo hi) := by
  unfold OH.clip
  split
  · exact FB.nil
  · exact FB.one ⟨hl.mx h.lo, hh.mn h.hi, h.at (hl.mx h.lo), h.st.mono (by omega)⟩
/-- laid's list so far -/
structure TB (a p : Nat) (s : S4) : Prop where
  lo : Sz a s.lo
  hi : Sz a s.hi
  pr : Sz (p + 1) s.pr
  st : Sz (p + 2) s.st
  ne : s.lo ≤ s.hi
theorem TB.sb {a p : Nat} {s : S4} (h : TB a p s) : SB a (p + 2) s := ⟨h.lo, h.hi, h.pr.mono (by omega), h.st⟩
theorem tb_begun {a p : Nat} {lo hi pr st : Int} (h1 : Sz a lo) (h2 : Sz a hi) (h3 : Sz (p + 1) pr) (h4 : Sz p st) (hl : lo ≤ hi) : TB a p (begun lo hi pr st) := by
  unfold begun
  split
  · exact ⟨h1, h2, h3, Sz.zero, hl⟩
  · exact ⟨h1, h2, h3, h4.mono (by omega), hl⟩
theorem tb_step {a p : Nat} {told : List S4} {r : S4} (h : ∀ s ∈ told, TB a p s) (hr : SB a p r) (hl : r.lo ≤ r.hi) : ∀ s ∈ laidStep told r, TB a p s := by
  have beg : ∀ s ∈ told ++ [begun r.lo r.hi r.pr r.st], TB a p s := fun s hs => by
    rcases List.mem_append.mp hs with m | m
    · exact h s m
    · rw [List.mem_singleton.mp m]
      exact tb_begun hr.lo hr.hi (hr.pr.mono (by omega)) hr.st hl
  unfold laidStep
  split
  · exact beg
  · rename_i t ht
    split
    · rename_i j
      have htm : t ∈ told := by rw [last_split ht]; simp
      have b := h t htm
      have ho : Sz (p + 2) (own t r.pr) := by
        unfold own
        split
        · exact (hr.pr.mono (by omega)).sub b.pr
        · exact b.st
      have jh := joins_hi j
      have := b.ne
      intro s hs
      rcases List.mem_append.mp hs with m | m
      · exact h s (List.dropLast_subset _ m)
      · unfold joined at m
        split at m
        · rw [List.mem_singleton.mp m]
          exact ⟨b.lo, hr.hi, b.pr, ho, (show t.lo ≤ r.hi by omega)⟩
        · rename_i c
          have c1 : ¬ r.lo = r.hi := fun z => c (Or.inl z)
          rcases List.mem_cons.mp m with e | m
          · rw [e]
            exact ⟨b.lo, hr.lo, b.pr, ho, (show t.lo ≤ r.lo by omega)⟩
          · rw [List.mem_singleton.mp m]
            exact tb_begun (hr.lo.btw hr.hi (by omega) (by omega)) hr.hi (hr.pr.add hr.st) hr.st (by omega)
    · exact beg
theorem tb_go {a p : Nat} : ∀ (rows told : List S4), (∀ s ∈ told, TB a p s) → FB a p rows → (∀ r ∈ rows, r.lo ≤ r.hi) → ∀ s ∈ rows.foldl laidStep told, TB a p s
  | [], told, h, _, _ => h
  | r :: rows, told, h, hb, hn => tb_go rows (laidStep told r) (tb_step h (hb r List.mem_cons_self) (hn r List.mem_cons_self)) (fun s hs => hb s (List.mem_cons_of_mem _ hs)) fun s hs => hn s (List.mem_cons_of_mem _ hs)
theorem FB.laid {a p : Nat} {rows : List S4} (h : FB a p rows) (hn : ∀ r ∈ rows, r.lo ≤ r.hi) : FB a (p + 2) (OH.laid rows) := fun s hs => (tb_go rows [] (fun _ z => nomatch z) h hn s hs).sb
theorem FB.flat {a p : Nat} {α : Type} {l : List α} {g : α → List S4} (h : ∀ s ∈ l, FB a p (g s)) : FB a p (l.flatMap g) := fun s hs => by
  obtain ⟨u, hu, q⟩ := List.mem_flatMap.mp hs
  exact h u hu s q
theorem FB.withinR {a p : Nat} {f : Form} (h : FB a p f) {lo hi : Int} (hl : Sz a lo) (hh : Sz a hi) : FB a (p + a + 2) (OH.withinR f lo hi) := FB.flat fun s hs => FB.clip (h s hs) hl hh
theorem FB.withoutR {a p : Nat} {f : Form} (h : FB a p f) (h2 : 2 ≤ a) : FB a (p + a + 2) (OH.withoutR f 0 0) := FB.flat fun s hs => by
  have one : Sz a 1 := (show Sz 2 1 by unfold Sz; decide).mono h2
  have mone : Sz a (0 - 1) := (show Sz 2 (0 - 1) by unfold Sz; decide).mono h2
  exact (FB.clip (h s hs) (h s hs).lo mone).append (FB.clip (h s hs) (show Sz a (0 + 1) from one) (h s hs).hi)
theorem FB.raisedR {a p : Nat} {f : Form} (h : FB a p f) {x : Int} (hx : Sz p x) : FB a (p + 1) (OH.raisedR f x) := fun s hs => by
  obtain ⟨t, ht, e⟩ := List.mem_map.mp hs
  rw [← e]
  have b := h t ht
  exact ⟨b.lo, b.hi, b.pr.add hx, b.st.mono (by omega)⟩
theorem FB.freedR {a p : Nat} {f : Form} (h : FB a p f) (af : Asc f) (h2 : 2 ≤ a) {c : Int} (hc : Sz a c) : FB (a + 1) (p + a + 2) (OH.freedR f c) := by
  have one : Sz a 1 := (show Sz 2 1 by unfold Sz; decide).mono h2
  refine FB.append ?_ (FB.flat fun s hs t ht => ?_)
  · unfold freedHead
    split
    · exact FB.nil
    · rename_i p0 e
      obtain ⟨s, hs, _, _, e2⟩ := cost_some e
      refine FB.one ⟨Sz.zero, hc.mono (by omega), ?_, Sz.zero⟩
      show Sz _ p0
      rw [e2]
      exact (h s hs).at Sz.zero
  · obtain ⟨u, hu, e⟩ := List.mem_map.mp ht
    rw [← e]
    have b := FB.clip (h s hs) one (h s hs).hi u hu
    exact ⟨b.lo.add hc, b.hi.add hc, b.pr, b.st⟩
theorem FB.plusR {a p : Nat} : ∀ {f g : Form}, FB a p f → FB a p g → FB a (p + a + 3) (OH.plusR f g)
  | [], _, _, _ => by rw [OH.plusR]; exact FB.nil
  | _ :: _, [], _, _ => by rw [OH.plusR]; exact FB.nil
  | x :: r, y :: t, hf, hg => by
    rw [OH.plusR]
    have hx := hf x List.mem_cons_self
    have hy := hg y List.mem_cons_self
    refine FB.append ?_ ?_
    · have q := FB.clip hx hy.lo hy.hi
      unfold plusOne
      split
      · exact FB.nil
      · rename_i u l e
        have b := q u (by rw [e]; exact List.mem_cons_self)
        have e2 : u.st = x.st := by
          unfold OH.clip at e
          split at e
          · cases e
          · injection e with e1 _
            rw [← e1]
        have z : Sz (p + a + 3) (u.st + y.st) := by
          rw [e2]
          exact (hx.st.add hy.st).mono (by omega)
        exact FB.one ⟨b.lo, b.hi, b.pr.add (hy.at b.lo), z⟩
    · split
      · exact FB.plusR (fun s hs => hf s (List.mem_cons_of_mem _ hs)) hg
      · exact FB.plusR hf fun s hs => hg s (List.mem_cons_of_mem _ hs)
termination_by f g => f.length + g.length
def LB (p : Nat) (l : Line) : Prop := Sz p l.1 ∧ Sz p l.2
theorem LB.at {a p : Nat} {l : Line} (h : LB p l) {lo x : Int} (hl : Sz a lo) (hx : Sz a x) : Sz (p + a + 2) (lineAt l lo x) := by
  have h1 : Sz (p + (a + 1)) (l.2 * (x - lo)) := h.2.mul (hx.sub hl)
  have h2 : Sz (p + (a + 1)) l.1 := h.1.mono (by omega)
  exact (h2.add h1).mono (by omega)
theorem FB.lowerLine {a p : Nat} {one other : Line} (h1 : LB p one) (h2 : LB p other) {lo hi : Int} (hl : Sz a lo) (hh : Sz a hi) (le : lo ≤ hi) : FB a (p + a + 2) (OH.lowerLine one other lo hi) := by
  intro s hs
  have w := lowerLine_in le hs
  have slo : Sz a s.lo := hl.btw hh w.1 (by omega)
  have shi : Sz a s.hi := hl.btw hh (by omega) w.2.1
  refine ⟨slo, shi, ?_, ?_⟩
  · unfold OH.lowerLine at hs
    split at hs
    · rw [List.mem_singleton.mp hs]
      exact h2.1.mono (by omega)
    · rename_i x y e
      have r := nd_range e
      rcases List.mem_append.mp hs with hs | hs
      · rcases List.mem_append.mp hs with hs | hs
        · obtain ⟨_, e2⟩ := if_list hs
          rw [e2]
          exact h2.1.mono (by omega)
        · have e2 := List.mem_singleton.mp hs
          rw [e2] at slo ⊢
          exact h1.at hl slo
      · obtain ⟨_, e2⟩ := if_list hs
        rw [e2] at slo ⊢
        exact h2.at hl slo
  · unfold OH.lowerLine at hs
    split at hs
    · rw [List.mem_singleton.mp hs]
      exact h2.2.mono (by omega)
    · rcases List.mem_append.mp hs with hs | hs
      · rcases List.mem_append.mp hs with hs | hs
        · obtain ⟨_, e2⟩ := if_list hs
          rw [e2]
          exact h2.2.mono (by omega)
        · rw [List.mem_singleton.mp hs]
          exact h1.2.mono (by omega)
      · obtain ⟨_, e2⟩ := if_list hs
        rw [e2]
        exact h2.2.mono (by omega)
theorem lb_lineOf {a p : Nat} {f : Form} (h : FB a p f) {low : Int} (hl : Sz a low) {l : Line} (e : lineOf f low = some l) : LB (p + a + 2) l := by
  unfold lineOf at e
  split at e
  · cases e
  · rename_i s r q
    have hm : s ∈ f := List.dropWhile_sublist _ |>.subset (show s ∈ f.dropWhile _ by rw [q]; exact List.mem_cons_self)
    split at e
    · injection e with e
      rw [← e]
      exact ⟨(h s hm).at hl, (h s hm).st.mono (by omega)⟩
    · cases e
theorem ends_sz {a p : Nat} {f : Form} (h : FB a p f) (h1 : 1 ≤ a) : ∀ k ∈ ends f, Sz (a + 1) k := by
  induction f with
  | nil => intro k hk; cases hk
  | cons s r ih =>
    intro k hk
    have b := h s List.mem_cons_self
    rcases List.mem_cons.mp hk with e | m
    · rw [e]
      exact b.lo.mono (by omega)
    · rcases List.mem_cons.mp m with e | m
      · rw [e]
        exact b.hi.add ((show Sz 1 1 by unfold Sz; decide).mono h1)
      · exact ih (fun t ht => h t (List.mem_cons_of_mem _ ht)) k m
theorem cells_sz {a : Nat} {cuts : List Int} (p : cuts.Pairwise (· < ·)) (h : ∀ k ∈ cuts, Sz a k) : ∀ c ∈ cells cuts, Sz a c.1 ∧ Sz a c.2 := by
  intro c hc
  obtain ⟨q1, q2, q3⟩ := cells_in p c hc
  exact ⟨h _ q2, (h _ q2).btw (h _ q3) q1 (by omega)⟩
theorem FB.cellRows {a p : Nat} {f g : Form} (hf : FB a p f) (hg : FB a p g) (h1 : 1 ≤ a) {c : Int → Int → Option Line → Option Line → List S4}
    (hc : ∀ lo hi x y, lo ≤ hi → Sz (a + 1) lo → Sz (a + 1) hi → (∀ l, x = some l → LB (p + a + 3) l) → (∀ l, y = some l → LB (p + a + 3) l) → FB (a + 1) (p + 2 * a + 6) (c lo hi x y)) : FB (a + 1) (p + 2 * a + 6) (OH.cellRows c f g (cuts2 f g)) := by
  have C := cutsOf_ok (ends (f ++ g))
  have sz : ∀ k ∈ cuts2 f g, Sz (a + 1) k := fun k hk => ends_sz (hf.append hg) h1 k ((C.mem k).mp hk)
  refine FB.flat fun x hx => ?_
  obtain ⟨s1, s2⟩ := cells_sz C.asc sz x hx
  refine hc _ _ _ _ (cells_in C.asc x hx).1 s1 s2 (fun l e => ?_) fun l e => ?_
  · have q := lb_lineOf (hf.mono (Nat.le_succ a) (Nat.le_refl p)) s1 e
    exact ⟨q.1.mono (by omega), q.2.mono (by omega)⟩
  · have q := lb_lineOf (hg.mono (Nat.le_succ a) (Nat.le_refl p)) s1 e
    exact ⟨q.1.mono (by omega), q.2.mono (by omega)⟩
theorem fb_leastCell {a p : Nat} (lo hi : Int) (x y : Option Line) (le : lo ≤ hi) (s1 : Sz (a + 1) lo) (s2 : Sz (a + 1) hi) (hx : ∀ l, x = some l → LB (p + a + 3) l) (hy : ∀ l, y = some l → LB (p + a + 3) l) : FB (a + 1) (p + 2 * a + 6) (leastCell lo hi x y) := by
  cases x with
  | none =>
    cases y with
    | none => exact FB.nil
    | some y =>
      have q := hy y rfl
      exact FB.one ⟨s1, s2, q.1.mono (by omega), q.2.mono (by omega)⟩
  | some x =>
    cases y with
    | none =>
      have q := hx x rfl
      exact FB.one ⟨s1, s2, q.1.mono (by omega), q.2.mono (by omega)⟩
    | some y => exact (FB.lowerLine (hx x rfl) (hy y rfl) s1 s2 le).mono (Nat.le_refl _) (by omega)
theorem fb_greatCell {a p : Nat} (lo hi : Int) (x y : Option Line) (le : lo ≤ hi) (s1 : Sz (a + 1) lo) (s2 : Sz (a + 1) hi) (hx : ∀ l, x = some l → LB (p + a + 3) l) (hy : ∀ l, y = some l → LB (p + a + 3) l) : FB (a + 1) (p + 2 * a + 6) (greatCell lo hi x y) := by
  cases x with
  | none => cases y <;> exact FB.nil
  | some x =>
    cases y with
    | none => exact FB.nil
    | some y =>
      have n : ∀ {l : Line}, LB (p + a + 3) l → LB (p + a + 3) (negL l) := fun h => ⟨h.1.neg, h.2.neg⟩
      intro s hs
      obtain ⟨t, ht, e⟩ := List.mem_map.mp hs
      have b := FB.lowerLine (n (hx x rfl)) (n (hy y rfl)) s1 s2 le t ht
      rw [← e]
      exact SB.mono ⟨b.lo, b.hi, b.pr.neg, b.st.neg⟩ (Nat.le_refl _) (by omega)
/-! ### plans -/
abbrev Rows := List (Int × Int)
inductive Plan (N : Type) where
  | each (u lo hi : Int)
  | flat (p lo hi : Int)
  | bands (r : Rows)
  | steps (r : Rows)
  | blocks (size p many : Int)
  | name (n : N) (p : Plan N)
  | plus (a b : Plan N)
  | cheap (a b : Plan N)
  | dear (a b : Plan N)
  | only (a : Plan N) (lo hi : Int)
  | after (a : Plan N) (c : Int)
  | fee (a : Plan N) (p : Int)
def bandsR : Int → Rows → List S4
  | _, [] => []
  | low, (top, u) :: r => ⟨low, top, u * low, u⟩ :: bandsR (top + 1) r
def stepsR : Int → Int → Rows → List S4
  | _, _, [] => []
  | price, done, (top, u) :: r => if top > done then ⟨done + 1, top, price + u, u⟩ :: stepsR (price + u * (top - done)) top r else stepsR price done r
def blocksR (size p : Int) (many : Nat) : List S4 := (List.range many).map fun (k : Nat) => ⟨size * (k : Int) + 1, size * ((k : Int) + 1), p * ((k : Int) + 1), 0⟩
def zeroS : S4 := ⟨0, 0, 0, 0⟩
def most : Nat := 60
def chk (f : Form) : Option Form := if f.length ≤ most then some f else none
def feeF (f : Form) (p : Int) : Form := least (within f 0 0) (raised (without f 0 0) p)
section
variable {N : Type}
def fm : Plan N → Option Form
  | .each u lo hi => chk (laid [⟨lo, hi, u * lo, u⟩])
  | .flat p lo hi => chk (laid [⟨lo, hi, p, 0⟩])
  | .bands r => chk (laid (bandsR 0 r))
  | .steps r => chk (laid (zeroS :: stepsR 0 0 r))
  | .blocks size p many => chk (laid (zeroS :: blocksR size p many.toNat))
  | .name _ p => fm p
  | .plus a b => (fm a).bind fun f => (fm b).bind fun g => chk (plus f g)
  | .cheap a b => (fm a).bind fun f => (fm b).bind fun g => chk (least f g)
  | .dear a b => (fm a).bind fun f => (fm b).bind fun g => chk (greatest f g)
  | .only a lo hi => (fm a).bind fun f => chk (within f lo hi)
  | .after a c => (fm a).bind fun f => chk (freed f c)
  | .fee a p => (fm a).bind fun f => chk (feeF f p)
def lastTop : Rows → Int
  | [] => 0
  | [r] => r.1
  | _ :: r => lastTop r
def bandUnit (x : Int) : Rows → Int
  | [] => 0
  | (top, u) :: r => if x ≤ top then u else bandUnit x r
def stepSum (x : Int) : Int → Rows → Int
  | _, [] => 0
  | done, (top, u) :: r => u * (mn x top - mn x done) + stepSum x top r
def cost : Plan N → Int → Option Int
  | .each u lo hi, x => if x < lo ∨ hi < x then none else some (u * x)
  | .flat p lo hi, x => if x < lo ∨ hi < x then none else some p
  | .bands r, x => if x < 0 ∨ x > lastTop r then none else some (x * bandUnit x r)
  | .steps r, x => if x < 0 ∨ x > lastTop r then none else some (stepSum x 0 r)
  | .blocks size p many, x => if x < 0 ∨ x > size * many then none else some (p * ((x + size - 1) / size))
  | .name _ p, x => cost p x
  | .plus a b, x => both (· + ·) (cost a x) (cost b x)
  | .cheap a b, x => cheaper (cost a x) (cost b x)
  | .dear a b, x => both mx (cost a x) (cost b x)
  | .only a lo hi, x => if x < lo ∨ hi < x then none else cost a x
  | .after a c, x => if x < 0 then none else cost a (mx 0 (x - c))
  | .fee a p, x => match cost a x with
    | none => none
    | some v => if x = 0 then some v else some (v + p)
structure RowsOk (r : Rows) : Prop where
  ne : r ≠ []
  asc : r.Pairwise fun a b => a.1 < b.1
  nn : ∀ q ∈ r, 0 ≤ q.1
  sz : ∀ q ∈ r, Sz 130 q.1 ∧ Sz 130 q.2
  len : r.length ≤ 2
def PlanOk : Plan N → Prop
  | .each u lo hi => lo ≤ hi ∧ Sz 130 u ∧ Sz 130 lo ∧ Sz 130 hi
  | .flat p lo hi => lo ≤ hi ∧ Sz 130 p ∧ Sz 130 lo ∧ Sz 130 hi
  | .bands r => RowsOk r
  | .steps r => RowsOk r
  | .blocks size p many => 1 ≤ size ∧ 1 ≤ many ∧ many ≤ 3 ∧ Sz 128 size ∧ Sz 130 p
  | .name _ p => PlanOk p
  | .plus a b => PlanOk a ∧ PlanOk b
  | .cheap a b => PlanOk a ∧ PlanOk b
  | .dear a b => PlanOk a ∧ PlanOk b
  | .only a lo hi => PlanOk a ∧ lo ≤ hi ∧ Sz 130 lo ∧ Sz 130 hi
  | .after a c => PlanOk a ∧ 0 ≤ c ∧ Sz 130 c
  | .fee a p => PlanOk a ∧ Sz 130 p
/-- the deeds one within another, names looked through -/
def ops : Plan N → Nat
  | .name _ p => ops p
  | .plus a b => max (ops a) (ops b) + 1
  | .cheap a b => max (ops a) (ops b) + 1
  | .dear a b => max (ops a) (ops b) + 1
  | .only a _ _ => ops a + 1
  | .after a _ => ops a + 1
  | .fee a _ => ops a + 1
  | _ => 0
def aB (n : Nat) : Nat := 131 + n
def pB (n : Nat) : Nat := 270 + 500 * n
/-! ### the leaves -/
theorem bandsR_lo : ∀ (r : Rows) (low : Int), (∀ q ∈ r, low ≤ q.1) → r.Pairwise (fun a b => a.1 < b.1) → ∀ s ∈ bandsR low r, low ≤ s.lo ∧ s.lo ≤ s.hi
  | [], _, _, _, s, h => by cases h
  | (top, u) :: r, low, h1, h2, s, h => by
    obtain ⟨p1, p2⟩ := List.pairwise_cons.mp h2
    have q := h1 (top, u) List.mem_cons_self
    rcases List.mem_cons.mp h with e | m
    · rw [e]
      exact ⟨Int.le_refl _, q⟩
    · have z := bandsR_lo r (top + 1) (fun t ht => by have := p1 t ht; dsimp only at this; omega) p2 s m
      dsimp only at q
      omega
theorem bandsR_asc : ∀ (r : Rows) (low : Int), (∀ q ∈ r, low ≤ q.1) → r.Pairwise (fun a b => a.1 < b.1) → Asc (bandsR low r)
  | [], _, _, _ => Asc.nil
  | (top, u) :: r, low, h1, h2 => by
    obtain ⟨p1, p2⟩ := List.pairwise_cons.mp h2
    have q := h1 (top, u) List.mem_cons_self
    have l2 : ∀ t ∈ r, top + 1 ≤ t.1 := fun t ht => by have := p1 t ht; dsimp only at this; omega
    have k := bandsR_asc r (top + 1) l2 p2
    refine ⟨List.pairwise_cons.mpr ⟨fun s hs => ?_, k.pw⟩, fun s hs => (bandsR_lo _ low h1 h2 s hs).2⟩
    have := bandsR_lo r (top + 1) l2 p2 s hs
    show top < s.lo
    omega
theorem lastTop_cons {q : Int × Int} {r : Rows} (h : r ≠ []) : lastTop (q :: r) = lastTop r := by
  cases r with
  | nil => exact absurd rfl h
  | cons => rfl
theorem lastTop_ge : ∀ (r : Rows), r.Pairwise (fun a b => a.1 < b.1) → ∀ q ∈ r, q.1 ≤ lastTop r
  | [], _, q, h => by cases h
  | [a], _, q, h => by rw [List.mem_singleton.mp h]; exact Int.le_refl _
  | a :: b :: r, p, q, h => by
    obtain ⟨p1, p2⟩ := List.pairwise_cons.mp p
    have z := lastTop_ge (b :: r) p2
    show q.1 ≤ lastTop (b :: r)
    rcases List.mem_cons.mp h with e | m
    · rw [e]
      have h1 := z b List.mem_cons_self
      have h2 := p1 b List.mem_cons_self
      omega
    · exact z q m
theorem bandsR_cost : ∀ (r : Rows) (low x : Int), r ≠ [] → (∀ q ∈ r, low ≤ q.1) → r.Pairwise (fun a b => a.1 < b.1) → costAt (bandsR low r) x = if x < low ∨ x > lastTop r then none else some (x * bandUnit x r)
  | [], _, _, h, _, _ => absurd rfl h
  | (top, u) :: r, low, x, _, h1, h2 => by
    obtain ⟨p1, p2⟩ := List.pairwise_cons.mp h2
    have q := h1 (top, u) List.mem_cons_self
    dsimp only at q
    have l2 : ∀ t ∈ r, top + 1 ≤ t.1 := fun t ht => by have := p1 t ht; dsimp only at this; omega
    show (if low ≤ x ∧ x ≤ top then some (u * low + u * (x - low)) else costAt (bandsR (top + 1) r) x) = if x < low ∨ x > lastTop ((top, u) :: r) then none else some (x * (if x ≤ top then u else bandUnit x r))
    have lt := lastTop_ge ((top, u) :: r) h2 (top, u) List.mem_cons_self
    dsimp only at lt
    by_cases c : low ≤ x ∧ x ≤ top
    · rw [if_pos c, if_neg (by omega), if_pos c.2]
      rw [← Int.mul_add, show low + (x - low) = x by omega, Int.mul_comm]
    · rw [if_neg c]
      by_cases hr : r = []
      · subst hr
        show none = _
        rw [if_pos]
        show x < low ∨ x > top
        omega
      · rw [bandsR_cost r (top + 1) x hr l2 p2, lastTop_cons hr]
        have lt2 : top < lastTop r := by
          cases r with
          | nil => exact absurd rfl hr
          | cons b t =>
            have h3 := lastTop_ge (b :: t) p2 b List.mem_cons_self
            have h4 := p1 b List.mem_cons_self
            dsimp only at h4
            omega
        by_cases d : x < low ∨ x > lastTop r
        · rw [if_pos d, if_pos (by omega)]
        · rw [if_neg d, if_neg (by omega), if_neg (by omega)]
theorem stepsR_lo : ∀ (r : Rows) (price done : Int), ∀ s ∈ stepsR price done r, done + 1 ≤ s.lo ∧ s.lo ≤ s.hi
  | [], _, _, s, h => by cases h
  | (top, u) :: r, price, done, s, h => by
    unfold stepsR at h
    split at h
    · rename_i c
      rcases List.mem_cons.mp h with e | m
      · rw [e]
        show done + 1 ≤ done + 1 ∧ done + 1 ≤ top
        omega
      · have := stepsR_lo r _ top s m
        omega
    · exact stepsR_lo r price done s h
theorem stepsR_asc : ∀ (r : Rows) (price done : Int), Asc (stepsR price done r)
  | [], _, _ => Asc.nil
  | (top, u) :: r, price, done => by
    unfold stepsR
    split
    · rename_i c
      have k := stepsR_asc r (price + u * (top - done)) top
      refine ⟨List.pairwise_cons.mpr ⟨fun s hs => ?_, k.pw⟩, fun s hs => ?_⟩
      · have := stepsR_lo r _ top s hs
        show top < s.lo
        omega
      · rcases List.mem_cons.mp hs with e | m
        · rw [e]
          show done + 1 ≤ top
          omega
        · exact k.ne s m
    · exact stepsR_asc r price done
/-- done: the greatest top so far (or nought); price: what the pieces up to it cost -/
theorem stepsR_cost : ∀ (r : Rows) (price done x : Int), (∀ q ∈ r, done ≤ q.1) → r.Pairwise (fun a b => a.1 < b.1) → done < x → costAt (stepsR price done r) x = if r = [] ∨ x > lastTop r then none else some (price + stepSum x done r)
  | [], _, _, _, _, _, _ => by rw [if_pos (Or.inl rfl)]; rfl
  | (top, u) :: r, price, done, x, h1, h2, hx => by
    obtain ⟨p1, p2⟩ := List.pairwise_cons.mp h2
    have q := h1 (top, u) List.mem_cons_self
    dsimp only at q
    have l2 : ∀ t ∈ r, top ≤ t.1 := fun t ht => by have := p1 t ht; dsimp only at this; omega
    have lt := lastTop_ge ((top, u) :: r) h2 (top, u) List.mem_cons_self
    dsimp only at lt
    have e1 : mn x done = done := by unfold mn; rw [if_pos (by omega)]
    have behind : ∀ (t : Rows), (∀ b ∈ t, x ≤ b.1) → ∀ d, x ≤ d → stepSum x d t = 0 := by
      intro t
      induction t with
      | nil => intros; rfl
      | cons b t ih =>
        intro hb d hd
        have z := hb b List.mem_cons_self
        show b.2 * (mn x b.1 - mn x d) + stepSum x b.1 t = 0
        rw [ih (fun c hc => hb c (List.mem_cons_of_mem _ hc)) b.1 z]
        have z1 : mn x b.1 = x := by unfold mn; split <;> omega
        have z2 : mn x d = x := by unfold mn; split <;> omega
        rw [z1, z2, Int.sub_self, Int.mul_zero]
        rfl
    unfold stepsR
    show costAt _ x = if _ ∨ x > lastTop ((top, u) :: r) then none else some (price + (u * (mn x top - mn x done) + stepSum x top r))
    rw [e1]
    split
    · rename_i c
      show (if done + 1 ≤ x ∧ x ≤ top then some (price + u + u * (x - (done + 1))) else costAt (stepsR (price + u * (top - done)) top r) x) = _
      by_cases d : x ≤ top
      · rw [if_pos (by omega), if_neg (by
          rintro (z | z)
          · cases z
          · omega), behind r (fun b hb => by have := l2 b hb; omega) top d]
        refine congrArg some ?_
        have z1 : mn x top = x := by unfold mn; split <;> omega
        rw [z1, show x - done = 1 + (x - (done + 1)) by omega, Int.mul_add, Int.mul_one]
        omega
      · rw [if_neg (by omega), stepsR_cost r _ top x l2 p2 (by omega)]
        have z1 : mn x top = top := by unfold mn; rw [if_pos (by omega)]
        rw [z1]
        by_cases hr : r = []
        · subst hr
          rw [if_pos (Or.inl rfl), if_pos (show [(top, u)] = [] ∨ x > lastTop [(top, u)] from Or.inr (show x > top by omega))]
        · rw [lastTop_cons hr]
          by_cases d2 : x > lastTop r
          · rw [if_pos (Or.inr d2), if_pos (Or.inr d2)]
          · rw [if_neg (by rintro (z | z); exact hr z; exact d2 z), if_neg (by rintro (z | z); cases z; exact d2 z)]
            exact congrArg some (by omega)
    · rename_i c
      have et : top = done := by omega
      subst et
      rw [stepsR_cost r price top x l2 p2 hx, e1, Int.sub_self, Int.mul_zero, Int.zero_add]
      by_cases hr : r = []
      · subst hr
        rw [if_pos (Or.inl rfl), if_pos (show [(top, u)] = [] ∨ x > lastTop [(top, u)] from Or.inr (show x > top by omega))]
      · rw [lastTop_cons hr]
        by_cases d2 : x > lastTop r
        · rw [if_pos (Or.inr d2), if_pos (Or.inr d2)]
        · rw [if_neg (by rintro (z | z); exact hr z; exact d2 z), if_neg (by rintro (z | z); cases z; exact d2 z)]
theorem steps_ok {r : Rows} (h : RowsOk r) : Asc (zeroS :: stepsR 0 0 r) ∧ ∀ x, costAt (zeroS :: stepsR 0 0 r) x = if x < 0 ∨ x > lastTop r then none else some (stepSum x 0 r) := by
  have k := stepsR_asc r 0 0
  have lo := stepsR_lo r 0 0
  refine ⟨⟨List.pairwise_cons.mpr ⟨fun s hs => ?_, k.pw⟩, fun s hs => ?_⟩, fun x => ?_⟩
  · have := lo s hs
    show 0 < s.lo
    omega
  · rcases List.mem_cons.mp hs with e | m
    · rw [e]
      exact Int.le_refl _
    · exact k.ne s m
  · have zer : ∀ (t : Rows) (d : Int), 0 ≤ d → (∀ b ∈ t, 0 ≤ b.1) → stepSum 0 d t = 0 := by
      intro t
      induction t with
      | nil => intros; rfl
      | cons b t ih =>
        intro d hd hb
        have z := hb b List.mem_cons_self
        show b.2 * (mn 0 b.1 - mn 0 d) + stepSum 0 b.1 t = 0
        rw [ih b.1 z fun c hc => hb c (List.mem_cons_of_mem _ hc)]
        have z1 : mn 0 b.1 = 0 := by unfold mn; split <;> omega
        have z2 : mn 0 d = 0 := by unfold mn; split <;> omega
        rw [z1, z2, Int.sub_self, Int.mul_zero]
        rfl
    have l0 : 0 ≤ lastTop r := by
      cases r with
      | nil => exact Int.le_refl _
      | cons b t =>
        have h1 := h.nn b List.mem_cons_self
        have h2 := lastTop_ge (b :: t) h.asc b List.mem_cons_self
        omega
    show (if 0 ≤ x ∧ x ≤ 0 then some (0 + 0 * (x - 0)) else costAt (stepsR 0 0 r) x) = _
    by_cases c : x = 0
    · subst c
      rw [if_pos (by omega), if_neg (by omega), zer r 0 (Int.le_refl _) h.nn]
      rfl
    · rw [if_neg (by omega)]
      by_cases d : x < 0
      · rw [if_pos (Or.inl d)]
        refine cost_none fun s hs q => ?_
        have := lo s hs
        omega
      · rw [stepsR_cost r 0 0 x h.nn h.asc (by omega)]
        by_cases e : x > lastTop r
        · rw [if_pos (Or.inr e), if_pos (Or.inr e)]
        · rw [if_neg (by rintro (z | z); exact h.ne z; exact e z), if_neg (by omega), Int.zero_add]
theorem ceil_eq {x size k : Int} (hs : 1 ≤ size) (h1 : size * k + 1 ≤ x) (h2 : x ≤ size * (k + 1)) : (x + size - 1) / size = k + 1 := by
  have e : x + size - 1 = (x - (size * k + 1)) + (k + 1) * size := by
    rw [Int.add_mul, Int.mul_comm k size]
    omega
  rw [e, Int.add_mul_ediv_right _ _ (by omega)]
  have : (x - (size * k + 1)) / size = 0 := by
    refine Int.ediv_eq_zero_of_lt (by omega) ?_
    rw [Int.mul_add] at h2
    omega
  omega
theorem blocks_ok {size p : Int} {many : Int} (hs : 1 ≤ size) (hm : 1 ≤ many) : Asc (zeroS :: blocksR size p many.toNat) ∧
    ∀ x, costAt (zeroS :: blocksR size p many.toNat) x = if x < 0 ∨ x > size * many then none else some (p * ((x + size - 1) / size)) := by
  have mono : ∀ i j : Int, i ≤ j → size * i ≤ size * j := fun i j h => Int.mul_le_mul_of_nonneg_left h (by omega)
  have asc : ∀ n : Nat, Asc (blocksR size p n) := fun n => by
    unfold blocksR
    refine ⟨List.pairwise_map.mpr (List.pairwise_lt_range.imp fun {i j} h => ?_), fun s hs' => ?_⟩
    · have := mono ((i : Int) + 1) (j : Int) (by omega)
      show size * ((i : Int) + 1) < size * (j : Int) + 1
      omega
    · obtain ⟨k, _, e⟩ := List.mem_map.mp hs'
      rw [← e]
      show size * (k : Int) + 1 ≤ size * ((k : Int) + 1)
      rw [Int.mul_add, Int.mul_one]
      omega
  have lo : ∀ n : Nat, ∀ s ∈ blocksR size p n, 1 ≤ s.lo := fun n s hs' => by
    obtain ⟨k, _, e⟩ := List.mem_map.mp hs'
    rw [← e]
    show 1 ≤ size * (k : Int) + 1
    have := mono 0 (k : Int) (Int.natCast_nonneg k)
    rw [Int.mul_zero] at this
    omega
  refine ⟨⟨List.pairwise_cons.mpr ⟨fun s h => ?_, (asc _).pw⟩, fun s h => ?_⟩, fun x => ?_⟩
  · have := lo _ s h
    show 0 < s.lo
    omega
  · rcases List.mem_cons.mp h with e | m
    · rw [e]
      exact Int.le_refl _
    · exact (asc _).ne s m
  · show (if 0 ≤ x ∧ x ≤ 0 then some (0 + 0 * (x - 0)) else costAt (blocksR size p many.toNat) x) = _
    have m0 := mono 0 many (by omega)
    rw [Int.mul_zero] at m0
    by_cases c : x = 0
    · subst c
      rw [if_pos (by omega), if_neg (by omega)]
      have : (0 + size - 1) / size = 0 := Int.ediv_eq_zero_of_lt (by omega) (by omega)
      rw [this, Int.mul_zero]
      rfl
    · rw [if_neg (by omega)]
      by_cases d : x < 0 ∨ x > size * many
      · rw [if_pos d]
        refine cost_none fun s hs' q => ?_
        obtain ⟨k, hk, e⟩ := List.mem_map.mp hs'
        have l := lo _ s hs'
        have hk' := List.mem_range.mp hk
        have := mono ((k : Int) + 1) many (by omega)
        rw [← e] at q l
        dsimp only at q l
        omega
      · rw [if_neg d]
        -- the block of x
        have hk0 : 0 ≤ (x - 1) / size := Int.ediv_nonneg (by omega) (by omega)
        have e1 := Int.mul_ediv_add_emod (x - 1) size
        have e2 := Int.emod_nonneg (x - 1) (show size ≠ 0 by omega)
        have e3 := Int.emod_lt_of_pos (x - 1) (show 0 < size by omega)
        have hb1 : size * ((x - 1) / size) + 1 ≤ x := by omega
        have hb2 : x ≤ size * ((x - 1) / size + 1) := by
          rw [Int.mul_add, Int.mul_one]
          omega
        have hkm : (x - 1) / size < many := by
          have : ¬ many ≤ (x - 1) / size := fun z => by
            have := mono many _ z
            omega
          exact Int.not_le.mp this
        have hmem : (⟨size * ((((x - 1) / size).toNat : Nat) : Int) + 1, size * ((((x - 1) / size).toNat : Nat) + 1), p * ((((x - 1) / size).toNat : Nat) + 1), 0⟩ : S4) ∈ blocksR size p many.toNat :=
          List.mem_map.mpr ⟨((x - 1) / size).toNat, List.mem_range.mpr (by omega), rfl⟩
        have ek : ((((x - 1) / size).toNat : Nat) : Int) = (x - 1) / size := Int.toNat_of_nonneg hk0
        rw [ek] at hmem
        rw [cost_of (asc _) hmem hb1 hb2, ceil_eq hs hb1 hb2]
        show some (p * ((x - 1) / size + 1) + 0 * (x - _)) = _
        rw [Int.zero_mul, Int.add_zero]
theorem chk_some {f g : Form} (h : chk f = some g) : g = f ∧ f.length ≤ most := by
  unfold chk at h
  split at h
  · rename_i c
    exact ⟨(Option.some.inj h).symm, c⟩
  · cases h
theorem fee_ok {f : Form} (a : Asc f) (p : Int) : Asc (feeF f p) ∧ ∀ x, costAt (feeF f p) x = match costAt f x with
    | none => none
    | some v => if x = 0 then some v else some (v + p) := by
  obtain ⟨a1, c1⟩ := within_ok a 0 0
  obtain ⟨a2, c2⟩ := without_ok a (Int.le_refl 0)
  obtain ⟨a3, c3⟩ := raised_ok a2 p
  obtain ⟨a4, c4⟩ := least_ok a1 a3
  refine ⟨a4, fun x => ?_⟩
  show costAt (least (within f 0 0) (raised (without f 0 0) p)) x = _
  rw [c4 x, c1 x, c3 x, c2 x]
  by_cases h : x = 0
  · subst h
    rw [if_pos (by omega), if_neg (by omega)]
    cases costAt f 0 <;> rfl
  · rw [if_neg (by omega), if_pos (by omega)]
    cases costAt f x with
    | none => rfl
    | some v =>
      show some (v + p) = if x = 0 then some v else some (v + p)
      rw [if_neg h]
/-- THE PLAIN LAW: the form costs what is due -/
theorem fm_ok : ∀ (p : Plan N) (f : Form), PlanOk p → fm p = some f → Asc f ∧ ∀ x, costAt f x = cost p x
  | .each u lo hi, f, h, e => by
    obtain ⟨rfl, _⟩ := chk_some e
    have a : Asc [(⟨lo, hi, u * lo, u⟩ : S4)] := Asc.one h.1
    refine ⟨laid_asc a, fun x => ?_⟩
    rw [laid_cost a x, cost1]
    show (if lo ≤ x ∧ x ≤ hi then some (u * lo + u * (x - lo)) else none) = if x < lo ∨ hi < x then none else some (u * x)
    by_cases c : lo ≤ x ∧ x ≤ hi
    · rw [if_pos c, if_neg (by omega), ← Int.mul_add, show lo + (x - lo) = x by omega]
    · rw [if_neg c, if_pos (by omega)]
  | .flat p lo hi, f, h, e => by
    obtain ⟨rfl, _⟩ := chk_some e
    have a : Asc [(⟨lo, hi, p, 0⟩ : S4)] := Asc.one h.1
    refine ⟨laid_asc a, fun x => ?_⟩
    rw [laid_cost a x, cost1]
    show (if lo ≤ x ∧ x ≤ hi then some (p + 0 * (x - lo)) else none) = if x < lo ∨ hi < x then none else some p
    by_cases c : lo ≤ x ∧ x ≤ hi
    · rw [if_pos c, if_neg (by omega), Int.zero_mul, Int.add_zero]
    · rw [if_neg c, if_pos (by omega)]
  | .bands r, f, h, e => by
    obtain ⟨rfl, _⟩ := chk_some e
    have a := bandsR_asc r 0 h.nn h.asc
    exact ⟨laid_asc a, fun x => (laid_cost a x).trans (bandsR_cost r 0 x h.ne h.nn h.asc)⟩
  | .steps r, f, h, e => by
    obtain ⟨rfl, _⟩ := chk_some e
    obtain ⟨a, c⟩ := steps_ok h
    exact ⟨laid_asc a, fun x => (laid_cost a x).trans (c x)⟩
  | .blocks size p many, f, h, e => by
    obtain ⟨rfl, _⟩ := chk_some e
    obtain ⟨a, c⟩ := blocks_ok (p := p) h.1 h.2.1
    exact ⟨laid_asc a, fun x => (laid_cost a x).trans (c x)⟩
  | .name _ p, f, h, e => fm_ok p f h e
  | .plus a b, f, h, e => by
    obtain ⟨fa, ea, e⟩ := Option.bind_eq_some_iff.mp (show (fm a).bind _ = some f from e)
    obtain ⟨fb, eb, e⟩ := Option.bind_eq_some_iff.mp e
    obtain ⟨rfl, _⟩ := chk_some e
    obtain ⟨a1, c1⟩ := fm_ok a fa h.1 ea
    obtain ⟨a2, c2⟩ := fm_ok b fb h.2 eb
    obtain ⟨a3, c3⟩ := plus_ok a1 a2
    exact ⟨a3, fun x => by rw [c3, c1, c2]; rfl⟩
  | .cheap a b, f, h, e => by
    obtain ⟨fa, ea, e⟩ := Option.bind_eq_some_iff.mp (show (fm a).bind _ = some f from e)
    obtain ⟨fb, eb, e⟩ := Option.bind_eq_some_iff.mp e
    obtain ⟨rfl, _⟩ := chk_some e
    obtain ⟨a1, c1⟩ := fm_ok a fa h.1 ea
    obtain ⟨a2, c2⟩ := fm_ok b fb h.2 eb
    obtain ⟨a3, c3⟩ := least_ok a1 a2
    exact ⟨a3, fun x => by rw [c3, c1, c2]; rfl⟩
  | .dear a b, f, h, e => by
    obtain ⟨fa, ea, e⟩ := Option.bind_eq_some_iff.mp (show (fm a).bind _ = some f from e)
    obtain ⟨fb, eb, e⟩ := Option.bind_eq_some_iff.mp e
    obtain ⟨rfl, _⟩ := chk_some e
    obtain ⟨a1, c1⟩ := fm_ok a fa h.1 ea
    obtain ⟨a2, c2⟩ := fm_ok b fb h.2 eb
    obtain ⟨a3, c3⟩ := greatest_ok a1 a2
    exact ⟨a3, fun x => by rw [c3, c1, c2]; rfl⟩
  | .only a lo hi, f, h, e => by
    obtain ⟨fa, ea, e⟩ := Option.bind_eq_some_iff.mp (show (fm a).bind _ = some f from e)
    obtain ⟨rfl, _⟩ := chk_some e
    obtain ⟨a1, c1⟩ := fm_ok a fa h.1 ea
    obtain ⟨a3, c3⟩ := within_ok a1 lo hi
    refine ⟨a3, fun x => ?_⟩
    rw [c3, c1]
    show _ = if x < lo ∨ hi < x then none else cost a x
    by_cases c : lo ≤ x ∧ x ≤ hi
    · rw [if_pos c, if_neg (by omega)]
    · rw [if_neg c, if_pos (by omega)]
  | .after a c, f, h, e => by
    obtain ⟨fa, ea, e⟩ := Option.bind_eq_some_iff.mp (show (fm a).bind _ = some f from e)
    obtain ⟨rfl, _⟩ := chk_some e
    obtain ⟨a1, c1⟩ := fm_ok a fa h.1 ea
    obtain ⟨a3, c3⟩ := freed_ok a1 h.2.1
    exact ⟨a3, fun x => by rw [c3, c1]; rfl⟩
  | .fee a p, f, h, e => by
    obtain ⟨fa, ea, e⟩ := Option.bind_eq_some_iff.mp (show (fm a).bind _ = some f from e)
    obtain ⟨rfl, _⟩ := chk_some e
    obtain ⟨a1, c1⟩ := fm_ok a fa h.1 ea
    obtain ⟨a3, c3⟩ := fee_ok a1 p
    exact ⟨a3, fun x => by rw [c3, c1]; rfl⟩
end
end OH
set_option Elab.async false
set_option linter.all false
set_option maxRecDepth 100000
set_option maxHeartbeats 4000000
/-! The layer for this program: calls by names, heaps, the steps of a reading. -/
namespace OH
open PySem PySem.Spec PyProof.Rows L2
/-! ### calls by names -/
section
variable {P : Program} {w : World} {K : PySem.W.Frag} {mg : Str → Option Value} {base : Heap} {CX : CXT}
/-- the module's def x keeps the promise sp -/
def Ok (P : Program) (w : World) (K : PySem.W.Frag) (mg : Str → Option Value) (base : Heap) (CX : CXT) (k : Nat) (x : Str) (ps : List Str) (sp : Sp) : Prop :=
  ∃ fd, FnOk P w K mg base CX k (He.ga K x) fd ps sp ∧ Binds K fd ps [] ∧ PySem.W.keepIn K (.ref (He.ga K x)) = true ∧ mg x = some (.ref (He.ga K x))
theorem Ok.up {j k : Nat} {x : Str} {ps : List Str} {sp : Sp} (F : Ok P w K mg base CX j x ps sp) (h : j ≤ k) : Ok P w K mg base CX k x ps sp := by
  obtain ⟨fd, F, r⟩ := F
  exact ⟨fd, F.mono h, r⟩
/-- the method m of the class C keeps the promise sp -/
def OkM (P : Program) (w : World) (K : PySem.W.Frag) (mg : Str → Option Value) (base : Heap) (CX : CXT) (k : Nat) (C m : Str) (ps : List Str) (sp : Sp) : Prop :=
  ∃ fd, FnOk P w K mg base CX k (He.ma K (He.ga K C) m) fd ps sp ∧ Binds K fd ps []
theorem OkM.up {j k : Nat} {C m : Str} {ps : List Str} {sp : Sp} (F : OkM P w K mg base CX j C m ps sp) (h : j ≤ k) : OkM P w K mg base CX k C m ps sp := by
  obtain ⟨fd, F, r⟩ := F
  exact ⟨fd, F.mono h, r⟩
end
section
variable {X : Cx} {CX : CXT} {k : Nat} {x : Str} {ps : List Str} {sp : Sp} {E : XK} {e : Expr} {es : List Expr} {t : TA} {p pos : Pos}
theorem pe_cl {j : Nat} (F : Ok X.prog X.w X.K X.mg X.base CX j x ps sp) (hr : Room k X.A) (ha : PA X (e :: es) t) (hx : Passes CX X E) (hj : j ≤ k := by decide) (hg : Gl X x := by rfl) (hdb : (x == ("__debug__" : Str)) = false := by decide)
    (he : starEach (e :: es) X.env = (false, eval e X.env) :: starEach es X.env := by rfl) (hpl : (backTo pos (starEach es X.env)).any (·.1) = false := by rfl) : PE X (.Call (.Name x p) (e :: es) [] pos) (tCall sp [] E t) := by
  obtain ⟨fd, F, b, kp, m⟩ := F
  exact pe_call F (hr.mono hj) hg m kp b .nil hx ha hdb he hpl
/-- no exception leaves the callee -/
theorem pe_c0 {j : Nat} (F : Ok X.prog X.w X.K X.mg X.base CX0 j x ps sp) (hr : Room k X.A) (ha : PA X (e :: es) t) (hj : j ≤ k := by decide) (hg : Gl X x := by rfl) (hdb : (x == ("__debug__" : Str)) = false := by decide)
    (he : starEach (e :: es) X.env = (false, eval e X.env) :: starEach es X.env := by rfl) (hpl : (backTo pos (starEach es X.env)).any (·.1) = false := by rfl) : PE X (.Call (.Name x p) (e :: es) [] pos) (tCall sp [] E0 t) :=
  pe_cl F hr ha pass0 hj hg hdb he hpl
/-- one of several readings -/
theorem PE.ex {ι : Type} {e : Expr} {t : ι → TE} (h : ∀ i, PE X e (t i)) : PE X e (fun σ H Q => ∃ i, t i σ H Q) := ⟨fun pins s σ H Q I ⟨i, q⟩ => (h i).run pins s σ H Q I q⟩
end
/-! ### heaps -/
/-- tuples stand -/
def TS' (H H' : Hp) : Prop := ∀ b xs, H b = some (.tup xs) → H' b = some (.tup xs)
theorem TS'.refl (H : Hp) : TS' H H := fun _ _ h => h
theorem TS'.trans {H H1 H2 : Hp} (a : TS' H H1) (b : TS' H1 H2) : TS' H H2 := fun c xs h => b c xs (a c xs h)
theorem TS'.of {H H' : Hp} (h : Same H H') : TS' H H' := fun b xs e => h b _ e
theorem same_new {H : Hp} {p : Addr} (h : H p = none) (o : HO) : Same H (upd H p o) := fun b u q => by rw [upd_ne (ne_of_none q h)]; exact q
/-- a list that H does not know changes -/
theorem same_mut {H H' : Hp} {p : Addr} (s : Same H H') (h : H p = none) (o : HO) : Same H (upd H' p o) := fun b u q => by rw [upd_ne (ne_of_none q h)]; exact s b u q
theorem ts_new {H : Hp} {p : Addr} (h : H p = none) (o : HO) : TS' H (upd H p o) := .of (same_new h o)
theorem ts_mut {H : Hp} {p : Addr} {xs : List V} (h : H p = some (.lst xs)) (o : HO) : TS' H (upd H p o) := fun b ys q => by rw [upd_ne (ne_of q h (by intro z; cases z))]; exact q
theorem get_new {H : Hp} {p a : Addr} {o u : HO} (h : H p = none) (q : H a = some u) : upd H p o a = some u := by rw [upd_ne (ne_of_none q h)]; exact q
theorem get_mut {H : Hp} {p a : Addr} {o u : HO} {xs : List V} (h : H p = some (.lst xs)) (q : H a = some u) (d : u ≠ .lst xs) : upd H p o a = some u := by rw [upd_ne (ne_of q h d)]; exact q
theorem same_get {H H' : Hp} {a : Addr} {o : HO} (s : Same H H') (h : H a = some o) : H' a = some o := s a o h
theorem ts_get {H H' : Hp} {a : Addr} {xs : List V} (s : TS' H H') (h : H a = some (.tup xs)) : H' a = some (.tup xs) := s a xs h
theorem none_back {H H' : Hp} (s : Same H H') {p : Addr} (h : H' p = none) : H p = none := s.free h
/-! ### data in the heap -/
abbrev RepF (α : Type) := Hp → V → α → Prop
def MonoT {α : Type} (R : RepF α) : Prop := ∀ (H H' : Hp) (v : V) (a : α), TS' H H' → R H v a → R H' v a
def S4V : RepF S4 := fun H v s => ∃ a, v = .ref a ∧ H a = some (.tup [.int s.lo, .int s.hi, .int s.pr, .int s.st])
theorem S4V.mono : MonoT S4V := fun _ _ _ _ t ⟨a, e, h⟩ => ⟨a, e, t _ _ h⟩
def LnV : RepF (Int × Int) := fun H v l => ∃ a, v = .ref a ∧ H a = some (.tup [.int l.1, .int l.2])
theorem LnV.mono : MonoT LnV := fun _ _ _ _ t ⟨a, e, h⟩ => ⟨a, e, t _ _ h⟩
theorem paired_mono {α β : Type} {F G : α → β → Prop} {l₁ : List α} {l₂ : List β} (h : Paired F l₁ l₂) (k : ∀ a b, F a b → G a b) : Paired G l₁ l₂ := Paired.mapP h k
/-- the items of a list or tuple -/
def Its {α : Type} (R : RepF α) (H : Hp) (vs : List V) (l : List α) : Prop := Paired (R H) vs l
theorem Its.mono {α : Type} {R : RepF α} (m : MonoT R) {H H' : Hp} {vs : List V} {l : List α} (t : TS' H H') (h : Its R H vs l) : Its R H' vs l := Paired.mapP h fun _ _ q => m _ _ _ _ t q
theorem Its.len {α : Type} {R : RepF α} {H : Hp} {vs : List V} {l : List α} (h : Its R H vs l) : vs.length = l.length := Paired.length h
theorem Its.app {α : Type} {R : RepF α} {H : Hp} : ∀ {vs ws : List V} {l m : List α}, Its R H vs l → Its R H ws m → Its R H (vs ++ ws) (l ++ m)
  | _, _, _, _, .nil, k => k
  | _, _, _, _, .cons a h, k => .cons a (Its.app h k)
theorem Its.get {α : Type} {R : RepF α} {H : Hp} : ∀ {vs : List V} {l : List α} {i : Nat} {v : V}, Its R H vs l → vs[i]? = some v → ∃ a, l[i]? = some a ∧ R H v a
  | _, _, _, _, .nil, h => by simp at h
  | _, _, 0, v, .cons (a := x) (b := b) a t, h => by
    have e : x = v := by simpa using h
    subst e
    exact ⟨b, rfl, a⟩
  | _, _, i + 1, v, .cons a t, h => by
    obtain ⟨c, e, q⟩ := Its.get (i := i) (v := v) t (by simpa using h)
    exact ⟨c, by simpa using e, q⟩
theorem Its.at {α : Type} {R : RepF α} {H : Hp} {vs : List V} {l : List α} {i : Nat} {a : α} (h : Its R H vs l) (e : l[i]? = some a) : ∃ v, vs[i]? = some v ∧ R H v a := by
  have hl := h.len
  have hi := (List.getElem?_eq_some_iff.mp e).1
  obtain ⟨b, e2, q⟩ := h.get (i := i) (v := vs[i]) (List.getElem?_eq_getElem (by omega))
  rw [e] at e2
  rw [Option.some.inj e2]
  exact ⟨_, List.getElem?_eq_getElem (by omega), q⟩
theorem Its.last {α : Type} {R : RepF α} {H : Hp} {vs : List V} {l : List α} {a : α} (h : Its R H vs l) (e : l.getLast? = some a) : ∃ v, vs.getLast? = some v ∧ R H v a := by
  rw [List.getLast?_eq_getElem?] at e ⊢
  rw [h.len]
  exact h.at e
theorem Its.drop1 {α : Type} {R : RepF α} {H : Hp} : ∀ {vs : List V} {l : List α}, Its R H vs l → Its R H vs.dropLast l.dropLast
  | _, _, .nil => .nil
  | _, _, .cons a .nil => .nil
  | _, _, .cons a (.cons b t) => .cons a (Its.drop1 (.cons b t))
theorem Its.map {α β : Type} {R : RepF α} {S : RepF β} {H H' : Hp} {vs : List V} {l : List α} {f : α → β} (h : Its R H vs l) (k : ∀ v a, R H v a → S H' v (f a)) : Its S H' vs (l.map f) := by
  induction h with
  | nil => exact .nil
  | cons a t ih => exact .cons (k _ _ a) ih
def LstR {α : Type} (R : RepF α) : RepF (List α) := fun H v l => ∃ a vs, v = .ref a ∧ H a = some (.lst vs) ∧ Its R H vs l
def TupR {α : Type} (R : RepF α) : RepF (List α) := fun H v l => ∃ a vs, v = .ref a ∧ H a = some (.tup vs) ∧ Its R H vs l
theorem TupR.mono {α : Type} {R : RepF α} (m : MonoT R) : MonoT (TupR R) := fun _ _ _ _ t ⟨a, vs, e, h, i⟩ => ⟨a, vs, e, t _ _ h, i.mono m t⟩
theorem LstR.same {α : Type} {R : RepF α} (m : MonoT R) {H H' : Hp} {v : V} {l : List α} (s : Same H H') (h : LstR R H v l) : LstR R H' v l := by
  obtain ⟨a, vs, e, q, i⟩ := h
  exact ⟨a, vs, e, s _ _ q, i.mono m (.of s)⟩
abbrev FormV : RepF Form := TupR S4V
theorem FormV.mono : MonoT FormV := TupR.mono S4V.mono
def OptV {α : Type} (R : RepF α) : RepF (Option α) := fun H v o => match o with
  | none => v = .non
  | some a => R H v a
def IntV : RepF Int := fun _ v i => v = .int i
theorem IntV.mono : MonoT IntV := fun _ _ _ _ _ h => h
theorem OptV.mono {α : Type} {R : RepF α} (m : MonoT R) : MonoT (OptV R) := fun _ _ _ a t h => by
  cases a with
  | none => exact h
  | some a => exact m _ _ _ _ t h
/-- what a promise hands back: what stood stands -/
abbrev Ret {α : Type} (H : Hp) (Q : VK) (R : RepF α) (a : α) : Prop := ∀ v H', Same H H' → R H' v a → Q v H'
/-- a list of one's own at l, begun behind H0 -/
structure LL {α : Type} (R : RepF α) (H0 : Hp) (l : Addr) (H : Hp) (acc : List V) (L : List α) : Prop where
  at_ : H l = some (.lst acc)
  its : Its R H acc L
  sm : Same H0 H
  fr : H0 l = none
section
variable {α : Type} {R : RepF α} {H0 H H' : Hp} {l k : Addr} {acc : List V} {L : List α} {v : V} {y : α}
theorem LL.new (s : Same H0 H) (n : H l = none) : LL R H0 l (upd H l (.lst [])) [] [] := ⟨upd_same, .nil, s.trans (same_new n _), none_back s n⟩
theorem LL.len (h : LL R H0 l H acc L) : acc.length = L.length := h.its.len
theorem LL.step (m : MonoT R) (h : LL R H0 l H acc L) (s : Same H H') : LL R H0 l H' acc L := ⟨s _ _ h.at_, h.its.mono m (.of s), h.sm.trans s, h.fr⟩
theorem LL.push (m : MonoT R) (h : LL R H0 l H acc L) (r : R H v y) : LL R H0 l (upd H l (.lst (acc ++ [v]))) (acc ++ [v]) (L ++ [y]) :=
  ⟨upd_same, (h.its.mono m (ts_mut h.at_ _)).app (.cons (m _ _ _ _ (ts_mut h.at_ _) r) .nil), same_mut h.sm h.fr _, h.fr⟩
theorem LL.pushN (m : MonoT R) (h : LL R H0 l H acc L) {xs : List V} (n : H k = none) (r : R (upd H k (.tup xs)) (.ref k) y) : LL R H0 l (upd (upd H k (.tup xs)) l (.lst (acc ++ [.ref k]))) (acc ++ [.ref k]) (L ++ [y]) :=
  (h.step m (same_new n _)).push m r
theorem LL.ext (m : MonoT R) (h : LL R H0 l H acc L) {vs : List V} {M : List α} (r : Its R H vs M) : LL R H0 l (upd H l (.lst (acc ++ vs))) (acc ++ vs) (L ++ M) :=
  ⟨upd_same, (h.its.mono m (ts_mut h.at_ _)).app (r.mono m (ts_mut h.at_ _)), same_mut h.sm h.fr _, h.fr⟩
theorem LL.pop (m : MonoT R) (h : LL R H0 l H acc L) : LL R H0 l (upd H l (.lst acc.dropLast)) acc.dropLast L.dropLast :=
  ⟨upd_same, (h.its.mono m (ts_mut h.at_ _)).drop1, same_mut h.sm h.fr _, h.fr⟩
theorem LL.is {M : List α} (h : LL R H0 l H acc L) (e : L = M) : LL R H0 l H acc M := e ▸ h
theorem LL.rep (h : LL R H0 l H acc L) : LstR R H (.ref l) L := ⟨l, acc, rfl, h.at_, h.its⟩
end
/-- a new stretch -/
theorem s4_new {H : Hp} {k : Addr} {s : S4} (h : H k = some (.tup [.int s.lo, .int s.hi, .int s.pr, .int s.st])) : S4V H (.ref k) s := ⟨k, rfl, h⟩
/-- .. a new list -/
abbrev RetL {α : Type} (H : Hp) (Q : VK) (R : RepF α) (L : List α) : Prop := ∀ p vs H', H p = none → Same H H' → H' p = some (.lst vs) → Its R H' vs L → Q (.ref p) H'
/-! ### loops by what is left -/
theorem for_left {α : Type} {K : PySem.W.Frag} {a : Addr} {vs : List V} {l : List α} {R : RepF α} {H0 : Hp} {g : TG} {tb : TS} {D : Ends} {σ : L2.St} {H : Hp} (hI : Its R H0 vs l) (Pv : List α → L2.St → Hp → Prop) (h0 : Pv l σ H) (hl : ∀ r σ H, Pv r σ H → SqL K H a vs)
    (hs : ∀ x y r σ H, R H0 x y → Pv (y :: r) σ H → g x σ H fun σ2 H2 => tb { D with nx := Pv r, ct := Pv r, bk := D.nx } σ2 H2) (hd : ∀ σ H, Pv [] σ H → D.nx σ H) :
    ∃ W : Nat → Nat → L2.St → Hp → Prop, (∃ m, W 0 m σ H) ∧ ∀ i m σ H, W i m σ H →
      ((Itl K a).stop i H ∧ D.nx σ H) ∨ ((Itl K a).go i H ∧ ∃ N : L2.St → Hp → Prop, (∀ σ' H', N σ' H' → ∃ m', m' < m ∧ W (i + 1) m' σ' H') ∧ ∀ x H', (Itl K a).yld i H x H' → g x σ H' fun σ2 H2 => tb { D with nx := N, ct := N, bk := D.nx } σ2 H2) := by
  refine for_list (K := K) (a := a) (xs := vs) (fun i σ H => Pv (l.drop i) σ H) h0 (fun i σ H _ p => hl _ σ H p) (fun i x σ H hi p => ?_) fun σ H p => ?_
  · obtain ⟨y, e, q⟩ := hI.get hi
    have ed : l.drop i = y :: l.drop (i + 1) := by
      obtain ⟨h1, h2⟩ := List.getElem?_eq_some_iff.mp e
      rw [← h2]
      exact List.drop_eq_getElem_cons h1
    rw [ed] at p
    exact hs x y _ σ H q p
  · rw [List.drop_eq_nil_of_le (by rw [hI.len]; exact Nat.le_refl _)] at p
    exact hd σ H p
theorem for_leftT {α : Type} {K : PySem.W.Frag} {a : Addr} {vs : List V} {l : List α} {R : RepF α} {H0 : Hp} {g : TG} {tb : TS} {D : Ends} {σ : L2.St} {H : Hp} (hI : Its R H0 vs l) (Pv : List α → L2.St → Hp → Prop) (h0 : Pv l σ H) (hl : ∀ r σ H, Pv r σ H → SqT K H a vs)
    (hs : ∀ x y r σ H, R H0 x y → Pv (y :: r) σ H → g x σ H fun σ2 H2 => tb { D with nx := Pv r, ct := Pv r, bk := D.nx } σ2 H2) (hd : ∀ σ H, Pv [] σ H → D.nx σ H) :
    ∃ W : Nat → Nat → L2.St → Hp → Prop, (∃ m, W 0 m σ H) ∧ ∀ i m σ H, W i m σ H →
      ((Itt K a).stop i H ∧ D.nx σ H) ∨ ((Itt K a).go i H ∧ ∃ N : L2.St → Hp → Prop, (∀ σ' H', N σ' H' → ∃ m', m' < m ∧ W (i + 1) m' σ' H') ∧ ∀ x H', (Itt K a).yld i H x H' → g x σ H' fun σ2 H2 => tb { D with nx := N, ct := N, bk := D.nx } σ2 H2) := by
  refine for_tup (K := K) (a := a) (xs := vs) (fun i σ H => Pv (l.drop i) σ H) h0 (fun i σ H _ p => hl _ σ H p) (fun i x σ H hi p => ?_) fun σ H p => ?_
  · obtain ⟨y, e, q⟩ := hI.get hi
    have ed : l.drop i = y :: l.drop (i + 1) := by
      obtain ⟨h1, h2⟩ := List.getElem?_eq_some_iff.mp e
      rw [← h2]
      exact List.drop_eq_getElem_cons h1
    rw [ed] at p
    exact hs x y _ σ H q p
  · rw [List.drop_eq_nil_of_le (by rw [hI.len]; exact Nat.le_refl _)] at p
    exact hd σ H p
/-! ### comprehensions by what has been made -/
def MadeTo {β : Type} (S : RepF β) (H0 : Hp) (D : Addr) (L : List β) (H : Hp) : Prop := ∃ acc, LL S H0 D H acc L
section
variable {α β : Type} {K : PySem.W.Frag} {a : Addr} {vs : List V} {l : List α} {R : RepF α} {S : RepF β} {H0 : Hp} {g : TG} {tt : TT} {te : TE} {sl : List Nat} {σ : L2.St} {D : Addr} {Qd : Hp → Prop}
theorem made_push {H : Hp} {acc : List V} {L L' : List β} {v : V} {z : β} (m : MonoT S) (h : LL S H0 D H acc L) (r : S H v z) (n : L.length ≤ 1000000) (e : L ++ [z] = L') :
    ∃ acc, H D = some (.lst acc) ∧ acc.length < sizeLine ∧ MadeTo S H0 D L' (upd H D (.lst (acc ++ [v]))) :=
  ⟨acc, h.at_, Nat.lt_of_le_of_lt (by rw [h.len]; exact n) (by decide), _, e ▸ h.push m r⟩
theorem take_map {f : α → β} {i : Nat} {y : α} (e : l[i]? = some y) : (l.take i).map f ++ [f y] = (l.take (i + 1)).map f := by
  rw [List.take_add_one, e, List.map_append]
  rfl
theorem lc_FL (F : Nat → List β) (hs : H0 a = some (.lst vs)) (hI : Its R H0 vs l) (hD : H0 D = none) (hF : F 0 = [])
    (turn : ∀ (i : Nat) x y H acc, l[i]? = some y → R H0 x y → LL S H0 D H acc (F i) → g x (wipe σ sl) H fun σ2 H2 => wipe σ2 sl = wipe σ sl ∧ tt σ2 H2 fun b H3 =>
      if b = true then te σ2 H3 fun v H4 => ∃ acc, H4 D = some (.lst acc) ∧ acc.length < sizeLine ∧ MadeTo S H0 D (F (i + 1)) (upd H4 D (.lst (acc ++ [v]))) else MadeTo S H0 D (F (i + 1)) H3)
    (hd : ∀ H acc, LL S H0 D H acc (F l.length) → Qd H) :
    ∃ W : Nat → Nat → Hp → Prop, (∃ m, W 0 m (upd H0 D (.lst []))) ∧ ∀ i m H, W i m H →
      ((Itl K a).stop i H ∧ Qd H) ∨ ((Itl K a).go i H ∧ ∃ Nx : Hp → Prop, (∀ H', Nx H' → ∃ m', m' < m ∧ W (i + 1) m' H') ∧ ∀ x H', (Itl K a).yld i H x H' → g x (wipe σ sl) H' fun σ2 H2 => wipe σ2 sl = wipe σ sl ∧ tt σ2 H2 fun b H3 =>
        if b = true then te σ2 H3 fun y H4 => ∃ acc, H4 D = some (.lst acc) ∧ acc.length < sizeLine ∧ Nx (upd H4 D (.lst (acc ++ [y]))) else Nx H3) := by
  refine lc_list (K := K) (a := a) (xs := vs) (fun i H => MadeTo S H0 D (F i) H) ⟨[], (LL.new (Same.refl _) hD).is hF.symm⟩ (fun i H _ ⟨acc, h⟩ => SqL.of (h.sm _ _ hs)) (fun i x H hi ⟨acc, h⟩ => ?_) fun H ⟨acc, h⟩ => ?_
  · obtain ⟨y, e, q⟩ := hI.get hi
    exact turn i x y H acc e q h
  · rw [hI.len] at h
    exact hd H acc h
theorem lc_FT (F : Nat → List β) (hs : H0 a = some (.tup vs)) (hI : Its R H0 vs l) (hD : H0 D = none) (hF : F 0 = [])
    (turn : ∀ (i : Nat) x y H acc, l[i]? = some y → R H0 x y → LL S H0 D H acc (F i) → g x (wipe σ sl) H fun σ2 H2 => wipe σ2 sl = wipe σ sl ∧ tt σ2 H2 fun b H3 =>
      if b = true then te σ2 H3 fun v H4 => ∃ acc, H4 D = some (.lst acc) ∧ acc.length < sizeLine ∧ MadeTo S H0 D (F (i + 1)) (upd H4 D (.lst (acc ++ [v]))) else MadeTo S H0 D (F (i + 1)) H3)
    (hd : ∀ H acc, LL S H0 D H acc (F l.length) → Qd H) :
    ∃ W : Nat → Nat → Hp → Prop, (∃ m, W 0 m (upd H0 D (.lst []))) ∧ ∀ i m H, W i m H →
      ((Itt K a).stop i H ∧ Qd H) ∨ ((Itt K a).go i H ∧ ∃ Nx : Hp → Prop, (∀ H', Nx H' → ∃ m', m' < m ∧ W (i + 1) m' H') ∧ ∀ x H', (Itt K a).yld i H x H' → g x (wipe σ sl) H' fun σ2 H2 => wipe σ2 sl = wipe σ sl ∧ tt σ2 H2 fun b H3 =>
        if b = true then te σ2 H3 fun y H4 => ∃ acc, H4 D = some (.lst acc) ∧ acc.length < sizeLine ∧ Nx (upd H4 D (.lst (acc ++ [y]))) else Nx H3) := by
  refine lc_tup (K := K) (a := a) (xs := vs) (fun i H => MadeTo S H0 D (F i) H) ⟨[], (LL.new (Same.refl _) hD).is hF.symm⟩ (fun i H _ ⟨acc, h⟩ => SqT.of (h.sm _ _ hs)) (fun i x H hi ⟨acc, h⟩ => ?_) fun H ⟨acc, h⟩ => ?_
  · obtain ⟨y, e, q⟩ := hI.get hi
    exact turn i x y H acc e q h
  · rw [hI.len] at h
    exact hd H acc h
theorem lc_FR {lo : Int} {n : Nat} (F : Nat → List β) (hD : H0 D = none) (hF : F 0 = [])
    (turn : ∀ (i : Nat) H acc, i < n → LL S H0 D H acc (F i) → g (.int (lo + i)) (wipe σ sl) H fun σ2 H2 => wipe σ2 sl = wipe σ sl ∧ tt σ2 H2 fun b H3 =>
      if b = true then te σ2 H3 fun v H4 => ∃ acc, H4 D = some (.lst acc) ∧ acc.length < sizeLine ∧ MadeTo S H0 D (F (i + 1)) (upd H4 D (.lst (acc ++ [v]))) else MadeTo S H0 D (F (i + 1)) H3)
    (hd : ∀ H acc, LL S H0 D H acc (F n) → Qd H) :
    ∃ W : Nat → Nat → Hp → Prop, (∃ m, W 0 m (upd H0 D (.lst []))) ∧ ∀ i m H, W i m H →
      ((Itr lo n).stop i H ∧ Qd H) ∨ ((Itr lo n).go i H ∧ ∃ Nx : Hp → Prop, (∀ H', Nx H' → ∃ m', m' < m ∧ W (i + 1) m' H') ∧ ∀ x H', (Itr lo n).yld i H x H' → g x (wipe σ sl) H' fun σ2 H2 => wipe σ2 sl = wipe σ sl ∧ tt σ2 H2 fun b H3 =>
        if b = true then te σ2 H3 fun y H4 => ∃ acc, H4 D = some (.lst acc) ∧ acc.length < sizeLine ∧ Nx (upd H4 D (.lst (acc ++ [y]))) else Nx H3) :=
  lc_range (lo := lo) (n := n) (fun i H => MadeTo S H0 D (F i) H) ⟨[], (LL.new (Same.refl _) hD).is hF.symm⟩ (fun i H hi ⟨acc, h⟩ => turn i H acc hi h) fun H ⟨acc, h⟩ => hd H acc h
end
/-- a for over a range -/
theorem for_n {lo : Int} {n : Nat} {g : TG} {tb : TS} {D : Ends} {σ : L2.St} {H : Hp} (Pv : Nat → L2.St → Hp → Prop) (h0 : Pv 0 σ H)
    (hs : ∀ i σ H, i < n → Pv i σ H → g (.int (lo + i)) σ H fun σ2 H2 => tb { D with nx := Pv (i + 1), ct := Pv (i + 1), bk := D.nx } σ2 H2) (hd : ∀ σ H, Pv n σ H → D.nx σ H) :
    ∃ W : Nat → Nat → L2.St → Hp → Prop, (∃ m, W 0 m σ H) ∧ ∀ i m σ H, W i m σ H →
      ((Itr lo n).stop i H ∧ D.nx σ H) ∨ ((Itr lo n).go i H ∧ ∃ N : L2.St → Hp → Prop, (∀ σ' H', N σ' H' → ∃ m', m' < m ∧ W (i + 1) m' σ' H') ∧ ∀ x H', (Itr lo n).yld i H x H' → g x σ H' fun σ2 H2 => tb { D with nx := N, ct := N, bk := D.nx } σ2 H2) := for_range Pv h0 hs hd
/-! ### the steps of a reading -/
section
variable {K : PySem.W.Frag} {σ : L2.St} {H : Hp} {Q : VK} {D : Ends} {t u : TS} {te ta tb : TE} {g : TG} {v : V} {i j : Int} {c : TT}
theorem i_seq (h : t { D with nx := u D } σ H) : tSeq t u D σ H := h
theorem i_asg (h : te σ H fun x H1 => g x σ H1 D.nx) : tAsg te g D σ H := h
theorem i_name {n : Nat} {Q : L2.St → Hp → Prop} (h : Q (σ.set n (some v)) H) : gName n v σ H Q := h
theorem i_var {n : Nat} (e : σ[n]? = some (some v)) (h : Q v H) : tVar n σ H Q := ⟨v, e, h⟩
theorem i_c (h : Q v H) : tC v σ H Q := h
theorem i_op {r : R2} (h : ta σ H fun x H1 => tb σ H1 fun y H2 => r x y H2 Q) : tOp r ta tb σ H Q := h
theorem i_I0 {f : Int → Int → V} (h : Q (f i j) H) : rI0 f (.int i) (.int j) H Q := ⟨i, j, rfl, rfl, h⟩
theorem i_I {C : Int → Int → Prop} {f : Int → Int → V} (k : C i j) (h : Q (f i j) H) : rI C f (.int i) (.int j) H Q := ⟨i, j, rfl, rfl, k, h⟩
theorem i_un {r : V → Hp → VK → Prop} (h : ta σ H fun x H1 => r x H1 Q) : tUn r ta σ H Q := h
theorem i_U {f : Int → V} (h : Q (f i) H) : rU f (.int i) H Q := ⟨i, rfl, h⟩
theorem i_eqI (h : Q (.bl (decide (i = j))) H) : rEq (.int i) (.int j) H Q := ⟨rfl, by
  have e : decide (V.int i = V.int j) = decide (i = j) := by
    by_cases q : i = j
    · rw [decide_eq_true q, decide_eq_true (congrArg V.int q)]
    · rw [decide_eq_false q, decide_eq_false fun z => q (V.int.inj z)]
  rw [e]
  exact h⟩
theorem i_neI (h : Q (.bl (!decide (i = j))) H) : rNe (.int i) (.int j) H Q := ⟨rfl, by
  have e : decide (V.int i = V.int j) = decide (i = j) := by
    by_cases q : i = j
    · rw [decide_eq_true q, decide_eq_true (congrArg V.int q)]
    · rw [decide_eq_false q, decide_eq_false fun z => q (V.int.inj z)]
  rw [e]
  exact h⟩
theorem i_eqS {x y : Str} (h : Q (.bl (decide (x = y))) H) : rEq (.str x) (.str y) H Q := ⟨rfl, by
  have e : decide (V.str x = V.str y) = decide (x = y) := by
    by_cases q : x = y
    · rw [decide_eq_true q, decide_eq_true (congrArg V.str q)]
    · rw [decide_eq_false q, decide_eq_false fun z => q (V.str.inj z)]
  rw [e]
  exact h⟩
theorem i_test {Q : Bool → Hp → Prop} (h : te σ H fun x H' => ∃ k, x = .bl k ∧ Q k H') : tTest te σ H Q := h
theorem i_B {Q : Bool → Hp → Prop} (h : te σ H fun x H' => ∃ k, x = .bl k ∧ Q k H') : tB te σ H Q := h
theorem i_bl {F : Bool → Prop} {k : Bool} (h : F k) : ∃ k', V.bl k = .bl k' ∧ F k' := ⟨k, rfl, h⟩
theorem i_ifS (h : c σ H fun b H1 => if b = true then t D σ H1 else u D σ H1) : tIfS c t u D σ H := h
theorem i_ret (h : te σ H D.rt) : tRet te D σ H := h
theorem i_retN (h : D.rt .non H) : tRetN D σ H := h
theorem i_next (h : D.nx σ H) : tNext D σ H := h
theorem i_cont (h : D.ct σ H) : tCont D σ H := h
theorem i_drop (h : te σ H fun _ H1 => D.nx σ H1) : tDrop te D σ H := h
theorem i_nil {Q : List V → Hp → Prop} (h : Q [] H) : tNil σ H Q := h
theorem i_cons {tr : TA} {Q : List V → Hp → Prop} (h : ta σ H fun x H1 => tr σ H1 fun xs H2 => Q (x :: xs) H2) : tCons ta tr σ H Q := h
theorem i_ixT {p : Addr} {xs : List V} (h : H p = some (.tup xs)) (e : atI xs i = some v) (q : Q v H) : rIxT K (.ref p) (.int i) H Q := ⟨p, xs, i, v, rfl, rfl, SqT.of h, e, q⟩
theorem i_ixL {p : Addr} {xs : List V} (h : H p = some (.lst xs)) (e : atI xs i = some v) (q : Q v H) : rIxL K (.ref p) (.int i) H Q := ⟨p, xs, i, v, rfl, rfl, SqL.of h, e, q⟩
theorem i_CB {r : List V → Hp → VK → Prop} {t : TA} (h : t σ H fun vs H1 => r vs H1 Q) : tCB r t σ H Q := h
theorem i_call {sp : Sp} {E : XK} {t : TA} (h : t σ H fun vs H1 => sp vs H1 Q E) : tCall sp [] E t σ H Q := by
  have e : (fun vs H1 => sp (vs ++ []) H1 Q E) = fun vs H1 => sp vs H1 Q E := by
    funext vs H1
    rw [List.append_nil]
  show t σ H fun vs H1 => sp (vs ++ []) H1 Q E
  rw [e]
  exact h
theorem i_tup {t : TA} (h : t σ H fun xs H1 => xs.length ≤ sizeLine ∧ ∀ p, H1 p = none → Q (.ref p) (upd H1 p (.tup xs))) : tTup t σ H Q := h
theorem i_lst {t : TA} (h : t σ H fun xs H1 => xs.length ≤ sizeLine ∧ ∀ p, H1 p = none → Q (.ref p) (upd H1 p (.lst xs))) : tLst t σ H Q := h
theorem i_and {t u : TT} {Q : Bool → Hp → Prop} (h : t σ H fun k H1 => if k = true then u σ H1 Q else Q false H1) : tAnd t u σ H Q := h
theorem i_or {t u : TT} {Q : Bool → Hp → Prop} (h : t σ H fun k H1 => if k = true then Q true H1 else u σ H1 Q) : tOr t u σ H Q := h
theorem i_not {t : TT} {Q : Bool → Hp → Prop} (h : t σ H fun k H1 => Q (!k) H1) : tNot t σ H Q := h
theorem i_orV (h : ta σ H fun x H1 => ∃ k, x = .bl k ∧ if k = true then Q (.bl true) H1 else tb σ H1 Q) : tOrV ta tb σ H Q := h
theorem i_andV (h : ta σ H fun x H1 => ∃ k, x = .bl k ∧ if k = true then tb σ H1 Q else Q (.bl false) H1) : tAndV ta tb σ H Q := h
theorem i_notV (h : ta σ H fun x H1 => ∃ k, x = .bl k ∧ Q (.bl (!k)) H1) : tNotV ta σ H Q := h
theorem i_chain {r r' : R2} {tc : TE} (h : ta σ H fun x H1 => tb σ H1 fun y H2 => r x y H2 fun z H3 => ∃ k, z = .bl k ∧ (if k = true then tc σ H3 fun w' H4 => r' y w' H4 Q else Q (.bl false) H3)) : tChain r r' ta tb tc σ H Q := h
theorem i_forL {wi : TI} {tg : TG} {tb : TS} (h : wi σ H fun J H1 => ∃ W : Nat → Nat → L2.St → Hp → Prop, (∃ m, W 0 m σ H1) ∧ ∀ i m σ H, W i m σ H →
    (J.stop i H ∧ D.nx σ H) ∨ (J.go i H ∧ ∃ N : L2.St → Hp → Prop, (∀ σ' H', N σ' H' → ∃ m', m' < m ∧ W (i + 1) m' σ' H') ∧ ∀ x H', J.yld i H x H' → tg x σ H' fun σ2 H2 => tb { D with nx := N, ct := N, bk := D.nx } σ2 H2)) : tFor wi tg tb D σ H := h
def ItL (K : PySem.W.Frag) (R : It → Hp → Prop) (x : V) (H : Hp) : Prop := ∃ a, x = .ref a ∧ (∃ xs, SqL K H a xs) ∧ R (Itl K a) H
def ItT (K : PySem.W.Frag) (R : It → Hp → Prop) (x : V) (H : Hp) : Prop := ∃ a, x = .ref a ∧ (∃ xs, SqT K H a xs) ∧ R (Itt K a) H
theorem i_iL {tl : TE} {R : It → Hp → Prop} (h : tl σ H (ItL K R)) : iList K tl σ H R := h
theorem i_iT {tl : TE} {R : It → Hp → Prop} (h : tl σ H (ItT K R)) : iTup K tl σ H R := h
theorem i_atL {p : Addr} {xs : List V} {R : It → Hp → Prop} (h : H p = some (.lst xs)) (q : R (Itl K p) H) : ItL K R (.ref p) H := ⟨p, rfl, ⟨xs, SqL.of h⟩, q⟩
theorem i_atT {p : Addr} {xs : List V} {R : It → Hp → Prop} (h : H p = some (.tup xs)) (q : R (Itt K p) H) : ItT K R (.ref p) H := ⟨p, rfl, ⟨xs, SqT.of h⟩, q⟩
theorem i_lc {wi : TI} {tg : TG} {tt : TT} {vs : List Nat} (h : wi σ H fun J H1 => ∀ D, H1 D = none → ∃ W : Nat → Nat → Hp → Prop, (∃ m, W 0 m (upd H1 D (.lst []))) ∧ ∀ i m H, W i m H →
    (J.stop i H ∧ Q (.ref D) H) ∨ (J.go i H ∧ ∃ Nx : Hp → Prop, (∀ H', Nx H' → ∃ m', m' < m ∧ W (i + 1) m' H') ∧ ∀ x H', J.yld i H x H' → tg x (wipe σ vs) H' fun σ2 H2 => wipe σ2 vs = wipe σ vs ∧ tt σ2 H2 fun b H3 =>
      if b = true then te σ2 H3 fun y H4 => ∃ acc, H4 D = some (.lst acc) ∧ acc.length < sizeLine ∧ Nx (upd H4 D (.lst (acc ++ [y]))) else Nx H3)) : tLc wi tg tt te vs σ H Q := h
theorem i_yes {Q : Bool → Hp → Prop} (h : Q true H) : tYes σ H Q := h
theorem i_nT {A B : Prop} (h : B) : if (!true) = true then A else B := iteF h
theorem i_nF {A B : Prop} (h : A) : if (!false) = true then A else B := iteT h
theorem i_aug {n : Nat} {ti : TIp} (e : σ[n]? = some (some v)) (h : te σ H fun y H1 => ti v y H1 fun z H2 => D.nx (σ.set n (some z)) H2) : tAug n te ti D σ H := ⟨v, e, h⟩
theorem i_ip {f : Int → Int → Int} (h : Q (.int (f i j)) H) : ipI f (.int i) (.int j) H Q := ⟨i, j, rfl, rfl, h⟩
theorem i_while {tb : TS} (W : Nat → L2.St → Hp → Prop) (m : Nat) (h0 : W m σ H) (hs : ∀ m σ H, W m σ H → c σ H fun b H1 => if b = true then ∃ N : L2.St → Hp → Prop, (∀ σ' H', N σ' H' → ∃ m', m' < m ∧ W m' σ' H') ∧ tb { D with nx := N, ct := N, bk := D.nx } σ H1 else D.nx σ H1) : tWhile c tb D σ H := ⟨W, ⟨m, h0⟩, hs⟩
theorem i_body {tb : TS} {W : Nat → L2.St → Hp → Prop} {m : Nat} (h : tb { D with nx := fun σ' H' => ∃ m', m' < m ∧ W m' σ' H', ct := fun σ' H' => ∃ m', m' < m ∧ W m' σ' H', bk := D.nx } σ H) : ∃ N : L2.St → Hp → Prop, (∀ σ' H', N σ' H' → ∃ m', m' < m ∧ W m' σ' H') ∧ tb { D with nx := N, ct := N, bk := D.nx } σ H := ⟨_, fun _ _ n => n, h⟩
theorem i_dec {p A B : Prop} [Decidable p] (h1 : p → A) (h2 : ¬ p → B) : if decide p = true then A else B := by
  by_cases c : p
  · rw [if_pos (decide_eq_true c)]
    exact h1 c
  · rw [if_neg (by rw [decide_eq_true_eq]; exact c)]
    exact h2 c
theorem i_ndec {p A B : Prop} [Decidable p] (h1 : ¬ p → A) (h2 : p → B) : if (!decide p) = true then A else B := by
  by_cases c : p
  · rw [decide_eq_true c]
    exact iteF (h2 c)
  · rw [decide_eq_false c]
    exact iteT (h1 c)
end
/-! ### built-ins by named readings -/
def rMn : List V → Hp → VK → Prop := fun xs H Q => ∃ i j : Int, xs = [.int i, .int j] ∧ Q (.int (if j < i then j else i)) H
def rMx : List V → Hp → VK → Prop := fun xs H Q => ∃ i j : Int, xs = [.int i, .int j] ∧ Q (.int (if j > i then j else i)) H
def rLn (K : PySem.W.Frag) : List V → Hp → VK → Prop := fun xs H Q => ∃ p ys, xs = [.ref p] ∧ (SqL K H p ys ∨ SqT K H p ys) ∧ Q (.int ys.length) H
def rTo (K : PySem.W.Frag) : List V → Hp → VK → Prop := fun xs H Q => ∃ p ys, xs = [.ref p] ∧ ((SqL K H p ys ∧ ∀ l, H l = none → Q (.ref l) (upd H l (.tup ys))) ∨ (SqT K H p ys ∧ Q (.ref p) H))
def rLo (K : PySem.W.Frag) : List V → Hp → VK → Prop := fun xs H Q => ∃ p ys, xs = [.ref p] ∧ (SqL K H p ys ∨ SqT K H p ys) ∧ ∀ l, H l = none → Q (.ref l) (upd H l (.lst ys))
def rIsN : R2 := fun x y H Q => y = .non ∧ Q (.bl (decide (x = .non))) H
def rNotN : R2 := fun x y H Q => y = .non ∧ Q (.bl (!decide (x = .non))) H
section
variable {X : Cx}
theorem cr_mn (hc : X.calm = true) : CallR X (.builtin "min") rMn := call_min2 hc
theorem cr_mx (hc : X.calm = true) : CallR X (.builtin "max") rMx := call_max2 hc
theorem cr_ln : CallR X (.builtin "len") (rLn X.K) := call_len_seq
theorem cr_to : CallR X (.type "tuple") (rTo X.K) := call_tuple_of
theorem cr_lo : CallR X (.type "list") (rLo X.K) := call_list_of
theorem op_isN1 : OpR X (compareOp .Is) rIsN := op_isN
theorem op_notN1 : OpR X (compareOp .IsNot) rNotN := op_notN
end
section
variable {K : PySem.W.Frag} {H : Hp} {Q : VK} {i j : Int} {p : Addr} {xs : List V} {v : V}
theorem i_mn (h : Q (.int (mn i j)) H) : rMn [.int i, .int j] H Q := ⟨i, j, rfl, h⟩
theorem i_mx (h : Q (.int (mx i j)) H) : rMx [.int i, .int j] H Q := ⟨i, j, rfl, h⟩
theorem i_lnL (h : H p = some (.lst xs)) (q : Q (.int xs.length) H) : rLn K [.ref p] H Q := ⟨p, xs, rfl, .inl (SqL.of h), q⟩
theorem i_lnT (h : H p = some (.tup xs)) (q : Q (.int xs.length) H) : rLn K [.ref p] H Q := ⟨p, xs, rfl, .inr (SqT.of h), q⟩
theorem i_to (h : H p = some (.lst xs)) (q : ∀ l, H l = none → Q (.ref l) (upd H l (.tup xs))) : rTo K [.ref p] H Q := ⟨p, xs, rfl, .inl ⟨SqL.of h, q⟩⟩
theorem i_loL (h : H p = some (.lst xs)) (q : ∀ l, H l = none → Q (.ref l) (upd H l (.lst xs))) : rLo K [.ref p] H Q := ⟨p, xs, rfl, .inl (SqL.of h), q⟩
theorem i_loT (h : H p = some (.tup xs)) (q : ∀ l, H l = none → Q (.ref l) (upd H l (.lst xs))) : rLo K [.ref p] H Q := ⟨p, xs, rfl, .inr (SqT.of h), q⟩
theorem i_isN (h : Q (.bl (decide (v = .non))) H) : rIsN v .non H Q := ⟨rfl, h⟩
theorem i_notN (h : Q (.bl (!decide (v = .non))) H) : rNotN v .non H Q := ⟨rfl, h⟩
/-- xs.append(y) -/
theorem i_app {y : V} (h : H p = some (.lst xs)) (l : xs.length ≤ 1000000) (q : Q .non (upd H p (.lst (xs ++ [y])))) : rAppend (.ref p) [y] H Q := ⟨p, xs, y, rfl, rfl, h, Nat.lt_of_le_of_lt l (by decide), q⟩
theorem i_bm {T : String} {r : V → List V → Hp → VK → Prop} {to : TE} {t : TA} {σ : L2.St} (h : to σ H fun x H1 => tyV K T x H1 ∧ t σ H1 fun xs H2 => r x xs H2 Q) : tBM K T r to t σ H Q := h
theorem i_bm0 {T : String} {r : V → List V → Hp → VK → Prop} {to : TE} {σ : L2.St} (h : to σ H fun x H1 => tyV K T x H1 ∧ r x [] H1 Q) : tBM0 K T r to σ H Q := h
theorem i_tyL {A : Prop} (h : H p = some (.lst xs)) (q : A) : tyV K "list" (.ref p) H ∧ A := ⟨Or.inl ⟨rfl, _, SqL.of h⟩, q⟩
theorem i_loL' {xs : List V} (h : H p = some (.lst xs)) (q : ∀ l, H l = none → Q (.ref l) (upd H l (.lst xs))) : rLo K [.ref p] H Q := i_loL h q
theorem i_ext {l : Addr} {zs : List V} (h : H l = some (.lst xs)) (h2 : H p = some (.lst zs)) (n : xs.length + zs.length ≤ 1000000) (q : Q .non (upd H l (.lst (xs ++ zs)))) : rExtend (.ref l) [.ref p] H Q := ⟨l, p, xs, zs, rfl, rfl, h, h2, Nat.le_trans n (by decide), q⟩
theorem i_pop {y : V} (h : H p = some (.lst xs)) (e : xs.getLast? = some y) (q : Q y (upd H p (.lst xs.dropLast))) : rPop (.ref p) [] H Q := ⟨p, xs, y, rfl, rfl, h, by rw [← List.getLast?_eq_getElem?]; exact e, q⟩
theorem i_catL {l : Addr} {zs : List V} (h : H l = some (.lst xs)) (h2 : H p = some (.lst zs)) (n : xs.length + zs.length ≤ 1000000) (q : ∀ k, H k = none → Q (.ref k) (upd H k (.lst (xs ++ zs)))) : rCat (.ref l) (.ref p) H Q := ⟨l, p, xs, zs, rfl, rfl, h, h2, Nat.le_trans n (by decide), q⟩
theorem atI_lst {xs : List V} {y : V} (e : xs.getLast? = some y) : atI xs (-1) = some y := by
  have hne : xs ≠ [] := fun z => by rw [z] at e; cases e
  have q := List.dropLast_concat_getLast hne
  rw [List.getLast?_eq_some_getLast hne] at e
  rw [← q, Option.some.inj e]
  exact atI_last _ _
theorem i_rn {A B : Prop} (h : B) : if decide (V.ref p = V.non) = true then A else B := by
  rw [decide_eq_false (by intro z; cases z)]
  exact iteF h
theorem i_nn {A B : Prop} (h : A) : if decide (V.non = V.non) = true then A else B := by
  rw [decide_eq_true rfl]
  exact iteT h
theorem i_rn' {A B : Prop} (h : A) : if (!decide (V.ref p = V.non)) = true then A else B := by
  rw [decide_eq_false (by intro z; cases z)]
  exact iteT h
theorem i_nn' {A B : Prop} (h : B) : if (!decide (V.non = V.non)) = true then A else B := by
  rw [decide_eq_true rfl]
  exact iteF h
section
variable {σ : L2.St} {n : Nat} {t : TG} {ts u : TGs} {Q : L2.St → Hp → Prop}
theorem i_gtup (h : H p = some (.tup xs)) (e : xs.length = n) (q : ts xs σ H Q) : gTup K n ts (.ref p) σ H Q := ⟨p, xs, rfl, SqT.of h, e, q⟩
theorem i_gcons {r : List V} (q : t v σ H fun σ' H' => u r σ' H' Q) : gCons t u (v :: r) σ H Q := ⟨v, r, rfl, q⟩
theorem i_gnil (q : Q σ H) : gNil [] σ H Q := ⟨rfl, q⟩
end
theorem i_cut {t u : TS} {D : Ends} {σ : L2.St} (M : L2.St → Hp → Prop) (h : t { D with nx := M } σ H) (k : ∀ σ' H', M σ' H' → u D σ' H') : Evl.tCut t u D σ H := ⟨M, h, k⟩
theorem small {n : Nat} (h : n ≤ 1000000) : n ≤ sizeLine := Nat.le_trans h (by decide)
theorem small' {n : Nat} (h : n ≤ 1000000) : n < sizeLine := Nat.lt_of_le_of_lt h (by decide)
end
end OH
set_option Elab.async false
set_option linter.all false
set_option maxRecDepth 100000
/-! The head's facts by names. -/
namespace OH
open PySem L2
section
variable {K : PySem.W.Frag} {mg : Str → Option Value}
/-- what the top has left: the facts, and where the module's names stand -/
structure Pg (K : PySem.W.Frag) (mg : Str → Option Value) : Prop where
  c : He.SaysD faAll fnAll K
  ex : exAll K = true
  g : ∃ h : Heap, K.In h ∧ h.Ns mainGlobals mg
theorem Pg.glo (T : Pg K mg) (i : Nat) {x : Str} (h : faAll[i]? = some (.glo x) := by rfl) : mg x = some (.ref (He.ga K x)) := by
  obtain ⟨_, X, G⟩ := T.g
  exact He.glo_ok X G (T.c.fact i h)
theorem Pg.free (T : Pg K mg) (i : Nat) {x : Str} (h : faAll[i]? = some (.free x) := by rfl) : mg x = none := by
  obtain ⟨_, X, G⟩ := T.g
  exact He.free_ok X G (T.c.fact i h)
theorem Pg.int (T : Pg K mg) (i : Nat) {x : Str} {n : Int} (h : faAll[i]? = some (.int x n) := by rfl) : ∃ t, mg x = some (.int n t) := by
  obtain ⟨_, X, G⟩ := T.g
  exact He.int_ok X G (T.c.fact i h)
theorem Pg.str (T : Pg K mg) (i : Nat) {x z : Str} (h : faAll[i]? = some (.str x z) := by rfl) : ∃ t, mg x = some (.str z t) := by
  obtain ⟨_, X, G⟩ := T.g
  exact He.str_ok X G (T.c.fact i h)
theorem Pg.fn (T : Pg K mg) (i : Nat) {d : He.DefD} {st : Stmt} (h : fnAll[i]? = some d) (h1 : d.params = defArgs st) (h2 : d.body = defBody st) (h3 : d.scope = defScope st) (h4 : d.dfl = []) : ∃ fd, Fun K d.name d.qual st (He.fAd K d.at_) fd := by
  obtain ⟨fd, F⟩ := T.c.def_ i h
  obtain ⟨⟨oc, od, dV, kV, doc, pm, an, cdv, ct, osl, e, lk, cd, hD, _⟩, kp⟩ := F
  have hd : d.dvs K = [] := by
    show d.dfl.map _ = []
    rw [h4]
    rfl
  rcases hD with ⟨_, rfl⟩ | ⟨ne, _⟩
  · rw [h1, h2, h3] at e
    exact ⟨fd, ⟨⟨oc, od, kV, doc, pm, an, cdv, ct, osl, e, lk, cd⟩, kp⟩⟩
  · exact absurd hd ne
theorem g_down (T : Pg K mg) : mg "down" = some (.ref (He.ga K "down")) := T.glo 0
theorem g_up (T : Pg K mg) : mg "up" = some (.ref (He.ga K "up")) := T.glo 1
theorem g_line_at (T : Pg K mg) : mg "line_at" = some (.ref (He.ga K "line_at")) := T.glo 2
theorem g_no_dearer (T : Pg K mg) : mg "no_dearer" = some (.ref (He.ga K "no_dearer")) := T.glo 3
theorem g_lower_line (T : Pg K mg) : mg "lower_line" = some (.ref (He.ga K "lower_line")) := T.glo 4
theorem g_drawn_on (T : Pg K mg) : mg "drawn_on" = some (.ref (He.ga K "drawn_on")) := T.glo 5
theorem g_joins (T : Pg K mg) : mg "joins" = some (.ref (He.ga K "joins")) := T.glo 6
theorem g_begun (T : Pg K mg) : mg "begun" = some (.ref (He.ga K "begun")) := T.glo 7
theorem g_laid (T : Pg K mg) : mg "laid" = some (.ref (He.ga K "laid")) := T.glo 8
theorem g_cost_at (T : Pg K mg) : mg "cost_at" = some (.ref (He.ga K "cost_at")) := T.glo 9
theorem g_clipped (T : Pg K mg) : mg "clipped" = some (.ref (He.ga K "clipped")) := T.glo 10
theorem g_plus (T : Pg K mg) : mg "plus" = some (.ref (He.ga K "plus")) := T.glo 11
theorem g_raised (T : Pg K mg) : mg "raised" = some (.ref (He.ga K "raised")) := T.glo 12
theorem g_within (T : Pg K mg) : mg "within" = some (.ref (He.ga K "within")) := T.glo 13
theorem g_without (T : Pg K mg) : mg "without" = some (.ref (He.ga K "without")) := T.glo 14
theorem g_freed (T : Pg K mg) : mg "freed" = some (.ref (He.ga K "freed")) := T.glo 15
theorem g_lines_over (T : Pg K mg) : mg "lines_over" = some (.ref (He.ga K "lines_over")) := T.glo 16
theorem g_side_by_side (T : Pg K mg) : mg "side_by_side" = some (.ref (He.ga K "side_by_side")) := T.glo 17
theorem g_least (T : Pg K mg) : mg "least" = some (.ref (He.ga K "least")) := T.glo 18
theorem g_greatest (T : Pg K mg) : mg "greatest" = some (.ref (He.ga K "greatest")) := T.glo 19
theorem g_is_name (T : Pg K mg) : mg "is_name" = some (.ref (He.ga K "is_name")) := T.glo 20
theorem g_look_at_names (T : Pg K mg) : mg "look_at_names" = some (.ref (He.ga K "look_at_names")) := T.glo 21
theorem g_look_at_rules (T : Pg K mg) : mg "look_at_rules" = some (.ref (He.ga K "look_at_rules")) := T.glo 22
theorem g_look_for_rings (T : Pg K mg) : mg "look_for_rings" = some (.ref (He.ga K "look_for_rings")) := T.glo 23
theorem g_rule_of (T : Pg K mg) : mg "rule_of" = some (.ref (He.ga K "rule_of")) := T.glo 24
theorem g_gathered (T : Pg K mg) : mg "gathered" = some (.ref (He.ga K "gathered")) := T.glo 25
theorem g_order_of (T : Pg K mg) : mg "order_of" = some (.ref (He.ga K "order_of")) := T.glo 26
theorem g_form_of (T : Pg K mg) : mg "form_of" = some (.ref (He.ga K "form_of")) := T.glo 27
theorem g_quote (T : Pg K mg) : mg "quote" = some (.ref (He.ga K "quote")) := T.glo 28
theorem g_law_at (T : Pg K mg) : mg "_law_at" = some (.ref (He.ga K "_law_at")) := T.glo 29
theorem g_law_mix (T : Pg K mg) : mg "_law_mix" = some (.ref (He.ga K "_law_mix")) := T.glo 30
theorem g_law_price (T : Pg K mg) : mg "_law_price" = some (.ref (He.ga K "_law_price")) := T.glo 31
theorem g_law_rows (T : Pg K mg) : mg "_law_rows" = some (.ref (He.ga K "_law_rows")) := T.glo 32
theorem g_law_leaf (T : Pg K mg) : mg "_law_leaf" = some (.ref (He.ga K "_law_leaf")) := T.glo 33
theorem g_law_turned (T : Pg K mg) : mg "_law_turned" = some (.ref (He.ga K "_law_turned")) := T.glo 34
theorem g_law_tree (T : Pg K mg) : mg "_law_tree" = some (.ref (He.ga K "_law_tree")) := T.glo 35
theorem g_law_words (T : Pg K mg) : mg "_law_words" = some (.ref (He.ga K "_law_words")) := T.glo 36
theorem g_law_folded (T : Pg K mg) : mg "_law_folded" = some (.ref (He.ga K "_law_folded")) := T.glo 37
theorem g_law_book (T : Pg K mg) : mg "_law_book" = some (.ref (He.ga K "_law_book")) := T.glo 38
theorem g_law_rule (T : Pg K mg) : mg "_law_rule" = some (.ref (He.ga K "_law_rule")) := T.glo 39
theorem g_law_made (T : Pg K mg) : mg "_law_made" = some (.ref (He.ga K "_law_made")) := T.glo 40
theorem g_law_plan_of (T : Pg K mg) : mg "_law_plan_of" = some (.ref (He.ga K "_law_plan_of")) := T.glo 41
theorem g_law_leaf_cost (T : Pg K mg) : mg "_law_leaf_cost" = some (.ref (He.ga K "_law_leaf_cost")) := T.glo 42
theorem g_law_both (T : Pg K mg) : mg "_law_both" = some (.ref (He.ga K "_law_both")) := T.glo 43
theorem g_law_cost (T : Pg K mg) : mg "_law_cost" = some (.ref (He.ga K "_law_cost")) := T.glo 44
theorem g_law_ends (T : Pg K mg) : mg "_law_ends" = some (.ref (He.ga K "_law_ends")) := T.glo 45
theorem g_law_amounts (T : Pg K mg) : mg "_law_amounts" = some (.ref (He.ga K "_law_amounts")) := T.glo 46
theorem g_law_quoted (T : Pg K mg) : mg "_law_quoted" = some (.ref (He.ga K "_law_quoted")) := T.glo 47
theorem g_law_form_or_none (T : Pg K mg) : mg "_law_form_or_none" = some (.ref (He.ga K "_law_form_or_none")) := T.glo 48
theorem g_law_no_offer (T : Pg K mg) : mg "_law_no_offer" = some (.ref (He.ga K "_law_no_offer")) := T.glo 49
theorem g_law (T : Pg K mg) : mg "law" = some (.ref (He.ga K "law")) := T.glo 50
theorem g_Each (T : Pg K mg) : mg "Each" = some (.ref (He.ga K "Each")) := T.glo 51
theorem c_Each (T : Pg K mg) : Cls K (He.ga K "Each") := He.cls_ok (T.c.fact 52 rfl)
theorem k_Each (T : Pg K mg) : Mk K (He.ga K "Each") (He.ma K (He.ga K "Each") "__init__") := He.mkr_ok (T.c.fact 53 rfl)
theorem n_Each_unit (T : Pg K mg) : NoAttr K (He.ga K "Each") "unit" := He.noat_ok (T.c.fact 54 rfl)
theorem n_Each_low (T : Pg K mg) : NoAttr K (He.ga K "Each") "low" := He.noat_ok (T.c.fact 55 rfl)
theorem n_Each_high (T : Pg K mg) : NoAttr K (He.ga K "Each") "high" := He.noat_ok (T.c.fact 56 rfl)
theorem g_Flat (T : Pg K mg) : mg "Flat" = some (.ref (He.ga K "Flat")) := T.glo 57
theorem c_Flat (T : Pg K mg) : Cls K (He.ga K "Flat") := He.cls_ok (T.c.fact 58 rfl)
theorem k_Flat (T : Pg K mg) : Mk K (He.ga K "Flat") (He.ma K (He.ga K "Flat") "__init__") := He.mkr_ok (T.c.fact 59 rfl)
theorem n_Flat_price (T : Pg K mg) : NoAttr K (He.ga K "Flat") "price" := He.noat_ok (T.c.fact 60 rfl)
theorem n_Flat_low (T : Pg K mg) : NoAttr K (He.ga K "Flat") "low" := He.noat_ok (T.c.fact 61 rfl)
theorem n_Flat_high (T : Pg K mg) : NoAttr K (He.ga K "Flat") "high" := He.noat_ok (T.c.fact 62 rfl)
theorem g_Bands (T : Pg K mg) : mg "Bands" = some (.ref (He.ga K "Bands")) := T.glo 63
theorem c_Bands (T : Pg K mg) : Cls K (He.ga K "Bands") := He.cls_ok (T.c.fact 64 rfl)
theorem k_Bands (T : Pg K mg) : Mk K (He.ga K "Bands") (He.ma K (He.ga K "Bands") "__init__") := He.mkr_ok (T.c.fact 65 rfl)
theorem n_Bands_rows (T : Pg K mg) : NoAttr K (He.ga K "Bands") "rows" := He.noat_ok (T.c.fact 66 rfl)
theorem g_Steps (T : Pg K mg) : mg "Steps" = some (.ref (He.ga K "Steps")) := T.glo 67
theorem c_Steps (T : Pg K mg) : Cls K (He.ga K "Steps") := He.cls_ok (T.c.fact 68 rfl)
theorem k_Steps (T : Pg K mg) : Mk K (He.ga K "Steps") (He.ma K (He.ga K "Steps") "__init__") := He.mkr_ok (T.c.fact 69 rfl)
theorem n_Steps_rows (T : Pg K mg) : NoAttr K (He.ga K "Steps") "rows" := He.noat_ok (T.c.fact 70 rfl)
theorem g_Blocks (T : Pg K mg) : mg "Blocks" = some (.ref (He.ga K "Blocks")) := T.glo 71
theorem c_Blocks (T : Pg K mg) : Cls K (He.ga K "Blocks") := He.cls_ok (T.c.fact 72 rfl)
theorem k_Blocks (T : Pg K mg) : Mk K (He.ga K "Blocks") (He.ma K (He.ga K "Blocks") "__init__") := He.mkr_ok (T.c.fact 73 rfl)
theorem n_Blocks_size (T : Pg K mg) : NoAttr K (He.ga K "Blocks") "size" := He.noat_ok (T.c.fact 74 rfl)
theorem n_Blocks_price (T : Pg K mg) : NoAttr K (He.ga K "Blocks") "price" := He.noat_ok (T.c.fact 75 rfl)
theorem n_Blocks_many (T : Pg K mg) : NoAttr K (He.ga K "Blocks") "many" := He.noat_ok (T.c.fact 76 rfl)
theorem g_Named (T : Pg K mg) : mg "Named" = some (.ref (He.ga K "Named")) := T.glo 77
theorem c_Named (T : Pg K mg) : Cls K (He.ga K "Named") := He.cls_ok (T.c.fact 78 rfl)
theorem k_Named (T : Pg K mg) : Mk K (He.ga K "Named") (He.ma K (He.ga K "Named") "__init__") := He.mkr_ok (T.c.fact 79 rfl)
theorem n_Named_name (T : Pg K mg) : NoAttr K (He.ga K "Named") "name" := He.noat_ok (T.c.fact 80 rfl)
theorem g_Sum (T : Pg K mg) : mg "Sum" = some (.ref (He.ga K "Sum")) := T.glo 81
theorem c_Sum (T : Pg K mg) : Cls K (He.ga K "Sum") := He.cls_ok (T.c.fact 82 rfl)
theorem k_Sum (T : Pg K mg) : Mk K (He.ga K "Sum") (He.ma K (He.ga K "Sum") "__init__") := He.mkr_ok (T.c.fact 83 rfl)
theorem n_Sum_one (T : Pg K mg) : NoAttr K (He.ga K "Sum") "one" := He.noat_ok (T.c.fact 84 rfl)
theorem n_Sum_other (T : Pg K mg) : NoAttr K (He.ga K "Sum") "other" := He.noat_ok (T.c.fact 85 rfl)
theorem g_Cheaper (T : Pg K mg) : mg "Cheaper" = some (.ref (He.ga K "Cheaper")) := T.glo 86
theorem c_Cheaper (T : Pg K mg) : Cls K (He.ga K "Cheaper") := He.cls_ok (T.c.fact 87 rfl)
theorem k_Cheaper (T : Pg K mg) : Mk K (He.ga K "Cheaper") (He.ma K (He.ga K "Cheaper") "__init__") := He.mkr_ok (T.c.fact 88 rfl)
theorem n_Cheaper_one (T : Pg K mg) : NoAttr K (He.ga K "Cheaper") "one" := He.noat_ok (T.c.fact 89 rfl)
theorem n_Cheaper_other (T : Pg K mg) : NoAttr K (He.ga K "Cheaper") "other" := He.noat_ok (T.c.fact 90 rfl)
theorem g_Dearer (T : Pg K mg) : mg "Dearer" = some (.ref (He.ga K "Dearer")) := T.glo 91
theorem c_Dearer (T : Pg K mg) : Cls K (He.ga K "Dearer") := He.cls_ok (T.c.fact 92 rfl)
theorem k_Dearer (T : Pg K mg) : Mk K (He.ga K "Dearer") (He.ma K (He.ga K "Dearer") "__init__") := He.mkr_ok (T.c.fact 93 rfl)
theorem n_Dearer_one (T : Pg K mg) : NoAttr K (He.ga K "Dearer") "one" := He.noat_ok (T.c.fact 94 rfl)
theorem n_Dearer_other (T : Pg K mg) : NoAttr K (He.ga K "Dearer") "other" := He.noat_ok (T.c.fact 95 rfl)
theorem g_Only (T : Pg K mg) : mg "Only" = some (.ref (He.ga K "Only")) := T.glo 96
theorem c_Only (T : Pg K mg) : Cls K (He.ga K "Only") := He.cls_ok (T.c.fact 97 rfl)
theorem k_Only (T : Pg K mg) : Mk K (He.ga K "Only") (He.ma K (He.ga K "Only") "__init__") := He.mkr_ok (T.c.fact 98 rfl)
theorem n_Only_one (T : Pg K mg) : NoAttr K (He.ga K "Only") "one" := He.noat_ok (T.c.fact 99 rfl)
theorem n_Only_low (T : Pg K mg) : NoAttr K (He.ga K "Only") "low" := He.noat_ok (T.c.fact 100 rfl)
theorem n_Only_high (T : Pg K mg) : NoAttr K (He.ga K "Only") "high" := He.noat_ok (T.c.fact 101 rfl)
theorem g_After (T : Pg K mg) : mg "After" = some (.ref (He.ga K "After")) := T.glo 102
theorem c_After (T : Pg K mg) : Cls K (He.ga K "After") := He.cls_ok (T.c.fact 103 rfl)
theorem k_After (T : Pg K mg) : Mk K (He.ga K "After") (He.ma K (He.ga K "After") "__init__") := He.mkr_ok (T.c.fact 104 rfl)
theorem n_After_one (T : Pg K mg) : NoAttr K (He.ga K "After") "one" := He.noat_ok (T.c.fact 105 rfl)
theorem n_After_count (T : Pg K mg) : NoAttr K (He.ga K "After") "count" := He.noat_ok (T.c.fact 106 rfl)
theorem g_Fee (T : Pg K mg) : mg "Fee" = some (.ref (He.ga K "Fee")) := T.glo 107
theorem c_Fee (T : Pg K mg) : Cls K (He.ga K "Fee") := He.cls_ok (T.c.fact 108 rfl)
theorem k_Fee (T : Pg K mg) : Mk K (He.ga K "Fee") (He.ma K (He.ga K "Fee") "__init__") := He.mkr_ok (T.c.fact 109 rfl)
theorem n_Fee_one (T : Pg K mg) : NoAttr K (He.ga K "Fee") "one" := He.noat_ok (T.c.fact 110 rfl)
theorem n_Fee_price (T : Pg K mg) : NoAttr K (He.ga K "Fee") "price" := He.noat_ok (T.c.fact 111 rfl)
theorem g_Book (T : Pg K mg) : mg "Book" = some (.ref (He.ga K "Book")) := T.glo 112
theorem c_Book (T : Pg K mg) : Cls K (He.ga K "Book") := He.cls_ok (T.c.fact 113 rfl)
theorem k_Book (T : Pg K mg) : Mk K (He.ga K "Book") (He.ma K (He.ga K "Book") "__init__") := He.mkr_ok (T.c.fact 114 rfl)
theorem n_Book_offers (T : Pg K mg) : NoAttr K (He.ga K "Book") "offers" := He.noat_ok (T.c.fact 115 rfl)
theorem m_Each_inner (T : Pg K mg) : Meth K (He.ga K "Each") "inner" (He.ma K (He.ga K "Each") "inner") := He.meth_ok (T.c.fact 116 rfl)
theorem m_Each_own_names (T : Pg K mg) : Meth K (He.ga K "Each") "own_names" (He.ma K (He.ga K "Each") "own_names") := He.meth_ok (T.c.fact 117 rfl)
theorem m_Each_names (T : Pg K mg) : Meth K (He.ga K "Each") "names" (He.ma K (He.ga K "Each") "names") := He.meth_ok (T.c.fact 118 rfl)
theorem m_Each_look_at (T : Pg K mg) : Meth K (He.ga K "Each") "look_at" (He.ma K (He.ga K "Each") "look_at") := He.meth_ok (T.c.fact 119 rfl)
theorem m_Each_drawn (T : Pg K mg) : Meth K (He.ga K "Each") "drawn" (He.ma K (He.ga K "Each") "drawn") := He.meth_ok (T.c.fact 120 rfl)
theorem m_Each_made (T : Pg K mg) : Meth K (He.ga K "Each") "made" (He.ma K (He.ga K "Each") "made") := He.meth_ok (T.c.fact 121 rfl)
theorem m_Each_form (T : Pg K mg) : Meth K (He.ga K "Each") "form" (He.ma K (He.ga K "Each") "form") := He.meth_ok (T.c.fact 122 rfl)
theorem m_Flat_inner (T : Pg K mg) : Meth K (He.ga K "Flat") "inner" (He.ma K (He.ga K "Flat") "inner") := He.meth_ok (T.c.fact 123 rfl)
theorem m_Flat_own_names (T : Pg K mg) : Meth K (He.ga K "Flat") "own_names" (He.ma K (He.ga K "Flat") "own_names") := He.meth_ok (T.c.fact 124 rfl)
theorem m_Flat_names (T : Pg K mg) : Meth K (He.ga K "Flat") "names" (He.ma K (He.ga K "Flat") "names") := He.meth_ok (T.c.fact 125 rfl)
theorem m_Flat_look_at (T : Pg K mg) : Meth K (He.ga K "Flat") "look_at" (He.ma K (He.ga K "Flat") "look_at") := He.meth_ok (T.c.fact 126 rfl)
theorem m_Flat_drawn (T : Pg K mg) : Meth K (He.ga K "Flat") "drawn" (He.ma K (He.ga K "Flat") "drawn") := He.meth_ok (T.c.fact 127 rfl)
theorem m_Flat_made (T : Pg K mg) : Meth K (He.ga K "Flat") "made" (He.ma K (He.ga K "Flat") "made") := He.meth_ok (T.c.fact 128 rfl)
theorem m_Flat_form (T : Pg K mg) : Meth K (He.ga K "Flat") "form" (He.ma K (He.ga K "Flat") "form") := He.meth_ok (T.c.fact 129 rfl)
theorem m_Bands_inner (T : Pg K mg) : Meth K (He.ga K "Bands") "inner" (He.ma K (He.ga K "Bands") "inner") := He.meth_ok (T.c.fact 130 rfl)
theorem m_Bands_own_names (T : Pg K mg) : Meth K (He.ga K "Bands") "own_names" (He.ma K (He.ga K "Bands") "own_names") := He.meth_ok (T.c.fact 131 rfl)
theorem m_Bands_names (T : Pg K mg) : Meth K (He.ga K "Bands") "names" (He.ma K (He.ga K "Bands") "names") := He.meth_ok (T.c.fact 132 rfl)
theorem m_Bands_look_at (T : Pg K mg) : Meth K (He.ga K "Bands") "look_at" (He.ma K (He.ga K "Bands") "look_at") := He.meth_ok (T.c.fact 133 rfl)
theorem m_Bands_drawn (T : Pg K mg) : Meth K (He.ga K "Bands") "drawn" (He.ma K (He.ga K "Bands") "drawn") := He.meth_ok (T.c.fact 134 rfl)
theorem m_Bands_made (T : Pg K mg) : Meth K (He.ga K "Bands") "made" (He.ma K (He.ga K "Bands") "made") := He.meth_ok (T.c.fact 135 rfl)
theorem m_Bands_form (T : Pg K mg) : Meth K (He.ga K "Bands") "form" (He.ma K (He.ga K "Bands") "form") := He.meth_ok (T.c.fact 136 rfl)
theorem m_Steps_inner (T : Pg K mg) : Meth K (He.ga K "Steps") "inner" (He.ma K (He.ga K "Steps") "inner") := He.meth_ok (T.c.fact 137 rfl)
theorem m_Steps_own_names (T : Pg K mg) : Meth K (He.ga K "Steps") "own_names" (He.ma K (He.ga K "Steps") "own_names") := He.meth_ok (T.c.fact 138 rfl)
theorem m_Steps_names (T : Pg K mg) : Meth K (He.ga K "Steps") "names" (He.ma K (He.ga K "Steps") "names") := He.meth_ok (T.c.fact 139 rfl)
theorem m_Steps_look_at (T : Pg K mg) : Meth K (He.ga K "Steps") "look_at" (He.ma K (He.ga K "Steps") "look_at") := He.meth_ok (T.c.fact 140 rfl)
theorem m_Steps_drawn (T : Pg K mg) : Meth K (He.ga K "Steps") "drawn" (He.ma K (He.ga K "Steps") "drawn") := He.meth_ok (T.c.fact 141 rfl)
theorem m_Steps_made (T : Pg K mg) : Meth K (He.ga K "Steps") "made" (He.ma K (He.ga K "Steps") "made") := He.meth_ok (T.c.fact 142 rfl)
theorem m_Steps_form (T : Pg K mg) : Meth K (He.ga K "Steps") "form" (He.ma K (He.ga K "Steps") "form") := He.meth_ok (T.c.fact 143 rfl)
theorem m_Blocks_inner (T : Pg K mg) : Meth K (He.ga K "Blocks") "inner" (He.ma K (He.ga K "Blocks") "inner") := He.meth_ok (T.c.fact 144 rfl)
theorem m_Blocks_own_names (T : Pg K mg) : Meth K (He.ga K "Blocks") "own_names" (He.ma K (He.ga K "Blocks") "own_names") := He.meth_ok (T.c.fact 145 rfl)
theorem m_Blocks_names (T : Pg K mg) : Meth K (He.ga K "Blocks") "names" (He.ma K (He.ga K "Blocks") "names") := He.meth_ok (T.c.fact 146 rfl)
theorem m_Blocks_look_at (T : Pg K mg) : Meth K (He.ga K "Blocks") "look_at" (He.ma K (He.ga K "Blocks") "look_at") := He.meth_ok (T.c.fact 147 rfl)
theorem m_Blocks_drawn (T : Pg K mg) : Meth K (He.ga K "Blocks") "drawn" (He.ma K (He.ga K "Blocks") "drawn") := He.meth_ok (T.c.fact 148 rfl)
theorem m_Blocks_made (T : Pg K mg) : Meth K (He.ga K "Blocks") "made" (He.ma K (He.ga K "Blocks") "made") := He.meth_ok (T.c.fact 149 rfl)
theorem m_Blocks_form (T : Pg K mg) : Meth K (He.ga K "Blocks") "form" (He.ma K (He.ga K "Blocks") "form") := He.meth_ok (T.c.fact 150 rfl)
theorem m_Named_inner (T : Pg K mg) : Meth K (He.ga K "Named") "inner" (He.ma K (He.ga K "Named") "inner") := He.meth_ok (T.c.fact 151 rfl)
theorem m_Named_own_names (T : Pg K mg) : Meth K (He.ga K "Named") "own_names" (He.ma K (He.ga K "Named") "own_names") := He.meth_ok (T.c.fact 152 rfl)
theorem m_Named_names (T : Pg K mg) : Meth K (He.ga K "Named") "names" (He.ma K (He.ga K "Named") "names") := He.meth_ok (T.c.fact 153 rfl)
theorem m_Named_look_at (T : Pg K mg) : Meth K (He.ga K "Named") "look_at" (He.ma K (He.ga K "Named") "look_at") := He.meth_ok (T.c.fact 154 rfl)
theorem m_Named_drawn (T : Pg K mg) : Meth K (He.ga K "Named") "drawn" (He.ma K (He.ga K "Named") "drawn") := He.meth_ok (T.c.fact 155 rfl)
theorem m_Named_made (T : Pg K mg) : Meth K (He.ga K "Named") "made" (He.ma K (He.ga K "Named") "made") := He.meth_ok (T.c.fact 156 rfl)
theorem m_Named_form (T : Pg K mg) : Meth K (He.ga K "Named") "form" (He.ma K (He.ga K "Named") "form") := He.meth_ok (T.c.fact 157 rfl)
theorem m_Sum_inner (T : Pg K mg) : Meth K (He.ga K "Sum") "inner" (He.ma K (He.ga K "Sum") "inner") := He.meth_ok (T.c.fact 158 rfl)
theorem m_Sum_own_names (T : Pg K mg) : Meth K (He.ga K "Sum") "own_names" (He.ma K (He.ga K "Sum") "own_names") := He.meth_ok (T.c.fact 159 rfl)
theorem m_Sum_names (T : Pg K mg) : Meth K (He.ga K "Sum") "names" (He.ma K (He.ga K "Sum") "names") := He.meth_ok (T.c.fact 160 rfl)
theorem m_Sum_look_at (T : Pg K mg) : Meth K (He.ga K "Sum") "look_at" (He.ma K (He.ga K "Sum") "look_at") := He.meth_ok (T.c.fact 161 rfl)
theorem m_Sum_drawn (T : Pg K mg) : Meth K (He.ga K "Sum") "drawn" (He.ma K (He.ga K "Sum") "drawn") := He.meth_ok (T.c.fact 162 rfl)
theorem m_Sum_made (T : Pg K mg) : Meth K (He.ga K "Sum") "made" (He.ma K (He.ga K "Sum") "made") := He.meth_ok (T.c.fact 163 rfl)
theorem m_Sum_form (T : Pg K mg) : Meth K (He.ga K "Sum") "form" (He.ma K (He.ga K "Sum") "form") := He.meth_ok (T.c.fact 164 rfl)
theorem m_Cheaper_inner (T : Pg K mg) : Meth K (He.ga K "Cheaper") "inner" (He.ma K (He.ga K "Cheaper") "inner") := He.meth_ok (T.c.fact 165 rfl)
theorem m_Cheaper_own_names (T : Pg K mg) : Meth K (He.ga K "Cheaper") "own_names" (He.ma K (He.ga K "Cheaper") "own_names") := He.meth_ok (T.c.fact 166 rfl)
theorem m_Cheaper_names (T : Pg K mg) : Meth K (He.ga K "Cheaper") "names" (He.ma K (He.ga K "Cheaper") "names") := He.meth_ok (T.c.fact 167 rfl)
theorem m_Cheaper_look_at (T : Pg K mg) : Meth K (He.ga K "Cheaper") "look_at" (He.ma K (He.ga K "Cheaper") "look_at") := He.meth_ok (T.c.fact 168 rfl)
theorem m_Cheaper_drawn (T : Pg K mg) : Meth K (He.ga K "Cheaper") "drawn" (He.ma K (He.ga K "Cheaper") "drawn") := He.meth_ok (T.c.fact 169 rfl)
theorem m_Cheaper_made (T : Pg K mg) : Meth K (He.ga K "Cheaper") "made" (He.ma K (He.ga K "Cheaper") "made") := He.meth_ok (T.c.fact 170 rfl)
theorem m_Cheaper_form (T : Pg K mg) : Meth K (He.ga K "Cheaper") "form" (He.ma K (He.ga K "Cheaper") "form") := He.meth_ok (T.c.fact 171 rfl)
theorem m_Dearer_inner (T : Pg K mg) : Meth K (He.ga K "Dearer") "inner" (He.ma K (He.ga K "Dearer") "inner") := He.meth_ok (T.c.fact 172 rfl)
theorem m_Dearer_own_names (T : Pg K mg) : Meth K (He.ga K "Dearer") "own_names" (He.ma K (He.ga K "Dearer") "own_names") := He.meth_ok (T.c.fact 173 rfl)
theorem m_Dearer_names (T : Pg K mg) : Meth K (He.ga K "Dearer") "names" (He.ma K (He.ga K "Dearer") "names") := He.meth_ok (T.c.fact 174 rfl)
theorem m_Dearer_look_at (T : Pg K mg) : Meth K (He.ga K "Dearer") "look_at" (He.ma K (He.ga K "Dearer") "look_at") := He.meth_ok (T.c.fact 175 rfl)
theorem m_Dearer_drawn (T : Pg K mg) : Meth K (He.ga K "Dearer") "drawn" (He.ma K (He.ga K "Dearer") "drawn") := He.meth_ok (T.c.fact 176 rfl)
theorem m_Dearer_made (T : Pg K mg) : Meth K (He.ga K "Dearer") "made" (He.ma K (He.ga K "Dearer") "made") := He.meth_ok (T.c.fact 177 rfl)
theorem m_Dearer_form (T : Pg K mg) : Meth K (He.ga K "Dearer") "form" (He.ma K (He.ga K "Dearer") "form") := He.meth_ok (T.c.fact 178 rfl)
theorem m_Only_inner (T : Pg K mg) : Meth K (He.ga K "Only") "inner" (He.ma K (He.ga K "Only") "inner") := He.meth_ok (T.c.fact 179 rfl)
theorem m_Only_own_names (T : Pg K mg) : Meth K (He.ga K "Only") "own_names" (He.ma K (He.ga K "Only") "own_names") := He.meth_ok (T.c.fact 180 rfl)
theorem m_Only_names (T : Pg K mg) : Meth K (He.ga K "Only") "names" (He.ma K (He.ga K "Only") "names") := He.meth_ok (T.c.fact 181 rfl)
theorem m_Only_look_at (T : Pg K mg) : Meth K (He.ga K "Only") "look_at" (He.ma K (He.ga K "Only") "look_at") := He.meth_ok (T.c.fact 182 rfl)
theorem m_Only_drawn (T : Pg K mg) : Meth K (He.ga K "Only") "drawn" (He.ma K (He.ga K "Only") "drawn") := He.meth_ok (T.c.fact 183 rfl)
theorem m_Only_made (T : Pg K mg) : Meth K (He.ga K "Only") "made" (He.ma K (He.ga K "Only") "made") := He.meth_ok (T.c.fact 184 rfl)
theorem m_Only_form (T : Pg K mg) : Meth K (He.ga K "Only") "form" (He.ma K (He.ga K "Only") "form") := He.meth_ok (T.c.fact 185 rfl)
theorem m_After_inner (T : Pg K mg) : Meth K (He.ga K "After") "inner" (He.ma K (He.ga K "After") "inner") := He.meth_ok (T.c.fact 186 rfl)
theorem m_After_own_names (T : Pg K mg) : Meth K (He.ga K "After") "own_names" (He.ma K (He.ga K "After") "own_names") := He.meth_ok (T.c.fact 187 rfl)
theorem m_After_names (T : Pg K mg) : Meth K (He.ga K "After") "names" (He.ma K (He.ga K "After") "names") := He.meth_ok (T.c.fact 188 rfl)
theorem m_After_look_at (T : Pg K mg) : Meth K (He.ga K "After") "look_at" (He.ma K (He.ga K "After") "look_at") := He.meth_ok (T.c.fact 189 rfl)
theorem m_After_drawn (T : Pg K mg) : Meth K (He.ga K "After") "drawn" (He.ma K (He.ga K "After") "drawn") := He.meth_ok (T.c.fact 190 rfl)
theorem m_After_made (T : Pg K mg) : Meth K (He.ga K "After") "made" (He.ma K (He.ga K "After") "made") := He.meth_ok (T.c.fact 191 rfl)
theorem m_After_form (T : Pg K mg) : Meth K (He.ga K "After") "form" (He.ma K (He.ga K "After") "form") := He.meth_ok (T.c.fact 192 rfl)
theorem m_Fee_inner (T : Pg K mg) : Meth K (He.ga K "Fee") "inner" (He.ma K (He.ga K "Fee") "inner") := He.meth_ok (T.c.fact 193 rfl)
theorem m_Fee_own_names (T : Pg K mg) : Meth K (He.ga K "Fee") "own_names" (He.ma K (He.ga K "Fee") "own_names") := He.meth_ok (T.c.fact 194 rfl)
theorem m_Fee_names (T : Pg K mg) : Meth K (He.ga K "Fee") "names" (He.ma K (He.ga K "Fee") "names") := He.meth_ok (T.c.fact 195 rfl)
theorem m_Fee_look_at (T : Pg K mg) : Meth K (He.ga K "Fee") "look_at" (He.ma K (He.ga K "Fee") "look_at") := He.meth_ok (T.c.fact 196 rfl)
theorem m_Fee_drawn (T : Pg K mg) : Meth K (He.ga K "Fee") "drawn" (He.ma K (He.ga K "Fee") "drawn") := He.meth_ok (T.c.fact 197 rfl)
theorem m_Fee_made (T : Pg K mg) : Meth K (He.ga K "Fee") "made" (He.ma K (He.ga K "Fee") "made") := He.meth_ok (T.c.fact 198 rfl)
theorem m_Fee_form (T : Pg K mg) : Meth K (He.ga K "Fee") "form" (He.ma K (He.ga K "Fee") "form") := He.meth_ok (T.c.fact 199 rfl)
theorem g_NotOffered (T : Pg K mg) : mg "NotOffered" = some (.ref (He.ga K "NotOffered")) := T.glo 200
theorem e_NotOffered (T : Pg K mg) : PySem.W.excIn K (He.ga K "NotOffered") He.veBase "ValueError.__new__" = true ∧ PySem.W.keepIn K (.ref (He.ga K "NotOffered")) = true ∧ PySem.W.subIn K (.ref (He.ga K "NotOffered")) (.type "BaseException") = some true ∧ PySem.W.typeIn K (.ref (He.ga K "NotOffered")) = some (.type "type") := He.exc_ok (T.c.fact 201 rfl)
theorem g_TooMany (T : Pg K mg) : mg "TooMany" = some (.ref (He.ga K "TooMany")) := T.glo 202
theorem e_TooMany (T : Pg K mg) : PySem.W.excIn K (He.ga K "TooMany") He.veBase "ValueError.__new__" = true ∧ PySem.W.keepIn K (.ref (He.ga K "TooMany")) = true ∧ PySem.W.subIn K (.ref (He.ga K "TooMany")) (.type "BaseException") = some true ∧ PySem.W.typeIn K (.ref (He.ga K "TooMany")) = some (.type "type") := He.exc_ok (T.c.fact 203 rfl)
theorem g_NoOffer (T : Pg K mg) : mg "NoOffer" = some (.ref (He.ga K "NoOffer")) := T.glo 204
theorem e_NoOffer (T : Pg K mg) : PySem.W.excIn K (He.ga K "NoOffer") He.veBase "ValueError.__new__" = true ∧ PySem.W.keepIn K (.ref (He.ga K "NoOffer")) = true ∧ PySem.W.subIn K (.ref (He.ga K "NoOffer")) (.type "BaseException") = some true ∧ PySem.W.typeIn K (.ref (He.ga K "NoOffer")) = some (.type "type") := He.exc_ok (T.c.fact 205 rfl)
theorem g_BadName (T : Pg K mg) : mg "BadName" = some (.ref (He.ga K "BadName")) := T.glo 206
theorem e_BadName (T : Pg K mg) : PySem.W.excIn K (He.ga K "BadName") He.veBase "ValueError.__new__" = true ∧ PySem.W.keepIn K (.ref (He.ga K "BadName")) = true ∧ PySem.W.subIn K (.ref (He.ga K "BadName")) (.type "BaseException") = some true ∧ PySem.W.typeIn K (.ref (He.ga K "BadName")) = some (.type "type") := He.exc_ok (T.c.fact 207 rfl)
theorem g_Twice (T : Pg K mg) : mg "Twice" = some (.ref (He.ga K "Twice")) := T.glo 208
theorem e_Twice (T : Pg K mg) : PySem.W.excIn K (He.ga K "Twice") He.veBase "ValueError.__new__" = true ∧ PySem.W.keepIn K (.ref (He.ga K "Twice")) = true ∧ PySem.W.subIn K (.ref (He.ga K "Twice")) (.type "BaseException") = some true ∧ PySem.W.typeIn K (.ref (He.ga K "Twice")) = some (.type "type") := He.exc_ok (T.c.fact 209 rfl)
theorem g_Ring (T : Pg K mg) : mg "Ring" = some (.ref (He.ga K "Ring")) := T.glo 210
theorem e_Ring (T : Pg K mg) : PySem.W.excIn K (He.ga K "Ring") He.veBase "ValueError.__new__" = true ∧ PySem.W.keepIn K (.ref (He.ga K "Ring")) = true ∧ PySem.W.subIn K (.ref (He.ga K "Ring")) (.type "BaseException") = some true ∧ PySem.W.typeIn K (.ref (He.ga K "Ring")) = some (.type "type") := He.exc_ok (T.c.fact 211 rfl)
theorem x_NotOffered (T : Pg K mg) : PySem.W.exmOne K (.ref (He.ga K "NotOffered")) (.ref (He.ga K "NotOffered")) = some true := He.exm_ok (T.c.fact 212 rfl)
theorem x_TooMany (T : Pg K mg) : PySem.W.exmOne K (.ref (He.ga K "TooMany")) (.ref (He.ga K "TooMany")) = some true := He.exm_ok (T.c.fact 213 rfl)
theorem x_NoOffer (T : Pg K mg) : PySem.W.exmOne K (.ref (He.ga K "NoOffer")) (.ref (He.ga K "NoOffer")) = some true := He.exm_ok (T.c.fact 214 rfl)
theorem i_MOST_STRETCHES (T : Pg K mg) : ∃ t, mg "MOST_STRETCHES" = some (.int 60 t) := T.int 215
theorem i_MOST_SIGNS (T : Pg K mg) : ∃ t, mg "MOST_SIGNS" = some (.int 8 t) := T.int 216
theorem i_MOST_OFFERS (T : Pg K mg) : ∃ t, mg "MOST_OFFERS" = some (.int 30 t) := T.int 217
theorem t_LETTERS (T : Pg K mg) : ∃ t, mg "LETTERS" = some (.str "abcdefghijklmnopqrstuvwxyz" t) := T.str 218
theorem g_WORDS (T : Pg K mg) : mg "WORDS" = some (.ref (He.ga K "WORDS")) := T.glo 219
theorem z_len (T : Pg K mg) : mg "len" = none := T.free 220
theorem z_list (T : Pg K mg) : mg "list" = none := T.free 221
theorem z_sorted (T : Pg K mg) : mg "sorted" = none := T.free 222
theorem z_set (T : Pg K mg) : mg "set" = none := T.free 223
theorem z_tuple (T : Pg K mg) : mg "tuple" = none := T.free 224
theorem z_min (T : Pg K mg) : mg "min" = none := T.free 225
theorem z_max (T : Pg K mg) : mg "max" = none := T.free 226
theorem z_zip (T : Pg K mg) : mg "zip" = none := T.free 227
theorem z_range (T : Pg K mg) : mg "range" = none := T.free 228
theorem z_all (T : Pg K mg) : mg "all" = none := T.free 229
theorem z_int (T : Pg K mg) : mg "int" = none := T.free 230
theorem z_sum (T : Pg K mg) : mg "sum" = none := T.free 231
theorem z_isinstance (T : Pg K mg) : mg "isinstance" = none := T.free 232
theorem z_ValueError (T : Pg K mg) : mg "ValueError" = none := T.free 233
theorem F_down (T : Pg K mg) : ∃ fd, Fun K "down" "down" s_down (He.ga K "down") fd := T.fn 0 (d := d_down) rfl rfl rfl rfl rfl
theorem F_up (T : Pg K mg) : ∃ fd, Fun K "up" "up" s_up (He.ga K "up") fd := T.fn 1 (d := d_up) rfl rfl rfl rfl rfl
theorem F_line_at (T : Pg K mg) : ∃ fd, Fun K "line_at" "line_at" s_line_at (He.ga K "line_at") fd := T.fn 2 (d := d_line_at) rfl rfl rfl rfl rfl
theorem F_no_dearer (T : Pg K mg) : ∃ fd, Fun K "no_dearer" "no_dearer" s_no_dearer (He.ga K "no_dearer") fd := T.fn 3 (d := d_no_dearer) rfl rfl rfl rfl rfl
theorem F_lower_line (T : Pg K mg) : ∃ fd, Fun K "lower_line" "lower_line" s_lower_line (He.ga K "lower_line") fd := T.fn 4 (d := d_lower_line) rfl rfl rfl rfl rfl
theorem F_drawn_on (T : Pg K mg) : ∃ fd, Fun K "drawn_on" "drawn_on" s_drawn_on (He.ga K "drawn_on") fd := T.fn 5 (d := d_drawn_on) rfl rfl rfl rfl rfl
theorem F_joins (T : Pg K mg) : ∃ fd, Fun K "joins" "joins" s_joins (He.ga K "joins") fd := T.fn 6 (d := d_joins) rfl rfl rfl rfl rfl
theorem F_begun (T : Pg K mg) : ∃ fd, Fun K "begun" "begun" s_begun (He.ga K "begun") fd := T.fn 7 (d := d_begun) rfl rfl rfl rfl rfl
theorem F_laid (T : Pg K mg) : ∃ fd, Fun K "laid" "laid" s_laid (He.ga K "laid") fd := T.fn 8 (d := d_laid) rfl rfl rfl rfl rfl
theorem F_cost_at (T : Pg K mg) : ∃ fd, Fun K "cost_at" "cost_at" s_cost_at (He.ga K "cost_at") fd := T.fn 9 (d := d_cost_at) rfl rfl rfl rfl rfl
theorem F_clipped (T : Pg K mg) : ∃ fd, Fun K "clipped" "clipped" s_clipped (He.ga K "clipped") fd := T.fn 10 (d := d_clipped) rfl rfl rfl rfl rfl
theorem F_plus (T : Pg K mg) : ∃ fd, Fun K "plus" "plus" s_plus (He.ga K "plus") fd := T.fn 11 (d := d_plus) rfl rfl rfl rfl rfl
theorem F_raised (T : Pg K mg) : ∃ fd, Fun K "raised" "raised" s_raised (He.ga K "raised") fd := T.fn 12 (d := d_raised) rfl rfl rfl rfl rfl
theorem F_within (T : Pg K mg) : ∃ fd, Fun K "within" "within" s_within (He.ga K "within") fd := T.fn 13 (d := d_within) rfl rfl rfl rfl rfl
theorem F_without (T : Pg K mg) : ∃ fd, Fun K "without" "without" s_without (He.ga K "without") fd := T.fn 14 (d := d_without) rfl rfl rfl rfl rfl
theorem F_freed (T : Pg K mg) : ∃ fd, Fun K "freed" "freed" s_freed (He.ga K "freed") fd := T.fn 15 (d := d_freed) rfl rfl rfl rfl rfl
theorem F_lines_over (T : Pg K mg) : ∃ fd, Fun K "lines_over" "lines_over" s_lines_over (He.ga K "lines_over") fd := T.fn 16 (d := d_lines_over) rfl rfl rfl rfl rfl
theorem F_side_by_side (T : Pg K mg) : ∃ fd, Fun K "side_by_side" "side_by_side" s_side_by_side (He.ga K "side_by_side") fd := T.fn 17 (d := d_side_by_side) rfl rfl rfl rfl rfl
theorem F_least (T : Pg K mg) : ∃ fd, Fun K "least" "least" s_least (He.ga K "least") fd := T.fn 18 (d := d_least) rfl rfl rfl rfl rfl
theorem F_greatest (T : Pg K mg) : ∃ fd, Fun K "greatest" "greatest" s_greatest (He.ga K "greatest") fd := T.fn 19 (d := d_greatest) rfl rfl rfl rfl rfl
theorem F_is_name (T : Pg K mg) : ∃ fd, Fun K "is_name" "is_name" s_is_name (He.ga K "is_name") fd := T.fn 20 (d := d_is_name) rfl rfl rfl rfl rfl
theorem F_look_at_names (T : Pg K mg) : ∃ fd, Fun K "look_at_names" "look_at_names" s_look_at_names (He.ga K "look_at_names") fd := T.fn 21 (d := d_look_at_names) rfl rfl rfl rfl rfl
theorem F_look_at_rules (T : Pg K mg) : ∃ fd, Fun K "look_at_rules" "look_at_rules" s_look_at_rules (He.ga K "look_at_rules") fd := T.fn 22 (d := d_look_at_rules) rfl rfl rfl rfl rfl
theorem F_look_for_rings (T : Pg K mg) : ∃ fd, Fun K "look_for_rings" "look_for_rings" s_look_for_rings (He.ga K "look_for_rings") fd := T.fn 23 (d := d_look_for_rings) rfl rfl rfl rfl rfl
theorem F_rule_of (T : Pg K mg) : ∃ fd, Fun K "rule_of" "rule_of" s_rule_of (He.ga K "rule_of") fd := T.fn 24 (d := d_rule_of) rfl rfl rfl rfl rfl
theorem F_gathered (T : Pg K mg) : ∃ fd, Fun K "gathered" "gathered" s_gathered (He.ga K "gathered") fd := T.fn 25 (d := d_gathered) rfl rfl rfl rfl rfl
theorem F_order_of (T : Pg K mg) : ∃ fd, Fun K "order_of" "order_of" s_order_of (He.ga K "order_of") fd := T.fn 26 (d := d_order_of) rfl rfl rfl rfl rfl
theorem F_form_of (T : Pg K mg) : ∃ fd, Fun K "form_of" "form_of" s_form_of (He.ga K "form_of") fd := T.fn 27 (d := d_form_of) rfl rfl rfl rfl rfl
theorem F_quote (T : Pg K mg) : ∃ fd, Fun K "quote" "quote" s_quote (He.ga K "quote") fd := T.fn 28 (d := d_quote) rfl rfl rfl rfl rfl
theorem F_law_at (T : Pg K mg) : ∃ fd, Fun K "_law_at" "_law_at" s_law_at (He.ga K "_law_at") fd := T.fn 29 (d := d_law_at) rfl rfl rfl rfl rfl
theorem F_law_mix (T : Pg K mg) : ∃ fd, Fun K "_law_mix" "_law_mix" s_law_mix (He.ga K "_law_mix") fd := T.fn 30 (d := d_law_mix) rfl rfl rfl rfl rfl
theorem F_law_price (T : Pg K mg) : ∃ fd, Fun K "_law_price" "_law_price" s_law_price (He.ga K "_law_price") fd := T.fn 31 (d := d_law_price) rfl rfl rfl rfl rfl
theorem F_law_rows (T : Pg K mg) : ∃ fd, Fun K "_law_rows" "_law_rows" s_law_rows (He.ga K "_law_rows") fd := T.fn 32 (d := d_law_rows) rfl rfl rfl rfl rfl
theorem F_law_leaf (T : Pg K mg) : ∃ fd, Fun K "_law_leaf" "_law_leaf" s_law_leaf (He.ga K "_law_leaf") fd := T.fn 33 (d := d_law_leaf) rfl rfl rfl rfl rfl
theorem F_law_turned (T : Pg K mg) : ∃ fd, Fun K "_law_turned" "_law_turned" s_law_turned (He.ga K "_law_turned") fd := T.fn 34 (d := d_law_turned) rfl rfl rfl rfl rfl
theorem F_law_tree (T : Pg K mg) : ∃ fd, Fun K "_law_tree" "_law_tree" s_law_tree (He.ga K "_law_tree") fd := T.fn 35 (d := d_law_tree) rfl rfl rfl rfl rfl
theorem F_law_words (T : Pg K mg) : ∃ fd, Fun K "_law_words" "_law_words" s_law_words (He.ga K "_law_words") fd := T.fn 36 (d := d_law_words) rfl rfl rfl rfl rfl
theorem F_law_folded (T : Pg K mg) : ∃ fd, Fun K "_law_folded" "_law_folded" s_law_folded (He.ga K "_law_folded") fd := T.fn 37 (d := d_law_folded) rfl rfl rfl rfl rfl
theorem F_law_book (T : Pg K mg) : ∃ fd, Fun K "_law_book" "_law_book" s_law_book (He.ga K "_law_book") fd := T.fn 38 (d := d_law_book) rfl rfl rfl rfl rfl
theorem F_law_rule (T : Pg K mg) : ∃ fd, Fun K "_law_rule" "_law_rule" s_law_rule (He.ga K "_law_rule") fd := T.fn 39 (d := d_law_rule) rfl rfl rfl rfl rfl
theorem F_law_made (T : Pg K mg) : ∃ fd, Fun K "_law_made" "_law_made" s_law_made (He.ga K "_law_made") fd := T.fn 40 (d := d_law_made) rfl rfl rfl rfl rfl
theorem F_law_plan_of (T : Pg K mg) : ∃ fd, Fun K "_law_plan_of" "_law_plan_of" s_law_plan_of (He.ga K "_law_plan_of") fd := T.fn 41 (d := d_law_plan_of) rfl rfl rfl rfl rfl
theorem F_law_leaf_cost (T : Pg K mg) : ∃ fd, Fun K "_law_leaf_cost" "_law_leaf_cost" s_law_leaf_cost (He.ga K "_law_leaf_cost") fd := T.fn 42 (d := d_law_leaf_cost) rfl rfl rfl rfl rfl
theorem F_law_both (T : Pg K mg) : ∃ fd, Fun K "_law_both" "_law_both" s_law_both (He.ga K "_law_both") fd := T.fn 43 (d := d_law_both) rfl rfl rfl rfl rfl
theorem F_law_cost (T : Pg K mg) : ∃ fd, Fun K "_law_cost" "_law_cost" s_law_cost (He.ga K "_law_cost") fd := T.fn 44 (d := d_law_cost) rfl rfl rfl rfl rfl
theorem F_law_ends (T : Pg K mg) : ∃ fd, Fun K "_law_ends" "_law_ends" s_law_ends (He.ga K "_law_ends") fd := T.fn 45 (d := d_law_ends) rfl rfl rfl rfl rfl
theorem F_law_amounts (T : Pg K mg) : ∃ fd, Fun K "_law_amounts" "_law_amounts" s_law_amounts (He.ga K "_law_amounts") fd := T.fn 46 (d := d_law_amounts) rfl rfl rfl rfl rfl
theorem F_law_quoted (T : Pg K mg) : ∃ fd, Fun K "_law_quoted" "_law_quoted" s_law_quoted (He.ga K "_law_quoted") fd := T.fn 47 (d := d_law_quoted) rfl rfl rfl rfl rfl
theorem F_law_form_or_none (T : Pg K mg) : ∃ fd, Fun K "_law_form_or_none" "_law_form_or_none" s_law_form_or_none (He.ga K "_law_form_or_none") fd := T.fn 48 (d := d_law_form_or_none) rfl rfl rfl rfl rfl
theorem F_law_no_offer (T : Pg K mg) : ∃ fd, Fun K "_law_no_offer" "_law_no_offer" s_law_no_offer (He.ga K "_law_no_offer") fd := T.fn 49 (d := d_law_no_offer) rfl rfl rfl rfl rfl
theorem F_law (T : Pg K mg) : ∃ fd, Fun K "law" "law" s_law (He.ga K "law") fd := T.fn 50 (d := d_law) rfl rfl rfl rfl rfl
theorem F_Rule_inner (T : Pg K mg) : ∃ fd, Fun K "inner" "Rule.inner" s_Rule_inner (He.ma K (He.ga K "Rule") "inner") fd := T.fn 51 (d := d_Rule_inner) rfl rfl rfl rfl rfl
theorem F_Rule_own_names (T : Pg K mg) : ∃ fd, Fun K "own_names" "Rule.own_names" s_Rule_own_names (He.ma K (He.ga K "Rule") "own_names") fd := T.fn 52 (d := d_Rule_own_names) rfl rfl rfl rfl rfl
theorem F_Rule_names (T : Pg K mg) : ∃ fd, Fun K "names" "Rule.names" s_Rule_names (He.ma K (He.ga K "Rule") "names") fd := T.fn 53 (d := d_Rule_names) rfl rfl rfl rfl rfl
theorem F_Rule_look_at (T : Pg K mg) : ∃ fd, Fun K "look_at" "Rule.look_at" s_Rule_look_at (He.ma K (He.ga K "Rule") "look_at") fd := T.fn 54 (d := d_Rule_look_at) rfl rfl rfl rfl rfl
theorem F_Rule_made (T : Pg K mg) : ∃ fd, Fun K "made" "Rule.made" s_Rule_made (He.ma K (He.ga K "Rule") "made") fd := T.fn 55 (d := d_Rule_made) rfl rfl rfl rfl rfl
theorem F_Rule_form (T : Pg K mg) : ∃ fd, Fun K "form" "Rule.form" s_Rule_form (He.ma K (He.ga K "Rule") "form") fd := T.fn 56 (d := d_Rule_form) rfl rfl rfl rfl rfl
theorem F_Each_init (T : Pg K mg) : ∃ fd, Fun K "__init__" "Each.__init__" s_Each_init (He.ma K (He.ga K "Each") "__init__") fd := T.fn 57 (d := d_Each_init) rfl rfl rfl rfl rfl
theorem F_Each_drawn (T : Pg K mg) : ∃ fd, Fun K "drawn" "Each.drawn" s_Each_drawn (He.ma K (He.ga K "Each") "drawn") fd := T.fn 58 (d := d_Each_drawn) rfl rfl rfl rfl rfl
theorem F_Flat_init (T : Pg K mg) : ∃ fd, Fun K "__init__" "Flat.__init__" s_Flat_init (He.ma K (He.ga K "Flat") "__init__") fd := T.fn 59 (d := d_Flat_init) rfl rfl rfl rfl rfl
theorem F_Flat_drawn (T : Pg K mg) : ∃ fd, Fun K "drawn" "Flat.drawn" s_Flat_drawn (He.ma K (He.ga K "Flat") "drawn") fd := T.fn 60 (d := d_Flat_drawn) rfl rfl rfl rfl rfl
theorem F_Bands_init (T : Pg K mg) : ∃ fd, Fun K "__init__" "Bands.__init__" s_Bands_init (He.ma K (He.ga K "Bands") "__init__") fd := T.fn 61 (d := d_Bands_init) rfl rfl rfl rfl rfl
theorem F_Bands_drawn (T : Pg K mg) : ∃ fd, Fun K "drawn" "Bands.drawn" s_Bands_drawn (He.ma K (He.ga K "Bands") "drawn") fd := T.fn 62 (d := d_Bands_drawn) rfl rfl rfl rfl rfl
theorem F_Steps_init (T : Pg K mg) : ∃ fd, Fun K "__init__" "Steps.__init__" s_Steps_init (He.ma K (He.ga K "Steps") "__init__") fd := T.fn 63 (d := d_Steps_init) rfl rfl rfl rfl rfl
theorem F_Steps_drawn (T : Pg K mg) : ∃ fd, Fun K "drawn" "Steps.drawn" s_Steps_drawn (He.ma K (He.ga K "Steps") "drawn") fd := T.fn 64 (d := d_Steps_drawn) rfl rfl rfl rfl rfl
theorem F_Blocks_init (T : Pg K mg) : ∃ fd, Fun K "__init__" "Blocks.__init__" s_Blocks_init (He.ma K (He.ga K "Blocks") "__init__") fd := T.fn 65 (d := d_Blocks_init) rfl rfl rfl rfl rfl
theorem F_Blocks_drawn (T : Pg K mg) : ∃ fd, Fun K "drawn" "Blocks.drawn" s_Blocks_drawn (He.ma K (He.ga K "Blocks") "drawn") fd := T.fn 66 (d := d_Blocks_drawn) rfl rfl rfl rfl rfl
theorem F_Named_init (T : Pg K mg) : ∃ fd, Fun K "__init__" "Named.__init__" s_Named_init (He.ma K (He.ga K "Named") "__init__") fd := T.fn 67 (d := d_Named_init) rfl rfl rfl rfl rfl
theorem F_Named_own_names (T : Pg K mg) : ∃ fd, Fun K "own_names" "Named.own_names" s_Named_own_names (He.ma K (He.ga K "Named") "own_names") fd := T.fn 68 (d := d_Named_own_names) rfl rfl rfl rfl rfl
theorem F_Named_drawn (T : Pg K mg) : ∃ fd, Fun K "drawn" "Named.drawn" s_Named_drawn (He.ma K (He.ga K "Named") "drawn") fd := T.fn 69 (d := d_Named_drawn) rfl rfl rfl rfl rfl
theorem F_Pair_init (T : Pg K mg) : ∃ fd, Fun K "__init__" "Pair.__init__" s_Pair_init (He.ma K (He.ga K "Pair") "__init__") fd := T.fn 70 (d := d_Pair_init) rfl rfl rfl rfl rfl
theorem F_Pair_inner (T : Pg K mg) : ∃ fd, Fun K "inner" "Pair.inner" s_Pair_inner (He.ma K (He.ga K "Pair") "inner") fd := T.fn 71 (d := d_Pair_inner) rfl rfl rfl rfl rfl
theorem F_Sum_drawn (T : Pg K mg) : ∃ fd, Fun K "drawn" "Sum.drawn" s_Sum_drawn (He.ma K (He.ga K "Sum") "drawn") fd := T.fn 72 (d := d_Sum_drawn) rfl rfl rfl rfl rfl
theorem F_Cheaper_drawn (T : Pg K mg) : ∃ fd, Fun K "drawn" "Cheaper.drawn" s_Cheaper_drawn (He.ma K (He.ga K "Cheaper") "drawn") fd := T.fn 73 (d := d_Cheaper_drawn) rfl rfl rfl rfl rfl
theorem F_Dearer_drawn (T : Pg K mg) : ∃ fd, Fun K "drawn" "Dearer.drawn" s_Dearer_drawn (He.ma K (He.ga K "Dearer") "drawn") fd := T.fn 74 (d := d_Dearer_drawn) rfl rfl rfl rfl rfl
theorem F_Turned_inner (T : Pg K mg) : ∃ fd, Fun K "inner" "Turned.inner" s_Turned_inner (He.ma K (He.ga K "Turned") "inner") fd := T.fn 75 (d := d_Turned_inner) rfl rfl rfl rfl rfl
theorem F_Only_init (T : Pg K mg) : ∃ fd, Fun K "__init__" "Only.__init__" s_Only_init (He.ma K (He.ga K "Only") "__init__") fd := T.fn 76 (d := d_Only_init) rfl rfl rfl rfl rfl
theorem F_Only_drawn (T : Pg K mg) : ∃ fd, Fun K "drawn" "Only.drawn" s_Only_drawn (He.ma K (He.ga K "Only") "drawn") fd := T.fn 77 (d := d_Only_drawn) rfl rfl rfl rfl rfl
theorem F_After_init (T : Pg K mg) : ∃ fd, Fun K "__init__" "After.__init__" s_After_init (He.ma K (He.ga K "After") "__init__") fd := T.fn 78 (d := d_After_init) rfl rfl rfl rfl rfl
theorem F_After_drawn (T : Pg K mg) : ∃ fd, Fun K "drawn" "After.drawn" s_After_drawn (He.ma K (He.ga K "After") "drawn") fd := T.fn 79 (d := d_After_drawn) rfl rfl rfl rfl rfl
theorem F_Fee_init (T : Pg K mg) : ∃ fd, Fun K "__init__" "Fee.__init__" s_Fee_init (He.ma K (He.ga K "Fee") "__init__") fd := T.fn 80 (d := d_Fee_init) rfl rfl rfl rfl rfl
theorem F_Fee_drawn (T : Pg K mg) : ∃ fd, Fun K "drawn" "Fee.drawn" s_Fee_drawn (He.ma K (He.ga K "Fee") "drawn") fd := T.fn 81 (d := d_Fee_drawn) rfl rfl rfl rfl rfl
theorem F_Book_init (T : Pg K mg) : ∃ fd, Fun K "__init__" "Book.__init__" s_Book_init (He.ma K (He.ga K "Book") "__init__") fd := T.fn 82 (d := d_Book_init) rfl rfl rfl rfl rfl
theorem h_Each_inner (T : Pg K mg) : He.ma K (He.ga K "Each") "inner" = He.ma K (He.ga K "Rule") "inner" := inh_at (inh_of T.ex) (i := 0) rfl
theorem h_Each_own_names (T : Pg K mg) : He.ma K (He.ga K "Each") "own_names" = He.ma K (He.ga K "Rule") "own_names" := inh_at (inh_of T.ex) (i := 1) rfl
theorem h_Each_names (T : Pg K mg) : He.ma K (He.ga K "Each") "names" = He.ma K (He.ga K "Rule") "names" := inh_at (inh_of T.ex) (i := 2) rfl
theorem h_Each_look_at (T : Pg K mg) : He.ma K (He.ga K "Each") "look_at" = He.ma K (He.ga K "Rule") "look_at" := inh_at (inh_of T.ex) (i := 3) rfl
theorem h_Each_made (T : Pg K mg) : He.ma K (He.ga K "Each") "made" = He.ma K (He.ga K "Rule") "made" := inh_at (inh_of T.ex) (i := 4) rfl
theorem h_Each_form (T : Pg K mg) : He.ma K (He.ga K "Each") "form" = He.ma K (He.ga K "Rule") "form" := inh_at (inh_of T.ex) (i := 5) rfl
theorem h_Flat_inner (T : Pg K mg) : He.ma K (He.ga K "Flat") "inner" = He.ma K (He.ga K "Rule") "inner" := inh_at (inh_of T.ex) (i := 6) rfl
theorem h_Flat_own_names (T : Pg K mg) : He.ma K (He.ga K "Flat") "own_names" = He.ma K (He.ga K "Rule") "own_names" := inh_at (inh_of T.ex) (i := 7) rfl
theorem h_Flat_names (T : Pg K mg) : He.ma K (He.ga K "Flat") "names" = He.ma K (He.ga K "Rule") "names" := inh_at (inh_of T.ex) (i := 8) rfl
theorem h_Flat_look_at (T : Pg K mg) : He.ma K (He.ga K "Flat") "look_at" = He.ma K (He.ga K "Rule") "look_at" := inh_at (inh_of T.ex) (i := 9) rfl
theorem h_Flat_made (T : Pg K mg) : He.ma K (He.ga K "Flat") "made" = He.ma K (He.ga K "Rule") "made" := inh_at (inh_of T.ex) (i := 10) rfl
theorem h_Flat_form (T : Pg K mg) : He.ma K (He.ga K "Flat") "form" = He.ma K (He.ga K "Rule") "form" := inh_at (inh_of T.ex) (i := 11) rfl
theorem h_Bands_inner (T : Pg K mg) : He.ma K (He.ga K "Bands") "inner" = He.ma K (He.ga K "Rule") "inner" := inh_at (inh_of T.ex) (i := 12) rfl
theorem h_Bands_own_names (T : Pg K mg) : He.ma K (He.ga K "Bands") "own_names" = He.ma K (He.ga K "Rule") "own_names" := inh_at (inh_of T.ex) (i := 13) rfl
theorem h_Bands_names (T : Pg K mg) : He.ma K (He.ga K "Bands") "names" = He.ma K (He.ga K "Rule") "names" := inh_at (inh_of T.ex) (i := 14) rfl
theorem h_Bands_look_at (T : Pg K mg) : He.ma K (He.ga K "Bands") "look_at" = He.ma K (He.ga K "Rule") "look_at" := inh_at (inh_of T.ex) (i := 15) rfl
theorem h_Bands_made (T : Pg K mg) : He.ma K (He.ga K "Bands") "made" = He.ma K (He.ga K "Rule") "made" := inh_at (inh_of T.ex) (i := 16) rfl
theorem h_Bands_form (T : Pg K mg) : He.ma K (He.ga K "Bands") "form" = He.ma K (He.ga K "Rule") "form" := inh_at (inh_of T.ex) (i := 17) rfl
theorem h_Steps_inner (T : Pg K mg) : He.ma K (He.ga K "Steps") "inner" = He.ma K (He.ga K "Rule") "inner" := inh_at (inh_of T.ex) (i := 18) rfl
theorem h_Steps_own_names (T : Pg K mg) : He.ma K (He.ga K "Steps") "own_names" = He.ma K (He.ga K "Rule") "own_names" := inh_at (inh_of T.ex) (i := 19) rfl
theorem h_Steps_names (T : Pg K mg) : He.ma K (He.ga K "Steps") "names" = He.ma K (He.ga K "Rule") "names" := inh_at (inh_of T.ex) (i := 20) rfl
theorem h_Steps_look_at (T : Pg K mg) : He.ma K (He.ga K "Steps") "look_at" = He.ma K (He.ga K "Rule") "look_at" := inh_at (inh_of T.ex) (i := 21) rfl
theorem h_Steps_made (T : Pg K mg) : He.ma K (He.ga K "Steps") "made" = He.ma K (He.ga K "Rule") "made" := inh_at (inh_of T.ex) (i := 22) rfl
theorem h_Steps_form (T : Pg K mg) : He.ma K (He.ga K "Steps") "form" = He.ma K (He.ga K "Rule") "form" := inh_at (inh_of T.ex) (i := 23) rfl
theorem h_Blocks_inner (T : Pg K mg) : He.ma K (He.ga K "Blocks") "inner" = He.ma K (He.ga K "Rule") "inner" := inh_at (inh_of T.ex) (i := 24) rfl
theorem h_Blocks_own_names (T : Pg K mg) : He.ma K (He.ga K "Blocks") "own_names" = He.ma K (He.ga K "Rule") "own_names" := inh_at (inh_of T.ex) (i := 25) rfl
theorem h_Blocks_names (T : Pg K mg) : He.ma K (He.ga K "Blocks") "names" = He.ma K (He.ga K "Rule") "names" := inh_at (inh_of T.ex) (i := 26) rfl
theorem h_Blocks_look_at (T : Pg K mg) : He.ma K (He.ga K "Blocks") "look_at" = He.ma K (He.ga K "Rule") "look_at" := inh_at (inh_of T.ex) (i := 27) rfl
theorem h_Blocks_made (T : Pg K mg) : He.ma K (He.ga K "Blocks") "made" = He.ma K (He.ga K "Rule") "made" := inh_at (inh_of T.ex) (i := 28) rfl
theorem h_Blocks_form (T : Pg K mg) : He.ma K (He.ga K "Blocks") "form" = He.ma K (He.ga K "Rule") "form" := inh_at (inh_of T.ex) (i := 29) rfl
theorem h_Named_inner (T : Pg K mg) : He.ma K (He.ga K "Named") "inner" = He.ma K (He.ga K "Rule") "inner" := inh_at (inh_of T.ex) (i := 30) rfl
theorem h_Named_names (T : Pg K mg) : He.ma K (He.ga K "Named") "names" = He.ma K (He.ga K "Rule") "names" := inh_at (inh_of T.ex) (i := 31) rfl
theorem h_Named_look_at (T : Pg K mg) : He.ma K (He.ga K "Named") "look_at" = He.ma K (He.ga K "Rule") "look_at" := inh_at (inh_of T.ex) (i := 32) rfl
theorem h_Named_made (T : Pg K mg) : He.ma K (He.ga K "Named") "made" = He.ma K (He.ga K "Rule") "made" := inh_at (inh_of T.ex) (i := 33) rfl
theorem h_Named_form (T : Pg K mg) : He.ma K (He.ga K "Named") "form" = He.ma K (He.ga K "Rule") "form" := inh_at (inh_of T.ex) (i := 34) rfl
theorem h_Sum_inner (T : Pg K mg) : He.ma K (He.ga K "Sum") "inner" = He.ma K (He.ga K "Pair") "inner" := inh_at (inh_of T.ex) (i := 35) rfl
theorem h_Sum_own_names (T : Pg K mg) : He.ma K (He.ga K "Sum") "own_names" = He.ma K (He.ga K "Rule") "own_names" := inh_at (inh_of T.ex) (i := 36) rfl
theorem h_Sum_names (T : Pg K mg) : He.ma K (He.ga K "Sum") "names" = He.ma K (He.ga K "Rule") "names" := inh_at (inh_of T.ex) (i := 37) rfl
theorem h_Sum_look_at (T : Pg K mg) : He.ma K (He.ga K "Sum") "look_at" = He.ma K (He.ga K "Rule") "look_at" := inh_at (inh_of T.ex) (i := 38) rfl
theorem h_Sum_made (T : Pg K mg) : He.ma K (He.ga K "Sum") "made" = He.ma K (He.ga K "Rule") "made" := inh_at (inh_of T.ex) (i := 39) rfl
theorem h_Sum_form (T : Pg K mg) : He.ma K (He.ga K "Sum") "form" = He.ma K (He.ga K "Rule") "form" := inh_at (inh_of T.ex) (i := 40) rfl
theorem h_Sum_init (T : Pg K mg) : He.ma K (He.ga K "Sum") "__init__" = He.ma K (He.ga K "Pair") "__init__" := inh_at (inh_of T.ex) (i := 41) rfl
theorem h_Cheaper_inner (T : Pg K mg) : He.ma K (He.ga K "Cheaper") "inner" = He.ma K (He.ga K "Pair") "inner" := inh_at (inh_of T.ex) (i := 42) rfl
theorem h_Cheaper_own_names (T : Pg K mg) : He.ma K (He.ga K "Cheaper") "own_names" = He.ma K (He.ga K "Rule") "own_names" := inh_at (inh_of T.ex) (i := 43) rfl
theorem h_Cheaper_names (T : Pg K mg) : He.ma K (He.ga K "Cheaper") "names" = He.ma K (He.ga K "Rule") "names" := inh_at (inh_of T.ex) (i := 44) rfl
theorem h_Cheaper_look_at (T : Pg K mg) : He.ma K (He.ga K "Cheaper") "look_at" = He.ma K (He.ga K "Rule") "look_at" := inh_at (inh_of T.ex) (i := 45) rfl
theorem h_Cheaper_made (T : Pg K mg) : He.ma K (He.ga K "Cheaper") "made" = He.ma K (He.ga K "Rule") "made" := inh_at (inh_of T.ex) (i := 46) rfl
theorem h_Cheaper_form (T : Pg K mg) : He.ma K (He.ga K "Cheaper") "form" = He.ma K (He.ga K "Rule") "form" := inh_at (inh_of T.ex) (i := 47) rfl
theorem h_Cheaper_init (T : Pg K mg) : He.ma K (He.ga K "Cheaper") "__init__" = He.ma K (He.ga K "Pair") "__init__" := inh_at (inh_of T.ex) (i := 48) rfl
theorem h_Dearer_inner (T : Pg K mg) : He.ma K (He.ga K "Dearer") "inner" = He.ma K (He.ga K "Pair") "inner" := inh_at (inh_of T.ex) (i := 49) rfl
theorem h_Dearer_own_names (T : Pg K mg) : He.ma K (He.ga K "Dearer") "own_names" = He.ma K (He.ga K "Rule") "own_names" := inh_at (inh_of T.ex) (i := 50) rfl
theorem h_Dearer_names (T : Pg K mg) : He.ma K (He.ga K "Dearer") "names" = He.ma K (He.ga K "Rule") "names" := inh_at (inh_of T.ex) (i := 51) rfl
theorem h_Dearer_look_at (T : Pg K mg) : He.ma K (He.ga K "Dearer") "look_at" = He.ma K (He.ga K "Rule") "look_at" := inh_at (inh_of T.ex) (i := 52) rfl
theorem h_Dearer_made (T : Pg K mg) : He.ma K (He.ga K "Dearer") "made" = He.ma K (He.ga K "Rule") "made" := inh_at (inh_of T.ex) (i := 53) rfl
theorem h_Dearer_form (T : Pg K mg) : He.ma K (He.ga K "Dearer") "form" = He.ma K (He.ga K "Rule") "form" := inh_at (inh_of T.ex) (i := 54) rfl
theorem h_Dearer_init (T : Pg K mg) : He.ma K (He.ga K "Dearer") "__init__" = He.ma K (He.ga K "Pair") "__init__" := inh_at (inh_of T.ex) (i := 55) rfl
theorem h_Only_inner (T : Pg K mg) : He.ma K (He.ga K "Only") "inner" = He.ma K (He.ga K "Turned") "inner" := inh_at (inh_of T.ex) (i := 56) rfl
theorem h_Only_own_names (T : Pg K mg) : He.ma K (He.ga K "Only") "own_names" = He.ma K (He.ga K "Rule") "own_names" := inh_at (inh_of T.ex) (i := 57) rfl
theorem h_Only_names (T : Pg K mg) : He.ma K (He.ga K "Only") "names" = He.ma K (He.ga K "Rule") "names" := inh_at (inh_of T.ex) (i := 58) rfl
theorem h_Only_look_at (T : Pg K mg) : He.ma K (He.ga K "Only") "look_at" = He.ma K (He.ga K "Rule") "look_at" := inh_at (inh_of T.ex) (i := 59) rfl
theorem h_Only_made (T : Pg K mg) : He.ma K (He.ga K "Only") "made" = He.ma K (He.ga K "Rule") "made" := inh_at (inh_of T.ex) (i := 60) rfl
theorem h_Only_form (T : Pg K mg) : He.ma K (He.ga K "Only") "form" = He.ma K (He.ga K "Rule") "form" := inh_at (inh_of T.ex) (i := 61) rfl
theorem h_After_inner (T : Pg K mg) : He.ma K (He.ga K "After") "inner" = He.ma K (He.ga K "Turned") "inner" := inh_at (inh_of T.ex) (i := 62) rfl
theorem h_After_own_names (T : Pg K mg) : He.ma K (He.ga K "After") "own_names" = He.ma K (He.ga K "Rule") "own_names" := inh_at (inh_of T.ex) (i := 63) rfl
theorem h_After_names (T : Pg K mg) : He.ma K (He.ga K "After") "names" = He.ma K (He.ga K "Rule") "names" := inh_at (inh_of T.ex) (i := 64) rfl
theorem h_After_look_at (T : Pg K mg) : He.ma K (He.ga K "After") "look_at" = He.ma K (He.ga K "Rule") "look_at" := inh_at (inh_of T.ex) (i := 65) rfl
theorem h_After_made (T : Pg K mg) : He.ma K (He.ga K "After") "made" = He.ma K (He.ga K "Rule") "made" := inh_at (inh_of T.ex) (i := 66) rfl
theorem h_After_form (T : Pg K mg) : He.ma K (He.ga K "After") "form" = He.ma K (He.ga K "Rule") "form" := inh_at (inh_of T.ex) (i := 67) rfl
theorem h_Fee_inner (T : Pg K mg) : He.ma K (He.ga K "Fee") "inner" = He.ma K (He.ga K "Turned") "inner" := inh_at (inh_of T.ex) (i := 68) rfl
theorem h_Fee_own_names (T : Pg K mg) : He.ma K (He.ga K "Fee") "own_names" = He.ma K (He.ga K "Rule") "own_names" := inh_at (inh_of T.ex) (i := 69) rfl
theorem h_Fee_names (T : Pg K mg) : He.ma K (He.ga K "Fee") "names" = He.ma K (He.ga K "Rule") "names" := inh_at (inh_of T.ex) (i := 70) rfl
theorem h_Fee_look_at (T : Pg K mg) : He.ma K (He.ga K "Fee") "look_at" = He.ma K (He.ga K "Rule") "look_at" := inh_at (inh_of T.ex) (i := 71) rfl
theorem h_Fee_made (T : Pg K mg) : He.ma K (He.ga K "Fee") "made" = He.ma K (He.ga K "Rule") "made" := inh_at (inh_of T.ex) (i := 72) rfl
theorem h_Fee_form (T : Pg K mg) : He.ma K (He.ga K "Fee") "form" = He.ma K (He.ga K "Rule") "form" := inh_at (inh_of T.ex) (i := 73) rfl
end
end OH
set_option Elab.async false
set_option linter.all false
set_option maxRecDepth 100000
set_option maxHeartbeats 4000000
namespace OH
open PySem PySem.Spec PyProof.Rows L2
/-- a known object: through what has changed since -/
local macro_rules | `(tactic| walk_at "oh hp") => `(tactic| first | assumption | exact upd_same | (refine get_new (by assumption) ?_; walk_at "oh hp") | (refine get_mut (by assumption) ?_ (by intro z; cases z); walk_at "oh hp") | (refine same_get (by assumption) ?_; walk_at "oh hp") | (refine ts_get (by assumption) ?_; walk_at "oh hp") | (refine same_get (LL.sm (by assumption)) ?_; walk_at "oh hp") | exact LL.at_ (by assumption))
local macro_rules | `(tactic| walk_at "oh sc") => `(tactic| exact ⟨rfl, rfl, rfl, by decide +kernel, rfl, by decide +kernel, by decide +kernel⟩)
/-- one step of a reading -/
local macro_rules | `(tactic| walk_at "oh 1") => `(tactic| with_reducible first
  | refine i_var rfl ?_ | refine i_c ?_ | refine i_op ?_ | refine i_I0 ?_ | refine i_cons ?_ | refine i_nil ?_ | refine i_asg ?_ | refine i_name ?_ | refine i_seq ?_ | refine i_ifS ?_ | refine i_test ?_ | refine i_bl ?_ | refine i_call ?_ | refine i_CB ?_
  | refine i_tup ?_ | refine i_lst ?_ | refine i_eqI ?_ | refine i_eqS ?_ | refine i_neI ?_ | refine i_un ?_ | refine i_U ?_ | refine i_ret ?_ | refine i_retN ?_ | refine i_next ?_ | refine i_cont ?_ | refine i_drop ?_ | refine i_B ?_ | refine i_and ?_ | refine i_or ?_ | refine i_not ?_ | refine i_mn ?_ | refine i_mx ?_ | refine i_isN ?_ | refine i_notN ?_ | refine i_bm ?_ | refine i_bm0 ?_ | refine i_rn ?_ | refine i_nn ?_ | refine i_rn' ?_ | refine i_nn' ?_ | refine i_gcons ?_ | refine i_gnil ?_ | refine i_orV ?_ | refine i_andV ?_ | refine i_notV ?_ | refine i_chain ?_ | refine i_forL ?_ | refine i_iL ?_ | refine i_iT ?_ | refine i_lc ?_ | refine i_yes ?_ | refine i_aug rfl ?_ | refine i_ip ?_ | refine iteT ?_ | refine iteF ?_ | refine i_nT ?_ | refine i_nF ?_)
local macro_rules | `(tactic| walk_at "oh 2") => `(tactic| first | ((with_reducible refine' i_ixT ?h ?e ?q); (case h => walk_at "oh hp"); (case e => rfl)) | ((with_reducible refine' i_gtup ?h ?e ?q); (case h => walk_at "oh hp"); (case e => rfl)) | ((with_reducible refine' i_atL ?h ?q); (case h => walk_at "oh hp")) | ((with_reducible refine' i_atT ?h ?q); (case h => walk_at "oh hp")) | ((with_reducible refine' i_tyL ?h ?q); (case h => walk_at "oh hp")) | ((with_reducible refine' i_lnL ?h ?q); (case h => walk_at "oh hp")) | ((with_reducible refine' i_lnT ?h ?q); (case h => walk_at "oh hp")))
local macro_rules | `(tactic| walk_at "oh go") => `(tactic| repeat first | walk_at "oh 1" | walk_at "oh 2")
abbrev Bg (i : Int) : Prop := Sz 9000 i
theorem bg_mul {i j : Int} (h : Bg i) (k : Bg j) : CMulW i j := wide_mul h k (by decide) (by decide) (by decide)
theorem bg_div {i j : Int} (h : 0 < j) (k : Bg j) : CDivW i j := wide_div h k (by decide) (by decide)
section
variable {P : Program} {w : World} {K : PySem.W.Frag} {mg : Str → Option Value} {base : Heap}
/-! ### down, up -/
def spDown : Sp := fun vs H Q _ => ∃ a b : Int, vs = [.int a, .int b] ∧ 0 < b ∧ Bg b ∧ Q (.int (a / b)) H
theorem sc_down : FnScope ["a", "b"] ["a", "b"] (defScope s_down) := by walk_at "oh sc"
theorem ok_down (T : Pg K mg) : Ok P w K mg base CX0 1 "down" ["a", "b"] spDown := by
  obtain ⟨fd, F⟩ := F_down T
  refine ⟨fd, F.ok sc_down (fun vs H Q E h => ?_) (fun cdv A outer s H vs Q E hr h => ?_), F.binds fun _ _ _ _ _ _ us hl => (match us, hl with | [_, _], _ => rfl), F.kp, g_down T⟩
  · obtain ⟨a, b, rfl, _⟩ := h
    rfl
  · obtain ⟨a, b, rfl, h0, hb, q⟩ := h
    refine ⟨_, pss_one (ps_ret (pe_op op_fdivW (pv 0) (pv 1))), ?_⟩
    exact ⟨_, rfl, _, rfl, _, _, rfl, rfl, bg_div h0 hb, q⟩
def spUp : Sp := fun vs H Q _ => ∃ a b : Int, vs = [.int a, .int b] ∧ 0 < b ∧ Bg b ∧ Q (.int (up a b)) H
theorem sc_up : FnScope ["a", "b"] ["a", "b"] (defScope s_up) := by walk_at "oh sc"
theorem ok_up (T : Pg K mg) : Ok P w K mg base CX0 1 "up" ["a", "b"] spUp := by
  obtain ⟨fd, F⟩ := F_up T
  refine ⟨fd, F.ok sc_up (fun vs H Q E h => ?_) (fun cdv A outer s H vs Q E hr h => ?_), F.binds fun _ _ _ _ _ _ us hl => (match us, hl with | [_, _], _ => rfl), F.kp, g_up T⟩
  · obtain ⟨a, b, rfl, _⟩ := h
    rfl
  · obtain ⟨a, b, rfl, h0, hb, q⟩ := h
    refine ⟨_, pss_one (ps_ret (pe_un un_neg (pe_op op_fdivW (pe_un un_neg (pv 0)) (pv 1)))), ?_⟩
    exact ⟨_, rfl, _, rfl, _, rfl, _, _, rfl, rfl, bg_div h0 hb, _, rfl, q⟩
/-! ### line_at -/
def spLineAt : Sp := fun vs H Q _ => ∃ (v : V) (l : Line) (lo x : Int), vs = [v, .int lo, .int x] ∧ LnV H v l ∧ Bg l.2 ∧ Bg (x - lo) ∧ Q (.int (lineAt l lo x)) H
theorem sc_line_at : FnScope ["line", "low", "x"] ["line", "low", "x"] (defScope s_line_at) := by walk_at "oh sc"
theorem ok_line_at (T : Pg K mg) : Ok P w K mg base CX0 1 "line_at" ["line", "low", "x"] spLineAt := by
  obtain ⟨fd, F⟩ := F_line_at T
  refine ⟨fd, F.ok sc_line_at (fun vs H Q E h => ?_) (fun cdv A outer s H vs Q E hr h => ?_), F.binds fun _ _ _ _ _ _ us hl => (match us, hl with | [_, _, _], _ => rfl), F.kp, g_line_at T⟩
  · obtain ⟨v, l, lo, x, rfl, _⟩ := h
    rfl
  · obtain ⟨v, l, lo, x, rfl, ⟨a, rfl, ha⟩, b1, b2, q⟩ := h
    refine ⟨_, pss_one (ps_ret (pe_op op_add (pe_ix ix_tup (pv 0) pe_int (fun _ _ => rfl)) (pe_op op_mulW (pe_ix ix_tup (pv 0) pe_int (fun _ _ => rfl)) (pe_op op_sub (pv 2) (pv 1))))), ?_⟩
    exact ⟨_, rfl, a, _, _, _, rfl, rfl, SqT.of ha, rfl, _, rfl, a, _, _, _, rfl, rfl, SqT.of ha, rfl, _, rfl, _, rfl, _, _, rfl, rfl, _, _, rfl, rfl, bg_mul b1 b2, _, _, rfl, rfl, q⟩
/-! ### no_dearer -/
def sp_no_dearer : Sp := fun vs H Q _ => ∃ (v u : V) (one other : Line) (lo hi : Int), vs = [v, u, .int lo, .int hi] ∧ LnV H v one ∧ LnV H u other ∧ Sz 8000 one.2 ∧ Sz 8000 other.2 ∧ Ret H Q (OptV LnV) (noDearer one other lo hi)
theorem sc_no_dearer : FnScope ["one", "other", "low", "high", "price", "step", "first", "last"] ["one", "other", "low", "high"] (defScope s_no_dearer) := by walk_at "oh sc"
theorem ok_no_dearer (T : Pg K mg) : Ok P w K mg base CX0 2 "no_dearer" ["one", "other", "low", "high"] sp_no_dearer := by
  obtain ⟨fd, F⟩ := F_no_dearer T
  refine ⟨fd, F.ok sc_no_dearer (fun vs H Q E h => ?_) (fun cdv A outer s H vs Q E hr h => ?_), F.binds fun _ _ _ _ _ _ us hl => (match us, hl with | [_, _, _, _], _ => rfl), F.kp, g_no_dearer T⟩
  · obtain ⟨v, u, one, other, lo, hi, rfl, _⟩ := h
    rfl
  · obtain ⟨v, u, one, other, lo, hi, rfl, ⟨a, rfl, ha⟩, ⟨b, rfl, hb⟩, z1, z2, q⟩ := h
    refine ⟨_, pss_cons (ps_set (i := 4) sc_no_dearer.nd rfl (Or.inl rfl) (pe_op op_sub (pe_ix ix_tup (pv 0) pe_int (fun _ _ => rfl)) (pe_ix ix_tup (pv 1) pe_int (fun _ _ => rfl))))
      (pss_cons (ps_set (i := 5) sc_no_dearer.nd rfl (Or.inl rfl) (pe_op op_sub (pe_ix ix_tup (pv 0) pe_int (fun _ _ => rfl)) (pe_ix ix_tup (pv 1) pe_int (fun _ _ => rfl))))
      (pss_cons (ps_set (i := 6) sc_no_dearer.nd rfl (Or.inl rfl) pe_int)
      (pss_cons (ps_set (i := 7) sc_no_dearer.nd rfl (Or.inl rfl) (pe_op op_sub (pv 3) (pv 2)))
      (pss_cons (ps_if (pt_cmpR op_gt (pv 5) pe_int (nomark _))
      (pss_one (ps_set (i := 7) sc_no_dearer.nd rfl (Or.inl rfl) (pe_callB (cr_mn rfl) (by rfl) (z_min T) (by decide +kernel) (pa_cons (pv 7) (pa_cons (pe_c0 (ok_down T) hr (pa_cons (pe_un un_neg (pv 4)) (pa_cons (pv 5) pa_nil))) pa_nil)))))
      (pss_one (ps_if (pt_cmpR op_lt (pv 5) pe_int (nomark _))
        (pss_one (ps_set (i := 6) sc_no_dearer.nd rfl (Or.inl rfl) (pe_callB (cr_mx rfl) (by rfl) (z_max T) (by decide +kernel) (pa_cons (pv 6) (pa_cons (pe_c0 (ok_up T) hr (pa_cons (pv 4) (pa_cons (pe_un un_neg (pv 5)) pa_nil))) pa_nil)))))
        (pss_one (ps_if (pt_cmpR op_gt (pv 4) pe_int (nomark _))
          (pss_one (ps_ret pe_non))
          pss_nil)))))
      (pss_cons (ps_if (pt_cmpR op_gt (pv 6) (pv 7) (nomark _))
      (pss_one (ps_ret pe_non))
      pss_nil)
      (pss_one (ps_ret (pe_tup (pa_cons (pe_op op_add (pv 2) (pv 6)) (pa_cons (pe_op op_add (pv 2) (pv 7)) pa_nil)))))))))), ?_⟩
    walk_at "oh go"
    refine i_dec (fun c1 => ?_) (fun c1 => ?_)
    · walk_at "oh go"
      refine ⟨_, _, rfl, c1, (z1.sub z2).mono (by decide), ?_⟩
      walk_at "oh go"
      have e : noDearer one other lo hi = if (0 : Int) > mn (hi - lo) (-(one.1 - other.1) / (one.2 - other.2)) then none else some (lo + 0, lo + mn (hi - lo) (-(one.1 - other.1) / (one.2 - other.2))) := by
        unfold noDearer ndFirst ndLast
        rw [if_neg (by omega), if_pos c1, if_pos c1]
      rw [e] at q
      refine i_dec (fun c2 => ?_) (fun c2 => ?_)
      · walk_at "oh go"
        rw [if_pos c2] at q
        exact q _ _ (Same.refl _) rfl
      · walk_at "oh go"
        refine ⟨Nat.le_of_ble_eq_true rfl, fun p np => ?_⟩
        rw [if_neg c2] at q
        exact q _ _ (same_new np _) ⟨p, rfl, upd_same⟩
    · walk_at "oh go"
      refine i_dec (fun c2 => ?_) (fun c2 => ?_)
      · walk_at "oh go"
        refine ⟨_, _, rfl, by omega, (z1.sub z2).neg.mono (by decide), ?_⟩
        walk_at "oh go"
        have e : noDearer one other lo hi = if mx 0 (up (one.1 - other.1) (-(one.2 - other.2))) > hi - lo then none else some (lo + mx 0 (up (one.1 - other.1) (-(one.2 - other.2))), lo + (hi - lo)) := by
          unfold noDearer ndFirst ndLast
          rw [if_neg (by omega), if_neg c1, if_pos c2, if_neg c1]
        rw [e] at q
        refine i_dec (fun c3 => ?_) (fun c3 => ?_)
        · walk_at "oh go"
          rw [if_pos c3] at q
          exact q _ _ (Same.refl _) rfl
        · walk_at "oh go"
          refine ⟨Nat.le_of_ble_eq_true rfl, fun p np => ?_⟩
          rw [if_neg c3] at q
          exact q _ _ (same_new np _) ⟨p, rfl, upd_same⟩
      · walk_at "oh go"
        refine i_dec (fun c3 => ?_) (fun c3 => ?_)
        · walk_at "oh go"
          have e : noDearer one other lo hi = none := by
            unfold noDearer
            rw [if_pos ⟨c1, c2, c3⟩]
          rw [e] at q
          exact q _ _ (Same.refl _) rfl
        · have e : noDearer one other lo hi = if (0 : Int) > hi - lo then none else some (lo + 0, lo + (hi - lo)) := by
            unfold noDearer ndFirst ndLast
            rw [if_neg (fun z => c3 z.2.2), if_neg c1, if_neg c2, if_neg c1]
          rw [e] at q
          walk_at "oh go"
          refine i_dec (fun c4 => ?_) (fun c4 => ?_)
          · walk_at "oh go"
            rw [if_pos c4] at q
            exact q _ _ (Same.refl _) rfl
          · walk_at "oh go"
            refine ⟨Nat.le_of_ble_eq_true rfl, fun p np => ?_⟩
            rw [if_neg c4] at q
            exact q _ _ (same_new np _) ⟨p, rfl, upd_same⟩
/-! ### lower_line -/
def sp_lower_line : Sp := fun vs H Q _ => ∃ (v u : V) (one other : Line) (lo hi : Int), vs = [v, u, .int lo, .int hi] ∧ LnV H v one ∧ LnV H u other ∧ Sz 8000 one.2 ∧ Sz 8000 other.2 ∧ Sz 8000 lo ∧ Sz 8000 hi ∧ lo ≤ hi ∧ RetL H Q S4V (lowerLine one other lo hi)
/- slots: 0 one, 1 other, 2 low, 3 high, 4 found, 5 first, 6 last, 7 told -/
theorem sc_lower_line : FnScope ["one", "other", "low", "high", "found", "first", "last", "told"] ["one", "other", "low", "high"] (defScope s_lower_line) := by walk_at "oh sc"
theorem ok_lower_line (T : Pg K mg) : Ok P w K mg base CX0 4 "lower_line" ["one", "other", "low", "high"] sp_lower_line := by
  obtain ⟨fd, F⟩ := F_lower_line T
  refine ⟨fd, F.ok sc_lower_line (fun vs H Q E h => ?_) (fun cdv A outer s H vs Q E hr h => ?_), F.binds fun _ _ _ _ _ _ us hl => (match us, hl with | [_, _, _, _], _ => rfl), F.kp, g_lower_line T⟩
  · obtain ⟨v, u, one, other, lo, hi, rfl, _⟩ := h
    rfl
  · obtain ⟨v, u, one, other, lo, hi, rfl, ⟨a, rfl, ha⟩, ⟨b, rfl, hb⟩, z1, z2, z3, z4, hl, q⟩ := h
    have hu := hu_of hr
    refine ⟨_, pss_cons (ps_set (i := 4) sc_lower_line.nd rfl (Or.inl rfl) (pe_c0 (ok_no_dearer T) hr (pa_cons (pv 0) (pa_cons (pv 1) (pa_cons (pv 2) (pa_cons (pv 3) pa_nil))))))
      (pss_cons (ps_if (pt_cmpR op_isN1 (pv 4) pe_non (nomark _))
      (pss_one (ps_ret (pe_lst (pa_cons (pe_tup (pa_cons (pv 2) (pa_cons (pv 3) (pa_cons (pe_ix ix_tup (pv 1) pe_int (fun _ _ => rfl)) (pa_cons (pe_ix ix_tup (pv 1) pe_int (fun _ _ => rfl)) pa_nil))))) pa_nil))))
      pss_nil)
      (pss_cons (ps_asg (pv 4) (pg_tup rfl (pgs_cons (pg_name (i := 5) sc_lower_line.nd rfl (Or.inl rfl)) (pgs_cons (pg_name (i := 6) sc_lower_line.nd rfl (Or.inl rfl)) pgs_nil))))
      (pss_cons (ps_set (i := 7) sc_lower_line.nd rfl (Or.inl rfl) (pe_lst pa_nil))
      (Evl.pss_cut (ps_if (pt_cmpR op_lt (pv 2) (pv 5) (nomark _))
      (pss_one (ps_expr (pe_bm PySem.F.plainAttrs_list PySem.F.slot_list_append PySem.F.type_list_append mt_append (pv 7) (pa_cons (pe_tup (pa_cons (pv 2) (pa_cons (pe_op op_sub (pv 5) pe_int) (pa_cons (pe_ix ix_tup (pv 1) pe_int (fun _ _ => rfl)) (pa_cons (pe_ix ix_tup (pv 1) pe_int (fun _ _ => rfl)) pa_nil))))) pa_nil))))
      pss_nil)
      (pss_cons (ps_expr (pe_bm PySem.F.plainAttrs_list PySem.F.slot_list_append PySem.F.type_list_append mt_append (pv 7) (pa_cons (pe_tup (pa_cons (pv 5) (pa_cons (pv 6) (pa_cons (pe_c0 (ok_line_at T) hr (pa_cons (pv 0) (pa_cons (pv 2) (pa_cons (pv 5) pa_nil)))) (pa_cons (pe_ix ix_tup (pv 0) pe_int (fun _ _ => rfl)) pa_nil))))) pa_nil)))
      (Evl.pss_cut (ps_if (pt_cmpR op_lt (pv 6) (pv 3) (nomark _))
      (pss_one (ps_expr (pe_bm PySem.F.plainAttrs_list PySem.F.slot_list_append PySem.F.type_list_append mt_append (pv 7) (pa_cons (pe_tup (pa_cons (pe_op op_add (pv 6) pe_int) (pa_cons (pv 3) (pa_cons (pe_c0 (ok_line_at T) hr (pa_cons (pv 1) (pa_cons (pv 2) (pa_cons (pe_op op_add (pv 6) pe_int) pa_nil)))) (pa_cons (pe_ix ix_tup (pv 1) pe_int (fun _ _ => rfl)) pa_nil))))) pa_nil))))
      pss_nil)
      (pss_one (ps_ret (pv 7))))))))), ?_⟩
    walk_at "oh go"
    refine ⟨_, _, one, other, lo, hi, rfl, ⟨a, rfl, ha⟩, ⟨b, rfl, hb⟩, z1, z2, fun f H1 s1 r1 => ?_⟩
    walk_at "oh go"
    unfold lowerLine at q
    cases e : noDearer one other lo hi with
    | none =>
      rw [e] at q r1
      cases r1
      walk_at "oh go"
      refine ⟨Nat.le_of_ble_eq_true rfl, fun p np => ?_⟩
      refine ⟨Nat.le_of_ble_eq_true rfl, fun l nl => ?_⟩
      have sp := s1.trans (same_new np (.tup [.int lo, .int hi, .int other.1, .int other.2]))
      exact q l _ _ (none_back sp nl) (sp.trans (same_new nl _)) upd_same (.cons ⟨p, rfl, by walk_at "oh hp"⟩ .nil)
    | some xy =>
      obtain ⟨x, y⟩ := xy
      have rng := nd_range e
      rw [e] at q r1
      obtain ⟨p, rfl, hp⟩ := r1
      walk_at "oh go"
      refine ⟨Nat.le_of_ble_eq_true rfl, fun l nl => ?_⟩
      walk_at "oh go"
      have sl : Same H (upd H1 l (.lst [])) := s1.trans (same_new nl _)
      have nl0 : H l = none := none_back s1 nl
      refine i_cut (fun σ' H' => σ' = [some (.ref a), some (.ref b), some (.int lo), some (.int hi), some (.ref p), some (.int x), some (.int y), some (.ref l)] ∧ ∃ acc, H' l = some (.lst acc) ∧ Same H H' ∧ Its S4V H' acc (if lo < x then [⟨lo, x - 1, other.1, other.2⟩] else [])) ?_ ?_
      · walk_at "oh go"
        refine i_dec (fun c => ?_) (fun c => ?_)
        · walk_at "oh go"
          refine ⟨Nat.le_of_ble_eq_true rfl, fun k nk => ?_⟩
          walk_at "oh go"
          refine i_app (by walk_at "oh hp") (by decide) ?_
          walk_at "oh go"
          have nk0 : l ≠ k := ne_of_none upd_same nk
          refine ⟨rfl, _, upd_same, same_mut (sl.trans (same_new nk _)) nl0 _, ?_⟩
          rw [if_pos c]
          exact .cons ⟨k, rfl, by rw [upd_ne nk0.symm]; exact upd_same⟩ .nil
        · walk_at "oh go"
          refine ⟨rfl, _, upd_same, sl, ?_⟩
          rw [if_neg c]
          exact .nil
      rintro σ2 H2 ⟨rfl, acc, hacc, s2, ia⟩
      have la : acc.length ≤ 1 := by
        rw [ia.len]
        split <;> simp
      walk_at "oh go"
      refine ⟨_, one, lo, x, rfl, ⟨a, rfl, by walk_at "oh hp"⟩, z1.mono (by decide), ((z3.btw z4 rng.1 (by omega)).sub z3).mono (by decide), ?_⟩
      walk_at "oh go"
      refine ⟨Nat.le_of_ble_eq_true rfl, fun k nk => ?_⟩
      walk_at "oh go"
      refine i_app (by walk_at "oh hp") (by omega) ?_
      walk_at "oh go"
      have nk0 : l ≠ k := ne_of_none hacc nk
      have s3 : Same H (upd (upd H2 k (.tup [.int x, .int y, .int (lineAt one lo x), .int one.2])) l (.lst (acc ++ [.ref k]))) := same_mut (s2.trans (same_new nk _)) nl0 _
      have t3 : TS' H2 (upd (upd H2 k (.tup [.int x, .int y, .int (lineAt one lo x), .int one.2])) l (.lst (acc ++ [.ref k]))) := (ts_new nk _).trans (ts_mut (get_new nk hacc) _)
      have i3 := (ia.mono S4V.mono t3).app (m := [⟨x, y, lineAt one lo x, one.2⟩]) (.cons (⟨k, rfl, by rw [upd_ne nk0.symm]; exact upd_same⟩) .nil)
      generalize hH3 : upd (upd H2 k (.tup [.int x, .int y, .int (lineAt one lo x), .int one.2])) l (.lst (acc ++ [.ref k])) = H3 at s3 i3 ⊢
      have hl3 : H3 l = some (.lst (acc ++ [.ref k])) := by rw [← hH3]; exact upd_same
      clear hH3 t3
      refine i_cut (fun σ' H' => σ' = [some (.ref a), some (.ref b), some (.int lo), some (.int hi), some (.ref p), some (.int x), some (.int y), some (.ref l)] ∧ ∃ acc, H' l = some (.lst acc) ∧ Same H H' ∧ Its S4V H' acc ((if lo < x then [⟨lo, x - 1, other.1, other.2⟩] else []) ++ [⟨x, y, lineAt one lo x, one.2⟩] ++ (if y < hi then [⟨y + 1, hi, lineAt other lo (y + 1), other.2⟩] else []))) ?_ ?_
      · walk_at "oh go"
        refine i_dec (fun c => ?_) (fun c => ?_)
        · walk_at "oh go"
          refine ⟨_, other, lo, y + 1, rfl, ⟨b, rfl, by walk_at "oh hp"⟩, z2.mono (by decide), ((z3.btw z4 (by omega) (by omega)).sub z3).mono (by decide), ?_⟩
          walk_at "oh go"
          refine ⟨Nat.le_of_ble_eq_true rfl, fun m nm => ?_⟩
          walk_at "oh go"
          refine i_app (by walk_at "oh hp") (by rw [List.length_append]; show acc.length + 1 ≤ _; omega) ?_
          walk_at "oh go"
          have nm0 : l ≠ m := ne_of_none hl3 nm
          refine ⟨rfl, _, upd_same, same_mut (s3.trans (same_new nm _)) nl0 _, ?_⟩
          rw [if_pos c]
          exact (i3.mono S4V.mono ((ts_new nm _).trans (ts_mut (get_new nm hl3) _))).app (.cons ⟨m, rfl, by rw [upd_ne nm0.symm]; exact upd_same⟩ .nil)
        · walk_at "oh go"
          refine ⟨rfl, _, hl3, s3, ?_⟩
          rw [if_neg c, List.append_nil]
          exact i3
      rintro σ2 H4 ⟨rfl, acc4, hacc4, s4, i4⟩
      walk_at "oh go"
      exact q l _ _ nl0 s4 hacc4 i4
end
end OH
set_option Elab.async false
set_option linter.all false
set_option maxRecDepth 100000
set_option maxHeartbeats 4000000
namespace OH
open PySem PySem.Spec PyProof.Rows L2
/-- a known object: through what has changed since -/
local macro_rules | `(tactic| walk_at "oh hp") => `(tactic| first | assumption | exact upd_same | (refine get_new (by assumption) ?_; walk_at "oh hp") | (refine get_mut (by assumption) ?_ (by intro z; cases z); walk_at "oh hp") | (refine same_get (by assumption) ?_; walk_at "oh hp") | (refine ts_get (by assumption) ?_; walk_at "oh hp") | (refine same_get (LL.sm (by assumption)) ?_; walk_at "oh hp") | exact LL.at_ (by assumption))
local macro_rules | `(tactic| walk_at "oh sc") => `(tactic| exact ⟨rfl, rfl, rfl, by decide +kernel, rfl, by decide +kernel, by decide +kernel⟩)
/-- one step of a reading -/
local macro_rules | `(tactic| walk_at "oh 1") => `(tactic| with_reducible first
  | refine i_var rfl ?_ | refine i_c ?_ | refine i_op ?_ | refine i_I0 ?_ | refine i_cons ?_ | refine i_nil ?_ | refine i_asg ?_ | refine i_name ?_ | refine i_seq ?_ | refine i_ifS ?_ | refine i_test ?_ | refine i_bl ?_ | refine i_call ?_ | refine i_CB ?_
  | refine i_tup ?_ | refine i_lst ?_ | refine i_eqI ?_ | refine i_eqS ?_ | refine i_neI ?_ | refine i_un ?_ | refine i_U ?_ | refine i_ret ?_ | refine i_retN ?_ | refine i_next ?_ | refine i_cont ?_ | refine i_drop ?_ | refine i_B ?_ | refine i_and ?_ | refine i_or ?_ | refine i_not ?_ | refine i_mn ?_ | refine i_mx ?_ | refine i_isN ?_ | refine i_notN ?_ | refine i_bm ?_ | refine i_bm0 ?_ | refine i_rn ?_ | refine i_nn ?_ | refine i_rn' ?_ | refine i_nn' ?_ | refine i_gcons ?_ | refine i_gnil ?_ | refine i_orV ?_ | refine i_andV ?_ | refine i_notV ?_ | refine i_chain ?_ | refine i_forL ?_ | refine i_iL ?_ | refine i_iT ?_ | refine i_lc ?_ | refine i_yes ?_ | refine i_aug rfl ?_ | refine i_ip ?_ | refine iteT ?_ | refine iteF ?_ | refine i_nT ?_ | refine i_nF ?_)
local macro_rules | `(tactic| walk_at "oh 2") => `(tactic| first | ((with_reducible refine' i_ixT ?h ?e ?q); (case h => walk_at "oh hp"); (case e => rfl)) | ((with_reducible refine' i_gtup ?h ?e ?q); (case h => walk_at "oh hp"); (case e => rfl)) | ((with_reducible refine' i_atL ?h ?q); (case h => walk_at "oh hp")) | ((with_reducible refine' i_atT ?h ?q); (case h => walk_at "oh hp")) | ((with_reducible refine' i_tyL ?h ?q); (case h => walk_at "oh hp")) | ((with_reducible refine' i_lnL ?h ?q); (case h => walk_at "oh hp")) | ((with_reducible refine' i_lnT ?h ?q); (case h => walk_at "oh hp")))
local macro_rules | `(tactic| walk_at "oh go") => `(tactic| repeat first | walk_at "oh 1" | walk_at "oh 2")
section
variable {P : Program} {w : World} {K : PySem.W.Frag} {mg : Str → Option Value} {base : Heap}
def sp_drawn_on : Sp := fun vs H Q _ => ∃ (v : V) (s : S4) (x : Int), vs = [v, .int x] ∧ S4V H v s ∧ Bg s.st ∧ Bg (x - s.lo) ∧ ∀ H', Same H H' → Q (.int (s.at x)) H'
/- slots: 0 stretch, 1 x -/
theorem sc_drawn_on : FnScope ["stretch", "x"] ["stretch", "x"] (defScope s_drawn_on) := by walk_at "oh sc"
theorem ok_drawn_on (T : Pg K mg) : Ok P w K mg base CX0 3 "drawn_on" ["stretch", "x"] sp_drawn_on := by
  obtain ⟨fd, F⟩ := F_drawn_on T
  refine ⟨fd, F.ok sc_drawn_on (fun vs H Q E h => ?_) (fun cdv A outer s H vs Q E hr h => ?_), F.binds fun _ _ _ _ _ _ us hl => (match us, hl with | [_, _], _ => rfl), F.kp, g_drawn_on T⟩
  · obtain ⟨v, s, x, rfl, _⟩ := h
    rfl
  · obtain ⟨v, s, x, rfl, ⟨a, rfl, ha⟩, b1, b2, q⟩ := h
    have hu := hu_of hr
    refine ⟨_, pss_one (ps_ret (pe_c0 (ok_line_at T) hr (pa_cons (pe_tup (pa_cons (pe_ix ix_tup (pv 0) pe_int (fun _ _ => rfl)) (pa_cons (pe_ix ix_tup (pv 0) pe_int (fun _ _ => rfl)) pa_nil))) (pa_cons (pe_ix ix_tup (pv 0) pe_int (fun _ _ => rfl)) (pa_cons (pv 1) pa_nil))))), ?_⟩
    walk_at "oh go"
    refine ⟨Nat.le_of_ble_eq_true rfl, fun k nk => ?_⟩
    walk_at "oh go"
    exact ⟨_, (s.pr, s.st), s.lo, x, rfl, ⟨k, rfl, upd_same⟩, b1, b2, q _ (same_new nk _)⟩
def sp_joins : Sp := fun vs H Q _ => ∃ (v : V) (s : S4) (lo pr : Int), vs = [v, .int lo, .int pr] ∧ S4V H v s ∧ Bg s.st ∧ Bg (lo - s.lo) ∧ ∀ H', Same H H' → Q (.bl (joins s lo pr)) H'
/- slots: 0 stretch, 1 low, 2 price -/
theorem sc_joins : FnScope ["stretch", "low", "price"] ["stretch", "low", "price"] (defScope s_joins) := by walk_at "oh sc"
theorem ok_joins (T : Pg K mg) : Ok P w K mg base CX0 4 "joins" ["stretch", "low", "price"] sp_joins := by
  obtain ⟨fd, F⟩ := F_joins T
  refine ⟨fd, F.ok sc_joins (fun vs H Q E h => ?_) (fun cdv A outer s H vs Q E hr h => ?_), F.binds fun _ _ _ _ _ _ us hl => (match us, hl with | [_, _, _], _ => rfl), F.kp, g_joins T⟩
  · obtain ⟨v, s, lo, pr, rfl, _⟩ := h
    rfl
  · obtain ⟨v, s, lo, pr, rfl, ⟨a, rfl, ha⟩, b1, b2, q⟩ := h
    have hu := hu_of hr
    refine ⟨_, pss_cons (ps_if (pt_cmpR op_ne (pe_ix ix_tup (pv 0) pe_int (fun _ _ => rfl)) (pe_op op_sub (pv 1) pe_int) (nomark _))
      (pss_one (ps_ret pe_bl))
      pss_nil)
      (pss_one (ps_ret (pe_or (pe_cmpR op_eq (pe_ix ix_tup (pv 0) pe_int (fun _ _ => rfl)) (pe_ix ix_tup (pv 0) pe_int (fun _ _ => rfl)) (nomark _)) (pe_one (pe_cmpR op_eq (pe_c0 (ok_drawn_on T) hr (pa_cons (pv 0) (pa_cons (pv 1) pa_nil))) (pv 2) (nomark _)))))), ?_⟩
    walk_at "oh go"
    refine i_ndec (fun c => ?_) (fun c => ?_)
    · walk_at "oh go"
      have e : joins s lo pr = false := by unfold joins; rw [decide_eq_false c] <;> rfl
      rw [e] at q
      exact q _ (Same.refl _)
    · walk_at "oh go"
      refine i_dec (fun c2 => ?_) (fun c2 => ?_)
      · have e : joins s lo pr = true := by unfold joins; rw [decide_eq_true c, decide_eq_true c2] <;> rfl
        rw [e] at q
        exact q _ (Same.refl _)
      · walk_at "oh go"
        refine ⟨_, s, lo, rfl, ⟨a, rfl, ha⟩, b1, b2, fun H1 s1 => ?_⟩
        walk_at "oh go"
        have e : joins s lo pr = decide (s.at lo = pr) := by unfold joins; rw [decide_eq_true c, decide_eq_false c2] <;> rfl
        rw [e] at q
        exact q _ s1
def sp_begun : Sp := fun vs H Q _ => ∃ lo hi pr st : Int, vs = [.int lo, .int hi, .int pr, .int st] ∧ ∀ k, H k = none → Q (.ref k) (upd H k (.tup [.int (begun lo hi pr st).lo, .int (begun lo hi pr st).hi, .int (begun lo hi pr st).pr, .int (begun lo hi pr st).st]))
/- slots: 0 low, 1 high, 2 price, 3 step -/
theorem sc_begun : FnScope ["low", "high", "price", "step"] ["low", "high", "price", "step"] (defScope s_begun) := by walk_at "oh sc"
theorem ok_begun (T : Pg K mg) : Ok P w K mg base CX0 1 "begun" ["low", "high", "price", "step"] sp_begun := by
  obtain ⟨fd, F⟩ := F_begun T
  refine ⟨fd, F.ok sc_begun (fun vs H Q E h => ?_) (fun cdv A outer s H vs Q E hr h => ?_), F.binds fun _ _ _ _ _ _ us hl => (match us, hl with | [_, _, _, _], _ => rfl), F.kp, g_begun T⟩
  · obtain ⟨lo, hi, pr, st, rfl, _⟩ := h
    rfl
  · obtain ⟨lo, hi, pr, st, rfl, q⟩ := h
    have hu := hu_of hr
    refine ⟨_, pss_cons (ps_if (pt_cmpR op_eq (pv 0) (pv 1) (nomark _))
      (pss_one (ps_ret (pe_tup (pa_cons (pv 0) (pa_cons (pv 1) (pa_cons (pv 2) (pa_cons pe_int pa_nil)))))))
      pss_nil)
      (pss_one (ps_ret (pe_tup (pa_cons (pv 0) (pa_cons (pv 1) (pa_cons (pv 2) (pa_cons (pv 3) pa_nil))))))), ?_⟩
    walk_at "oh go"
    refine i_dec (fun c => ?_) (fun c => ?_)
    · walk_at "oh go"
      refine ⟨Nat.le_of_ble_eq_true rfl, fun k nk => ?_⟩
      have z := q k nk
      unfold begun at z
      rw [if_pos c] at z
      exact z
    · walk_at "oh go"
      refine ⟨Nat.le_of_ble_eq_true rfl, fun k nk => ?_⟩
      have z := q k nk
      unfold begun at z
      rw [if_neg c] at z
      exact z
/-- rows, a list -/
abbrev RowsV : RepF (List S4) := LstR S4V
structure RowsIn (rows : List S4) : Prop where
  fb : FB 7000 7000 rows
  ne : ∀ r ∈ rows, r.lo ≤ r.hi
  len : rows.length ≤ 100000
def sp_laid : Sp := fun vs H Q _ => ∃ (v : V) (rows : List S4), vs = [v] ∧ RowsV H v rows ∧ RowsIn rows ∧ Ret H Q FormV (laid rows)
/- slots: 0 rows, 1 told, 2 low, 3 high, 4 price, 5 step, 6 first, 7 own -/
theorem sc_laid : FnScope ["rows", "told", "low", "high", "price", "step", "first", "own"] ["rows"] (defScope s_laid) := by walk_at "oh sc"
theorem ok_laid (T : Pg K mg) : Ok P w K mg base CX0 5 "laid" ["rows"] sp_laid := by
  obtain ⟨fd, F⟩ := F_laid T
  refine ⟨fd, F.ok sc_laid (fun vs H Q E h => ?_) (fun cdv A outer s H vs Q E hr h => ?_), F.binds fun _ _ _ _ _ _ us hl => (match us, hl with | [_], _ => rfl), F.kp, g_laid T⟩
  · obtain ⟨v, rows, rfl, _⟩ := h
    rfl
  · obtain ⟨v, rows, rfl, ⟨a, vs, rfl, ha, hI⟩, B, q⟩ := h
    have hu := hu_of hr
    refine ⟨_, pss_cons (ps_set (i := 1) sc_laid.nd rfl (Or.inl rfl) (pe_lst pa_nil))
      (pss_cons (ps_for PassesOwn.never rfl (pi_list (pv 0)) (pg_tup rfl (pgs_cons (pg_name (i := 2) sc_laid.nd rfl (Or.inl rfl)) (pgs_cons (pg_name (i := 3) sc_laid.nd rfl (Or.inl rfl)) (pgs_cons (pg_name (i := 4) sc_laid.nd rfl (Or.inl rfl)) (pgs_cons (pg_name (i := 5) sc_laid.nd rfl (Or.inl rfl)) pgs_nil)))))
      (pss_cons (ps_if (PW.pt (pw_or (pt_cmpR op_eq (pe_callB cr_ln (by rfl) (z_len T) PySem.boot_len (pa_cons (pv 1) pa_nil)) pe_int (nomark _)) (pw_or1 (pt_not (pt_val (pe_c0 (ok_joins T) hr (pa_cons (pe_ix ix_list (pv 1) (pe_un un_neg pe_int) (fun _ _ => rfl)) (pa_cons (pv 2) (pa_cons (pv 4) pa_nil)))))))))
        (pss_cons (ps_expr (pe_bm PySem.F.plainAttrs_list PySem.F.slot_list_append PySem.F.type_list_append mt_append (pv 1) (pa_cons (pe_c0 (ok_begun T) hr (pa_cons (pv 2) (pa_cons (pv 3) (pa_cons (pv 4) (pa_cons (pv 5) pa_nil))))) pa_nil)))
          (pss_one ps_continue))
        pss_nil)
        (pss_cons (ps_set (i := 6) sc_laid.nd rfl (Or.inl rfl) (pe_bm0 PySem.F.plainAttrs_list PySem.F.slot_list_pop PySem.F.type_list_pop mt_pop (pv 1)))
        (pss_cons (ps_set (i := 7) sc_laid.nd rfl (Or.inl rfl) (pe_ix ix_tup (pv 6) pe_int (fun _ _ => rfl)))
        (Evl.pss_cut (ps_if (pt_cmpR op_eq (pe_ix ix_tup (pv 6) pe_int (fun _ _ => rfl)) (pe_ix ix_tup (pv 6) pe_int (fun _ _ => rfl)) (nomark _))
        (pss_one (ps_set (i := 7) sc_laid.nd rfl (Or.inl rfl) (pe_op op_sub (pv 4) (pe_ix ix_tup (pv 6) pe_int (fun _ _ => rfl)))))
        pss_nil)
        (pss_one (ps_if (PW.pt (pw_or (pt_cmpR op_eq (pv 2) (pv 3) (nomark _)) (pw_or1 (pt_cmpR op_eq (pv 5) (pv 7) (nomark _)))))
        (pss_one (ps_expr (pe_bm PySem.F.plainAttrs_list PySem.F.slot_list_append PySem.F.type_list_append mt_append (pv 1) (pa_cons (pe_tup (pa_cons (pe_ix ix_tup (pv 6) pe_int (fun _ _ => rfl)) (pa_cons (pv 3) (pa_cons (pe_ix ix_tup (pv 6) pe_int (fun _ _ => rfl)) (pa_cons (pv 7) pa_nil))))) pa_nil))))
        (pss_cons (ps_expr (pe_bm PySem.F.plainAttrs_list PySem.F.slot_list_append PySem.F.type_list_append mt_append (pv 1) (pa_cons (pe_tup (pa_cons (pe_ix ix_tup (pv 6) pe_int (fun _ _ => rfl)) (pa_cons (pv 2) (pa_cons (pe_ix ix_tup (pv 6) pe_int (fun _ _ => rfl)) (pa_cons (pv 7) pa_nil))))) pa_nil)))
          (pss_one (ps_expr (pe_bm PySem.F.plainAttrs_list PySem.F.slot_list_append PySem.F.type_list_append mt_append (pv 1) (pa_cons (pe_c0 (ok_begun T) hr (pa_cons (pe_op op_add (pv 2) pe_int) (pa_cons (pv 3) (pa_cons (pe_op op_add (pv 4) (pv 5)) (pa_cons (pv 5) pa_nil))))) pa_nil))))))))))))
      (pss_one (ps_ret (pe_callTy cr_to (by rfl) (z_tuple T) (by decide +kernel) (pa_cons (pv 1) pa_nil))))), ?_⟩
    walk_at "oh go"
    refine ⟨Nat.le_of_ble_eq_true rfl, fun l nl => ?_⟩
    walk_at "oh go"
    refine for_left hI (fun r σ H' => ∃ acc told o2 o3 o4 o5 o6 o7, σ = [some (.ref a), some (.ref l), o2, o3, o4, o5, o6, o7] ∧ LL S4V H l H' acc told ∧ (∀ s ∈ told, TB 7000 7000 s) ∧ r.foldl laidStep told = laid rows ∧ (∀ s ∈ r, s ∈ rows) ∧ told.length + r.length ≤ 100000)
      ⟨[], [], none, none, none, none, none, none, rfl, LL.new (Same.refl _) nl, fun _ z => (nomatch z), rfl, fun _ z => z, by rw [List.length_nil, Nat.zero_add]; exact B.len⟩ ?_ ?_ ?_
    · rintro r σ H1 ⟨acc, told, o2, o3, o4, o5, o6, o7, rfl, L, _⟩
      exact SqL.of (L.sm _ _ ha)
    · rintro x y r σ H1 ⟨b, rfl, hb⟩ ⟨acc, told, o2, o3, o4, o5, o6, o7, rfl, L, tb, fe, sub, ln⟩
      have hy := sub y List.mem_cons_self
      have by_ := B.fb y hy
      have ne := B.ne y hy
      have ll := L.len
      rw [List.length_cons] at ln
      have fe2 : r.foldl laidStep (laidStep told y) = laid rows := fe
      have tb2 := tb_step tb by_ ne
      walk_at "oh go"
      -- the two ways
      have begin_ : ∀ (H2 : Hp), LL S4V H l H2 acc told → laidStep told y = told ++ [begun y.lo y.hi y.pr y.st] → ∀ k, H2 k = none →
          ∃ acc' told', LL S4V H l (upd (upd H2 k (.tup [.int (begun y.lo y.hi y.pr y.st).lo, .int (begun y.lo y.hi y.pr y.st).hi, .int (begun y.lo y.hi y.pr y.st).pr, .int (begun y.lo y.hi y.pr y.st).st])) l (.lst (acc ++ [.ref k]))) acc' told' ∧ (∀ s ∈ told', TB 7000 7000 s) ∧ r.foldl laidStep told' = laid rows ∧ (∀ s ∈ r, s ∈ rows) ∧ told'.length + r.length ≤ 100000 := fun H2 L2 e k nk => by
        refine ⟨_, _, L2.pushN S4V.mono nk ⟨k, rfl, upd_same⟩, ?_, ?_, fun s hs => sub s (List.mem_cons_of_mem _ hs), ?_⟩
        · rw [← e]
          exact tb2
        · rw [← e]
          exact fe2
        · rw [List.length_append]
          show told.length + 1 + r.length ≤ 100000
          omega
      refine i_dec (fun c => ?_) (fun c => ?_)
      · have e0 : told = [] := List.length_eq_zero_iff.mp (by omega)
        walk_at "oh go"
        refine ⟨_, _, _, _, rfl, fun k nk => ?_⟩
        walk_at "oh go"
        refine i_app (by walk_at "oh hp") (by omega) ?_
        walk_at "oh go"
        obtain ⟨acc', told', z⟩ := begin_ H1 L (by rw [e0]; rfl) k nk
        exact ⟨acc', told', _, _, _, _, _, _, rfl, z⟩
      · have hne : told ≠ [] := fun z => c (by rw [ll, z]; rfl)
        obtain ⟨t, ht⟩ : ∃ t, told.getLast? = some t := ⟨_, List.getLast?_eq_some_getLast hne⟩
        have htm : t ∈ told := by rw [last_split ht]; simp
        have bt := tb t htm
        obtain ⟨vt, hvt, ct, rfl, hct⟩ := L.its.last ht
        walk_at "oh go"
        refine i_ixL (by walk_at "oh hp") (atI_lst hvt) ?_
        walk_at "oh go"
        refine ⟨_, t, y.lo, y.pr, rfl, ⟨ct, rfl, hct⟩, bt.st.mono (by decide), (by_.lo.sub bt.lo).mono (by decide), fun H2 s2 => ?_⟩
        have L2 := L.step S4V.mono s2
        have step : laidStep told y = if joins t y.lo y.pr = true then told.dropLast ++ joined t y else told ++ [begun y.lo y.hi y.pr y.st] := by
          unfold laidStep
          rw [ht]
        walk_at "oh go"
        cases j : joins t y.lo y.pr with
        | false =>
          rw [j, if_neg (by decide)] at step
          walk_at "oh go"
          refine ⟨_, _, _, _, rfl, fun k nk => ?_⟩
          walk_at "oh go"
          refine i_app (by walk_at "oh hp") (by omega) ?_
          walk_at "oh go"
          obtain ⟨acc', told', z⟩ := begin_ H2 L2 step k nk
          exact ⟨acc', told', _, _, _, _, _, _, rfl, z⟩
        | true =>
          rw [j, if_pos rfl] at step
          walk_at "oh go"
          refine i_pop (by walk_at "oh hp") hvt ?_
          have L3 := L2.pop S4V.mono
          have hct3 : upd H2 l (.lst acc.dropLast) ct = some (.tup [.int t.lo, .int t.hi, .int t.pr, .int t.st]) := get_mut L2.at_ (s2 _ _ hct) (by intro z; cases z)
          generalize upd H2 l (.lst acc.dropLast) = H3 at L3 hct3 ⊢
          have ld : told.dropLast.length + 1 = told.length := by
            rw [List.length_dropLast]
            have := List.length_pos_iff.mpr hne
            omega
          have la3 := L3.len
          walk_at "oh go"
          have eo : ∀ {A : Prop}, (t.lo = t.hi → own t y.pr = y.pr - t.pr → A) → (¬ t.lo = t.hi → own t y.pr = t.st → A) → A := fun h1 h2 => by
            by_cases c : t.lo = t.hi
            · exact h1 c (by unfold own; rw [if_pos c])
            · exact h2 c (by unfold own; rw [if_neg c])
          refine i_cut (fun σ' H' => σ' = [some (.ref a), some (.ref l), some (.int y.lo), some (.int y.hi), some (.int y.pr), some (.int y.st), some (.ref ct), some (.int (own t y.pr))] ∧ H' = H3) ?_ ?_
          · walk_at "oh go"
            refine i_dec (fun c => ?_) (fun c => ?_)
            · walk_at "oh go"
              refine eo (fun _ e => ?_) fun n _ => absurd c n
              rw [e]
              exact ⟨rfl, rfl⟩
            · walk_at "oh go"
              refine eo (fun n _ => absurd n c) fun _ e => ?_
              rw [e]
              exact ⟨rfl, rfl⟩
          rintro σ2 H4 ⟨rfl, rfl⟩
          have fin : ∀ {acc' : List V} {told' : List S4} {H' : Hp}, LL S4V H l H' acc' told' → laidStep told y = told' → told'.length + r.length ≤ 100000 → ∃ acc told o2 o3 o4 o5 o6 o7,
              [some (V.ref a), some (.ref l), some (.int y.lo), some (.int y.hi), some (.int y.pr), some (.int y.st), some (.ref ct), some (.int (own t y.pr))] = [some (.ref a), some (.ref l), o2, o3, o4, o5, o6, o7] ∧ LL S4V H l H' acc told ∧ (∀ s ∈ told, TB 7000 7000 s) ∧ r.foldl laidStep told = laid rows ∧ (∀ s ∈ r, s ∈ rows) ∧ told.length + r.length ≤ 100000 := fun {acc' told' H'} L' e n => by
            refine ⟨acc', told', _, _, _, _, _, _, rfl, L', ?_, ?_, fun s hs => sub s (List.mem_cons_of_mem _ hs), n⟩
            · rw [← e]
              exact tb2
            · rw [← e]
              exact fe2
          have yes : (y.lo = y.hi ∨ y.st = own t y.pr) → laidStep told y = told.dropLast ++ [⟨t.lo, y.hi, t.pr, own t y.pr⟩] := fun c => by
            rw [step]
            unfold joined
            rw [if_pos c]
          walk_at "oh go"
          refine i_dec (fun c => ?_) (fun c => ?_)
          · walk_at "oh go"
            refine ⟨Nat.le_of_ble_eq_true rfl, fun k nk => ?_⟩
            walk_at "oh go"
            refine i_app (by walk_at "oh hp") (by omega) ?_
            walk_at "oh go"
            exact fin (L3.pushN S4V.mono nk ⟨k, rfl, upd_same⟩) (yes (.inl c)) (by rw [List.length_append]; show told.dropLast.length + 1 + r.length ≤ _; omega)
          · walk_at "oh go"
            refine i_dec (fun c2 => ?_) (fun c2 => ?_)
            · walk_at "oh go"
              refine ⟨Nat.le_of_ble_eq_true rfl, fun k nk => ?_⟩
              walk_at "oh go"
              refine i_app (by walk_at "oh hp") (by omega) ?_
              walk_at "oh go"
              exact fin (L3.pushN S4V.mono nk ⟨k, rfl, upd_same⟩) (yes (.inr c2)) (by rw [List.length_append]; show told.dropLast.length + 1 + r.length ≤ _; omega)
            · have no : laidStep told y = told.dropLast ++ [⟨t.lo, y.lo, t.pr, own t y.pr⟩] ++ [begun (y.lo + 1) y.hi (y.pr + y.st) y.st] := by
                rw [step]
                unfold joined
                rw [if_neg (by rintro (z | z); exact c z; exact c2 z), List.append_assoc]
                rfl
              walk_at "oh go"
              refine ⟨Nat.le_of_ble_eq_true rfl, fun k nk => ?_⟩
              walk_at "oh go"
              refine i_app (by walk_at "oh hp") (by omega) ?_
              have L4 := L3.pushN S4V.mono (y := ⟨t.lo, y.lo, t.pr, own t y.pr⟩) nk ⟨k, rfl, upd_same⟩
              generalize upd (upd H4 k (.tup [.int t.lo, .int y.lo, .int t.pr, .int (own t y.pr)])) l (.lst (acc.dropLast ++ [.ref k])) = H5 at L4 ⊢
              have la4 := L4.len
              rw [List.length_append (as := told.dropLast)] at la4
              have la5 : (acc.dropLast ++ [V.ref k]).length = told.length := la4.trans ld
              walk_at "oh go"
              refine ⟨_, _, _, _, rfl, fun m nm => ?_⟩
              walk_at "oh go"
              refine i_app (by walk_at "oh hp") (by omega) ?_
              walk_at "oh go"
              exact fin (L4.pushN S4V.mono nm ⟨m, rfl, upd_same⟩) no (by rw [List.length_append, List.length_append]; show told.dropLast.length + 1 + 1 + r.length ≤ _; omega)
    · rintro σ H1 ⟨acc, told, o2, o3, o4, o5, o6, o7, rfl, L, tb, fe, sub, ln⟩
      walk_at "oh go"
      refine i_to (by walk_at "oh hp") fun k nk => ?_
      have fe' : told = laid rows := fe
      refine q _ _ (L.sm.trans (same_new nk _)) ⟨k, acc, rfl, upd_same, ?_⟩
      rw [← fe']
      exact L.its.mono S4V.mono (ts_new nk _)
/-- a cost, or None -/
def optV : Option Int → V
  | none => .non
  | some i => .int i
def sp_cost_at : Sp := fun vs H Q _ => ∃ (v : V) (f : Form) (x : Int), vs = [v, .int x] ∧ FormV H v f ∧ FB 8000 8000 f ∧ Sz 8000 x ∧ ∀ H', Same H H' → Q (optV (costAt f x)) H'
/- slots: 0 form, 1 x, 2 part -/
theorem sc_cost_at : FnScope ["form", "x", "part"] ["form", "x"] (defScope s_cost_at) := by walk_at "oh sc"
theorem ok_cost_at (T : Pg K mg) : Ok P w K mg base CX0 4 "cost_at" ["form", "x"] sp_cost_at := by
  obtain ⟨fd, F⟩ := F_cost_at T
  refine ⟨fd, F.ok sc_cost_at (fun vs H Q E h => ?_) (fun cdv A outer s H vs Q E hr h => ?_), F.binds fun _ _ _ _ _ _ us hl => (match us, hl with | [_, _], _ => rfl), F.kp, g_cost_at T⟩
  · obtain ⟨v, f, x, rfl, _⟩ := h
    rfl
  · obtain ⟨v, f, x, rfl, ⟨a, vs, rfl, ha, hI⟩, B, bx, q⟩ := h
    have hu := hu_of hr
    refine ⟨_, pss_cons (ps_for PassesOwn.never rfl (pi_tup (pv 0)) (pg_name (i := 2) sc_cost_at.nd rfl (Or.inl rfl))
      (pss_one (ps_if (pt_chain op_le op_le (pe_ix ix_tup (pv 2) pe_int (fun _ _ => rfl)) (pv 1) (pe_ix ix_tup (pv 2) pe_int (fun _ _ => rfl)))
        (pss_one (ps_ret (pe_c0 (ok_drawn_on T) hr (pa_cons (pv 2) (pa_cons (pv 1) pa_nil)))))
        pss_nil)))
      (pss_one (ps_ret pe_non)), ?_⟩
    walk_at "oh go"
    refine for_leftT hI (fun r σ H' => ∃ o, σ = [some (.ref a), some (.int x), o] ∧ Same H H' ∧ costAt r x = costAt f x ∧ ∀ s ∈ r, s ∈ f) ⟨none, rfl, Same.refl _, rfl, fun _ z => z⟩ ?_ ?_ ?_
    · rintro r σ H1 ⟨o, rfl, s1, _⟩
      exact SqT.of (s1 _ _ ha)
    · rintro z y r σ H1 ⟨b, rfl, hb⟩ ⟨o, rfl, s1, e, sub⟩
      have e' : (if y.lo ≤ x ∧ x ≤ y.hi then some (y.at x) else costAt r x) = costAt f x := e
      have by_ := B y (sub y List.mem_cons_self)
      have go : ¬ (y.lo ≤ x ∧ x ≤ y.hi) → ∃ o', ([some (.ref a), some (.int x), some (.ref b)] : L2.St) = [some (.ref a), some (.int x), o'] ∧ Same H H1 ∧ costAt r x = costAt f x ∧ ∀ s ∈ r, s ∈ f := fun c =>
        ⟨_, rfl, s1, by rw [if_neg c] at e'; exact e', fun s hs => sub s (List.mem_cons_of_mem _ hs)⟩
      walk_at "oh go"
      refine i_dec (fun c => ?_) (fun c => ?_)
      · walk_at "oh go"
        refine i_dec (fun c2 => ?_) (fun c2 => ?_)
        · walk_at "oh go"
          refine ⟨_, y, x, rfl, ⟨b, rfl, by walk_at "oh hp"⟩, by_.st.mono (by decide), (bx.sub by_.lo).mono (by decide), fun H2 s2 => ?_⟩
          walk_at "oh go"
          rw [if_pos ⟨c, c2⟩] at e'
          rw [← e'] at q
          exact q _ (s1.trans s2)
        · walk_at "oh go"
          exact go fun z => c2 z.2
      · walk_at "oh go"
        exact go fun z => c z.1
    · rintro σ H1 ⟨o, rfl, s1, e, sub⟩
      walk_at "oh go"
      have e' : none = costAt f x := e
      rw [← e'] at q
      exact q _ s1
end
end OH
set_option Elab.async false
set_option linter.all false
set_option maxRecDepth 100000
set_option maxHeartbeats 4000000
namespace OH
open PySem PySem.Spec PyProof.Rows L2
/-- a known object: through what has changed since -/
local macro_rules | `(tactic| walk_at "oh hp") => `(tactic| first | assumption | exact upd_same | (refine get_new (by assumption) ?_; walk_at "oh hp") | (refine get_mut (by assumption) ?_ (by intro z; cases z); walk_at "oh hp") | (refine same_get (by assumption) ?_; walk_at "oh hp") | (refine ts_get (by assumption) ?_; walk_at "oh hp") | (refine same_get (LL.sm (by assumption)) ?_; walk_at "oh hp") | exact LL.at_ (by assumption))
local macro_rules | `(tactic| walk_at "oh sc") => `(tactic| exact ⟨rfl, rfl, rfl, by decide +kernel, rfl, by decide +kernel, by decide +kernel⟩)
/-- one step of a reading -/
local macro_rules | `(tactic| walk_at "oh 1") => `(tactic| with_reducible first
  | refine i_var rfl ?_ | refine i_c ?_ | refine i_op ?_ | refine i_I0 ?_ | refine i_cons ?_ | refine i_nil ?_ | refine i_asg ?_ | refine i_name ?_ | refine i_seq ?_ | refine i_ifS ?_ | refine i_test ?_ | refine i_bl ?_ | refine i_call ?_ | refine i_CB ?_
  | refine i_tup ?_ | refine i_lst ?_ | refine i_eqI ?_ | refine i_eqS ?_ | refine i_neI ?_ | refine i_un ?_ | refine i_U ?_ | refine i_ret ?_ | refine i_retN ?_ | refine i_next ?_ | refine i_cont ?_ | refine i_drop ?_ | refine i_B ?_ | refine i_and ?_ | refine i_or ?_ | refine i_not ?_ | refine i_mn ?_ | refine i_mx ?_ | refine i_isN ?_ | refine i_notN ?_ | refine i_bm ?_ | refine i_bm0 ?_ | refine i_rn ?_ | refine i_nn ?_ | refine i_rn' ?_ | refine i_nn' ?_ | refine i_gcons ?_ | refine i_gnil ?_ | refine i_orV ?_ | refine i_andV ?_ | refine i_notV ?_ | refine i_chain ?_ | refine i_forL ?_ | refine i_iL ?_ | refine i_iT ?_ | refine i_lc ?_ | refine i_yes ?_ | refine i_aug rfl ?_ | refine i_ip ?_ | refine iteT ?_ | refine iteF ?_ | refine i_nT ?_ | refine i_nF ?_)
local macro_rules | `(tactic| walk_at "oh 2") => `(tactic| first | ((with_reducible refine' i_ixT ?h ?e ?q); (case h => walk_at "oh hp"); (case e => rfl)) | ((with_reducible refine' i_gtup ?h ?e ?q); (case h => walk_at "oh hp"); (case e => rfl)) | ((with_reducible refine' i_atL ?h ?q); (case h => walk_at "oh hp")) | ((with_reducible refine' i_atT ?h ?q); (case h => walk_at "oh hp")) | ((with_reducible refine' i_tyL ?h ?q); (case h => walk_at "oh hp")) | ((with_reducible refine' i_lnL ?h ?q); (case h => walk_at "oh hp")) | ((with_reducible refine' i_lnT ?h ?q); (case h => walk_at "oh hp")))
local macro_rules | `(tactic| walk_at "oh go") => `(tactic| repeat first | walk_at "oh 1" | walk_at "oh 2")
structure FormIn (f : Form) : Prop where
  fb : FB 300 6200 f
  asc : Asc f
  len : f.length ≤ 1000
theorem clip_le (s : S4) (lo hi : Int) : (clip s lo hi).length ≤ 1 := by
  unfold clip
  split <;> simp
theorem clip_two {a b u : S4} (h : u ∈ clip a b.lo b.hi) : clip b u.lo u.hi = [⟨u.lo, u.hi, b.at u.lo, b.st⟩] := by
  have q := clip_in h
  unfold clip
  have e1 : mx u.lo b.lo = u.lo := by unfold mx; rw [if_neg (by omega)]
  have e2 : mn u.hi b.hi = u.hi := by unfold mn; rw [if_neg (by omega)]
  rw [e1, e2, if_neg (by omega)]
theorem plusOne_of {a b u : S4} (h : clip a b.lo b.hi = [u]) : plusOne a b = [⟨u.lo, u.hi, u.pr + b.at u.lo, u.st + b.st⟩] := by
  unfold plusOne
  rw [h]
theorem plusR_len : ∀ f g : Form, (plusR f g).length ≤ f.length + g.length
  | [], _ => by rw [plusR]; exact Nat.zero_le _
  | _ :: _, [] => by rw [plusR]; exact Nat.zero_le _
  | a :: r, b :: t => by
    rw [plusR, List.length_append]
    have h1 : (plusOne a b).length ≤ 1 := by unfold plusOne; split <;> simp
    split
    · have := plusR_len r (b :: t)
      rw [List.length_cons, List.length_cons] at *
      omega
    · have := plusR_len (a :: r) t
      rw [List.length_cons, List.length_cons] at *
      omega
termination_by f g => f.length + g.length
theorem flat_le {α β : Type} {n : Nat} {g : α → List β} : ∀ {l : List α}, (∀ a ∈ l, (g a).length ≤ n) → (l.flatMap g).length ≤ n * l.length
  | [], _ => Nat.zero_le _
  | a :: l, h => by
    rw [List.flatMap_cons, List.length_append, List.length_cons, Nat.mul_add, Nat.mul_one]
    have h1 := h a List.mem_cons_self
    have h2 := flat_le (l := l) (g := g) fun b hb => h b (List.mem_cons_of_mem _ hb)
    omega
theorem ixT {X : Cx} (K : PySem.W.Frag) (h : X.K = K := by rfl) : IxR X (rIxT K) := h ▸ ix_tup
theorem ixL {X : Cx} (K : PySem.W.Frag) (h : X.K = K := by rfl) : IxR X (rIxL K) := h ▸ ix_list
section
variable {P : Program} {w : World} {K : PySem.W.Frag} {mg : Str → Option Value} {base : Heap}
def sp_clipped : Sp := fun vs H Q _ => ∃ (v : V) (s : S4) (lo hi : Int), vs = [v, .int lo, .int hi] ∧ S4V H v s ∧ SB 8000 8000 s ∧ Sz 8000 lo ∧ Sz 8000 hi ∧ RetL H Q S4V (clip s lo hi)
/- slots: 0 part, 1 low, 2 high, 3 first, 4 last -/
theorem sc_clipped : FnScope ["part", "low", "high", "first", "last"] ["part", "low", "high"] (defScope s_clipped) := by walk_at "oh sc"
theorem ok_clipped (T : Pg K mg) : Ok P w K mg base CX0 3 "clipped" ["part", "low", "high"] sp_clipped := by
  obtain ⟨fd, F⟩ := F_clipped T
  refine ⟨fd, F.ok sc_clipped (fun vs H Q E h => ?_) (fun cdv A outer s H vs Q E hr h => ?_), F.binds fun _ _ _ _ _ _ us hl => (match us, hl with | [_, _, _], _ => rfl), F.kp, g_clipped T⟩
  · obtain ⟨v, s, lo, hi, rfl, _⟩ := h
    rfl
  · obtain ⟨v, s, lo, hi, rfl, ⟨a, rfl, ha⟩, B, b1, b2, q⟩ := h
    have hu := hu_of hr
    refine ⟨_, pss_cons (ps_set (i := 3) sc_clipped.nd rfl (Or.inl rfl) (pe_callB (cr_mx rfl) (by rfl) (z_max T) (by decide +kernel) (pa_cons (pv 1) (pa_cons (pe_ix ix_tup (pv 0) pe_int (fun _ _ => rfl)) pa_nil))))
      (pss_cons (ps_set (i := 4) sc_clipped.nd rfl (Or.inl rfl) (pe_callB (cr_mn rfl) (by rfl) (z_min T) (by decide +kernel) (pa_cons (pv 2) (pa_cons (pe_ix ix_tup (pv 0) pe_int (fun _ _ => rfl)) pa_nil))))
      (pss_cons (ps_if (pt_cmpR op_gt (pv 3) (pv 4) (nomark _))
      (pss_one (ps_ret (pe_lst pa_nil)))
      pss_nil)
      (pss_one (ps_ret (pe_lst (pa_cons (pe_tup (pa_cons (pv 3) (pa_cons (pv 4) (pa_cons (pe_c0 (ok_line_at T) hr (pa_cons (pe_tup (pa_cons (pe_ix ix_tup (pv 0) pe_int (fun _ _ => rfl)) (pa_cons (pe_ix ix_tup (pv 0) pe_int (fun _ _ => rfl)) pa_nil))) (pa_cons (pe_ix ix_tup (pv 0) pe_int (fun _ _ => rfl)) (pa_cons (pv 3) pa_nil)))) (pa_cons (pe_ix ix_tup (pv 0) pe_int (fun _ _ => rfl)) pa_nil))))) pa_nil)))))), ?_⟩
    unfold clip at q
    walk_at "oh go"
    refine i_dec (fun c => ?_) (fun c => ?_)
    · walk_at "oh go"
      refine ⟨Nat.le_of_ble_eq_true rfl, fun l nl => ?_⟩
      rw [if_pos c] at q
      exact q l _ _ nl (same_new nl _) upd_same .nil
    · walk_at "oh go"
      refine ⟨Nat.le_of_ble_eq_true rfl, fun k nk => ?_⟩
      walk_at "oh go"
      refine ⟨_, (s.pr, s.st), s.lo, mx lo s.lo, rfl, ⟨k, rfl, upd_same⟩, B.st.mono (by decide), ((b1.mx B.lo).sub B.lo).mono (by decide), ?_⟩
      walk_at "oh go"
      refine ⟨Nat.le_of_ble_eq_true rfl, fun m nm => ?_⟩
      walk_at "oh go"
      refine ⟨Nat.le_of_ble_eq_true rfl, fun l nl => ?_⟩
      walk_at "oh go"
      rw [if_neg c] at q
      have sm := (same_new nk (.tup [.int s.pr, .int s.st])).trans (same_new nm (.tup [.int (mx lo s.lo), .int (mn hi s.hi), .int (s.at (mx lo s.lo)), .int s.st]))
      exact q l _ _ (none_back sm nl) (sm.trans (same_new nl _)) upd_same (.cons ⟨m, rfl, by walk_at "oh hp"⟩ .nil)
def sp_plus : Sp := fun vs H Q _ => ∃ (v u : V) (f g : Form), vs = [v, u] ∧ FormV H v f ∧ FormV H u g ∧ FormIn f ∧ FormIn g ∧ Ret H Q FormV (plus f g)
/- slots: 0 one, 1 other, 2 rows, 3 at, 4 to, 5 first, 6 second -/
theorem sc_plus : FnScope ["one", "other", "rows", "at", "to", "first", "second"] ["one", "other"] (defScope s_plus) := by walk_at "oh sc"
theorem ok_plus (T : Pg K mg) : Ok P w K mg base CX0 7 "plus" ["one", "other"] sp_plus := by
  obtain ⟨fd, F⟩ := F_plus T
  refine ⟨fd, F.ok sc_plus (fun vs H Q E h => ?_) (fun cdv A outer s H vs Q E hr h => ?_), F.binds fun _ _ _ _ _ _ us hl => (match us, hl with | [_, _], _ => rfl), F.kp, g_plus T⟩
  · obtain ⟨v, u, f, g, rfl, _⟩ := h
    rfl
  · obtain ⟨v, u, f, g, rfl, ⟨a, vs, rfl, ha, hI⟩, ⟨b, us, rfl, hb, hJ⟩, A, B, q⟩ := h
    have hu := hu_of hr
    refine ⟨_, pss_cons (ps_set (i := 2) sc_plus.nd rfl (Or.inl rfl) (pe_lst pa_nil))
      (pss_cons (ps_set (i := 3) sc_plus.nd rfl (Or.inl rfl) pe_int)
      (pss_cons (ps_set (i := 4) sc_plus.nd rfl (Or.inl rfl) pe_int)
      (pss_cons (ps_while PassesOwn.never (PW.pt (pw_and (pt_cmpR op_lt (pv 3) (pe_callB cr_ln (by rfl) (z_len T) PySem.boot_len (pa_cons (pv 0) pa_nil)) (nomark _)) (pw_and1 (pt_cmpR op_lt (pv 4) (pe_callB cr_ln (by rfl) (z_len T) PySem.boot_len (pa_cons (pv 1) pa_nil)) (nomark _)))))
      (pss_cons (ps_for PassesOwn.never rfl (pi_list (pe_c0 (ok_clipped T) hr (pa_cons (pe_ix ix_tup (pv 0) (pv 3) (fun _ _ => rfl)) (pa_cons (pe_ix ix_tup (pe_ix ix_tup (pv 1) (pv 4) (fun _ _ => rfl)) pe_int (fun _ _ => rfl)) (pa_cons (pe_ix ix_tup (pe_ix ix_tup (pv 1) (pv 4) (fun _ _ => rfl)) pe_int (fun _ _ => rfl)) pa_nil))))) (pg_name (i := 5) sc_plus.nd rfl (Or.inl rfl))
        (pss_cons (ps_set (i := 6) sc_plus.nd rfl (Or.inl rfl) (pe_ix ix_list (pe_c0 (ok_clipped T) hr (pa_cons (pe_ix ix_tup (pv 1) (pv 4) (fun _ _ => rfl)) (pa_cons (pe_ix ix_tup (pv 5) pe_int (fun _ _ => rfl)) (pa_cons (pe_ix ix_tup (pv 5) pe_int (fun _ _ => rfl)) pa_nil)))) pe_int (fun _ _ => rfl)))
          (pss_one (ps_expr (pe_bm PySem.F.plainAttrs_list PySem.F.slot_list_append PySem.F.type_list_append mt_append (pv 2) (pa_cons (pe_tup (pa_cons (pe_ix ix_tup (pv 5) pe_int (fun _ _ => rfl)) (pa_cons (pe_ix ix_tup (pv 5) pe_int (fun _ _ => rfl)) (pa_cons (pe_op op_add (pe_ix ix_tup (pv 5) pe_int (fun _ _ => rfl)) (pe_ix ix_tup (pv 6) pe_int (fun _ _ => rfl))) (pa_cons (pe_op op_add (pe_ix ix_tup (pv 5) pe_int (fun _ _ => rfl)) (pe_ix ix_tup (pv 6) pe_int (fun _ _ => rfl))) pa_nil))))) pa_nil))))))
        (pss_one (ps_if (pt_cmpR op_lt (pe_ix ix_tup (pe_ix ix_tup (pv 0) (pv 3) (fun _ _ => rfl)) pe_int (fun _ _ => rfl)) (pe_ix ix_tup (pe_ix ix_tup (pv 1) (pv 4) (fun _ _ => rfl)) pe_int (fun _ _ => rfl)) (nomark _))
        (pss_one (ps_aug (i := 3) sc_plus.nd rfl (Or.inl rfl) pe_int ip_add))
        (pss_one (ps_aug (i := 4) sc_plus.nd rfl (Or.inl rfl) pe_int ip_add))))))
      (pss_one (ps_ret (pe_c0 (ok_laid T) hr (pa_cons (pv 2) pa_nil))))))), ?_⟩
    walk_at "oh go"
    refine ⟨Nat.le_of_ble_eq_true rfl, fun l nl => ?_⟩
    walk_at "oh go"
    refine i_while (fun m σ H' => ∃ (at_ to : Nat) (acc : List V) (L : List S4) (o5 o6 : Option V), σ = [some (.ref a), some (.ref b), some (.ref l), some (.int at_), some (.int to), o5, o6] ∧ LL S4V H l H' acc L ∧ L ++ plusR (f.drop at_) (g.drop to) = plusR f g ∧ m = (f.length - at_) + (g.length - to)) _
      ⟨0, 0, [], [], none, none, rfl, LL.new (Same.refl _) nl, rfl, rfl⟩ ?_
    rintro m σ H1 ⟨at_, to, acc, L, o5, o6, rfl, X, e, rfl⟩
    have fl := hI.len
    have gl := hJ.len
    have pl := plusR_len f g
    have lL : L.length ≤ 4000 := by
      rw [← e, List.length_append] at pl
      have := A.len
      have := B.len
      omega
    have done : (f.length ≤ at_ ∨ g.length ≤ to) → L = plusR f g := fun c => by
      have z : plusR (f.drop at_) (g.drop to) = [] := by
        rcases c with c | c
        · rw [List.drop_eq_nil_of_le c, plusR]
        · rw [List.drop_eq_nil_of_le c]
          cases f.drop at_ <;> rw [plusR]
      rw [z, List.append_nil] at e
      exact e
    have rin : RowsIn (plusR f g) := by
      refine ⟨(FB.plusR A.fb B.fb).mono (by decide) (by decide), (plusR_ok f g A.asc B.asc).1.ne, ?_⟩
      have := A.len
      have := B.len
      omega
    walk_at "oh go"
    refine i_dec (fun c1 => ?_) (fun c1 => ?_)
    · walk_at "oh go"
      refine i_dec (fun c2 => ?_) (fun c2 => ?_)
      · have h1 : at_ < f.length := by omega
        have h2 : to < g.length := by omega
        obtain ⟨va, hva, ca, rfl, hca⟩ := hI.at (List.getElem?_eq_getElem h1)
        obtain ⟨vb, hvb, cb, rfl, hcb⟩ := hJ.at (List.getElem?_eq_getElem h2)
        generalize ex : f[at_] = x at hca
        generalize ey : g[to] = y at hcb
        have ed1 : f.drop at_ = x :: f.drop (at_ + 1) := by rw [← ex]; exact List.drop_eq_getElem_cons h1
        have ed2 : g.drop to = y :: g.drop (to + 1) := by rw [← ey]; exact List.drop_eq_getElem_cons h2
        have bx : SB 300 6200 x := A.fb x (by rw [← ex]; exact List.getElem_mem h1)
        have by_ : SB 300 6200 y := B.fb y (by rw [← ey]; exact List.getElem_mem h2)
        rw [ed1, ed2, plusR] at e
        refine i_body ?_
        walk_at "oh go"
        refine i_ixT (by walk_at "oh hp") (atI_nat hva) ?_
        walk_at "oh go"
        refine i_ixT (by walk_at "oh hp") (atI_nat hvb) ?_
        walk_at "oh go"
        refine i_ixT (by walk_at "oh hp") (atI_nat hvb) ?_
        walk_at "oh go"
        refine ⟨_, x, y.lo, y.hi, rfl, ⟨ca, rfl, by walk_at "oh hp"⟩, bx.mono (by decide) (by decide), by_.lo.mono (by decide), by_.hi.mono (by decide), fun l2 ws H2 n2 s2 hl2 hK => ?_⟩
        have X2 := X.step S4V.mono s2
        -- behind the inner loop
        have after : ∀ (o5 o6 : Option V) (H3 : Hp) (acc' : List V), LL S4V H l H3 acc' (L ++ plusOne x y) → ∀ D : Ends, D.nx = (fun σ' H' => ∃ m', m' < (f.length - at_) + (g.length - to) ∧ ∃ (at_ to : Nat) (acc : List V) (L : List S4) (o5 o6 : Option V), σ' = [some (.ref a), some (.ref b), some (.ref l), some (.int at_), some (.int to), o5, o6] ∧ LL S4V H l H' acc L ∧ L ++ plusR (f.drop at_) (g.drop to) = plusR f g ∧ m' = (f.length - at_) + (g.length - to)) →
            (x.hi < y.hi → D.nx [some (.ref a), some (.ref b), some (.ref l), some (.int ((at_ : Int) + 1)), some (.int to), o5, o6] H3) ∧ (¬ x.hi < y.hi → D.nx [some (.ref a), some (.ref b), some (.ref l), some (.int at_), some (.int ((to : Int) + 1)), o5, o6] H3) := fun o5 o6 H3 acc' X3 D eD => by
          rw [eD]
          constructor
          · intro c
            rw [if_pos c, ← ed2] at e
            exact ⟨_, by omega, at_ + 1, to, acc', _, o5, o6, rfl, X3, by rw [List.append_assoc]; exact e, rfl⟩
          · intro c
            rw [if_neg c, ← ed1] at e
            exact ⟨_, by omega, at_, to + 1, acc', _, o5, o6, rfl, X3, by rw [List.append_assoc]; exact e, rfl⟩
        have cl := clip_le x y.lo y.hi
        walk_at "oh go"
        have nl2 : l ≠ l2 := ne_of_none X.at_ n2
        have hx2 : H2 ca = some (.tup [.int x.lo, .int x.hi, .int x.pr, .int x.st]) := X2.sm _ _ hca
        have hy2 : H2 cb = some (.tup [.int y.lo, .int y.hi, .int y.pr, .int y.st]) := X2.sm _ _ hcb
        have tail : ∀ {o5 o6 : Option V} {H3 : Hp} {acc' : List V} {D : Ends}, LL S4V H l H3 acc' (L ++ plusOne x y) → D.nx = (fun σ' H' => ∃ m', m' < (f.length - at_) + (g.length - to) ∧ ∃ (at_ to : Nat) (acc : List V) (L : List S4) (o5 o6 : Option V), σ' = [some (.ref a), some (.ref b), some (.ref l), some (.int at_), some (.int to), o5, o6] ∧ LL S4V H l H' acc L ∧ L ++ plusR (f.drop at_) (g.drop to) = plusR f g ∧ m' = (f.length - at_) + (g.length - to)) →
            (if decide (x.hi < y.hi) = true then D.nx [some (.ref a), some (.ref b), some (.ref l), some (.int ((at_ : Int) + 1)), some (.int to), o5, o6] H3 else D.nx [some (.ref a), some (.ref b), some (.ref l), some (.int at_), some (.int ((to : Int) + 1)), o5, o6] H3) := fun {o5 o6 H3 acc' D} X3 eD =>
          i_dec (after o5 o6 H3 acc' X3 D eD).1 (after o5 o6 H3 acc' X3 D eD).2
        cases ec : clip x y.lo y.hi with
        | nil =>
          have e1 : plusOne x y = [] := by unfold plusOne; rw [ec]
          rw [ec] at hK
          refine for_left hK (fun r σ H' => r = [] ∧ σ = [some (.ref a), some (.ref b), some (.ref l), some (.int at_), some (.int to), o5, o6] ∧ H' = H2) ⟨rfl, rfl, rfl⟩ (fun r σ H' ⟨_, _, e⟩ => by rw [e]; exact SqL.of hl2) (fun x y r σ H' _ ⟨z, _⟩ => (nomatch z)) ?_
          rintro σ H' ⟨_, rfl, rfl⟩
          have X3 := X2.is (M := L ++ plusOne x y) (by rw [e1, List.append_nil])
          walk_at "oh go"
          refine i_ixT (by walk_at "oh hp") (atI_nat hva) ?_
          walk_at "oh go"
          refine i_ixT (by walk_at "oh hp") (atI_nat hvb) ?_
          walk_at "oh go"
          refine i_dec (fun c => ?_) (fun c => ?_)
          · walk_at "oh go"
            exact (after _ _ _ _ X3 ⟨_, fun _ _ => True, fun _ _ => True, fun _ _ => True⟩ rfl).1 c
          · walk_at "oh go"
            exact (after _ _ _ _ X3 ⟨_, fun _ _ => True, fun _ _ => True, fun _ _ => True⟩ rfl).2 c
        | cons u t =>
          have et : t = [] := by
            rw [ec] at cl
            exact List.length_eq_zero_iff.mp (by rw [List.length_cons] at cl; omega)
          subst et
          have hu : u ∈ clip x y.lo y.hi := by rw [ec]; exact List.mem_cons_self
          have e1 := plusOne_of ec
          have e2 := clip_two hu
          have bu : SB 300 6502 u := FB.clip bx by_.lo by_.hi u hu
          rw [ec] at hK
          refine for_left hK (fun r σ H' => H' l2 = some (.lst ws) ∧ ((r = [u] ∧ σ = [some (.ref a), some (.ref b), some (.ref l), some (.int at_), some (.int to), o5, o6] ∧ H' = H2) ∨ (r = [] ∧ ∃ o5 o6 acc', σ = [some (.ref a), some (.ref b), some (.ref l), some (.int at_), some (.int to), o5, o6] ∧ LL S4V H l H' acc' (L ++ plusOne x y)))) ⟨hl2, .inl ⟨rfl, rfl, rfl⟩⟩ (fun r σ H' ⟨e, _⟩ => SqL.of e) ?_ ?_
          · rintro z u' r σ H' ⟨d, rfl, hd⟩ ⟨_, ⟨e3, rfl, rfl⟩ | ⟨e3, _⟩⟩
            · injection e3 with e4 e5
              subst e4
              subst e5
              walk_at "oh go"
              refine i_ixT (by walk_at "oh hp") (atI_nat hvb) ?_
              walk_at "oh go"
              refine ⟨_, y, u'.lo, u'.hi, rfl, ⟨cb, rfl, by walk_at "oh hp"⟩, by_.mono (by decide) (by decide), bu.lo.mono (by decide), bu.hi.mono (by decide), fun l3 zs H3 n3 s3 hl3 hM => ?_⟩
              rw [e2] at hM
              have X3 := X2.step S4V.mono s3
              have nl3 : l ≠ l3 := ne_of_none X2.at_ n3
              cases hM with
              | cons hM1 hM2 =>
                cases hM2
                obtain ⟨cd, rfl, hcd⟩ := hM1
                walk_at "oh go"
                refine i_ixL hl3 rfl ?_
                walk_at "oh go"
                refine ⟨Nat.le_of_ble_eq_true rfl, fun k nk => ?_⟩
                walk_at "oh go"
                have ll := X3.len
                refine i_app (by walk_at "oh hp") (by omega) ?_
                walk_at "oh go"
                have nk2 : l2 ≠ l := nl2.symm
                refine ⟨?_, .inr ⟨rfl, _, _, _, rfl, (X3.pushN S4V.mono (y := ⟨u'.lo, u'.hi, u'.pr + y.at u'.lo, u'.st + y.st⟩) nk ⟨k, rfl, upd_same⟩).is (by rw [e1])⟩⟩
                rw [upd_ne nk2]
                exact get_new nk (s3 _ _ hl2)
            · cases e3
          · rintro σ H' ⟨_, ⟨e3, _⟩ | ⟨_, o5', o6', acc', rfl, X3⟩⟩
            · cases e3
            · walk_at "oh go"
              refine i_ixT (by walk_at "oh hp") (atI_nat hva) ?_
              walk_at "oh go"
              refine i_ixT (by walk_at "oh hp") (atI_nat hvb) ?_
              walk_at "oh go"
              refine i_dec (fun c => ?_) (fun c => ?_)
              · walk_at "oh go"
                exact (after _ _ _ _ X3 ⟨_, fun _ _ => True, fun _ _ => True, fun _ _ => True⟩ rfl).1 c
              · walk_at "oh go"
                exact (after _ _ _ _ X3 ⟨_, fun _ _ => True, fun _ _ => True, fun _ _ => True⟩ rfl).2 c
      · walk_at "oh go"
        exact ⟨_, _, rfl, X.rep, done (.inr (by omega)) ▸ rin, fun r H2 s2 h => q r H2 (X.sm.trans s2) (by unfold plus; rw [← done (.inr (by omega))]; exact h)⟩
    · walk_at "oh go"
      exact ⟨_, _, rfl, X.rep, done (.inl (by omega)) ▸ rin, fun r H2 s2 h => q r H2 (X.sm.trans s2) (by unfold plus; rw [← done (.inl (by omega))]; exact h)⟩
theorem FormIn.rows {f : Form} {r : List S4} (A : FormIn f) (fb : FB 301 6900 r) (asc : Asc r) (len : r.length ≤ 100000) : RowsIn r := ⟨fb.mono (by decide) (by decide), asc.ne, len⟩
def sp_raised : Sp := fun vs H Q _ => ∃ (v : V) (f : Form) (p : Int), vs = [v, .int p] ∧ FormV H v f ∧ FormIn f ∧ Sz 6200 p ∧ Ret H Q FormV (raised f p)
/- slots: 0 form, 1 price, 2 part (cells: price) -/
theorem sc_raised : FnScope ["form", "price", "part"] ["form", "price"] (defScope s_raised) := by walk_at "oh sc"
theorem ok_raised (T : Pg K mg) : Ok P w K mg base CX0 6 "raised" ["form", "price"] sp_raised := by
  obtain ⟨fd, F⟩ := F_raised T
  refine ⟨fd, F.ok sc_raised (fun vs H Q E h => ?_) (fun cdv A outer s H vs Q E hr h => ?_), F.binds fun _ _ _ _ _ _ us hl => (match us, hl with | [_, _], _ => rfl), F.kp, g_raised T⟩
  · obtain ⟨v, f, p, rfl, _⟩ := h
    rfl
  · obtain ⟨v, f, p, rfl, ⟨a, vs, rfl, ha, hI⟩, A, bp, q⟩ := h
    have hu := hu_of hr
    refine ⟨_, pss_one (ps_ret (pe_c0 (ok_laid T) hr (pa_cons (pe_lc (own := [("part", 2)]) (g := gName 2) rfl sc_raised.nd (pi_tup (pv 0)) (blkOk_by (own := [("part", 2)]) (N := ["form", "price", "part"]) (sc := defScope s_raised) (by decide +kernel)) (fun _ _ _ _ _ => pg_name (i := 2) sc_raised.nd rfl (Or.inl rfl)) (fun _ _ _ _ _ => pts_nil) (fun _ _ _ _ _ => (pe_tup (pa_cons (pe_ix (ixT K) (pv 2) pe_int (fun _ _ => rfl)) (pa_cons (pe_ix (ixT K) (pv 2) pe_int (fun _ _ => rfl)) (pa_cons (pe_op op_add (pe_ix (ixT K) (pv 2) pe_int (fun _ _ => rfl)) (pv 1)) (pa_cons (pe_ix (ixT K) (pv 2) pe_int (fun _ _ => rfl)) pa_nil))))))) pa_nil))), ?_⟩
    have rin : RowsIn (raisedR f p) := by
      refine ⟨(FB.raisedR A.fb bp).mono (by decide) (by decide), fun s hs => ?_, ?_⟩
      · obtain ⟨t, ht, e⟩ := List.mem_map.mp hs
        rw [← e]
        exact A.asc.ne t ht
      · unfold raisedR
        rw [List.length_map]
        exact Nat.le_trans A.len (by decide)
    walk_at "oh go"
    intro D hD
    refine lc_FT (S := S4V) (fun i => (f.take i).map fun s => (⟨s.lo, s.hi, s.pr + p, s.st⟩ : S4)) ha hI hD rfl ?_ ?_
    · rintro i x y H1 acc e ⟨b, rfl, hb⟩ X
      walk_at "oh go"
      refine ⟨rfl, ?_⟩
      walk_at "oh go"
      refine ⟨Nat.le_of_ble_eq_true rfl, fun k nk => ?_⟩
      refine made_push S4V.mono (X.step S4V.mono (same_new nk _)) (z := ⟨y.lo, y.hi, y.pr + p, y.st⟩) ⟨k, rfl, upd_same⟩ ?_ (take_map e)
      have := A.len
      rw [List.length_map, List.length_take]
      omega
    · intro H1 acc X
      rw [List.take_length] at X
      walk_at "oh go"
      exact ⟨_, _, rfl, X.rep, rin, fun r H2 s2 h => q r H2 (X.sm.trans s2) h⟩
def sp_within : Sp := fun vs H Q _ => ∃ (v : V) (f : Form) (lo hi : Int), vs = [v, .int lo, .int hi] ∧ FormV H v f ∧ FormIn f ∧ Sz 300 lo ∧ Sz 300 hi ∧ Ret H Q FormV (within f lo hi)
/- slots: 0 form, 1 low, 2 high, 3 rows, 4 part -/
theorem sc_within : FnScope ["form", "low", "high", "rows", "part"] ["form", "low", "high"] (defScope s_within) := by walk_at "oh sc"
theorem ok_within (T : Pg K mg) : Ok P w K mg base CX0 6 "within" ["form", "low", "high"] sp_within := by
  obtain ⟨fd, F⟩ := F_within T
  refine ⟨fd, F.ok sc_within (fun vs H Q E h => ?_) (fun cdv A outer s H vs Q E hr h => ?_), F.binds fun _ _ _ _ _ _ us hl => (match us, hl with | [_, _, _], _ => rfl), F.kp, g_within T⟩
  · obtain ⟨v, f, lo, hi, rfl, _⟩ := h
    rfl
  · obtain ⟨v, f, lo, hi, rfl, ⟨a, vs, rfl, ha, hI⟩, A, b1, b2, q⟩ := h
    have hu := hu_of hr
    refine ⟨_, pss_cons (ps_set (i := 3) sc_within.nd rfl (Or.inl rfl) (pe_lst pa_nil))
      (pss_cons (ps_for PassesOwn.never rfl (pi_tup (pv 0)) (pg_name (i := 4) sc_within.nd rfl (Or.inl rfl))
      (pss_one (ps_expr (pe_bm PySem.F.plainAttrs_list PySem.F.slot_list_extend PySem.F.type_list_extend mt_extend (pv 3) (pa_cons (pe_c0 (ok_clipped T) hr (pa_cons (pv 4) (pa_cons (pv 1) (pa_cons (pv 2) pa_nil)))) pa_nil)))))
      (pss_one (ps_ret (pe_c0 (ok_laid T) hr (pa_cons (pv 3) pa_nil))))), ?_⟩
    have fl := A.len
    have rin : RowsIn (withinR f lo hi) := by
      refine ⟨(FB.withinR A.fb b1 b2).mono (by decide) (by decide), (withinR_asc A.asc lo hi).ne, ?_⟩
      have := flat_le (n := 1) (g := fun s => clip s lo hi) (l := f) fun s _ => clip_le s lo hi
      unfold withinR
      omega
    walk_at "oh go"
    refine ⟨Nat.le_of_ble_eq_true rfl, fun l nl => ?_⟩
    walk_at "oh go"
    refine for_leftT hI (fun r σ H' => ∃ acc L o, σ = [some (.ref a), some (.int lo), some (.int hi), some (.ref l), o] ∧ LL S4V H l H' acc L ∧ L ++ r.flatMap (fun s => clip s lo hi) = withinR f lo hi ∧ L.length + r.length ≤ 2000 ∧ ∀ s ∈ r, s ∈ f) ⟨[], [], none, rfl, LL.new (Same.refl _) nl, rfl, by rw [List.length_nil]; omega, fun _ z => z⟩ ?_ ?_ ?_
    · rintro r σ H1 ⟨acc, L, o, rfl, X, _⟩
      exact SqT.of (X.sm _ _ ha)
    · rintro x y r σ H1 ⟨b, rfl, hb⟩ ⟨acc, L, o, rfl, X, e, n, sub⟩
      have ll := X.len
      rw [List.length_cons] at n
      rw [List.flatMap_cons, ← List.append_assoc] at e
      have by_ := A.fb y (sub y List.mem_cons_self)
      have cl := clip_le y lo hi
      walk_at "oh go"
      refine ⟨_, y, lo, hi, rfl, ⟨b, rfl, by walk_at "oh hp"⟩, by_.mono (by decide) (by decide), b1.mono (by decide), b2.mono (by decide), fun l2 ws H2 n2 s2 hl2 hK => ?_⟩
      have X2 := X.step S4V.mono s2
      have wl := hK.len
      walk_at "oh go"
      refine i_ext (by walk_at "oh hp") hl2 (by omega) ?_
      walk_at "oh go"
      exact ⟨_, _, _, rfl, X2.ext S4V.mono hK, e, by rw [List.length_append]; omega, fun s hs => sub s (List.mem_cons_of_mem _ hs)⟩
    · rintro σ H1 ⟨acc, L, o, rfl, X, e, _⟩
      rw [List.flatMap_nil, List.append_nil] at e
      subst e
      walk_at "oh go"
      exact ⟨_, _, rfl, X.rep, rin, fun r H2 s2 h => q r H2 (X.sm.trans s2) h⟩
def sp_without : Sp := fun vs H Q _ => ∃ (v : V) (f : Form), vs = [v, .int 0, .int 0] ∧ FormV H v f ∧ FormIn f ∧ Ret H Q FormV (without f 0 0)
/- slots: 0 form, 1 low, 2 high, 3 rows, 4 part -/
theorem sc_without : FnScope ["form", "low", "high", "rows", "part"] ["form", "low", "high"] (defScope s_without) := by walk_at "oh sc"
theorem ok_without (T : Pg K mg) : Ok P w K mg base CX0 6 "without" ["form", "low", "high"] sp_without := by
  obtain ⟨fd, F⟩ := F_without T
  refine ⟨fd, F.ok sc_without (fun vs H Q E h => ?_) (fun cdv A outer s H vs Q E hr h => ?_), F.binds fun _ _ _ _ _ _ us hl => (match us, hl with | [_, _, _], _ => rfl), F.kp, g_without T⟩
  · obtain ⟨v, f, rfl, _⟩ := h
    rfl
  · obtain ⟨v, f, rfl, ⟨a, vs, rfl, ha, hI⟩, A, q⟩ := h
    have hu := hu_of hr
    refine ⟨_, pss_cons (ps_if (pt_cmpR op_gt (pv 1) (pv 2) (nomark _))
      (pss_one (ps_ret (pe_c0 (ok_laid T) hr (pa_cons (pe_callTy cr_lo (by rfl) (z_list T) (by decide +kernel) (pa_cons (pv 0) pa_nil)) pa_nil))))
      pss_nil)
      (pss_cons (ps_set (i := 3) sc_without.nd rfl (Or.inl rfl) (pe_lst pa_nil))
      (pss_cons (ps_for PassesOwn.never rfl (pi_tup (pv 0)) (pg_name (i := 4) sc_without.nd rfl (Or.inl rfl))
      (pss_cons (ps_expr (pe_bm PySem.F.plainAttrs_list PySem.F.slot_list_extend PySem.F.type_list_extend mt_extend (pv 3) (pa_cons (pe_c0 (ok_clipped T) hr (pa_cons (pv 4) (pa_cons (pe_ix ix_tup (pv 4) pe_int (fun _ _ => rfl)) (pa_cons (pe_op op_sub (pv 1) pe_int) pa_nil)))) pa_nil)))
        (pss_one (ps_expr (pe_bm PySem.F.plainAttrs_list PySem.F.slot_list_extend PySem.F.type_list_extend mt_extend (pv 3) (pa_cons (pe_c0 (ok_clipped T) hr (pa_cons (pv 4) (pa_cons (pe_op op_add (pv 2) pe_int) (pa_cons (pe_ix ix_tup (pv 4) pe_int (fun _ _ => rfl)) pa_nil)))) pa_nil))))))
      (pss_one (ps_ret (pe_c0 (ok_laid T) hr (pa_cons (pv 3) pa_nil)))))), ?_⟩
    have fl := A.len
    have rin : RowsIn (withoutR f 0 0) := by
      refine ⟨(FB.withoutR A.fb (by decide)).mono (by decide) (by decide), fun s hs => ?_, ?_⟩
      · obtain ⟨u, _, hs⟩ := List.mem_flatMap.mp hs
        rcases List.mem_append.mp hs with hs | hs <;> exact (clip_in hs).2.2.2.2
      · have := flat_le (n := 2) (g := fun s => clip s s.lo (0 - 1) ++ clip s (0 + 1) s.hi) (l := f) fun s _ => by
          have h1 := clip_le s s.lo (0 - 1)
          have h2 := clip_le s (0 + 1) s.hi
          rw [List.length_append]
          omega
        unfold withoutR
        omega
    walk_at "oh go"
    refine i_dec (fun c => absurd c (by decide)) (fun _ => ?_)
    walk_at "oh go"
    refine ⟨Nat.le_of_ble_eq_true rfl, fun l nl => ?_⟩
    walk_at "oh go"
    refine for_leftT hI (fun r σ H' => ∃ acc L o, σ = [some (.ref a), some (.int 0), some (.int 0), some (.ref l), o] ∧ LL S4V H l H' acc L ∧ L ++ r.flatMap (fun s => clip s s.lo (0 - 1) ++ clip s (0 + 1) s.hi) = withoutR f 0 0 ∧ L.length + 2 * r.length ≤ 4000 ∧ ∀ s ∈ r, s ∈ f) ⟨[], [], none, rfl, LL.new (Same.refl _) nl, rfl, by rw [List.length_nil]; omega, fun _ z => z⟩ ?_ ?_ ?_
    · rintro r σ H1 ⟨acc, L, o, rfl, X, _⟩
      exact SqT.of (X.sm _ _ ha)
    · rintro x y r σ H1 ⟨b, rfl, hb⟩ ⟨acc, L, o, rfl, X, e, n, sub⟩
      have ll := X.len
      rw [List.length_cons] at n
      rw [List.flatMap_cons, ← List.append_assoc, ← List.append_assoc] at e
      have by_ := A.fb y (sub y List.mem_cons_self)
      have cl := clip_le y y.lo (0 - 1)
      have cl' := clip_le y (0 + 1) y.hi
      walk_at "oh go"
      refine ⟨_, y, y.lo, 0 - 1, rfl, ⟨b, rfl, by walk_at "oh hp"⟩, by_.mono (by decide) (by decide), by_.lo.mono (by decide), (show Sz 2 (0 - 1) by unfold Sz; decide).mono (by decide), fun l2 ws H2 n2 s2 hl2 hK => ?_⟩
      have X2 := X.step S4V.mono s2
      have wl := hK.len
      walk_at "oh go"
      refine i_ext (by walk_at "oh hp") hl2 (by omega) ?_
      have X3 := X2.ext S4V.mono hK
      have ll3 := X3.len
      rw [List.length_append (as := L)] at ll3
      have hb3 : upd H2 l (.lst (acc ++ ws)) b = some (.tup [.int y.lo, .int y.hi, .int y.pr, .int y.st]) := X3.sm _ _ hb
      generalize upd H2 l (.lst (acc ++ ws)) = H3 at X3 hb3 ⊢
      walk_at "oh go"
      refine ⟨_, y, 0 + 1, y.hi, rfl, ⟨b, rfl, by walk_at "oh hp"⟩, by_.mono (by decide) (by decide), (show Sz 2 (0 + 1) by unfold Sz; decide).mono (by decide), by_.hi.mono (by decide), fun l4 zs H4 n4 s4 hl4 hK4 => ?_⟩
      have X4 := X3.step S4V.mono s4
      have wl4 := hK4.len
      walk_at "oh go"
      refine i_ext (by walk_at "oh hp") hl4 (by omega) ?_
      walk_at "oh go"
      exact ⟨_, _, _, rfl, X4.ext S4V.mono hK4, e, by rw [List.length_append, List.length_append]; omega, fun s hs => sub s (List.mem_cons_of_mem _ hs)⟩
    · rintro σ H1 ⟨acc, L, o, rfl, X, e, _⟩
      rw [List.flatMap_nil, List.append_nil] at e
      subst e
      walk_at "oh go"
      exact ⟨_, _, rfl, X.rep, rin, fun r H2 s2 h => q r H2 (X.sm.trans s2) h⟩
end
end OH
set_option Elab.async false
set_option linter.all false
set_option maxRecDepth 100000
set_option maxHeartbeats 4000000
namespace OH
open PySem PySem.Spec PyProof.Rows L2
/-- a known object: through what has changed since -/
local macro_rules | `(tactic| walk_at "oh hp") => `(tactic| first | assumption | exact upd_same | (refine get_new (by assumption) ?_; walk_at "oh hp") | (refine get_mut (by assumption) ?_ (by intro z; cases z); walk_at "oh hp") | (refine same_get (by assumption) ?_; walk_at "oh hp") | (refine ts_get (by assumption) ?_; walk_at "oh hp") | (refine same_get (LL.sm (by assumption)) ?_; walk_at "oh hp") | exact LL.at_ (by assumption))
local macro_rules | `(tactic| walk_at "oh sc") => `(tactic| exact ⟨rfl, rfl, rfl, by decide +kernel, rfl, by decide +kernel, by decide +kernel⟩)
/-- one step of a reading -/
local macro_rules | `(tactic| walk_at "oh 1") => `(tactic| with_reducible first
  | refine i_var rfl ?_ | refine i_c ?_ | refine i_op ?_ | refine i_I0 ?_ | refine i_cons ?_ | refine i_nil ?_ | refine i_asg ?_ | refine i_name ?_ | refine i_seq ?_ | refine i_ifS ?_ | refine i_test ?_ | refine i_bl ?_ | refine i_call ?_ | refine i_CB ?_
  | refine i_tup ?_ | refine i_lst ?_ | refine i_eqI ?_ | refine i_eqS ?_ | refine i_neI ?_ | refine i_un ?_ | refine i_U ?_ | refine i_ret ?_ | refine i_retN ?_ | refine i_next ?_ | refine i_cont ?_ | refine i_drop ?_ | refine i_B ?_ | refine i_and ?_ | refine i_or ?_ | refine i_not ?_ | refine i_mn ?_ | refine i_mx ?_ | refine i_isN ?_ | refine i_notN ?_ | refine i_bm ?_ | refine i_bm0 ?_ | refine i_rn ?_ | refine i_nn ?_ | refine i_rn' ?_ | refine i_nn' ?_ | refine i_gcons ?_ | refine i_gnil ?_ | refine i_orV ?_ | refine i_andV ?_ | refine i_notV ?_ | refine i_chain ?_ | refine i_forL ?_ | refine i_iL ?_ | refine i_iT ?_ | refine i_lc ?_ | refine i_yes ?_ | refine i_aug rfl ?_ | refine i_ip ?_ | refine iteT ?_ | refine iteF ?_ | refine i_nT ?_ | refine i_nF ?_)
local macro_rules | `(tactic| walk_at "oh 2") => `(tactic| first | ((with_reducible refine' i_ixT ?h ?e ?q); (case h => walk_at "oh hp"); (case e => rfl)) | ((with_reducible refine' i_gtup ?h ?e ?q); (case h => walk_at "oh hp"); (case e => rfl)) | ((with_reducible refine' i_atL ?h ?q); (case h => walk_at "oh hp")) | ((with_reducible refine' i_atT ?h ?q); (case h => walk_at "oh hp")) | ((with_reducible refine' i_tyL ?h ?q); (case h => walk_at "oh hp")) | ((with_reducible refine' i_lnL ?h ?q); (case h => walk_at "oh hp")) | ((with_reducible refine' i_lnT ?h ?q); (case h => walk_at "oh hp")))
local macro_rules | `(tactic| walk_at "oh go") => `(tactic| repeat first | walk_at "oh 1" | walk_at "oh 2")
section
variable {P : Program} {w : World} {K : PySem.W.Frag} {mg : Str → Option Value} {base : Heap}
def sp_freed : Sp := fun vs H Q _ => ∃ (v : V) (f : Form) (c : Int), vs = [v, .int c] ∧ FormV H v f ∧ FormIn f ∧ 0 ≤ c ∧ Sz 300 c ∧ Ret H Q FormV (freed f c)
/- slots: 0 form, 1 count, 2 rows, 3 price, 4 part, 5 low, 6 high, 7 cost, 8 step -/
theorem sc_freed : FnScope ["form", "count", "rows", "price", "part", "low", "high", "cost", "step"] ["form", "count"] (defScope s_freed) := by walk_at "oh sc"
theorem ok_freed (T : Pg K mg) : Ok P w K mg base CX0 6 "freed" ["form", "count"] sp_freed := by
  obtain ⟨fd, F⟩ := F_freed T
  refine ⟨fd, F.ok sc_freed (fun vs H Q E h => ?_) (fun cdv A outer s H vs Q E hr h => ?_), F.binds fun _ _ _ _ _ _ us hl => (match us, hl with | [_, _], _ => rfl), F.kp, g_freed T⟩
  · obtain ⟨v, f, c, rfl, _⟩ := h
    rfl
  · obtain ⟨v, f, c, rfl, ⟨a, vs, rfl, ha, hI⟩, A, c0, bc, q⟩ := h
    have hu := hu_of hr
    refine ⟨_, pss_cons (ps_set (i := 2) sc_freed.nd rfl (Or.inl rfl) (pe_lst pa_nil))
      (pss_cons (ps_set (i := 3) sc_freed.nd rfl (Or.inl rfl) (pe_c0 (ok_cost_at T) hr (pa_cons (pv 0) (pa_cons pe_int pa_nil))))
      (Evl.pss_cut (ps_if (pt_cmpR op_notN1 (pv 3) pe_non (nomark _))
      (pss_one (ps_expr (pe_bm PySem.F.plainAttrs_list PySem.F.slot_list_append PySem.F.type_list_append mt_append (pv 2) (pa_cons (pe_tup (pa_cons pe_int (pa_cons (pv 1) (pa_cons (pv 3) (pa_cons pe_int pa_nil))))) pa_nil))))
      pss_nil)
      (pss_cons (ps_for PassesOwn.never rfl (pi_tup (pv 0)) (pg_name (i := 4) sc_freed.nd rfl (Or.inl rfl))
      (pss_one (ps_for PassesOwn.never rfl (pi_list (pe_c0 (ok_clipped T) hr (pa_cons (pv 4) (pa_cons pe_int (pa_cons (pe_ix ix_tup (pv 4) pe_int (fun _ _ => rfl)) pa_nil))))) (pg_tup rfl (pgs_cons (pg_name (i := 5) sc_freed.nd rfl (Or.inl rfl)) (pgs_cons (pg_name (i := 6) sc_freed.nd rfl (Or.inl rfl)) (pgs_cons (pg_name (i := 7) sc_freed.nd rfl (Or.inl rfl)) (pgs_cons (pg_name (i := 8) sc_freed.nd rfl (Or.inl rfl)) pgs_nil)))))
        (pss_one (ps_expr (pe_bm PySem.F.plainAttrs_list PySem.F.slot_list_append PySem.F.type_list_append mt_append (pv 2) (pa_cons (pe_tup (pa_cons (pe_op op_add (pv 5) (pv 1)) (pa_cons (pe_op op_add (pv 6) (pv 1)) (pa_cons (pv 7) (pa_cons (pv 8) pa_nil))))) pa_nil)))))))
      (pss_one (ps_ret (pe_c0 (ok_laid T) hr (pa_cons (pv 2) pa_nil))))))), ?_⟩
    have fl := A.len
    have rin : RowsIn (freedR f c) := by
      refine ⟨(FB.freedR A.fb A.asc (by decide) bc).mono (by decide) (by decide), fun s hs => ?_, ?_⟩
      · unfold freedR freedHead at hs
        rcases List.mem_append.mp hs with hs | hs
        · split at hs
          · cases hs
          · rw [List.mem_singleton.mp hs]
            exact c0
        · obtain ⟨u, _, hs⟩ := List.mem_flatMap.mp hs
          obtain ⟨t, ht, e⟩ := List.mem_map.mp hs
          have := (clip_in ht).2.2.2.2
          rw [← e]
          show t.lo + c ≤ t.hi + c
          omega
      · have h1 : (freedHead f c).length ≤ 1 := by unfold freedHead; split <;> simp
        have h2 := flat_le (n := 1) (g := fun s => (clip s 1 s.hi).map (shift c)) (l := f) fun s _ => by rw [List.length_map]; exact clip_le s _ _
        unfold freedR
        rw [List.length_append]
        omega
    walk_at "oh go"
    refine ⟨Nat.le_of_ble_eq_true rfl, fun l nl => ?_⟩
    walk_at "oh go"
    refine ⟨_, f, 0, rfl, ⟨a, vs, rfl, by walk_at "oh hp", hI.mono S4V.mono (ts_new nl _)⟩, A.fb.mono (by decide) (by decide), (show Sz 1 0 by unfold Sz; decide).mono (by decide), fun H2 s2 => ?_⟩
    have X : LL S4V H l H2 [] [] := (LL.new (Same.refl _) nl).step S4V.mono s2
    refine i_cut (fun σ' H' => ∃ acc o3, σ' = [some (.ref a), some (.int c), some (.ref l), o3, none, none, none, none, none] ∧ LL S4V H l H' acc (freedHead f c)) ?_ ?_
    · walk_at "oh go"
      cases e : costAt f 0 with
      | none =>
        have e1 : freedHead f c = [] := by unfold freedHead; rw [e]
        unfold optV
        walk_at "oh go"
        exact ⟨_, _, rfl, X.is e1.symm⟩
      | some p =>
        have e1 : freedHead f c = [⟨0, c, p, 0⟩] := by unfold freedHead; rw [e]
        unfold optV
        walk_at "oh go"
        refine iteT ?_
        walk_at "oh go"
        refine ⟨Nat.le_of_ble_eq_true rfl, fun k nk => ?_⟩
        walk_at "oh go"
        refine i_app (by walk_at "oh hp") (Nat.le_of_ble_eq_true rfl) ?_
        walk_at "oh go"
        exact ⟨_, _, rfl, (X.pushN S4V.mono (y := ⟨0, c, p, 0⟩) nk ⟨k, rfl, upd_same⟩).is (by rw [e1]; rfl)⟩
    rintro σ1 H3 ⟨acc0, o3, rfl, X3⟩
    walk_at "oh go"
    have hl0 : (freedHead f c).length ≤ 1 := by unfold freedHead; split <;> simp
    refine for_leftT hI (fun r σ H' => ∃ acc L o4 o5 o6 o7 o8, σ = [some (.ref a), some (.int c), some (.ref l), o3, o4, o5, o6, o7, o8] ∧ LL S4V H l H' acc L ∧ L ++ r.flatMap (fun s => (clip s 1 s.hi).map (shift c)) = freedR f c ∧ L.length + r.length ≤ 2001 ∧ ∀ s ∈ r, s ∈ f)
      ⟨_, _, none, none, none, none, none, rfl, X3, rfl, by omega, fun _ z => z⟩ ?_ ?_ ?_
    · rintro r σ H1 ⟨acc, L, o4, o5, o6, o7, o8, rfl, X, _⟩
      exact SqT.of (X.sm _ _ ha)
    · rintro x y r σ H1 ⟨b, rfl, hb⟩ ⟨acc, L, o4, o5, o6, o7, o8, rfl, X, e, n, sub⟩
      have ll := X.len
      rw [List.length_cons] at n
      rw [List.flatMap_cons, ← List.append_assoc] at e
      have by_ := A.fb y (sub y List.mem_cons_self)
      have cl := clip_le y 1 y.hi
      walk_at "oh go"
      refine ⟨_, y, 1, y.hi, rfl, ⟨b, rfl, by walk_at "oh hp"⟩, by_.mono (by decide) (by decide), (show Sz 2 1 by unfold Sz; decide).mono (by decide), by_.hi.mono (by decide), fun l2 ws H4 n4 s4 hl4 hK => ?_⟩
      have X4 := X.step S4V.mono s4
      have nl2 : l ≠ l2 := ne_of_none X.at_ n4
      walk_at "oh go"
      refine for_left hK (fun r' σ H' => ∃ acc L' o5 o6 o7 o8, σ = [some (.ref a), some (.int c), some (.ref l), o3, some (.ref b), o5, o6, o7, o8] ∧ LL S4V H l H' acc L' ∧ H' l2 = some (.lst ws) ∧ TS' H4 H' ∧ L' ++ r'.map (shift c) = L ++ (clip y 1 y.hi).map (shift c) ∧ L'.length + r'.length = L.length + (clip y 1 y.hi).length)
        ⟨_, _, _, _, _, _, rfl, X4, hl4, TS'.refl _, rfl, rfl⟩ ?_ ?_ ?_
      · rintro r' σ H' ⟨acc, L', o5, o6, o7, o8, rfl, X5, h5, _⟩
        exact SqL.of h5
      · rintro z u r' σ H' ⟨d, rfl, hd⟩ ⟨acc, L', o5, o6, o7, o8, rfl, X5, h5, t5, e5, n5⟩
        have l5 := X5.len
        have hd5 := t5 _ _ hd
        rw [List.length_cons] at n5
        walk_at "oh go"
        refine ⟨Nat.le_of_ble_eq_true rfl, fun k nk => ?_⟩
        walk_at "oh go"
        refine i_app (by walk_at "oh hp") (by omega) ?_
        walk_at "oh go"
        refine ⟨_, _, _, _, _, _, rfl, X5.pushN S4V.mono (y := shift c u) nk ⟨k, rfl, upd_same⟩, ?_, t5.trans ((ts_new nk _).trans (ts_mut (get_new nk X5.at_) _)), ?_, ?_⟩
        · rw [upd_ne nl2.symm]
          exact get_new nk h5
        · rw [List.append_assoc]
          exact e5
        · rw [List.length_append]
          show L'.length + 1 + r'.length = _
          omega
      · rintro σ H' ⟨acc, L', o5, o6, o7, o8, rfl, X5, h5, t5, e5, n5⟩
        have e5' : L' = L ++ (clip y 1 y.hi).map (shift c) := by rw [← e5, List.map_nil, List.append_nil]
        refine ⟨_, _, _, _, _, _, _, rfl, X5, by rw [e5']; exact e, ?_, fun s hs => sub s (List.mem_cons_of_mem _ hs)⟩
        rw [List.length_nil] at n5
        omega
    · rintro σ H1 ⟨acc, L, o4, o5, o6, o7, o8, rfl, X, e, _⟩
      rw [List.flatMap_nil, List.append_nil] at e
      subst e
      walk_at "oh go"
      exact ⟨_, _, rfl, X.rep, rin, fun r H2 s2 h => q r H2 (X.sm.trans s2) h⟩
end
end OH
set_option Elab.async false
set_option linter.all false
set_option maxRecDepth 100000
set_option maxHeartbeats 4000000
/-! Sets made of lists, for any kind of keys; sorted(set(..)) and len(set(..)). -/
namespace OH
open PySem PySem.Spec PyProof.Rows L2
/-- keys and their values -/
structure KD (P : Program) (w : World) (κ : Type) [DecidableEq κ] where
  knd : PySem.KeyKind P w κ
  val : κ → Tok → Value
  dec : Value → κ
  vv : κ → V
  ord : List κ → Prop
  is_val : ∀ k t, knd.is k (val k t) = true
  scan : ∀ k t, (val k t).scannable = true
  dec_val : ∀ k t, dec (val k t) = k
  rel : ∀ k u, RelV (vv k) u → ∃ t, u = val k t
  rel' : ∀ k t, RelV (vv k) (val k t)
  sort : ∀ {A : Around} {E : Value → Shared → Prop} {s : Shared} {a : Addr} {vs : List Value} {ns : List κ} {n : Nat} {R : PySem.Fin → Shared → Prop}, s.heap.get? a = some (seqObj "list" vs.toArray n) →
    Paired (fun v k => ∃ t, v = val k t) vs ns → vs.length ≤ sizeLine → (∀ (out : Array Value) (ns' : List κ), Paired (fun v k => ∃ t, v = val k t) out.toList ns' → ns'.Perm ns → ord ns' → R (.done (.ret .none)) { s with heap := sortedHeap s.heap a vs out }) →
    wpAny (model P w) A (Builtin.«list.sort» ⟨[.ref a], []⟩) R E s
section
variable {P : Program} {w : World} {κ : Type} [DecidableEq κ] (D : KD P w κ) {A : Around} {E : Value → Shared → Prop} {s : Shared}
abbrev KD.Are (vs : List Value) (ns : List κ) : Prop := Paired (fun v k => ∃ t, v = D.val k t) vs ns
/-- the set at a of just these keys -/
def SetG (h : Heap) (a : Addr) (xs : List κ) : Prop :=
  ∃ o es ep t, h.get? a = some o ∧ o.ExactSet ∧ o.data = .set es ep t ∧ (∀ e ∈ es.toList, ∃ k tk, e = (D.knd.hash k, D.val k tk)) ∧ (es.toList.map fun e => D.dec e.2).Perm xs ∧ xs.Nodup ∧
    xs.length < scanBound ∧ t.fits es.size = true ∧ Ris t.place.toList ∧ (w.params.followText "set-order" = true ∨ t.led = true)
variable {D}
theorem SetG.at {h h' : Heap} {a : Addr} {xs : List κ} (R : SetG D h a xs) (k : ∀ o, h.get? a = some o → h'.get? a = some o) : SetG D h' a xs := by
  obtain ⟨o, es, ep, t, ho, r⟩ := R
  exact ⟨o, es, ep, t, k o ho, r⟩
theorem elems_of {l : List (Int × Value)} (g : ∀ e ∈ l, ∃ k tk, e = (D.knd.hash k, D.val k tk)) : ElemsOf D.knd l := fun e he => by
  obtain ⟨k, tk, rfl⟩ := g e he
  exact ⟨⟨k, D.is_val k tk, rfl⟩, D.scan k tk⟩
theorem key_iff (k k' : κ) (t : Tok) : D.knd.is k (D.val k' t) = true ↔ k' = k :=
  ⟨fun h => D.knd.inj _ _ _ (D.is_val k' t) h, fun e => e ▸ D.is_val k t⟩
/-- what a set becomes when a table is laid anew or grows -/
theorem setG_new {h : Heap} {a : Addr} {o : Obj} {es es' : Array (Int × Value)} {ep : Nat} {t t' : SetTable} {xs : List κ} (ho : h.get? a = some o) (hx : o.ExactSet) (hd : o.data = .set es ep t)
    (g : ∀ e ∈ es'.toList, ∃ k tk, e = (D.knd.hash k, D.val k tk)) (pm : (es'.toList.map fun e => D.dec e.2).Perm xs) (nd : xs.Nodup) (hb : xs.length < scanBound) (hf : t'.fits es'.size = true) (hr : Ris t'.place.toList) (hl : w.params.followText "set-order" = true ∨ t'.led = true) :
    SetG D (h.update a (Obj.putSet es' t')) a xs := ⟨_, es', ep + 1, t', store_at ho hd, hx, rfl, g, pm, nd, hb, hf, hr, hl⟩
theorem gave_way (c : String) (b : Bool) {s₁ : Shared} {Q' : Unit → Shared → Prop} (q : Q' () s₁) : wpAny (model P w) A (match b with | true => rule c | false => pure ()) Q' E s₁ := by
  cases b
  · exact wpAny_pure q
  · exact wpAny_rule q
theorem SetG.add {a : Addr} {xs : List κ} {k : κ} {tk : Tok} {Q : Bool → Shared → Prop} (R : SetG D s.heap a xs) (room : xs.length + 1 < scanBound)
    (q : ∀ h' ys b, Heap.SameBut a s.heap h' → SetG D h' a ys → ys.length ≤ xs.length + 1 → (∀ z, z ∈ ys ↔ z ∈ xs ∨ z = k) → Q b { s with heap := h' }) :
    wpAny (model P w) A (setAddHashed a (D.val k tk) (D.knd.hash k)) Q E s := by
  obtain ⟨o, es, ep, t, ho, hx, hd, g, pm, nd, hb, hf, hr, hl⟩ := R
  have sz : es.size = xs.length := by rw [← pm.length_eq, List.length_map, Array.length_toList]
  have hb0 : es.size < scanBound := by omega
  have el := elems_of g
  unfold setAddHashed setAddHashedIn
  refine wpAny_holding (wpAny_bind (wpAny_setState_of ho hd hf ?_))
  dsimp only
  rw [byScan_of (D.scan k tk) hb0 el]
  simp only [↓reduceIte]
  unfold setAddByScan
  refine wpAny_bind (wpAny_bind (wpAny_rule (wpAny_bind (wpAny_setScan_of (D.is_val k tk) ho hd hf el ?_))))
  cases fi : List.findIdx? (fun e => D.knd.is k e.2) es.toList with
  | some j =>
    dsimp only
    obtain ⟨hj, pj, _⟩ := List.findIdx?_eq_some_iff_getElem.mp fi
    have mem : k ∈ xs := by
      refine pm.mem_iff.mp (List.mem_map.mpr ⟨es.toList[j], List.getElem_mem hj, ?_⟩)
      obtain ⟨k', t', e⟩ := g _ (List.getElem_mem hj)
      rw [e] at pj ⊢
      rw [D.dec_val]
      exact (key_iff k k' t').mp pj
    refine wpAny_pure (wpAny_pure (q s.heap xs _ (Heap.SameBut.refl a s.heap) ⟨o, es, ep, t, ho, hx, hd, g, pm, nd, hb, hf, hr, hl⟩ (Nat.le_succ _) fun z => ⟨.inl, fun z => z.elim id fun e => e ▸ mem⟩))
  | none =>
    dsimp only
    have new : k ∉ xs := fun m => by
      obtain ⟨e, he, ek⟩ := List.mem_map.mp (pm.mem_iff.mpr m)
      obtain ⟨k', t', rfl⟩ := g e he
      have c := List.findIdx?_eq_none_iff.mp fi _ he
      rw [D.dec_val] at ek
      rw [(key_iff k k' t').mpr ek] at c
      cases c
    have lp := layNew_perm t es (D.knd.hash k) (D.val k tk)
    have lf := layNew_fits t es (D.knd.hash k) (D.val k tk)
    have lr := layNew_ris t es (D.knd.hash k) (D.val k tk) hr
    have ll := layNew_led t es (D.knd.hash k) (D.val k tk)
    generalize layNew t es (D.knd.hash k) (D.val k tk) = Z at lp lf lr ll ⊢
    obtain ⟨es1, t1, wasDummy, gave⟩ := Z
    dsimp only at lp lf lr ll ⊢
    rw [Array.toList_push] at lp
    have lq := lp.trans (List.perm_append_singleton _ _)
    have g1 : ∀ e ∈ es1.toList, ∃ k tk, e = (D.knd.hash k, D.val k tk) := fun e he => by
      rcases List.mem_cons.mp (lq.mem_iff.mp he) with z | z
      · exact ⟨k, tk, z⟩
      · exact g e z
    have p1 : (es1.toList.map fun e => D.dec e.2).Perm (k :: xs) := by
      have := lq.map fun e => D.dec e.2
      rw [List.map_cons] at this
      simp only [D.dec_val] at this
      exact this.trans (List.Perm.cons k pm)
    have n1 : (k :: xs).Nodup := List.nodup_cons.mpr ⟨new, nd⟩
    have b1 : (k :: xs).length < scanBound := room
    have s1 : es1.size < scanBound := by
      have := p1.length_eq
      rw [List.length_map, Array.length_toList] at this
      rw [this]
      exact b1
    have l1 : w.params.followText "set-order" = true ∨ t1.led = true := hl.imp id fun z => by rw [ll]; exact z
    have fin : ∀ (h' : Heap) (b : Bool), Heap.SameBut a s.heap h' → SetG D h' a (k :: xs) → Q b { s with heap := h' } := fun h' b sb r =>
      q h' _ b sb r (Nat.le_refl _) fun z => by rw [List.mem_cons]; exact Or.comm
    have fin2 : ∀ (t2 : SetTable) (c : String), t2.fits es1.size = true → Ris t2.place.toList → (w.params.followText "set-order" = true ∨ t2.led = true) → ∀ (wd : Bool) (T : Option Bool → Shared → Prop),
        (∀ h', Heap.SameBut a s.heap h' → SetG D h' a (k :: xs) → T (some true) { s with heap := h' }) →
        wpAny (model P w) A (do
          storeSet a es1 t2
          if (!wd && t2.tooFull) = true then do
            (match (relayAll t2 es1 (SetTable.grown es1.size)).2.2 with | true => rule c | false => pure ())
            storeSet a (relayAll t2 es1 (SetTable.grown es1.size)).1 (relayAll t2 es1 (SetTable.grown es1.size)).2.1
            pure (some true)
          else pure (some true)) T E s := by
      intro t2 c f2 r2 l2 wd T hT
      refine wpAny_bind (wpAny_storeSet_of ho hd ?_ (fits_of_scanBound s1))
      have ho1 := store_at (es' := es1) (t' := t2) ho hd
      have sb1 := Heap.SameBut.update s.heap a (Obj.putSet es1 t2)
      split
      · have rp := relayAll_perm t2 es1 (SetTable.grown es1.size)
        have rf := relayAll_fits t2 es1 (SetTable.grown es1.size)
        have rr := relayAll_ris t2 es1 (SetTable.grown es1.size)
        have rl := relayAll_led t2 es1 (SetTable.grown es1.size)
        generalize relayAll t2 es1 (SetTable.grown es1.size) = Y at rp rf rr rl ⊢
        obtain ⟨es2, t3, gv⟩ := Y
        dsimp only at rp rf rr rl ⊢
        have z2 : es2.size = es1.size := by rw [← Array.length_toList, rp.length_eq, Array.length_toList]
        refine wpAny_bind (gave_way c _ ?_)
        refine wpAny_bind (wpAny_storeSet_of ho1 rfl ?_ (fits_of_scanBound (z2 ▸ s1)))
        exact wpAny_pure (hT _ (sb1.trans (Heap.SameBut.update _ a _)) (setG_new ho1 hx rfl (fun e he => g1 e (rp.mem_iff.mp he)) ((rp.map _).trans p1) n1 b1 rf rr (l2.imp id fun z => by rw [rl]; exact z)))
      · exact wpAny_pure (hT _ sb1 (setG_new ho hx hd g1 p1 n1 b1 f2 r2 l2))
    refine wpAny_bind (gave_way _ _ ?_)
    split
    · refine wpAny_bind ?_
      rw [hashByValue_scannable 8 (D.scan k tk)]
      refine wpAny_pure ?_
      refine fin2 _ _ ?_ ?_ ?_ _ _ fun h' sb r => ?_
      · split
        · exact lf
        · exact SetTable.fits_plain_off lf
      · split <;> exact lr
      · split <;> exact l1
      · dsimp only
        exact wpAny_pure (fin h' true sb r)
    · refine wpAny_bind (wpAny_pure ?_)
      simp only [↓reduceIte]
      refine fin2 _ _ lf lr l1 _ _ fun h' sb r => ?_
      dsimp only
      exact wpAny_pure (fin h' true sb r)
/-- set.update's turns -/
theorem setG_turns {I : Addr} {fp wr : List Addr} {G : Array GenState → Array GenState → Prop} {n : Nat} {Pv : Nat → Value → Prop} {St : Nat → Shared → Prop} {R : Result → Shared → Prop}
    (W : WalksS P w A.in1 I fp wr G n Pv St) (S : Addr) (hSf : S ∉ fp) (ns : List κ) (hn : n = ns.length) (hb : ns.length + 1 < scanBound) (hv : ∀ i v, Pv i v → ∃ k t, ns[i]? = some k ∧ v = D.val k t)
    (hR : ∀ (s0 s' : Shared) xs, Moved (S :: wr) G s0 s' → xs.length ≤ n → SetG D s'.heap S xs → (∀ z, z ∈ xs ↔ z ∈ ns) → s0 = s → R (.ok (.ret .none)) s') :
    ∀ (k i : Nat) (s1 : Shared), n - i = k → i ≤ n → St i s1 → (∀ s', Moved (S :: wr) G s1 s' → Moved (S :: wr) G s s') → (∃ xs, xs.length ≤ i ∧ SetG D s1.heap S xs ∧ ∀ z, z ∈ xs ↔ z ∈ ns.take i) →
      codeAny (model P w) A (.builtin "set.update.loop" ⟨[.ref S, .ref I], []⟩) R s1 := by
  have hw : S ∉ wr := fun h => hSf (W.sub _ h)
  have sub : ∀ b ∈ wr, b ∈ S :: wr := fun b hb => List.mem_cons_of_mem _ hb
  intro k
  induction k with
  | zero =>
    rintro i s1 e hi st tr ⟨xs, hx, R1, m1⟩
    obtain rfl : i = n := by omega
    refine codeAny_builtin F.entry_set_update_loop ?_
    rw [Around.under_plainId F.plain_set_update_loop _]
    show wpAny _ A.in1 (pyNext (.ref I) >>= _) _ _ s1
    refine wpAny_bind (W.done s1 _ _ st fun s2 hm => wpAny_pure ?_)
    rw [List.take_of_length_le (by omega)] at m1
    exact hR s s2 xs (tr s2 (hm.mono sub)) hx (R1.at fun o e => hm.heap S o hw e) m1 rfl
  | succ k ih =>
    rintro i s1 e hi st tr ⟨xs, hx, R1, m1⟩
    have lt : i < n := by omega
    refine codeAny_builtin F.entry_set_update_loop ?_
    rw [Around.under_plainId F.plain_set_update_loop _]
    show wpAny _ A.in1 (pyNext (.ref I) >>= _) _ _ s1
    refine wpAny_bind (W.item i s1 _ _ lt st fun v s2 hP st2 hm => ?_)
    obtain ⟨z, t, hz, rfl⟩ := hv i v hP
    have R2 : SetG D s2.heap S xs := R1.at fun o e => hm.heap S o hw e
    show wpAny _ A.in1 (holding [D.val z t] (setAdd S (D.val z t)) >>= _) _ _ s2
    refine wpAny_bind (wpAny_holding ?_)
    unfold setAdd
    refine wpAny_holding (wpAny_bind (D.knd.pyHash (D.is_val z t) ?_))
    refine R2.add (s := { s2 with toks := s2.toks + 1 }) (by omega) fun h' ys b sb R3 ly m3 => ?_
    have moved : Moved (S :: wr) G s1 { s2 with heap := h', toks := s2.toks + 1 } := (hm.mono sub).then_heap (Nat.le_succ _) fun c o hc e => by
      rw [sb.2 c (fun e' : c = S => hc (by rw [e']; exact List.mem_cons_self))]
      exact e
    refine wpAny_pure ⟨plainId_quiet F.plain_set_update_loop _, ih (i + 1) _ (by omega) lt (W.frame _ s2 _ _ st2 (Nat.le_succ _) fun c hc o e => ?_) (fun s3 m => tr s3 (Moved.trans W.gtrans moved m)) ⟨ys, by omega, R3, fun y => ?_⟩⟩
    · rw [sb.2 c (fun e' : c = S => hSf (e' ▸ hc))]
      exact e
    · rw [m3, m1, List.take_add_one, hz]
      simp [List.mem_append]
/-- set(a list) -/
theorem call_setG {l : Addr} {items : Array Value} {ns : List κ} {Q : Value → Shared → Prop} (hh : A.handled = none) (hl : s.heap.IsList l items) (hi : D.Are items.toList ns) (hb : ns.length + 1 < scanBound)
    (h : ∀ (h' : Heap) (tk : Nat) (xs : List κ), SetG D h' s.heap.objs.size xs → xs.length ≤ ns.length → (∀ z, z ∈ xs ↔ z ∈ ns) → (∀ b o, s.heap.get? b = some o → h'.get? b = some o) → Q (.ref s.heap.objs.size) { s with heap := h', toks := tk }) :
    wpAny (model P w) A (call (.type "set") [.ref l]) Q E s := by
  have sz : items.size = ns.length := by
    rw [← Paired.length hi, Array.length_toList]
  obtain ⟨c, tl, hmro⟩ := F.called_set.mro
  have q1 := F.called_set.made
  have q2 := F.called_set.sub
  have q3 := F.called_set.notType
  have q4 := F.called_set.canCreate
  have q5 := F.typeCall_set_1 (.ref l)
  generalize e0 : ({ cls := .type "set", dict := none, data := .set #[] 0 (.fresh 0 0 (!w.params.followText "set-order")) } : Obj) = o0
  have got : (s.heap.push o0).get? s.heap.objs.size = some o0 := Heap.get?_push_size _ (by rw [← e0]; rfl)
  have c0 : o0.cls = .type "set" := by rw [← e0]
  refine wpAny_call (codeAny_of_tree ?_)
  show wpAny _ _ (callAny (.type "set") _) _ _ _
  refine wpAny_pure ⟨Code.quiet_builtin _ (by decide +kernel), codeAny_builtin F.entry_type_call ?_⟩
  rw [Around.under_plain (weight_type_call_type "set" [.ref l] []) rfl]
  repeat (any_goals (first | assumption | wp_step))
  refine codeAny_mono (code_set_led1 (.ref l) (E := E) (Q₁ := fun v s₁ => v = .ref s.heap.objs.size ∧ s₁ = { s with heap := s.heap.push o0 }) ⟨rfl, by rw [e0]⟩) fun r s₁ hr => ?_
  match r, hr with
  | .error e, hr => exact hr
  | .ok (.ret v), hr =>
    obtain ⟨rfl, rfl⟩ := hr
    have ty : Shared.TypeIs { s with heap := s.heap.push o0 } (.ref s.heap.objs.size) "set" := ⟨o0, got, c0⟩
    have q6 := F.called_set.init.lookup
    have q7 := F.called_set.init.bind (.ref s.heap.objs.size)
    repeat (any_goals (first | assumption | wp_step))
    refine codeAny_mono (codeAny_call_builtin (R := wants (fun r s₂ => r = .none ∧ ∃ h' tk xs, s₂ = { s with heap := h', toks := tk } ∧ SetG D h' s.heap.objs.size xs ∧ xs.length ≤ ns.length ∧ (∀ z, z ∈ xs ↔ z ∈ ns) ∧
      ∀ b o, s.heap.get? b = some o → h'.get? b = some o) E) F.called_set.init.plain F.entry_set_init (check_set_init_1 ty ?_)) fun r₂ s₂ hr₂ => ?_
    · obtain ⟨⟨ocls, odict, odata, oslots⟩, hol, hcl, nl, hdl⟩ := hl
      simp only at hcl hdl
      subst hcl
      subst hdl
      have hol' : (s.heap.push o0).get? l = some { cls := .type "list", dict := odict, data := .seq items nl, slots := oslots } := Heap.get?_push_of_some _ hol
      have q8 := F.sub_list_set
      have q9 := F.sub_list_frozenset
      have q10 : (Value.type "list" == Value.type "dict") = false := by decide
      have il : (s.heap.push o0).IsList l items := ⟨_, hol', rfl, nl, rfl⟩
      subst e0
      unfold Builtin.«set.__init__» noKeywords Builtin.Frozenset.updateFrom
      generalize hPI : pyIter = PI
      wp_walk
      subst hPI
      refine wpAny_pyIter_list il ?_
      refine wpAny_bind (wpAny_runValue ?_)
      have ll : l < s.heap.objs.size := Heap.lt_size hol
      have h3 : A.in1.in1.in1.handled = none := by simp [hh]
      have z1 : ∀ o : Obj, (s.heap.push o).objs.size = s.heap.objs.size + 1 := fun o => Heap.size_push ..
      have ne1 : ∀ o : Obj, l ≠ (s.heap.push o).objs.size := fun o => by
        rw [z1]
        exact Nat.ne_of_lt (Nat.lt_succ_of_lt ll)
      have nf : ∀ o : Obj, s.heap.objs.size ∉ [(s.heap.push o).objs.size, l] := fun o => by
        rw [z1]
        simp only [List.mem_cons, List.not_mem_nil, or_false, not_or]
        exact ⟨Nat.ne_of_lt (Nat.lt_succ_self _), Nat.ne_of_gt ll⟩
      have hv : ∀ (i : Nat) (v : Value), items[i]? = some v → ∃ k t, ns[i]? = some k ∧ v = D.val k t := fun i v e => by
        have gen : ∀ {vs : List Value} {ks : List κ} {i : Nat} {v : Value}, D.Are vs ks → vs[i]? = some v → ∃ k t, ks[i]? = some k ∧ v = D.val k t := by
          intro vs ks i v r
          induction r generalizing i with
          | nil => intro e; simp at e
          | cons a t ih =>
            intro e
            cases i with
            | zero =>
              obtain ⟨tk, rfl⟩ := a
              simp at e
              exact ⟨_, tk, rfl, e.symm⟩
            | succ i => exact ih (by simpa using e)
        exact gen hi (by rw [Array.getElem?_toList]; exact e)
      refine setG_turns (A := A.in1.in1) ((Walks.list h3 _ l (ne1 _) items).toS) s.heap.objs.size (nf _) ns sz hb hv (s := { s with heap := (s.heap.push _).push _, toks := _ }) ?last (items.size - 0) 0 _ (by omega) (Nat.zero_le _) ⟨⟨_, Heap.get?_push_size _ rfl, rfl, rfl⟩, il.push _⟩ (fun s' m => m)
        ⟨[], Nat.le_refl _, ⟨_, #[], 0, .fresh 0 0 (!w.params.followText "set-order"), Heap.get?_push_of_some _ got, ⟨rfl, rfl, rfl⟩, rfl, fun e he => (nomatch he), List.Perm.refl _, List.nodup_nil, (show 0 < scanBound by unfold scanBound; decide), rfl, List.Pairwise.nil, ?led⟩, fun z => Iff.rfl⟩
      case led =>
        show _ ∨ (!w.params.followText "set-order") = true
        cases w.params.followText "set-order"
        · exact .inr rfl
        · exact .inl rfl
      case last =>
        rintro s0 ⟨h', g2, d', tk', os'⟩ xs hm hlen hS mem rfl
        have eg : g2 = s.gens := hm.gens
        have ed : d' = s.drawn := hm.drawn
        have eo : os' = s.os := hm.os
        subst eg
        subst ed
        subst eo
        refine wpAny_pure ?_
        show wpAny _ _ (ret Value.none) _ _ _
        refine wpAny_pure ⟨rfl, h', tk', xs, rfl, hS, by omega, mem, fun b o e => ?_⟩
        have hb0 : b < s.heap.objs.size := Heap.lt_size e
        refine hm.heap b o ?_ (Heap.get?_push_of_some _ (Heap.get?_push_of_some _ e))
        simp only [List.mem_cons, List.not_mem_nil, or_false, not_or, z1]
        exact ⟨Nat.ne_of_lt hb0, Nat.ne_of_lt (Nat.lt_succ_of_lt hb0)⟩
    · match r₂, hr₂ with
      | .error e, hr₂ => exact hr₂
      | .ok (.ret r), hr₂ =>
        obtain ⟨rfl, h', tk, xs, rfl, a1, a2, a3, a4⟩ := hr₂
        repeat (any_goals (first | assumption | wp_step))
        exact h _ _ _ a1 a2 a3 a4
end
end OH
set_option Elab.async false
set_option linter.all false
set_option maxRecDepth 100000
set_option maxHeartbeats 4000000
/-! sorted(set(xs)), len(set(xs)) as rules. -/
namespace OH
open PySem PySem.Spec PyProof.Rows L2
section
variable {P : Program} {w : World} {κ : Type} [DecidableEq κ] {D : KD P w κ} {A : Around} {E : Value → Shared → Prop} {s : Shared}
theorem SetG.sorted {a : Addr} {xs : List κ} {Q : Value → Shared → Prop} (R : SetG D s.heap a xs) (hh : A.handled = none)
    (q : ∀ s' p (out : Array Value) (c : Nat) (ns : List κ), (∀ b o, s.heap.get? b = some o → s'.heap.get? b = some o) → s'.gens = s.gens → s'.os = s.os → s.heap.objs.size ≤ p →
      s'.heap.get? p = some (seqObj "list" out c) → D.Are out.toList ns → ns.Perm xs → D.ord ns → Q (.ref p) s') :
    wpAny (model P w) A (call (.builtin "sorted") [.ref a]) Q E s := by
  obtain ⟨o, es, ep, t, ho, hx, hd, g, pm, nd, hb, hf, hr, hl⟩ := R
  have sz : es.size = xs.length := by rw [← pm.length_eq, List.length_map, Array.length_toList]
  refine Calls.call_function_entry kind_sorted plain_sorted entry_sorted (args_sorted1 _) ?_
  unfold Builtin.«sorted»
  refine wpAny_bind (m := checkCount "sorted" 1 1 _) (wpAny_pure ?_)
  refine wpAny_bind (collect_set (A := A.in1) hh ⟨o, ho, hx.1, hd⟩ hf (by omega) hr hl fun s1 vs k1 hz g1 o1 pv => ?_)
  have are : D.Are vs (vs.map D.dec) := by
    have : ∀ v ∈ vs, ∃ k t, v = D.val k t := fun v hv => by
      obtain ⟨e, he, ee⟩ := List.mem_map.mp (pv.mem_iff.mp hv)
      obtain ⟨k, tk, rfl⟩ := g e he
      exact ⟨k, tk, ee.symm⟩
    clear pv
    induction vs with
    | nil => exact .nil
    | cons v r ih =>
      obtain ⟨k, tk, e⟩ := this v List.mem_cons_self
      refine .cons ⟨tk, ?_⟩ (ih fun u hu => this u (List.mem_cons_of_mem _ hu))
      rw [e, D.dec_val]
  have pk : (vs.map D.dec).Perm xs := by
    have := pv.map D.dec
    rw [List.map_map] at this
    exact this.trans pm
  have vl : vs.length = xs.length := by rw [← pk.length_eq, List.length_map]
  have vz : vs.length ≤ sizeLine := fits_of_scanBound (by omega)
  refine wpAny_bind (wpAny_newList ?_ vz)
  have at1 : (s1.heap.push (seqObj "list" vs.toArray 0)).get? s1.heap.objs.size = some (seqObj "list" vs.toArray 0) := Heap.get?_push_size _ rfl
  refine wpAny_bind (wpAny_holding (wpAny_call_entry slot_list_sort ⟨_, at1, rfl⟩ entry_list_sort (D.sort at1 are vz fun out ns' a1 a2 a3 => ⟨_, rfl, ?_⟩) (args_list_sort _)))
  obtain ⟨c, hc⟩ := sortedHeap_at (vs := vs) (out := out) at1
  refine wpAny_pure ⟨_, rfl, q _ s1.heap.objs.size out c ns' (fun b u e => ?_) g1 o1 hz hc a1 (a2.trans pk) a3⟩
  have q1 := k1 b u e
  have lt := Heap.lt_size q1
  show (sortedHeap (s1.heap.push (seqObj "list" vs.toArray 0)) s1.heap.objs.size vs out).get? b = some u
  rw [sortedHeap_old (Nat.ne_of_lt lt) (by rw [size_push']; exact Nat.lt_succ_of_lt lt)]
  exact Heap.get?_push_of_some _ q1
end
section
variable {X : Cx} {κ : Type} [DecidableEq κ]
def tSortSet {P : Program} {w : World} (K : PySem.W.Frag) (D : KD P w κ) (ta : TE) : TE := fun σ H Q => ta σ H fun x H1 => ∃ l, ∃ ns : List κ, x = .ref l ∧ SqL K H1 l (ns.map D.vv) ∧ ns.length ≤ 4090 ∧
  ∀ (ys : List κ) (p : Addr), ys.Nodup → (∀ z, z ∈ ys ↔ z ∈ ns) → D.ord ys → H1 p = none → Q (.ref p) (upd H1 p (.lst (ys.map D.vv)))
theorem are_of {P : Program} {w : World} {D : KD P w κ} : ∀ {ns : List κ} {us : List Value}, Vals (ns.map D.vv) us → D.Are us ns
  | [], _, .nil => .nil
  | _ :: _, _, .cons r t => .cons (D.rel _ _ r) (are_of t)
theorem vals_are {P : Program} {w : World} {D : KD P w κ} : ∀ {ns : List κ} {us : List Value}, D.Are us ns → Vals (ns.map D.vv) us
  | _, _, .nil => .nil
  | _, _, .cons ⟨t, e⟩ r => .cons (e ▸ D.rel' _ t) (vals_are r)
theorem nodup_perm {α : Type} {l m : List α} (p : l.Perm m) (n : m.Nodup) : l.Nodup := p.nodup_iff.mpr n
theorem pe_sortSet (D : KD X.prog X.w κ) {a : Expr} {ta : TE} {p p2 q pos : Pos} (hc : X.calm = true) (hg : Gl X "sorted") (hm : X.mg "sorted" = none) (hg2 : Gl X "set") (hm2 : X.mg "set" = none) (ha : PE X a ta)
    (na : starEach [a] X.env = (false, eval a X.env) :: starEach [] X.env := by rfl) : PE X (.Call (.Name "sorted" p) [.Call (.Name "set" p2) [a] [] q] [] pos) (tSortSet X.K D ta) := by
  refine ⟨fun pins s σ H Q I h => Call_ (ld_blt I hg hm (show bootBuiltins "sorted" = some (.builtin "sorted") by decide +kernel) ?_)⟩
  refine PyProof.Rows.callWith_builtin1 (PyProof.Rows.args_cons ?_ rfl) rfl rfl
  refine Call_ (ld_blt I hg2 hm2 boot_set ?_)
  refine PyProof.Rows.callWith_type1 (PyProof.Rows.args_cons (thn (ha.run pins s σ H _ I h) fun v s1 ⟨x, H1, I1, r1, q1⟩ => PyProof.Rows.args_nil ?_) na) na rfl
  obtain ⟨l, ns, rfl, hq, hn, q1⟩ := q1
  cases r1
  obtain ⟨its, r, pl, hz⟩ := I1.list hq
  have hd := I1.ok.hd hc
  refine call_setG (D := D) hd pl.isList (by simpa using are_of r) (by unfold scanBound; omega) fun h' tk xs R lx mem k => PyProof.Rows.args_nil ?_
  have I2 : Inv X pins σ H1 { s1 with heap := h', toks := tk } := I1.kept k
  refine R.sorted (s := { s1 with heap := h', toks := tk }) hd fun s' p out c ys k2 g o hp hgt are pm od => ?_
  have nd : xs.Nodup := by
    obtain ⟨_, _, _, _, _, _, _, _, _, nd, _⟩ := R
    exact nd
  have hlen : (ys.map D.vv).length ≤ sizeLine := by
    rw [List.length_map, pm.length_eq]
    exact fits_of_scanBound (by unfold scanBound; omega)
  have hnn : H1 p = none := I2.hok.fresh hp
  have J : Inv X pins σ (upd H1 p (.lst (ys.map D.vv))) s' := I2.call' (ch := []) o (Un.laid k2 hp hnn) (I2.hok.laid k2 hp ⟨hlen, out.toList, c, vals_are are, hgt⟩) (by rw [g]; exact I2.bare) (fun _ z => nomatch z)
  exact ⟨.ref p, _, J, rfl, q1 ys p (nodup_perm pm nd) (fun z => pm.mem_iff.trans (mem z)) od hnn⟩
def tLenSetG {P : Program} {w : World} (K : PySem.W.Frag) (D : KD P w κ) (ta : TE) : TE := fun σ H Q => ta σ H fun x H1 => ∃ l, ∃ ns : List κ, x = .ref l ∧ SqL K H1 l (ns.map D.vv) ∧ ns.length ≤ 4090 ∧ ∀ ys : List κ, ys.Nodup → (∀ z, z ∈ ys ↔ z ∈ ns) → Q (.int ys.length) H1
theorem pe_lenSetG (D : KD X.prog X.w κ) {a : Expr} {ta : TE} {p p2 q pos : Pos} (hc : X.calm = true) (hg : Gl X "len") (hm : X.mg "len" = none) (hg2 : Gl X "set") (hm2 : X.mg "set" = none) (ha : PE X a ta)
    (na : starEach [a] X.env = (false, eval a X.env) :: starEach [] X.env := by rfl) : PE X (.Call (.Name "len" p) [.Call (.Name "set" p2) [a] [] q] [] pos) (tLenSetG X.K D ta) := by
  refine ⟨fun pins s σ H Q I h => Call_ (ld_blt I hg hm boot_len ?_)⟩
  refine PyProof.Rows.callWith_builtin1 (PyProof.Rows.args_cons ?_ rfl) rfl rfl
  refine Call_ (ld_blt I hg2 hm2 boot_set ?_)
  refine PyProof.Rows.callWith_type1 (PyProof.Rows.args_cons (thn (ha.run pins s σ H _ I h) fun v s1 ⟨x, H1, I1, r1, q1⟩ => PyProof.Rows.args_nil ?_) na) na rfl
  obtain ⟨l, ns, rfl, hq, hn, q1⟩ := q1
  cases r1
  obtain ⟨its, r, pl, hz⟩ := I1.list hq
  refine call_setG (D := D) (I1.ok.hd hc) pl.isList (by simpa using are_of r) (by unfold scanBound; omega) fun h' tk xs R lx mem k => PyProof.Rows.args_nil ?_
  have I2 : Inv X pins σ H1 { s1 with heap := h', toks := tk } := I1.kept k
  obtain ⟨o, es, ep, t, ho, hx, hdt, g, pm, nd, hb, hf, hr, hl⟩ := R
  have sz : es.size = xs.length := by rw [← pm.length_eq, List.length_map, Array.length_toList]
  refine call_len_set (s := { s1 with heap := h', toks := tk }) ho hx hdt hf (by rw [sz]; unfold scanBound at hb; omega) ⟨.int xs.length, H1, I2.tok _, ⟨_, by rw [sz]⟩, q1 xs nd mem⟩
end
theorem pe_sortSetA {X : Cx} {κ : Type} [DecidableEq κ] {P : Program} {w : World} (D : KD P w κ) {a : Expr} {ta : TE} {p p2 q pos : Pos} (hP : X.prog = P) (hw : X.w = w) (hc : X.calm = true) (hg : Gl X "sorted") (hm : X.mg "sorted" = none) (hg2 : Gl X "set") (hm2 : X.mg "set" = none) (ha : PE X a ta)
    (na : starEach [a] X.env = (false, eval a X.env) :: starEach [] X.env := by rfl) : PE X (.Call (.Name "sorted" p) [.Call (.Name "set" p2) [a] [] q] [] pos) (tSortSet X.K D ta) := by
  subst hP
  subst hw
  exact pe_sortSet D hc hg hm hg2 hm2 ha na
theorem pe_lenSetA {X : Cx} {κ : Type} [DecidableEq κ] {P : Program} {w : World} (D : KD P w κ) {a : Expr} {ta : TE} {p p2 q pos : Pos} (hP : X.prog = P) (hw : X.w = w) (hc : X.calm = true) (hg : Gl X "len") (hm : X.mg "len" = none) (hg2 : Gl X "set") (hm2 : X.mg "set" = none) (ha : PE X a ta)
    (na : starEach [a] X.env = (false, eval a X.env) :: starEach [] X.env := by rfl) : PE X (.Call (.Name "len" p) [.Call (.Name "set" p2) [a] [] q] [] pos) (tLenSetG X.K D ta) := by
  subst hP
  subst hw
  exact pe_lenSetG D hc hg hm hg2 hm2 ha na
/-! ### ints, texts -/
theorem ints_paired : ∀ {vs : List Value} {ns : List Int}, Paired (fun v k => ∃ t, v = Value.int k t) vs ns → IntsAre vs ns
  | _, _, .nil => .nil
  | _, _, .cons ⟨t, e⟩ r => e ▸ .cons _ t (ints_paired r)
theorem paired_ints : ∀ {vs : List Value} {ns : List Int}, IntsAre vs ns → Paired (fun v k => ∃ t, v = Value.int k t) vs ns
  | _, _, .nil => .nil
  | _, _, .cons n t r => .cons ⟨t, rfl⟩ (paired_ints r)
theorem strs_paired : ∀ {vs : List Value} {ns : List Str}, Paired (fun v k => ∃ t, v = Value.str k t) vs ns → StrsAre vs ns
  | _, _, .nil => .nil
  | _, _, .cons ⟨t, e⟩ r => e ▸ .cons _ t (strs_paired r)
theorem paired_strs : ∀ {vs : List Value} {ns : List Str}, StrsAre vs ns → Paired (fun v k => ∃ t, v = Value.str k t) vs ns
  | _, _, .nil => .nil
  | _, _, .cons n t r => .cons ⟨t, rfl⟩ (paired_strs r)
def kdI (P : Program) (w : World) : KD P w Int where
  knd := intKind P w
  val := .int
  dec v := match v with
    | .int k _ => k
    | _ => 0
  vv := .int
  ord ns := ns.Pairwise (· ≤ ·)
  is_val k t := intKind_is P w k t
  scan _ _ := rfl
  dec_val _ _ := rfl
  rel _ _ h := h
  rel' _ t := ⟨t, rfl⟩
  sort ho are hz h := list_sort_treeAny ho (ints_paired are) hz fun out ns' a1 a2 a3 => h out ns' (paired_ints a1) a2 a3
def kdS (P : Program) (w : World) : KD P w Str where
  knd := PySem.strKind P w
  val := .str
  dec v := match v with
    | .str k _ => k
    | _ => Str.empty
  vv := .str
  ord _ := True
  is_val k t := strKind_is P w k t
  scan _ _ := rfl
  dec_val _ _ := rfl
  rel _ _ h := h
  rel' _ t := ⟨t, rfl⟩
  sort ho are hz h := list_sort_treeKAny strKind_oneLt ho (strs_paired are).keysOf (fun v₁ v₂ rest e => keyKind_strs (by rw [← e]; exact strs_paired are)) hz fun st' hp hs => by
    obtain ⟨ss', h1, h2, h3⟩ := sorted_out_str (strs_paired are) hp hs
    exact h _ ss' (paired_strs h1) h2 trivial
end OH
set_option Elab.async false
set_option linter.all false
set_option maxRecDepth 100000
set_option maxHeartbeats 4000000
/-! list(zip(a, b, c, d)): four lists of one length. -/
namespace OH
open PySem PySem.Spec PyProof.Rows L2
/-- the zip at B + 6 over the iterators at B .. B + 3 -/
def ZipO (h : Heap) (B : Nat) (f0 : Value) (b : Bool) : Prop := h.get? (B + 6) = some { cls := .type "zip", dict := none, data := .fields #[f0, .bool b, .bool false, .ref (B + 4), .ref (B + 5)], slots := #[] }
def Tup4 (h : Heap) (T : Addr) (a b c d : Value) : Prop := h.get? T = some { cls := .type "tuple", data := .seq #[a, b, c, d] }
structure ZJ (h1 : Heap) (B : Nat) (l : Nat → Nat) (xs : Nat → Array Value) (d : Nat → Nat) (f0 : Value) (b : Bool) (y1 y2 y3 y4 : Value) (h : Heap) : Prop where
  lt : ∀ k : Nat, k < 4 → l k < B
  z : ZipO h B f0 b
  ti : Tup4 h (B + 4) (.ref B) (.ref (B + 1)) (.ref (B + 2)) (.ref (B + 3))
  to : Tup4 h (B + 5) y1 y2 y3 y4
  it : ∀ k : Nat, k < 4 → h.IsListIter (B + k) (l k) (d k)
  ls : ∀ k : Nat, k < 4 → h.IsList (l k) (xs k)
  kp : ∀ (b : Nat) o, b < B ∨ B + 6 < b → h1.get? b = some o → h.get? b = some o
section
variable {h1 h h' : Heap} {B : Nat} {l : Nat → Nat} {xs : Nat → Array Value} {d : Nat → Nat} {f0 f1 : Value} {b b1 : Bool} {y1 y2 y3 y4 z1 z2 z3 z4 : Value}
theorem ZJ.any (J : ZJ h1 B l xs d f0 b y1 y2 y3 y4 h) (k : ∀ (c : Nat) o, c < B ∨ B + 6 < c ∨ h.get? c = some o → h.get? c = some o → h'.get? c = some o) : ZJ h1 B l xs d f0 b y1 y2 y3 y4 h' :=
  ⟨J.lt, k _ _ (.inr (.inr J.z)) J.z, k _ _ (.inr (.inr J.ti)) J.ti, k _ _ (.inr (.inr J.to)) J.to, fun j hj => (J.it j hj).at fun o e => k _ _ (.inr (.inr e)) e, fun j hj => (J.ls j hj).at fun o e => k _ _ (.inr (.inr e)) e, fun c o hc e => k _ _ (.inr (.inr (J.kp c o hc e))) (J.kp c o hc e)⟩
theorem ZJ.setZ (J : ZJ h1 B l xs d f0 b y1 y2 y3 y4 h) (s : Heap.SameBut (B + 6) h h') (n : ZipO h' B f1 b1) : ZJ h1 B l xs d f1 b1 y1 y2 y3 y4 h' := by
  have k : ∀ c : Nat, c ≠ B + 6 → ∀ o, h.get? c = some o → h'.get? c = some o := fun c hc o e => (s.2 c hc).trans e
  refine ⟨J.lt, n, k _ (by omega) _ J.ti, k _ (by omega) _ J.to, fun j hj => (J.it j hj).at fun o e => k (B + j) (by omega) o e, fun j hj => (J.ls j hj).at fun o e => k _ ?_ _ e, fun c o hc e => k _ (by omega) _ (J.kp c o hc e)⟩
  have := J.lt j hj
  omega
theorem ZJ.setT (J : ZJ h1 B l xs d f0 b y1 y2 y3 y4 h) (s : Heap.SameBut (B + 5) h h') (n : Tup4 h' (B + 5) z1 z2 z3 z4) : ZJ h1 B l xs d f0 b z1 z2 z3 z4 h' := by
  have k : ∀ c : Nat, c ≠ B + 5 → ∀ o, h.get? c = some o → h'.get? c = some o := fun c hc o e => (s.2 c hc).trans e
  refine ⟨J.lt, k _ (by omega) _ J.z, k _ (by omega) _ J.ti, n, fun j hj => (J.it j hj).at fun o e => k (B + j) (by omega) o e, fun j hj => (J.ls j hj).at fun o e => k _ ?_ _ e, fun c o hc e => k _ (by omega) _ (J.kp c o hc e)⟩
  have := J.lt j hj
  omega
def bump (d : Nat → Nat) (k : Nat) : Nat → Nat := fun j => if j = k then d k + 1 else d j
theorem ZJ.setI {j : Nat} (hj : j < 4) (J : ZJ h1 B l xs d f0 b y1 y2 y3 y4 h) (s : Heap.SameBut (B + j) h h') (n : h'.IsListIter (B + j) (l j) (d j + 1)) : ZJ h1 B l xs (bump d j) f0 b y1 y2 y3 y4 h' := by
  have k : ∀ c : Nat, c ≠ B + j → ∀ o, h.get? c = some o → h'.get? c = some o := fun c hc o e => (s.2 c hc).trans e
  refine ⟨J.lt, k _ (by omega) _ J.z, k _ (by omega) _ J.ti, k _ (by omega) _ J.to, fun i hi => ?_, fun i hi => (J.ls i hi).at fun o e => k _ ?_ _ e, fun c o hc e => k _ (by omega) _ (J.kp c o hc e)⟩
  · unfold bump
    by_cases e : i = j
    · rw [if_pos e, e]
      exact n
    · rw [if_neg e]
      exact (J.it i hi).at fun o e => k (B + i) (by omega) o e
  · have := J.lt i hi
    omega
theorem ZJ.to_d {d' : Nat → Nat} (J : ZJ h1 B l xs d f0 b y1 y2 y3 y4 h) (e : ∀ k, k < 4 → d k = d' k) : ZJ h1 B l xs d' f0 b y1 y2 y3 y4 h :=
  ⟨J.lt, J.z, J.ti, J.to, fun k hk => e k hk ▸ J.it k hk, J.ls, J.kp⟩
theorem bump4 (i : Nat) : ∀ k, k < 4 → bump (bump (bump (bump (fun _ => i) 0) 1) 2) 3 k = i + 1
  | 0, _ => rfl
  | 1, _ => rfl
  | 2, _ => rfl
  | 3, _ => rfl
  | _ + 4, h => absurd h (by omega)
end
section
variable {P : Program} {w : World} {A : Around} {E : Value → Shared → Prop} {s : Shared} {h1 : Heap} {B : Nat} {l : Nat → Nat} {xs : Nat → Array Value} {d : Nat → Nat} {f0 : Value} {b : Bool} {y1 y2 y3 y4 x1 x2 x3 x4 : Value}
theorem z_draw {j : Nat} {x : Value} {Q : Value → Shared → Prop} (hj : j < 4) (J : ZJ h1 B l xs d f0 b y1 y2 y3 y4 s.heap) (hx : (xs j)[d j]? = some x)
    (q : ∀ h', ZJ h1 B l xs (bump d j) f0 b y1 y2 y3 y4 h' → h'.objs.size = s.heap.objs.size → Q x { s with heap := h' }) : wpAny (model P w) A (Builtin.SmallTypes.nextOf (.ref (B + j))) Q E s :=
  wpAny_nextOf_list_item (J.it j hj) (J.ls j hj) hx fun h' i' sb => q h' (J.setI hj sb i') sb.1
theorem z_put {k : Nat} {x : Value} {Q : Unit → Shared → Prop} (J : ZJ h1 B l xs d f0 b y1 y2 y3 y4 s.heap)
    (q : ∀ h', h'.get? (B + 5) = some { cls := .type "tuple", data := .seq ((#[y1, y2, y3, y4] : Array Value).setIfInBounds k x) } → Heap.SameBut (B + 5) s.heap h' → Q () { s with heap := h' }) :
    wpAny (model P w) A (updateSeq (B + 5) (·.setIfInBounds k x)) Q E s := by
  refine wpAny_updateSeq J.to rfl (q _ ?_ (Heap.SameBut.update ..))
  rw [Heap.get?_update_self _ J.to rfl]
  simp [Obj.mapSeq]
/-- the first tuple -/
theorem z_free {i : Nat} {Q : Value → Shared → Prop} (J : ZJ h1 B l xs (fun _ => i) .none b y1 y2 y3 y4 s.heap) (e1 : (xs 0)[i]? = some x1) (e2 : (xs 1)[i]? = some x2) (e3 : (xs 2)[i]? = some x3) (e4 : (xs 3)[i]? = some x4)
    (q : ∀ h' b', ZJ h1 B l xs (fun _ => i + 1) (rawInt s.heap.objs.size) b' x1 x2 x3 x4 h' → Tup4 h' s.heap.objs.size x1 x2 x3 x4 → h'.objs.size = s.heap.objs.size + 1 → Q (.ref s.heap.objs.size) { s with heap := h' }) :
    wpAny (model P w) A (Builtin.«zip.__next__» ⟨[.ref (B + 6)], []⟩) (fun fin s' => ∃ v, fin = .done (.ret v) ∧ Q v s') E s := by
  obtain ⟨hp, g, dr, tk, os⟩ := s
  show wpAny _ _ (field (.ref (B + 6)) 2 >>= _) _ _ _
  refine wpAny_bind (wpAny_field J.z rfl (x := .bool false) rfl ?_)
  show wpAny _ _ (field (.ref (B + 6)) 3 >>= _) _ _ _
  refine wpAny_bind (wpAny_field J.z rfl (x := .ref (B + 4)) rfl (wpAny_bind (wpAny_seqItems J.ti rfl ?_)))
  show wpAny _ _ (Builtin.SmallTypes.ownedTupleIsFree (.ref (B + 6)) >>= _) _ _ _
  unfold Builtin.SmallTypes.ownedTupleIsFree
  refine wpAny_bind (wpAny_bind (wpAny_field J.z rfl (x := .none) rfl (wpAny_pure ?_)))
  simp only [if_true]
  refine wpAny_bind (wpAny_rule (wpAny_bind (wpAny_field J.z rfl (x := .ref (B + 5)) rfl (wpAny_bind (wpAny_setField_rec J.z (by simp) fun g0 z0 s0 => ?_)))))
  have J0 : ZJ h1 B l xs (fun _ => i) .ellipsis b y1 y2 y3 y4 g0 := J.setZ s0 z0
  have n0 : g0.objs.size = hp.objs.size := s0.1
  refine wpAny_bind ?_
  simp only [List.zipIdx_cons, List.zipIdx_nil, List.forIn_cons, List.forIn_nil]
  refine wpAny_bind (wpAny_bind (wpAny_onRaise ?_))
  show wpAny _ _ (Builtin.SmallTypes.nextOf (.ref (B + 0)) >>= _) _ _ ⟨g0, g, dr, tk, os⟩
  refine wpAny_bind (z_draw (by omega) J0 e1 fun p1 K1 m1 => wpAny_pure (wpAny_bind (wpAny_seqItems K1.to rfl (wpAny_bind (z_put K1 fun g1 t1 s1 => wpAny_bind (wpAny_letGo (wpAny_pure ?_)))))))
  have J1 : ZJ h1 B l xs _ .ellipsis b x1 y2 y3 y4 g1 := K1.setT s1 t1
  refine wpAny_bind (wpAny_bind (wpAny_onRaise ?_))
  show wpAny _ _ (Builtin.SmallTypes.nextOf (.ref (B + 1)) >>= _) _ _ ⟨g1, g, dr, tk, os⟩
  refine wpAny_bind (z_draw (by omega) J1 e2 fun p2 K2 m2 => wpAny_pure (wpAny_bind (wpAny_seqItems K2.to rfl (wpAny_bind (z_put K2 fun g2 t2 s2 => wpAny_bind (wpAny_letGo (wpAny_pure ?_)))))))
  have J2 : ZJ h1 B l xs _ .ellipsis b x1 x2 y3 y4 g2 := K2.setT s2 t2
  refine wpAny_bind (wpAny_bind (wpAny_onRaise ?_))
  show wpAny _ _ (Builtin.SmallTypes.nextOf (.ref (B + 2)) >>= _) _ _ ⟨g2, g, dr, tk, os⟩
  refine wpAny_bind (z_draw (by omega) J2 e3 fun p3 K3 m3 => wpAny_pure (wpAny_bind (wpAny_seqItems K3.to rfl (wpAny_bind (z_put K3 fun g3 t3 s3 => wpAny_bind (wpAny_letGo (wpAny_pure ?_)))))))
  have J3 : ZJ h1 B l xs _ .ellipsis b x1 x2 x3 y4 g3 := K3.setT s3 t3
  refine wpAny_bind (wpAny_bind (wpAny_onRaise ?_))
  show wpAny _ _ (Builtin.SmallTypes.nextOf (.ref (B + 3)) >>= _) _ _ ⟨g3, g, dr, tk, os⟩
  refine wpAny_bind (z_draw (by omega) J3 e4 fun p4 K4 m4 => wpAny_pure (wpAny_bind (wpAny_seqItems K4.to rfl (wpAny_bind (z_put K4 fun g4 t4 s4 => wpAny_bind (wpAny_letGo (wpAny_pure (wpAny_pure ?_))))))))
  have J4 : ZJ h1 B l xs _ .ellipsis b x1 x2 x3 x4 g4 := K4.setT s4 t4
  have n4 : g4.objs.size = hp.objs.size := s4.1.trans (m4.trans (s3.1.trans (m3.trans (s2.1.trans (m2.trans (s1.1.trans (m1.trans n0)))))))
  refine wpAny_bind (wpAny_seqItems (s := ⟨g4, g, dr, tk, os⟩) J4.to rfl (wpAny_bind (wpAny_newTuple ?_)))
  show wpAny _ _ (Builtin.SmallTypes.ownedTupleHandOut (.ref (B + 6)) (.ref g4.objs.size) >>= _) _ _ ⟨g4.push { cls := .type "tuple", data := .seq #[x1, x2, x3, x4] }, g, dr, tk, os⟩
  have J5 : ZJ h1 B l xs _ .ellipsis b x1 x2 x3 x4 (g4.push { cls := .type "tuple", data := .seq #[x1, x2, x3, x4] }) := J4.any fun c o _ e => Heap.get?_push_of_some _ e
  unfold Builtin.SmallTypes.ownedTupleHandOut
  refine wpAny_bind (wpAny_bind (wpAny_setField_rec J5.z (by simp) fun g6 z6 s6 => ?_))
  have J6 : ZJ h1 B l xs _ (rawInt g4.objs.size) b x1 x2 x3 x4 g6 := J5.setZ s6 z6
  refine wpAny_setField_rec J6.z (by simp) fun g7 z7 s7 => wpAny_pure ⟨_, rfl, ?_⟩
  have J7 : ZJ h1 B l xs _ (rawInt g4.objs.size) false x1 x2 x3 x4 g7 := J6.setZ s7 z7
  have lz : B + 6 < g4.objs.size := Heap.lt_size J4.z
  have nw : Tup4 g7 g4.objs.size x1 x2 x3 x4 := (s7.2 _ (Nat.ne_of_gt lz)).trans ((s6.2 _ (Nat.ne_of_gt lz)).trans (Heap.get?_push_size _ rfl))
  have n7 : g7.objs.size = hp.objs.size + 1 := by
    have := s7.1.trans (s6.1.trans (Heap.size_push ..))
    rw [this, n4]
  have r := q g7 false
  rw [n4] at J7 nw
  have e : (Value.ref g4.objs.size) = Value.ref hp.objs.size := by rw [n4]
  show Q (Value.ref g4.objs.size) _
  rw [e]
  exact r (J7.to_d (bump4 i)) nw n7
theorem z_taken {a : Nat} {oa : Obj} (J : ZJ h1 B l xs d (rawInt (a : Int)) b y1 y2 y3 y4 s.heap) (ha : s.heap.get? a = some oa) (hB : B + 6 < a) :
    wpAny (model P w) A (Builtin.SmallTypes.ownedTupleIsFree (.ref (B + 6))) (fun fr s' => fr = false ∧ ∃ g0 b', s' = { s with heap := g0 } ∧ ZJ h1 B l xs d (rawInt (a : Int)) b' y1 y2 y3 y4 g0 ∧ g0.get? a = some oa ∧ g0.objs.size = s.heap.objs.size) E s := by
  unfold Builtin.SmallTypes.ownedTupleIsFree
  refine wpAny_bind (wpAny_field J.z rfl (x := rawInt a) rfl ?_)
  show wpAny _ _ (loadIfAlive ((a : Int).toNat) >>= _) _ _ _
  rw [Int.toNat_natCast]
  refine wpAny_bind (PySem.W.kdx_alive ha ?_)
  simp only [Option.isNone_some, Bool.false_eq_true, if_false]
  refine wpAny_bind (wpAny_field J.z rfl (x := .bool b) rfl ?_)
  cases b with
  | true =>
    rw [if_neg (show ¬ ((Value.bool true != Value.bool true) = true) from Bool.false_ne_true)]
    exact wpAny_pure ⟨rfl, s.heap, true, rfl, J, ha, rfl⟩
  | false =>
    rw [if_pos (show (Value.bool false != Value.bool true) = true from rfl)]
    refine wpAny_bind (wpAny_setField_rec J.z (by simp) fun g0 z0 s0 => wpAny_pure ⟨rfl, g0, true, rfl, J.setZ s0 z0, (s0.2 a (show a ≠ B + 6 from Nat.ne_of_gt hB)).trans ha, s0.1⟩)
theorem Tup4.of_new {g : Heap} : Tup4 (g.push { cls := .type "tuple", data := .seq #[x1, x2, x3, x4] }) g.objs.size x1 x2 x3 x4 := Heap.get?_push_size _ rfl
/-- a further tuple: the one before it stands yet -/
theorem z_out {i a : Nat} {oa : Obj} {Q : Value → Shared → Prop} (J : ZJ h1 B l xs (fun _ => i) (rawInt (a : Int)) b y1 y2 y3 y4 s.heap) (ha : s.heap.get? a = some oa) (hB : B + 6 < a) (e1 : (xs 0)[i]? = some x1) (e2 : (xs 1)[i]? = some x2) (e3 : (xs 2)[i]? = some x3) (e4 : (xs 3)[i]? = some x4)
    (q : ∀ h' b', ZJ h1 B l xs (fun _ => i + 1) (rawInt (a : Int)) b' y1 y2 y3 y4 h' → (∀ o, h1.get? a = some o → h'.get? a = some o) → Tup4 h' s.heap.objs.size x1 x2 x3 x4 → h'.objs.size = s.heap.objs.size + 1 → Q (.ref s.heap.objs.size) { s with heap := h' }) :
    wpAny (model P w) A (Builtin.«zip.__next__» ⟨[.ref (B + 6)], []⟩) (fun fin s' => ∃ v, fin = .done (.ret v) ∧ Q v s') E s := by
  obtain ⟨hp, g, dr, tk, os⟩ := s
  show wpAny _ _ (field (.ref (B + 6)) 2 >>= _) _ _ _
  refine wpAny_bind (wpAny_field J.z rfl (x := .bool false) rfl ?_)
  show wpAny _ _ (field (.ref (B + 6)) 3 >>= _) _ _ _
  refine wpAny_bind (wpAny_field J.z rfl (x := .ref (B + 4)) rfl (wpAny_bind (wpAny_seqItems J.ti rfl ?_)))
  show wpAny _ _ (Builtin.SmallTypes.ownedTupleIsFree (.ref (B + 6)) >>= _) _ _ _
  refine wpAny_bind (wpAny_mono (z_taken J ha hB) (fun fr s' ⟨e, g0, b', e', J0, ha0, n0⟩ => ?_) fun _ _ z => z)
  subst e
  subst e'
  simp only [Bool.false_eq_true, if_false]
  refine wpAny_bind ?_
  rw [← Array.forIn_toList]
  simp only [List.toList_toArray, List.forIn_cons, List.forIn_nil]
  refine wpAny_bind (wpAny_bind (wpAny_holding ?_))
  show wpAny _ _ (Builtin.SmallTypes.nextOf (.ref (B + 0)) >>= _) _ _ ⟨g0, g, dr, tk, os⟩
  refine wpAny_bind (z_draw (by omega) J0 e1 fun p1 K1 m1 => wpAny_pure (wpAny_pure ?_))
  refine wpAny_bind (wpAny_bind (wpAny_holding ?_))
  show wpAny _ _ (Builtin.SmallTypes.nextOf (.ref (B + 1)) >>= _) _ _ ⟨p1, g, dr, tk, os⟩
  refine wpAny_bind (z_draw (by omega) K1 e2 fun p2 K2 m2 => wpAny_pure (wpAny_pure ?_))
  refine wpAny_bind (wpAny_bind (wpAny_holding ?_))
  show wpAny _ _ (Builtin.SmallTypes.nextOf (.ref (B + 2)) >>= _) _ _ ⟨p2, g, dr, tk, os⟩
  refine wpAny_bind (z_draw (by omega) K2 e3 fun p3 K3 m3 => wpAny_pure (wpAny_pure ?_))
  refine wpAny_bind (wpAny_bind (wpAny_holding ?_))
  show wpAny _ _ (Builtin.SmallTypes.nextOf (.ref (B + 3)) >>= _) _ _ ⟨p3, g, dr, tk, os⟩
  refine wpAny_bind (z_draw (by omega) K3 e4 fun p4 K4 m4 => wpAny_pure (wpAny_pure (wpAny_pure ?_)))
  have n4 : p4.objs.size = hp.objs.size := m4.trans (m3.trans (m2.trans (m1.trans n0)))
  refine wpAny_bind (wpAny_newTuple (hsz := Nat.le_of_ble_eq_true rfl) (wpAny_pure ⟨_, rfl, ?_⟩))
  have J5 := K4.any (h' := p4.push { cls := .type "tuple", data := .seq #[x1, x2, x3, x4] }) fun c o _ e => Heap.get?_push_of_some _ e
  have e : (Value.ref p4.objs.size) = Value.ref hp.objs.size := by rw [n4]
  show Q (Value.ref p4.objs.size) _
  rw [e]
  refine q _ b' (J5.to_d (bump4 i)) (fun o z => J5.kp a o (.inr hB) z) ?_ ?_
  · show Tup4 _ hp.objs.size x1 x2 x3 x4
    rw [← n4]
    exact Tup4.of_new
  · show _ = hp.objs.size + 1
    rw [← n4]
    exact Heap.size_push ..
/-- the end -/
theorem z_end {i : Nat} {Q : PySem.Fin → Shared → Prop} (hh : A.handled = none) (J : ZJ s.heap B l xs (fun _ => i) f0 b y1 y2 y3 y4 s.heap) (hf : f0 = .none ∨ ∃ (a : Nat) (o : Obj), f0 = rawInt (a : Int) ∧ s.heap.get? a = some o ∧ B + 6 < a) (e1 : (xs 0)[i]? = none)
    (q : ∀ h' e, (∀ (c : Nat) o, c < B ∨ B + 6 < c → s.heap.get? c = some o → h'.get? c = some o) → (∃ o, h'.get? e = some o ∧ o.cls = .type "StopIteration") → E (.ref e) { s with heap := h' }) :
    wpAny (model P w) A (Builtin.«zip.__next__» ⟨[.ref (B + 6)], []⟩) Q E s := by
  obtain ⟨hp, g, dr, tk, os⟩ := s
  show wpAny _ _ (field (.ref (B + 6)) 2 >>= _) _ _ _
  refine wpAny_bind (wpAny_field J.z rfl (x := .bool false) rfl ?_)
  show wpAny _ _ (field (.ref (B + 6)) 3 >>= _) _ _ _
  refine wpAny_bind (wpAny_field J.z rfl (x := .ref (B + 4)) rfl (wpAny_bind (wpAny_seqItems J.ti rfl ?_)))
  show wpAny _ _ (Builtin.SmallTypes.ownedTupleIsFree (.ref (B + 6)) >>= _) _ _ _
  rcases hf with rfl | ⟨a, oa, rfl, ha, hB⟩
  · unfold Builtin.SmallTypes.ownedTupleIsFree
    refine wpAny_bind (wpAny_bind (wpAny_field J.z rfl (x := .none) rfl (wpAny_pure ?_)))
    simp only [if_true]
    refine wpAny_bind (wpAny_rule (wpAny_bind (wpAny_field J.z rfl (x := .ref (B + 5)) rfl (wpAny_bind (wpAny_setField_rec J.z (by simp) fun g0 z0 s0 => ?_)))))
    have J0 : ZJ hp B l xs (fun _ => i) .ellipsis b y1 y2 y3 y4 g0 := J.setZ s0 z0
    refine wpAny_bind ?_
    simp only [List.zipIdx_cons, List.zipIdx_nil, List.forIn_cons, List.forIn_nil]
    refine wpAny_bind (wpAny_bind (wpAny_onRaise ?_))
    show wpAny _ _ (Builtin.SmallTypes.nextOf (.ref (B + 0)) >>= _) _ _ ⟨g0, g, dr, tk, os⟩
    refine wpAny_bind (wpAny_nextOf_list_end hh (J0.it 0 (by omega)) (J0.ls 0 (by omega)) e1 fun p1 e x1 he => ?_)
    obtain ⟨oe, hoe, hce⟩ := he
    have z1 : ZipO p1 B .ellipsis b := x1 _ _ (show B + 6 ≠ B + 0 by omega) J0.z
    have ez : e ≠ B + 6 := fun z => by
      subst z
      rw [z1] at hoe
      cases hoe
      simp at hce
    refine wpAny_setField_rec z1 (by simp) fun p2 _ s2 => q p2 e (fun c o hc z => ?_) ⟨oe, (s2.2 _ ez).trans hoe, hce⟩
    have a1 : c ≠ B + 6 := by omega
    have a2 : c ≠ B + 0 := by omega
    exact (s2.2 c a1).trans (x1 c o a2 ((s0.2 c a1).trans z))
  · refine wpAny_bind (wpAny_mono (z_taken J ha hB) (fun fr s' ⟨e, g0, b', e', J0, ha0, n0⟩ => ?_) fun _ _ z => z)
    subst e
    subst e'
    simp only [Bool.false_eq_true, if_false]
    refine wpAny_bind ?_
    rw [← Array.forIn_toList]
    simp only [List.toList_toArray, List.forIn_cons, List.forIn_nil]
    refine wpAny_bind (wpAny_bind (wpAny_holding ?_))
    show wpAny _ _ (Builtin.SmallTypes.nextOf (.ref (B + 0)) >>= _) _ _ ⟨g0, g, dr, tk, os⟩
    refine wpAny_bind (wpAny_nextOf_list_end hh (J0.it 0 (by omega)) (J0.ls 0 (by omega)) e1 fun p1 e x1 he => q p1 e (fun c o hc z => x1 c o ?_ (J0.kp c o hc z)) he)
    exact (show c ≠ B + 0 by omega)
theorem zt_type {h : Heap} (z : ZipO h B f0 b) {s : Shared} (e : s.heap = h) : s.TypeIs (.ref (B + 6)) "zip" := ⟨_, by rw [e]; exact z, rfl⟩
/-- one turn of list(zip(..)) -/
def ZSt (h0 : Heap) (B S : Nat) (l : Nat → Nat) (xs : Nat → Array Value) (i : Nat) (vs : List Value) (h : Heap) : Prop :=
  ∃ f0 b y1 y2 y3 y4, ZJ h B l xs (fun _ => i) f0 b y1 y2 y3 y4 h ∧ ((i = 0 ∧ f0 = .none) ∨ ∃ (a : Nat) (o : Obj), f0 = rawInt (a : Int) ∧ h.get? a = some o ∧ S < a) ∧ vs.length = i ∧ (∀ (c : Nat) o, c < B → h0.get? c = some o → h.get? c = some o) ∧ vs.Nodup ∧
    ∀ j, j < i → ∃ (t : Nat) (a b c d : Value), vs[j]? = some (.ref t) ∧ S < t ∧ (xs 0)[j]? = some a ∧ (xs 1)[j]? = some b ∧ (xs 2)[j]? = some c ∧ (xs 3)[j]? = some d ∧ Tup4 h t a b c d
theorem ZSt.keep {h0 h h' : Heap} {S i : Nat} {vs : List Value} (hS : B + 6 < S) (Z : ZSt h0 B S l xs i vs h) (k : ∀ (c : Nat) o, c ≠ S → h.get? c = some o → h'.get? c = some o) : ZSt h0 B S l xs i vs h' := by
  obtain ⟨f0, b, y1, y2, y3, y4, J, hf, hv, hk, nd, ht⟩ := Z
  refine ⟨f0, b, y1, y2, y3, y4, ?_, ?_, hv, fun c o hc e => k c o (by omega) (hk c o hc e), nd, fun j hj => ?_⟩
  · have lt := J.lt
    exact ⟨lt, k _ _ (by omega) J.z, k _ _ (by omega) J.ti, k _ _ (by omega) J.to, fun j hj => (J.it j hj).at fun o e => k (B + j) o (by omega) e, fun j hj => (J.ls j hj).at fun o e => k (l j) o (by have := lt j hj; omega) e, fun _ _ _ e => e⟩
  · rcases hf with hf | ⟨a, o, e, ha, hB⟩
    · exact .inl hf
    · exact .inr ⟨a, o, e, k a o (by omega) ha, hB⟩
  · obtain ⟨t, a, b, c, d, e1, e2, e3, e4, e5, e6, e7⟩ := ht j hj
    exact ⟨t, a, b, c, d, e1, e2, e3, e4, e5, e6, k t _ (by omega) e7⟩
theorem ZSt.item {h0 : Heap} {S i : Nat} {vs : List Value} {Q : Option Value → Shared → Prop} (hS : B + 6 < S) (hSl : S < s.heap.objs.size) (Z : ZSt h0 B S l xs i vs s.heap) (hn : ∀ k, k < 4 → i < (xs k).size)
    (q : ∀ v h', ZSt h0 B S l xs (i + 1) (vs ++ [v]) h' → (∀ o, s.heap.get? S = some o → h'.get? S = some o) → Q (some v) { s with heap := h' }) :
    wpAny (model P w) A (pyNext (.ref (B + 6))) Q E s := by
  obtain ⟨f0, b, y1, y2, y3, y4, J, hf, hv, hk, nd, ht⟩ := Z
  have g : ∀ k, k < 4 → ∃ x, (xs k)[i]? = some x := fun k h => ⟨_, Array.getElem?_eq_getElem (hn k h)⟩
  obtain ⟨x1, e1⟩ := g 0 (by omega)
  obtain ⟨x2, e2⟩ := g 1 (by omega)
  obtain ⟨x3, e3⟩ := g 2 (by omega)
  obtain ⟨x4, e4⟩ := g 3 (by omega)
  have ty : s.TypeIs (.ref (B + 6)) "zip" := zt_type J.z rfl
  have fin : ∀ h' f' b' z1 z2 z3 z4, ZJ s.heap B l xs (fun _ => i + 1) f' b' z1 z2 z3 z4 h' → (∃ (a : Nat) (o : Obj), f' = rawInt (a : Int) ∧ h'.get? a = some o ∧ S < a) → Tup4 h' s.heap.objs.size x1 x2 x3 x4 → Q (some (.ref s.heap.objs.size)) { s with heap := h' } := fun h' f' b' z1 z2 z3 z4 J' hf' nw => by
    refine q (.ref s.heap.objs.size) h' ⟨f', b', z1, z2, z3, z4, ⟨J'.lt, J'.z, J'.ti, J'.to, J'.it, J'.ls, fun _ _ _ e => e⟩, .inr hf', by rw [List.length_append, hv]; rfl, fun c o hc e => J'.kp c o (.inl hc) (hk c o hc e), ?_, fun j hj => ?_⟩ fun o e => J'.kp S o (.inr hS) e
    · refine List.nodup_append.mpr ⟨nd, List.nodup_cons.mpr ⟨fun z => (nomatch z), List.nodup_nil⟩, fun u hu v hv' z => ?_⟩
      rw [List.mem_singleton] at hv'
      obtain ⟨j, hj⟩ := List.mem_iff_getElem?.mp hu
      obtain ⟨t, _, _, _, _, q1, _, _, _, _, _, q7⟩ := ht j (by have := (List.getElem?_eq_some_iff.mp hj).1; omega)
      rw [q1] at hj
      have e1 := Option.some.inj hj
      rw [← e1, hv'] at z
      have e2 : t = s.heap.objs.size := Value.ref.inj z
      exact absurd (Heap.lt_size q7) (by rw [e2]; exact Nat.lt_irrefl _)
    rcases Nat.lt_or_ge j i with c | c
    · obtain ⟨t, a, b, c, d, q1, q2, q3, q4, q5, q6, q7⟩ := ht j c
      exact ⟨t, a, b, c, d, by rw [List.getElem?_append_left (by omega)]; exact q1, q2, q3, q4, q5, q6, J'.kp t _ (.inr (by omega)) q7⟩
    · have e : j = i := by omega
      subst e
      exact ⟨s.heap.objs.size, x1, x2, x3, x4, by rw [List.getElem?_append_right (by omega), hv, Nat.sub_self]; rfl, hSl, e1, e2, e3, e4, nw⟩
  unfold pyNext
  refine wpAny_bind (wpAny_attempt (wpAny_callSpecial?_slot (name := Str.ofString "__next__") ty F.slot_zip_next (wpAny_call_entry F.slot_zip_next ty F.entry_zip_next ?_ (F.args_zip_next_1 _))))
  rcases hf with ⟨e0, rfl⟩ | ⟨a, oa, rfl, ha, hB⟩
  · exact z_free J e1 e2 e3 e4 fun h' b' J' nw n => wpAny_pure (fin h' _ b' _ _ _ _ J' ⟨_, _, rfl, nw, hSl⟩ nw)
  · exact z_out J ha (by omega) e1 e2 e3 e4 fun h' b' J' kp nw n => wpAny_pure (fin h' _ b' _ _ _ _ J' ⟨a, oa, rfl, kp oa ha, hB⟩ nw)
theorem ZSt.done {h0 : Heap} {S i : Nat} {vs : List Value} {Q : Option Value → Shared → Prop} (hh : A.handled = none) (hS : B + 6 < S) (Z : ZSt h0 B S l xs i vs s.heap) (hn : (xs 0).size ≤ i)
    (q : ∀ h', (∀ (c : Nat) o, c < B ∨ B + 6 < c → s.heap.get? c = some o → h'.get? c = some o) → Q none { s with heap := h' }) :
    wpAny (model P w) A (pyNext (.ref (B + 6))) Q E s := by
  obtain ⟨f0, b, y1, y2, y3, y4, J, hf, hv, hk, nd, ht⟩ := Z
  have ty : s.TypeIs (.ref (B + 6)) "zip" := zt_type J.z rfl
  unfold pyNext
  refine wpAny_bind (wpAny_attempt (wpAny_callSpecial?_slot (name := Str.ofString "__next__") ty F.slot_zip_next (wpAny_call_entry F.slot_zip_next ty F.entry_zip_next
    (z_end hh J ?_ (Array.getElem?_eq_none hn) fun h' e kp he => ?_) (F.args_zip_next_1 _))))
  · rcases hf with ⟨_, z⟩ | ⟨a, o, z, ha, hB⟩
    · exact .inl z
    · exact .inr ⟨a, o, z, ha, by omega⟩
  · obtain ⟨o, ho, hc⟩ := he
    refine wpAny_bind (wpAny_isInstance (T := "StopIteration") (b := true) ⟨o, ho, hc⟩ isSubtype_stop ?_)
    exact wpAny_pure (q _ kp)
end
end OH
set_option Elab.async false
set_option linter.all false
set_option maxRecDepth 100000
set_option maxHeartbeats 4000000
/-! list(zip(a, b, c, d)) as a rule. -/
namespace OH
open PySem PySem.Spec PyProof.Rows L2
theorem typeCall_z4 (a b c d : Value) : checkTypeCall "zip" ⟨[a, b, c, d], []⟩ = pure () := by kernel_rfl
theorem newCall_z4 (a b c d : Value) : checkBuiltinCall "zip.__new__" ⟨[.type "zip", a, b, c, d], []⟩ = pure () := by kernel_rfl
theorem init_z4 (o a b c d : Value) : argsOk "object.__init__" ⟨[o, a, b, c, d], []⟩ := by
  unfold argsOk
  rw [signature?_of (id := "object.__init__") (n := ['_', '_', 't', 'i', 'n', 'i', '_', '_']) (o := ['t', 'c', 'e', 'j', 'b', 'o']) (by kernel_rfl) PySem.F.owner_object]
  kernel_rfl
abbrev lit (l : Addr) : Obj := { cls := .type "list_iterator", data := .fields #[.ref l, .int 0 0] }
abbrev zg1 (h : Heap) (l1 : Addr) : Heap := h.push (lit l1)
abbrev zg2 (h : Heap) (l1 l2 : Addr) : Heap := (zg1 h l1).push (lit l2)
abbrev zg3 (h : Heap) (l1 l2 l3 : Addr) : Heap := (zg2 h l1 l2).push (lit l3)
abbrev zg4 (h : Heap) (l1 l2 l3 l4 : Addr) : Heap := (zg3 h l1 l2 l3).push (lit l4)
abbrev zg5 (h : Heap) (l1 l2 l3 l4 : Addr) : Heap := (zg4 h l1 l2 l3 l4).push { cls := .type "tuple", data := .seq #[.ref h.objs.size, .ref (zg1 h l1).objs.size, .ref (zg2 h l1 l2).objs.size, .ref (zg3 h l1 l2 l3).objs.size] }
abbrev zg6 (h : Heap) (l1 l2 l3 l4 : Addr) : Heap := (zg5 h l1 l2 l3 l4).push { cls := .type "tuple", data := .seq #[.none, .none, .none, .none] }
abbrev zg7 (h : Heap) (l1 l2 l3 l4 : Addr) : Heap := (zg6 h l1 l2 l3 l4).push { cls := .type "zip", data := .fields #[.none, .bool false, .bool false, .ref (zg4 h l1 l2 l3 l4).objs.size, .ref (zg5 h l1 l2 l3 l4).objs.size] }
theorem meets_z4 (l1 l2 l3 l4 : Addr) (a b c d : Array Value) :
    Meets (Builtin.«zip.__new__» ⟨[.type "zip", .ref l1, .ref l2, .ref l3, .ref l4], []⟩) (fun _ R s => (s.heap.IsList l1 a ∧ s.heap.IsList l2 b ∧ s.heap.IsList l3 c ∧ s.heap.IsList l4 d) ∧
      R (.ok (.ret (.ref (zg6 s.heap l1 l2 l3 l4).objs.size))) { s with heap := zg7 s.heap l1 l2 l3 l4 }) :=
  .of_wp fun prog w A R s h => by
    obtain ⟨hp, g, dr, tk, os⟩ := s
    obtain ⟨⟨q1, q2, q3, q4⟩, h⟩ := h
    have hs := sub_zip
    have r1 : Heap.IsList (Shared.heap ⟨hp, g, dr, tk, os⟩) l1 a := q1
    have r2 : Heap.IsList (Shared.heap ⟨zg1 hp l1, g, dr, tk, os⟩) l2 b := Heap.IsList.push q2 _
    have r3 : Heap.IsList (Shared.heap ⟨zg2 hp l1 l2, g, dr, tk, os⟩) l3 c := Heap.IsList.push (Heap.IsList.push q3 _) _
    have r4 : Heap.IsList (Shared.heap ⟨zg3 hp l1 l2 l3, g, dr, tk, os⟩) l4 d := Heap.IsList.push (Heap.IsList.push (Heap.IsList.push q4 _) _) _
    wp_walk using wpAny_pyIter_list r1, wpAny_pyIter_list r2, wpAny_pyIter_list r3, wpAny_pyIter_list r4
    exact ⟨_, rfl, h⟩
section
variable {P : Program} {w : World} {A : Around} {E : Value → Shared → Prop} {s : Shared}
theorem call_z4 {l1 l2 l3 l4 : Addr} {a b c d : Array Value} {Q : Value → Shared → Prop} (q1 : s.heap.IsList l1 a) (q2 : s.heap.IsList l2 b) (q3 : s.heap.IsList l3 c) (q4 : s.heap.IsList l4 d)
    (q : ∀ h', ZJ h' s.heap.objs.size (fun k => match k with | 0 => l1 | 1 => l2 | 2 => l3 | _ => l4) (fun k => match k with | 0 => a | 1 => b | 2 => c | _ => d) (fun _ => 0) .none false .none .none .none .none h' →
      h'.objs.size = s.heap.objs.size + 7 → (∀ c o, s.heap.get? c = some o → h'.get? c = some o) → Q (.ref (s.heap.objs.size + 6)) { s with heap := h' }) :
    wpAny (model P w) A (call (.type "zip") [.ref l1, .ref l2, .ref l3, .ref l4]) Q E s := by
  refine callType_new F.called_zip (by decide) (typeCall_z4 _ _ _ _) (newCall_z4 _ _ _ _) (fun obj => init_z4 obj _ _ _ _) F.entry_zip_new (meets_z4 l1 l2 l3 l4 a b c d) ⟨⟨q1, q2, q3, q4⟩, ?_⟩
  have z1 : (zg1 s.heap l1).objs.size = s.heap.objs.size + 1 := Heap.size_push ..
  have z2 : (zg2 s.heap l1 l2).objs.size = s.heap.objs.size + 2 := by rw [Heap.size_push, z1]
  have z3 : (zg3 s.heap l1 l2 l3).objs.size = s.heap.objs.size + 3 := by rw [Heap.size_push, z2]
  have z4 : (zg4 s.heap l1 l2 l3 l4).objs.size = s.heap.objs.size + 4 := by rw [Heap.size_push, z3]
  have z5 : (zg5 s.heap l1 l2 l3 l4).objs.size = s.heap.objs.size + 5 := by rw [Heap.size_push, z4]
  have z6 : (zg6 s.heap l1 l2 l3 l4).objs.size = s.heap.objs.size + 6 := by rw [Heap.size_push, z5]
  have z7 : (zg7 s.heap l1 l2 l3 l4).objs.size = s.heap.objs.size + 7 := by rw [Heap.size_push, z6]
  have u7 : ∀ c o, (zg6 s.heap l1 l2 l3 l4).get? c = some o → (zg7 s.heap l1 l2 l3 l4).get? c = some o := fun c o e => Heap.get?_push_of_some _ e
  have u6 : ∀ c o, (zg5 s.heap l1 l2 l3 l4).get? c = some o → (zg7 s.heap l1 l2 l3 l4).get? c = some o := fun c o e => u7 c o (Heap.get?_push_of_some _ e)
  have u5 : ∀ c o, (zg4 s.heap l1 l2 l3 l4).get? c = some o → (zg7 s.heap l1 l2 l3 l4).get? c = some o := fun c o e => u6 c o (Heap.get?_push_of_some _ e)
  have u4 : ∀ c o, (zg3 s.heap l1 l2 l3).get? c = some o → (zg7 s.heap l1 l2 l3 l4).get? c = some o := fun c o e => u5 c o (Heap.get?_push_of_some _ e)
  have u3 : ∀ c o, (zg2 s.heap l1 l2).get? c = some o → (zg7 s.heap l1 l2 l3 l4).get? c = some o := fun c o e => u4 c o (Heap.get?_push_of_some _ e)
  have u2 : ∀ c o, (zg1 s.heap l1).get? c = some o → (zg7 s.heap l1 l2 l3 l4).get? c = some o := fun c o e => u3 c o (Heap.get?_push_of_some _ e)
  have u1 : ∀ c o, s.heap.get? c = some o → (zg7 s.heap l1 l2 l3 l4).get? c = some o := fun c o e => u2 c o (Heap.get?_push_of_some _ e)
  have g7 : (zg7 s.heap l1 l2 l3 l4).get? (zg6 s.heap l1 l2 l3 l4).objs.size = some _ := Heap.get?_push_size _ rfl
  have g6 : (zg7 s.heap l1 l2 l3 l4).get? (zg5 s.heap l1 l2 l3 l4).objs.size = some _ := u7 _ _ (Heap.get?_push_size _ rfl)
  have g5 : (zg7 s.heap l1 l2 l3 l4).get? (zg4 s.heap l1 l2 l3 l4).objs.size = some _ := u6 _ _ (Heap.get?_push_size _ rfl)
  have g4 : (zg7 s.heap l1 l2 l3 l4).get? (zg3 s.heap l1 l2 l3).objs.size = some _ := u5 _ _ (Heap.get?_push_size _ rfl)
  have g3 : (zg7 s.heap l1 l2 l3 l4).get? (zg2 s.heap l1 l2).objs.size = some _ := u4 _ _ (Heap.get?_push_size _ rfl)
  have g2 : (zg7 s.heap l1 l2 l3 l4).get? (zg1 s.heap l1).objs.size = some _ := u3 _ _ (Heap.get?_push_size _ rfl)
  have g1 : (zg7 s.heap l1 l2 l3 l4).get? s.heap.objs.size = some _ := u2 _ _ (Heap.get?_push_size _ rfl)
  have lt : ∀ {l : Addr} {x : Array Value}, s.heap.IsList l x → l < s.heap.objs.size := fun ⟨_, e, _⟩ => Heap.lt_size e
  have ul : ∀ {l : Addr} {x : Array Value}, s.heap.IsList l x → (zg7 s.heap l1 l2 l3 l4).IsList l x := fun h => h.at fun o e => u1 _ o e
  show _ ∧ _
  generalize zg7 s.heap l1 l2 l3 l4 = H at *
  simp only [z1, z2, z3, z4, z5, z6] at *
  refine ⟨⟨_, g7, rfl⟩, q _ ⟨fun k hk => ?_, g7, g5, g6, fun k hk => ?_, fun k hk => ?_, fun _ _ _ e => e⟩ z7 u1⟩
  · match k, hk with
    | 0, _ => exact lt q1
    | 1, _ => exact lt q2
    | 2, _ => exact lt q3
    | 3, _ => exact lt q4
  · match k, hk with
    | 0, _ => exact ⟨_, g1, rfl, rfl⟩
    | 1, _ => exact ⟨_, g2, rfl, rfl⟩
    | 2, _ => exact ⟨_, g3, rfl, rfl⟩
    | 3, _ => exact ⟨_, g4, rfl, rfl⟩
  · match k, hk with
    | 0, _ => exact ul q1
    | 1, _ => exact ul q2
    | 2, _ => exact ul q3
    | 3, _ => exact ul q4
end
end OH
set_option Elab.async false
set_option linter.all false
set_option maxRecDepth 100000
set_option maxHeartbeats 4000000
/-! list(zip(a, b, c, d)): the loop, the call, the rule. -/
namespace OH
open PySem PySem.Spec PyProof.Rows L2
section
variable {P : Program} {w : World} {A : Around} {E : Value → Shared → Prop} {R : Result → Shared → Prop} {h0 : Heap} {B S n : Nat} {l : Nat → Nat} {xs : Nat → Array Value}
/-- what has come of it -/
def ZRes (h0 : Heap) (B S : Nat) (xs : Nat → Array Value) (n : Nat) (vs : List Value) (h : Heap) : Prop :=
  vs.length = n ∧ (∀ (c : Nat) o, c < B → h0.get? c = some o → h.get? c = some o) ∧ vs.Nodup ∧
    ∀ j, j < n → ∃ (t : Nat) (a b c d : Value), vs[j]? = some (.ref t) ∧ S < t ∧ (xs 0)[j]? = some a ∧ (xs 1)[j]? = some b ∧ (xs 2)[j]? = some c ∧ (xs 3)[j]? = some d ∧ Tup4 h t a b c d
theorem z_loop {g : Array GenState} {dr : Drawn} {os : OsState} (hh : A.handled = none) (hS : B + 6 < S) (hn : ∀ k, k < 4 → (xs k).size = n) (hz : n ≤ sizeLine) (res : Value)
    (hR : ∀ h' tk acc c, ZRes h0 B S xs n acc.toList h' → h'.get? S = some { cls := .type "list", dict := none, data := .seq acc c, slots := #[] } → R (.ok (.ret res)) ⟨h', g, dr, tk, os⟩) :
    ∀ (k i : Nat) (h : Heap) (tk c : Nat) (acc : Array Value), n - i = k → i ≤ n → ZSt h0 B S l xs i acc.toList h → h.get? S = some { cls := .type "list", dict := none, data := .seq acc c, slots := #[] } →
      codeAny (model P w) A (.builtin "list.extend.loop" ⟨[.ref S, .ref (B + 6), res], []⟩) R ⟨h, g, dr, tk, os⟩ := by
  intro k
  induction k with
  | zero =>
    intro i h tk c acc e hi Z hs
    obtain rfl : i = n := by omega
    refine codeAny_builtin F.entry_extend_loop ?_
    rw [Around.under_plainId F.plain_extend_loop _]
    show wpAny _ A.in1 (pyNext (.ref (B + 6)) >>= _) _ _ _
    refine wpAny_bind (ZSt.done (A := A.in1) (s := ⟨h, g, dr, tk, os⟩) hh hS Z (Nat.le_of_eq (hn 0 (by omega))) fun h' kp => wpAny_pure (hR h' tk acc c ?_ (kp S _ (.inr hS) hs)))
    obtain ⟨f0, b, y1, y2, y3, y4, J, hf, hv, hk, nd, ht⟩ := Z
    refine ⟨hv, fun c o hc e => kp c o (.inl hc) (hk c o hc e), nd, fun j hj => ?_⟩
    obtain ⟨t, a, b, c, d, q1, q2, q3, q4, q5, q6, q7⟩ := ht j hj
    exact ⟨t, a, b, c, d, q1, q2, q3, q4, q5, q6, kp t _ (.inr (by omega)) q7⟩
  | succ k ih =>
    intro i h tk c acc e hi Z hs
    have lt : i < n := by omega
    have sz : acc.size = i := by
      obtain ⟨_, _, _, _, _, _, _, _, hv, _⟩ := Z
      rw [← Array.length_toList]
      exact hv
    refine codeAny_builtin F.entry_extend_loop ?_
    rw [Around.under_plainId F.plain_extend_loop _]
    show wpAny _ A.in1 (pyNext (.ref (B + 6)) >>= _) _ _ _
    refine wpAny_bind (ZSt.item (A := A.in1) (s := ⟨h, g, dr, tk, os⟩) hS (Heap.lt_size hs) Z (fun k hk => by rw [hn k hk]; exact lt) fun v h' Z' kp => ?_)
    have hs' := kp _ hs
    show wpAny _ A.in1 (updateSeq S (·.push v) >>= _) _ _ _
    refine wpAny_bind ?_
    refine wpAny_updateSeq hs' rfl (wpAny_pure ⟨plainId_quiet F.plain_extend_loop _, ih (i + 1) _ tk _ (acc.push v) (by omega) lt (by rw [Array.toList_push]; exact Z'.keep hS fun c o hc z => (Heap.get?_update_other _ _ (fun y : S = c => hc y.symm)).trans z) (Heap.get?_update_self _ hs' rfl)⟩)
      (by rw [sz]; omega) (by show (acc.push v).size ≤ sizeLine + 1; rw [Array.size_push, sz]; omega)
theorem no_len_zip : typeLookup (.type "zip") "__len__" = pure none := by rw [typeLookup_type, builtinLookup_eq_fast]; kernel_rfl
theorem no_hint_zip : typeLookup (.type "zip") "__length_hint__" = pure none := by rw [typeLookup_type, builtinLookup_eq_fast]; kernel_rfl
theorem z_iter {s : Shared} {f0 : Value} {b : Bool} {Q : Value → Shared → Prop} (z : ZipO s.heap B f0 b) (q : Q (.ref (B + 6)) s) : wpAny (model P w) A (pyIter (.ref (B + 6))) Q E s := by
  have ty : s.TypeIs (.ref (B + 6)) "zip" := zt_type z rfl
  refine wpAny_pyIter_slot ty F.slot_zip_iter (wpAny_call_entry F.slot_zip_iter ty F.entry_zip_iter ?_ (F.args_zip_iter_1 _))
  show wpAny _ _ (ret (.ref (B + 6))) _ _ s
  exact wpAny_pure ⟨_, rfl, "zip", _, ty, F.slot_zip_next.lookup, q⟩
theorem z_extend {s : Shared} {c0 : Nat} (hh : A.handled = none) (hS : B + 6 < S) (hn : ∀ k, k < 4 → (xs k).size = n) (hz : n ≤ sizeLine) (res : Value) (Z : ZSt h0 B S l xs 0 [] s.heap) (hs : s.heap.get? S = some { cls := .type "list", data := .seq #[] c0 })
    (hR : ∀ h' tk acc c, ZRes h0 B S xs n acc.toList h' → h'.get? S = some { cls := .type "list", dict := none, data := .seq acc c, slots := #[] } → R (.ok (.ret res)) { s with heap := h', toks := tk }) :
    wpAny (model P w) A.in1 (Builtin.List.listExtendWith (.ref S) (.ref (B + 6)) res)
      (fun fin s' => match fin with | .done f => R (.ok f) s' | .again c' => c'.quiet = true ∧ codeAny (model P w) A c' R s') (fun e s' => R (.error e) s') s := by
  have zz : ∃ f0 b, ZipO s.heap B f0 b := by
    obtain ⟨f0, b, _, _, _, _, J, _⟩ := Z
    exact ⟨f0, b, J.z⟩
  obtain ⟨f0, b, z⟩ := zz
  have ty : s.TypeIs (.ref (B + 6)) "zip" := zt_type z rfl
  unfold Builtin.List.listExtendWith
  refine wpAny_bind (wpAny_typeOf ty ?_)
  have n1 : Builtin.List.listSameRef (.ref S) (.ref (B + 6)) = false := by
    have : ¬ S = B + 6 := by omega
    simp [Builtin.List.listSameRef, this]
  have n2 : (Value.type "zip" == Value.type "list") = false := by decide
  have n3 : (Value.type "zip" == Value.type "tuple") = false := by decide
  simp only [n1, n2, n3, Bool.or_false, Bool.false_eq_true, if_false]
  refine wpAny_bind (z_iter z (wpAny_bind (wpAny_holding ?_)))
  unfold Builtin.List.listLengthHint
  refine wpAny_bind (wpAny_specialOf ty no_len_zip ?_)
  show wpAny _ A.in1 (specialOf (Value.ref (B + 6)) (Str.ofString "__length_hint__") >>= _) _ _ _
  refine wpAny_bind (wpAny_specialOf ty no_hint_zip (wpAny_pure ?_))
  show wpAny _ A.in1 (rule "list.extend.makes-room" >>= fun _ => Builtin.List.listTouch (.ref S) >>= fun _ => again (.builtin "list.extend.loop" ⟨[.ref S, .ref (B + 6), res], []⟩)) _ _ _
  refine wpAny_bind (wpAny_rule (wpAny_bind ?_))
  show wpAny _ A.in1 (updateSeq S (·.push .none) >>= fun _ => updateSeq S (·.pop)) _ _ _
  refine wpAny_bind (wpAny_updateSeq hs rfl ?_)
  have hs2 := Heap.get?_update_self (Obj.mapSeq (·.push Value.none)) hs rfl
  refine wpAny_updateSeq (hz := by seq_fits) hs2 rfl ?_
  have hs3 := Heap.get?_update_self (Obj.mapSeq (·.pop)) hs2 rfl
  refine wpAny_pure ⟨plainId_quiet F.plain_extend_loop _, z_loop (g := s.gens) (dr := s.drawn) (os := s.os) hh hS hn hz res hR n 0 _ s.toks _ #[] rfl (Nat.zero_le _) (Z.keep hS fun c o hc e => ?_) hs3⟩
  exact (Heap.get?_update_other _ _ (Ne.symm hc)).trans ((Heap.get?_update_other _ _ (Ne.symm hc)).trans e)
end
section
variable {P : Program} {w : World} {A : Around} {E : Value → Shared → Prop} {s : Shared} {h0 : Heap} {B n : Nat} {l : Nat → Nat} {xs : Nat → Array Value}
theorem call_list_z {Q : Value → Shared → Prop} (hh : A.handled = none) (hn : ∀ k, k < 4 → (xs k).size = n) (hz : n ≤ sizeLine) (J : ZJ s.heap B l xs (fun _ => 0) .none false .none .none .none .none s.heap) (hB : B + 6 < s.heap.objs.size) (hk : ∀ (c : Nat) o, c < B → h0.get? c = some o → s.heap.get? c = some o)
    (q : ∀ h' tk acc c, ZRes h0 B s.heap.objs.size xs n acc.toList h' → h'.get? s.heap.objs.size = some { cls := .type "list", dict := none, data := .seq acc c, slots := #[] } → Q (.ref s.heap.objs.size) { s with heap := h', toks := tk }) :
    wpAny (model P w) A (call (.type "list") [.ref (B + 6)]) Q E s := by
  refine callType_codes (Q₁ := fun obj s₁ => obj = .ref s.heap.objs.size ∧ s₁ = { s with heap := s.heap.push { cls := .type "list", data := .seq #[] } }) F.called_list (F.typeCall_list_1 _) F.entry_list_init (code_list_new _ ⟨rfl, rfl⟩) fun obj s₁ h₁ => ?_
  obtain ⟨rfl, rfl⟩ := h₁
  have hs : (s.heap.push { cls := .type "list", data := .seq #[] }).get? s.heap.objs.size = some { cls := .type "list", data := .seq #[] } := Heap.get?_push_size _ rfl
  have Z : ZSt h0 B s.heap.objs.size l xs 0 [] (s.heap.push { cls := .type "list", data := .seq #[] }) := by
    have J' : ZJ s.heap B l xs (fun _ => 0) .none false .none .none .none .none (s.heap.push { cls := .type "list", data := .seq #[] }) := J.any fun c o _ e => Heap.get?_push_of_some _ e
    exact ⟨.none, false, .none, .none, .none, .none, ⟨J'.lt, J'.z, J'.ti, J'.to, J'.it, J'.ls, fun _ _ _ e => e⟩, .inl ⟨rfl, rfl⟩, rfl, fun c o hc e => Heap.get?_push_of_some _ (hk c o hc e), List.nodup_nil, fun j hj => absurd hj (Nat.not_lt_zero j)⟩
  refine ⟨⟨_, hs, rfl⟩, F.args_list_init_2 _ _, ?_⟩
  show wpAny _ _ (do let old ← Builtin.List.listItems (.ref s.heap.objs.size); Builtin.List.listUpdate (.ref s.heap.objs.size) (fun _ => #[]); letGo old.toList.reverse; Builtin.List.listExtendWith (.ref s.heap.objs.size) (.ref (B + 6)) .none) _ _ _
  refine wpAny_bind ?_
  unfold Builtin.List.listItems
  refine wpAny_bind (wpAny_seqItems hs rfl (wpAny_pure ?_))
  show wpAny _ _ (updateSeq s.heap.objs.size (fun _ => #[]) >>= fun _ => letGo (#[] : Array Value).toList.reverse >>= fun _ => Builtin.List.listExtendWith (.ref s.heap.objs.size) (.ref (B + 6)) .none) _ _ _
  refine wpAny_bind (wpAny_updateSeq hs rfl ?_)
  have hs2 := Heap.get?_update_self (Obj.mapSeq (fun _ => (#[] : Array Value))) hs rfl
  refine wpAny_bind (wpAny_letGo (z_extend (A := A.in1) hh hB hn hz .none (Z.keep hB fun c o hc e => ?_) hs2 fun h' tk acc c r e => ⟨rfl, q h' tk acc c r e⟩))
  exact (Heap.get?_update_other _ _ (Ne.symm hc)).trans e
end
end OH
set_option Elab.async false
set_option linter.all false
set_option maxRecDepth 100000
set_option maxHeartbeats 4000000
namespace OH
open PySem PySem.Spec PyProof.Rows L2
section
variable {X : Cx} {pins : List (Addr × Obj)} {σ : L2.St} {H H2 : Hp} {s s' : Shared}
/-- many new objects at once -/
theorem laid_many (I : Inv X pins σ H s) (ho : s'.os = s.os) (hg : s'.gens = s.gens) (k : ∀ b u, s.heap.get? b = some u → s'.heap.get? b = some u) (old : ∀ a, a < s.heap.objs.size → H2 a = H a)
    (new : ∀ a o, s.heap.objs.size ≤ a → H2 a = some o → ObjOk X.prog X.w H2 s'.heap a o) : Inv X pins σ H2 s' := by
  have up : ∀ b o, H b = some o → H2 b = some o := fun b o e => (old b (I.hok.lt e)).trans e
  refine I.call' (ch := []) ho ⟨fun b o q _ _ _ => k b o q, fun b o q _ _ _ => ⟨o.slots, k b o q⟩, fun b o q n _ => (old b (Heap.lt_size q)).trans n, fun b o q _ => ⟨o, k b o q⟩, fun b xs q => up b _ q, fun b o u q => up b _ q, fun b ps q => ⟨#[], by rw [up b _ q]; simp⟩⟩ (fun a o e => ?_) (by rw [hg]; exact I.bare) (fun _ z => nomatch z)
  rcases Nat.lt_or_ge a s.heap.objs.size with c | c
  · rw [old a c] at e
    exact (I.hok a o e).stay (fun b u _ q => k b u q) (fun b q => up b _ q) fun b xs q => up b _ q
  · exact new a o c e
/-- the heap with a list and its tuples -/
def withRows (H : Hp) (S : Addr) (ts : List Addr) (row : Nat → List V) : Hp := fun x => if x = S then some (.lst (ts.map V.ref)) else match ts.findIdx? (· == x) with
  | some j => some (.tup (row j))
  | none => H x
theorem find_nodup : ∀ {ts : List Addr} {j : Nat} {t : Addr}, ts.Nodup → ts[j]? = some t → ts.findIdx? (· == t) = some j
  | [], j, t, _, h => by simp at h
  | u :: ts, 0, t, _, h => by
    have e : u = t := by simpa using h
    rw [List.findIdx?_cons, e, beq_self_eq_true]
    rfl
  | u :: ts, j + 1, t, nd, h => by
    have h' : ts[j]? = some t := by simpa using h
    have ne : u ≠ t := fun e => (List.nodup_cons.mp nd).1 (e ▸ List.mem_of_getElem? h')
    rw [List.findIdx?_cons, beq_false_of_ne ne, find_nodup (List.nodup_cons.mp nd).2 h']
    rfl
theorem find_mem {ts : List Addr} {j : Nat} {t : Addr} (h : ts.findIdx? (· == t) = some j) : ts[j]? = some t := by
  obtain ⟨hj, e, _⟩ := List.findIdx?_eq_some_iff_getElem.mp h
  rw [List.getElem?_eq_getElem hj, eq_of_beq e]
def rZip4 (K : PySem.W.Frag) : List V → Hp → VK → Prop := fun vs H Q => ∃ (l1 l2 l3 l4 : Addr) (a b c d : List V), vs = [.ref l1, .ref l2, .ref l3, .ref l4] ∧ SqL K H l1 a ∧ SqL K H l2 b ∧ SqL K H l3 c ∧ SqL K H l4 d ∧ b.length = a.length ∧ c.length = a.length ∧ d.length = a.length ∧
  ∀ (S : Addr) (ts : List Addr) (H2 : Hp), Same H H2 → H S = none → ts.length = a.length → H2 S = some (.lst (ts.map V.ref)) → (∀ (j : Nat) t va vb vc vd, ts[j]? = some t → a[j]? = some va → b[j]? = some vb → c[j]? = some vc → d[j]? = some vd → H2 t = some (.tup [va, vb, vc, vd])) → Q (.ref S) H2
theorem refs_are : ∀ {vs : List Value}, (∀ j, j < vs.length → ∃ t : Nat, vs[j]? = some (.ref t)) → ∃ ts : List Addr, vs = ts.map Value.ref
  | [], _ => ⟨[], rfl⟩
  | v :: vs, h => by
    obtain ⟨t, e⟩ := h 0 (Nat.succ_pos _)
    obtain ⟨ts, e2⟩ := refs_are (vs := vs) fun j hj => by
      obtain ⟨t, e⟩ := h (j + 1) (Nat.succ_lt_succ hj)
      exact ⟨t, by simpa using e⟩
    have e' : v = .ref t := by simpa using e
    exact ⟨t :: ts, by rw [e', e2]; rfl⟩
theorem vals_refs : ∀ ts : List Addr, Vals (ts.map V.ref) (ts.map Value.ref)
  | [] => .nil
  | _ :: ts => .cons rfl (vals_refs ts)
theorem zip4_run {vs : List V} {us : List Value} {Q : VK} (I : Inv X pins σ H s) (hc : X.calm = true) (r : Vals vs us) (h : rZip4 X.K vs H Q) :
    wpAny (model X.prog X.w) X.A (call (.type "zip") us) (fun v s1 => wpAny (model X.prog X.w) X.A (call (.type "list") [v]) (EP X pins σ Q) X.xe s1) X.xe s := by
  obtain ⟨l1, l2, l3, l4, a, b, c, d, rfl, h1, h2, h3, h4, n2, n3, n4, q⟩ := h
  match us, r with
  | _, .cons r1 (.cons r2 (.cons r3 (.cons r4 .nil))) =>
  cases r1
  cases r2
  cases r3
  cases r4
  obtain ⟨i1, v1, p1, z1⟩ := I.list h1
  obtain ⟨i2, v2, p2, _⟩ := I.list h2
  obtain ⟨i3, v3, p3, _⟩ := I.list h3
  obtain ⟨i4, v4, p4, _⟩ := I.list h4
  have m1 := v1.length
  have m2 := v2.length
  have m3 := v3.length
  have m4 := v4.length
  refine call_z4 p1.isList p2.isList p3.isList p4.isList fun g J gz gk => ?_
  refine call_list_z (s := { s with heap := g }) (h0 := s.heap) (n := a.length) (I.ok.hd hc) (fun k hk => ?_) z1 J (by show _ < g.objs.size; rw [gz]; omega) (fun c o _ e => gk c o e) fun h' tk acc cc R hs => ?_
  · match k, hk with
    | 0, _ => show i1.toArray.size = _; rw [List.size_toArray]; omega
    | 1, _ => show i2.toArray.size = _; rw [List.size_toArray]; omega
    | 2, _ => show i3.toArray.size = _; rw [List.size_toArray]; omega
    | 3, _ => show i4.toArray.size = _; rw [List.size_toArray]; omega
  obtain ⟨rl, rk, rn, rr⟩ := R
  have k : ∀ x u, s.heap.get? x = some u → h'.get? x = some u := fun x u e => rk x u (Heap.lt_size e) e
  obtain ⟨ts, et⟩ := refs_are (vs := acc.toList) fun j hj => by
    obtain ⟨t, _, _, _, _, e, _⟩ := rr j (by omega)
    exact ⟨t, e⟩
  have tl : ts.length = a.length := by
    rw [et, List.length_map] at rl
    exact rl
  have nd : ts.Nodup := by
    rw [et] at rn
    exact (List.pairwise_map.mp rn).imp fun h e => h (by rw [e])
  let row : Nat → List V := fun j => [a.getD j .non, b.getD j .non, c.getD j .non, d.getD j .non]
  have big : ∀ (j : Nat) (t : Nat), ts[j]? = some t → g.objs.size < t ∧ ∀ H', ObjOk X.prog X.w H' h' t (.tup (row j)) := fun j t e => by
    have hj : j < a.length := by
      have := (List.getElem?_eq_some_iff.mp e).1
      omega
    obtain ⟨t', xa, xb, xc, xd, e1, e2, e3, e4, e5, e6, e7⟩ := rr j hj
    rw [et, List.getElem?_map, e] at e1
    have e8 : t = t' := Value.ref.inj (Option.some.inj e1)
    subst e8
    have at_ : ∀ {l : List V} {it : List Value} {x : Value}, Vals l it → l.length = a.length → it.toArray[j]? = some x → RelV (l.getD j .non) x := fun {l it x} r n e => by
      have hl : j < l.length := by omega
      obtain ⟨u, hu, ru⟩ := r.get (i := j) (List.getElem?_eq_getElem hl)
      have e' : it[j]? = some x := by simpa using e
      rw [e'] at hu
      rw [List.getD_eq_getElem?_getD, List.getElem?_eq_getElem hl]
      exact Option.some.inj hu ▸ ru
    exact ⟨e2, fun H' => ⟨Nat.le_of_ble_eq_true rfl, [xa, xb, xc, xd], .cons (at_ v1 rfl e3) (.cons (at_ v2 n2 e4) (.cons (at_ v3 n3 e5) (.cons (at_ v4 n4 e6) .nil))), ⟨_, e7, rfl, _, rfl⟩⟩⟩
  have gs : s.heap.objs.size < g.objs.size := by omega
  have lo : ∀ x : Nat, x < s.heap.objs.size → withRows H g.objs.size ts row x = H x := fun x hx => by
    unfold withRows
    rw [if_neg (by intro e; subst e; omega)]
    cases e : ts.findIdx? (· == x) with
    | none => rfl
    | some j => exact absurd (big j x (find_mem e)).1 (by omega)
  have atS : withRows H g.objs.size ts row g.objs.size = some (.lst (ts.map V.ref)) := by
    unfold withRows
    rw [if_pos rfl]
  have atT : ∀ (j : Nat) t, ts[j]? = some t → withRows H g.objs.size ts row t = some (.tup (row j)) := fun j t e => by
    unfold withRows
    rw [if_neg (by intro z; have := (big j t e).1; rw [z] at this; exact Nat.lt_irrefl _ this), find_nodup nd e]
  have J2 : Inv X pins σ (withRows H g.objs.size ts row) { { s with heap := g } with heap := h', toks := tk } := by
    refine laid_many I rfl rfl k lo fun x o hx e => ?_
    unfold withRows at e
    split at e
    · rename_i ex
      cases e
      rw [ex]
      refine ⟨by rw [List.length_map, tl]; exact z1, acc.toList, cc, by rw [et]; exact vals_refs ts, hs⟩
    · split at e
      · rename_i j ej
        cases e
        exact (big j x (find_mem ej)).2 _
      · rw [I.hok.fresh hx] at e
        cases e
  refine ⟨.ref g.objs.size, _, J2, rfl, q _ ts _ (fun x u e => (lo x (I.hok.lt e)).trans e) (I.hok.fresh (Nat.le_of_lt gs)) tl atS fun j t va vb vc vd e ea eb ec ed => ?_⟩
  rw [atT j t e]
  show some (HO.tup [a.getD j .non, b.getD j .non, c.getD j .non, d.getD j .non]) = _
  rw [List.getD_eq_getElem?_getD, List.getD_eq_getElem?_getD, List.getD_eq_getElem?_getD, List.getD_eq_getElem?_getD, ea, eb, ec, ed]
  rfl
end
section
variable {X : Cx} {e1 e2 e3 e4 : Expr} {ta : TA} {p p2 q pos : Pos}
theorem pe_zip4 (hc : X.calm = true) (hg : Gl X "list") (hm : X.mg "list" = none) (hg2 : Gl X "zip") (hm2 : X.mg "zip" = none) (ha : PA X [e1, e2, e3, e4] ta)
    (hs : starEach [e1, e2, e3, e4] X.env = (false, eval e1 X.env) :: starEach [e2, e3, e4] X.env := by rfl) (hpl : (backTo q (starEach [e2, e3, e4] X.env)).any (·.1) = false := by rfl) :
    PE X (.Call (.Name "list" p) [.Call (.Name "zip" p2) [e1, e2, e3, e4] [] q] [] pos) (tCB (rZip4 X.K) ta) := by
  refine ⟨fun pins s σ H Q I h => Call_ (ld_blt I hg hm (show bootBuiltins "list" = some (.type "list") by decide +kernel) ?_)⟩
  refine PyProof.Rows.callWith_type1 (PyProof.Rows.args_cons ?_ rfl) rfl rfl
  refine Call_ (ld_blt I hg2 hm2 PyProof.Rows.boot_zip (PyProof.Rows.callWith_type1 (thn (ha.run q pins s σ H _ I h) fun us s1 ⟨vs, H1, I1, r1, q1⟩ => ?_) hs hpl))
  exact wpAny_mono (zip4_run I1 hc r1 q1) (fun v s2 h2 => PyProof.Rows.args_nil h2) fun _ _ z => z
end
end OH
set_option Elab.async false
set_option linter.all false
set_option maxRecDepth 100000
set_option maxHeartbeats 4000000
namespace OH
open PySem PySem.Spec PyProof.Rows L2
section
variable {κ : Type} [DecidableEq κ] {P : Program} {w : World} {K : PySem.W.Frag} {σ : L2.St} {H : Hp} {Q : VK} {ta : TE} {v : V} {t : TE} {tl th : TO}
def rSortSet (K : PySem.W.Frag) (D : KD P w κ) : V → Hp → VK → Prop := fun x H1 Q => ∃ l, ∃ ns : List κ, x = .ref l ∧ SqL K H1 l (ns.map D.vv) ∧ ns.length ≤ 4090 ∧
  ∀ (ys : List κ) (p : Addr), ys.Nodup → (∀ z, z ∈ ys ↔ z ∈ ns) → D.ord ys → H1 p = none → Q (.ref p) (upd H1 p (.lst (ys.map D.vv)))
theorem i_sortS {D : KD P w κ} (h : ta σ H fun x H1 => rSortSet K D x H1 Q) : tSortSet K D ta σ H Q := h
def rLenSet (K : PySem.W.Frag) (D : KD P w κ) : V → Hp → VK → Prop := fun x H1 Q => ∃ l, ∃ ns : List κ, x = .ref l ∧ SqL K H1 l (ns.map D.vv) ∧ ns.length ≤ 4090 ∧ ∀ ys : List κ, ys.Nodup → (∀ z, z ∈ ys ↔ z ∈ ns) → Q (.int ys.length) H1
theorem i_lenS {D : KD P w κ} (h : ta σ H fun x H1 => rLenSet K D x H1 Q) : tLenSetG K D ta σ H Q := h
theorem i_slL {r : V → Option Int → Option Int → Hp → VK → Prop} (h : t σ H fun x H1 => tl σ H1 fun l H2 => th σ H2 fun u H3 => r x l u H3 Q) : tSl r t tl th σ H Q := h
theorem i_noP {R : Option Int → Hp → Prop} (h : R none H) : tNoPart σ H R := h
def intK (R : Option Int → Hp → Prop) : VK := fun x H1 => ∃ i, x = .int i ∧ R (some i) H1
theorem i_part {R : Option Int → Hp → Prop} (h : t σ H (intK R)) : tPart t σ H R := h
theorem i_intK {i : Int} {R : Option Int → Hp → Prop} (h : R (some i) H) : intK R (.int i) H := ⟨i, rfl, h⟩
theorem i_cut1 {p : Addr} {xs : List V} (h : H p = some (.lst xs)) (q : ∀ l, H l = none → Q (.ref l) (upd H l (.lst (xs.drop 1)))) : rSlL K (.ref p) (some 1) none H Q := by
  refine ⟨p, xs, rfl, SqL.of h, fun l nl => ?_⟩
  have e : cutV xs (some 1) none = xs.drop 1 := by
    unfold cutV
    rw [HT.sIx_none, show (1 : Int) = ((1 : Nat) : Int) from rfl, HT.sIx_nat]
    cases xs with
    | nil => rfl
    | cons x r =>
      rw [List.length_cons, Nat.min_eq_left (by omega)]
      exact List.take_of_length_le (by simp)
  rw [e]
  exact q l nl
theorem i_cutL {p : Addr} {xs : List V} (h : H p = some (.lst xs)) (q : ∀ l, H l = none → Q (.ref l) (upd H l (.lst xs.dropLast))) : rSlL K (.ref p) none (some (-1)) H Q := by
  refine ⟨p, xs, rfl, SqL.of h, fun l nl => ?_⟩
  have e : cutV xs none (some (-1)) = xs.dropLast := by
    unfold cutV HT.sIx
    rw [List.drop_zero, List.dropLast_eq_take, Nat.sub_zero]
    show List.take (if (-1 : Int) < 0 then ((-1 : Int) + (xs.length : Int)).toNat else _) xs = _
    rw [if_pos (by decide)]
    congr 1
    omega
  rw [e]
  exact q l nl
theorem i_catA {a b : Addr} {xs ys : List V} (h1 : H a = some (.tup xs)) (h2 : H b = some (.tup ys)) (n : xs.length + ys.length ≤ 1000000) (q : ∀ p H', Same H H' → H' p = some (.tup (xs ++ ys)) → Q (.ref p) H') : rCatA K (.ref a) (.ref b) H Q := by
  refine ⟨a, b, xs, ys, rfl, rfl, SqT.of h1, SqT.of h2, Nat.le_trans n (by decide), fun e => ?_, fun _ e => ?_, fun _ _ p np => ?_⟩
  · subst e
    exact q b H (Same.refl H) h2
  · subst e
    exact q a H (Same.refl H) (by rw [List.append_nil]; exact h1)
  · exact q p _ (same_new np _) upd_same
end
/-! ### the plain side -/
theorem dw_dw (f : Form) {a b : Int} (h : a ≤ b) : (f.dropWhile fun s => decide (s.hi < a)).dropWhile (fun s => decide (s.hi < b)) = f.dropWhile fun s => decide (s.hi < b) := by
  induction f with
  | nil => rfl
  | cons s r ih =>
    by_cases c : s.hi < a
    · rw [List.dropWhile_cons_of_pos (by exact decide_eq_true c), List.dropWhile_cons_of_pos (by exact decide_eq_true (by omega : s.hi < b))]
      exact ih
    · rw [List.dropWhile_cons_of_neg (by simpa using c)]
theorem cells_len : ∀ cuts : List Int, (cells cuts).length = cuts.length - 1
  | [] => rfl
  | [_] => rfl
  | a :: b :: r => by
    rw [cells, List.length_cons, cells_len (b :: r)]
    simp
theorem cells_get : ∀ (cuts : List Int) (j : Nat) (x y : Int), cuts[j]? = some x → cuts[j + 1]? = some y → (cells cuts)[j]? = some (x, y - 1)
  | [], j, x, y, h, _ => by simp at h
  | [_], j, x, y, _, h => by simp at h
  | a :: b :: r, 0, x, y, h1, h2 => by
    have e1 : a = x := by simpa using h1
    have e2 : b = y := by simpa using h2
    subst e1
    subst e2
    rfl
  | a :: b :: r, j + 1, x, y, h1, h2 => by
    rw [cells, List.getElem?_cons_succ]
    exact cells_get (b :: r) j x y (by simpa using h1) (by simpa using h2)
theorem cells_map : ∀ (cuts : List Int), (cells cuts).map (·.1) = cuts.dropLast
  | [] => rfl
  | [_] => rfl
  | a :: b :: r => by
    rw [cells, List.map_cons, cells_map (b :: r)]
    rfl
theorem ends_app (f g : Form) : ends (f ++ g) = ends f ++ ends g := by
  induction f with
  | nil => rfl
  | cons s r ih => rw [List.cons_append, ends, ends, ih]; rfl
theorem ends_len : ∀ f : Form, (ends f).length = 2 * f.length
  | [] => rfl
  | s :: r => by
    rw [ends, List.length_cons, List.length_cons, ends_len r, List.length_cons]
    omega
section
variable {P : Program} {w : World} {K : PySem.W.Frag} {mg : Str → Option Value} {base : Heap}
/-- a known object: through what has changed since -/
local macro_rules | `(tactic| walk_at "oh hp") => `(tactic| first | assumption | exact upd_same | (refine get_new (by assumption) ?_; walk_at "oh hp") | (refine get_mut (by assumption) ?_ (by intro z; cases z); walk_at "oh hp") | (refine same_get (by assumption) ?_; walk_at "oh hp") | (refine ts_get (by assumption) ?_; walk_at "oh hp") | (refine same_get (LL.sm (by assumption)) ?_; walk_at "oh hp") | exact LL.at_ (by assumption))
local macro_rules | `(tactic| walk_at "oh sc") => `(tactic| exact ⟨rfl, rfl, rfl, by decide +kernel, rfl, by decide +kernel, by decide +kernel⟩)
/-- one step of a reading -/
local macro_rules | `(tactic| walk_at "oh 1") => `(tactic| with_reducible first
  | refine i_var rfl ?_ | refine i_c ?_ | refine i_op ?_ | refine i_I0 ?_ | refine i_cons ?_ | refine i_nil ?_ | refine i_asg ?_ | refine i_name ?_ | refine i_seq ?_ | refine i_ifS ?_ | refine i_test ?_ | refine i_bl ?_ | refine i_call ?_ | refine i_CB ?_
  | refine i_tup ?_ | refine i_lst ?_ | refine i_eqI ?_ | refine i_eqS ?_ | refine i_neI ?_ | refine i_un ?_ | refine i_U ?_ | refine i_ret ?_ | refine i_retN ?_ | refine i_next ?_ | refine i_cont ?_ | refine i_drop ?_ | refine i_B ?_ | refine i_and ?_ | refine i_or ?_ | refine i_not ?_ | refine i_mn ?_ | refine i_mx ?_ | refine i_isN ?_ | refine i_notN ?_ | refine i_bm ?_ | refine i_bm0 ?_ | refine i_rn ?_ | refine i_nn ?_ | refine i_rn' ?_ | refine i_nn' ?_ | refine i_gcons ?_ | refine i_gnil ?_ | refine i_orV ?_ | refine i_andV ?_ | refine i_notV ?_ | refine i_chain ?_ | refine i_forL ?_ | refine i_iL ?_ | refine i_iT ?_ | refine i_lc ?_ | refine i_yes ?_ | refine i_sortS ?_ | refine i_lenS ?_ | refine i_slL ?_ | refine i_noP ?_ | refine i_part ?_ | refine i_aug rfl ?_ | refine i_ip ?_ | refine iteT ?_ | refine iteF ?_ | refine i_nT ?_ | refine i_nF ?_)
local macro_rules | `(tactic| walk_at "oh 2") => `(tactic| first | ((with_reducible refine' i_ixT ?h ?e ?q); (case h => walk_at "oh hp"); (case e => rfl)) | ((with_reducible refine' i_gtup ?h ?e ?q); (case h => walk_at "oh hp"); (case e => rfl)) | ((with_reducible refine' i_atL ?h ?q); (case h => walk_at "oh hp")) | ((with_reducible refine' i_atT ?h ?q); (case h => walk_at "oh hp")) | ((with_reducible refine' i_tyL ?h ?q); (case h => walk_at "oh hp")) | ((with_reducible refine' i_lnL ?h ?q); (case h => walk_at "oh hp")) | ((with_reducible refine' i_lnT ?h ?q); (case h => walk_at "oh hp")))
local macro_rules | `(tactic| walk_at "oh go") => `(tactic| repeat first | walk_at "oh 1" | walk_at "oh 2")
def sp_lines_over : Sp := fun vs H Q _ => ∃ (v : V) (a : Addr) (f : Form) (lows : List Int), vs = [v, .ref a] ∧ FormV H v f ∧ FormIn f ∧ H a = some (.lst (lows.map V.int)) ∧ lows.Pairwise (· < ·) ∧ lows.length ≤ 5000 ∧ (∀ x ∈ lows, Sz 400 x) ∧ RetL H Q (OptV LnV) (lows.map (lineOf f))
/- slots: 0 form, 1 lows, 2 told, 3 at, 4 low, 5 part -/
theorem sc_lines_over : FnScope ["form", "lows", "told", "at", "low", "part"] ["form", "lows"] (defScope s_lines_over) := by walk_at "oh sc"
theorem ok_lines_over (T : Pg K mg) : Ok P w K mg base CX0 4 "lines_over" ["form", "lows"] sp_lines_over := by
  obtain ⟨fd, F⟩ := F_lines_over T
  refine ⟨fd, F.ok sc_lines_over (fun vs H Q E h => ?_) (fun cdv A outer s H vs Q E hr h => ?_), F.binds fun _ _ _ _ _ _ us hl => (match us, hl with | [_, _], _ => rfl), F.kp, g_lines_over T⟩
  · obtain ⟨v, b, f, lows, rfl, _⟩ := h
    rfl
  · obtain ⟨v, b, f, lows, rfl, ⟨a, vs, rfl, ha, hI⟩, A, hb, pw, ln, sz, q⟩ := h
    have hu := hu_of hr
    refine ⟨_, pss_cons (ps_set (i := 2) sc_lines_over.nd rfl (Or.inl rfl) (pe_lst pa_nil))
      (pss_cons (ps_set (i := 3) sc_lines_over.nd rfl (Or.inl rfl) pe_int)
      (pss_cons (ps_for PassesOwn.never rfl (pi_list (pv 1)) (pg_name (i := 4) sc_lines_over.nd rfl (Or.inl rfl))
      (Evl.pss_cut (ps_while PassesOwn.never (PW.pt (pw_and (pt_cmpR op_lt (pv 3) (pe_callB cr_ln (by rfl) (z_len T) PySem.boot_len (pa_cons (pv 0) pa_nil)) (nomark _)) (pw_and1 (pt_cmpR op_lt (pe_ix ix_tup (pe_ix ix_tup (pv 0) (pv 3) (fun _ _ => rfl)) pe_int (fun _ _ => rfl)) (pv 4) (nomark _)))))
        (pss_one (ps_aug (i := 3) sc_lines_over.nd rfl (Or.inl rfl) pe_int ip_add)))
        (pss_one (ps_if (PW.pt (pw_and (pt_cmpR op_lt (pv 3) (pe_callB cr_ln (by rfl) (z_len T) PySem.boot_len (pa_cons (pv 0) pa_nil)) (nomark _)) (pw_and1 (pt_cmpR op_le (pe_ix ix_tup (pe_ix ix_tup (pv 0) (pv 3) (fun _ _ => rfl)) pe_int (fun _ _ => rfl)) (pv 4) (nomark _)))))
        (pss_cons (ps_set (i := 5) sc_lines_over.nd rfl (Or.inl rfl) (pe_ix ix_tup (pv 0) (pv 3) (fun _ _ => rfl)))
          (pss_one (ps_expr (pe_bm PySem.F.plainAttrs_list PySem.F.slot_list_append PySem.F.type_list_append mt_append (pv 2) (pa_cons (pe_tup (pa_cons (pe_c0 (ok_line_at T) hr (pa_cons (pe_tup (pa_cons (pe_ix ix_tup (pv 5) pe_int (fun _ _ => rfl)) (pa_cons (pe_ix ix_tup (pv 5) pe_int (fun _ _ => rfl)) pa_nil))) (pa_cons (pe_ix ix_tup (pv 5) pe_int (fun _ _ => rfl)) (pa_cons (pv 4) pa_nil)))) (pa_cons (pe_ix ix_tup (pv 5) pe_int (fun _ _ => rfl)) pa_nil))) pa_nil)))))
        (pss_one (ps_expr (pe_bm PySem.F.plainAttrs_list PySem.F.slot_list_append PySem.F.type_list_append mt_append (pv 2) (pa_cons pe_non pa_nil))))))))
      (pss_one (ps_ret (pv 2))))), ?_⟩
    have fl := hI.len
    have iI : Its IntV H (lows.map V.int) lows := by
      clear hb pw ln sz q
      induction lows with
      | nil => exact .nil
      | cons x r ih => exact .cons rfl ih
    walk_at "oh go"
    refine ⟨Nat.le_of_ble_eq_true rfl, fun l nl => ?_⟩
    walk_at "oh go"
    refine for_left iI (fun r σ H' => ∃ (at_ : Nat) (acc : List V) (L : List (Option Line)) (o4 o5 : Option V), σ = [some (.ref a), some (.ref b), some (.ref l), some (.int at_), o4, o5] ∧ LL (OptV LnV) H l H' acc L ∧ L ++ r.map (lineOf f) = lows.map (lineOf f) ∧ r.Pairwise (· < ·) ∧ (∀ x ∈ r, Sz 400 x ∧ (f.drop at_).dropWhile (fun s => decide (s.hi < x)) = f.dropWhile fun s => decide (s.hi < x)) ∧ L.length + r.length ≤ 5000)
      ⟨0, [], [], none, none, rfl, LL.new (Same.refl _) nl, rfl, pw, fun x hx => ⟨sz x hx, rfl⟩, by rw [List.length_nil]; omega⟩ ?_ ?_ ?_
    · rintro r σ H1 ⟨at_, acc, L, o4, o5, rfl, X, _⟩
      exact SqL.of (X.sm _ _ hb)
    · rintro x low r σ H1 hx ⟨at_, acc, L, o4, o5, rfl, X, e, pw1, dw, n⟩
      obtain rfl : x = .int low := hx
      have ll := X.len
      rw [List.length_cons] at n
      have pw2 := List.pairwise_cons.mp pw1
      obtain ⟨szl, dwl⟩ := dw low List.mem_cons_self
      rw [List.map_cons] at e
      walk_at "oh go"
      refine i_cut (fun σ' H' => ∃ at2 : Nat, σ' = [some (.ref a), some (.ref b), some (.ref l), some (.int at2), some (.int low), o5] ∧ H' = H1 ∧ f.drop at2 = f.dropWhile fun s => decide (s.hi < low)) ?_ ?_
      · refine i_while (fun m σ' H' => ∃ at2 : Nat, σ' = [some (.ref a), some (.ref b), some (.ref l), some (.int at2), some (.int low), o5] ∧ H' = H1 ∧ ((f.drop at2).dropWhile fun s => decide (s.hi < low)) = (f.dropWhile fun s => decide (s.hi < low)) ∧ m = f.length - at2) _ ⟨at_, rfl, rfl, dwl, rfl⟩ ?_
        rintro m σ' H' ⟨at2, rfl, rfl, dw2, rfl⟩
        walk_at "oh go"
        refine i_dec (fun c => ?_) (fun c => ?_)
        · have hlt : at2 < f.length := by omega
          obtain ⟨va, hva, ca, rfl, hca⟩ := hI.at (List.getElem?_eq_getElem hlt)
          generalize ex : f[at2] = y at hca
          have ed : f.drop at2 = y :: f.drop (at2 + 1) := by rw [← ex]; exact List.drop_eq_getElem_cons hlt
          walk_at "oh go"
          refine i_ixT (by walk_at "oh hp") (atI_nat hva) ?_
          walk_at "oh go"
          refine i_dec (fun c2 => ?_) (fun c2 => ?_)
          · refine i_body ?_
            walk_at "oh go"
            rw [ed, List.dropWhile_cons_of_pos (by exact decide_eq_true c2)] at dw2
            exact ⟨f.length - (at2 + 1), by omega, at2 + 1, rfl, rfl, dw2, rfl⟩
          · walk_at "oh go"
            refine ⟨at2, rfl, rfl, ?_⟩
            rw [ed, List.dropWhile_cons_of_neg (by simpa using c2)] at dw2
            rw [ed]
            exact dw2
        · walk_at "oh go"
          refine ⟨at2, rfl, rfl, ?_⟩
          rw [List.drop_eq_nil_of_le (by omega)] at dw2 ⊢
          exact dw2
      rintro σ' H' ⟨at2, rfl, rfl, dw2⟩
      have next : ∀ x ∈ r, Sz 400 x ∧ (f.drop at2).dropWhile (fun s => decide (s.hi < x)) = f.dropWhile fun s => decide (s.hi < x) := fun x hx => by
        refine ⟨(dw x (List.mem_cons_of_mem _ hx)).1, ?_⟩
        rw [dw2]
        exact dw_dw f (Int.le_of_lt (pw2.1 x hx))
      walk_at "oh go"
      refine i_dec (fun c => ?_) (fun c => ?_)
      · have hlt : at2 < f.length := by omega
        obtain ⟨va, hva, ca, rfl, hca⟩ := hI.at (List.getElem?_eq_getElem hlt)
        have by_ := A.fb f[at2] (List.getElem_mem hlt)
        generalize ex : f[at2] = y at hca by_
        have ed : f.drop at2 = y :: f.drop (at2 + 1) := by rw [← ex]; exact List.drop_eq_getElem_cons hlt
        rw [ed] at dw2
        walk_at "oh go"
        refine i_ixT (by walk_at "oh hp") (atI_nat hva) ?_
        walk_at "oh go"
        refine i_dec (fun c2 => ?_) (fun c2 => ?_)
        · have lo : lineOf f low = some (y.at low, y.st) := by
            unfold lineOf
            rw [← dw2]
            exact if_pos c2
          rw [lo] at e
          walk_at "oh go"
          refine i_ixT (by walk_at "oh hp") (atI_nat hva) ?_
          walk_at "oh go"
          refine ⟨Nat.le_of_ble_eq_true rfl, fun k nk => ?_⟩
          walk_at "oh go"
          refine ⟨_, (y.pr, y.st), y.lo, low, rfl, ⟨k, rfl, upd_same⟩, by_.st.mono (by decide), (szl.sub (by_.lo.mono (by decide))).mono (by decide), ?_⟩
          walk_at "oh go"
          refine ⟨Nat.le_of_ble_eq_true rfl, fun m nm => ?_⟩
          walk_at "oh go"
          refine i_app (by walk_at "oh hp") (by omega) ?_
          walk_at "oh go"
          refine ⟨at2, _, L ++ [some (y.at low, y.st)], _, _, rfl, (X.step (OptV.mono LnV.mono) (same_new nk _)).pushN (OptV.mono LnV.mono) nm (show LnV _ _ _ from ⟨m, rfl, upd_same⟩), by rw [List.append_assoc]; exact e, pw2.2, next, ?_⟩
          rw [List.length_append]
          show L.length + 1 + r.length ≤ _
          omega
        · have lo : lineOf f low = none := by
            unfold lineOf
            rw [← dw2]
            exact if_neg c2
          rw [lo] at e
          walk_at "oh go"
          refine i_app (by walk_at "oh hp") (by omega) ?_
          walk_at "oh go"
          refine ⟨at2, _, L ++ [none], _, _, rfl, X.push (OptV.mono LnV.mono) (show OptV LnV _ _ none from rfl), by rw [List.append_assoc]; exact e, pw2.2, next, ?_⟩
          rw [List.length_append]
          show L.length + 1 + r.length ≤ _
          omega
      · have lo : lineOf f low = none := by
          unfold lineOf
          rw [← dw2, List.drop_eq_nil_of_le (by omega)]
        rw [lo] at e
        walk_at "oh go"
        refine i_app (by walk_at "oh hp") (by omega) ?_
        walk_at "oh go"
        refine ⟨at2, _, L ++ [none], _, _, rfl, X.push (OptV.mono LnV.mono) (show OptV LnV _ _ none from rfl), by rw [List.append_assoc]; exact e, pw2.2, next, ?_⟩
        rw [List.length_append]
        show L.length + 1 + r.length ≤ _
        omega
    · rintro σ H1 ⟨at_, acc, L, o4, o5, rfl, X, e, _⟩
      rw [List.map_nil, List.append_nil] at e
      subst e
      walk_at "oh go"
      exact q l acc H1 nl X.sm X.at_ X.its
theorem insertC_len (k : Int) : ∀ l : List Int, (insertC k l).length ≤ l.length + 1
  | [] => Nat.le_refl _
  | x :: r => by
    unfold insertC
    have := insertC_len k r
    split
    · exact Nat.le_refl _
    · split
      · exact Nat.le_succ _
      · rw [List.length_cons, List.length_cons]
        omega
theorem cutsOf_len : ∀ l : List Int, (cutsOf l).length ≤ l.length
  | [] => Nat.le_refl _
  | x :: r => Nat.le_trans (insertC_len x _) (Nat.succ_le_succ (cutsOf_len r))
theorem its_of {α : Type} {R : RepF α} {H : Hp} : ∀ {vs : List V} {l : List α}, vs.length = l.length → (∀ (j : Nat) v a, vs[j]? = some v → l[j]? = some a → R H v a) → Its R H vs l
  | [], [], _, _ => .nil
  | [], _ :: _, h, _ => by simp at h
  | _ :: _, [], h, _ => by simp at h
  | v :: vs, a :: l, h, k => .cons (k 0 v a rfl rfl) (its_of (by simpa using h) fun j u b e1 e2 => k (j + 1) u b (by simpa using e1) (by simpa using e2))
def CellV : RepF (Int × Int × Option Line × Option Line) := fun H v c => ∃ t va vb, v = .ref t ∧ H t = some (.tup [.int c.1, .int c.2.1, va, vb]) ∧ OptV LnV H va c.2.2.1 ∧ OptV LnV H vb c.2.2.2
def cellsOf (f g : Form) (cuts : List Int) : List (Int × Int × Option Line × Option Line) := (cells cuts).map fun c => (c.1, c.2, lineOf f c.1, lineOf g c.1)
def sp_side_by_side : Sp := fun vs H Q _ => ∃ (v u : V) (f g : Form), vs = [v, u] ∧ FormV H v f ∧ FormV H u g ∧ FormIn f ∧ FormIn g ∧ RetL H Q CellV (cellsOf f g (cuts2 f g))
theorem its_ints {H : Hp} : ∀ l : List Int, Its IntV H (l.map V.int) l
  | [] => .nil
  | _ :: r => .cons rfl (its_ints r)
theorem ints_its {H : Hp} : ∀ {vs : List V} {l : List Int}, Its IntV H vs l → vs = l.map V.int
  | _, _, .nil => rfl
  | _, _, .cons a r => by rw [List.map_cons, ← ints_its r, show _ = V.int _ from a]
/- slots: 0 one, 1 other, 2 cuts, 3 part, 4 lows, 5 highs, 6 behind -/
theorem sc_side_by_side : FnScope ["one", "other", "cuts", "part", "lows", "highs", "behind"] ["one", "other"] (defScope s_side_by_side) := by walk_at "oh sc"
theorem ok_side_by_side (T : Pg K mg) : Ok P w K mg base CX0 5 "side_by_side" ["one", "other"] sp_side_by_side := by
  obtain ⟨fd, F⟩ := F_side_by_side T
  refine ⟨fd, F.ok sc_side_by_side (fun vs H Q E h => ?_) (fun cdv A outer s H vs Q E hr h => ?_), F.binds fun _ _ _ _ _ _ us hl => (match us, hl with | [_, _], _ => rfl), F.kp, g_side_by_side T⟩
  · obtain ⟨v, u, f, g, rfl, _⟩ := h
    rfl
  · obtain ⟨v, u, f, g, rfl, ⟨a, vs, rfl, ha, hI⟩, ⟨b, us, rfl, hb, hJ⟩, A, B, q⟩ := h
    have hu := hu_of hr
    refine ⟨_, pss_cons (ps_set (i := 2) sc_side_by_side.nd rfl (Or.inl rfl) (pe_lst pa_nil))
      (pss_cons (ps_for PassesOwn.never rfl (pi_tup (pe_op op_catA (pv 0) (pv 1))) (pg_name (i := 3) sc_side_by_side.nd rfl (Or.inl rfl))
      (pss_cons (ps_expr (pe_bm PySem.F.plainAttrs_list PySem.F.slot_list_append PySem.F.type_list_append mt_append (pv 2) (pa_cons (pe_ix ix_tup (pv 3) pe_int (fun _ _ => rfl)) pa_nil)))
        (pss_one (ps_expr (pe_bm PySem.F.plainAttrs_list PySem.F.slot_list_append PySem.F.type_list_append mt_append (pv 2) (pa_cons (pe_op op_add (pe_ix ix_tup (pv 3) pe_int (fun _ _ => rfl)) pe_int) pa_nil))))))
      (pss_cons (ps_set (i := 2) sc_side_by_side.nd rfl (Or.inl rfl) (pe_sortSetA (kdI P w) rfl rfl rfl (by rfl) (z_sorted T) (by rfl) (z_set T) (pv 2)))
      (pss_cons (ps_set (i := 4) sc_side_by_side.nd rfl (Or.inl rfl) (pe_slice sl_list (pv 2) po_none (po_some (pe_un un_neg pe_int))))
      (pss_cons (ps_setLc (i := 5) (own := [("behind", 6)]) (g := gName 6) rfl sc_side_by_side.nd rfl rfl (sw_true rfl rfl rfl (by decide +kernel)) (pi_list (pe_slice sl_list (pv 2) (po_some pe_int) po_none)) (blkOk_by (own := [("behind", 6)]) (N := ["one", "other", "cuts", "part", "lows", "highs", "behind"]) (sc := defScope s_side_by_side) (by decide +kernel)) (fun _ _ _ _ _ => pg_name (i := 6) sc_side_by_side.nd rfl (Or.inl rfl)) (fun _ _ _ _ _ => pts_nil) (fun _ _ _ _ _ => (pe_op op_sub (pv 6) pe_int)))
      (pss_one (ps_ret (pe_zip4 rfl (by rfl) (z_list T) (by rfl) (z_zip T) (pa_cons (pv 4) (pa_cons (pv 5) (pa_cons (pe_c0 (ok_lines_over T) hr (pa_cons (pv 0) (pa_cons (pv 4) pa_nil))) (pa_cons (pe_c0 (ok_lines_over T) hr (pa_cons (pv 1) (pa_cons (pv 4) pa_nil))) pa_nil))))))))))), ?_⟩
    have fl := A.len
    have gl := B.len
    have vl := hI.len
    have ul := hJ.len
    walk_at "oh go"
    refine ⟨Nat.le_of_ble_eq_true rfl, fun l nl => ?_⟩
    walk_at "oh go"
    refine i_catA (by walk_at "oh hp") (by walk_at "oh hp") (by omega) fun p H1 s1 hp1 => ?_
    walk_at "oh go"
    have hK := (hI.app hJ).mono S4V.mono (.of ((same_new nl (.lst [])).trans s1))
    refine for_leftT hK (fun r σ H' => ∃ acc L o3, σ = [some (.ref a), some (.ref b), some (.ref l), o3, none, none, none] ∧ LL IntV H l H' acc L ∧ H' p = some (.tup (vs ++ us)) ∧ TS' H1 H' ∧ L ++ ends r = ends (f ++ g) ∧ L.length + 2 * r.length ≤ 4000)
      ⟨[], [], none, rfl, (LL.new (Same.refl _) nl).step IntV.mono s1, hp1, TS'.refl _, rfl, by rw [List.length_nil, List.length_append]; omega⟩ ?_ ?_ ?_
    · rintro r σ H2 ⟨acc, L, o3, rfl, X, hp2, _⟩
      exact SqT.of hp2
    · rintro x y r σ H2 ⟨c, rfl, hc⟩ ⟨acc, L, o3, rfl, X, hp2, t2, e, n⟩
      have ll := X.len
      have hc2 := t2 _ _ hc
      rw [List.length_cons] at n
      walk_at "oh go"
      refine i_app (by walk_at "oh hp") (by omega) ?_
      have X3 := X.push IntV.mono (v := .int y.lo) (y := y.lo) rfl
      have hp3 : upd H2 l (.lst (acc ++ [.int y.lo])) p = some (.tup (vs ++ us)) := get_mut X.at_ hp2 (by intro z; cases z)
      have hc3 : upd H2 l (.lst (acc ++ [.int y.lo])) c = some (.tup [.int y.lo, .int y.hi, .int y.pr, .int y.st]) := get_mut X.at_ hc2 (by intro z; cases z)
      have t3 : TS' H1 (upd H2 l (.lst (acc ++ [.int y.lo]))) := t2.trans (ts_mut X.at_ _)
      have l3 := X3.len
      rw [List.length_append (as := L)] at l3
      have l3' : (acc ++ [V.int y.lo]).length ≤ 100000 := by
        rw [l3]
        show L.length + 1 ≤ _
        omega
      generalize upd H2 l (.lst (acc ++ [.int y.lo])) = H3 at X3 hp3 hc3 t3 ⊢
      walk_at "oh go"
      refine i_app (by walk_at "oh hp") (by omega) ?_
      walk_at "oh go"
      refine ⟨_, _, _, rfl, X3.push IntV.mono (v := .int (y.hi + 1)) (y := y.hi + 1) rfl, get_mut X3.at_ hp3 (by intro z; cases z), t3.trans (ts_mut X3.at_ _), ?_, ?_⟩
      · rw [List.append_assoc, List.append_assoc]
        exact e
      · rw [List.length_append, List.length_append]
        show L.length + 1 + 1 + 2 * r.length ≤ 4000
        omega
    · rintro σ H2 ⟨acc, L, o3, rfl, X, hp2, t2, e, n⟩
      have e' : L = ends (f ++ g) := by rw [← e]; exact (List.append_nil L).symm
      have acc_e := ints_its X.its
      have hl2 : H2 l = some (.lst (L.map V.int)) := acc_e ▸ X.at_
      have sz : ∀ k ∈ cuts2 f g, Sz 301 k := fun k hk => ends_sz (A.fb.append B.fb) (by decide) k (((cutsOf_ok (ends (f ++ g))).mem k).mp hk)
      walk_at "oh go"
      refine ⟨l, L, rfl, SqL.of hl2, by rw [List.length_nil] at n; omega, fun ys l3 nd mem od n3 => ?_⟩
      obtain rfl : ys = cuts2 f g := by
        refine cuts_one (l := ends (f ++ g)) ⟨?_, fun k => by rw [← e']; exact mem k⟩ (cutsOf_ok _)
        exact lt_of_le_nodup ys od nd
      have cl : (cuts2 f g).length ≤ 4000 := by
        have h1 : (cuts2 f g).length ≤ (ends (f ++ g)).length := cutsOf_len _
        rw [ends_len, List.length_append] at h1
        omega
      have asc := (cutsOf_ok (ends (f ++ g))).asc
      have s3 := X.sm.trans (same_new n3 (.lst ((cuts2 f g).map (kdI P w).vv)))
      walk_at "oh go"
      refine i_intK ?_
      refine i_cutL upd_same fun l4 n4 => ?_
      rw [← List.map_dropLast]
      have s4 := s3.trans (same_new n4 (.lst ((cuts2 f g).dropLast.map (kdI P w).vv)))
      have h34 : upd (upd H2 l3 (.lst ((cuts2 f g).map (kdI P w).vv))) l4 (.lst ((cuts2 f g).dropLast.map (kdI P w).vv)) l3 = some (.lst ((cuts2 f g).map (kdI P w).vv)) := get_new n4 upd_same
      have h44 : upd (upd H2 l3 (.lst ((cuts2 f g).map (kdI P w).vv))) l4 (.lst ((cuts2 f g).dropLast.map (kdI P w).vv)) l4 = some (.lst ((cuts2 f g).dropLast.map V.int)) := upd_same
      generalize upd (upd H2 l3 (.lst ((cuts2 f g).map (kdI P w).vv))) l4 (.lst ((cuts2 f g).dropLast.map (kdI P w).vv)) = H4 at s4 h34 h44 ⊢
      walk_at "oh go"
      refine i_intK ?_
      refine i_cut1 h34 fun l5 n5 => ?_
      rw [← List.map_drop]
      have s5 := s4.trans (same_new n5 (.lst (((cuts2 f g).drop 1).map (kdI P w).vv)))
      have h45 : upd H4 l5 (.lst (((cuts2 f g).drop 1).map (kdI P w).vv)) l4 = some (.lst ((cuts2 f g).dropLast.map V.int)) := get_new n5 h44
      have h55 : upd H4 l5 (.lst (((cuts2 f g).drop 1).map (kdI P w).vv)) l5 = some (.lst (((cuts2 f g).drop 1).map V.int)) := upd_same
      generalize upd H4 l5 (.lst (((cuts2 f g).drop 1).map (kdI P w).vv)) = H5 at s5 h45 h55 ⊢
      walk_at "oh go"
      intro D hD
      refine lc_FL (S := IntV) (fun i => (((cuts2 f g).drop 1).take i).map fun s => s - 1) h55 (its_ints _) hD rfl ?_ ?_
      · rintro i x y H6 acc6 e6 hx X6
        obtain rfl : x = .int y := hx
        walk_at "oh go"
        refine ⟨rfl, ?_⟩
        walk_at "oh go"
        refine made_push IntV.mono X6 (z := y - 1) rfl ?_ (take_map (f := fun s : Int => s - 1) e6)
        rw [List.length_map, List.length_take, List.length_drop]
        omega
      · intro H6 acc6 X6
        rw [List.take_length] at X6
        have e6 := ints_its X6.its
        have s6 := s5.trans X6.sm
        have h46 := X6.sm _ _ h45
        have szl : ∀ x ∈ (cuts2 f g).dropLast, Sz 400 x := fun x hx => (sz x ((List.dropLast_sublist _).subset hx)).mono (by decide)
        have ascl := asc.sublist (List.dropLast_sublist _)
        walk_at "oh go"
        refine ⟨_, l4, f, (cuts2 f g).dropLast, rfl, ⟨a, vs, rfl, s6 _ _ ha, hI.mono S4V.mono (.of s6)⟩, A, h46, ascl, by rw [List.length_dropLast]; omega, szl, fun l7 vs7 H7 n7 s7 h7 i7 => ?_⟩
        have s67 := s6.trans s7
        walk_at "oh go"
        refine ⟨_, l4, g, (cuts2 f g).dropLast, rfl, ⟨b, us, rfl, s67 _ _ hb, hJ.mono S4V.mono (.of s67)⟩, B, s7 _ _ h46, ascl, by rw [List.length_dropLast]; omega, szl, fun l8 vs8 H8 n8 s8 h8 i8 => ?_⟩
        walk_at "oh go"
        have h58 := s8 _ _ (s7 _ _ X6.at_)
        rw [e6] at h58
        have g7 := i7.len
        have g8 := i8.len
        rw [List.length_map, List.length_dropLast] at g7 g8
        refine ⟨l4, D, l7, l8, _, _, _, _, rfl, SqL.of (s8 _ _ (s7 _ _ h46)), SqL.of h58, SqL.of (s8 _ _ h7), SqL.of h8, ?_, ?_, ?_, fun S ts H9 s9 nS tl hS ht => ?_⟩
        · rw [List.length_map, List.length_map, List.length_map, List.length_dropLast, List.length_drop]
        · rw [List.length_map, List.length_dropLast]
          exact g7
        · rw [List.length_map, List.length_dropLast]
          exact g8
        · walk_at "oh go"
          refine q S _ H9 ((s67.trans s8).free nS) ((s67.trans s8).trans s9) hS (its_of ?_ fun j v c e1 e2 => ?_)
          · rw [List.length_map, tl, List.length_map, List.length_dropLast]
            unfold cellsOf
            rw [List.length_map, cells_len]
          · rw [List.getElem?_map] at e1
            obtain ⟨t, e3, rfl⟩ := Option.map_eq_some_iff.mp e1
            unfold cellsOf at e2
            rw [List.getElem?_map] at e2
            obtain ⟨d, e4, rfl⟩ := Option.map_eq_some_iff.mp e2
            have hj : j < (cuts2 f g).length - 1 := by
              have := (List.getElem?_eq_some_iff.mp e4).1
              rw [cells_len] at this
              exact this
            have ex : (cuts2 f g)[j]? = some (cuts2 f g)[j] := List.getElem?_eq_getElem (by omega)
            have ey : (cuts2 f g)[j + 1]? = some (cuts2 f g)[j + 1] := List.getElem?_eq_getElem (by omega)
            generalize (cuts2 f g)[j] = x at ex
            generalize (cuts2 f g)[j + 1] = y at ey
            rw [cells_get _ j x y ex ey] at e4
            cases e4
            have el : (cuts2 f g).dropLast[j]? = some x := by rw [List.dropLast_eq_take, List.getElem?_take_of_lt hj]; exact ex
            obtain ⟨vc, h7c, r7c⟩ := i7.at (i := j) (a := lineOf f x) (by rw [List.getElem?_map, el]; rfl)
            obtain ⟨vd, h8d, r8d⟩ := i8.at (i := j) (a := lineOf g x) (by rw [List.getElem?_map, el]; rfl)
            refine ⟨t, vc, vd, rfl, ht j t (.int x) (.int (y - 1)) vc vd e3 (by rw [List.getElem?_map, el]; rfl) (by rw [List.getElem?_map, List.getElem?_map, List.getElem?_drop, Nat.add_comm, ey]; rfl) h7c h8d, ?_, ?_⟩
            · exact OptV.mono LnV.mono _ _ _ _ (.of (s8.trans s9)) r7c
            · exact OptV.mono LnV.mono _ _ _ _ (.of s9) r8d
end
end OH
set_option Elab.async false
set_option linter.all false
set_option maxRecDepth 100000
set_option maxHeartbeats 4000000
namespace OH
open PySem PySem.Spec PyProof.Rows L2
abbrev Cell := Int × Int × Option Line × Option Line
structure CellIn (c : Cell) : Prop where
  le : c.1 ≤ c.2.1
  lo : Sz 301 c.1
  hi : Sz 301 c.2.1
  a : ∀ l, c.2.2.1 = some l → LB 7000 l
  b : ∀ l, c.2.2.2 = some l → LB 7000 l
theorem cells_is {f g : Form} (A : FormIn f) (B : FormIn g) : ∀ c ∈ cellsOf f g (cuts2 f g), CellIn c := fun c hc => by
  obtain ⟨x, hx, e⟩ := List.mem_map.mp hc
  have C := cutsOf_ok (ends (f ++ g))
  have sz : ∀ k ∈ cuts2 f g, Sz 301 k := fun k hk => ends_sz (A.fb.append B.fb) (by decide) k ((C.mem k).mp hk)
  obtain ⟨s1, s2⟩ := cells_sz C.asc sz x hx
  rw [← e]
  refine ⟨(cells_in C.asc x hx).1, s1, s2, fun l e => ?_, fun l e => ?_⟩
  · have q := lb_lineOf (A.fb.mono (by decide) (Nat.le_refl _)) s1 e
    exact ⟨q.1.mono (by decide), q.2.mono (by decide)⟩
  · have q := lb_lineOf (B.fb.mono (by decide) (Nat.le_refl _)) s1 e
    exact ⟨q.1.mono (by decide), q.2.mono (by decide)⟩
theorem lower_le (a b : Line) (lo hi : Int) : (lowerLine a b lo hi).length ≤ 3 := by
  unfold lowerLine
  split
  · exact Nat.le_of_ble_eq_true rfl
  · rw [List.length_append, List.length_append]
    have h1 : ∀ (p : Prop) [Decidable p] (s : S4), (if p then [s] else []).length ≤ 1 := fun p _ s => by split <;> simp
    rename_i first last _
    have := h1 (lo < first) ⟨lo, first - 1, b.1, b.2⟩
    have := h1 (last < hi) ⟨last + 1, hi, lineAt b lo (last + 1), b.2⟩
    simp only [List.length_cons, List.length_nil]
    omega
theorem least_le (lo hi : Int) (x y : Option Line) : (leastCell lo hi x y).length ≤ 3 := by
  cases x <;> cases y
  · exact Nat.le_of_ble_eq_true rfl
  · exact Nat.le_of_ble_eq_true rfl
  · exact Nat.le_of_ble_eq_true rfl
  · exact lower_le _ _ _ _
theorem great_le (lo hi : Int) (x y : Option Line) : (greatCell lo hi x y).length ≤ 3 := by
  cases x <;> cases y
  · exact Nat.le_of_ble_eq_true rfl
  · exact Nat.le_of_ble_eq_true rfl
  · exact Nat.le_of_ble_eq_true rfl
  · show (List.map negS _).length ≤ 3
    rw [List.length_map]
    exact lower_le _ _ _ _
theorem cells_few {f g : Form} (A : FormIn f) (B : FormIn g) : (cellsOf f g (cuts2 f g)).length ≤ 4000 := by
  unfold cellsOf
  rw [List.length_map, cells_len]
  have h1 : (cuts2 f g).length ≤ (ends (f ++ g)).length := cutsOf_len _
  rw [ends_len, List.length_append] at h1
  have := A.len
  have := B.len
  omega
theorem rows_cells (h : Int → Int → Option Line → Option Line → List S4) (f g : Form) (cuts : List Int) : cellRows h f g cuts = (cellsOf f g cuts).flatMap fun c => h c.1 c.2.1 c.2.2.1 c.2.2.2 := by
  unfold cellRows cellsOf
  rw [List.flatMap_map]
theorem cell_rows_in {f g : Form} (A : FormIn f) (B : FormIn g) {h : Int → Int → Option Line → Option Line → List S4} {op : Option Int → Option Int → Option Int} (G : CellOk h op) (le3 : ∀ lo hi x y, (h lo hi x y).length ≤ 3)
    (fb : FB 301 6806 (cellRows h f g (cuts2 f g))) : RowsIn (cellRows h f g (cuts2 f g)) := by
  refine ⟨fb.mono (by decide) (by decide), (cellRows_ok G A.asc B.asc (cutsOf_ok _)).1.ne, ?_⟩
  rw [rows_cells]
  have h1 := flat_le (n := 3) (g := fun c : Cell => h c.1 c.2.1 c.2.2.1 c.2.2.2) (l := cellsOf f g (cuts2 f g)) fun c _ => le3 _ _ _ _
  have := cells_few A B
  exact Nat.le_trans h1 (by omega)
theorem i_nT' {A B : Prop} {a b : Line} (h : A) : if (!decide (some a = (none : Option Line))) = true then A else B := iteT h
section
variable {P : Program} {w : World} {K : PySem.W.Frag} {mg : Str → Option Value} {base : Heap}
/-- a known object: through what has changed since -/
local macro_rules | `(tactic| walk_at "oh hp") => `(tactic| first | assumption | exact upd_same | (refine get_new (by assumption) ?_; walk_at "oh hp") | (refine get_mut (by assumption) ?_ (by intro z; cases z); walk_at "oh hp") | (refine same_get (by assumption) ?_; walk_at "oh hp") | (refine ts_get (by assumption) ?_; walk_at "oh hp") | (refine same_get (LL.sm (by assumption)) ?_; walk_at "oh hp") | exact LL.at_ (by assumption))
local macro_rules | `(tactic| walk_at "oh sc") => `(tactic| exact ⟨rfl, rfl, rfl, by decide +kernel, rfl, by decide +kernel, by decide +kernel⟩)
/-- one step of a reading -/
local macro_rules | `(tactic| walk_at "oh 1") => `(tactic| with_reducible first
  | refine i_var rfl ?_ | refine i_c ?_ | refine i_op ?_ | refine i_I0 ?_ | refine i_cons ?_ | refine i_nil ?_ | refine i_asg ?_ | refine i_name ?_ | refine i_seq ?_ | refine i_ifS ?_ | refine i_test ?_ | refine i_bl ?_ | refine i_call ?_ | refine i_CB ?_
  | refine i_tup ?_ | refine i_lst ?_ | refine i_eqI ?_ | refine i_eqS ?_ | refine i_neI ?_ | refine i_un ?_ | refine i_U ?_ | refine i_ret ?_ | refine i_retN ?_ | refine i_next ?_ | refine i_cont ?_ | refine i_drop ?_ | refine i_B ?_ | refine i_and ?_ | refine i_or ?_ | refine i_not ?_ | refine i_mn ?_ | refine i_mx ?_ | refine i_isN ?_ | refine i_notN ?_ | refine i_bm ?_ | refine i_bm0 ?_ | refine i_rn ?_ | refine i_nn ?_ | refine i_rn' ?_ | refine i_nn' ?_ | refine i_gcons ?_ | refine i_gnil ?_ | refine i_orV ?_ | refine i_andV ?_ | refine i_notV ?_ | refine i_chain ?_ | refine i_forL ?_ | refine i_iL ?_ | refine i_iT ?_ | refine i_lc ?_ | refine i_yes ?_ | refine i_sortS ?_ | refine i_lenS ?_ | refine i_slL ?_ | refine i_noP ?_ | refine i_part ?_ | refine i_aug rfl ?_ | refine i_ip ?_ | refine iteT ?_ | refine iteF ?_ | refine i_nT ?_ | refine i_nF ?_)
local macro_rules | `(tactic| walk_at "oh 2") => `(tactic| first | ((with_reducible refine' i_ixT ?h ?e ?q); (case h => walk_at "oh hp"); (case e => rfl)) | ((with_reducible refine' i_gtup ?h ?e ?q); (case h => walk_at "oh hp"); (case e => rfl)) | ((with_reducible refine' i_atL ?h ?q); (case h => walk_at "oh hp")) | ((with_reducible refine' i_atT ?h ?q); (case h => walk_at "oh hp")) | ((with_reducible refine' i_tyL ?h ?q); (case h => walk_at "oh hp")) | ((with_reducible refine' i_lnL ?h ?q); (case h => walk_at "oh hp")) | ((with_reducible refine' i_lnT ?h ?q); (case h => walk_at "oh hp")))
local macro_rules | `(tactic| walk_at "oh go") => `(tactic| repeat first | walk_at "oh 1" | walk_at "oh 2")
def sp_least : Sp := fun vs H Q _ => ∃ (v u : V) (f g : Form), vs = [v, u] ∧ FormV H v f ∧ FormV H u g ∧ FormIn f ∧ FormIn g ∧ Ret H Q FormV (least f g)
/- slots: 0 one, 1 other, 2 rows, 3 low, 4 high, 5 mine, 6 yours -/
theorem sc_least : FnScope ["one", "other", "rows", "low", "high", "mine", "yours"] ["one", "other"] (defScope s_least) := by walk_at "oh sc"
theorem ok_least (T : Pg K mg) : Ok P w K mg base CX0 6 "least" ["one", "other"] sp_least := by
  obtain ⟨fd, F⟩ := F_least T
  refine ⟨fd, F.ok sc_least (fun vs H Q E h => ?_) (fun cdv A outer s H vs Q E hr h => ?_), F.binds fun _ _ _ _ _ _ us hl => (match us, hl with | [_, _], _ => rfl), F.kp, g_least T⟩
  · obtain ⟨v, u, f, g, rfl, _⟩ := h
    rfl
  · obtain ⟨v, u, f, g, rfl, ⟨a, vs, rfl, ha, hI⟩, ⟨b, us, rfl, hb, hJ⟩, A, B, q⟩ := h
    have hu := hu_of hr
    refine ⟨_, pss_cons (ps_set (i := 2) sc_least.nd rfl (Or.inl rfl) (pe_lst pa_nil))
      (pss_cons (ps_for PassesOwn.never rfl (pi_list (pe_c0 (ok_side_by_side T) hr (pa_cons (pv 0) (pa_cons (pv 1) pa_nil)))) (pg_tup rfl (pgs_cons (pg_name (i := 3) sc_least.nd rfl (Or.inl rfl)) (pgs_cons (pg_name (i := 4) sc_least.nd rfl (Or.inl rfl)) (pgs_cons (pg_name (i := 5) sc_least.nd rfl (Or.inl rfl)) (pgs_cons (pg_name (i := 6) sc_least.nd rfl (Or.inl rfl)) pgs_nil)))))
      (pss_one (ps_if (PW.pt (pw_and (pt_cmpR op_notN1 (pv 5) pe_non (nomark _)) (pw_and1 (pt_cmpR op_notN1 (pv 6) pe_non (nomark _)))))
        (pss_one (ps_expr (pe_bm PySem.F.plainAttrs_list PySem.F.slot_list_extend PySem.F.type_list_extend mt_extend (pv 2) (pa_cons (pe_c0 (ok_lower_line T) hr (pa_cons (pv 5) (pa_cons (pv 6) (pa_cons (pv 3) (pa_cons (pv 4) pa_nil))))) pa_nil))))
        (pss_one (ps_if (pt_cmpR op_notN1 (pv 5) pe_non (nomark _))
          (pss_one (ps_expr (pe_bm PySem.F.plainAttrs_list PySem.F.slot_list_append PySem.F.type_list_append mt_append (pv 2) (pa_cons (pe_tup (pa_cons (pv 3) (pa_cons (pv 4) (pa_cons (pe_ix ix_tup (pv 5) pe_int (fun _ _ => rfl)) (pa_cons (pe_ix ix_tup (pv 5) pe_int (fun _ _ => rfl)) pa_nil))))) pa_nil))))
          (pss_one (ps_if (pt_cmpR op_notN1 (pv 6) pe_non (nomark _))
            (pss_one (ps_expr (pe_bm PySem.F.plainAttrs_list PySem.F.slot_list_append PySem.F.type_list_append mt_append (pv 2) (pa_cons (pe_tup (pa_cons (pv 3) (pa_cons (pv 4) (pa_cons (pe_ix ix_tup (pv 6) pe_int (fun _ _ => rfl)) (pa_cons (pe_ix ix_tup (pv 6) pe_int (fun _ _ => rfl)) pa_nil))))) pa_nil))))
            pss_nil)))))))
      (pss_one (ps_ret (pe_c0 (ok_laid T) hr (pa_cons (pv 2) pa_nil))))), ?_⟩
    have rin := cell_rows_in A B least_cell least_le (FB.cellRows A.fb B.fb (by decide) fun lo hi x y le s1 s2 hx hy => fb_leastCell lo hi x y le s1 s2 hx hy)
    have few := cells_few A B
    walk_at "oh go"
    refine ⟨Nat.le_of_ble_eq_true rfl, fun l nl => ?_⟩
    walk_at "oh go"
    have sl := same_new nl (.lst [])
    refine ⟨_, _, f, g, rfl, ⟨a, vs, rfl, sl _ _ ha, hI.mono S4V.mono (.of sl)⟩, ⟨b, us, rfl, sl _ _ hb, hJ.mono S4V.mono (.of sl)⟩, A, B, fun p cs H1 np s1 hp1 hC => ?_⟩
    have np' : p ≠ l := (ne_of_none upd_same np).symm
    walk_at "oh go"
    refine for_left hC (fun r σ H' => ∃ acc L o3 o4 o5 o6, σ = [some (.ref a), some (.ref b), some (.ref l), o3, o4, o5, o6] ∧ LL S4V H l H' acc L ∧ H' p = some (.lst cs) ∧ TS' H1 H' ∧ L ++ r.flatMap (fun c => leastCell c.1 c.2.1 c.2.2.1 c.2.2.2) = cellRows leastCell f g (cuts2 f g) ∧ (∀ c ∈ r, CellIn c) ∧ L.length + 3 * r.length ≤ 12000)
      ⟨[], [], none, none, none, none, rfl, (LL.new (Same.refl _) nl).step S4V.mono s1, hp1, TS'.refl _, (rows_cells leastCell f g _).symm, cells_is A B, by rw [List.length_nil]; omega⟩ ?_ ?_ ?_
    · rintro r σ H2 ⟨acc, L, o3, o4, o5, o6, rfl, X, hp2, _⟩
      exact SqL.of hp2
    · rintro x ⟨lo, hi, mine, yours⟩ r σ H2 ⟨t, va, vb, rfl, ht, hva, hvb⟩ ⟨acc, L, o3, o4, o5, o6, rfl, X, hp2, t2, e, cin, n⟩
      have ll := X.len
      have ht2 := t2 _ _ ht
      have ci := cin _ List.mem_cons_self
      have hva2 := OptV.mono LnV.mono _ _ _ _ t2 hva
      have hvb2 := OptV.mono LnV.mono _ _ _ _ t2 hvb
      have cin2 : ∀ c ∈ r, CellIn c := fun c hc => cin c (List.mem_cons_of_mem _ hc)
      rw [List.length_cons] at n
      rw [List.flatMap_cons, ← List.append_assoc] at e
      dsimp only at ht2 hva2 hvb2 e
      have one : ∀ (ln : Line) (k : Addr), H2 k = none → leastCell lo hi mine yours = [⟨lo, hi, ln.1, ln.2⟩] → ∀ H3, H3 = upd (upd H2 k (.tup [.int lo, .int hi, .int ln.1, .int ln.2])) l (.lst (acc ++ [.ref k])) →
          LL S4V H l H3 (acc ++ [.ref k]) (L ++ [⟨lo, hi, ln.1, ln.2⟩]) ∧ H3 p = some (.lst cs) ∧ TS' H1 H3 ∧ (L ++ [⟨lo, hi, ln.1, ln.2⟩]) ++ r.flatMap (fun c => leastCell c.1 c.2.1 c.2.2.1 c.2.2.2) = cellRows leastCell f g (cuts2 f g) ∧ (∀ c ∈ r, CellIn c) ∧ (L ++ [(⟨lo, hi, ln.1, ln.2⟩ : S4)]).length + 3 * r.length ≤ 12000 := fun ln k nk el H3 e3 => by
        subst e3
        rw [el] at e
        refine ⟨X.pushN S4V.mono (y := ⟨lo, hi, ln.1, ln.2⟩) nk ⟨k, rfl, upd_same⟩, ?_, t2.trans ((ts_new nk _).trans (ts_mut (get_new nk X.at_) _)), e, cin2, ?_⟩
        · rw [upd_ne np']
          exact get_new nk hp2
        · rw [List.length_append]
          show L.length + 1 + 3 * r.length ≤ 12000
          omega
      cases mine with
      | none =>
        obtain rfl : va = .non := hva2
        cases yours with
        | none =>
          obtain rfl : vb = .non := hvb2
          walk_at "oh go"
          exact ⟨_, L, _, _, _, _, rfl, X, hp2, t2, by rw [← e]; exact congrArg (· ++ _) (List.append_nil L).symm, cin2, by omega⟩
        | some y =>
          obtain ⟨cb, rfl, hcb⟩ := hvb2
          walk_at "oh go"
          refine ⟨Nat.le_of_ble_eq_true rfl, fun k nk => ?_⟩
          walk_at "oh go"
          refine i_app (by walk_at "oh hp") (by omega) ?_
          walk_at "oh go"
          exact ⟨_, _, _, _, _, _, rfl, one y k nk rfl _ rfl⟩
      | some m =>
        obtain ⟨ca, rfl, hca⟩ := hva2
        cases yours with
        | none =>
          obtain rfl : vb = .non := hvb2
          walk_at "oh go"
          refine ⟨Nat.le_of_ble_eq_true rfl, fun k nk => ?_⟩
          walk_at "oh go"
          refine i_app (by walk_at "oh hp") (by omega) ?_
          walk_at "oh go"
          exact ⟨_, _, _, _, _, _, rfl, one m k nk rfl _ rfl⟩
        | some y =>
          obtain ⟨cb, rfl, hcb⟩ := hvb2
          walk_at "oh go"
          refine ⟨_, _, m, y, lo, hi, rfl, ⟨ca, rfl, by walk_at "oh hp"⟩, ⟨cb, rfl, by walk_at "oh hp"⟩, (ci.a m rfl).2.mono (by decide), (ci.b y rfl).2.mono (by decide), ci.lo.mono (by decide), ci.hi.mono (by decide), ci.le, fun l3 zs H3 n3 s3 hl3 hM => ?_⟩
          have X3 := X.step S4V.mono s3
          have zl := hM.len
          have z3 := lower_le m y lo hi
          walk_at "oh go"
          refine i_ext (by walk_at "oh hp") hl3 (by omega) ?_
          walk_at "oh go"
          refine ⟨_, _, _, _, _, _, rfl, X3.ext S4V.mono hM, ?_, (t2.trans (.of s3)).trans (ts_mut X3.at_ _), e, cin2, ?_⟩
          · rw [upd_ne np']
            exact s3 _ _ hp2
          · rw [List.length_append]
            omega
    · rintro σ H2 ⟨acc, L, o3, o4, o5, o6, rfl, X, hp2, t2, e, _⟩
      rw [List.flatMap_nil, List.append_nil] at e
      subst e
      walk_at "oh go"
      exact ⟨_, _, rfl, X.rep, rin, fun r H3 s3 h => q r H3 (X.sm.trans s3) h⟩
def sp_greatest : Sp := fun vs H Q _ => ∃ (v u : V) (f g : Form), vs = [v, u] ∧ FormV H v f ∧ FormV H u g ∧ FormIn f ∧ FormIn g ∧ Ret H Q FormV (greatest f g)
/- slots: 0 one, 1 other, 2 rows, 3 low, 4 high, 5 mine, 6 yours, 7 first, 8 last, 9 price, 10 step -/
theorem sc_greatest : FnScope ["one", "other", "rows", "low", "high", "mine", "yours", "first", "last", "price", "step"] ["one", "other"] (defScope s_greatest) := by walk_at "oh sc"
theorem ok_greatest (T : Pg K mg) : Ok P w K mg base CX0 6 "greatest" ["one", "other"] sp_greatest := by
  obtain ⟨fd, F⟩ := F_greatest T
  refine ⟨fd, F.ok sc_greatest (fun vs H Q E h => ?_) (fun cdv A outer s H vs Q E hr h => ?_), F.binds fun _ _ _ _ _ _ us hl => (match us, hl with | [_, _], _ => rfl), F.kp, g_greatest T⟩
  · obtain ⟨v, u, f, g, rfl, _⟩ := h
    rfl
  · obtain ⟨v, u, f, g, rfl, ⟨a, vs, rfl, ha, hI⟩, ⟨b, us, rfl, hb, hJ⟩, A, B, q⟩ := h
    have hu := hu_of hr
    refine ⟨_, pss_cons (ps_set (i := 2) sc_greatest.nd rfl (Or.inl rfl) (pe_lst pa_nil))
      (pss_cons (ps_for PassesOwn.never rfl (pi_list (pe_c0 (ok_side_by_side T) hr (pa_cons (pv 0) (pa_cons (pv 1) pa_nil)))) (pg_tup rfl (pgs_cons (pg_name (i := 3) sc_greatest.nd rfl (Or.inl rfl)) (pgs_cons (pg_name (i := 4) sc_greatest.nd rfl (Or.inl rfl)) (pgs_cons (pg_name (i := 5) sc_greatest.nd rfl (Or.inl rfl)) (pgs_cons (pg_name (i := 6) sc_greatest.nd rfl (Or.inl rfl)) pgs_nil)))))
      (pss_one (ps_if (PW.pt (pw_and (pt_cmpR op_notN1 (pv 5) pe_non (nomark _)) (pw_and1 (pt_cmpR op_notN1 (pv 6) pe_non (nomark _)))))
        (pss_one (ps_for PassesOwn.never rfl (pi_list (pe_c0 (ok_lower_line T) hr (pa_cons (pe_tup (pa_cons (pe_un un_neg (pe_ix ix_tup (pv 5) pe_int (fun _ _ => rfl))) (pa_cons (pe_un un_neg (pe_ix ix_tup (pv 5) pe_int (fun _ _ => rfl))) pa_nil))) (pa_cons (pe_tup (pa_cons (pe_un un_neg (pe_ix ix_tup (pv 6) pe_int (fun _ _ => rfl))) (pa_cons (pe_un un_neg (pe_ix ix_tup (pv 6) pe_int (fun _ _ => rfl))) pa_nil))) (pa_cons (pv 3) (pa_cons (pv 4) pa_nil)))))) (pg_tup rfl (pgs_cons (pg_name (i := 7) sc_greatest.nd rfl (Or.inl rfl)) (pgs_cons (pg_name (i := 8) sc_greatest.nd rfl (Or.inl rfl)) (pgs_cons (pg_name (i := 9) sc_greatest.nd rfl (Or.inl rfl)) (pgs_cons (pg_name (i := 10) sc_greatest.nd rfl (Or.inl rfl)) pgs_nil)))))
          (pss_one (ps_expr (pe_bm PySem.F.plainAttrs_list PySem.F.slot_list_append PySem.F.type_list_append mt_append (pv 2) (pa_cons (pe_tup (pa_cons (pv 7) (pa_cons (pv 8) (pa_cons (pe_un un_neg (pv 9)) (pa_cons (pe_un un_neg (pv 10)) pa_nil))))) pa_nil))))))
        pss_nil)))
      (pss_one (ps_ret (pe_c0 (ok_laid T) hr (pa_cons (pv 2) pa_nil))))), ?_⟩
    have rin := cell_rows_in A B great_cell great_le (FB.cellRows A.fb B.fb (by decide) fun lo hi x y le s1 s2 hx hy => fb_greatCell lo hi x y le s1 s2 hx hy)
    have few := cells_few A B
    walk_at "oh go"
    refine ⟨Nat.le_of_ble_eq_true rfl, fun l nl => ?_⟩
    walk_at "oh go"
    have sl := same_new nl (.lst [])
    refine ⟨_, _, f, g, rfl, ⟨a, vs, rfl, sl _ _ ha, hI.mono S4V.mono (.of sl)⟩, ⟨b, us, rfl, sl _ _ hb, hJ.mono S4V.mono (.of sl)⟩, A, B, fun p cs H1 np s1 hp1 hC => ?_⟩
    have np' : p ≠ l := (ne_of_none upd_same np).symm
    walk_at "oh go"
    refine for_left hC (fun r σ H' => ∃ acc L o3 o4 o5 o6 o7 o8 o9 o10, σ = [some (.ref a), some (.ref b), some (.ref l), o3, o4, o5, o6, o7, o8, o9, o10] ∧ LL S4V H l H' acc L ∧ H' p = some (.lst cs) ∧ TS' H1 H' ∧ L ++ r.flatMap (fun c => greatCell c.1 c.2.1 c.2.2.1 c.2.2.2) = cellRows greatCell f g (cuts2 f g) ∧ (∀ c ∈ r, CellIn c) ∧ L.length + 3 * r.length ≤ 12000)
      ⟨[], [], none, none, none, none, none, none, none, none, rfl, (LL.new (Same.refl _) nl).step S4V.mono s1, hp1, TS'.refl _, (rows_cells greatCell f g _).symm, cells_is A B, by rw [List.length_nil]; omega⟩ ?_ ?_ ?_
    · rintro r σ H2 ⟨acc, L, o3, o4, o5, o6, o7, o8, o9, o10, rfl, X, hp2, _⟩
      exact SqL.of hp2
    · rintro x ⟨lo, hi, mine, yours⟩ r σ H2 ⟨t, va, vb, rfl, ht, hva, hvb⟩ ⟨acc, L, o3, o4, o5, o6, o7, o8, o9, o10, rfl, X, hp2, t2, e, cin, n⟩
      have ll := X.len
      have ht2 := t2 _ _ ht
      have ci := cin _ List.mem_cons_self
      have hva2 := OptV.mono LnV.mono _ _ _ _ t2 hva
      have hvb2 := OptV.mono LnV.mono _ _ _ _ t2 hvb
      have cin2 : ∀ c ∈ r, CellIn c := fun c hc => cin c (List.mem_cons_of_mem _ hc)
      rw [List.length_cons] at n
      rw [List.flatMap_cons, ← List.append_assoc] at e
      dsimp only at ht2 hva2 hvb2 e
      have skip : greatCell lo hi mine yours = [] → L ++ r.flatMap (fun c => greatCell c.1 c.2.1 c.2.2.1 c.2.2.2) = cellRows greatCell f g (cuts2 f g) := fun z => by
        rw [z, List.append_nil] at e
        exact e
      cases mine with
      | none =>
        obtain rfl : va = .non := hva2
        walk_at "oh go"
        exact ⟨_, L, _, _, _, _, _, _, _, _, rfl, X, hp2, t2, skip rfl, cin2, by omega⟩
      | some m =>
        obtain ⟨ca, rfl, hca⟩ := hva2
        cases yours with
        | none =>
          obtain rfl : vb = .non := hvb2
          walk_at "oh go"
          exact ⟨_, L, _, _, _, _, _, _, _, _, rfl, X, hp2, t2, skip rfl, cin2, by omega⟩
        | some y =>
          obtain ⟨cb, rfl, hcb⟩ := hvb2
          walk_at "oh go"
          refine ⟨Nat.le_of_ble_eq_true rfl, fun k nk => ?_⟩
          walk_at "oh go"
          refine ⟨Nat.le_of_ble_eq_true rfl, fun k2 nk2 => ?_⟩
          walk_at "oh go"
          have s2 := (same_new nk (.tup [.int (-m.1), .int (-m.2)])).trans (same_new nk2 (.tup [.int (-y.1), .int (-y.2)]))
          refine ⟨_, _, negL m, negL y, lo, hi, rfl, ⟨k, rfl, get_new nk2 upd_same⟩, ⟨k2, rfl, upd_same⟩, (ci.a m rfl).2.neg.mono (by decide), (ci.b y rfl).2.neg.mono (by decide), ci.lo.mono (by decide), ci.hi.mono (by decide), ci.le, fun l3 zs H3 n3 s3 hl3 hM => ?_⟩
          have X3 := X.step S4V.mono (s2.trans s3)
          have zl := hM.len
          have z3 := lower_le (negL m) (negL y) lo hi
          have nl3 : l ≠ l3 := ne_of_none (s2 _ _ X.at_) n3
          have t3 : TS' H1 H3 := t2.trans (.of (s2.trans s3))
          have hp3 := s3 _ _ (s2 _ _ hp2)
          walk_at "oh go"
          refine for_left hM (fun r' σ H' => ∃ acc L' o7 o8 o9 o10, σ = [some (.ref a), some (.ref b), some (.ref l), some (.int lo), some (.int hi), some (.ref ca), some (.ref cb), o7, o8, o9, o10] ∧ LL S4V H l H' acc L' ∧ H' p = some (.lst cs) ∧ H' l3 = some (.lst zs) ∧ TS' H3 H' ∧ L' ++ r'.map negS = L ++ greatCell lo hi (some m) (some y) ∧ L'.length + r'.length ≤ L.length + 3)
            ⟨_, _, _, _, _, _, rfl, X3, hp3, hl3, TS'.refl _, rfl, by omega⟩ ?_ ?_ ?_
          · rintro r' σ H' ⟨acc, L', o7, o8, o9, o10, rfl, X5, hp5, h5, _⟩
            exact SqL.of h5
          · rintro z u r' σ H' ⟨d, rfl, hd⟩ ⟨acc, L', o7, o8, o9, o10, rfl, X5, hp5, h5, t5, e5, n5⟩
            have l5 := X5.len
            have hd5 := t5 _ _ hd
            rw [List.length_cons] at n5
            walk_at "oh go"
            refine ⟨Nat.le_of_ble_eq_true rfl, fun k5 nk5 => ?_⟩
            walk_at "oh go"
            refine i_app (by walk_at "oh hp") (by omega) ?_
            walk_at "oh go"
            refine ⟨_, _, _, _, _, _, rfl, X5.pushN S4V.mono (y := negS u) nk5 ⟨k5, rfl, upd_same⟩, ?_, ?_, t5.trans ((ts_new nk5 _).trans (ts_mut (get_new nk5 X5.at_) _)), ?_, ?_⟩
            · rw [upd_ne np']
              exact get_new nk5 hp5
            · rw [upd_ne nl3.symm]
              exact get_new nk5 h5
            · rw [List.append_assoc]
              exact e5
            · rw [List.length_append]
              show L'.length + 1 + r'.length ≤ _
              omega
          · rintro σ H' ⟨acc, L', o7, o8, o9, o10, rfl, X5, hp5, h5, t5, e5, n5⟩
            have e5' : L' = L ++ greatCell lo hi (some m) (some y) := by rw [← e5, List.map_nil, List.append_nil]
            refine ⟨_, _, _, _, _, _, _, _, _, _, rfl, X5, hp5, t3.trans t5, by rw [e5']; exact e, cin2, ?_⟩
            rw [List.length_nil] at n5
            omega
    · rintro σ H2 ⟨acc, L, o3, o4, o5, o6, o7, o8, o9, o10, rfl, X, hp2, t2, e, _⟩
      rw [List.flatMap_nil, List.append_nil] at e
      subst e
      walk_at "oh go"
      exact ⟨_, _, rfl, X.rep, rin, fun r H3 s3 h => q r H3 (X.sm.trans s3) h⟩
end
end OH
set_option Elab.async false
set_option linter.all false
namespace OH
open PySem
section
variable {N : Type}
/-- the plans it is made of -/
def subs : Plan N → List (Plan N)
  | .plus a b => [a, b]
  | .cheap a b => [a, b]
  | .dear a b => [a, b]
  | .only a _ _ => [a]
  | .after a _ => [a]
  | .fee a _ => [a]
  | _ => []
/-- the form drawn of those of its parts -/
def raw : Plan N → List Form → Form
  | .each u lo hi, _ => laid [⟨lo, hi, u * lo, u⟩]
  | .flat p lo hi, _ => laid [⟨lo, hi, p, 0⟩]
  | .bands r, _ => laid (bandsR 0 r)
  | .steps r, _ => laid (zeroS :: stepsR 0 0 r)
  | .blocks size p many, _ => laid (zeroS :: blocksR size p many.toNat)
  | .name _ p, _ => (fm p).getD []
  | .plus _ _, f :: g :: _ => plus f g
  | .cheap _ _, f :: g :: _ => least f g
  | .dear _ _, f :: g :: _ => greatest f g
  | .only _ lo hi, f :: _ => within f lo hi
  | .after _ c, f :: _ => freed f c
  | .fee _ p, f :: _ => feeF f p
  | _, _ => []
abbrev Forms (ps : List (Plan N)) (fs : List Form) : Prop := PySem.Paired (fun q f => fm q = some f) ps fs
theorem chk_id {f : Form} (h : f.length ≤ most) : chk f = some f := if_pos h
theorem fm_len : ∀ (p : Plan N) (f : Form), fm p = some f → f.length ≤ 60
  | .name _ p, f, h => fm_len p f h
  | .each _ _ _, f, h => (chk_some h).1 ▸ (chk_some h).2
  | .flat _ _ _, f, h => (chk_some h).1 ▸ (chk_some h).2
  | .bands _, f, h => (chk_some h).1 ▸ (chk_some h).2
  | .steps _, f, h => (chk_some h).1 ▸ (chk_some h).2
  | .blocks _ _ _, f, h => (chk_some h).1 ▸ (chk_some h).2
  | .plus a b, f, e => by
    obtain ⟨fa, ea, e⟩ := Option.bind_eq_some_iff.mp (show (fm a).bind _ = some f from e)
    obtain ⟨fb, eb, e⟩ := Option.bind_eq_some_iff.mp e
    exact (chk_some e).1 ▸ (chk_some e).2
  | .cheap a b, f, e => by
    obtain ⟨fa, ea, e⟩ := Option.bind_eq_some_iff.mp (show (fm a).bind _ = some f from e)
    obtain ⟨fb, eb, e⟩ := Option.bind_eq_some_iff.mp e
    exact (chk_some e).1 ▸ (chk_some e).2
  | .dear a b, f, e => by
    obtain ⟨fa, ea, e⟩ := Option.bind_eq_some_iff.mp (show (fm a).bind _ = some f from e)
    obtain ⟨fb, eb, e⟩ := Option.bind_eq_some_iff.mp e
    exact (chk_some e).1 ▸ (chk_some e).2
  | .only a lo hi, f, e => by
    obtain ⟨fa, ea, e⟩ := Option.bind_eq_some_iff.mp (show (fm a).bind _ = some f from e)
    exact (chk_some e).1 ▸ (chk_some e).2
  | .after a c, f, e => by
    obtain ⟨fa, ea, e⟩ := Option.bind_eq_some_iff.mp (show (fm a).bind _ = some f from e)
    exact (chk_some e).1 ▸ (chk_some e).2
  | .fee a c, f, e => by
    obtain ⟨fa, ea, e⟩ := Option.bind_eq_some_iff.mp (show (fm a).bind _ = some f from e)
    exact (chk_some e).1 ▸ (chk_some e).2
/-- all parts have forms: its own is the one drawn, if that is not too long -/
theorem fm_raw {p : Plan N} {fs : List Form} (h : Forms (subs p) fs) (hn : ∀ n q, p = .name n q → ∃ f, fm q = some f) : fm p = chk (raw p fs) := by
  cases p with
  | each u lo hi => rfl
  | flat p lo hi => rfl
  | bands r => rfl
  | steps r => rfl
  | blocks s p m => rfl
  | name n q =>
    obtain ⟨f, e⟩ := hn n q rfl
    show fm q = chk ((fm q).getD [])
    rw [e]
    exact (chk_id (fm_len q f e)).symm
  | plus a b =>
    match fs, h with
    | _, .cons e1 (.cons e2 .nil) => show (fm a).bind _ = _; rw [e1]; show (fm b).bind _ = _; rw [e2]; rfl
  | cheap a b =>
    match fs, h with
    | _, .cons e1 (.cons e2 .nil) => show (fm a).bind _ = _; rw [e1]; show (fm b).bind _ = _; rw [e2]; rfl
  | dear a b =>
    match fs, h with
    | _, .cons e1 (.cons e2 .nil) => show (fm a).bind _ = _; rw [e1]; show (fm b).bind _ = _; rw [e2]; rfl
  | only a lo hi =>
    match fs, h with
    | _, .cons e1 .nil => show (fm a).bind _ = _; rw [e1]; rfl
  | after a c =>
    match fs, h with
    | _, .cons e1 .nil => show (fm a).bind _ = _; rw [e1]; rfl
  | fee a c =>
    match fs, h with
    | _, .cons e1 .nil => show (fm a).bind _ = _; rw [e1]; rfl
/-- a part without a form: none at all -/
theorem fm_sub {p q : Plan N} (h : q ∈ subs p) (e : fm q = none) : fm p = none := by
  have bn : ∀ {o : Option Form} {g : Form → Option Form}, o = none → o.bind g = none := fun h => by rw [h]; rfl
  have bn2 : ∀ {o : Option Form} {g : Form → Option Form}, (∀ f, g f = none) → o.bind g = none := fun {o g} h => by
    cases o with
    | none => rfl
    | some f => exact h f
  cases p with
  | each u lo hi => cases h
  | flat p lo hi => cases h
  | bands r => cases h
  | steps r => cases h
  | blocks s p m => cases h
  | name n q => cases h
  | plus a b =>
    rcases List.mem_cons.mp h with rfl | h
    · exact bn e
    · rw [List.mem_singleton.mp h] at e
      exact bn2 fun f => bn e
  | cheap a b =>
    rcases List.mem_cons.mp h with rfl | h
    · exact bn e
    · rw [List.mem_singleton.mp h] at e
      exact bn2 fun f => bn e
  | dear a b =>
    rcases List.mem_cons.mp h with rfl | h
    · exact bn e
    · rw [List.mem_singleton.mp h] at e
      exact bn2 fun f => bn e
  | only a lo hi => rw [List.mem_singleton.mp h] at e; exact bn e
  | after a c => rw [List.mem_singleton.mp h] at e; exact bn e
  | fee a c => rw [List.mem_singleton.mp h] at e; exact bn e
theorem sub_ok {p q : Plan N} (h : q ∈ subs p) (k : PlanOk p) : PlanOk q ∧ ops q + 1 ≤ ops p := by
  have pr : ∀ {a b : Plan N} {n m : Nat}, q ∈ [a, b] → PlanOk a ∧ PlanOk b → ops a = n → ops b = m → PlanOk q ∧ ops q + 1 ≤ max n m + 1 := fun h k e1 e2 => by
    rcases List.mem_cons.mp h with rfl | h
    · exact ⟨k.1, by omega⟩
    · rw [List.mem_singleton.mp h]
      exact ⟨k.2, by omega⟩
  cases p with
  | each u lo hi => cases h
  | flat p lo hi => cases h
  | bands r => cases h
  | steps r => cases h
  | blocks s p m => cases h
  | name n q => cases h
  | plus a b => exact pr h k rfl rfl
  | cheap a b => exact pr h k rfl rfl
  | dear a b => exact pr h k rfl rfl
  | only a lo hi => rw [List.mem_singleton.mp h]; exact ⟨k.1, Nat.le_refl _⟩
  | after a c => rw [List.mem_singleton.mp h]; exact ⟨k.1, Nat.le_refl _⟩
  | fee a c => rw [List.mem_singleton.mp h]; exact ⟨k.1, Nat.le_refl _⟩
/-! ### sizes -/
theorem FB.to {a p b q : Nat} {f : Form} (h : FB a p f) (l : a ≤ b := by omega) (m : p ≤ q := by omega) : FB b q f := h.mono l m
theorem fb_bands {r : Rows} (h : ∀ q ∈ r, Sz 130 q.1 ∧ Sz 130 q.2) : ∀ low, Sz 131 low → FB 131 262 (bandsR low r) := by
  induction r with
  | nil => intro _ _; exact FB.nil
  | cons q r ih =>
    intro low hl
    obtain ⟨top, u⟩ := q
    have q1 := h _ List.mem_cons_self
    exact FB.append (FB.one (s := ⟨low, top, u * low, u⟩) ⟨hl, q1.1.mono (by decide), (q1.2.mul hl).mono (by decide), q1.2.mono (by decide)⟩) (ih (fun t ht => h t (List.mem_cons_of_mem _ ht)) (top + 1) (q1.1.add ((show Sz 2 1 by unfold Sz; decide).mono (by decide))))
theorem fb_steps : ∀ {r : Rows} (k : Nat), (∀ q ∈ r, Sz 130 q.1 ∧ Sz 130 q.2) → ∀ price done, Sz (262 + k) price → Sz 130 done → FB 131 (264 + k + r.length) (stepsR price done r)
  | [], _, _, _, _, _, _ => FB.nil
  | (top, u) :: r, k, h, price, done, hp, hd => by
    have q1 := h _ List.mem_cons_self
    have hr : ∀ q ∈ r, Sz 130 q.1 ∧ Sz 130 q.2 := fun t ht => h t (List.mem_cons_of_mem _ ht)
    have one : Sz 130 1 := (show Sz 2 1 by unfold Sz; decide).mono (by decide)
    have e : ((top, u) :: r).length = r.length + 1 := rfl
    unfold stepsR
    split
    · refine FB.append (f := [_]) (FB.one ⟨(hd.add one).mono (by decide), q1.1.mono (by decide), ((hp.add (q1.2.mono (by omega))).mono (by omega)), q1.2.mono (by omega)⟩) ?_
      have z : Sz (130 + 131) (u * (top - done)) := q1.2.mul (q1.1.sub hd)
      exact (fb_steps (k + 1) hr _ _ ((hp.add (z.mono (by omega))).mono (by omega)) q1.1).mono (Nat.le_refl _) (by omega)
    · exact (fb_steps k hr price done hp hd).mono (Nat.le_refl _) (by omega)
theorem fb_blocks {size p : Int} {many : Nat} (hs : Sz 128 size) (hp : Sz 130 p) (hm : many ≤ 3) : FB 131 266 (blocksR size p many) := fun s hs' => by
  obtain ⟨k, hk, e⟩ := List.mem_map.mp hs'
  have lt : k < many := List.mem_range.mp hk
  have k1 : Sz 2 (k : Int) := by unfold Sz; omega
  have k2 : Sz 2 ((k : Int) + 1) := by unfold Sz; omega
  have k3 : Sz 3 ((k : Int) + 1) := k2.mono (by decide)
  have one : Sz 130 1 := (show Sz 2 1 by unfold Sz; decide).mono (by decide)
  rw [← e]
  exact ⟨(hs.mul k1).add one, (hs.mul k2).mono (by decide), (hp.mul k3).mono (by decide), Sz.zero⟩
theorem fb_zero {a p : Nat} : FB a p [zeroS] := FB.one ⟨Sz.zero, Sz.zero, Sz.zero, Sz.zero⟩
theorem bandsR_in {r : Rows} (h : RowsOk r) : ∀ s ∈ bandsR 0 r, s.lo ≤ s.hi := (bandsR_asc r 0 h.nn h.asc).ne
theorem feeF_parts {a p : Nat} {f : Form} (A : Asc f) (F : FB a p f) (h2 : 2 ≤ a) {x : Int} (hx : Sz p x) :
    FB a (p + a + 7) (within f 0 0) ∧ Asc (within f 0 0) ∧ FB a (p + a + 4) (without f 0 0) ∧ Asc (without f 0 0) ∧ FB a (p + a + 7) (raised (without f 0 0) x) ∧ Asc (raised (without f 0 0) x) := by
  have w1 := (within_ok A 0 0).1
  have w2 := (without_ok A (Int.le_refl 0)).1
  have w3 := (raised_ok w2 x).1
  have n1 : ∀ s ∈ withinR f 0 0, s.lo ≤ s.hi := (withinR_asc A 0 0).ne
  have n2 : ∀ s ∈ withoutR f 0 0, s.lo ≤ s.hi := fun s hs => by
    obtain ⟨u, _, hs⟩ := List.mem_flatMap.mp hs
    rcases List.mem_append.mp hs with hs | hs <;> exact (clip_in hs).2.2.2.2
  have n3 : ∀ s ∈ raisedR (without f 0 0) x, s.lo ≤ s.hi := fun s hs => by
    obtain ⟨t, ht, e⟩ := List.mem_map.mp hs
    rw [← e]
    exact w2.ne t ht
  have b2 : FB a (p + a + 4) (without f 0 0) := FB.laid (FB.withoutR F h2) n2
  exact ⟨(FB.laid (FB.withinR F Sz.zero Sz.zero) n1).mono (Nat.le_refl _) (by omega), w1, b2, w2, FB.laid (FB.raisedR b2 (hx.mono (by omega))) n3, w3⟩
theorem pB_succ (n : Nat) : pB (n + 1) = pB n + 500 := by unfold pB; omega
theorem aB_succ (n : Nat) : aB (n + 1) = aB n + 1 := by unfold aB; omega
theorem fm_fb : ∀ (p : Plan N) (f : Form), PlanOk p → ops p ≤ 9 → fm p = some f → FB (aB (ops p)) (pB (ops p)) f
  | .each u lo hi, f, h, _, e => by
    obtain ⟨rfl, _⟩ := chk_some e
    obtain ⟨h1, h2, h3, h4⟩ := h
    show FB 131 270 _
    exact (FB.laid (p := 262) (FB.one ⟨h3.mono (by decide), h4.mono (by decide), (h2.mul h3).mono (by decide), h2.mono (by decide)⟩) (fun r hr => by rw [List.mem_singleton.mp hr]; exact h1)).mono (Nat.le_refl _) (by decide)
  | .flat p lo hi, f, h, _, e => by
    obtain ⟨rfl, _⟩ := chk_some e
    obtain ⟨h1, h2, h3, h4⟩ := h
    show FB 131 270 _
    exact (FB.laid (p := 262) (FB.one ⟨h3.mono (by decide), h4.mono (by decide), h2.mono (by decide), Sz.zero⟩) (fun r hr => by rw [List.mem_singleton.mp hr]; exact h1)).mono (Nat.le_refl _) (by decide)
  | .bands r, f, h, _, e => by
    obtain ⟨rfl, _⟩ := chk_some e
    show FB 131 270 _
    exact (FB.laid (fb_bands h.sz 0 Sz.zero) (bandsR_in h)).mono (Nat.le_refl _) (by decide)
  | .steps r, f, h, _, e => by
    obtain ⟨rfl, _⟩ := chk_some e
    have hl := h.len
    show FB 131 270 _
    exact (FB.laid (p := 266) (FB.append fb_zero ((fb_steps 0 h.sz 0 0 Sz.zero Sz.zero).mono (Nat.le_refl _) (by omega))) (steps_ok h).1.ne).mono (Nat.le_refl _) (by decide)
  | .blocks size p many, f, h, _, e => by
    obtain ⟨rfl, _⟩ := chk_some e
    obtain ⟨h1, h2, h3, h4, h5⟩ := h
    show FB 131 270 _
    exact (FB.laid (FB.append fb_zero (fb_blocks h4 h5 (by omega))) (blocks_ok h1 h2).1.ne).mono (Nat.le_refl _) (by decide)
  | .name _ p, f, h, k, e => fm_fb p f h k e
  | .plus a b, f, h, k, e => by
    obtain ⟨fa, ea, e⟩ := Option.bind_eq_some_iff.mp (show (fm a).bind _ = some f from e)
    obtain ⟨fb, eb, e⟩ := Option.bind_eq_some_iff.mp e
    obtain ⟨rfl, _⟩ := chk_some e
    have k' : max (ops a) (ops b) + 1 ≤ 9 := k
    have A := (fm_fb a fa h.1 (by omega) ea).mono (b := aB (max (ops a) (ops b))) (q := pB (max (ops a) (ops b))) (by unfold aB; omega) (by unfold pB; omega)
    have B := (fm_fb b fb h.2 (by omega) eb).mono (b := aB (max (ops a) (ops b))) (q := pB (max (ops a) (ops b))) (by unfold aB; omega) (by unfold pB; omega)
    show FB (aB (max (ops a) (ops b) + 1)) (pB (max (ops a) (ops b) + 1)) _
    rw [aB_succ, pB_succ]
    generalize max (ops a) (ops b) = n at A B k'
    have hn : aB n ≤ 140 := by unfold aB; omega
    exact (FB.laid (FB.plusR A B) (plusR_ok fa fb (fm_ok a fa h.1 ea).1 (fm_ok b fb h.2 eb).1).1.ne).mono (by omega) (by omega)
  | .cheap a b, f, h, k, e => by
    obtain ⟨fa, ea, e⟩ := Option.bind_eq_some_iff.mp (show (fm a).bind _ = some f from e)
    obtain ⟨fb, eb, e⟩ := Option.bind_eq_some_iff.mp e
    obtain ⟨rfl, _⟩ := chk_some e
    have k' : max (ops a) (ops b) + 1 ≤ 9 := k
    have A := (fm_fb a fa h.1 (by omega) ea).mono (b := aB (max (ops a) (ops b))) (q := pB (max (ops a) (ops b))) (by unfold aB; omega) (by unfold pB; omega)
    have B := (fm_fb b fb h.2 (by omega) eb).mono (b := aB (max (ops a) (ops b))) (q := pB (max (ops a) (ops b))) (by unfold aB; omega) (by unfold pB; omega)
    show FB (aB (max (ops a) (ops b) + 1)) (pB (max (ops a) (ops b) + 1)) _
    rw [aB_succ, pB_succ]
    generalize max (ops a) (ops b) = n at A B k'
    have hn : aB n ≤ 140 := by unfold aB; omega
    have h1 : 1 ≤ aB n := by unfold aB; omega
    exact (FB.laid (FB.cellRows A B h1 fun lo hi x y le s1 s2 hx hy => fb_leastCell lo hi x y le s1 s2 hx hy) (cellRows_ok least_cell (fm_ok a fa h.1 ea).1 (fm_ok b fb h.2 eb).1 (cutsOf_ok _)).1.ne).mono (by omega) (by omega)
  | .dear a b, f, h, k, e => by
    obtain ⟨fa, ea, e⟩ := Option.bind_eq_some_iff.mp (show (fm a).bind _ = some f from e)
    obtain ⟨fb, eb, e⟩ := Option.bind_eq_some_iff.mp e
    obtain ⟨rfl, _⟩ := chk_some e
    have k' : max (ops a) (ops b) + 1 ≤ 9 := k
    have A := (fm_fb a fa h.1 (by omega) ea).mono (b := aB (max (ops a) (ops b))) (q := pB (max (ops a) (ops b))) (by unfold aB; omega) (by unfold pB; omega)
    have B := (fm_fb b fb h.2 (by omega) eb).mono (b := aB (max (ops a) (ops b))) (q := pB (max (ops a) (ops b))) (by unfold aB; omega) (by unfold pB; omega)
    show FB (aB (max (ops a) (ops b) + 1)) (pB (max (ops a) (ops b) + 1)) _
    rw [aB_succ, pB_succ]
    generalize max (ops a) (ops b) = n at A B k'
    have hn : aB n ≤ 140 := by unfold aB; omega
    have h1 : 1 ≤ aB n := by unfold aB; omega
    exact (FB.laid (FB.cellRows A B h1 fun lo hi x y le s1 s2 hx hy => fb_greatCell lo hi x y le s1 s2 hx hy) (cellRows_ok great_cell (fm_ok a fa h.1 ea).1 (fm_ok b fb h.2 eb).1 (cutsOf_ok _)).1.ne).mono (by omega) (by omega)
  | .only a lo hi, f, h, k, e => by
    obtain ⟨fa, ea, e⟩ := Option.bind_eq_some_iff.mp (show (fm a).bind _ = some f from e)
    obtain ⟨rfl, _⟩ := chk_some e
    have k' : ops a + 1 ≤ 9 := k
    have A := fm_fb a fa h.1 (by omega) ea
    obtain ⟨h0, h1, h2, h3⟩ := h
    show FB (aB (ops a + 1)) (pB (ops a + 1)) _
    rw [aB_succ, pB_succ]
    have hn : aB (ops a) ≤ 140 := by unfold aB; omega
    have h4 : 131 ≤ aB (ops a) := by unfold aB; omega
    exact (FB.laid (FB.withinR A (h2.mono (by omega)) (h3.mono (by omega))) (withinR_asc (fm_ok a fa h0 ea).1 lo hi).ne).mono (by omega) (by omega)
  | .after a c, f, h, k, e => by
    obtain ⟨fa, ea, e⟩ := Option.bind_eq_some_iff.mp (show (fm a).bind _ = some f from e)
    obtain ⟨rfl, _⟩ := chk_some e
    have k' : ops a + 1 ≤ 9 := k
    have A := fm_fb a fa h.1 (by omega) ea
    have as := (fm_ok a fa h.1 ea).1
    obtain ⟨h0, h1, h2⟩ := h
    show FB (aB (ops a + 1)) (pB (ops a + 1)) _
    rw [aB_succ, pB_succ]
    have hn : aB (ops a) ≤ 140 := by unfold aB; omega
    have h4 : 131 ≤ aB (ops a) := by unfold aB; omega
    refine (FB.laid (FB.freedR A as (by omega) (h2.mono (by omega))) fun s hs => ?_).mono (by omega) (by omega)
    unfold freedR freedHead at hs
    rcases List.mem_append.mp hs with hs | hs
    · split at hs
      · cases hs
      · rw [List.mem_singleton.mp hs]
        exact h1
    · obtain ⟨u, _, hs⟩ := List.mem_flatMap.mp hs
      obtain ⟨t, ht, e⟩ := List.mem_map.mp hs
      have := (clip_in ht).2.2.2.2
      rw [← e]
      show t.lo + c ≤ t.hi + c
      omega
  | .fee a x, f, h, k, e => by
    obtain ⟨fa, ea, e⟩ := Option.bind_eq_some_iff.mp (show (fm a).bind _ = some f from e)
    obtain ⟨rfl, _⟩ := chk_some e
    have k' : ops a + 1 ≤ 9 := k
    have A := fm_fb a fa h.1 (by omega) ea
    have as := (fm_ok a fa h.1 ea).1
    show FB (aB (ops a + 1)) (pB (ops a + 1)) _
    rw [aB_succ, pB_succ]
    have hn : aB (ops a) ≤ 140 := by unfold aB; omega
    have h4 : 131 ≤ aB (ops a) := by unfold aB; omega
    have h5 : 270 ≤ pB (ops a) := by unfold pB; omega
    obtain ⟨b1, b2, _, _, b5, b6⟩ := feeF_parts as A (by omega) (h.2.mono (by omega))
    exact (FB.laid (FB.cellRows b1 b5 (by omega) fun lo hi x y le s1 s2 hx hy => fb_leastCell lo hi x y le s1 s2 hx hy) (cellRows_ok least_cell b2 b6 (cutsOf_ok _)).1.ne).mono (by omega) (by omega)
structure PlanIn (p : Plan N) : Prop where
  ok : PlanOk p
  ops : ops p ≤ 9
theorem PlanIn.form {p : Plan N} (h : PlanIn p) {f : Form} (e : fm p = some f) : FormIn f := by
  have k := h.ops
  refine ⟨(fm_fb p f h.ok h.ops e).mono (by unfold aB; omega) (by unfold pB; omega), (fm_ok p f h.ok e).1, ?_⟩
  have := fm_len p f e
  omega
theorem PlanIn.sub {p q : Plan N} (h : PlanIn p) (m : q ∈ subs p) : PlanIn q := by
  obtain ⟨a, b⟩ := sub_ok m h.ok
  have := h.ops
  exact ⟨a, by omega⟩
end
end OH
set_option Elab.async false
set_option linter.all false
set_option maxRecDepth 100000
set_option maxHeartbeats 4000000
/-! A list comprehension whose element lets an exception out. -/
namespace OH
open PySem PySem.Spec PyProof.Rows L2
theorem flying_less {B B' h : Heap} {l : List Env} {a : Addr} {Z : Obj → Prop} (x : HandSPX.FlyingZ B l a Z h) (le : ∀ b o, B'.get? b = some o → B.get? b = some o) : HandSPX.FlyingZ B' l a Z h := by
  have no : ∀ b, B.get? b = none → B'.get? b = none := fun b e => by
    cases q : B'.get? b with
    | none => rfl
    | some o => rw [le b o q] at e; cases e
  obtain ⟨x1, x2, x3, oe, vs, T, oT, ts, q1, q2, q3, q4, q5, q6⟩ := x
  exact ⟨fun b o e => x1 b o (le b o e), no a x2, funFrames_none x3 fun L hL => no L (x3.mem hL).1, oe, vs, T, oT, ts, q1, q2, q3, q4, no T q5, q6⟩
theorem held_same {B h h' : Heap} {l : List Env} {a L C : Addr} {Z : Obj → Prop} {m m' : Str → Option Value} (x : HandSPX.HeldZ B l a Z L h) (s : Heap.SameBut C h h') (n : h.Ns C m) (n' : h'.Ns C m') (hB : B.get? C = none) : HandSPX.HeldZ B l a Z L h' := by
  obtain ⟨x1, x2, x3, oe, vs, T, oT, ts, q1, q2, q3, q4, q5, q6, q7, q8, q9⟩ := x
  obtain ⟨oC, es, ep, hC, hd, _⟩ := n
  have ne : ∀ {b : Addr} {o : Obj} {fs : Array Value}, h.get? b = some o → o.data = .fields fs → b ≠ C := fun e d z => by
    rw [z, hC] at e
    cases e
    rw [hd] at d
    cases d
  exact ⟨fun b o e => (s.2 b fun z => by rw [z, hB] at e; cases e).trans (x1 b o e), x2, Heap.FunFrames.sameBut s n' x3, oe, vs, T, oT, ts, (s.2 a (ne q1 q3)).trans q1, q2, q3, q4, q5, q6, (s.2 T (ne q7 q8)).trans q7, q8, q9⟩
section
variable {X : Cx} {pins pins' : List (Addr × Obj)} {σ σ' : L2.St} {H3 H : Hp} {s3 s s' : Shared} {W : WX} {E : XK} {scope : Scope} {ce : Env} {fp : List Addr} {u : Value}
/-- an exception goes through the block and on in the def's own air -/
theorem out_of_block (tk : Takes X W) (hW : ∀ cls d σ H, E cls d H → W cls d σ H) (hs : X.stack = X.env :: X.outer) (hf : X.env.frame = some X.env.locals) (I3 : Inv X pins σ H3 s3) (f3 : ∀ b ∈ fp, FpOk X pins H3 b)
    (cF : ce.frame = X.env.frame) (Ib : Inv (X.blk s3 H3 scope ce fp) pins' σ' H s) (c : L2.CX X.prog X.w X.stack H s E u s') :
    notedBy (model X.prog X.w) X.A ce (CompFails (model X.prog X.w) X.A X.xe ce) u s' := by
  obtain ⟨a, B, H', cls, d, rfl, fl, hok, ub, na, os, ag, hE⟩ := c
  obtain ⟨m, hn, _⟩ := Ib.loc
  have hn : s.heap.Ns ce.locals m := hn
  have above : s3.heap.objs.size ≤ ce.locals := Ib.ok.above
  have bas : Un (frs X.stack) fp H3 H s3.heap s.heap := Ib.base
  have freeC : H ce.locals = none := Ib.free
  have ffs : s3.heap.FunFrames X.base X.stack := Ib.ok.funs
  have nfr : ce.locals ∉ frs X.stack := fun z => by
    obtain ⟨_, o, e, _⟩ := ffs.mem z
    exact absurd (Nat.lt_of_lt_of_le (Heap.lt_size e) above) (Nat.lt_irrefl _)
  obtain ⟨oC, esC, epC, hC, hdC, rC⟩ := id hn
  have inB : B.get? ce.locals = some oC := ub.keep _ _ hC freeC nfr
  have freeC' : H' ce.locals = none := ub.free _ _ hC freeC
  obtain ⟨B', g1, g2⟩ := restrict B fun b => decide (b ≠ ce.locals)
  have less : ∀ b o, B'.get? b = some o → B.get? b = some o := fun b o e => by
    by_cases z : b = ce.locals
    · rw [g2 b (by simp [z])] at e
      cases e
    · rw [g1 b (by simp [z])] at e
      exact e
  have more : ∀ b o, b ≠ ce.locals → B.get? b = some o → B'.get? b = some o := fun b o z e => (g1 b (by simp [z])).trans e
  have noC : B'.get? ce.locals = none := g2 _ (by simp)
  have fl' := flying_less fl less
  have st' : B'.StaysIn s'.heap := fl'.1
  have hfr : X.A.frames = some (X.env :: X.outer) := by rw [I3.ok.frames, hs]
  obtain ⟨G, k1, k2⟩ := restrict s'.heap fun b => (B'.get? b).isSome || decide (b ∈ frs X.stack)
  have gB : ∀ b o, B'.get? b = some o → G.get? b = some o := fun b o e => by
    rw [k1 b (by simp [e])]
    exact st' b o e
  have gF : ∀ b, b ∈ frs X.stack → G.get? b = s'.heap.get? b := fun b hb => k1 b (by simp [hb])
  have og : ∀ b o, G.get? b = some o → s'.heap.get? b = some o ∧ ((B'.get? b).isSome = true ∨ b ∈ frs X.stack) := fun b o e => by
    cases q : ((B'.get? b).isSome || decide (b ∈ frs X.stack)) with
    | false =>
      rw [k2 b q] at e
      cases e
    | true =>
      rw [k1 b q] at e
      exact ⟨e, by simpa [Bool.or_eq_true] using q⟩
  have small : ∀ b o, s3.heap.get? b = some o → b ≠ ce.locals := fun b o e z => by
    have lt := Heap.lt_size e
    rw [z] at lt
    exact absurd (Nat.lt_of_lt_of_le lt above) (Nat.lt_irrefl _)
  have un : Un (frs X.stack) fp H3 H' s3.heap G := by
    refine ⟨fun b o e n hb hx => gB b o (more b o (small b o e) (ub.keep b o (bas.keep b o e n hb hx) (bas.free b o e n hx) hb)), fun b o e n hb hx => ?_, fun b o e n hx => ?_, fun b o e hx => ?_,
      fun b xs q => ub.tups b xs (bas.tups b xs q), fun b o y q => ub.frzs b o y (bas.frzs b o y q), fun b ps q => ?_⟩
    · obtain ⟨sl, q⟩ := bas.slot b o e n hb hx
      obtain ⟨sl2, q2⟩ := ub.slot b _ q hb
      exact ⟨sl2, by rw [gF b hb]; exact q2⟩
    · obtain ⟨o', q⟩ := bas.there b o e hx
      exact ub.free b o' q (bas.free b o e n hx)
    · obtain ⟨o', q⟩ := bas.there b o e hx
      by_cases hb : b ∈ frs X.stack
      · obtain ⟨sl, q2⟩ := ub.slot b o' q hb
        exact ⟨_, by rw [gF b hb]; exact q2⟩
      · obtain ⟨o2, q2⟩ := ub.there b o' q hb
        exact ⟨o2, gB b o2 (more b o2 (small b o e) q2)⟩
    · obtain ⟨m1, q1⟩ := bas.tbls b ps q
      obtain ⟨m2, q2⟩ := ub.tbls b _ q1
      exact ⟨m1 ++ m2, by rw [q2, Array.append_assoc]⟩
  have hokG : HOk X.prog X.w H' G := fun b o q => (hok b o q).stay (fun x y hc r => gB x y (more x y (fun z => by
    rcases hc with hc | hc
    · rw [← z, hc, q] at freeC'
      cases freeC'
    · rw [← z, hc] at freeC'
      cases freeC') r)) (fun _ r => r) fun _ _ r => r
  have Is : Inv X pins σ H' { s3 with heap := G, gens := s'.gens, drawn := s'.drawn, toks := s'.toks } :=
    I3.call (ch := fp) un hokG ag fun b hb => ⟨(f3 b hb).2.2.2.1, (f3 b hb).2.1, (f3 b hb).2.2.2.2.1, (f3 b hb).2.2.2.2.2⟩
  show wpAny _ X.A (noteFrame (.ref a) ce) _ _ s'
  rw [noteFrame_env _ cF]
  rw [hs] at fl'
  refine HandSPX.looks_onZ Zc.steady hfr hf fl' fun h1 hh up1 => ?_
  have c1 : ∃ sl, h1.get? ce.locals = some { oC with slots := sl } := up1 _ _ (fl.1 _ _ inB) (fun vs z => by rw [hdC] at z; cases z)
  obtain ⟨sl1, e1⟩ := c1
  have n1 : h1.Ns ce.locals m := ⟨_, esC, epC, e1, hdC, rC⟩
  refine ⟨m, n1, fun h2 m2 n2 sb => ?_⟩
  have hh2 := held_same hh sb n1 n2 noC
  have hh3 := hh2
  obtain ⟨_, _, _, oe, vs, T, oT, ts, q1, q2, q3, q4, _⟩ := hh3
  unfold PySem.passOn
  refine wpAny_bind (wpAny_field q1 q3 q4 ?_)
  rw [if_neg (show ¬ ((Value.ref T == Value.none) = true) from by simp)]
  rw [cF, hf]
  refine wpAny_bind (HandSPX.setFlight_onZ hh2 fun h3 hh3 up3 => wpAny_throw ?_)
  refine tk _ _ ⟨a, B', _, pins, σ, H', cls, d, rfl, Is, fun b o e hb => ?_, fun b o e hnf => ?_, .inr (.inr (by rw [hs]; exact hh3)), na, os.trans Ib.os, ag, hW _ _ _ _ hE⟩
  · obtain ⟨e', h⟩ := og b o e
    rcases h with h | h
    · obtain ⟨o', q⟩ := Option.isSome_iff_exists.mp h
      have z := st' b o' q
      rw [e'] at z
      cases z
      exact q
    · exact absurd h hb
  · obtain ⟨e', h⟩ := og b o e
    have ne : b ≠ ce.locals := fun z => by
      rcases h with h | h
      · rw [z, noC] at h
        cases h
      · exact nfr (z ▸ h)
    obtain ⟨s1, r1⟩ := up1 b o e' hnf
    obtain ⟨s2, r2⟩ := up3 b _ ((sb.2 b ne).trans r1) hnf
    exact ⟨s2, r2⟩
end
/-- the block, its element's exceptions by E -/
abbrev blkE (X : Cx) (s : Shared) (H : Hp) (scope : Scope) (ce : Env) (fp : List Addr) (E : XK) : Cx :=
  { X with s_0 := s, H_0 := H, env := ce, outer := X.stack, ex := fp, fn := fun x => scope.names.lookup x == some .cell, pn := [], xe := fun u s' => ∃ pins σ H1 s1, Inv (X.blk s H scope ce fp) pins σ H1 s1 ∧ L2.CX X.prog X.w X.stack H1 s1 E u s' }
section
variable {X : Cx} {s0 : Shared} {H0 : Hp} {scope : Scope} {ce : Env} {fp : List Addr} {E : XK} {pins : List (Addr × Obj)} {σ : L2.St} {H : Hp} {s : Shared}
theorem to_E (I : Inv (X.blk s0 H0 scope ce fp) pins σ H s) : Inv (blkE X s0 H0 scope ce fp E) pins σ H s :=
  ⟨⟨I.ok.mod, I.ok.kind, I.ok.glob, I.ok.blt, I.ok.above, I.ok.inj, I.ok.has, I.ok.cab, I.ok.hd, I.ok.frames, I.ok.stk, I.ok.exf, I.ok.bs, I.ok.bsz, I.ok.noex, I.ok.exfs, I.ok.funs, I.ok.frf⟩, I.os, I.bare, I.base, I.loc, I.cell, I.free, I.freeC, I.pin, I.hok, I.len⟩
theorem of_E (I : Inv (blkE X s0 H0 scope ce fp E) pins σ H s) : Inv (X.blk s0 H0 scope ce fp) pins σ H s :=
  ⟨⟨I.ok.mod, I.ok.kind, I.ok.glob, I.ok.blt, I.ok.above, I.ok.inj, I.ok.has, I.ok.cab, I.ok.hd, I.ok.frames, I.ok.stk, I.ok.exf, I.ok.bs, I.ok.bsz, I.ok.noex, I.ok.exfs, I.ok.funs, I.ok.frf⟩, I.os, I.bare, I.base, I.loc, I.cell, I.free, I.freeC, I.pin, I.hok, I.len⟩
theorem pass_E {P : Program} {w : World} (hP : X.prog = P := by rfl) (hw : X.w = w := by rfl) : Passes (L2.CX P w) (blkE X s0 H0 scope ce fp E) E := fun pins σ H s e s' I c => by
  subst hP
  subst hw
  exact ⟨pins, σ, H, s, of_E I, c⟩
end
section
variable {X : Cx}
/-- [elt for target in iter], the element by a call that may raise -/
theorem pe_lcX {elt tg iter : Expr} {scope : Scope} {own : List (Str × Nat)} {pos : Pos} {wi : TI} {g : TG} {te : TE} {W : WX} {E : XK} (tk : Takes X W) (hW : ∀ cls d σ H, E cls d H → W cls d σ H) (hst : X.stack = X.env :: X.outer) (hfr : X.env.frame = some X.env.locals)
    (hc : X.calm = true) (hN : X.N.Nodup) (hi : PI X tg iter wi) (ok : BlkOk X.N X.env.scope scope own)
    (hg : ∀ (s : Shared) (H : Hp) (C : Addr) (cl : List (Str × Addr)) (fp : List Addr), PG (X.blk s H scope (compEnvC scope cl C X.env) fp) tg g)
    (he : ∀ (s : Shared) (H : Hp) (C : Addr) (cl : List (Str × Addr)) (fp : List Addr), PE (blkE X s H scope (compEnvC scope cl C X.env) fp E) elt te) (hs : ∀ x, foldedSetIterable iter X.env x = pure x := by intro _; rfl) :
    PE X (.ListComp elt [⟨tg, iter, [], 0⟩] scope pos) (tLc wi g tYes te (own.map (·.2))) := by
  refine ⟨fun pins s σ H Q I h => ?_⟩
  rw [eval_ListComp]
  have cells : ∀ y ∈ scope.names, y.2 = .free → ∃ c, X.env.cells.lookup y.1 = some c := fun y hy e => (ok.free y hy e).elim (fun k => I.ok.has _ (.inl k)) fun k => I.ok.has _ (.inr k)
  refine comprehension_at (use := none) rfl hs (closure_ok cells) ok.kind (fun y hy e => by rw [ok.uniq y hy, e]) (thn (hi.run pins s σ H _ I h) fun xv s1 hx => thn hx fun itv s2 ⟨it, fp, tn, J, H2, e, I2, T, st2, f2, q⟩ => ?_)
  subst e
  refine wpAny_newObj_type (newEnv_comp ?_) (by show 0 ≤ sizeLine; decide)
  generalize eD : s2.heap.objs.size = D
  have nD : H2 D = none := I2.hok.fresh (Nat.le_of_eq eD)
  obtain ⟨Wm, ⟨m0, w0⟩, turn⟩ := q D nD
  generalize e3 : ({ s2 with heap := s2.heap.push { cls := .type "list", data := .seq ([] : List Value).toArray } } : Shared) = s3
  have h3 : s3.heap = s2.heap.push { cls := .type "list", data := .seq ([] : List Value).toArray } := by rw [← e3]
  have I3 : Inv X pins σ (upd H2 D (.lst [])) s3 := by
    rw [← e3]
    refine I2.laid (t' := s2.toks) (fun b o z => Heap.get?_push_of_some _ z) (Nat.le_of_eq eD) ⟨Nat.zero_le _, [], 0, .nil, ?_⟩
    rw [← eD]
    exact Heap.get?_push_size _ rfl
  have f3 : ∀ b ∈ fp, FpOk X pins (upd H2 D (.lst [])) b ∧ b < s3.heap.objs.size := fun b hb => by
    obtain ⟨o, z, _⟩ := T.obj _ _ st2 b hb
    have lt := Heap.lt_size z
    refine ⟨⟨?_, (f2 b hb).2⟩, by rw [h3, Heap.size_push]; exact Nat.lt_succ_of_lt lt⟩
    rw [upd_ne (by rw [← eD]; exact Nat.ne_of_lt lt)]
    exact (f2 b hb).1
  have I4 := block_start I3 ok hN f3
  have gg := hg s3 (upd H2 D (.lst [])) s3.heap.objs.size (cellsFrom (s3.heap.objs.size + 1) scope.names (cloFrom X.env.cells scope.names [])) fp
  have gp := he s3 (upd H2 D (.lst [])) s3.heap.objs.size (cellsFrom (s3.heap.objs.size + 1) scope.names (cloFrom X.env.cells scope.names [])) fp
  show codeAny _ _ (.compStart (.ListComp elt [⟨tg, iter, [], 0⟩] scope pos) 0 (.ref it) (.ref D) (compEnvC scope (cellsFrom (s3.heap.objs.size + 1) scope.names (cloFrom X.env.cells scope.names [])) s3.heap.objs.size X.env))
    (compEnds (model X.prog X.w) X.A X.xe none (EP X pins σ Q) (.ref D) (compEnvC scope (cellsFrom (s3.heap.objs.size + 1) scope.names (cloFrom X.env.cells scope.names [])) s3.heap.objs.size X.env)) { s3 with heap := pushCells (s3.heap.push { cls := .type "dict", data := .dict #[] }) scope.names }
  generalize ece : compEnvC scope (cellsFrom (s3.heap.objs.size + 1) scope.names (cloFrom X.env.cells scope.names [])) s3.heap.objs.size X.env = ce at I4 gg gp ⊢
  have cF : ce.frame = X.env.frame := by rw [← ece]; rfl
  have cL : ce.locals = s3.heap.objs.size := by rw [← ece]; rfl
  have st4 : tn 0 (pushCells (s3.heap.push { cls := .type "dict", data := .dict #[] }) scope.names) := T.keep _ _ _ st2 fun b _ o z => pushCells_keeps _ _ _ _ (Heap.get?_push_of_some _ (by rw [h3]; exact Heap.get?_push_of_some _ z))
  generalize eH : upd H2 D (.lst []) = H3 at I3 I4 gg gp w0 f3
  generalize e4 : ({ s3 with heap := pushCells (s3.heap.push { cls := .type "dict", data := .dict #[] }) scope.names } : Shared) = s4 at I4 ⊢
  have st4' : tn 0 s4.heap := by rw [← e4]; exact st4
  have fpo : ∀ {σ' : L2.St} {H' : Hp} {s' : Shared}, Inv (X.blk s3 H3 scope ce fp) [] σ' H' s' → (∀ b ∈ fp, H' b = none) → ∀ b ∈ fp, FpOk (X.blk s3 H3 scope ce fp) [] H' b := fun {σ' H' s'} I' hn b hb =>
    ⟨hn b hb, (I'.ok.exf b hb).1, I'.ok.exfs b hb, .inl hb, fun x c z => (I'.ok.exf b hb).2 x c z, fun p hp => absurd (show p ∈ ([] : List (Addr × Obj)) ++ [] from hp) (by simp)⟩
  have never : ∀ {α : Type} {t : Sem α} {R R' : α → Shared → Prop} {E' : Value → Shared → Prop} {sx : Shared}, wpAny (model X.prog X.w) X.A t R (fun _ _ => False) sx → (∀ a s, R a s → R' a s) → wpAny (model X.prog X.w) X.A t R' E' sx := fun hx k => wpAny_mono hx k fun _ _ z => z.elim
  have loop : codeAny (model X.prog X.w) X.A (.compLoop (.ListComp elt [⟨tg, iter, [], 0⟩] scope pos) 0 (.ref it) (.ref D) ce) (compEnds (model X.prog X.w) X.A X.xe none (EP X pins σ Q) (.ref D) ce) s4 := by
    refine compLoop_any (fun n s' => ∃ i H', Inv (X.blk s3 H3 scope ce fp) [] (wipe σ (own.map (·.2))) H' s' ∧ tn i s'.heap ∧ (∀ b ∈ fp, H' b = none) ∧ Wm i n H') ?_ m0 ⟨0, H3, I4, st4', fun b hb => (f3 b hb).1.1, w0⟩
    rintro n s5 ⟨i, H5, I5, st5, n5, w5⟩
    rcases turn i n H5 w5 with ⟨stop, qq⟩ | ⟨go, Nx, hNx, step⟩
    · refine never (T.done (X.blk s3 H3 scope ce fp) rfl rfl rfl hc i [] s5 _ H5 (fun _ _ => False) I5 (fpo I5 n5) st5 stop) fun r s6 ⟨hr, I6⟩ => ?_
      subst hr
      have I7 : Inv X pins σ H5 s6 := I3.call' (ch := fp) I6.os I6.base I6.hok I6.bare fun b hb => ⟨(f3 b hb).1.2.2.2.1, (f3 b hb).1.2.1, (f3 b hb).1.2.2.2.2.1, (f3 b hb).1.2.2.2.2.2⟩
      have nC : H5 ce.locals = none := I6.free
      obtain ⟨m, hn, _⟩ := I6.loc
      have fC : FpOk X pins H5 ce.locals := I3.fpOk (Nat.le_of_eq cL.symm) nC
      obtain ⟨y0, y1, y2, y3, y4, y5⟩ := fC
      exact ⟨m, hn, fun h2 sb => ⟨.ref D, H5, I7.turned (t' := s6.toks) (fun b o hb z => (sb.2 b hb).trans z) y0 y1 y3 y4 y5, rfl, qq⟩⟩
    · refine never (T.item (X.blk s3 H3 scope ce fp) rfl rfl rfl hc i [] s5 _ H5 (fun _ _ => False) I5 (fpo I5 n5) st5 go) fun r s6 ⟨v, hr, h6⟩ => ?_
      subst hr
      refine never h6 fun _ s7 ⟨x, H7, I7, r7, y7, st7, n7⟩ => ?_
      have I8 := I7.pinned (fpo I7 n7) (T.obj _ _ st7)
      refine never (gg.run _ s7 _ H7 x v _ I8 r7 (step x H7 y7)) fun _ s8 ⟨σ8, H8, I9, hw8, q8⟩ => ?_
      refine wpAny_tests_nil ?_
      have fin : ∀ {s' : Shared} {H' : Hp}, Inv (X.blk s3 H3 scope ce fp) ([] ++ pinsAt fp s7.heap) σ8 H' s' → Nx H' → ∃ m, m < n ∧ ∃ i H', Inv (X.blk s3 H3 scope ce fp) [] (wipe σ (own.map (·.2))) H' s' ∧ tn i s'.heap ∧ (∀ b ∈ fp, H' b = none) ∧ Wm i m H' := fun {s' H'} I' nx => by
        obtain ⟨m', hm, w'⟩ := hNx H' nx
        have pn : ∀ b ∈ fp, ∀ o, s7.heap.get? b = some o → s'.heap.get? b = some o ∧ H' b = none := fun b hb o z =>
          have y := I'.pin (b, o) (List.mem_append_right _ (List.mem_append_right _ (mem_pinsAt hb z)))
          ⟨y.1, y.2.1⟩
        have ln : (wipe σ (own.map (·.2))).length = σ8.length := by rw [← hw8, wipe_length]
        refine ⟨m', hm, i + 1, H', (I'.unpinned (pins := [])).weak ln (fun j v z => ?_), T.keep _ _ _ st7 fun b hb o z => (pn b hb o z).1, fun b hb => ?_, w'⟩
        · rw [← hw8] at z
          exact (wipe_some z).1
        · obtain ⟨o, z, _⟩ := T.obj _ _ st7 b hb
          exact (pn b hb o z).2
      have q9 : te σ8 H8 fun y H4 => ∃ acc, H4 D = some (.lst acc) ∧ acc.length < sizeLine ∧ Nx (upd H4 D (.lst (acc ++ [y]))) := q8
      simp only [if_true]
      refine wpAny_mono (gp.run _ s8 σ8 H8 _ (to_E I9) q9) (fun z s10 ⟨yv, H10, I10, r10, acc, hD, hz, nx⟩ => ?_) fun u s' ⟨p', σ', H', s1, Ib, c⟩ => ?_
      · exact app_ok (X := X.blk s3 H3 scope ce fp) (of_E I10) hD hz r10 fun s11 I11 => fin I11 nx
      · exact out_of_block tk hW hst hfr I3 (fun b hb => (f3 b hb).1) cF Ib c
  exact codeAny_compStart_list loop (T.self X.A 0 _ _ _ st4' loop)
end
end OH
set_option Elab.async false
set_option linter.all false
set_option maxRecDepth 100000
set_option maxHeartbeats 4000000
namespace OH
open PySem PySem.Spec PyProof.Rows L2
/-! ### attributes -/
section
variable {K : PySem.W.Frag} {σ : L2.St} {H : Hp} {Q : VK} {ta tv ty : TE} {f : Str} {a C dx : Addr} {fs : List (Str × V)} {v y : V} {D : Ends}
def atF (K : PySem.W.Frag) (f : Str) : V → Hp → VK → Prop := fun x H1 Q => ∃ a C dx fs v, x = .ref a ∧ H1 a = some (.ins C dx fs) ∧ Cls K C ∧ NoAttr K C f ∧ fs.lookup f = some v ∧ Q v H1
theorem i_fld (h : ta σ H fun x H1 => atF K f x H1 Q) : tFld K ta f σ H Q := h
theorem i_atF (h : H a = some (.ins C dx fs)) (c : Cls K C) (n : NoAttr K C f) (l : fs.lookup f = some v) (q : Q v H) : atF K f (.ref a) H Q := ⟨a, C, dx, fs, v, rfl, h, c, n, l, q⟩
def atP (K : PySem.W.Frag) (f : Str) (y : V) (D : Ends) (σ : L2.St) : V → Hp → Prop := fun x H2 => ∃ a C dx fs, x = .ref a ∧ H2 a = some (.ins C dx fs) ∧ Cls K C ∧ NoAttr K C f ∧ fs.length < 1000 ∧ D.nx σ (upd H2 a (.ins C dx (putF f y fs)))
theorem i_sFld (h : tv σ H fun y H1 => ta σ H1 fun x H2 => atP K f y D σ x H2) : sFld K ta tv f D σ H := h
theorem i_atP (h : H a = some (.ins C dx fs)) (c : Cls K C) (n : NoAttr K C f) (l : fs.length < 1000) (q : D.nx σ (upd H a (.ins C dx (putF f y fs)))) : atP K f y D σ (.ref a) H := ⟨a, C, dx, fs, rfl, h, c, n, l, q⟩
def atD (x y : V) (H2 : Hp) (Q : VK) : Prop := ∃ a v, x = .ref a ∧ DGet H2 a y (some v) ∧ Q v H2
theorem i_dget (h : ta σ H fun x H1 => ty σ H1 fun y H2 => atD x y H2 Q) : tDGet ta ty σ H Q := h
theorem i_atD {kvs : List (Key × V)} {k : Key} (h : H a = some (.dK kvs)) (e : valV kvs k = some v) (q : Q v H) : atD (.ref a) (kV k) H Q := ⟨a, v, rfl, e ▸ DGet.k h, q⟩
end
/-! ### rules in the heap -/
inductive Kd where
  | each | flat | bands | steps | blocks | name | plus | cheap | dear | only | after | fee
def cn : Kd → Str
  | .each => "Each" | .flat => "Flat" | .bands => "Bands" | .steps => "Steps" | .blocks => "Blocks" | .name => "Named" | .plus => "Sum" | .cheap => "Cheaper" | .dear => "Dearer" | .only => "Only" | .after => "After" | .fee => "Fee"
def kd {N : Type} : Plan N → Kd
  | .each _ _ _ => .each | .flat _ _ _ => .flat | .bands _ => .bands | .steps _ => .steps | .blocks _ _ _ => .blocks | .name _ _ => .name | .plus _ _ => .plus | .cheap _ _ => .cheap | .dear _ _ => .dear | .only _ _ _ => .only | .after _ _ => .after | .fee _ _ => .fee
def RuleV (K : PySem.W.Frag) (H : Hp) : Plan Str → V → Prop
  | .each u lo hi, v => ∃ a dx, v = .ref a ∧ H a = some (.ins (He.ga K "Each") dx [("unit", .int u), ("low", .int lo), ("high", .int hi)])
  | .flat p lo hi, v => ∃ a dx, v = .ref a ∧ H a = some (.ins (He.ga K "Flat") dx [("price", .int p), ("low", .int lo), ("high", .int hi)])
  | .bands r, v => ∃ a dx l vs, v = .ref a ∧ H a = some (.ins (He.ga K "Bands") dx [("rows", .ref l)]) ∧ H l = some (.lst vs) ∧ Its LnV H vs r
  | .steps r, v => ∃ a dx l vs, v = .ref a ∧ H a = some (.ins (He.ga K "Steps") dx [("rows", .ref l)]) ∧ H l = some (.lst vs) ∧ Its LnV H vs r
  | .blocks s p m, v => ∃ a dx, v = .ref a ∧ H a = some (.ins (He.ga K "Blocks") dx [("size", .int s), ("price", .int p), ("many", .int m)])
  | .name n _, v => ∃ a dx, v = .ref a ∧ H a = some (.ins (He.ga K "Named") dx [("name", .str n)])
  | .plus x y, v => ∃ a dx va vb, v = .ref a ∧ H a = some (.ins (He.ga K "Sum") dx [("one", va), ("other", vb)]) ∧ RuleV K H x va ∧ RuleV K H y vb
  | .cheap x y, v => ∃ a dx va vb, v = .ref a ∧ H a = some (.ins (He.ga K "Cheaper") dx [("one", va), ("other", vb)]) ∧ RuleV K H x va ∧ RuleV K H y vb
  | .dear x y, v => ∃ a dx va vb, v = .ref a ∧ H a = some (.ins (He.ga K "Dearer") dx [("one", va), ("other", vb)]) ∧ RuleV K H x va ∧ RuleV K H y vb
  | .only x lo hi, v => ∃ a dx va, v = .ref a ∧ H a = some (.ins (He.ga K "Only") dx [("one", va), ("low", .int lo), ("high", .int hi)]) ∧ RuleV K H x va
  | .after x c, v => ∃ a dx va, v = .ref a ∧ H a = some (.ins (He.ga K "After") dx [("one", va), ("count", .int c)]) ∧ RuleV K H x va
  | .fee x p, v => ∃ a dx va, v = .ref a ∧ H a = some (.ins (He.ga K "Fee") dx [("one", va), ("price", .int p)]) ∧ RuleV K H x va
abbrev RuleR (K : PySem.W.Frag) : RepF (Plan Str) := fun H v p => RuleV K H p v
theorem RuleV.same {K : PySem.W.Frag} {H H' : Hp} (s : Same H H') : ∀ {p : Plan Str} {v : V}, RuleV K H p v → RuleV K H' p v := by
  intro p
  induction p with
  | each u lo hi => rintro v ⟨a, dx, e, h⟩; exact ⟨a, dx, e, s _ _ h⟩
  | flat u lo hi => rintro v ⟨a, dx, e, h⟩; exact ⟨a, dx, e, s _ _ h⟩
  | bands r => rintro v ⟨a, dx, l, vs, e, h, h2, i⟩; exact ⟨a, dx, l, vs, e, s _ _ h, s _ _ h2, i.mono LnV.mono (.of s)⟩
  | steps r => rintro v ⟨a, dx, l, vs, e, h, h2, i⟩; exact ⟨a, dx, l, vs, e, s _ _ h, s _ _ h2, i.mono LnV.mono (.of s)⟩
  | blocks u lo hi => rintro v ⟨a, dx, e, h⟩; exact ⟨a, dx, e, s _ _ h⟩
  | name n q _ => rintro v ⟨a, dx, e, h⟩; exact ⟨a, dx, e, s _ _ h⟩
  | plus x y ix iy => rintro v ⟨a, dx, va, vb, e, h, h1, h2⟩; exact ⟨a, dx, va, vb, e, s _ _ h, ix h1, iy h2⟩
  | cheap x y ix iy => rintro v ⟨a, dx, va, vb, e, h, h1, h2⟩; exact ⟨a, dx, va, vb, e, s _ _ h, ix h1, iy h2⟩
  | dear x y ix iy => rintro v ⟨a, dx, va, vb, e, h, h1, h2⟩; exact ⟨a, dx, va, vb, e, s _ _ h, ix h1, iy h2⟩
  | only x lo hi ix => rintro v ⟨a, dx, va, e, h, h1⟩; exact ⟨a, dx, va, e, s _ _ h, ix h1⟩
  | after x c ix => rintro v ⟨a, dx, va, e, h, h1⟩; exact ⟨a, dx, va, e, s _ _ h, ix h1⟩
  | fee x c ix => rintro v ⟨a, dx, va, e, h, h1⟩; exact ⟨a, dx, va, e, s _ _ h, ix h1⟩
/-- it is an instance of its class, and no method's name is an attribute -/
def NoM (fs : List (Str × V)) : Prop := fs.lookup ("made" : Str) = none ∧ fs.lookup ("names" : Str) = none ∧ fs.lookup ("inner" : Str) = none ∧ fs.lookup ("own_names" : Str) = none ∧ fs.lookup ("drawn" : Str) = none ∧ fs.lookup ("look_at" : Str) = none ∧ fs.lookup ("form" : Str) = none
theorem RuleV.obj {K : PySem.W.Frag} {H : Hp} {p : Plan Str} {v : V} (h : RuleV K H p v) : ∃ a dx fs, v = .ref a ∧ H a = some (.ins (He.ga K (cn (kd p))) dx fs) ∧ NoM fs := by
  cases p with
  | each u lo hi => obtain ⟨a, dx, e, h⟩ := h; exact ⟨a, dx, _, e, h, rfl, rfl, rfl, rfl, rfl, rfl, rfl⟩
  | flat u lo hi => obtain ⟨a, dx, e, h⟩ := h; exact ⟨a, dx, _, e, h, rfl, rfl, rfl, rfl, rfl, rfl, rfl⟩
  | bands r => obtain ⟨a, dx, l, vs, e, h, _⟩ := h; exact ⟨a, dx, _, e, h, rfl, rfl, rfl, rfl, rfl, rfl, rfl⟩
  | steps r => obtain ⟨a, dx, l, vs, e, h, _⟩ := h; exact ⟨a, dx, _, e, h, rfl, rfl, rfl, rfl, rfl, rfl, rfl⟩
  | blocks u lo hi => obtain ⟨a, dx, e, h⟩ := h; exact ⟨a, dx, _, e, h, rfl, rfl, rfl, rfl, rfl, rfl, rfl⟩
  | name n q => obtain ⟨a, dx, e, h⟩ := h; exact ⟨a, dx, _, e, h, rfl, rfl, rfl, rfl, rfl, rfl, rfl⟩
  | plus x y => obtain ⟨a, dx, va, vb, e, h, _⟩ := h; exact ⟨a, dx, _, e, h, rfl, rfl, rfl, rfl, rfl, rfl, rfl⟩
  | cheap x y => obtain ⟨a, dx, va, vb, e, h, _⟩ := h; exact ⟨a, dx, _, e, h, rfl, rfl, rfl, rfl, rfl, rfl, rfl⟩
  | dear x y => obtain ⟨a, dx, va, vb, e, h, _⟩ := h; exact ⟨a, dx, _, e, h, rfl, rfl, rfl, rfl, rfl, rfl, rfl⟩
  | only x lo hi => obtain ⟨a, dx, va, e, h, _⟩ := h; exact ⟨a, dx, _, e, h, rfl, rfl, rfl, rfl, rfl, rfl, rfl⟩
  | after x c => obtain ⟨a, dx, va, e, h, _⟩ := h; exact ⟨a, dx, _, e, h, rfl, rfl, rfl, rfl, rfl, rfl, rfl⟩
  | fee x c => obtain ⟨a, dx, va, e, h, _⟩ := h; exact ⟨a, dx, _, e, h, rfl, rfl, rfl, rfl, rfl, rfl, rfl⟩
section
variable {P : Program} {w : World} {K : PySem.W.Frag} {mg : Str → Option Value} {base : Heap}
/-- a known object: through what has changed since -/
local macro_rules | `(tactic| walk_at "oh hp") => `(tactic| first | assumption | exact upd_same | (refine get_new (by assumption) ?_; walk_at "oh hp") | (refine get_mut (by assumption) ?_ (by intro z; cases z); walk_at "oh hp") | (refine same_get (by assumption) ?_; walk_at "oh hp") | (refine ts_get (by assumption) ?_; walk_at "oh hp") | (refine same_get (LL.sm (by assumption)) ?_; walk_at "oh hp") | exact LL.at_ (by assumption))
local macro_rules | `(tactic| walk_at "oh sc") => `(tactic| exact ⟨rfl, rfl, rfl, by decide +kernel, rfl, by decide +kernel, by decide +kernel⟩)
/-- one step of a reading -/
local macro_rules | `(tactic| walk_at "oh 1") => `(tactic| with_reducible first
  | refine i_var rfl ?_ | refine i_c ?_ | refine i_op ?_ | refine i_I0 ?_ | refine i_cons ?_ | refine i_nil ?_ | refine i_asg ?_ | refine i_name ?_ | refine i_seq ?_ | refine i_ifS ?_ | refine i_test ?_ | refine i_bl ?_ | refine i_call ?_ | refine i_CB ?_
  | refine i_tup ?_ | refine i_lst ?_ | refine i_eqI ?_ | refine i_eqS ?_ | refine i_neI ?_ | refine i_un ?_ | refine i_U ?_ | refine i_ret ?_ | refine i_retN ?_ | refine i_next ?_ | refine i_cont ?_ | refine i_drop ?_ | refine i_B ?_ | refine i_and ?_ | refine i_or ?_ | refine i_not ?_ | refine i_mn ?_ | refine i_mx ?_ | refine i_isN ?_ | refine i_notN ?_ | refine i_bm ?_ | refine i_bm0 ?_ | refine i_rn ?_ | refine i_nn ?_ | refine i_rn' ?_ | refine i_nn' ?_ | refine i_gcons ?_ | refine i_gnil ?_ | refine i_orV ?_ | refine i_andV ?_ | refine i_notV ?_ | refine i_chain ?_ | refine i_forL ?_ | refine i_iL ?_ | refine i_iT ?_ | refine i_lc ?_ | refine i_yes ?_ | refine i_sortS ?_ | refine i_lenS ?_ | refine i_slL ?_ | refine i_noP ?_ | refine i_part ?_ | refine i_fld ?_ | refine i_sFld ?_ | refine i_dget ?_ | refine i_meth ?_ | refine i_aug rfl ?_ | refine i_ip ?_ | refine iteT ?_ | refine iteF ?_ | refine i_nT ?_ | refine i_nF ?_)
local macro_rules | `(tactic| walk_at "oh 2") => `(tactic| first | ((with_reducible refine' i_atF ?h ?c ?n ?l ?q); (case h => walk_at "oh hp"); (case c => assumption); (case n => assumption); (case l => rfl)) | ((with_reducible refine' i_ixT ?h ?e ?q); (case h => walk_at "oh hp"); (case e => rfl)) | ((with_reducible refine' i_gtup ?h ?e ?q); (case h => walk_at "oh hp"); (case e => rfl)) | ((with_reducible refine' i_atL ?h ?q); (case h => walk_at "oh hp")) | ((with_reducible refine' i_atT ?h ?q); (case h => walk_at "oh hp")) | ((with_reducible refine' i_tyL ?h ?q); (case h => walk_at "oh hp")) | ((with_reducible refine' i_lnL ?h ?q); (case h => walk_at "oh hp")) | ((with_reducible refine' i_lnT ?h ?q); (case h => walk_at "oh hp")))
local macro_rules | `(tactic| walk_at "oh go") => `(tactic| repeat first | walk_at "oh 1" | walk_at "oh 2")
/-- a new list of rules that stood in H0 -/
abbrev RetI (K : PySem.W.Frag) (H0 H : Hp) (Q : VK) (L : List (Plan Str)) : Prop := ∀ l vs H', H l = none → Same H H' → H' l = some (.lst vs) → Its (RuleR K) H0 vs L → Q (.ref l) H'
/-- what a rule is made of, a new list -/
def sp_inner (K : PySem.W.Frag) (G : Plan Str → Prop) : Sp := fun vs H Q _ => ∃ (v : V) (p : Plan Str) (H0 : Hp), vs = [v] ∧ Same H0 H ∧ RuleV K H0 p v ∧ G p ∧ RetI K H0 H Q (subs p)
abbrev sp_Rule_inner : Sp := fun vs H Q _ => ∃ v : V, vs = [v] ∧ ∀ l, H l = none → Q (.ref l) (upd H l (.lst []))
/- slots: 0 self -/
theorem sc_Rule_inner : FnScope ["self"] ["self"] (defScope s_Rule_inner) := by walk_at "oh sc"
theorem ok_Rule_inner (T : Pg K mg) : OkM P w K mg base CX0 1 "Rule" "inner" ["self"] sp_Rule_inner := by
  obtain ⟨fd, F⟩ := F_Rule_inner T
  refine ⟨fd, F.ok sc_Rule_inner (fun vs H Q E h => ?_) (fun cdv A outer s H vs Q E hr h => ?_), F.binds fun _ _ _ _ _ _ us hl => (match us, hl with | [_], _ => rfl)⟩
  · obtain ⟨v, rfl, _⟩ := h
    rfl
  · obtain ⟨v, rfl, q⟩ := h
    have hu := hu_of hr
    refine ⟨_, pss_one (ps_ret (pe_lst pa_nil)), ?_⟩
    walk_at "oh go"
    exact ⟨Nat.le_of_ble_eq_true rfl, q⟩
abbrev sp_Rule_own_names : Sp := sp_Rule_inner
/- slots: 0 self -/
theorem sc_Rule_own_names : FnScope ["self"] ["self"] (defScope s_Rule_own_names) := by walk_at "oh sc"
theorem ok_Rule_own_names (T : Pg K mg) : OkM P w K mg base CX0 1 "Rule" "own_names" ["self"] sp_Rule_own_names := by
  obtain ⟨fd, F⟩ := F_Rule_own_names T
  refine ⟨fd, F.ok sc_Rule_own_names (fun vs H Q E h => ?_) (fun cdv A outer s H vs Q E hr h => ?_), F.binds fun _ _ _ _ _ _ us hl => (match us, hl with | [_], _ => rfl)⟩
  · obtain ⟨v, rfl, _⟩ := h
    rfl
  · obtain ⟨v, rfl, q⟩ := h
    have hu := hu_of hr
    refine ⟨_, pss_one (ps_ret (pe_lst pa_nil)), ?_⟩
    walk_at "oh go"
    exact ⟨Nat.le_of_ble_eq_true rfl, q⟩
abbrev sp_Named_own_names (K : PySem.W.Frag) : Sp := fun vs H Q _ => ∃ (a dx : Addr) (n : Str), vs = [.ref a] ∧ H a = some (.ins (He.ga K "Named") dx [("name", .str n)]) ∧ ∀ l, H l = none → Q (.ref l) (upd H l (.lst [.str n]))
/- slots: 0 self -/
theorem sc_Named_own_names : FnScope ["self"] ["self"] (defScope s_Named_own_names) := by walk_at "oh sc"
theorem ok_Named_own_names (T : Pg K mg) : OkM P w K mg base CX0 1 "Named" "own_names" ["self"] (sp_Named_own_names K) := by
  obtain ⟨fd, F⟩ := F_Named_own_names T
  refine ⟨fd, F.ok sc_Named_own_names (fun vs H Q E h => ?_) (fun cdv A outer s H vs Q E hr h => ?_), F.binds fun _ _ _ _ _ _ us hl => (match us, hl with | [_], _ => rfl)⟩
  · obtain ⟨a, dx, n, rfl, _⟩ := h
    rfl
  · obtain ⟨a, dx, n, rfl, ha, q⟩ := h
    have hu := hu_of hr
    refine ⟨_, pss_one (ps_ret (pe_lst (pa_cons (pe_fld (pv 0) rfl) pa_nil))), ?_⟩
    have cN := c_Named T
    have nN := n_Named_name T
    walk_at "oh go"
    exact ⟨Nat.le_of_ble_eq_true rfl, q⟩
abbrev sp_Pair_inner (K : PySem.W.Frag) : Sp := fun vs H Q _ => ∃ (a C dx : Addr) (va vb : V), vs = [.ref a] ∧ H a = some (.ins C dx [("one", va), ("other", vb)]) ∧ Cls K C ∧ NoAttr K C "one" ∧ NoAttr K C "other" ∧ ∀ l, H l = none → Q (.ref l) (upd H l (.lst [va, vb]))
/- slots: 0 self -/
theorem sc_Pair_inner : FnScope ["self"] ["self"] (defScope s_Pair_inner) := by walk_at "oh sc"
theorem ok_Pair_inner (T : Pg K mg) : OkM P w K mg base CX0 1 "Pair" "inner" ["self"] (sp_Pair_inner K) := by
  obtain ⟨fd, F⟩ := F_Pair_inner T
  refine ⟨fd, F.ok sc_Pair_inner (fun vs H Q E h => ?_) (fun cdv A outer s H vs Q E hr h => ?_), F.binds fun _ _ _ _ _ _ us hl => (match us, hl with | [_], _ => rfl)⟩
  · obtain ⟨a, C, dx, va, vb, rfl, _⟩ := h
    rfl
  · obtain ⟨a, C, dx, va, vb, rfl, ha, c, n1, n2, q⟩ := h
    have hu := hu_of hr
    refine ⟨_, pss_one (ps_ret (pe_lst (pa_cons (pe_fld (pv 0) rfl) (pa_cons (pe_fld (pv 0) rfl) pa_nil)))), ?_⟩
    walk_at "oh go"
    exact ⟨Nat.le_of_ble_eq_true rfl, q⟩
abbrev sp_Turned_inner (K : PySem.W.Frag) : Sp := fun vs H Q _ => ∃ (a C dx : Addr) (va : V) (fs : List (Str × V)), vs = [.ref a] ∧ H a = some (.ins C dx (("one", va) :: fs)) ∧ Cls K C ∧ NoAttr K C "one" ∧ ∀ l, H l = none → Q (.ref l) (upd H l (.lst [va]))
/- slots: 0 self -/
theorem sc_Turned_inner : FnScope ["self"] ["self"] (defScope s_Turned_inner) := by walk_at "oh sc"
theorem ok_Turned_inner (T : Pg K mg) : OkM P w K mg base CX0 1 "Turned" "inner" ["self"] (sp_Turned_inner K) := by
  obtain ⟨fd, F⟩ := F_Turned_inner T
  refine ⟨fd, F.ok sc_Turned_inner (fun vs H Q E h => ?_) (fun cdv A outer s H vs Q E hr h => ?_), F.binds fun _ _ _ _ _ _ us hl => (match us, hl with | [_], _ => rfl)⟩
  · obtain ⟨a, C, dx, va, fs, rfl, _⟩ := h
    rfl
  · obtain ⟨a, C, dx, va, fs, rfl, ha, c, n1, q⟩ := h
    have hu := hu_of hr
    refine ⟨_, pss_one (ps_ret (pe_lst (pa_cons (pe_fld (pv 0) rfl) pa_nil))), ?_⟩
    walk_at "oh go"
    exact ⟨Nat.le_of_ble_eq_true rfl, q⟩
end
end OH
set_option Elab.async false
set_option linter.all false
set_option maxRecDepth 100000
set_option maxHeartbeats 4000000
namespace OH
open PySem PySem.Spec PyProof.Rows L2
section
variable {P : Program} {w : World} {K : PySem.W.Frag} {mg : Str → Option Value} {base : Heap} {CX : CXT} {k : Nat} {C C' m : Str} {ps : List Str} {sp sp' : Sp}
theorem OkM.to (F : OkM P w K mg base CX k C m ps sp) (e : He.ma K (He.ga K C') m = He.ma K (He.ga K C) m) (h : ∀ vs H Q E, sp' vs H Q E → sp vs H Q E) : OkM P w K mg base CX k C' m ps sp' := by
  obtain ⟨fd, F, b⟩ := F
  exact ⟨fd, e ▸ F.imp h, b⟩
theorem OkM.imp (F : OkM P w K mg base CX k C m ps sp) (h : ∀ vs H Q E, sp' vs H Q E → sp vs H Q E) : OkM P w K mg base CX k C m ps sp' := F.to rfl h
theorem i_rng1 {t : TA} {σ : L2.St} {H : Hp} {R : It → Hp → Prop} (h : t σ H fun vs H1 => ∃ j : Int, vs = [.int j] ∧ -(2 ^ 62) ≤ j ∧ j < 2 ^ 62 ∧ R (Itr 0 j.toNat) H1) : iRng1 t σ H R := h
/-! ### inner -/
theorem ret_leaf {H0 H : Hp} {Q : VK} {L : List (Plan Str)} (e : L = []) (q : RetI K H0 H Q L) : ∀ l, H l = none → Q (.ref l) (upd H l (.lst [])) := fun l nl => q l [] _ nl (same_new nl _) upd_same (e ▸ .nil)
theorem inner_leaf {k : Kd} {C : Str} (h : ∀ p : Plan Str, kd p = k → subs p = []) : ∀ vs H Q E, sp_inner K (fun p => kd p = k) vs H Q E → sp_Rule_inner vs H Q E := fun vs H Q E ⟨v, p, H0, e, _, _, g, q⟩ => ⟨v, e, ret_leaf (h p g) q⟩
theorem inner_pair {H0 H : Hp} {Q : VK} {p x y : Plan Str} {va vb : V} (e : subs p = [x, y]) (h1 : RuleV K H0 x va) (h2 : RuleV K H0 y vb) (q : RetI K H0 H Q (subs p)) : ∀ l, H l = none → Q (.ref l) (upd H l (.lst [va, vb])) := fun l nl =>
  q l _ _ nl (same_new nl _) upd_same (e ▸ .cons h1 (.cons h2 .nil))
theorem inner_one {H0 H : Hp} {Q : VK} {p x : Plan Str} {va : V} (e : subs p = [x]) (h1 : RuleV K H0 x va) (q : RetI K H0 H Q (subs p)) : ∀ l, H l = none → Q (.ref l) (upd H l (.lst [va])) := fun l nl =>
  q l _ _ nl (same_new nl _) upd_same (e ▸ .cons h1 .nil)
theorem ok_inner (T : Pg K mg) : ∀ k : Kd, OkM P w K mg base CX0 1 (cn k) "inner" ["self"] (sp_inner K fun p => kd p = k)
  | .each => (ok_Rule_inner T).to (h_Each_inner T) (inner_leaf (C := "") fun p e => by cases p <;> first | rfl | cases e)
  | .flat => (ok_Rule_inner T).to (h_Flat_inner T) (inner_leaf (C := "") fun p e => by cases p <;> first | rfl | cases e)
  | .bands => (ok_Rule_inner T).to (h_Bands_inner T) (inner_leaf (C := "") fun p e => by cases p <;> first | rfl | cases e)
  | .steps => (ok_Rule_inner T).to (h_Steps_inner T) (inner_leaf (C := "") fun p e => by cases p <;> first | rfl | cases e)
  | .blocks => (ok_Rule_inner T).to (h_Blocks_inner T) (inner_leaf (C := "") fun p e => by cases p <;> first | rfl | cases e)
  | .name => (ok_Rule_inner T).to (h_Named_inner T) (inner_leaf (C := "") fun p e => by cases p <;> first | rfl | cases e)
  | .plus => (ok_Pair_inner T).to (h_Sum_inner T) fun vs H Q E ⟨v, p, H0, e, s0, h, g, q⟩ => by
    cases p with
    | plus x y =>
      obtain ⟨a, dx, va, vb, rfl, h, h1, h2⟩ := h
      exact ⟨a, _, dx, va, vb, e, s0 _ _ h, c_Sum T, n_Sum_one T, n_Sum_other T, inner_pair rfl h1 h2 q⟩
    | _ => cases g
  | .cheap => (ok_Pair_inner T).to (h_Cheaper_inner T) fun vs H Q E ⟨v, p, H0, e, s0, h, g, q⟩ => by
    cases p with
    | cheap x y =>
      obtain ⟨a, dx, va, vb, rfl, h, h1, h2⟩ := h
      exact ⟨a, _, dx, va, vb, e, s0 _ _ h, c_Cheaper T, n_Cheaper_one T, n_Cheaper_other T, inner_pair rfl h1 h2 q⟩
    | _ => cases g
  | .dear => (ok_Pair_inner T).to (h_Dearer_inner T) fun vs H Q E ⟨v, p, H0, e, s0, h, g, q⟩ => by
    cases p with
    | dear x y =>
      obtain ⟨a, dx, va, vb, rfl, h, h1, h2⟩ := h
      exact ⟨a, _, dx, va, vb, e, s0 _ _ h, c_Dearer T, n_Dearer_one T, n_Dearer_other T, inner_pair rfl h1 h2 q⟩
    | _ => cases g
  | .only => (ok_Turned_inner T).to (h_Only_inner T) fun vs H Q E ⟨v, p, H0, e, s0, h, g, q⟩ => by
    cases p with
    | only x lo hi =>
      obtain ⟨a, dx, va, rfl, h, h1⟩ := h
      exact ⟨a, _, dx, va, _, e, s0 _ _ h, c_Only T, n_Only_one T, inner_one rfl h1 q⟩
    | _ => cases g
  | .after => (ok_Turned_inner T).to (h_After_inner T) fun vs H Q E ⟨v, p, H0, e, s0, h, g, q⟩ => by
    cases p with
    | after x c =>
      obtain ⟨a, dx, va, rfl, h, h1⟩ := h
      exact ⟨a, _, dx, va, _, e, s0 _ _ h, c_After T, n_After_one T, inner_one rfl h1 q⟩
    | _ => cases g
  | .fee => (ok_Turned_inner T).to (h_Fee_inner T) fun vs H Q E ⟨v, p, H0, e, s0, h, g, q⟩ => by
    cases p with
    | fee x c =>
      obtain ⟨a, dx, va, rfl, h, h1⟩ := h
      exact ⟨a, _, dx, va, _, e, s0 _ _ h, c_Fee T, n_Fee_one T, inner_one rfl h1 q⟩
    | _ => cases g
end
/-! ### drawn -/
/-- the named offers' forms stand in the dict -/
def Knows (H : Hp) (kvs : List (Key × V)) : Plan Str → Prop
  | .name n q => ∃ f v, fm q = some f ∧ valV kvs (.inr n) = some v ∧ FormV H v f
  | .plus a b => Knows H kvs a ∧ Knows H kvs b
  | .cheap a b => Knows H kvs a ∧ Knows H kvs b
  | .dear a b => Knows H kvs a ∧ Knows H kvs b
  | .only a _ _ => Knows H kvs a
  | .after a _ => Knows H kvs a
  | .fee a _ => Knows H kvs a
  | _ => True
theorem Knows.same {H H' : Hp} {kvs : List (Key × V)} (s : Same H H') : ∀ {p : Plan Str}, Knows H kvs p → Knows H' kvs p := by
  intro p
  induction p with
  | name n q _ => rintro ⟨f, v, e, h, r⟩; exact ⟨f, v, e, h, FormV.mono _ _ _ _ (.of s) r⟩
  | plus a b ia ib => rintro ⟨h1, h2⟩; exact ⟨ia h1, ib h2⟩
  | cheap a b ia ib => rintro ⟨h1, h2⟩; exact ⟨ia h1, ib h2⟩
  | dear a b ia ib => rintro ⟨h1, h2⟩; exact ⟨ia h1, ib h2⟩
  | only a _ _ ia => exact ia
  | after a _ ia => exact ia
  | fee a _ ia => exact ia
  | _ => exact fun _ => trivial
theorem Knows.sub {H : Hp} {kvs : List (Key × V)} {p q : Plan Str} (h : Knows H kvs p) (m : q ∈ subs p) : Knows H kvs q := by
  cases p with
  | plus a b =>
    rcases List.mem_cons.mp m with rfl | m
    · exact h.1
    · rw [List.mem_singleton.mp m]
      exact h.2
  | cheap a b =>
    rcases List.mem_cons.mp m with rfl | m
    · exact h.1
    · rw [List.mem_singleton.mp m]
      exact h.2
  | dear a b =>
    rcases List.mem_cons.mp m with rfl | m
    · exact h.1
    · rw [List.mem_singleton.mp m]
      exact h.2
  | only a _ _ => rw [List.mem_singleton.mp m]; exact h
  | after a _ => rw [List.mem_singleton.mp m]; exact h
  | fee a _ => rw [List.mem_singleton.mp m]; exact h
  | _ => cases m
structure DrawIn (K : PySem.W.Frag) (H : Hp) (k : Kd) (p : Plan Str) (v : V) (d l : Addr) (kvs : List (Key × V)) (ws : List V) (fs : List Form) : Prop where
  rule : RuleV K H p v
  kd_ : kd p = k
  pin : PlanIn p
  dict : H d = some (.dK kvs)
  knows : Knows H kvs p
  list : H l = some (.lst ws)
  its : Its FormV H ws fs
  forms : Forms (subs p) fs
abbrev sp_drawn (K : PySem.W.Frag) (k : Kd) : Sp := fun vs H Q _ => ∃ (v : V) (p : Plan Str) (d l : Addr) (kvs : List (Key × V)) (ws : List V) (fs : List Form), vs = [v, .ref d, .ref l] ∧ DrawIn K H k p v d l kvs ws fs ∧ Ret H Q FormV (raw p fs)
theorem forms_in {p : Plan Str} (A : PlanIn p) : ∀ {ps : List (Plan Str)} {fs : List Form}, Forms ps fs → (∀ q ∈ ps, q ∈ subs p) → ∀ f ∈ fs, FormIn f
  | _, _, .nil, _, f, hf => nomatch hf
  | _, _, .cons e r, h, f, hf => by
    rcases List.mem_cons.mp hf with rfl | hf
    · exact (A.sub (h _ List.mem_cons_self)).form e
    · exact forms_in A r (fun q hq => h q (List.mem_cons_of_mem _ hq)) f hf
section
variable {P : Program} {w : World} {K : PySem.W.Frag} {mg : Str → Option Value} {base : Heap}
/-- a known object: through what has changed since -/
local macro_rules | `(tactic| walk_at "oh hp") => `(tactic| first | assumption | exact upd_same | (refine get_new (by assumption) ?_; walk_at "oh hp") | (refine get_mut (by assumption) ?_ (by intro z; cases z); walk_at "oh hp") | (refine same_get (by assumption) ?_; walk_at "oh hp") | (refine ts_get (by assumption) ?_; walk_at "oh hp") | (refine same_get (LL.sm (by assumption)) ?_; walk_at "oh hp") | exact LL.at_ (by assumption))
local macro_rules | `(tactic| walk_at "oh sc") => `(tactic| exact ⟨rfl, rfl, rfl, by decide +kernel, rfl, by decide +kernel, by decide +kernel⟩)
/-- one step of a reading -/
local macro_rules | `(tactic| walk_at "oh 1") => `(tactic| with_reducible first
  | refine i_var rfl ?_ | refine i_c ?_ | refine i_op ?_ | refine i_I0 ?_ | refine i_cons ?_ | refine i_nil ?_ | refine i_asg ?_ | refine i_name ?_ | refine i_seq ?_ | refine i_ifS ?_ | refine i_test ?_ | refine i_bl ?_ | refine i_call ?_ | refine i_CB ?_
  | refine i_tup ?_ | refine i_lst ?_ | refine i_eqI ?_ | refine i_eqS ?_ | refine i_neI ?_ | refine i_un ?_ | refine i_U ?_ | refine i_ret ?_ | refine i_retN ?_ | refine i_next ?_ | refine i_cont ?_ | refine i_drop ?_ | refine i_B ?_ | refine i_and ?_ | refine i_or ?_ | refine i_not ?_ | refine i_mn ?_ | refine i_mx ?_ | refine i_isN ?_ | refine i_notN ?_ | refine i_bm ?_ | refine i_bm0 ?_ | refine i_rn ?_ | refine i_nn ?_ | refine i_rn' ?_ | refine i_nn' ?_ | refine i_gcons ?_ | refine i_gnil ?_ | refine i_orV ?_ | refine i_andV ?_ | refine i_notV ?_ | refine i_chain ?_ | refine i_forL ?_ | refine i_iL ?_ | refine i_iT ?_ | refine i_lc ?_ | refine i_yes ?_ | refine i_sortS ?_ | refine i_lenS ?_ | refine i_slL ?_ | refine i_noP ?_ | refine i_part ?_ | refine i_fld ?_ | refine i_sFld ?_ | refine i_dget ?_ | refine i_meth ?_ | refine i_aug rfl ?_ | refine i_ip ?_ | refine iteT ?_ | refine iteF ?_ | refine i_nT ?_ | refine i_nF ?_)
local macro_rules | `(tactic| walk_at "oh 2") => `(tactic| first | ((with_reducible refine' i_atF ?h ?c ?n ?l ?q); (case h => walk_at "oh hp"); (case c => assumption); (case n => assumption); (case l => rfl)) | ((with_reducible refine' i_ixT ?h ?e ?q); (case h => walk_at "oh hp"); (case e => rfl)) | ((with_reducible refine' i_gtup ?h ?e ?q); (case h => walk_at "oh hp"); (case e => rfl)) | ((with_reducible refine' i_atL ?h ?q); (case h => walk_at "oh hp")) | ((with_reducible refine' i_atT ?h ?q); (case h => walk_at "oh hp")) | ((with_reducible refine' i_tyL ?h ?q); (case h => walk_at "oh hp")) | ((with_reducible refine' i_lnL ?h ?q); (case h => walk_at "oh hp")) | ((with_reducible refine' i_lnT ?h ?q); (case h => walk_at "oh hp")))
local macro_rules | `(tactic| walk_at "oh go") => `(tactic| repeat first | walk_at "oh 1" | walk_at "oh 2")
theorem sz_rows {f : List S4} (fb : FB 131 268 f) (ne : ∀ s ∈ f, s.lo ≤ s.hi) (len : f.length ≤ 100) : RowsIn f := ⟨fb.mono (by decide) (by decide), ne, Nat.le_trans len (by decide)⟩
abbrev sp_Each_drawn (K : PySem.W.Frag) := sp_drawn K .each
/- slots: 0 self, 1 forms, 2 inner -/
theorem sc_Each_drawn : FnScope ["self", "forms", "inner"] ["self", "forms", "inner"] (defScope s_Each_drawn) := by walk_at "oh sc"
theorem ok_Each_drawn (T : Pg K mg) : OkM P w K mg base CX0 6 "Each" "drawn" ["self", "forms", "inner"] (sp_Each_drawn K) := by
  obtain ⟨fd, F⟩ := F_Each_drawn T
  refine ⟨fd, F.ok sc_Each_drawn (fun vs H Q E h => ?_) (fun cdv A outer s H vs Q E hr h => ?_), F.binds fun _ _ _ _ _ _ us hl => (match us, hl with | [_, _, _], _ => rfl)⟩
  · obtain ⟨v, p, d, l, kvs, ws, fs, rfl, _⟩ := h
    rfl
  · obtain ⟨v, p, d, l, kvs, ws, fs, rfl, I, q⟩ := h
    have hu := hu_of hr
    refine ⟨_, pss_one (ps_ret (pe_c0 (ok_laid T) hr (pa_cons (pe_lst (pa_cons (pe_tup (pa_cons (pe_fld (pv 0) rfl) (pa_cons (pe_fld (pv 0) rfl) (pa_cons (pe_op op_mulW (pe_fld (pv 0) rfl) (pe_fld (pv 0) rfl)) (pa_cons (pe_fld (pv 0) rfl) pa_nil))))) pa_nil)) pa_nil))), ?_⟩
    have c1 := c_Each T
    have n1 := n_Each_unit T
    have n2 := n_Each_low T
    have n3 := n_Each_high T
    obtain ⟨hR, hk, A, hd, hN, hl, hI, hF⟩ := I
    cases p with
    | each u lo hi =>
      obtain ⟨a, dx, rfl, ha⟩ := hR
      obtain ⟨k1, k2, k3, k4⟩ := A.ok
      walk_at "oh go"
      refine i_I (bg_mul (k2.mono (by decide)) (k3.mono (by decide))) ?_
      walk_at "oh go"
      refine ⟨Nat.le_of_ble_eq_true rfl, fun k nk => ?_⟩
      walk_at "oh go"
      refine ⟨Nat.le_of_ble_eq_true rfl, fun m nm => ?_⟩
      walk_at "oh go"
      have s2 := (same_new nk (.tup [.int lo, .int hi, .int (u * lo), .int u])).trans (same_new nm (.lst [.ref k]))
      refine ⟨_, [⟨lo, hi, u * lo, u⟩], rfl, ⟨m, _, rfl, upd_same, .cons ⟨k, rfl, get_new nm upd_same⟩ .nil⟩, ⟨FB.one ⟨k3.mono (by decide), k4.mono (by decide), (k2.mul k3).mono (by decide), k2.mono (by decide)⟩, fun r hr => by rw [List.mem_singleton.mp hr]; exact k1, Nat.le_of_ble_eq_true rfl⟩, fun r H2 s3 h => q r H2 (s2.trans s3) h⟩
    | _ => cases hk
abbrev sp_Flat_drawn (K : PySem.W.Frag) := sp_drawn K .flat
/- slots: 0 self, 1 forms, 2 inner -/
theorem sc_Flat_drawn : FnScope ["self", "forms", "inner"] ["self", "forms", "inner"] (defScope s_Flat_drawn) := by walk_at "oh sc"
theorem ok_Flat_drawn (T : Pg K mg) : OkM P w K mg base CX0 6 "Flat" "drawn" ["self", "forms", "inner"] (sp_Flat_drawn K) := by
  obtain ⟨fd, F⟩ := F_Flat_drawn T
  refine ⟨fd, F.ok sc_Flat_drawn (fun vs H Q E h => ?_) (fun cdv A outer s H vs Q E hr h => ?_), F.binds fun _ _ _ _ _ _ us hl => (match us, hl with | [_, _, _], _ => rfl)⟩
  · obtain ⟨v, p, d, l, kvs, ws, fs, rfl, _⟩ := h
    rfl
  · obtain ⟨v, p, d, l, kvs, ws, fs, rfl, I, q⟩ := h
    have hu := hu_of hr
    refine ⟨_, pss_one (ps_ret (pe_c0 (ok_laid T) hr (pa_cons (pe_lst (pa_cons (pe_tup (pa_cons (pe_fld (pv 0) rfl) (pa_cons (pe_fld (pv 0) rfl) (pa_cons (pe_fld (pv 0) rfl) (pa_cons pe_int pa_nil))))) pa_nil)) pa_nil))), ?_⟩
    have c1 := c_Flat T
    have n1 := n_Flat_price T
    have n2 := n_Flat_low T
    have n3 := n_Flat_high T
    obtain ⟨hR, hk, A, hd, hN, hl, hI, hF⟩ := I
    cases p with
    | flat u lo hi =>
      obtain ⟨a, dx, rfl, ha⟩ := hR
      obtain ⟨k1, k2, k3, k4⟩ := A.ok
      walk_at "oh go"
      refine ⟨Nat.le_of_ble_eq_true rfl, fun k nk => ?_⟩
      walk_at "oh go"
      refine ⟨Nat.le_of_ble_eq_true rfl, fun m nm => ?_⟩
      walk_at "oh go"
      have s2 := (same_new nk (.tup [.int lo, .int hi, .int u, .int 0])).trans (same_new nm (.lst [.ref k]))
      refine ⟨_, [⟨lo, hi, u, 0⟩], rfl, ⟨m, _, rfl, upd_same, .cons ⟨k, rfl, get_new nm upd_same⟩ .nil⟩, ⟨FB.one ⟨k3.mono (by decide), k4.mono (by decide), k2.mono (by decide), Sz.zero⟩, fun r hr => by rw [List.mem_singleton.mp hr]; exact k1, Nat.le_of_ble_eq_true rfl⟩, fun r H2 s3 h => q r H2 (s2.trans s3) h⟩
    | _ => cases hk
abbrev sp_Named_drawn (K : PySem.W.Frag) := sp_drawn K .name
/- slots: 0 self, 1 forms, 2 inner -/
theorem sc_Named_drawn : FnScope ["self", "forms", "inner"] ["self", "forms", "inner"] (defScope s_Named_drawn) := by walk_at "oh sc"
theorem ok_Named_drawn (T : Pg K mg) : OkM P w K mg base CX0 1 "Named" "drawn" ["self", "forms", "inner"] (sp_Named_drawn K) := by
  obtain ⟨fd, F⟩ := F_Named_drawn T
  refine ⟨fd, F.ok sc_Named_drawn (fun vs H Q E h => ?_) (fun cdv A outer s H vs Q E hr h => ?_), F.binds fun _ _ _ _ _ _ us hl => (match us, hl with | [_, _, _], _ => rfl)⟩
  · obtain ⟨v, p, d, l, kvs, ws, fs, rfl, _⟩ := h
    rfl
  · obtain ⟨v, p, d, l, kvs, ws, fs, rfl, I, q⟩ := h
    have hu := hu_of hr
    refine ⟨_, pss_one (ps_ret (pe_dget hu (pv 1) (pe_fld (pv 0) rfl) (fun _ _ => rfl))), ?_⟩
    have c1 := c_Named T
    have n1 := n_Named_name T
    obtain ⟨hR, hk, A, hd, hN, hl, hI, hF⟩ := I
    cases p with
    | name n p =>
      obtain ⟨a, dx, rfl, ha⟩ := hR
      obtain ⟨f, vf, e, hv, r⟩ := hN
      walk_at "oh go"
      refine i_atD (k := .inr n) hd hv ?_
      refine q _ _ (Same.refl _) ?_
      show FormV _ _ ((fm p).getD [])
      rw [e]
      exact r
    | _ => cases hk
abbrev sp_Sum_drawn (K : PySem.W.Frag) := sp_drawn K .plus
/- slots: 0 self, 1 forms, 2 inner -/
theorem sc_Sum_drawn : FnScope ["self", "forms", "inner"] ["self", "forms", "inner"] (defScope s_Sum_drawn) := by walk_at "oh sc"
theorem ok_Sum_drawn (T : Pg K mg) : OkM P w K mg base CX0 8 "Sum" "drawn" ["self", "forms", "inner"] (sp_Sum_drawn K) := by
  obtain ⟨fd, F⟩ := F_Sum_drawn T
  refine ⟨fd, F.ok sc_Sum_drawn (fun vs H Q E h => ?_) (fun cdv A outer s H vs Q E hr h => ?_), F.binds fun _ _ _ _ _ _ us hl => (match us, hl with | [_, _, _], _ => rfl)⟩
  · obtain ⟨v, p, d, l, kvs, ws, fs, rfl, _⟩ := h
    rfl
  · obtain ⟨v, p, d, l, kvs, ws, fs, rfl, I, q⟩ := h
    have hu := hu_of hr
    refine ⟨_, pss_one (ps_ret (pe_c0 (ok_plus T) hr (pa_cons (pe_ix ix_list (pv 2) pe_int (fun _ _ => rfl)) (pa_cons (pe_ix ix_list (pv 2) pe_int (fun _ _ => rfl)) pa_nil)))), ?_⟩
    obtain ⟨hR, hk, A, hd, hN, hl, hI, hF⟩ := I
    cases p with
    | plus x y =>
      match fs, ws, hF, hI, forms_in A hF fun q h => h with
      | [f, g], [vf, vg], hF, .cons r1 (.cons r2 .nil), hin =>
      walk_at "oh go"
      refine i_ixL hl rfl ?_
      walk_at "oh go"
      refine i_ixL hl rfl ?_
      walk_at "oh go"
      exact ⟨vf, vg, f, g, rfl, r1, r2, hin f List.mem_cons_self, hin g (List.mem_cons_of_mem _ List.mem_cons_self), q⟩
    | _ => cases hk
abbrev sp_Cheaper_drawn (K : PySem.W.Frag) := sp_drawn K .cheap
/- slots: 0 self, 1 forms, 2 inner -/
theorem sc_Cheaper_drawn : FnScope ["self", "forms", "inner"] ["self", "forms", "inner"] (defScope s_Cheaper_drawn) := by walk_at "oh sc"
theorem ok_Cheaper_drawn (T : Pg K mg) : OkM P w K mg base CX0 7 "Cheaper" "drawn" ["self", "forms", "inner"] (sp_Cheaper_drawn K) := by
  obtain ⟨fd, F⟩ := F_Cheaper_drawn T
  refine ⟨fd, F.ok sc_Cheaper_drawn (fun vs H Q E h => ?_) (fun cdv A outer s H vs Q E hr h => ?_), F.binds fun _ _ _ _ _ _ us hl => (match us, hl with | [_, _, _], _ => rfl)⟩
  · obtain ⟨v, p, d, l, kvs, ws, fs, rfl, _⟩ := h
    rfl
  · obtain ⟨v, p, d, l, kvs, ws, fs, rfl, I, q⟩ := h
    have hu := hu_of hr
    refine ⟨_, pss_one (ps_ret (pe_c0 (ok_least T) hr (pa_cons (pe_ix ix_list (pv 2) pe_int (fun _ _ => rfl)) (pa_cons (pe_ix ix_list (pv 2) pe_int (fun _ _ => rfl)) pa_nil)))), ?_⟩
    obtain ⟨hR, hk, A, hd, hN, hl, hI, hF⟩ := I
    cases p with
    | cheap x y =>
      match fs, ws, hF, hI, forms_in A hF fun q h => h with
      | [f, g], [vf, vg], hF, .cons r1 (.cons r2 .nil), hin =>
      walk_at "oh go"
      refine i_ixL hl rfl ?_
      walk_at "oh go"
      refine i_ixL hl rfl ?_
      walk_at "oh go"
      exact ⟨vf, vg, f, g, rfl, r1, r2, hin f List.mem_cons_self, hin g (List.mem_cons_of_mem _ List.mem_cons_self), q⟩
    | _ => cases hk
abbrev sp_Dearer_drawn (K : PySem.W.Frag) := sp_drawn K .dear
/- slots: 0 self, 1 forms, 2 inner -/
theorem sc_Dearer_drawn : FnScope ["self", "forms", "inner"] ["self", "forms", "inner"] (defScope s_Dearer_drawn) := by walk_at "oh sc"
theorem ok_Dearer_drawn (T : Pg K mg) : OkM P w K mg base CX0 7 "Dearer" "drawn" ["self", "forms", "inner"] (sp_Dearer_drawn K) := by
  obtain ⟨fd, F⟩ := F_Dearer_drawn T
  refine ⟨fd, F.ok sc_Dearer_drawn (fun vs H Q E h => ?_) (fun cdv A outer s H vs Q E hr h => ?_), F.binds fun _ _ _ _ _ _ us hl => (match us, hl with | [_, _, _], _ => rfl)⟩
  · obtain ⟨v, p, d, l, kvs, ws, fs, rfl, _⟩ := h
    rfl
  · obtain ⟨v, p, d, l, kvs, ws, fs, rfl, I, q⟩ := h
    have hu := hu_of hr
    refine ⟨_, pss_one (ps_ret (pe_c0 (ok_greatest T) hr (pa_cons (pe_ix ix_list (pv 2) pe_int (fun _ _ => rfl)) (pa_cons (pe_ix ix_list (pv 2) pe_int (fun _ _ => rfl)) pa_nil)))), ?_⟩
    obtain ⟨hR, hk, A, hd, hN, hl, hI, hF⟩ := I
    cases p with
    | dear x y =>
      match fs, ws, hF, hI, forms_in A hF fun q h => h with
      | [f, g], [vf, vg], hF, .cons r1 (.cons r2 .nil), hin =>
      walk_at "oh go"
      refine i_ixL hl rfl ?_
      walk_at "oh go"
      refine i_ixL hl rfl ?_
      walk_at "oh go"
      exact ⟨vf, vg, f, g, rfl, r1, r2, hin f List.mem_cons_self, hin g (List.mem_cons_of_mem _ List.mem_cons_self), q⟩
    | _ => cases hk
abbrev sp_Only_drawn (K : PySem.W.Frag) := sp_drawn K .only
/- slots: 0 self, 1 forms, 2 inner -/
theorem sc_Only_drawn : FnScope ["self", "forms", "inner"] ["self", "forms", "inner"] (defScope s_Only_drawn) := by walk_at "oh sc"
theorem ok_Only_drawn (T : Pg K mg) : OkM P w K mg base CX0 7 "Only" "drawn" ["self", "forms", "inner"] (sp_Only_drawn K) := by
  obtain ⟨fd, F⟩ := F_Only_drawn T
  refine ⟨fd, F.ok sc_Only_drawn (fun vs H Q E h => ?_) (fun cdv A outer s H vs Q E hr h => ?_), F.binds fun _ _ _ _ _ _ us hl => (match us, hl with | [_, _, _], _ => rfl)⟩
  · obtain ⟨v, p, d, l, kvs, ws, fs, rfl, _⟩ := h
    rfl
  · obtain ⟨v, p, d, l, kvs, ws, fs, rfl, I, q⟩ := h
    have hu := hu_of hr
    refine ⟨_, pss_one (ps_ret (pe_c0 (ok_within T) hr (pa_cons (pe_ix ix_list (pv 2) pe_int (fun _ _ => rfl)) (pa_cons (pe_fld (pv 0) rfl) (pa_cons (pe_fld (pv 0) rfl) pa_nil))))), ?_⟩
    have c1 := c_Only T
    have n1 := n_Only_low T
    have n2 := n_Only_high T
    obtain ⟨hR, hk, A, hd, hN, hl, hI, hF⟩ := I
    cases p with
    | only x lo hi =>
      obtain ⟨a, dx, va, rfl, ha, _⟩ := hR
      obtain ⟨k1, k2, k3, k4⟩ := A.ok
      match fs, ws, hF, hI, forms_in A hF fun q h => h with
      | [f], [vf], hF, .cons r1 .nil, hin =>
      walk_at "oh go"
      refine i_ixL hl rfl ?_
      walk_at "oh go"
      exact ⟨vf, f, lo, hi, rfl, r1, hin f List.mem_cons_self, k3.mono (by decide), k4.mono (by decide), q⟩
    | _ => cases hk
abbrev sp_After_drawn (K : PySem.W.Frag) := sp_drawn K .after
/- slots: 0 self, 1 forms, 2 inner -/
theorem sc_After_drawn : FnScope ["self", "forms", "inner"] ["self", "forms", "inner"] (defScope s_After_drawn) := by walk_at "oh sc"
theorem ok_After_drawn (T : Pg K mg) : OkM P w K mg base CX0 7 "After" "drawn" ["self", "forms", "inner"] (sp_After_drawn K) := by
  obtain ⟨fd, F⟩ := F_After_drawn T
  refine ⟨fd, F.ok sc_After_drawn (fun vs H Q E h => ?_) (fun cdv A outer s H vs Q E hr h => ?_), F.binds fun _ _ _ _ _ _ us hl => (match us, hl with | [_, _, _], _ => rfl)⟩
  · obtain ⟨v, p, d, l, kvs, ws, fs, rfl, _⟩ := h
    rfl
  · obtain ⟨v, p, d, l, kvs, ws, fs, rfl, I, q⟩ := h
    have hu := hu_of hr
    refine ⟨_, pss_one (ps_ret (pe_c0 (ok_freed T) hr (pa_cons (pe_ix ix_list (pv 2) pe_int (fun _ _ => rfl)) (pa_cons (pe_fld (pv 0) rfl) pa_nil)))), ?_⟩
    have c1 := c_After T
    have n1 := n_After_count T
    obtain ⟨hR, hk, A, hd, hN, hl, hI, hF⟩ := I
    cases p with
    | after x c =>
      obtain ⟨a, dx, va, rfl, ha, _⟩ := hR
      obtain ⟨k1, k2, k3⟩ := A.ok
      match fs, ws, hF, hI, forms_in A hF fun q h => h with
      | [f], [vf], hF, .cons r1 .nil, hin =>
      walk_at "oh go"
      refine i_ixL hl rfl ?_
      walk_at "oh go"
      exact ⟨vf, f, c, rfl, r1, hin f List.mem_cons_self, k2, k3.mono (by decide), q⟩
    | _ => cases hk
abbrev sp_Fee_drawn (K : PySem.W.Frag) := sp_drawn K .fee
/- slots: 0 self, 1 forms, 2 inner -/
theorem sc_Fee_drawn : FnScope ["self", "forms", "inner"] ["self", "forms", "inner"] (defScope s_Fee_drawn) := by walk_at "oh sc"
theorem ok_Fee_drawn (T : Pg K mg) : OkM P w K mg base CX0 7 "Fee" "drawn" ["self", "forms", "inner"] (sp_Fee_drawn K) := by
  obtain ⟨fd, F⟩ := F_Fee_drawn T
  refine ⟨fd, F.ok sc_Fee_drawn (fun vs H Q E h => ?_) (fun cdv A outer s H vs Q E hr h => ?_), F.binds fun _ _ _ _ _ _ us hl => (match us, hl with | [_, _, _], _ => rfl)⟩
  · obtain ⟨v, p, d, l, kvs, ws, fs, rfl, _⟩ := h
    rfl
  · obtain ⟨v, p, d, l, kvs, ws, fs, rfl, I, q⟩ := h
    have hu := hu_of hr
    refine ⟨_, pss_one (ps_ret (pe_c0 (ok_least T) hr (pa_cons (pe_c0 (ok_within T) hr (pa_cons (pe_ix ix_list (pv 2) pe_int (fun _ _ => rfl)) (pa_cons pe_int (pa_cons pe_int pa_nil)))) (pa_cons (pe_c0 (ok_raised T) hr (pa_cons (pe_c0 (ok_without T) hr (pa_cons (pe_ix ix_list (pv 2) pe_int (fun _ _ => rfl)) (pa_cons pe_int (pa_cons pe_int pa_nil)))) (pa_cons (pe_fld (pv 0) rfl) pa_nil))) pa_nil)))), ?_⟩
    have c1 := c_Fee T
    have n1 := n_Fee_price T
    obtain ⟨hR, hk, A, hd, hN, hl, hI, hF⟩ := I
    cases p with
    | fee x c =>
      obtain ⟨a, dx, va, rfl, ha, _⟩ := hR
      obtain ⟨k1, k2⟩ := A.ok
      match fs, ws, hF, hI, forms_in A hF fun q h => h with
      | [f], [vf], .cons ef .nil, .cons r1 .nil, hin =>
      have fin : FormIn f := hin f List.mem_cons_self
      have kx : ops x + 1 ≤ 9 := A.ops
      have fbf := fm_fb x f k1 (by omega) ef
      have h4 : 131 ≤ aB (ops x) := by unfold aB; omega
      have h5 : 270 ≤ pB (ops x) := by unfold pB; omega
      have h6 : aB (ops x) ≤ 140 := by unfold aB; omega
      have h7 : pB (ops x) ≤ 4270 := by unfold pB; omega
      obtain ⟨b1, b2, b3, b4, b5, b6⟩ := feeF_parts fin.asc fbf (by omega) (k2.mono (by omega) : Sz _ c)
      have l0 := fm_len x f ef
      have lw : (within f 0 0).length ≤ 100 := by
        refine Nat.le_trans (laid_len _) ?_
        have := flat_le (n := 1) (g := fun s => clip s 0 0) (l := f) fun s _ => clip_le s 0 0
        unfold withinR
        omega
      have lo_ : (without f 0 0).length ≤ 200 := by
        refine Nat.le_trans (laid_len _) ?_
        have := flat_le (n := 2) (g := fun s => clip s s.lo (0 - 1) ++ clip s (0 + 1) s.hi) (l := f) fun s _ => by
          have h1 := clip_le s s.lo (0 - 1)
          have h2 := clip_le s (0 + 1) s.hi
          rw [List.length_append]
          omega
        unfold withoutR
        omega
      have lr : (raised (without f 0 0) c).length ≤ 200 := by
        refine Nat.le_trans (laid_len _) ?_
        unfold raisedR
        rw [List.length_map]
        exact lo_
      have fw : FormIn (within f 0 0) := ⟨b1.mono (by omega) (by omega), b2, by omega⟩
      have fo : FormIn (without f 0 0) := ⟨b3.mono (by omega) (by omega), b4, by omega⟩
      have fr : FormIn (raised (without f 0 0) c) := ⟨b5.mono (by omega) (by omega), b6, by omega⟩
      walk_at "oh go"
      refine i_ixL hl rfl ?_
      walk_at "oh go"
      refine ⟨vf, f, 0, 0, rfl, r1, fin, Sz.zero, Sz.zero, fun w1 H1 s1 q1 => ?_⟩
      walk_at "oh go"
      refine i_ixL (s1 _ _ hl) rfl ?_
      walk_at "oh go"
      refine ⟨vf, f, rfl, FormV.mono _ _ _ _ (.of s1) r1, fin, fun w2 H2 s2 q2 => ?_⟩
      have ha2 := s2 _ _ (s1 _ _ ha)
      walk_at "oh go"
      refine ⟨w2, without f 0 0, c, rfl, q2, fo, k2.mono (by decide), fun w3 H3 s3 q3 => ?_⟩
      walk_at "oh go"
      exact ⟨w1, w3, _, _, rfl, FormV.mono _ _ _ _ (.of (s2.trans s3)) q1, q3, fw, fr, fun r H4 s4 h => q r H4 (s1.trans (s2.trans (s3.trans s4))) h⟩
    | _ => cases hk
abbrev sp_Bands_drawn (K : PySem.W.Frag) := sp_drawn K .bands
/- slots: 0 self, 1 forms, 2 inner, 3 told, 4 low, 5 top, 6 unit -/
theorem sc_Bands_drawn : FnScope ["self", "forms", "inner", "told", "low", "top", "unit"] ["self", "forms", "inner"] (defScope s_Bands_drawn) := by walk_at "oh sc"
theorem ok_Bands_drawn (T : Pg K mg) : OkM P w K mg base CX0 6 "Bands" "drawn" ["self", "forms", "inner"] (sp_Bands_drawn K) := by
  obtain ⟨fd, F⟩ := F_Bands_drawn T
  refine ⟨fd, F.ok sc_Bands_drawn (fun vs H Q E h => ?_) (fun cdv A outer s H vs Q E hr h => ?_), F.binds fun _ _ _ _ _ _ us hl => (match us, hl with | [_, _, _], _ => rfl)⟩
  · obtain ⟨v, p, d, l, kvs, ws, fs, rfl, _⟩ := h
    rfl
  · obtain ⟨v, p, d, l, kvs, ws, fs, rfl, I, q⟩ := h
    have hu := hu_of hr
    refine ⟨_, pss_cons (ps_set (i := 3) sc_Bands_drawn.nd rfl (Or.inl rfl) (pe_lst pa_nil))
      (pss_cons (ps_set (i := 4) sc_Bands_drawn.nd rfl (Or.inl rfl) pe_int)
      (pss_cons (ps_for PassesOwn.never rfl (pi_list (pe_fld (pv 0) rfl)) (pg_tup rfl (pgs_cons (pg_name (i := 5) sc_Bands_drawn.nd rfl (Or.inl rfl)) (pgs_cons (pg_name (i := 6) sc_Bands_drawn.nd rfl (Or.inl rfl)) pgs_nil)))
      (pss_cons (ps_expr (pe_bm PySem.F.plainAttrs_list PySem.F.slot_list_append PySem.F.type_list_append mt_append (pv 3) (pa_cons (pe_tup (pa_cons (pv 4) (pa_cons (pv 5) (pa_cons (pe_op op_mulW (pv 6) (pv 4)) (pa_cons (pv 6) pa_nil))))) pa_nil)))
        (pss_one (ps_set (i := 4) sc_Bands_drawn.nd rfl (Or.inl rfl) (pe_op op_add (pv 5) pe_int)))))
      (pss_one (ps_ret (pe_c0 (ok_laid T) hr (pa_cons (pv 3) pa_nil)))))), ?_⟩
    have c1 := c_Bands T
    have n1 := n_Bands_rows T
    obtain ⟨hR, hk, A, hd, hN, hl, hI, hF⟩ := I
    cases p with
    | bands r0 =>
      obtain ⟨a, dx, b, vs, rfl, ha, hb, hr0⟩ := hR
      have ro : RowsOk r0 := A.ok
      have sz0 := ro.sz
      walk_at "oh go"
      refine ⟨Nat.le_of_ble_eq_true rfl, fun t nt => ?_⟩
      walk_at "oh go"
      refine for_left hr0 (fun r σ H' => ∃ acc L low o5 o6, σ = [some (.ref a), some (.ref d), some (.ref l), some (.ref t), some (.int low), o5, o6] ∧ LL S4V H t H' acc L ∧ L ++ bandsR low r = bandsR 0 r0 ∧ Sz 131 low ∧ (∀ q ∈ r, Sz 130 q.1 ∧ Sz 130 q.2) ∧ L.length + r.length ≤ 2)
        ⟨[], [], 0, none, none, rfl, LL.new (Same.refl _) nt, rfl, Sz.zero, sz0, by rw [List.length_nil, Nat.zero_add]; exact ro.len⟩ ?_ ?_ ?_
      · rintro r σ H1 ⟨acc, L, low, o5, o6, rfl, X, _⟩
        exact SqL.of (X.sm _ _ hb)
      · rintro x ⟨top, u⟩ r σ H1 ⟨c, rfl, hc⟩ ⟨acc, L, low, o5, o6, rfl, X, e, sl, szr, n⟩
        have ll := X.len
        have q1 := szr _ List.mem_cons_self
        rw [List.length_cons] at n
        walk_at "oh go"
        refine i_I (bg_mul (q1.2.mono (by decide)) (sl.mono (by decide))) ?_
        walk_at "oh go"
        refine ⟨Nat.le_of_ble_eq_true rfl, fun k nk => ?_⟩
        walk_at "oh go"
        refine i_app (by walk_at "oh hp") (by omega) ?_
        walk_at "oh go"
        refine ⟨_, _, top + 1, _, _, rfl, X.pushN S4V.mono (y := ⟨low, top, u * low, u⟩) nk ⟨k, rfl, upd_same⟩, by rw [List.append_assoc]; exact e, q1.1.add ((show Sz 2 1 by unfold Sz; decide).mono (by decide)), fun y hy => szr y (List.mem_cons_of_mem _ hy), ?_⟩
        rw [List.length_append]
        show L.length + 1 + r.length ≤ 2
        omega
      · rintro σ H1 ⟨acc, L, low, o5, o6, rfl, X, e, _⟩
        have e' : L = bandsR 0 r0 := by rw [← e]; exact (List.append_nil L).symm
        subst e'
        walk_at "oh go"
        refine ⟨_, _, rfl, X.rep, ⟨(fb_bands sz0 0 Sz.zero).mono (by decide) (by decide), bandsR_in ro, ?_⟩, fun r H2 s2 h => q r H2 (X.sm.trans s2) h⟩
        have h1 := X.len
        have : ∀ (r : Rows) low, (bandsR low r).length = r.length := fun r => by
          induction r with
          | nil => exact fun _ => rfl
          | cons x r ih => exact fun low => congrArg (· + 1) (ih _)
        rw [this]
        exact Nat.le_trans ro.len (by decide)
    | _ => cases hk
abbrev sp_Steps_drawn (K : PySem.W.Frag) := sp_drawn K .steps
/- slots: 0 self, 1 forms, 2 inner, 3 told, 4 price, 5 done, 6 top, 7 unit -/
theorem sc_Steps_drawn : FnScope ["self", "forms", "inner", "told", "price", "done", "top", "unit"] ["self", "forms", "inner"] (defScope s_Steps_drawn) := by walk_at "oh sc"
theorem ok_Steps_drawn (T : Pg K mg) : OkM P w K mg base CX0 6 "Steps" "drawn" ["self", "forms", "inner"] (sp_Steps_drawn K) := by
  obtain ⟨fd, F⟩ := F_Steps_drawn T
  refine ⟨fd, F.ok sc_Steps_drawn (fun vs H Q E h => ?_) (fun cdv A outer s H vs Q E hr h => ?_), F.binds fun _ _ _ _ _ _ us hl => (match us, hl with | [_, _, _], _ => rfl)⟩
  · obtain ⟨v, p, d, l, kvs, ws, fs, rfl, _⟩ := h
    rfl
  · obtain ⟨v, p, d, l, kvs, ws, fs, rfl, I, q⟩ := h
    have hu := hu_of hr
    refine ⟨_, pss_cons (ps_set (i := 3) sc_Steps_drawn.nd rfl (Or.inl rfl) (pe_lst (pa_cons (pe_tup (pa_cons pe_int (pa_cons pe_int (pa_cons pe_int (pa_cons pe_int pa_nil))))) pa_nil)))
      (pss_cons (ps_set (i := 4) sc_Steps_drawn.nd rfl (Or.inl rfl) pe_int)
      (pss_cons (ps_set (i := 5) sc_Steps_drawn.nd rfl (Or.inl rfl) pe_int)
      (pss_cons (ps_for PassesOwn.never rfl (pi_list (pe_fld (pv 0) rfl)) (pg_tup rfl (pgs_cons (pg_name (i := 6) sc_Steps_drawn.nd rfl (Or.inl rfl)) (pgs_cons (pg_name (i := 7) sc_Steps_drawn.nd rfl (Or.inl rfl)) pgs_nil)))
      (pss_one (ps_if (pt_cmpR op_gt (pv 6) (pv 5) (nomark _))
        (pss_cons (ps_expr (pe_bm PySem.F.plainAttrs_list PySem.F.slot_list_append PySem.F.type_list_append mt_append (pv 3) (pa_cons (pe_tup (pa_cons (pe_op op_add (pv 5) pe_int) (pa_cons (pv 6) (pa_cons (pe_op op_add (pv 4) (pv 7)) (pa_cons (pv 7) pa_nil))))) pa_nil)))
          (pss_cons (ps_aug (i := 4) sc_Steps_drawn.nd rfl (Or.inl rfl) (pe_op op_mulW (pv 7) (pe_op op_sub (pv 6) (pv 5))) ip_add)
          (pss_one (ps_set (i := 5) sc_Steps_drawn.nd rfl (Or.inl rfl) (pv 6)))))
        pss_nil)))
      (pss_one (ps_ret (pe_c0 (ok_laid T) hr (pa_cons (pv 3) pa_nil))))))), ?_⟩
    have c1 := c_Steps T
    have n1 := n_Steps_rows T
    obtain ⟨hR, hk, A, hd, hN, hl, hI, hF⟩ := I
    cases p with
    | steps r0 =>
      obtain ⟨a, dx, b, vs, rfl, ha, hb, hr0⟩ := hR
      have ro : RowsOk r0 := A.ok
      have sz0 := ro.sz
      have sl : ∀ (r : Rows) pr dn, (stepsR pr dn r).length ≤ r.length := fun r => by
        induction r with
        | nil => exact fun _ _ => Nat.le_refl _
        | cons x r ih =>
          intro pr dn
          unfold stepsR
          split
          · exact Nat.succ_le_succ (ih _ _)
          · exact Nat.le_succ_of_le (ih _ _)
      walk_at "oh go"
      refine ⟨Nat.le_of_ble_eq_true rfl, fun z nz => ?_⟩
      walk_at "oh go"
      refine ⟨Nat.le_of_ble_eq_true rfl, fun t nt => ?_⟩
      walk_at "oh go"
      have sz_ := same_new nz (.tup [.int 0, .int 0, .int 0, .int 0])
      have nt0 : H t = none := sz_.free nt
      have X0 : LL S4V H t (upd (upd H z (.tup [.int 0, .int 0, .int 0, .int 0])) t (.lst [.ref z])) [.ref z] [zeroS] := ⟨upd_same, .cons ⟨z, rfl, get_new nt upd_same⟩ .nil, sz_.trans (same_new nt _), nt0⟩
      refine for_left hr0 (fun r σ H' => ∃ acc L price done o6 o7 k, σ = [some (.ref a), some (.ref d), some (.ref l), some (.ref t), some (.int price), some (.int done), o6, o7] ∧ LL S4V H t H' acc L ∧ L ++ stepsR price done r = zeroS :: stepsR 0 0 r0 ∧ Sz (262 + k) price ∧ Sz 130 done ∧ (∀ q ∈ r, Sz 130 q.1 ∧ Sz 130 q.2) ∧ L.length + r.length ≤ 3 ∧ k + r.length ≤ 2)
        ⟨[.ref z], [zeroS], 0, 0, none, none, 0, rfl, X0, rfl, Sz.zero, Sz.zero, sz0, by have := ro.len; show 1 + r0.length ≤ 3; omega, by have := ro.len; omega⟩ ?_ ?_ ?_
      · rintro r σ H1 ⟨acc, L, price, done, o6, o7, k, rfl, X, _⟩
        exact SqL.of (X.sm _ _ hb)
      · rintro x ⟨top, u⟩ r σ H1 ⟨c, rfl, hc⟩ ⟨acc, L, price, done, o6, o7, kk, rfl, X, e, sp, sd, szr, n, nk2⟩
        have ll := X.len
        have q1 := szr _ List.mem_cons_self
        have szr2 : ∀ q ∈ r, Sz 130 q.1 ∧ Sz 130 q.2 := fun y hy => szr y (List.mem_cons_of_mem _ hy)
        rw [List.length_cons] at n nk2
        walk_at "oh go"
        rw [show stepsR price done ((top, u) :: r) = if top > done then ⟨done + 1, top, price + u, u⟩ :: stepsR (price + u * (top - done)) top r else stepsR price done r by rw [stepsR]] at e
        refine i_dec (fun cc => ?_) (fun cc => ?_)
        · have cc' : top > done := cc
          rw [if_pos cc'] at e
          walk_at "oh go"
          refine ⟨Nat.le_of_ble_eq_true rfl, fun k nk => ?_⟩
          walk_at "oh go"
          refine i_app (by walk_at "oh hp") (by omega) ?_
          walk_at "oh go"
          refine i_I (bg_mul (q1.2.mono (by decide)) ((q1.1.sub sd).mono (by decide))) ?_
          walk_at "oh go"
          have z1 : Sz (130 + 131) (u * (top - done)) := q1.2.mul (q1.1.sub sd)
          refine ⟨_, L ++ [⟨done + 1, top, price + u, u⟩], price + u * (top - done), top, _, _, kk + 1, rfl, X.pushN S4V.mono (y := ⟨done + 1, top, price + u, u⟩) nk ⟨k, rfl, upd_same⟩, by rw [List.append_assoc]; exact e, (sp.add (z1.mono (by omega))).mono (by omega), q1.1, szr2, ?_, by omega⟩
          rw [List.length_append]
          show L.length + 1 + r.length ≤ 3
          omega
        · have cc' : ¬ top > done := cc
          rw [if_neg cc'] at e
          walk_at "oh go"
          exact ⟨_, L, price, done, _, _, kk, rfl, X, e, sp, sd, szr2, by omega, by omega⟩
      · rintro σ H1 ⟨acc, L, price, done, o6, o7, kk, rfl, X, e, _⟩
        have e' : L = zeroS :: stepsR 0 0 r0 := by rw [← e]; exact (List.append_nil L).symm
        subst e'
        have hln := ro.len
        walk_at "oh go"
        refine ⟨_, _, rfl, X.rep, ⟨(FB.append fb_zero ((fb_steps 0 sz0 0 0 Sz.zero Sz.zero).mono (Nat.le_refl _) (show 264 + 0 + r0.length ≤ 266 by omega)) : FB 131 266 ([zeroS] ++ stepsR 0 0 r0)).mono (by decide) (by decide), (steps_ok ro).1.ne, ?_⟩, fun r H2 s2 h => q r H2 (X.sm.trans s2) h⟩
        have := sl r0 0 0
        show (stepsR 0 0 r0).length + 1 ≤ 100000
        omega
    | _ => cases hk
abbrev sp_Blocks_drawn (K : PySem.W.Frag) := sp_drawn K .blocks
/- slots: 0 self, 1 forms, 2 inner, 3 told, 4 k -/
theorem sc_Blocks_drawn : FnScope ["self", "forms", "inner", "told", "k"] ["self", "forms", "inner"] (defScope s_Blocks_drawn) := by walk_at "oh sc"
theorem ok_Blocks_drawn (T : Pg K mg) : OkM P w K mg base CX0 6 "Blocks" "drawn" ["self", "forms", "inner"] (sp_Blocks_drawn K) := by
  obtain ⟨fd, F⟩ := F_Blocks_drawn T
  refine ⟨fd, F.ok sc_Blocks_drawn (fun vs H Q E h => ?_) (fun cdv A outer s H vs Q E hr h => ?_), F.binds fun _ _ _ _ _ _ us hl => (match us, hl with | [_, _, _], _ => rfl)⟩
  · obtain ⟨v, p, d, l, kvs, ws, fs, rfl, _⟩ := h
    rfl
  · obtain ⟨v, p, d, l, kvs, ws, fs, rfl, I, q⟩ := h
    have hu := hu_of hr
    refine ⟨_, pss_cons (ps_set (i := 3) sc_Blocks_drawn.nd rfl (Or.inl rfl) (pe_lst (pa_cons (pe_tup (pa_cons pe_int (pa_cons pe_int (pa_cons pe_int (pa_cons pe_int pa_nil))))) pa_nil)))
      (pss_cons (ps_for PassesOwn.never rfl (pi_range1 (by rfl) (z_range T) (pa_cons (pe_fld (pv 0) rfl) pa_nil)) (pg_name (i := 4) sc_Blocks_drawn.nd rfl (Or.inl rfl))
      (pss_one (ps_expr (pe_bm PySem.F.plainAttrs_list PySem.F.slot_list_append PySem.F.type_list_append mt_append (pv 3) (pa_cons (pe_tup (pa_cons (pe_op op_add (pe_op op_mulW (pe_fld (pv 0) rfl) (pv 4)) pe_int) (pa_cons (pe_op op_mulW (pe_fld (pv 0) rfl) (pe_op op_add (pv 4) pe_int)) (pa_cons (pe_op op_mulW (pe_fld (pv 0) rfl) (pe_op op_add (pv 4) pe_int)) (pa_cons pe_int pa_nil))))) pa_nil)))))
      (pss_one (ps_ret (pe_c0 (ok_laid T) hr (pa_cons (pv 3) pa_nil))))), ?_⟩
    have c1 := c_Blocks T
    have n1 := n_Blocks_size T
    have n2 := n_Blocks_price T
    have n3 := n_Blocks_many T
    obtain ⟨hR, hk, A, hd, hN, hl, hI, hF⟩ := I
    cases p with
    | blocks size pr many =>
      obtain ⟨a, dx, rfl, ha⟩ := hR
      obtain ⟨k1, k2, k3, k4, k5⟩ := A.ok
      walk_at "oh go"
      refine ⟨Nat.le_of_ble_eq_true rfl, fun z nz => ?_⟩
      walk_at "oh go"
      refine ⟨Nat.le_of_ble_eq_true rfl, fun t nt => ?_⟩
      walk_at "oh go"
      refine i_rng1 ?_
      walk_at "oh go"
      refine ⟨many, rfl, by omega, by omega, ?_⟩
      have sz_ := same_new nz (.tup [.int 0, .int 0, .int 0, .int 0])
      have nt0 : H t = none := sz_.free nt
      have X0 : LL S4V H t (upd (upd H z (.tup [.int 0, .int 0, .int 0, .int 0])) t (.lst [.ref z])) [.ref z] [zeroS] := ⟨upd_same, .cons ⟨z, rfl, get_new nt upd_same⟩ .nil, sz_.trans (same_new nt _), nt0⟩
      refine for_n (fun i σ H' => ∃ acc L o4, σ = [some (.ref a), some (.ref d), some (.ref l), some (.ref t), o4] ∧ LL S4V H t H' acc L ∧ L = zeroS :: blocksR size pr i ∧ i ≤ many.toNat) ⟨_, _, none, rfl, X0, rfl, Nat.zero_le _⟩ ?_ ?_
      · rintro i σ H1 hi ⟨acc, L, o4, rfl, X, e, _⟩
        have ll := X.len
        have ln : L.length ≤ 100 := by
          rw [e, List.length_cons]
          unfold blocksR
          rw [List.length_map, List.length_range]
          omega
        have i1 : Sz 2 (0 + (i : Int)) := by unfold Sz; omega
        have i2 : Sz 2 (0 + (i : Int) + 1) := by unfold Sz; omega
        walk_at "oh go"
        refine i_I (bg_mul (k4.mono (by decide)) (i1.mono (by decide))) ?_
        walk_at "oh go"
        refine i_I (bg_mul (k4.mono (by decide)) (i2.mono (by decide))) ?_
        walk_at "oh go"
        refine i_I (bg_mul (k5.mono (by decide)) (i2.mono (by decide))) ?_
        walk_at "oh go"
        refine ⟨Nat.le_of_ble_eq_true rfl, fun k nk => ?_⟩
        walk_at "oh go"
        refine i_app (by walk_at "oh hp") (by omega) ?_
        walk_at "oh go"
        refine ⟨_, _, _, rfl, X.pushN S4V.mono (y := ⟨size * (0 + (i : Int)) + 1, size * (0 + (i : Int) + 1), pr * (0 + (i : Int) + 1), 0⟩) nk ⟨k, rfl, upd_same⟩, ?_, hi⟩
        rw [e, Int.zero_add]
        unfold blocksR
        rw [List.range_succ, List.map_append]
        rfl
      · rintro σ H1 ⟨acc, L, o4, rfl, X, rfl, _⟩
        walk_at "oh go"
        refine ⟨_, _, rfl, X.rep, ⟨(FB.append fb_zero (fb_blocks k4 k5 (by omega)) : FB 131 266 ([zeroS] ++ blocksR size pr many.toNat)).mono (by decide) (by decide), (blocks_ok k1 k2).1.ne, ?_⟩, fun r H2 s2 h => q r H2 (X.sm.trans s2) h⟩
        rw [List.length_cons]
        unfold blocksR
        rw [List.length_map, List.length_range]
        omega
    | _ => cases hk
end
end OH
set_option Elab.async false
set_option linter.all false
set_option maxRecDepth 100000
set_option maxHeartbeats 4000000
namespace OH
open PySem PySem.Spec PyProof.Rows L2
def ownNames : Plan Str → List Str
  | .name n _ => [n]
  | _ => []
abbrev sp_own_names (K : PySem.W.Frag) (k : Kd) : Sp := fun vs H Q _ => ∃ (v : V) (p : Plan Str), vs = [v] ∧ RuleV K H p v ∧ kd p = k ∧ ∀ l, H l = none → Q (.ref l) (upd H l (.lst ((ownNames p).map V.str)))
section
variable {P : Program} {w : World} {K : PySem.W.Frag} {mg : Str → Option Value} {base : Heap}
theorem c_kd (T : Pg K mg) : ∀ k : Kd, Cls K (He.ga K (cn k))
  | .each => c_Each T
  | .flat => c_Flat T
  | .bands => c_Bands T
  | .steps => c_Steps T
  | .blocks => c_Blocks T
  | .name => c_Named T
  | .plus => c_Sum T
  | .cheap => c_Cheaper T
  | .dear => c_Dearer T
  | .only => c_Only T
  | .after => c_After T
  | .fee => c_Fee T
theorem mt_inner (T : Pg K mg) : ∀ k : Kd, Meth K (He.ga K (cn k)) "inner" (He.ma K (He.ga K (cn k)) "inner")
  | .each => m_Each_inner T
  | .flat => m_Flat_inner T
  | .bands => m_Bands_inner T
  | .steps => m_Steps_inner T
  | .blocks => m_Blocks_inner T
  | .name => m_Named_inner T
  | .plus => m_Sum_inner T
  | .cheap => m_Cheaper_inner T
  | .dear => m_Dearer_inner T
  | .only => m_Only_inner T
  | .after => m_After_inner T
  | .fee => m_Fee_inner T
theorem mt_own_names (T : Pg K mg) : ∀ k : Kd, Meth K (He.ga K (cn k)) "own_names" (He.ma K (He.ga K (cn k)) "own_names")
  | .each => m_Each_own_names T
  | .flat => m_Flat_own_names T
  | .bands => m_Bands_own_names T
  | .steps => m_Steps_own_names T
  | .blocks => m_Blocks_own_names T
  | .name => m_Named_own_names T
  | .plus => m_Sum_own_names T
  | .cheap => m_Cheaper_own_names T
  | .dear => m_Dearer_own_names T
  | .only => m_Only_own_names T
  | .after => m_After_own_names T
  | .fee => m_Fee_own_names T
theorem mt_names (T : Pg K mg) : ∀ k : Kd, Meth K (He.ga K (cn k)) "names" (He.ma K (He.ga K (cn k)) "names")
  | .each => m_Each_names T
  | .flat => m_Flat_names T
  | .bands => m_Bands_names T
  | .steps => m_Steps_names T
  | .blocks => m_Blocks_names T
  | .name => m_Named_names T
  | .plus => m_Sum_names T
  | .cheap => m_Cheaper_names T
  | .dear => m_Dearer_names T
  | .only => m_Only_names T
  | .after => m_After_names T
  | .fee => m_Fee_names T
theorem mt_look_at (T : Pg K mg) : ∀ k : Kd, Meth K (He.ga K (cn k)) "look_at" (He.ma K (He.ga K (cn k)) "look_at")
  | .each => m_Each_look_at T
  | .flat => m_Flat_look_at T
  | .bands => m_Bands_look_at T
  | .steps => m_Steps_look_at T
  | .blocks => m_Blocks_look_at T
  | .name => m_Named_look_at T
  | .plus => m_Sum_look_at T
  | .cheap => m_Cheaper_look_at T
  | .dear => m_Dearer_look_at T
  | .only => m_Only_look_at T
  | .after => m_After_look_at T
  | .fee => m_Fee_look_at T
theorem mt_drawn (T : Pg K mg) : ∀ k : Kd, Meth K (He.ga K (cn k)) "drawn" (He.ma K (He.ga K (cn k)) "drawn")
  | .each => m_Each_drawn T
  | .flat => m_Flat_drawn T
  | .bands => m_Bands_drawn T
  | .steps => m_Steps_drawn T
  | .blocks => m_Blocks_drawn T
  | .name => m_Named_drawn T
  | .plus => m_Sum_drawn T
  | .cheap => m_Cheaper_drawn T
  | .dear => m_Dearer_drawn T
  | .only => m_Only_drawn T
  | .after => m_After_drawn T
  | .fee => m_Fee_drawn T
theorem mt_made (T : Pg K mg) : ∀ k : Kd, Meth K (He.ga K (cn k)) "made" (He.ma K (He.ga K (cn k)) "made")
  | .each => m_Each_made T
  | .flat => m_Flat_made T
  | .bands => m_Bands_made T
  | .steps => m_Steps_made T
  | .blocks => m_Blocks_made T
  | .name => m_Named_made T
  | .plus => m_Sum_made T
  | .cheap => m_Cheaper_made T
  | .dear => m_Dearer_made T
  | .only => m_Only_made T
  | .after => m_After_made T
  | .fee => m_Fee_made T
theorem mt_form (T : Pg K mg) : ∀ k : Kd, Meth K (He.ga K (cn k)) "form" (He.ma K (He.ga K (cn k)) "form")
  | .each => m_Each_form T
  | .flat => m_Flat_form T
  | .bands => m_Bands_form T
  | .steps => m_Steps_form T
  | .blocks => m_Blocks_form T
  | .name => m_Named_form T
  | .plus => m_Sum_form T
  | .cheap => m_Cheaper_form T
  | .dear => m_Dearer_form T
  | .only => m_Only_form T
  | .after => m_After_form T
  | .fee => m_Fee_form T
theorem ha_names (T : Pg K mg) : ∀ k : Kd, He.ma K (He.ga K (cn k)) "names" = He.ma K (He.ga K "Rule") "names"
  | .each => h_Each_names T
  | .flat => h_Flat_names T
  | .bands => h_Bands_names T
  | .steps => h_Steps_names T
  | .blocks => h_Blocks_names T
  | .name => h_Named_names T
  | .plus => h_Sum_names T
  | .cheap => h_Cheaper_names T
  | .dear => h_Dearer_names T
  | .only => h_Only_names T
  | .after => h_After_names T
  | .fee => h_Fee_names T
theorem ha_look_at (T : Pg K mg) : ∀ k : Kd, He.ma K (He.ga K (cn k)) "look_at" = He.ma K (He.ga K "Rule") "look_at"
  | .each => h_Each_look_at T
  | .flat => h_Flat_look_at T
  | .bands => h_Bands_look_at T
  | .steps => h_Steps_look_at T
  | .blocks => h_Blocks_look_at T
  | .name => h_Named_look_at T
  | .plus => h_Sum_look_at T
  | .cheap => h_Cheaper_look_at T
  | .dear => h_Dearer_look_at T
  | .only => h_Only_look_at T
  | .after => h_After_look_at T
  | .fee => h_Fee_look_at T
theorem ha_made (T : Pg K mg) : ∀ k : Kd, He.ma K (He.ga K (cn k)) "made" = He.ma K (He.ga K "Rule") "made"
  | .each => h_Each_made T
  | .flat => h_Flat_made T
  | .bands => h_Bands_made T
  | .steps => h_Steps_made T
  | .blocks => h_Blocks_made T
  | .name => h_Named_made T
  | .plus => h_Sum_made T
  | .cheap => h_Cheaper_made T
  | .dear => h_Dearer_made T
  | .only => h_Only_made T
  | .after => h_After_made T
  | .fee => h_Fee_made T
theorem ha_form (T : Pg K mg) : ∀ k : Kd, He.ma K (He.ga K (cn k)) "form" = He.ma K (He.ga K "Rule") "form"
  | .each => h_Each_form T
  | .flat => h_Flat_form T
  | .bands => h_Bands_form T
  | .steps => h_Steps_form T
  | .blocks => h_Blocks_form T
  | .name => h_Named_form T
  | .plus => h_Sum_form T
  | .cheap => h_Cheaper_form T
  | .dear => h_Dearer_form T
  | .only => h_Only_form T
  | .after => h_After_form T
  | .fee => h_Fee_form T
theorem ok_drawn (T : Pg K mg) : ∀ k : Kd, OkM P w K mg base CX0 8 (cn k) "drawn" ["self", "forms", "inner"] (sp_drawn K k)
  | .each => (ok_Each_drawn T).up (by decide)
  | .flat => (ok_Flat_drawn T).up (by decide)
  | .bands => (ok_Bands_drawn T).up (by decide)
  | .steps => (ok_Steps_drawn T).up (by decide)
  | .blocks => (ok_Blocks_drawn T).up (by decide)
  | .name => (ok_Named_drawn T).up (by decide)
  | .plus => (ok_Sum_drawn T).up (by decide)
  | .cheap => (ok_Cheaper_drawn T).up (by decide)
  | .dear => (ok_Dearer_drawn T).up (by decide)
  | .only => (ok_Only_drawn T).up (by decide)
  | .after => (ok_After_drawn T).up (by decide)
  | .fee => (ok_Fee_drawn T).up (by decide)
theorem ok_own_names (T : Pg K mg) : ∀ k : Kd, OkM P w K mg base CX0 1 (cn k) "own_names" ["self"] (sp_own_names K k)
  | .each => (ok_Rule_own_names T).to (h_Each_own_names T) fun vs H Q E ⟨v, p, e, h, g, q⟩ => by
    cases p <;> first | exact ⟨v, e, q⟩ | cases g
  | .flat => (ok_Rule_own_names T).to (h_Flat_own_names T) fun vs H Q E ⟨v, p, e, h, g, q⟩ => by
    cases p <;> first | exact ⟨v, e, q⟩ | cases g
  | .bands => (ok_Rule_own_names T).to (h_Bands_own_names T) fun vs H Q E ⟨v, p, e, h, g, q⟩ => by
    cases p <;> first | exact ⟨v, e, q⟩ | cases g
  | .steps => (ok_Rule_own_names T).to (h_Steps_own_names T) fun vs H Q E ⟨v, p, e, h, g, q⟩ => by
    cases p <;> first | exact ⟨v, e, q⟩ | cases g
  | .blocks => (ok_Rule_own_names T).to (h_Blocks_own_names T) fun vs H Q E ⟨v, p, e, h, g, q⟩ => by
    cases p <;> first | exact ⟨v, e, q⟩ | cases g
  | .name => (ok_Named_own_names T).imp fun vs H Q E ⟨v, p, e, h, g, q⟩ => by
    cases p with
    | name n p =>
      obtain ⟨a, dx, rfl, h⟩ := h
      exact ⟨a, dx, n, e, h, q⟩
    | _ => cases g
  | .plus => (ok_Rule_own_names T).to (h_Sum_own_names T) fun vs H Q E ⟨v, p, e, h, g, q⟩ => by
    cases p <;> first | exact ⟨v, e, q⟩ | cases g
  | .cheap => (ok_Rule_own_names T).to (h_Cheaper_own_names T) fun vs H Q E ⟨v, p, e, h, g, q⟩ => by
    cases p <;> first | exact ⟨v, e, q⟩ | cases g
  | .dear => (ok_Rule_own_names T).to (h_Dearer_own_names T) fun vs H Q E ⟨v, p, e, h, g, q⟩ => by
    cases p <;> first | exact ⟨v, e, q⟩ | cases g
  | .only => (ok_Rule_own_names T).to (h_Only_own_names T) fun vs H Q E ⟨v, p, e, h, g, q⟩ => by
    cases p <;> first | exact ⟨v, e, q⟩ | cases g
  | .after => (ok_Rule_own_names T).to (h_After_own_names T) fun vs H Q E ⟨v, p, e, h, g, q⟩ => by
    cases p <;> first | exact ⟨v, e, q⟩ | cases g
  | .fee => (ok_Rule_own_names T).to (h_Fee_own_names T) fun vs H Q E ⟨v, p, e, h, g, q⟩ => by
    cases p <;> first | exact ⟨v, e, q⟩ | cases g
/-! ### method calls -/
def tEx {ι : Type} (t : ι → TE) : TE := fun σ H Q => ∃ i, t i σ H Q
theorem pe_any {X : Cx} {ι : Type} {e : Expr} {t : ι → TE} (h : ∀ i, PE X e (t i)) : PE X e (tEx t) := PE.ex h
theorem i_ex {ι : Type} {t : ι → TE} {σ : L2.St} {H : Hp} {Q : VK} (i : ι) (h : t i σ H Q) : tEx t σ H Q := ⟨i, h⟩
section
variable {X : Cx} {CX : CXT} {k j : Nat} {C m : Str} {ps : List Str} {sp : Sp} {E : XK} {o e : Expr} {es : List Expr} {ta : TE} {t : TA} {pos apos : Pos} {pl : Sem Bool}
theorem pe_me (F : OkM P w K mg base CX j C m ps sp) (c : Cls K (He.ga K C)) (hm : Meth K (He.ga K C) m (He.ma K (He.ga K C) m)) (hr : Room k X.A) (hx : Passes CX X E) (he : PE X o ta) (ha : PA X (e :: es) t) (hj : j ≤ k := by omega)
    (hP : X.prog = P := by rfl) (hw : X.w = w := by rfl) (hK : X.K = K := by rfl) (hmg : X.mg = mg := by rfl) (hb : X.base = base := by rfl)
    (hst : starEach (e :: es) X.env = (false, eval e X.env) :: starEach es X.env := by rfl) (hpl : (backTo pos (starEach es X.env)).any (·.1) = false := by rfl)
    (ht : eval (.Call (.Attribute o m apos) (e :: es) [] pos) X.env = (do
      let ov ← eval o X.env
      standAt apos.atName
      let (f, first) ← holding [ov] (getMethod ov m pl)
      callWith pos f first (backTo pos (starEach (e :: es) X.env)) (backToKw pos (keywordEach [] X.env))) := by rfl) : PE X (.Call (.Attribute o m apos) (e :: es) [] pos) (tMeth (He.ga K C) m sp [] E ta t) := by
  obtain ⟨fd, F, b⟩ := F
  subst hP
  subst hw
  subst hK
  subst hmg
  subst hb
  exact pe_meth he c hm F (hr.mono hj) b .nil hx ha hst hpl ht
theorem pe_me0 (F : OkM P w K mg base CX j C m ps sp) (c : Cls K (He.ga K C)) (hm : Meth K (He.ga K C) m (He.ma K (He.ga K C) m)) (hr : Room k X.A) (hx : Passes CX X E) (he : PE X o ta) (_ : PA X [] tNil) (hj : j ≤ k := by omega)
    (hP : X.prog = P := by rfl) (hw : X.w = w := by rfl) (hK : X.K = K := by rfl) (hmg : X.mg = mg := by rfl) (hb : X.base = base := by rfl)
    (ht : eval (.Call (.Attribute o m apos) [] [] pos) X.env = (do
      let ov ← eval o X.env
      standAt apos.atName
      let (f, first) ← holding [ov] (getMethod ov m pl)
      callWith pos f first (backTo pos (starEach [] X.env)) (backToKw pos (keywordEach [] X.env))) := by rfl) : PE X (.Call (.Attribute o m apos) [] [] pos) (tMeth (He.ga K C) m sp [] E ta tNil) := by
  obtain ⟨fd, F, b⟩ := F
  subst hP
  subst hw
  subst hK
  subst hmg
  subst hb
  exact pe_meth0 he c hm F (hr.mono hj) b .nil hx ht
end
section
variable {σ : L2.St} {H : Hp} {Q : VK} {ta : TE} {t : TA} {C a dx : Addr} {m : Str} {sp : Sp} {E : XK} {fs : List (Str × V)} {A : Prop}
def atM (C : Addr) (m : Str) (x : V) (H1 : Hp) (A : Prop) : Prop := ∃ a dx fs, x = .ref a ∧ H1 a = some (.ins C dx fs) ∧ fs.lookup m = none ∧ A
theorem i_meth (h : ta σ H fun x H1 => atM C m x H1 (t σ H1 fun vs H2 => sp (x :: vs) H2 Q E)) : tMeth C m sp [] E ta t σ H Q := by
  have e : (fun (x : V) (H1 : Hp) => ∃ a dx fs, x = .ref a ∧ H1 a = some (.ins C dx fs) ∧ fs.lookup m = none ∧ t σ H1 fun vs H2 => sp (x :: (vs ++ [])) H2 Q E) = fun x H1 => atM C m x H1 (t σ H1 fun vs H2 => sp (x :: vs) H2 Q E) := by
    funext x H1
    have : (fun vs H2 => sp (x :: (vs ++ [])) H2 Q E) = fun vs H2 => sp (x :: vs) H2 Q E := by
      funext vs H2
      rw [List.append_nil]
    show (∃ a dx fs, x = .ref a ∧ H1 a = some (.ins C dx fs) ∧ fs.lookup m = none ∧ t σ H1 fun vs H2 => sp (x :: (vs ++ [])) H2 Q E) = _
    rw [this]
    rfl
  show ta σ H fun x H1 => ∃ a dx fs, x = .ref a ∧ H1 a = some (.ins C dx fs) ∧ fs.lookup m = none ∧ t σ H1 fun vs H2 => sp (x :: (vs ++ [])) H2 Q E
  rw [e]
  exact h
theorem i_atM (h : H a = some (.ins C dx fs)) (l : fs.lookup m = none) (q : A) : atM C m (.ref a) H A := ⟨a, dx, fs, rfl, h, l, q⟩
end
/-- a known object: through what has changed since -/
local macro_rules | `(tactic| walk_at "oh hp") => `(tactic| first | assumption | exact upd_same | (refine get_new (by assumption) ?_; walk_at "oh hp") | (refine get_mut (by assumption) ?_ (by intro z; cases z); walk_at "oh hp") | (refine same_get (by assumption) ?_; walk_at "oh hp") | (refine ts_get (by assumption) ?_; walk_at "oh hp") | (refine same_get (LL.sm (by assumption)) ?_; walk_at "oh hp") | exact LL.at_ (by assumption))
local macro_rules | `(tactic| walk_at "oh sc") => `(tactic| exact ⟨rfl, rfl, rfl, by decide +kernel, rfl, by decide +kernel, by decide +kernel⟩)
/-- one step of a reading -/
local macro_rules | `(tactic| walk_at "oh 1") => `(tactic| with_reducible first
  | refine i_var rfl ?_ | refine i_c ?_ | refine i_op ?_ | refine i_I0 ?_ | refine i_cons ?_ | refine i_nil ?_ | refine i_asg ?_ | refine i_name ?_ | refine i_seq ?_ | refine i_ifS ?_ | refine i_test ?_ | refine i_bl ?_ | refine i_call ?_ | refine i_CB ?_
  | refine i_tup ?_ | refine i_lst ?_ | refine i_eqI ?_ | refine i_eqS ?_ | refine i_neI ?_ | refine i_un ?_ | refine i_U ?_ | refine i_ret ?_ | refine i_retN ?_ | refine i_next ?_ | refine i_cont ?_ | refine i_drop ?_ | refine i_B ?_ | refine i_and ?_ | refine i_or ?_ | refine i_not ?_ | refine i_mn ?_ | refine i_mx ?_ | refine i_isN ?_ | refine i_notN ?_ | refine i_bm ?_ | refine i_bm0 ?_ | refine i_rn ?_ | refine i_nn ?_ | refine i_rn' ?_ | refine i_nn' ?_ | refine i_gcons ?_ | refine i_gnil ?_ | refine i_orV ?_ | refine i_andV ?_ | refine i_notV ?_ | refine i_chain ?_ | refine i_forL ?_ | refine i_iL ?_ | refine i_iT ?_ | refine i_lc ?_ | refine i_yes ?_ | refine i_sortS ?_ | refine i_lenS ?_ | refine i_slL ?_ | refine i_noP ?_ | refine i_part ?_ | refine i_fld ?_ | refine i_sFld ?_ | refine i_dget ?_ | refine i_meth ?_ | refine i_aug rfl ?_ | refine i_ip ?_ | refine iteT ?_ | refine iteF ?_ | refine i_nT ?_ | refine i_nF ?_)
local macro_rules | `(tactic| walk_at "oh 2") => `(tactic| first | ((with_reducible refine' i_atF ?h ?c ?n ?l ?q); (case h => walk_at "oh hp"); (case c => assumption); (case n => assumption); (case l => rfl)) | ((with_reducible refine' i_ixT ?h ?e ?q); (case h => walk_at "oh hp"); (case e => rfl)) | ((with_reducible refine' i_gtup ?h ?e ?q); (case h => walk_at "oh hp"); (case e => rfl)) | ((with_reducible refine' i_atL ?h ?q); (case h => walk_at "oh hp")) | ((with_reducible refine' i_atT ?h ?q); (case h => walk_at "oh hp")) | ((with_reducible refine' i_tyL ?h ?q); (case h => walk_at "oh hp")) | ((with_reducible refine' i_lnL ?h ?q); (case h => walk_at "oh hp")) | ((with_reducible refine' i_lnT ?h ?q); (case h => walk_at "oh hp")))
local macro_rules | `(tactic| walk_at "oh go") => `(tactic| repeat first | walk_at "oh 1" | walk_at "oh 2")
theorem i_nint {A B : Prop} {i : Int} (h : A) : if (!decide (V.int i = V.non)) = true then A else B := by
  rw [decide_eq_false (by intro z; cases z)]
  exact iteT h
def dep : Plan Str → Nat
  | .plus a b => max (dep a) (dep b) + 1
  | .cheap a b => max (dep a) (dep b) + 1
  | .dear a b => max (dep a) (dep b) + 1
  | .only a _ _ => dep a + 1
  | .after a _ => dep a + 1
  | .fee a _ => dep a + 1
  | _ => 0
theorem dep_sub {p q : Plan Str} (h : q ∈ subs p) : dep q < dep p := by
  have two : ∀ {a b : Plan Str}, q ∈ [a, b] → dep q < max (dep a) (dep b) + 1 := fun h => by
    rcases List.mem_cons.mp h with rfl | h
    · omega
    · rw [List.mem_singleton.mp h]
      omega
  have one : ∀ {a : Plan Str}, q ∈ [a] → dep q < dep a + 1 := fun h => by
    rw [List.mem_singleton.mp h]
    omega
  cases p with
  | plus a b => exact two h
  | cheap a b => exact two h
  | dear a b => exact two h
  | only a _ _ => exact one h
  | after a _ => exact one h
  | fee a _ => exact one h
  | _ => cases h
def sp_made (K : PySem.W.Frag) (n : Nat) : Sp := fun vs H Q E => ∃ (v : V) (p : Plan Str) (d : Addr) (kvs : List (Key × V)), vs = [v, .ref d, .int 60] ∧ RuleV K H p v ∧ PlanIn p ∧ dep p < n ∧ H d = some (.dK kvs) ∧ Knows H kvs p ∧
  (∀ f, fm p = some f → Ret H Q FormV f) ∧ (fm p = none → ∀ H', Same H H' → E (.ref (He.ga K "TooMany")) none H')
theorem sc_Rule_made : FnScope ["self", "forms", "most", "told", "rule"] ["self", "forms", "most"] (defScope s_Rule_made) := by walk_at "oh sc"
theorem ok_made (T : Pg K mg) : ∀ n, OkM P w K mg base (L2.CX P w) (8 + n) "Rule" "made" ["self", "forms", "most"] (sp_made K n) := by
  intro n
  induction n with
  | zero =>
    obtain ⟨fd, F⟩ := F_Rule_made T
    exact ⟨fd, ⟨fun vs H Q E ⟨_, _, _, _, _, _, _, h, _⟩ => absurd h (Nat.not_lt_zero _), fun A outer s H args us vs Q E _ _ _ _ ⟨_, _, _, _, _, _, _, h, _⟩ => absurd h (Nat.not_lt_zero _)⟩, F.binds fun _ _ _ _ _ _ us hl => (match us, hl with | [_, _, _], _ => rfl)⟩
  | succ n ih =>
    have Fm : ∀ k : Kd, OkM P w K mg base (L2.CX P w) (8 + n) (cn k) "made" ["self", "forms", "most"] (sp_made K n) := fun k => ih.to (ha_made T k) (fun _ _ _ _ h => h)
    obtain ⟨fd, F⟩ := F_Rule_made T
    refine ⟨fd, F.okX sc_Rule_made (fun vs H Q E h => ?_) (fun cdv A outer s H vs Q E hr h => ?_), F.binds fun _ _ _ _ _ _ us hl => (match us, hl with | [_, _, _], _ => rfl)⟩
    · obtain ⟨v, p, d, kvs, rfl, _⟩ := h
      rfl
    obtain ⟨v, p, d, kvs, rfl, hR, A, hn, hd, hN, q1, q2⟩ := h
    change Room (8 + n) _ at hr
    have hu := hu_of hr
    refine ⟨_, pss_cons (ps_set (i := 3) sc_Rule_made.nd rfl (Or.inl rfl) (pe_any fun k : Kd => pe_me (E := E0) (ok_drawn T k) (c_kd T k) (mt_drawn T k) hr pass0 (pv 0) (pa_cons (pv 1) (pa_cons (pe_lcX (own := [("rule", 4)]) (g := gName 4) (takes_of rfl rfl rfl rfl) (fun _ _ _ _ h => h) rfl rfl rfl sc_Rule_made.nd (pi_list (pe_any fun k : Kd => pe_me0 (E := E0) (ok_inner T k) (c_kd T k) (mt_inner T k) hr pass0 (pv 0) pa_nil)) (blkOk_by (own := [("rule", 4)]) (N := ["self", "forms", "most", "told", "rule"]) (sc := defScope s_Rule_made) (by decide +kernel)) (fun _ _ _ _ _ => pg_name (i := 4) sc_Rule_made.nd rfl (Or.inl rfl))  (fun _ _ _ _ _ => (pe_any fun k : Kd => pe_me (Fm k) (c_kd T k) (mt_made T k) hr pass_E (pv 4) (pa_cons (pv 1) (pa_cons (pv 2) pa_nil))))) pa_nil))))
      (pss_cons (ps_if (PW.pt (pw_and (pt_cmpR op_notN1 (pv 2) pe_non (nomark _)) (pw_and1 (pt_cmpR op_gt (pe_callB cr_ln (by rfl) (z_len T) PySem.boot_len (pa_cons (pv 3) pa_nil)) (pv 2) (nomark _)))))
      (pss_one (ps_raise rfl (takes_of rfl rfl rfl rfl) (pmk_own PySem.F.excBase_ValueError (e_TooMany T).1 (g_TooMany T) (e_TooMany T).2.1 (raises_own (e_TooMany T).2.2.1 (e_TooMany T).2.2.2) rfl)))
      pss_nil)
      (pss_one (ps_ret (pv 3)))), ?_⟩
    obtain ⟨a, dx, fs0, rfl, ha, nm⟩ := hR.obj
    walk_at "oh go"
    refine i_ex (kd p) ?_
    walk_at "oh go"
    refine i_atM ha nm.2.2.2.2.1 ?_
    walk_at "oh go"
    refine i_ex (kd p) ?_
    walk_at "oh go"
    refine i_atM ha nm.2.2.1 ?_
    walk_at "oh go"
    refine ⟨_, p, H, rfl, Same.refl _, hR, rfl, fun l1 vs1 H1 n1 s1 h1 i1 => ?_⟩
    walk_at "oh go"
    intro D hD
    have i1l := i1.len
    refine lc_list (K := K) (a := l1) (xs := vs1) (fun i H' => ∃ acc fs, LL FormV H1 D H' acc fs ∧ Forms ((subs p).take i) fs) ⟨[], [], LL.new (Same.refl _) hD, .nil⟩ (fun i H' _ ⟨acc, fs, X, _⟩ => SqL.of (X.sm _ _ h1)) ?_ ?_
    · rintro i x H' ex ⟨acc, fs, X, hF⟩
      obtain ⟨y, ey, hy⟩ := i1.get ex
      have my : y ∈ subs p := List.mem_of_getElem? ey
      have sm := s1.trans X.sm
      have hy' : RuleV K H' y x := hy.same (s1.trans X.sm)
      obtain ⟨ay, dy, fy, rfl, hay, nmy⟩ := hy'.obj
      have fl := PySem.Paired.length hF
      rw [List.length_take] at fl
      have few : (subs p).length ≤ 2 := by cases p <;> exact Nat.le_of_ble_eq_true rfl
      walk_at "oh go"
      refine ⟨rfl, ?_⟩
      walk_at "oh go"
      refine i_ex (kd y) ?_
      walk_at "oh go"
      refine i_atM hay nmy.1 ?_
      walk_at "oh go"
      have lt := dep_sub my
      refine ⟨_, y, d, kvs, rfl, hy', A.sub my, by omega, sm _ _ hd, (hN.sub my).same sm, fun f ef v H3 s3 hv => ?_, fun en H3 s3 => q2 (fm_sub my en) H3 (sm.trans s3)⟩
      have X3 := X.step FormV.mono s3
      have l3 := X3.len
      refine ⟨acc, X3.at_, small' (by omega), _, fs ++ [f], X3.push FormV.mono hv, ?_⟩
      rw [List.take_add_one, ey]
      exact PySem.Paired.snoc hF ef
    · rintro H' ⟨acc, fs, X, hF⟩
      have hF' : Forms (subs p) fs := by
        rw [List.take_of_length_le (by omega)] at hF
        exact hF
      have sm := s1.trans X.sm
      walk_at "oh go"
      refine ⟨_, p, d, D, kvs, acc, fs, rfl, ⟨hR.same sm, rfl, A, sm _ _ hd, hN.same sm, X.at_, X.its, hF'⟩, fun r H4 s4 hr4 => ?_⟩
      obtain ⟨t, us, rfl, ht, hus⟩ := hr4
      have e : fm p = chk (raw p fs) := fm_raw hF' fun m q e => by
        subst e
        obtain ⟨f, v, e, _⟩ := hN
        exact ⟨f, e⟩
      have ul := hus.len
      have sm4 := sm.trans s4
      walk_at "oh go"
      refine i_nint ?_
      walk_at "oh go"
      refine i_dec (fun c => ?_) (fun c => ?_)
      · have bad : fm p = none := by
          rw [e]
          unfold chk
          rw [if_neg]
          show ¬ (raw p fs).length ≤ 60
          omega
        exact q2 bad H4 sm4
      · walk_at "oh go"
        refine q1 (raw p fs) ?_ _ _ sm4 ⟨t, us, rfl, ht, hus⟩
        rw [e]
        refine chk_id ?_
        show _ ≤ 60
        omega
end
end OH
set_option Elab.async false
set_option linter.all false
set_option maxRecDepth 100000
set_option maxHeartbeats 4000000
namespace OH
open PySem PySem.Spec PyProof.Rows L2
def allN : Plan Str → List Str
  | .name n _ => [n]
  | .plus a b => allN a ++ allN b
  | .cheap a b => allN a ++ allN b
  | .dear a b => allN a ++ allN b
  | .only a _ _ => allN a
  | .after a _ => allN a
  | .fee a _ => allN a
  | _ => []
theorem allN_eq (p : Plan Str) : allN p = ownNames p ++ (subs p).flatMap allN := by
  cases p <;> simp [allN, ownNames, subs, List.flatMap_cons]
theorem Knows.all {H : Hp} {kvs : List (Key × V)} : ∀ {p : Plan Str}, Knows H kvs p → ∀ z ∈ allN p, (valV kvs (.inr z)).isSome = true := by
  intro p
  induction p with
  | name n q _ =>
    rintro ⟨f, v, _, e, _⟩ z hz
    rw [List.mem_singleton.mp hz, e]
    rfl
  | plus a b ia ib => exact fun ⟨h1, h2⟩ z hz => (List.mem_append.mp hz).elim (ia h1 z) (ib h2 z)
  | cheap a b ia ib => exact fun ⟨h1, h2⟩ z hz => (List.mem_append.mp hz).elim (ia h1 z) (ib h2 z)
  | dear a b ia ib => exact fun ⟨h1, h2⟩ z hz => (List.mem_append.mp hz).elim (ia h1 z) (ib h2 z)
  | only a _ _ ia => exact fun h z hz => ia h z hz
  | after a _ ia => exact fun h z hz => ia h z hz
  | fee a _ ia => exact fun h z hz => ia h z hz
  | _ => exact fun _ z hz => nomatch hz
theorem nodup_le {α : Type} [DecidableEq α] : ∀ {l m : List α}, l.Nodup → (∀ z ∈ l, z ∈ m) → l.length ≤ m.length
  | [], _, _, _ => Nat.zero_le _
  | x :: l, m, nd, h => by
    obtain ⟨n1, n2⟩ := List.nodup_cons.mp nd
    have hx := h x List.mem_cons_self
    have := nodup_le (l := l) (m := m.erase x) n2 fun z hz => (List.mem_erase_of_ne (fun e : z = x => n1 (e ▸ hz))).mpr (h z (List.mem_cons_of_mem _ hz))
    rw [List.length_erase_of_mem hx] at this
    have := List.length_pos_of_mem hx
    rw [List.length_cons]
    omega
def StrV : RepF Str := fun _ v z => v = .str z
theorem StrV.mono : MonoT StrV := fun _ _ _ _ _ h => h
theorem its_strs {H : Hp} : ∀ l : List Str, Its StrV H (l.map V.str) l
  | [] => .nil
  | _ :: r => .cons rfl (its_strs r)
theorem strs_its {H : Hp} : ∀ {vs : List V} {l : List Str}, Its StrV H vs l → vs = l.map V.str
  | _, _, .nil => rfl
  | _, _, .cons a r => by rw [List.map_cons, ← strs_its r, show _ = V.str _ from a]
section
variable {σ : L2.St} {H : Hp} {Q : VK} {ty td : TE} {a : Addr}
def atN (x y : V) (H2 : Hp) (Q : VK) : Prop := ∃ a o, x = .ref a ∧ DGet H2 a y o ∧ Q (.bl (!o.isSome)) H2
theorem i_dnot (h : ty σ H fun y H1 => td σ H1 fun x H2 => atN x y H2 Q) : tDNotIn ty td σ H Q := h
theorem i_atN {kvs : List (Key × V)} {z : Str} (h : H a = some (.dK kvs)) (q : Q (.bl (!(valV kvs (.inr z)).isSome)) H) : atN (.ref a) (.str z) H Q := ⟨a, _, rfl, DGet.k (k := .inr z) h, q⟩
end
section
variable {P : Program} {w : World} {K : PySem.W.Frag} {mg : Str → Option Value} {base : Heap}
/-- a known object: through what has changed since -/
local macro_rules | `(tactic| walk_at "oh hp") => `(tactic| first | assumption | exact upd_same | (refine get_new (by assumption) ?_; walk_at "oh hp") | (refine get_mut (by assumption) ?_ (by intro z; cases z); walk_at "oh hp") | (refine same_get (by assumption) ?_; walk_at "oh hp") | (refine ts_get (by assumption) ?_; walk_at "oh hp") | (refine same_get (LL.sm (by assumption)) ?_; walk_at "oh hp") | exact LL.at_ (by assumption))
local macro_rules | `(tactic| walk_at "oh sc") => `(tactic| exact ⟨rfl, rfl, rfl, by decide +kernel, rfl, by decide +kernel, by decide +kernel⟩)
/-- one step of a reading -/
local macro_rules | `(tactic| walk_at "oh 1") => `(tactic| with_reducible first
  | refine i_var rfl ?_ | refine i_c ?_ | refine i_op ?_ | refine i_I0 ?_ | refine i_cons ?_ | refine i_nil ?_ | refine i_asg ?_ | refine i_name ?_ | refine i_seq ?_ | refine i_ifS ?_ | refine i_test ?_ | refine i_bl ?_ | refine i_call ?_ | refine i_CB ?_
  | refine i_tup ?_ | refine i_lst ?_ | refine i_eqI ?_ | refine i_eqS ?_ | refine i_neI ?_ | refine i_un ?_ | refine i_U ?_ | refine i_ret ?_ | refine i_retN ?_ | refine i_next ?_ | refine i_cont ?_ | refine i_drop ?_ | refine i_B ?_ | refine i_and ?_ | refine i_or ?_ | refine i_not ?_ | refine i_mn ?_ | refine i_mx ?_ | refine i_isN ?_ | refine i_notN ?_ | refine i_bm ?_ | refine i_bm0 ?_ | refine i_rn ?_ | refine i_nn ?_ | refine i_rn' ?_ | refine i_nn' ?_ | refine i_gcons ?_ | refine i_gnil ?_ | refine i_orV ?_ | refine i_andV ?_ | refine i_notV ?_ | refine i_chain ?_ | refine i_forL ?_ | refine i_iL ?_ | refine i_iT ?_ | refine i_lc ?_ | refine i_yes ?_ | refine i_sortS ?_ | refine i_lenS ?_ | refine i_slL ?_ | refine i_noP ?_ | refine i_part ?_ | refine i_fld ?_ | refine i_sFld ?_ | refine i_dget ?_ | refine i_meth ?_ | refine i_dnot ?_ | refine i_aug rfl ?_ | refine i_ip ?_ | refine iteT ?_ | refine iteF ?_ | refine i_nT ?_ | refine i_nF ?_)
local macro_rules | `(tactic| walk_at "oh 2") => `(tactic| first | ((with_reducible refine' i_atF ?h ?c ?n ?l ?q); (case h => walk_at "oh hp"); (case c => assumption); (case n => assumption); (case l => rfl)) | ((with_reducible refine' i_ixT ?h ?e ?q); (case h => walk_at "oh hp"); (case e => rfl)) | ((with_reducible refine' i_gtup ?h ?e ?q); (case h => walk_at "oh hp"); (case e => rfl)) | ((with_reducible refine' i_atL ?h ?q); (case h => walk_at "oh hp")) | ((with_reducible refine' i_atT ?h ?q); (case h => walk_at "oh hp")) | ((with_reducible refine' i_tyL ?h ?q); (case h => walk_at "oh hp")) | ((with_reducible refine' i_lnL ?h ?q); (case h => walk_at "oh hp")) | ((with_reducible refine' i_lnT ?h ?q); (case h => walk_at "oh hp")))
local macro_rules | `(tactic| walk_at "oh go") => `(tactic| repeat first | walk_at "oh 1" | walk_at "oh 2")
abbrev NamesV (H : Hp) (Q : VK) (p : Plan Str) : Prop := ∀ l (ys : List Str) H', H l = none → Same H H' → H' l = some (.lst (ys.map V.str)) → ys.Nodup → (∀ z, z ∈ ys ↔ z ∈ allN p) → Q (.ref l) H'
def sp_names (K : PySem.W.Frag) (n : Nat) : Sp := fun vs H Q E => ∃ (v : V) (p : Plan Str), vs = [v] ∧ RuleV K H p v ∧ dep p < n ∧ (allN p).length ≤ 100 ∧ NamesV H Q p
theorem sc_Rule_names : FnScope ["self", "told", "rule"] ["self"] (defScope s_Rule_names) := by walk_at "oh sc"
theorem ok_names (T : Pg K mg) : ∀ n, OkM P w K mg base CX0 (1 + n) "Rule" "names" ["self"] (sp_names K n) := by
  intro n
  induction n with
  | zero =>
    obtain ⟨fd, F⟩ := F_Rule_names T
    exact ⟨fd, ⟨fun vs H Q E ⟨_, _, _, _, h, _⟩ => absurd h (Nat.not_lt_zero _), fun A outer s H args us vs Q E _ _ _ _ ⟨_, _, _, _, h, _⟩ => absurd h (Nat.not_lt_zero _)⟩, F.binds fun _ _ _ _ _ _ us hl => (match us, hl with | [_], _ => rfl)⟩
  | succ n ih =>
    have Fm : ∀ k : Kd, OkM P w K mg base CX0 (1 + n) (cn k) "names" ["self"] (sp_names K n) := fun k => ih.to (ha_names T k) (fun _ _ _ _ h => h)
    obtain ⟨fd, F⟩ := F_Rule_names T
    refine ⟨fd, F.ok sc_Rule_names (fun vs H Q E h => ?_) (fun cdv A outer s H vs Q E hr h => ?_), F.binds fun _ _ _ _ _ _ us hl => (match us, hl with | [_], _ => rfl)⟩
    · obtain ⟨v, p, rfl, _⟩ := h
      rfl
    obtain ⟨v, p, rfl, hR, hn, hl, q⟩ := h
    change Room (1 + n) _ at hr
    have hu := hu_of hr
    refine ⟨_, pss_cons (ps_set (i := 1) sc_Rule_names.nd rfl (Or.inl rfl) (pe_callTy cr_lo (by rfl) (z_list T) (by decide +kernel) (pa_cons (pe_any fun k : Kd => pe_me0 (E := E0) (ok_own_names T k) (c_kd T k) (mt_own_names T k) hr pass0 (pv 0) pa_nil) pa_nil)))
      (pss_cons (ps_for PassesOwn.never rfl (pi_list (pe_any fun k : Kd => pe_me0 (E := E0) (ok_inner T k) (c_kd T k) (mt_inner T k) hr pass0 (pv 0) pa_nil)) (pg_name (i := 2) sc_Rule_names.nd rfl (Or.inl rfl))
      (pss_one (ps_expr (pe_bm PySem.F.plainAttrs_list PySem.F.slot_list_extend PySem.F.type_list_extend mt_extend (pv 1) (pa_cons (pe_any fun k : Kd => pe_me0 (E := E0) (Fm k) (c_kd T k) (mt_names T k) hr pass0 (pv 2) pa_nil) pa_nil)))))
      (pss_one (ps_ret (pe_sortSetA (kdS P w) rfl rfl rfl (by rfl) (z_sorted T) (by rfl) (z_set T) (pv 1))))), ?_⟩
    obtain ⟨a, dx, fs0, rfl, ha, nm⟩ := hR.obj
    walk_at "oh go"
    refine i_ex (kd p) ?_
    walk_at "oh go"
    refine i_atM ha nm.2.2.2.1 ?_
    walk_at "oh go"
    refine ⟨_, p, rfl, hR, rfl, fun l1 n1 => ?_⟩
    walk_at "oh go"
    refine i_loL upd_same fun t nt => ?_
    have s1 := same_new n1 (.lst ((ownNames p).map V.str))
    have s2 := s1.trans (same_new nt (.lst ((ownNames p).map V.str)))
    have ht0 := s1.free nt
    have X0 : LL StrV H t (upd (upd H l1 (.lst ((ownNames p).map V.str))) t (.lst ((ownNames p).map V.str))) ((ownNames p).map V.str) (ownNames p) := ⟨upd_same, its_strs _, s2, ht0⟩
    generalize upd (upd H l1 (.lst ((ownNames p).map V.str))) t (.lst ((ownNames p).map V.str)) = H2 at X0 s2
    walk_at "oh go"
    refine i_ex (kd p) ?_
    walk_at "oh go"
    refine i_atM (s2 _ _ ha) nm.2.2.1 ?_
    walk_at "oh go"
    refine ⟨_, p, H, rfl, s2, hR, rfl, fun l3 vs3 H3 n3 s3 h3 i3 => ?_⟩
    have X3 := X0.step StrV.mono s3
    have nl3 : l3 ≠ t := (ne_of_none X0.at_ n3).symm
    have hq := allN_eq p
    walk_at "oh go"
    refine for_left i3 (fun r σ H' => ∃ acc L o, σ = [some (.ref a), some (.ref t), o] ∧ LL StrV H t H' acc L ∧ H' l3 = some (.lst vs3) ∧ (∀ z, (z ∈ L ∨ z ∈ r.flatMap allN) ↔ z ∈ allN p) ∧ L.length + (r.flatMap allN).length ≤ 100 ∧ ∀ y ∈ r, y ∈ subs p)
      ⟨_, _, none, rfl, X3, h3, fun z => by rw [hq, List.mem_append], by rw [← List.length_append, ← hq]; exact hl, fun _ h => h⟩ ?_ ?_ ?_
    · rintro r σ H1 ⟨acc, L, o, rfl, X, h1, _⟩
      exact SqL.of h1
    · rintro x y r σ H1 hx ⟨acc, L, o, rfl, X, h1, mem, n, sub⟩
      have hy : RuleV K H1 y x := hx.same X.sm
      have my := sub y List.mem_cons_self
      have lt := dep_sub my
      obtain ⟨ay, dy, fy, rfl, hay, nmy⟩ := hy.obj
      have ll := X.len
      rw [List.flatMap_cons, List.length_append] at n
      walk_at "oh go"
      refine i_ex (kd y) ?_
      walk_at "oh go"
      refine i_atM hay nmy.2.1 ?_
      walk_at "oh go"
      refine ⟨_, y, rfl, hy, by omega, by omega, fun l5 ys H5 n5 s5 h5 nd5 m5 => ?_⟩
      have yl := nodup_le nd5 fun z hz => (m5 z).mp hz
      have X5 := X.step StrV.mono s5
      have nt5 : t ≠ l5 := ne_of_none X.at_ n5
      walk_at "oh go"
      refine i_ext (by walk_at "oh hp") h5 (by rw [List.length_map]; omega) ?_
      walk_at "oh go"
      have X6 := X5.ext StrV.mono (its_strs ys)
      refine ⟨_, _, _, rfl, X6, ?_, fun z => ?_, ?_, fun y' hy' => sub y' (List.mem_cons_of_mem _ hy')⟩
      · rw [upd_ne nl3]
        exact s5 _ _ h1
      · rw [List.mem_append, ← mem z, List.flatMap_cons, List.mem_append, m5 z, or_assoc]
      · rw [List.length_append]
        omega
    · rintro σ H1 ⟨acc, L, o, rfl, X, h1, mem, n, _⟩
      have ae := strs_its X.its
      have ht := X.at_
      rw [ae] at ht
      rw [List.flatMap_nil, List.length_nil] at n
      walk_at "oh go"
      refine ⟨t, L, rfl, SqL.of ht, by omega, fun ys l6 nd m6 _ n6 => ?_⟩
      walk_at "oh go"
      refine q l6 ys _ (X.sm.free n6) (X.sm.trans (same_new n6 _)) upd_same nd fun z => ?_
      rw [m6 z, ← mem z, List.flatMap_nil]
      exact ⟨.inl, fun h => h.elim id fun h => nomatch h⟩
theorem ok_names_k (T : Pg K mg) (n : Nat) (k : Kd) : OkM P w K mg base CX0 (1 + n) (cn k) "names" ["self"] (sp_names K n) := (ok_names T n).to (ha_names T k) fun _ _ _ _ h => h
def sp_Rule_look_at (K : PySem.W.Frag) : Sp := fun vs H Q E => ∃ (v : V) (p : Plan Str) (d : Addr) (kvs : List (Key × V)), vs = [v, .ref d] ∧ RuleV K H p v ∧ dep p < 4 ∧ (allN p).length ≤ 100 ∧ H d = some (.dK kvs) ∧ Knows H kvs p ∧ ∀ H', Same H H' → Q .non H'
/- slots: 0 self, 1 forms, 2 name -/
theorem sc_Rule_look_at : FnScope ["self", "forms", "name"] ["self", "forms"] (defScope s_Rule_look_at) := by walk_at "oh sc"
theorem ok_Rule_look_at (T : Pg K mg) : OkM P w K mg base (L2.CX P w) 6 "Rule" "look_at" ["self", "forms"] (sp_Rule_look_at K) := by
  obtain ⟨fd, F⟩ := F_Rule_look_at T
  refine ⟨fd, F.okX sc_Rule_look_at (fun vs H Q E h => ?_) (fun cdv A outer s H vs Q E hr h => ?_), F.binds fun _ _ _ _ _ _ us hl => (match us, hl with | [_, _], _ => rfl)⟩
  · obtain ⟨v, p, d, kvs, rfl, _⟩ := h
    rfl
  · obtain ⟨v, p, d, kvs, rfl, hR, hn, hl, hd, hN, q⟩ := h
    have hu := hu_of hr
    refine ⟨_, pss_one (ps_for (passes_of rfl) rfl (pi_list (pe_any fun k : Kd => pe_me0 (E := E0) (ok_names_k T 4 k) (c_kd T k) (mt_names T k) hr pass0 (pv 0) pa_nil)) (pg_name (i := 2) sc_Rule_look_at.nd rfl (Or.inl rfl))
      (pss_one (ps_if (pt_cmp (pc_dnotin hu (pv 2) (pv 1)))
        (pss_one (ps_raise rfl (takes_of rfl rfl rfl rfl) (pmk_own PySem.F.excBase_ValueError (e_NoOffer T).1 (g_NoOffer T) (e_NoOffer T).2.1 (raises_own (e_NoOffer T).2.2.1 (e_NoOffer T).2.2.2) rfl)))
        pss_nil))), ?_⟩
    obtain ⟨a, dx, fs0, rfl, ha, nm⟩ := hR.obj
    walk_at "oh go"
    refine i_ex (kd p) ?_
    walk_at "oh go"
    refine i_atM ha nm.2.1 ?_
    walk_at "oh go"
    refine ⟨_, p, rfl, hR, hn, hl, fun l ys H1 n1 s1 h1 nd m => ?_⟩
    walk_at "oh go"
    refine for_left (H0 := H1) (its_strs ys) (fun r σ H' => ∃ o, σ = [some (.ref a), some (.ref d), o] ∧ H' = H1 ∧ ∀ z ∈ r, z ∈ ys) ⟨none, rfl, rfl, fun _ h => h⟩ ?_ ?_ ?_
    · rintro r σ H' ⟨o, rfl, rfl, _⟩
      exact SqL.of h1
    · rintro x z r σ H' hx ⟨o, rfl, rfl, sub⟩
      obtain rfl : x = .str z := hx
      have hz := (m z).mp (sub z List.mem_cons_self)
      walk_at "oh go"
      refine i_atN (s1 _ _ hd) ?_
      rw [hN.all z hz]
      walk_at "oh go"
      exact ⟨_, rfl, rfl, fun y hy => sub y (List.mem_cons_of_mem _ hy)⟩
    · rintro σ H' ⟨o, rfl, rfl, _⟩
      walk_at "oh go"
      exact q _ s1
structure FormOf (K : PySem.W.Frag) (H : Hp) (v : V) (p : Plan Str) (d : Addr) (kvs : List (Key × V)) : Prop where
  rule : RuleV K H p v
  pin : PlanIn p
  dep : dep p < 4
  few : (allN p).length ≤ 100
  dict : H d = some (.dK kvs)
  knows : Knows H kvs p
def sp_Rule_form (K : PySem.W.Frag) : Sp := fun vs H Q E => ∃ (v : V) (p : Plan Str) (d : Addr) (kvs : List (Key × V)), vs = [v, .ref d] ∧ FormOf K H v p d kvs ∧
  (∀ f, fm p = some f → Ret H Q FormV f) ∧ (fm p = none → ∀ H', Same H H' → E (.ref (He.ga K "TooMany")) none H')
theorem ok_look_k (T : Pg K mg) (k : Kd) : OkM P w K mg base (L2.CX P w) 6 (cn k) "look_at" ["self", "forms"] (sp_Rule_look_at K) := (ok_Rule_look_at T).to (ha_look_at T k) fun _ _ _ _ h => h
theorem ok_made_k (T : Pg K mg) (n : Nat) (k : Kd) : OkM P w K mg base (L2.CX P w) (8 + n) (cn k) "made" ["self", "forms", "most"] (sp_made K n) := (ok_made T n).to (ha_made T k) fun _ _ _ _ h => h
/- slots: 0 self, 1 forms -/
theorem sc_Rule_form : FnScope ["self", "forms"] ["self", "forms"] (defScope s_Rule_form) := by walk_at "oh sc"
theorem ok_Rule_form (T : Pg K mg) : OkM P w K mg base (L2.CX P w) 13 "Rule" "form" ["self", "forms"] (sp_Rule_form K) := by
  obtain ⟨fd, F⟩ := F_Rule_form T
  refine ⟨fd, F.okX sc_Rule_form (fun vs H Q E h => ?_) (fun cdv A outer s H vs Q E hr h => ?_), F.binds fun _ _ _ _ _ _ us hl => (match us, hl with | [_, _], _ => rfl)⟩
  · obtain ⟨v, p, d, kvs, rfl, _⟩ := h
    rfl
  · obtain ⟨v, p, d, kvs, rfl, ⟨hR, A, hn, hl, hd, hN⟩, q1, q2⟩ := h
    have hu := hu_of hr
    refine ⟨_, pss_cons (ps_expr (pe_any fun k : Kd => pe_me (ok_look_k T k) (c_kd T k) (mt_look_at T k) hr (passes_call (E := E) (takes_of rfl rfl rfl rfl) fun _ _ _ _ h => h) (pv 0) (pa_cons (pv 1) pa_nil)))
      (pss_one (ps_ret (pe_any fun k : Kd => pe_me (ok_made_k T 4 k) (c_kd T k) (mt_made T k) hr (passes_call (E := E) (takes_of rfl rfl rfl rfl) fun _ _ _ _ h => h) (pv 0) (pa_cons (pv 1) (pa_cons (show PE _ _ (tC (.int 60)) from pe_glob rfl (i_MOST_STRETCHES T).choose_spec ⟨_, rfl⟩) pa_nil))))), ?_⟩
    obtain ⟨a, dx, fs0, rfl, ha, nm⟩ := hR.obj
    walk_at "oh go"
    refine i_ex (kd p) ?_
    walk_at "oh go"
    refine i_atM ha nm.2.2.2.2.2.1 ?_
    walk_at "oh go"
    refine ⟨_, p, d, kvs, rfl, hR, hn, hl, hd, hN, fun H1 s1 => ?_⟩
    walk_at "oh go"
    refine i_ex (kd p) ?_
    walk_at "oh go"
    refine i_atM (s1 _ _ ha) nm.1 ?_
    walk_at "oh go"
    exact ⟨_, p, d, kvs, rfl, hR.same s1, A, hn, s1 _ _ hd, hN.same s1, fun f e v H2 s2 hv => q1 f e v H2 (s1.trans s2) hv, fun e H2 s2 => q2 e H2 (s1.trans s2)⟩
end
end OH
set_option Elab.async false
set_option linter.all false
set_option maxRecDepth 100000
set_option maxHeartbeats 4000000
namespace OH
open PySem PySem.Spec PyProof.Rows L2
section
variable {P : Program} {w : World} {K : PySem.W.Frag} {mg : Str → Option Value} {base : Heap}
/-- a known object: through what has changed since -/
local macro_rules | `(tactic| walk_at "oh hp") => `(tactic| first | assumption | exact upd_same | (refine get_new (by assumption) ?_; walk_at "oh hp") | (refine get_mut (by assumption) ?_ (by intro z; cases z); walk_at "oh hp") | (refine same_get (by assumption) ?_; walk_at "oh hp") | (refine ts_get (by assumption) ?_; walk_at "oh hp") | (refine same_get (LL.sm (by assumption)) ?_; walk_at "oh hp") | exact LL.at_ (by assumption))
local macro_rules | `(tactic| walk_at "oh sc") => `(tactic| exact ⟨rfl, rfl, rfl, by decide +kernel, rfl, by decide +kernel, by decide +kernel⟩)
/-- one step of a reading -/
local macro_rules | `(tactic| walk_at "oh 1") => `(tactic| with_reducible first
  | refine i_var rfl ?_ | refine i_c ?_ | refine i_op ?_ | refine i_I0 ?_ | refine i_cons ?_ | refine i_nil ?_ | refine i_asg ?_ | refine i_name ?_ | refine i_seq ?_ | refine i_ifS ?_ | refine i_test ?_ | refine i_bl ?_ | refine i_call ?_ | refine i_CB ?_
  | refine i_tup ?_ | refine i_lst ?_ | refine i_eqI ?_ | refine i_eqS ?_ | refine i_neI ?_ | refine i_un ?_ | refine i_U ?_ | refine i_ret ?_ | refine i_retN ?_ | refine i_next ?_ | refine i_cont ?_ | refine i_drop ?_ | refine i_B ?_ | refine i_and ?_ | refine i_or ?_ | refine i_not ?_ | refine i_mn ?_ | refine i_mx ?_ | refine i_isN ?_ | refine i_notN ?_ | refine i_bm ?_ | refine i_bm0 ?_ | refine i_rn ?_ | refine i_nn ?_ | refine i_rn' ?_ | refine i_nn' ?_ | refine i_gcons ?_ | refine i_gnil ?_ | refine i_orV ?_ | refine i_andV ?_ | refine i_notV ?_ | refine i_chain ?_ | refine i_forL ?_ | refine i_iL ?_ | refine i_iT ?_ | refine i_lc ?_ | refine i_yes ?_ | refine i_sortS ?_ | refine i_lenS ?_ | refine i_slL ?_ | refine i_noP ?_ | refine i_part ?_ | refine i_fld ?_ | refine i_sFld ?_ | refine i_dget ?_ | refine i_meth ?_ | refine i_dnot ?_ | refine i_aug rfl ?_ | refine i_ip ?_ | refine iteT ?_ | refine iteF ?_ | refine i_nT ?_ | refine i_nF ?_)
local macro_rules | `(tactic| walk_at "oh 2") => `(tactic| first | ((with_reducible refine' i_atP ?h ?c ?n ?l ?q); (case h => walk_at "oh hp"); (case c => assumption); (case n => assumption); (case l => exact Nat.le_of_ble_eq_true rfl)) | ((with_reducible refine' i_atF ?h ?c ?n ?l ?q); (case h => walk_at "oh hp"); (case c => assumption); (case n => assumption); (case l => rfl)) | ((with_reducible refine' i_ixT ?h ?e ?q); (case h => walk_at "oh hp"); (case e => rfl)) | ((with_reducible refine' i_gtup ?h ?e ?q); (case h => walk_at "oh hp"); (case e => rfl)) | ((with_reducible refine' i_atL ?h ?q); (case h => walk_at "oh hp")) | ((with_reducible refine' i_atT ?h ?q); (case h => walk_at "oh hp")) | ((with_reducible refine' i_tyL ?h ?q); (case h => walk_at "oh hp")) | ((with_reducible refine' i_lnL ?h ?q); (case h => walk_at "oh hp")) | ((with_reducible refine' i_lnT ?h ?q); (case h => walk_at "oh hp")))
local macro_rules | `(tactic| walk_at "oh go") => `(tactic| repeat first | walk_at "oh 1" | walk_at "oh 2")
theorem i_sFld' {tv ta : TE} {f : Str} {D : Ends} {σ : L2.St} {H : Hp} (h : tv σ H fun y H1 => ta σ H1 fun x H2 => atP K f y D σ x H2) : sFld K ta tv f D σ H := h
def sp_Each_init (K : PySem.W.Frag) : Sp := fun vs H Q _ => ∃ (x dx : Addr) (v0 v1 v2 : V), vs = [.ref x, v0, v1, v2] ∧ H x = some (.ins (He.ga K "Each") dx []) ∧ Q .non (upd H x (.ins (He.ga K "Each") dx [("unit", v0), ("low", v1), ("high", v2)]))
/- slots: 0 self, 1 unit, 2 low, 3 high -/
theorem sc_Each_init : FnScope ["self", "unit", "low", "high"] ["self", "unit", "low", "high"] (defScope s_Each_init) := by walk_at "oh sc"
theorem ok_Each_init (T : Pg K mg) : OkM P w K mg base CX0 1 "Each" "__init__" ["self", "unit", "low", "high"] (sp_Each_init K) := by
  obtain ⟨fd, F⟩ := F_Each_init T
  refine ⟨fd, F.ok sc_Each_init (fun vs H Q E h => ?_) (fun cdv A outer s H vs Q E hr h => ?_), F.binds fun _ _ _ _ _ _ us hl => (match us, hl with | [_, _, _, _], _ => rfl)⟩
  · obtain ⟨x, dx, v0, v1, v2, rfl, _⟩ := h
    rfl
  · obtain ⟨x, dx, v0, v1, v2, rfl, hx, q⟩ := h
    have hu := hu_of hr
    refine ⟨_, pss_cons (ps_fld (pv 0) (pv 1) rfl)
      (pss_cons (ps_fld (pv 0) (pv 2) rfl)
      (pss_one (ps_fld (pv 0) (pv 3) rfl))), ?_⟩
    have c1 := c_Each T
    have n0 := n_Each_unit T
    have n1 := n_Each_low T
    have n2 := n_Each_high T
    walk_at "oh go"
    rw [upd_upd, upd_upd]
    exact q
def sp_Flat_init (K : PySem.W.Frag) : Sp := fun vs H Q _ => ∃ (x dx : Addr) (v0 v1 v2 : V), vs = [.ref x, v0, v1, v2] ∧ H x = some (.ins (He.ga K "Flat") dx []) ∧ Q .non (upd H x (.ins (He.ga K "Flat") dx [("price", v0), ("low", v1), ("high", v2)]))
/- slots: 0 self, 1 price, 2 low, 3 high -/
theorem sc_Flat_init : FnScope ["self", "price", "low", "high"] ["self", "price", "low", "high"] (defScope s_Flat_init) := by walk_at "oh sc"
theorem ok_Flat_init (T : Pg K mg) : OkM P w K mg base CX0 1 "Flat" "__init__" ["self", "price", "low", "high"] (sp_Flat_init K) := by
  obtain ⟨fd, F⟩ := F_Flat_init T
  refine ⟨fd, F.ok sc_Flat_init (fun vs H Q E h => ?_) (fun cdv A outer s H vs Q E hr h => ?_), F.binds fun _ _ _ _ _ _ us hl => (match us, hl with | [_, _, _, _], _ => rfl)⟩
  · obtain ⟨x, dx, v0, v1, v2, rfl, _⟩ := h
    rfl
  · obtain ⟨x, dx, v0, v1, v2, rfl, hx, q⟩ := h
    have hu := hu_of hr
    refine ⟨_, pss_cons (ps_fld (pv 0) (pv 1) rfl)
      (pss_cons (ps_fld (pv 0) (pv 2) rfl)
      (pss_one (ps_fld (pv 0) (pv 3) rfl))), ?_⟩
    have c1 := c_Flat T
    have n0 := n_Flat_price T
    have n1 := n_Flat_low T
    have n2 := n_Flat_high T
    walk_at "oh go"
    rw [upd_upd, upd_upd]
    exact q
def sp_Blocks_init (K : PySem.W.Frag) : Sp := fun vs H Q _ => ∃ (x dx : Addr) (v0 v1 v2 : V), vs = [.ref x, v0, v1, v2] ∧ H x = some (.ins (He.ga K "Blocks") dx []) ∧ Q .non (upd H x (.ins (He.ga K "Blocks") dx [("size", v0), ("price", v1), ("many", v2)]))
/- slots: 0 self, 1 size, 2 price, 3 many -/
theorem sc_Blocks_init : FnScope ["self", "size", "price", "many"] ["self", "size", "price", "many"] (defScope s_Blocks_init) := by walk_at "oh sc"
theorem ok_Blocks_init (T : Pg K mg) : OkM P w K mg base CX0 1 "Blocks" "__init__" ["self", "size", "price", "many"] (sp_Blocks_init K) := by
  obtain ⟨fd, F⟩ := F_Blocks_init T
  refine ⟨fd, F.ok sc_Blocks_init (fun vs H Q E h => ?_) (fun cdv A outer s H vs Q E hr h => ?_), F.binds fun _ _ _ _ _ _ us hl => (match us, hl with | [_, _, _, _], _ => rfl)⟩
  · obtain ⟨x, dx, v0, v1, v2, rfl, _⟩ := h
    rfl
  · obtain ⟨x, dx, v0, v1, v2, rfl, hx, q⟩ := h
    have hu := hu_of hr
    refine ⟨_, pss_cons (ps_fld (pv 0) (pv 1) rfl)
      (pss_cons (ps_fld (pv 0) (pv 2) rfl)
      (pss_one (ps_fld (pv 0) (pv 3) rfl))), ?_⟩
    have c1 := c_Blocks T
    have n0 := n_Blocks_size T
    have n1 := n_Blocks_price T
    have n2 := n_Blocks_many T
    walk_at "oh go"
    rw [upd_upd, upd_upd]
    exact q
def sp_Named_init (K : PySem.W.Frag) : Sp := fun vs H Q _ => ∃ (x dx : Addr) (v0 : V), vs = [.ref x, v0] ∧ H x = some (.ins (He.ga K "Named") dx []) ∧ Q .non (upd H x (.ins (He.ga K "Named") dx [("name", v0)]))
/- slots: 0 self, 1 name -/
theorem sc_Named_init : FnScope ["self", "name"] ["self", "name"] (defScope s_Named_init) := by walk_at "oh sc"
theorem ok_Named_init (T : Pg K mg) : OkM P w K mg base CX0 1 "Named" "__init__" ["self", "name"] (sp_Named_init K) := by
  obtain ⟨fd, F⟩ := F_Named_init T
  refine ⟨fd, F.ok sc_Named_init (fun vs H Q E h => ?_) (fun cdv A outer s H vs Q E hr h => ?_), F.binds fun _ _ _ _ _ _ us hl => (match us, hl with | [_, _], _ => rfl)⟩
  · obtain ⟨x, dx, v0, rfl, _⟩ := h
    rfl
  · obtain ⟨x, dx, v0, rfl, hx, q⟩ := h
    have hu := hu_of hr
    refine ⟨_, pss_one (ps_fld (pv 0) (pv 1) rfl), ?_⟩
    have c1 := c_Named T
    have n0 := n_Named_name T
    walk_at "oh go"
    exact q
def sp_Only_init (K : PySem.W.Frag) : Sp := fun vs H Q _ => ∃ (x dx : Addr) (v0 v1 v2 : V), vs = [.ref x, v0, v1, v2] ∧ H x = some (.ins (He.ga K "Only") dx []) ∧ Q .non (upd H x (.ins (He.ga K "Only") dx [("one", v0), ("low", v1), ("high", v2)]))
/- slots: 0 self, 1 one, 2 low, 3 high -/
theorem sc_Only_init : FnScope ["self", "one", "low", "high"] ["self", "one", "low", "high"] (defScope s_Only_init) := by walk_at "oh sc"
theorem ok_Only_init (T : Pg K mg) : OkM P w K mg base CX0 1 "Only" "__init__" ["self", "one", "low", "high"] (sp_Only_init K) := by
  obtain ⟨fd, F⟩ := F_Only_init T
  refine ⟨fd, F.ok sc_Only_init (fun vs H Q E h => ?_) (fun cdv A outer s H vs Q E hr h => ?_), F.binds fun _ _ _ _ _ _ us hl => (match us, hl with | [_, _, _, _], _ => rfl)⟩
  · obtain ⟨x, dx, v0, v1, v2, rfl, _⟩ := h
    rfl
  · obtain ⟨x, dx, v0, v1, v2, rfl, hx, q⟩ := h
    have hu := hu_of hr
    refine ⟨_, pss_cons (ps_fld (pv 0) (pv 1) rfl)
      (pss_cons (ps_fld (pv 0) (pv 2) rfl)
      (pss_one (ps_fld (pv 0) (pv 3) rfl))), ?_⟩
    have c1 := c_Only T
    have n0 := n_Only_one T
    have n1 := n_Only_low T
    have n2 := n_Only_high T
    walk_at "oh go"
    rw [upd_upd, upd_upd]
    exact q
def sp_After_init (K : PySem.W.Frag) : Sp := fun vs H Q _ => ∃ (x dx : Addr) (v0 v1 : V), vs = [.ref x, v0, v1] ∧ H x = some (.ins (He.ga K "After") dx []) ∧ Q .non (upd H x (.ins (He.ga K "After") dx [("one", v0), ("count", v1)]))
/- slots: 0 self, 1 one, 2 count -/
theorem sc_After_init : FnScope ["self", "one", "count"] ["self", "one", "count"] (defScope s_After_init) := by walk_at "oh sc"
theorem ok_After_init (T : Pg K mg) : OkM P w K mg base CX0 1 "After" "__init__" ["self", "one", "count"] (sp_After_init K) := by
  obtain ⟨fd, F⟩ := F_After_init T
  refine ⟨fd, F.ok sc_After_init (fun vs H Q E h => ?_) (fun cdv A outer s H vs Q E hr h => ?_), F.binds fun _ _ _ _ _ _ us hl => (match us, hl with | [_, _, _], _ => rfl)⟩
  · obtain ⟨x, dx, v0, v1, rfl, _⟩ := h
    rfl
  · obtain ⟨x, dx, v0, v1, rfl, hx, q⟩ := h
    have hu := hu_of hr
    refine ⟨_, pss_cons (ps_fld (pv 0) (pv 1) rfl)
      (pss_one (ps_fld (pv 0) (pv 2) rfl)), ?_⟩
    have c1 := c_After T
    have n0 := n_After_one T
    have n1 := n_After_count T
    walk_at "oh go"
    rw [upd_upd]
    exact q
def sp_Fee_init (K : PySem.W.Frag) : Sp := fun vs H Q _ => ∃ (x dx : Addr) (v0 v1 : V), vs = [.ref x, v0, v1] ∧ H x = some (.ins (He.ga K "Fee") dx []) ∧ Q .non (upd H x (.ins (He.ga K "Fee") dx [("one", v0), ("price", v1)]))
/- slots: 0 self, 1 one, 2 price -/
theorem sc_Fee_init : FnScope ["self", "one", "price"] ["self", "one", "price"] (defScope s_Fee_init) := by walk_at "oh sc"
theorem ok_Fee_init (T : Pg K mg) : OkM P w K mg base CX0 1 "Fee" "__init__" ["self", "one", "price"] (sp_Fee_init K) := by
  obtain ⟨fd, F⟩ := F_Fee_init T
  refine ⟨fd, F.ok sc_Fee_init (fun vs H Q E h => ?_) (fun cdv A outer s H vs Q E hr h => ?_), F.binds fun _ _ _ _ _ _ us hl => (match us, hl with | [_, _, _], _ => rfl)⟩
  · obtain ⟨x, dx, v0, v1, rfl, _⟩ := h
    rfl
  · obtain ⟨x, dx, v0, v1, rfl, hx, q⟩ := h
    have hu := hu_of hr
    refine ⟨_, pss_cons (ps_fld (pv 0) (pv 1) rfl)
      (pss_one (ps_fld (pv 0) (pv 2) rfl)), ?_⟩
    have c1 := c_Fee T
    have n0 := n_Fee_one T
    have n1 := n_Fee_price T
    walk_at "oh go"
    rw [upd_upd]
    exact q
def sp_Pair_init (K : PySem.W.Frag) : Sp := fun vs H Q _ => ∃ (x C dx : Addr) (v0 v1 : V), vs = [.ref x, v0, v1] ∧ Cls K C ∧ NoAttr K C "one" ∧ NoAttr K C "other" ∧ H x = some (.ins C dx []) ∧ Q .non (upd H x (.ins C dx [("one", v0), ("other", v1)]))
/- slots: 0 self, 1 one, 2 other -/
theorem sc_Pair_init : FnScope ["self", "one", "other"] ["self", "one", "other"] (defScope s_Pair_init) := by walk_at "oh sc"
theorem ok_Pair_init (T : Pg K mg) : OkM P w K mg base CX0 1 "Pair" "__init__" ["self", "one", "other"] (sp_Pair_init K) := by
  obtain ⟨fd, F⟩ := F_Pair_init T
  refine ⟨fd, F.ok sc_Pair_init (fun vs H Q E h => ?_) (fun cdv A outer s H vs Q E hr h => ?_), F.binds fun _ _ _ _ _ _ us hl => (match us, hl with | [_, _, _], _ => rfl)⟩
  · obtain ⟨x, C, dx, v0, v1, rfl, _⟩ := h
    rfl
  · obtain ⟨x, C, dx, v0, v1, rfl, c1, n0, n1, hx, q⟩ := h
    have hu := hu_of hr
    refine ⟨_, pss_cons (ps_fld (pv 0) (pv 1) rfl)
      (pss_one (ps_fld (pv 0) (pv 2) rfl)), ?_⟩
    walk_at "oh go"
    rw [upd_upd]
    exact q
def sp_Bands_init (K : PySem.W.Frag) : Sp := fun vs H Q _ => ∃ (x dx l : Addr) (xs : List V), vs = [.ref x, .ref l] ∧ H x = some (.ins (He.ga K "Bands") dx []) ∧ H l = some (.lst xs) ∧ ∀ k, H k = none → Q .non (upd (upd H k (.lst xs)) x (.ins (He.ga K "Bands") dx [("rows", .ref k)]))
/- slots: 0 self, 1 rows -/
theorem sc_Bands_init : FnScope ["self", "rows"] ["self", "rows"] (defScope s_Bands_init) := by walk_at "oh sc"
theorem ok_Bands_init (T : Pg K mg) : OkM P w K mg base CX0 1 "Bands" "__init__" ["self", "rows"] (sp_Bands_init K) := by
  obtain ⟨fd, F⟩ := F_Bands_init T
  refine ⟨fd, F.ok sc_Bands_init (fun vs H Q E h => ?_) (fun cdv A outer s H vs Q E hr h => ?_), F.binds fun _ _ _ _ _ _ us hl => (match us, hl with | [_, _], _ => rfl)⟩
  · obtain ⟨x, dx, l, xs, rfl, _⟩ := h
    rfl
  · obtain ⟨x, dx, l, xs, rfl, hx, hl, q⟩ := h
    have hu := hu_of hr
    refine ⟨_, pss_one (ps_fld (pv 0) (pe_callTy cr_lo (by rfl) (z_list T) (by decide +kernel) (pa_cons (pv 1) pa_nil)) rfl), ?_⟩
    have c1 := c_Bands T
    have n0 := n_Bands_rows T
    walk_at "oh go"
    refine i_loL (by walk_at "oh hp") fun k nk => ?_
    walk_at "oh go"
    exact q k nk
def sp_Steps_init (K : PySem.W.Frag) : Sp := fun vs H Q _ => ∃ (x dx l : Addr) (xs : List V), vs = [.ref x, .ref l] ∧ H x = some (.ins (He.ga K "Steps") dx []) ∧ H l = some (.lst xs) ∧ ∀ k, H k = none → Q .non (upd (upd H k (.lst xs)) x (.ins (He.ga K "Steps") dx [("rows", .ref k)]))
/- slots: 0 self, 1 rows -/
theorem sc_Steps_init : FnScope ["self", "rows"] ["self", "rows"] (defScope s_Steps_init) := by walk_at "oh sc"
theorem ok_Steps_init (T : Pg K mg) : OkM P w K mg base CX0 1 "Steps" "__init__" ["self", "rows"] (sp_Steps_init K) := by
  obtain ⟨fd, F⟩ := F_Steps_init T
  refine ⟨fd, F.ok sc_Steps_init (fun vs H Q E h => ?_) (fun cdv A outer s H vs Q E hr h => ?_), F.binds fun _ _ _ _ _ _ us hl => (match us, hl with | [_, _], _ => rfl)⟩
  · obtain ⟨x, dx, l, xs, rfl, _⟩ := h
    rfl
  · obtain ⟨x, dx, l, xs, rfl, hx, hl, q⟩ := h
    have hu := hu_of hr
    refine ⟨_, pss_one (ps_fld (pv 0) (pe_callTy cr_lo (by rfl) (z_list T) (by decide +kernel) (pa_cons (pv 1) pa_nil)) rfl), ?_⟩
    have c1 := c_Steps T
    have n0 := n_Steps_rows T
    walk_at "oh go"
    refine i_loL (by walk_at "oh hp") fun k nk => ?_
    walk_at "oh go"
    exact q k nk
end
end OH
set_option Elab.async false
set_option linter.all false
set_option maxRecDepth 100000
set_option maxHeartbeats 4000000
namespace OH
open PySem PySem.Spec PyProof.Rows L2
abbrev Bk := List (Str × Plan Str)
/-- the names that stand in a plan, each with what it means -/
def dirs : Plan Str → Bk
  | .name n q => [(n, q)]
  | .plus a b => dirs a ++ dirs b
  | .cheap a b => dirs a ++ dirs b
  | .dear a b => dirs a ++ dirs b
  | .only a _ _ => dirs a
  | .after a _ => dirs a
  | .fee a _ => dirs a
  | _ => []
theorem allN_dirs : ∀ p : Plan Str, allN p = (dirs p).map (·.1) := by
  intro p
  induction p with
  | plus a b ia ib => simp [allN, dirs, ia, ib]
  | cheap a b ia ib => simp [allN, dirs, ia, ib]
  | dear a b ia ib => simp [allN, dirs, ia, ib]
  | only a _ _ ia => simp [allN, dirs, ia]
  | after a _ ia => simp [allN, dirs, ia]
  | fee a _ ia => simp [allN, dirs, ia]
  | _ => rfl
/-- how deep names stand in names -/
def nd : Plan Str → Nat
  | .name _ q => nd q + 1
  | .plus a b => max (nd a) (nd b)
  | .cheap a b => max (nd a) (nd b)
  | .dear a b => max (nd a) (nd b)
  | .only a _ _ => nd a
  | .after a _ => nd a
  | .fee a _ => nd a
  | _ => 0
theorem nd_two {a b : Plan Str} {o : Str × Plan Str} (h : o ∈ dirs a ∨ o ∈ dirs b) (ia : ∀ {o}, o ∈ dirs a → nd o.2 < nd a) (ib : ∀ {o}, o ∈ dirs b → nd o.2 < nd b) : nd o.2 < max (nd a) (nd b) := by
  rcases h with h | h
  · have := ia h
    omega
  · have := ib h
    omega
theorem dirs_nd : ∀ {p : Plan Str} {o : Str × Plan Str}, o ∈ dirs p → nd o.2 < nd p := by
  intro p
  induction p with
  | name n q _ => intro o h; rw [List.mem_singleton.mp h]; exact Nat.lt_succ_self _
  | plus a b ia ib => exact fun h => nd_two (List.mem_append.mp h) ia ib
  | cheap a b ia ib => exact fun h => nd_two (List.mem_append.mp h) ia ib
  | dear a b ia ib => exact fun h => nd_two (List.mem_append.mp h) ia ib
  | only a _ _ ia => exact fun h => ia h
  | after a _ ia => exact fun h => ia h
  | fee a _ ia => exact fun h => ia h
  | _ => intro o h; cases h
theorem fm_dir : ∀ {p : Plan Str} {o : Str × Plan Str}, o ∈ dirs p → fm o.2 = none → fm p = none := by
  intro p
  induction p with
  | name n q _ => intro o h e; rw [List.mem_singleton.mp h] at e; exact e
  | plus a b ia ib => exact fun {o} h e => (List.mem_append.mp h).elim (fun h => fm_sub (p := .plus a b) (q := a) List.mem_cons_self (ia h e)) fun h => fm_sub (p := .plus a b) (q := b) (List.mem_cons_of_mem _ List.mem_cons_self) (ib h e)
  | cheap a b ia ib => exact fun {o} h e => (List.mem_append.mp h).elim (fun h => fm_sub (p := .cheap a b) (q := a) List.mem_cons_self (ia h e)) fun h => fm_sub (p := .cheap a b) (q := b) (List.mem_cons_of_mem _ List.mem_cons_self) (ib h e)
  | dear a b ia ib => exact fun {o} h e => (List.mem_append.mp h).elim (fun h => fm_sub (p := .dear a b) (q := a) List.mem_cons_self (ia h e)) fun h => fm_sub (p := .dear a b) (q := b) (List.mem_cons_of_mem _ List.mem_cons_self) (ib h e)
  | only a lo hi ia => exact fun h e => fm_sub (p := .only a lo hi) (q := a) List.mem_cons_self (ia h e)
  | after a c ia => exact fun h e => fm_sub (p := .after a c) (q := a) List.mem_cons_self (ia h e)
  | fee a c ia => exact fun h e => fm_sub (p := .fee a c) (q := a) List.mem_cons_self (ia h e)
  | _ => intro o h; cases h
/-- a book's offers -/
structure BookIn (B : Bk) : Prop where
  nodup : (B.map (·.1)).Nodup
  few : B.length ≤ 4
  pin : ∀ o ∈ B, PlanIn o.2
  dep : ∀ o ∈ B, dep o.2 < 4
  names : ∀ o ∈ B, (allN o.2).length ≤ 100
  res : ∀ o ∈ B, ∀ d ∈ dirs o.2, d ∈ B
  nd : ∀ o ∈ B, nd o.2 < 5
theorem lookup_mem : ∀ {B : Bk} {n : Str} {p : Plan Str}, B.lookup n = some p → (n, p) ∈ B
  | (m, q) :: B, n, p, h => by
    rw [List.lookup_cons] at h
    cases c : n == m with
    | true =>
      rw [c] at h
      rw [eq_of_beq c, ← Option.some.inj h]
      exact List.mem_cons_self
    | false =>
      rw [c] at h
      exact List.mem_cons_of_mem _ (lookup_mem h)
theorem mem_lookup : ∀ {B : Bk} {n : Str} {p : Plan Str}, (B.map (·.1)).Nodup → (n, p) ∈ B → B.lookup n = some p
  | (m, q) :: B, n, p, nd, h => by
    obtain ⟨n1, n2⟩ := List.nodup_cons.mp nd
    rw [List.lookup_cons]
    rcases List.mem_cons.mp h with e | h
    · cases e
      rw [beq_self_eq_true]
    · have ne : (n == m) = false := beq_false_of_ne fun e => n1 (by rw [← e]; exact List.mem_map.mpr ⟨_, h, rfl⟩)
      rw [ne]
      exact mem_lookup n2 h
def OfferV (K : PySem.W.Frag) : RepF (Str × Plan Str) := fun H v o => ∃ t vr, v = .ref t ∧ H t = some (.tup [.str o.1, vr]) ∧ RuleV K H o.2 vr
theorem OfferV.same {K : PySem.W.Frag} {H H' : Hp} {v : V} {o : Str × Plan Str} (s : Same H H') : OfferV K H v o → OfferV K H' v o := fun ⟨t, vr, e, h, r⟩ => ⟨t, vr, e, s _ _ h, r.same s⟩
def BookV (K : PySem.W.Frag) (H : Hp) (v : V) (B : Bk) : Prop := ∃ b dx l vs, v = .ref b ∧ H b = some (.ins (He.ga K "Book") dx [("offers", .ref l)]) ∧ H l = some (.lst vs) ∧ Its (OfferV K) H vs B
theorem BookV.same {K : PySem.W.Frag} {H H' : Hp} {v : V} {B : Bk} (s : Same H H') : BookV K H v B → BookV K H' v B := fun ⟨b, dx, l, vs, e, h, h2, i⟩ => ⟨b, dx, l, vs, e, s _ _ h, s _ _ h2, paired_mono i fun _ _ => OfferV.same s⟩
section
variable {P : Program} {w : World} {K : PySem.W.Frag} {mg : Str → Option Value} {base : Heap}
/-- a known object: through what has changed since -/
local macro_rules | `(tactic| walk_at "oh hp") => `(tactic| first | assumption | exact upd_same | (refine get_new (by assumption) ?_; walk_at "oh hp") | (refine get_mut (by assumption) ?_ (by intro z; cases z); walk_at "oh hp") | (refine same_get (by assumption) ?_; walk_at "oh hp") | (refine ts_get (by assumption) ?_; walk_at "oh hp") | (refine same_get (LL.sm (by assumption)) ?_; walk_at "oh hp") | exact LL.at_ (by assumption))
local macro_rules | `(tactic| walk_at "oh sc") => `(tactic| exact ⟨rfl, rfl, rfl, by decide +kernel, rfl, by decide +kernel, by decide +kernel⟩)
/-- one step of a reading -/
local macro_rules | `(tactic| walk_at "oh 1") => `(tactic| with_reducible first
  | refine i_var rfl ?_ | refine i_c ?_ | refine i_op ?_ | refine i_I0 ?_ | refine i_cons ?_ | refine i_nil ?_ | refine i_asg ?_ | refine i_name ?_ | refine i_seq ?_ | refine i_ifS ?_ | refine i_test ?_ | refine i_bl ?_ | refine i_call ?_ | refine i_CB ?_
  | refine i_tup ?_ | refine i_lst ?_ | refine i_eqI ?_ | refine i_eqS ?_ | refine i_neI ?_ | refine i_un ?_ | refine i_U ?_ | refine i_ret ?_ | refine i_retN ?_ | refine i_next ?_ | refine i_cont ?_ | refine i_drop ?_ | refine i_B ?_ | refine i_and ?_ | refine i_or ?_ | refine i_not ?_ | refine i_mn ?_ | refine i_mx ?_ | refine i_isN ?_ | refine i_notN ?_ | refine i_bm ?_ | refine i_bm0 ?_ | refine i_rn ?_ | refine i_nn ?_ | refine i_rn' ?_ | refine i_nn' ?_ | refine i_gcons ?_ | refine i_gnil ?_ | refine i_orV ?_ | refine i_andV ?_ | refine i_notV ?_ | refine i_chain ?_ | refine i_forL ?_ | refine i_iL ?_ | refine i_iT ?_ | refine i_lc ?_ | refine i_yes ?_ | refine i_sortS ?_ | refine i_lenS ?_ | refine i_slL ?_ | refine i_noP ?_ | refine i_part ?_ | refine i_fld ?_ | refine i_sFld ?_ | refine i_dget ?_ | refine i_meth ?_ | refine i_dnot ?_ | refine i_aug rfl ?_ | refine i_ip ?_ | refine iteT ?_ | refine iteF ?_ | refine i_nT ?_ | refine i_nF ?_)
local macro_rules | `(tactic| walk_at "oh 2") => `(tactic| first | ((with_reducible refine' i_atP ?h ?c ?n ?l ?q); (case h => walk_at "oh hp"); (case c => assumption); (case n => assumption); (case l => exact Nat.le_of_ble_eq_true rfl)) | ((with_reducible refine' i_atF ?h ?c ?n ?l ?q); (case h => walk_at "oh hp"); (case c => assumption); (case n => assumption); (case l => rfl)) | ((with_reducible refine' i_ixT ?h ?e ?q); (case h => walk_at "oh hp"); (case e => rfl)) | ((with_reducible refine' i_gtup ?h ?e ?q); (case h => walk_at "oh hp"); (case e => rfl)) | ((with_reducible refine' i_atL ?h ?q); (case h => walk_at "oh hp")) | ((with_reducible refine' i_atT ?h ?q); (case h => walk_at "oh hp")) | ((with_reducible refine' i_tyL ?h ?q); (case h => walk_at "oh hp")) | ((with_reducible refine' i_lnL ?h ?q); (case h => walk_at "oh hp")) | ((with_reducible refine' i_lnT ?h ?q); (case h => walk_at "oh hp")))
local macro_rules | `(tactic| walk_at "oh go") => `(tactic| repeat first | walk_at "oh 1" | walk_at "oh 2")
def sp_rule_of (K : PySem.W.Frag) : Sp := fun vs H Q E => ∃ (v : V) (B : Bk) (n : Str), vs = [v, .str n] ∧ BookV K H v B ∧ (∀ p vr, B.lookup n = some p → RuleV K H p vr → Q vr H) ∧ (B.lookup n = none → E (.ref (He.ga K "NoOffer")) none H)
/- slots: 0 book, 1 name, 2 offer -/
theorem sc_rule_of : FnScope ["book", "name", "offer"] ["book", "name"] (defScope s_rule_of) := by walk_at "oh sc"
theorem ok_rule_of (T : Pg K mg) : Ok P w K mg base (L2.CX P w) 1 "rule_of" ["book", "name"] (sp_rule_of K) := by
  obtain ⟨fd, F⟩ := F_rule_of T
  refine ⟨fd, F.okX sc_rule_of (fun vs H Q E h => ?_) (fun cdv A outer s H vs Q E hr h => ?_), F.binds fun _ _ _ _ _ _ us hl => (match us, hl with | [_, _], _ => rfl), F.kp, g_rule_of T⟩
  · obtain ⟨v, B, n, rfl, _⟩ := h
    rfl
  · obtain ⟨v, B, n, rfl, ⟨b, dx, l, vs, rfl, hb, hl, hI⟩, q1, q2⟩ := h
    have hu := hu_of hr
    refine ⟨_, pss_cons (ps_for (passes_of rfl) rfl (pi_list (pe_fld (pv 0) rfl)) (pg_name (i := 2) sc_rule_of.nd rfl (Or.inl rfl))
      (pss_one (ps_if (pt_cmpR op_eq (pe_ix ix_tup (pv 2) pe_int (fun _ _ => rfl)) (pv 1) (nomark _))
        (pss_one (ps_ret (pe_ix ix_tup (pv 2) pe_int (fun _ _ => rfl))))
        pss_nil)))
      (pss_one (ps_raise rfl (takes_of rfl rfl rfl rfl) (pmk_own PySem.F.excBase_ValueError (e_NoOffer T).1 (g_NoOffer T) (e_NoOffer T).2.1 (raises_own (e_NoOffer T).2.2.1 (e_NoOffer T).2.2.2) rfl))), ?_⟩
    have c1 := c_Book T
    have n1 := n_Book_offers T
    walk_at "oh go"
    refine for_left hI (fun r σ H' => ∃ o, σ = [some (.ref b), some (.str n), o] ∧ H' = H ∧ r.lookup n = B.lookup n) ⟨none, rfl, rfl, rfl⟩ ?_ ?_ ?_
    · rintro r σ H' ⟨o, rfl, rfl, _⟩
      exact SqL.of hl
    · rintro x ⟨m, p⟩ r σ H' ⟨t, vr, rfl, ht, hr'⟩ ⟨o, rfl, rfl, e⟩
      rw [List.lookup_cons] at e
      walk_at "oh go"
      refine i_dec (fun c => ?_) (fun c => ?_)
      · rw [show (n == m) = true from beq_iff_eq.mpr c.symm] at e
        walk_at "oh go"
        exact q1 p vr e.symm hr'
      · rw [show (n == m) = false from beq_false_of_ne fun z => c z.symm] at e
        walk_at "oh go"
        exact ⟨_, rfl, rfl, e⟩
    · rintro σ H' ⟨o, rfl, rfl, e⟩
      exact q2 e.symm
end
end OH
set_option Elab.async false
set_option linter.all false
set_option maxRecDepth 100000
set_option maxHeartbeats 4000000
namespace OH
open PySem PySem.Spec PyProof.Rows L2
theorem mem_strs {z : Str} {l : List Str} : (V.str z ∈ l.map V.str) ↔ z ∈ l := ⟨fun h => by
  obtain ⟨y, hy, e⟩ := List.mem_map.mp h
  cases e
  exact hy, fun h => List.mem_map.mpr ⟨z, h, rfl⟩⟩
def Topo (B : Bk) (L : List Str) : Prop := ∀ (i : Nat) m, L[i]? = some m → ∃ q, B.lookup m = some q ∧ ∀ z ∈ allN q, z ∈ L.take i
theorem Topo.push {B : Bk} {L : List Str} {n : Str} {p : Plan Str} (h : Topo B L) (e : B.lookup n = some p) (k : ∀ z ∈ allN p, z ∈ L) : Topo B (L ++ [n]) := fun i m hm => by
  rcases Nat.lt_or_ge i L.length with c | c
  · rw [List.getElem?_append_left c] at hm
    obtain ⟨q, e1, e2⟩ := h i m hm
    exact ⟨q, e1, fun z hz => by rw [List.take_append_of_le_length (Nat.le_of_lt c)]; exact e2 z hz⟩
  · have e3 : i = L.length := by
      have := (List.getElem?_eq_some_iff.mp hm).1
      rw [List.length_append, List.length_singleton] at this
      omega
    subst e3
    rw [List.getElem?_append_right (Nat.le_refl _), Nat.sub_self] at hm
    have e4 : n = m := by simpa using hm
    subst e4
    exact ⟨p, e, fun z hz => by rw [List.take_append_of_le_length (Nat.le_refl _), List.take_length]; exact k z hz⟩
theorem Topo.mem {B : Bk} {L : List Str} (h : Topo B L) : ∀ m ∈ L, m ∈ B.map (·.1) := fun m hm => by
  obtain ⟨i, hi⟩ := List.mem_iff_getElem?.mp hm
  obtain ⟨q, e, _⟩ := h i m hi
  exact List.mem_map.mpr ⟨_, lookup_mem e, rfl⟩
/-- what has come in for p -/
def Came (B : Bk) (told L : List Str) (C : Plan Str → Prop) (p : Plan Str) : Prop := ∀ m ∈ L, m ∈ told ∨ ∃ q, B.lookup m = some q ∧ C q ∧ (fm q = none → fm p = none)
structure Gone (B : Bk) (told L : List Str) (n : Str) (p : Plan Str) : Prop where
  topo : Topo B L
  nodup : L.Nodup
  sub : ∀ z ∈ told, z ∈ L
  has : n ∈ L
  came : Came B told L (fun q => nd q ≤ nd p) p
def sp_gathered (K : PySem.W.Frag) (k : Nat) : Sp := fun vs H Q E => ∃ (v : V) (B : Bk) (n : Str) (p : Plan Str) (t : Addr) (told : List Str), vs = [v, .str n, .ref t] ∧ BookV K H v B ∧ BookIn B ∧ B.lookup n = some p ∧ nd p < k ∧ H t = some (.lst (told.map V.str)) ∧ Topo B told ∧ told.Nodup ∧
  ∀ l L H', Same H H' → H' l = some (.lst (L.map V.str)) → Gone B told L n p → Q (.ref l) H'
section
variable {P : Program} {w : World} {K : PySem.W.Frag} {mg : Str → Option Value} {base : Heap}
/-- a known object: through what has changed since -/
local macro_rules | `(tactic| walk_at "oh hp") => `(tactic| first | assumption | exact upd_same | (refine get_new (by assumption) ?_; walk_at "oh hp") | (refine get_mut (by assumption) ?_ (by intro z; cases z); walk_at "oh hp") | (refine same_get (by assumption) ?_; walk_at "oh hp") | (refine ts_get (by assumption) ?_; walk_at "oh hp") | (refine same_get (LL.sm (by assumption)) ?_; walk_at "oh hp") | exact LL.at_ (by assumption))
local macro_rules | `(tactic| walk_at "oh sc") => `(tactic| exact ⟨rfl, rfl, rfl, by decide +kernel, rfl, by decide +kernel, by decide +kernel⟩)
/-- one step of a reading -/
local macro_rules | `(tactic| walk_at "oh 1") => `(tactic| with_reducible first
  | refine i_var rfl ?_ | refine i_c ?_ | refine i_op ?_ | refine i_I0 ?_ | refine i_cons ?_ | refine i_nil ?_ | refine i_asg ?_ | refine i_name ?_ | refine i_seq ?_ | refine i_ifS ?_ | refine i_test ?_ | refine i_bl ?_ | refine i_call ?_ | refine i_CB ?_
  | refine i_tup ?_ | refine i_lst ?_ | refine i_eqI ?_ | refine i_eqS ?_ | refine i_neI ?_ | refine i_un ?_ | refine i_U ?_ | refine i_ret ?_ | refine i_retN ?_ | refine i_next ?_ | refine i_cont ?_ | refine i_drop ?_ | refine i_B ?_ | refine i_and ?_ | refine i_or ?_ | refine i_not ?_ | refine i_mn ?_ | refine i_mx ?_ | refine i_isN ?_ | refine i_notN ?_ | refine i_bm ?_ | refine i_bm0 ?_ | refine i_rn ?_ | refine i_nn ?_ | refine i_rn' ?_ | refine i_nn' ?_ | refine i_gcons ?_ | refine i_gnil ?_ | refine i_orV ?_ | refine i_andV ?_ | refine i_notV ?_ | refine i_chain ?_ | refine i_forL ?_ | refine i_iL ?_ | refine i_iT ?_ | refine i_lc ?_ | refine i_yes ?_ | refine i_sortS ?_ | refine i_lenS ?_ | refine i_slL ?_ | refine i_noP ?_ | refine i_part ?_ | refine i_fld ?_ | refine i_sFld ?_ | refine i_dget ?_ | refine i_meth ?_ | refine i_dnot ?_ | refine i_aug rfl ?_ | refine i_ip ?_ | refine iteT ?_ | refine iteF ?_ | refine i_nT ?_ | refine i_nF ?_)
local macro_rules | `(tactic| walk_at "oh 2") => `(tactic| first | ((with_reducible refine' i_atP ?h ?c ?n ?l ?q); (case h => walk_at "oh hp"); (case c => assumption); (case n => assumption); (case l => exact Nat.le_of_ble_eq_true rfl)) | ((with_reducible refine' i_atF ?h ?c ?n ?l ?q); (case h => walk_at "oh hp"); (case c => assumption); (case n => assumption); (case l => rfl)) | ((with_reducible refine' i_ixT ?h ?e ?q); (case h => walk_at "oh hp"); (case e => rfl)) | ((with_reducible refine' i_gtup ?h ?e ?q); (case h => walk_at "oh hp"); (case e => rfl)) | ((with_reducible refine' i_atL ?h ?q); (case h => walk_at "oh hp")) | ((with_reducible refine' i_atT ?h ?q); (case h => walk_at "oh hp")) | ((with_reducible refine' i_tyL ?h ?q); (case h => walk_at "oh hp")) | ((with_reducible refine' i_lnL ?h ?q); (case h => walk_at "oh hp")) | ((with_reducible refine' i_lnT ?h ?q); (case h => walk_at "oh hp")))
local macro_rules | `(tactic| walk_at "oh go") => `(tactic| repeat first | walk_at "oh 1" | walk_at "oh 2")
theorem in_strs (z : Str) : ∀ l : List Str, inV (.str z) (l.map V.str) = decide (z ∈ l)
  | [] => rfl
  | y :: l => by
    have ih := in_strs z l
    unfold inV at ih ⊢
    rw [List.map_cons, List.any_cons, ih]
    have e : eqV (.str y) (.str z) = decide (z = y) := by
      show (y == z) = _
      by_cases c : z = y
      · rw [c, beq_self_eq_true, decide_eq_true rfl]
      · rw [decide_eq_false c]
        exact beq_false_of_ne fun h => c h.symm
    rw [e]
    by_cases c : z = y
    · simp [c]
    · simp [c]
theorem i_in {z : Str} {p : Addr} {l : List Str} {H : Hp} {Q : VK} (h : H p = some (.lst (l.map V.str))) (q : Q (.bl (decide (z ∈ l))) H) : rIn K false (.str z) (.ref p) H Q := ⟨p, _, rfl, .inl (SqL.of h), rfl, flat_strs l, by rw [in_strs]; exact q⟩
theorem i_nin {z : Str} {p : Addr} {l : List Str} {H : Hp} {Q : VK} (h : H p = some (.lst (l.map V.str))) (q : Q (.bl (!decide (z ∈ l))) H) : rIn K true (.str z) (.ref p) H Q := ⟨p, _, rfl, .inl (SqL.of h), rfl, flat_strs l, by rw [in_strs]; exact q⟩
theorem sc_gathered : FnScope ["book", "name", "told", "named"] ["book", "name", "told"] (defScope s_gathered) := by walk_at "oh sc"
theorem ok_gathered (T : Pg K mg) : ∀ k, Ok P w K mg base (L2.CX P w) (6 + k) "gathered" ["book", "name", "told"] (sp_gathered K k) := by
  intro k
  induction k with
  | zero =>
    obtain ⟨fd, F⟩ := F_gathered T
    exact ⟨fd, ⟨fun vs H Q E ⟨_, _, _, _, _, _, _, _, _, _, h, _⟩ => absurd h (Nat.not_lt_zero _), fun A outer s H args us vs Q E _ _ _ _ ⟨_, _, _, _, _, _, _, _, _, _, h, _⟩ => absurd h (Nat.not_lt_zero _)⟩, F.binds fun _ _ _ _ _ _ us hl => (match us, hl with | [_, _, _], _ => rfl), F.kp, g_gathered T⟩
  | succ k ih =>
    obtain ⟨fd, F⟩ := F_gathered T
    refine ⟨fd, F.okX sc_gathered (fun vs H Q E h => ?_) (fun cdv A outer s H vs Q E hr h => ?_), F.binds fun _ _ _ _ _ _ us hl => (match us, hl with | [_, _, _], _ => rfl), F.kp, g_gathered T⟩
    · obtain ⟨v, B, n, p, t, told, rfl, _⟩ := h
      rfl
    obtain ⟨v, B, n, p, t, told, rfl, hB, BI, en, hk, ht, to, nt, q⟩ := h
    change Room (6 + k) _ at hr
    have hu := hu_of hr
    refine ⟨_, pss_cons (ps_if (pt_cmpR op_in_seq (pv 1) (pv 2) (by rfl))
      (pss_one (ps_ret (pv 2)))
      pss_nil)
      (pss_cons (ps_for (passes_of rfl) rfl (pi_list (pe_any fun kk : Kd => pe_me0 (E := E0) (k := 6 + k) (ok_names_k T 4 kk) (c_kd T kk) (mt_names T kk) hr pass0 (pe_cl (E := E) (k := 6 + k) (ok_rule_of T) hr (hx := passes_call (takes_of rfl rfl rfl rfl) fun _ _ _ _ h => h) (hj := by omega) (pa_cons (pv 0) (pa_cons (pv 1) pa_nil))) pa_nil)) (pg_name (i := 3) sc_gathered.nd rfl (Or.inl rfl))
      (pss_one (ps_set (i := 2) sc_gathered.nd rfl (Or.inl rfl) (pe_cl (E := E) (k := 6 + k) ih hr (hx := passes_call (takes_of rfl rfl rfl rfl) fun _ _ _ _ h => h) (hj := by omega) (pa_cons (pv 0) (pa_cons (pv 3) (pa_cons (pv 2) pa_nil)))))))
      (pss_one (ps_ret (pe_op op_cat (pv 2) (pe_lst (pa_cons (pv 1) pa_nil)))))), ?_⟩
    have pin := BI.pin _ (lookup_mem en)
    walk_at "oh go"
    refine i_in ht ?_
    walk_at "oh go"
    refine i_dec (fun c => ?_) (fun c => ?_)
    · walk_at "oh go"
      exact q t told H (Same.refl _) ht ⟨to, nt, fun _ h => h, c, fun m hm => .inl hm⟩
    walk_at "oh go"
    refine i_ex (kd p) ?_
    walk_at "oh go"
    refine ⟨v, B, n, rfl, hB, fun p' vr e hR => ?_, fun e => ?_⟩
    rotate_left
    · rw [en] at e
      cases e
    obtain rfl : p = p' := by
      rw [en] at e
      exact Option.some.inj e
    obtain ⟨a, dx, fs0, rfl, ha, nm⟩ := hR.obj
    walk_at "oh go"
    refine i_atM ha nm.2.1 ?_
    walk_at "oh go"
    refine ⟨_, p, rfl, hR, BI.dep _ (lookup_mem en), BI.names _ (lookup_mem en), fun l ys H1 n1 s1 h1 ndy mem => ?_⟩
    walk_at "oh go"
    refine for_left (H0 := H1) (its_strs ys) (fun r σ H' => ∃ t' L o, σ = [some v, some (.str n), some (.ref t'), o] ∧ Same H1 H' ∧ H' t' = some (.lst (L.map V.str)) ∧ Topo B L ∧ L.Nodup ∧ (∀ z ∈ told, z ∈ L) ∧ (∀ z ∈ ys, z ∈ L ∨ z ∈ r) ∧ Came B told L (fun q => nd q < nd p) p ∧ ∀ z ∈ r, z ∈ ys)
      ⟨t, told, none, rfl, Same.refl _, s1 _ _ ht, to, nt, fun _ h => h, fun z hz => .inr hz, fun m hm => .inl hm, fun _ h => h⟩ ?_ ?_ ?_
    · rintro r σ H' ⟨t', L, o, rfl, sm, _⟩
      exact SqL.of (sm _ _ h1)
    · rintro x z r σ H' hx ⟨t', L, o, rfl, sm, hL, toL, ndL, sub, cov, came, rs⟩
      obtain rfl : x = .str z := hx
      have hz := (mem z).mp (rs z List.mem_cons_self)
      rw [allN_dirs] at hz
      obtain ⟨⟨z', q'⟩, hd, ez⟩ := List.mem_map.mp hz
      obtain rfl : z' = z := ez
      have inB := BI.res _ (lookup_mem en) _ hd
      have eq' := mem_lookup BI.nodup inB
      have lt := dirs_nd hd
      dsimp only at lt
      walk_at "oh go"
      refine ⟨v, B, z', q', t', L, rfl, hB.same (s1.trans sm), BI, eq', by omega, hL, toL, ndL, fun l5 L5 H5 s5 h5 G => ?_⟩
      walk_at "oh go"
      refine ⟨l5, L5, _, rfl, sm.trans s5, h5, G.topo, G.nodup, fun y hy => G.sub y (sub y hy), fun y hy => ?_, fun m hm => ?_, fun y hy => rs y (List.mem_cons_of_mem _ hy)⟩
      · rcases cov y hy with h | h
        · exact .inl (G.sub y h)
        · rcases List.mem_cons.mp h with rfl | h
          · exact .inl G.has
          · exact .inr h
      · rcases G.came m hm with h | ⟨q2, e2, c2, f2⟩
        · exact came m h
        · exact .inr ⟨q2, e2, Nat.lt_of_le_of_lt c2 lt, fun e => fm_dir hd (f2 e)⟩
    · rintro σ H' ⟨t', L, o, rfl, sm, hL, toL, ndL, sub, cov, came, _⟩
      have all : ∀ z ∈ allN p, z ∈ L := fun z hz => (cov z ((mem z).mpr hz)).elim id fun h => nomatch h
      have new : n ∉ L := fun h => by
        rcases came n h with h | ⟨q2, e2, c2, _⟩
        · exact c h
        · rw [en] at e2
          cases e2
          exact Nat.lt_irrefl _ c2
      have len : L.length ≤ 4 := by
        have h1 := nodup_le ndL toL.mem
        rw [List.length_map] at h1
        exact Nat.le_trans h1 BI.few
      walk_at "oh go"
      refine ⟨Nat.le_of_ble_eq_true rfl, fun k1 nk1 => ?_⟩
      walk_at "oh go"
      refine i_catL (get_new nk1 hL) upd_same (by rw [List.length_map]; show L.length + 1 ≤ _; omega) fun k2 nk2 => ?_
      refine q k2 (L ++ [n]) _ (s1.trans (sm.trans ((same_new nk1 _).trans (same_new nk2 _)))) (by rw [List.map_append]; exact upd_same) ⟨toL.push en all, ?_, fun z hz => List.mem_append_left _ (sub z hz), by simp, fun m hm => ?_⟩
      · refine List.nodup_append.mpr ⟨ndL, List.nodup_cons.mpr ⟨fun z => (nomatch z), List.nodup_nil⟩, fun u hu y hy e => ?_⟩
        rw [List.mem_singleton.mp hy] at e
        exact new (e ▸ hu)
      · rcases List.mem_append.mp hm with h | h
        · rcases came m h with h | ⟨q2, e2, c2, f2⟩
          · exact .inl h
          · exact .inr ⟨q2, e2, Nat.le_of_lt c2, f2⟩
        · rw [List.mem_singleton.mp h]
          exact .inr ⟨p, en, Nat.le_refl _, id⟩
end
end OH
set_option Elab.async false
set_option linter.all false
set_option maxRecDepth 100000
set_option maxHeartbeats 4000000
namespace OH
open PySem PySem.Spec PyProof.Rows L2
theorem knows_of {H : Hp} {kvs : List (Key × V)} : ∀ {p : Plan Str}, (∀ d ∈ dirs p, ∃ f v, fm d.2 = some f ∧ valV kvs (.inr d.1) = some v ∧ FormV H v f) → Knows H kvs p := by
  intro p
  induction p with
  | name n q _ => exact fun h => h (n, q) List.mem_cons_self
  | plus a b ia ib => exact fun h => ⟨ia fun d hd => h d (List.mem_append_left _ hd), ib fun d hd => h d (List.mem_append_right _ hd)⟩
  | cheap a b ia ib => exact fun h => ⟨ia fun d hd => h d (List.mem_append_left _ hd), ib fun d hd => h d (List.mem_append_right _ hd)⟩
  | dear a b ia ib => exact fun h => ⟨ia fun d hd => h d (List.mem_append_left _ hd), ib fun d hd => h d (List.mem_append_right _ hd)⟩
  | only a _ _ ia => exact fun h => ia h
  | after a _ ia => exact fun h => ia h
  | fee a _ ia => exact fun h => ia h
  | _ => exact fun _ => trivial
theorem i_inon {A B : Prop} {i : Int} (h : B) : if decide (V.int i = V.non) = true then A else B := by
  rw [decide_eq_false (by intro z; cases z)]
  exact iteF h
section
variable {P : Program} {w : World} {K : PySem.W.Frag} {mg : Str → Option Value} {base : Heap}
/-- a known object: through what has changed since -/
local macro_rules | `(tactic| walk_at "oh hp") => `(tactic| first | assumption | exact upd_same | (refine get_new (by assumption) ?_; walk_at "oh hp") | (refine get_mut (by assumption) ?_ (by intro z; cases z); walk_at "oh hp") | (refine same_get (by assumption) ?_; walk_at "oh hp") | (refine ts_get (by assumption) ?_; walk_at "oh hp") | (refine same_get (LL.sm (by assumption)) ?_; walk_at "oh hp") | exact LL.at_ (by assumption))
local macro_rules | `(tactic| walk_at "oh sc") => `(tactic| exact ⟨rfl, rfl, rfl, by decide +kernel, rfl, by decide +kernel, by decide +kernel⟩)
/-- one step of a reading -/
local macro_rules | `(tactic| walk_at "oh 1") => `(tactic| with_reducible first
  | refine i_var rfl ?_ | refine i_c ?_ | refine i_op ?_ | refine i_I0 ?_ | refine i_cons ?_ | refine i_nil ?_ | refine i_asg ?_ | refine i_name ?_ | refine i_seq ?_ | refine i_ifS ?_ | refine i_test ?_ | refine i_bl ?_ | refine i_call ?_ | refine i_CB ?_
  | refine i_tup ?_ | refine i_lst ?_ | refine i_eqI ?_ | refine i_eqS ?_ | refine i_neI ?_ | refine i_un ?_ | refine i_U ?_ | refine i_ret ?_ | refine i_retN ?_ | refine i_next ?_ | refine i_cont ?_ | refine i_drop ?_ | refine i_B ?_ | refine i_and ?_ | refine i_or ?_ | refine i_not ?_ | refine i_mn ?_ | refine i_mx ?_ | refine i_isN ?_ | refine i_notN ?_ | refine i_bm ?_ | refine i_bm0 ?_ | refine i_rn ?_ | refine i_nn ?_ | refine i_rn' ?_ | refine i_nn' ?_ | refine i_gcons ?_ | refine i_gnil ?_ | refine i_orV ?_ | refine i_andV ?_ | refine i_notV ?_ | refine i_chain ?_ | refine i_forL ?_ | refine i_iL ?_ | refine i_iT ?_ | refine i_lc ?_ | refine i_yes ?_ | refine i_sortS ?_ | refine i_lenS ?_ | refine i_slL ?_ | refine i_noP ?_ | refine i_part ?_ | refine i_fld ?_ | refine i_sFld ?_ | refine i_dget ?_ | refine i_meth ?_ | refine i_dnot ?_ | refine i_aug rfl ?_ | refine i_ip ?_ | refine iteT ?_ | refine iteF ?_ | refine i_nT ?_ | refine i_nF ?_)
local macro_rules | `(tactic| walk_at "oh 2") => `(tactic| first | ((with_reducible refine' i_atP ?h ?c ?n ?l ?q); (case h => walk_at "oh hp"); (case c => assumption); (case n => assumption); (case l => exact Nat.le_of_ble_eq_true rfl)) | ((with_reducible refine' i_atF ?h ?c ?n ?l ?q); (case h => walk_at "oh hp"); (case c => assumption); (case n => assumption); (case l => rfl)) | ((with_reducible refine' i_ixT ?h ?e ?q); (case h => walk_at "oh hp"); (case e => rfl)) | ((with_reducible refine' i_gtup ?h ?e ?q); (case h => walk_at "oh hp"); (case e => rfl)) | ((with_reducible refine' i_atL ?h ?q); (case h => walk_at "oh hp")) | ((with_reducible refine' i_atT ?h ?q); (case h => walk_at "oh hp")) | ((with_reducible refine' i_tyL ?h ?q); (case h => walk_at "oh hp")) | ((with_reducible refine' i_lnL ?h ?q); (case h => walk_at "oh hp")) | ((with_reducible refine' i_lnT ?h ?q); (case h => walk_at "oh hp")))
local macro_rules | `(tactic| walk_at "oh go") => `(tactic| repeat first | walk_at "oh 1" | walk_at "oh 2")
def sp_order_of (K : PySem.W.Frag) : Sp := fun vs H Q E => ∃ (v : V) (B : Bk) (n : Str), vs = [v, .str n] ∧ BookV K H v B ∧ BookIn B ∧ (∀ p, B.lookup n = some p → ∀ l L H', Same H H' → H' l = some (.lst (L.map V.str)) → Gone B [] L n p → Q (.ref l) H') ∧ (B.lookup n = none → E (.ref (He.ga K "NoOffer")) none H)
/- slots: 0 book, 1 name -/
theorem sc_order_of : FnScope ["book", "name"] ["book", "name"] (defScope s_order_of) := by walk_at "oh sc"
theorem ok_order_of (T : Pg K mg) : Ok P w K mg base (L2.CX P w) 12 "order_of" ["book", "name"] (sp_order_of K) := by
  obtain ⟨fd, F⟩ := F_order_of T
  refine ⟨fd, F.okX sc_order_of (fun vs H Q E h => ?_) (fun cdv A outer s H vs Q E hr h => ?_), F.binds fun _ _ _ _ _ _ us hl => (match us, hl with | [_, _], _ => rfl), F.kp, g_order_of T⟩
  · obtain ⟨v, B, n, rfl, _⟩ := h
    rfl
  · obtain ⟨v, B, n, rfl, hB, BI, q1, q2⟩ := h
    have hu := hu_of hr
    refine ⟨_, pss_cons (ps_expr (pe_cl (E := E) (ok_rule_of T) hr (hx := passes_call (takes_of rfl rfl rfl rfl) fun _ _ _ _ h => h) (pa_cons (pv 0) (pa_cons (pv 1) pa_nil))))
      (pss_one (ps_ret (pe_cl (E := E) (ok_gathered T 5) hr (hx := passes_call (takes_of rfl rfl rfl rfl) fun _ _ _ _ h => h) (pa_cons (pv 0) (pa_cons (pv 1) (pa_cons (pe_lst pa_nil) pa_nil)))))), ?_⟩
    walk_at "oh go"
    refine ⟨v, B, n, rfl, hB, fun p vr e hR => ?_, q2⟩
    walk_at "oh go"
    refine ⟨Nat.le_of_ble_eq_true rfl, fun t nt => ?_⟩
    walk_at "oh go"
    have s1 := same_new nt (.lst [])
    exact ⟨v, B, n, p, t, [], rfl, hB.same s1, BI, e, BI.nd _ (lookup_mem e), upd_same, fun i m h => by simp at h, List.nodup_nil, fun l L H' s h G => q1 p e l L H' (s1.trans s) h G⟩
theorem ok_form_k (T : Pg K mg) (k : Kd) : OkM P w K mg base (L2.CX P w) 13 (cn k) "form" ["self", "forms"] (sp_Rule_form K) := (ok_Rule_form T).to (ha_form T k) fun _ _ _ _ h => h
def sp_form_of (K : PySem.W.Frag) : Sp := fun vs H Q E => ∃ (v : V) (B : Bk) (n : Str), vs = [v, .str n] ∧ BookV K H v B ∧ BookIn B ∧
  (∀ p, B.lookup n = some p → (∀ f, fm p = some f → Ret H Q FormV f) ∧ (fm p = none → ∀ H', Same H H' → E (.ref (He.ga K "TooMany")) none H')) ∧ (B.lookup n = none → ∀ H', Same H H' → E (.ref (He.ga K "NoOffer")) none H')
theorem i_dput {td ty tv : TE} {σ : L2.St} {H : Hp} {D : Ends} (h : tv σ H fun v H1 => td σ H1 fun x H2 => ty σ H2 fun y H3 => ∃ a H4, x = .ref a ∧ DPut H3 a y v H4 ∧ D.nx σ H4) : sDPut td ty tv D σ H := h
theorem i_dnew {σ : L2.St} {H : Hp} {Q : VK} (h : ∀ p, H p = none → Q (.ref p) (upd H p (.dK []))) : tDNewK σ H Q := h
/- slots: 0 book, 1 name, 2 forms, 3 needed -/
theorem sc_form_of : FnScope ["book", "name", "forms", "needed"] ["book", "name"] (defScope s_form_of) := by walk_at "oh sc"
theorem ok_form_of (T : Pg K mg) : Ok P w K mg base (L2.CX P w) 14 "form_of" ["book", "name"] (sp_form_of K) := by
  obtain ⟨fd, F⟩ := F_form_of T
  refine ⟨fd, F.okX sc_form_of (fun vs H Q E h => ?_) (fun cdv A outer s H vs Q E hr h => ?_), F.binds fun _ _ _ _ _ _ us hl => (match us, hl with | [_, _], _ => rfl), F.kp, g_form_of T⟩
  · obtain ⟨v, B, n, rfl, _⟩ := h
    rfl
  · obtain ⟨v, B, n, rfl, hB, BI, q1, q2⟩ := h
    have hu := hu_of hr
    refine ⟨_, pss_cons (ps_set (i := 2) sc_form_of.nd rfl (Or.inl rfl) pe_dnewK)
      (pss_cons (ps_for (passes_of rfl) rfl (pi_list (pe_cl (E := E) (ok_order_of T) hr (hx := passes_call (takes_of rfl rfl rfl rfl) fun _ _ _ _ h => h) (pa_cons (pv 0) (pa_cons (pv 1) pa_nil)))) (pg_name (i := 3) sc_form_of.nd rfl (Or.inl rfl))
      (pss_one (ps_dput hu (pv 2) (pv 3) (pe_any fun k : Kd => pe_me (E := E) (ok_form_k T k) (c_kd T k) (mt_form T k) hr (passes_call (takes_of rfl rfl rfl rfl) fun _ _ _ _ h => h) (pe_cl (E := E) (ok_rule_of T) hr (hx := passes_call (takes_of rfl rfl rfl rfl) fun _ _ _ _ h => h) (pa_cons (pv 0) (pa_cons (pv 3) pa_nil))) (pa_cons (pv 2) pa_nil)) rfl)))
      (pss_one (ps_ret (pe_dget hu (pv 2) (pv 1) (fun _ _ => rfl))))), ?_⟩
    walk_at "oh go"
    refine i_dnew fun d nd_ => ?_
    walk_at "oh go"
    have s0 := same_new nd_ (.dK [])
    refine ⟨v, B, n, rfl, hB.same s0, BI, fun p en l L H1 s1 h1 G => ?_, fun e => q2 e _ s0⟩
    obtain ⟨q3, q4⟩ := q1 p en
    walk_at "oh go"
    refine for_left (H0 := H1) (its_strs L) (fun r σ H' => ∃ o kvs dn, σ = [some v, some (.str n), some (.ref d), o] ∧ L = dn ++ r ∧ Same H H' ∧ H' d = some (.dK kvs) ∧ H' l = some (.lst (L.map V.str)) ∧ kvs.length ≤ dn.length ∧ ∀ m ∈ dn, ∃ q f vf, B.lookup m = some q ∧ fm q = some f ∧ valV kvs (.inr m) = some vf ∧ FormV H' vf f)
      ⟨none, [], [], rfl, rfl, s0.trans s1, s1 _ _ upd_same, h1, Nat.le_refl _, fun m h => nomatch h⟩ ?_ ?_ ?_
    · rintro r σ H' ⟨o, kvs, dn, rfl, eL, sm, hd, hl, _⟩
      exact SqL.of hl
    · rintro x m r σ H' hx ⟨o, kvs, dn, rfl, eL, sm, hd, hl, kl, kn⟩
      obtain rfl : x = .str m := hx
      have at_ : L[dn.length]? = some m := by rw [eL, List.getElem?_append_right (Nat.le_refl _), Nat.sub_self]; rfl
      have tk : L.take dn.length = dn := by rw [eL, List.take_append_of_le_length (Nat.le_refl _), List.take_length]
      obtain ⟨q, eq, hq⟩ := G.topo _ _ at_
      rw [tk] at hq
      have inB := lookup_mem eq
      have mL : m ∈ L := List.mem_of_getElem? at_
      have hK : Knows H' kvs q := knows_of fun d' hd' => by
        obtain ⟨q2, f, vf, e1, e2, e3, e4⟩ := kn d'.1 (hq _ (by rw [allN_dirs]; exact List.mem_map.mpr ⟨_, hd', rfl⟩))
        have e5 := mem_lookup BI.nodup (BI.res _ inB _ hd')
        rw [e1] at e5
        cases e5
        exact ⟨f, vf, e2, e3, e4⟩
      walk_at "oh go"
      refine i_dput ?_
      refine i_ex (kd q) ?_
      walk_at "oh go"
      refine ⟨v, B, m, rfl, hB.same sm, fun p' vr e hR => ?_, fun e => ?_⟩
      rotate_left
      · rw [eq] at e
        cases e
      obtain rfl : q = p' := by
        rw [eq] at e
        exact Option.some.inj e
      obtain ⟨a, dx, fs0, rfl, ha, nm⟩ := hR.obj
      refine i_atM ha nm.2.2.2.2.2.2 ?_
      walk_at "oh go"
      refine ⟨_, q, d, kvs, rfl, ⟨hR, BI.pin _ inB, BI.dep _ inB, BI.names _ inB, hd, hK⟩, fun f ef vf H5 s5 hv => ?_, fun en' H5 s5 => ?_⟩
      · have hd5 := s5 _ _ hd
        walk_at "oh go"
        have dl : dn.length ≤ L.length := by rw [eL, List.length_append]; omega
        have ll : L.length ≤ 4 := by
          have h1 := nodup_le G.nodup G.topo.mem
          rw [List.length_map] at h1
          exact Nat.le_trans h1 BI.few
        refine ⟨d, _, rfl, DPut.k (k := .inr m) hd5 (small' (by omega)), ?_⟩
        have nl : l ≠ d := ne_of hl hd (by intro z; cases z)
        have up : Same H (upd H5 d (.dK (putK kvs (.inr m) vf))) := fun b u e => by
          rw [upd_ne (ne_of_none e nd_)]
          exact s5 _ _ (sm _ _ e)
        have tu : TS' H' (upd H5 d (.dK (putK kvs (.inr m) vf))) := fun b xs e => by
          rw [upd_ne (ne_of e hd (by intro z; cases z))]
          exact s5 _ _ e
        have tu5 : TS' H5 (upd H5 d (.dK (putK kvs (.inr m) vf))) := fun b xs e => by
          rw [upd_ne (ne_of e hd5 (by intro z; cases z))]
          exact e
        refine ⟨_, _, dn ++ [m], rfl, by rw [List.append_assoc]; exact eL, up, upd_same, by rw [upd_ne nl]; exact s5 _ _ hl, ?_, fun z hz => ?_⟩
        · have := length_putK kvs (.inr m) vf
          rw [List.length_append, List.length_singleton]
          omega
        · by_cases c : z = m
          · subst c
            exact ⟨q, f, vf, eq, ef, by rw [valV_put, if_pos rfl], FormV.mono _ _ _ _ tu5 hv⟩
          · have hz' : z ∈ dn := (List.mem_append.mp hz).elim id fun h => absurd (List.mem_singleton.mp h) c
            obtain ⟨q2, f2, v2, e1, e2, e3, e4⟩ := kn z hz'
            exact ⟨q2, f2, v2, e1, e2, by rw [valV_put, if_neg fun h => c (Sum.inr.inj h)]; exact e3, FormV.mono _ _ _ _ tu e4⟩
      · rcases G.came m mL with h | ⟨q2, e1, _, e2⟩
        · cases h
        · rw [eq] at e1
          cases e1
          exact q4 (e2 en') H5 (sm.trans s5)
    · rintro σ H' ⟨o, kvs, dn, rfl, eL, sm, hd, hl, kl, kn⟩
      rw [List.append_nil] at eL
      subst eL
      obtain ⟨q, f, vf, e1, e2, e3, e4⟩ := kn n G.has
      rw [en] at e1
      cases e1
      walk_at "oh go"
      exact i_atD (k := .inr n) hd e3 (q3 f e2 vf H' sm e4)
def sp_quote (K : PySem.W.Frag) : Sp := fun vs H Q E => ∃ (v : V) (B : Bk) (n : Str) (x : Int), vs = [v, .str n, .int x] ∧ BookV K H v B ∧ BookIn B ∧ Sz 8000 x ∧
  (∀ p, B.lookup n = some p → (∀ f, fm p = some f → (∀ c, costAt f x = some c → ∀ H', Same H H' → Q (.int c) H') ∧ (costAt f x = none → ∀ H', Same H H' → E (.ref (He.ga K "NotOffered")) none H')) ∧ (fm p = none → ∀ H', Same H H' → E (.ref (He.ga K "TooMany")) none H')) ∧
  (B.lookup n = none → ∀ H', Same H H' → E (.ref (He.ga K "NoOffer")) none H')
/- slots: 0 book, 1 name, 2 x, 3 found -/
theorem sc_quote : FnScope ["book", "name", "x", "found"] ["book", "name", "x"] (defScope s_quote) := by walk_at "oh sc"
theorem ok_quote (T : Pg K mg) : Ok P w K mg base (L2.CX P w) 15 "quote" ["book", "name", "x"] (sp_quote K) := by
  obtain ⟨fd, F⟩ := F_quote T
  refine ⟨fd, F.okX sc_quote (fun vs H Q E h => ?_) (fun cdv A outer s H vs Q E hr h => ?_), F.binds fun _ _ _ _ _ _ us hl => (match us, hl with | [_, _, _], _ => rfl), F.kp, g_quote T⟩
  · obtain ⟨v, B, n, x, rfl, _⟩ := h
    rfl
  · obtain ⟨v, B, n, x, rfl, hB, BI, sx, q1, q2⟩ := h
    have hu := hu_of hr
    refine ⟨_, pss_cons (ps_set (i := 3) sc_quote.nd rfl (Or.inl rfl) (pe_c0 (ok_cost_at T) hr (pa_cons (pe_cl (E := E) (ok_form_of T) hr (hx := passes_call (takes_of rfl rfl rfl rfl) fun _ _ _ _ h => h) (pa_cons (pv 0) (pa_cons (pv 1) pa_nil))) (pa_cons (pv 2) pa_nil))))
      (pss_cons (ps_if (pt_cmpR op_isN1 (pv 3) pe_non (nomark _))
      (pss_one (ps_raise rfl (takes_of rfl rfl rfl rfl) (pmk_own PySem.F.excBase_ValueError (e_NotOffered T).1 (g_NotOffered T) (e_NotOffered T).2.1 (raises_own (e_NotOffered T).2.2.1 (e_NotOffered T).2.2.2) rfl)))
      pss_nil)
      (pss_one (ps_ret (pv 3)))), ?_⟩
    walk_at "oh go"
    refine ⟨v, B, n, rfl, hB, BI, fun p en => ⟨fun f ef vf H1 s1 hv => ?_, (q1 p en).2⟩, q2⟩
    obtain ⟨q3, q4⟩ := (q1 p en).1 f ef
    have fin := (BI.pin _ (lookup_mem en)).form ef
    walk_at "oh go"
    refine ⟨vf, f, x, rfl, hv, fin.fb.mono (by decide) (by decide), sx, fun H2 s2 => ?_⟩
    walk_at "oh go"
    cases e : costAt f x with
    | none =>
      unfold optV
      walk_at "oh go"
      exact q4 e H2 (s1.trans s2)
    | some c =>
      unfold optV
      walk_at "oh go"
      refine i_inon ?_
      walk_at "oh go"
      exact q3 c e H2 (s1.trans s2)
end
end OH
set_option Elab.async false
set_option linter.all false
set_option maxRecDepth 100000
set_option maxHeartbeats 4000000
namespace OH
open PySem PySem.Spec PyProof.Rows L2
/-- the words that are no names -/
def wordList : List Str := ["each", "flat", "from", "to", "bands", "steps", "blocks", "at", "times", "plus", "or", "max", "only", "after", "roomy", "fee"]
def letters : Str := "abcdefghijklmnopqrstuvwxyz"
structure NameOk (z : Str) : Prop where
  one : 1 ≤ z.length
  most : z.length ≤ 8
  word : z ∉ wordList
  signs : ∀ c ∈ z.cps.toList, c ∈ letters.cps.toList
theorem words_at {K : PySem.W.Frag} {mg : Str → Option Value} (T : Pg K mg) (H : Hp) : SqT K H (He.ga K "WORDS") (wordList.map V.str) := by
  have h := T.ex
  unfold exAll at h
  rw [Bool.and_eq_true] at h
  exact He.tupB_ok h.1 H
section
variable {β : Type} {S : RepF β} {H0 : Hp} {g : TG} {tt : TT} {te : TE} {sl : List Nat} {σ : L2.St} {D : Addr} {Qd : Hp → Prop}
theorem lc_FS {x : Str} (F : Nat → List β) (hD : H0 D = none) (hF : F 0 = [])
    (turn : ∀ (i : Nat) c H acc, x.cps[i]? = some c → LL S H0 D H acc (F i) → g (.str ⟨#[c]⟩) (wipe σ sl) H fun σ2 H2 => wipe σ2 sl = wipe σ sl ∧ tt σ2 H2 fun b H3 =>
      if b = true then te σ2 H3 fun v H4 => ∃ acc, H4 D = some (.lst acc) ∧ acc.length < sizeLine ∧ MadeTo S H0 D (F (i + 1)) (upd H4 D (.lst (acc ++ [v]))) else MadeTo S H0 D (F (i + 1)) H3)
    (hd : ∀ H acc, LL S H0 D H acc (F x.cps.size) → Qd H) :
    ∃ W : Nat → Nat → Hp → Prop, (∃ m, W 0 m (upd H0 D (.lst []))) ∧ ∀ i m H, W i m H →
      ((L2.Its x).stop i H ∧ Qd H) ∨ ((L2.Its x).go i H ∧ ∃ Nx : Hp → Prop, (∀ H', Nx H' → ∃ m', m' < m ∧ W (i + 1) m' H') ∧ ∀ y H', (L2.Its x).yld i H y H' → g y (wipe σ sl) H' fun σ2 H2 => wipe σ2 sl = wipe σ sl ∧ tt σ2 H2 fun b H3 =>
        if b = true then te σ2 H3 fun y H4 => ∃ acc, H4 D = some (.lst acc) ∧ acc.length < sizeLine ∧ Nx (upd H4 D (.lst (acc ++ [y]))) else Nx H3) := by
  refine ⟨fun i m H => m = x.cps.size - i ∧ i ≤ x.cps.size ∧ MadeTo S H0 D (F i) H, ⟨_, rfl, Nat.zero_le _, [], (LL.new (Same.refl _) hD).is hF.symm⟩, ?_⟩
  rintro i m H ⟨rfl, hi, acc, p⟩
  by_cases lt : i < x.cps.size
  · refine .inr ⟨lt, MadeTo S H0 D (F (i + 1)), fun H' p' => ⟨x.cps.size - (i + 1), by omega, rfl, lt, p'⟩, ?_⟩
    rintro y H' ⟨e, c, hc, ey⟩
    subst e
    subst ey
    exact turn i c H' acc hc p
  · obtain rfl : i = x.cps.size := by omega
    exact .inl ⟨Nat.le_refl _, hd H acc p⟩
end
def BlV : RepF Bool := fun _ v b => v = .bl b
theorem BlV.mono : MonoT BlV := fun _ _ _ _ _ h => h
theorem bls_its {H : Hp} : ∀ {vs : List V} {l : List Bool}, Its BlV H vs l → vs = l.map V.bl
  | _, _, .nil => rfl
  | _, _, .cons a r => by rw [List.map_cons, ← bls_its r, show _ = V.bl _ from a]
theorem i_inT {K : PySem.W.Frag} {z : Str} {p : Addr} {l : List Str} {H : Hp} {Q : VK} (h : SqT K H p (l.map V.str)) (fs : (l.map V.str).all flatV = true) (q : Q (.bl (decide (z ∈ l))) H) : rIn K false (.str z) (.ref p) H Q := ⟨p, _, rfl, .inr h, rfl, fs, by rw [in_strs]; exact q⟩
theorem i_iStr {te : TE} {σ : L2.St} {H : Hp} {R : It → Hp → Prop} (h : te σ H fun v H1 => ∃ x, v = .str x ∧ R (L2.Its x) H1) : iStr te σ H R := h
section
variable {P : Program} {w : World} {K : PySem.W.Frag} {mg : Str → Option Value} {base : Heap}
/-- a known object: through what has changed since -/
local macro_rules | `(tactic| walk_at "oh hp") => `(tactic| first | assumption | exact upd_same | (refine get_new (by assumption) ?_; walk_at "oh hp") | (refine get_mut (by assumption) ?_ (by intro z; cases z); walk_at "oh hp") | (refine same_get (by assumption) ?_; walk_at "oh hp") | (refine ts_get (by assumption) ?_; walk_at "oh hp") | (refine same_get (LL.sm (by assumption)) ?_; walk_at "oh hp") | exact LL.at_ (by assumption))
local macro_rules | `(tactic| walk_at "oh sc") => `(tactic| exact ⟨rfl, rfl, rfl, by decide +kernel, rfl, by decide +kernel, by decide +kernel⟩)
/-- one step of a reading -/
local macro_rules | `(tactic| walk_at "oh 1") => `(tactic| with_reducible first
  | refine i_var rfl ?_ | refine i_c ?_ | refine i_op ?_ | refine i_I0 ?_ | refine i_cons ?_ | refine i_nil ?_ | refine i_asg ?_ | refine i_name ?_ | refine i_seq ?_ | refine i_ifS ?_ | refine i_test ?_ | refine i_bl ?_ | refine i_call ?_ | refine i_CB ?_
  | refine i_tup ?_ | refine i_lst ?_ | refine i_eqI ?_ | refine i_eqS ?_ | refine i_neI ?_ | refine i_un ?_ | refine i_U ?_ | refine i_ret ?_ | refine i_retN ?_ | refine i_next ?_ | refine i_cont ?_ | refine i_drop ?_ | refine i_B ?_ | refine i_and ?_ | refine i_or ?_ | refine i_not ?_ | refine i_mn ?_ | refine i_mx ?_ | refine i_isN ?_ | refine i_notN ?_ | refine i_bm ?_ | refine i_bm0 ?_ | refine i_rn ?_ | refine i_nn ?_ | refine i_rn' ?_ | refine i_nn' ?_ | refine i_gcons ?_ | refine i_gnil ?_ | refine i_orV ?_ | refine i_andV ?_ | refine i_notV ?_ | refine i_chain ?_ | refine i_forL ?_ | refine i_iL ?_ | refine i_iT ?_ | refine i_lc ?_ | refine i_yes ?_ | refine i_sortS ?_ | refine i_lenS ?_ | refine i_slL ?_ | refine i_noP ?_ | refine i_part ?_ | refine i_fld ?_ | refine i_sFld ?_ | refine i_dget ?_ | refine i_meth ?_ | refine i_dnot ?_ | refine i_aug rfl ?_ | refine i_ip ?_ | refine iteT ?_ | refine iteF ?_ | refine i_nT ?_ | refine i_nF ?_)
local macro_rules | `(tactic| walk_at "oh 2") => `(tactic| first | ((with_reducible refine' i_atP ?h ?c ?n ?l ?q); (case h => walk_at "oh hp"); (case c => assumption); (case n => assumption); (case l => exact Nat.le_of_ble_eq_true rfl)) | ((with_reducible refine' i_atF ?h ?c ?n ?l ?q); (case h => walk_at "oh hp"); (case c => assumption); (case n => assumption); (case l => rfl)) | ((with_reducible refine' i_ixT ?h ?e ?q); (case h => walk_at "oh hp"); (case e => rfl)) | ((with_reducible refine' i_gtup ?h ?e ?q); (case h => walk_at "oh hp"); (case e => rfl)) | ((with_reducible refine' i_atL ?h ?q); (case h => walk_at "oh hp")) | ((with_reducible refine' i_atT ?h ?q); (case h => walk_at "oh hp")) | ((with_reducible refine' i_tyL ?h ?q); (case h => walk_at "oh hp")) | ((with_reducible refine' i_lnL ?h ?q); (case h => walk_at "oh hp")) | ((with_reducible refine' i_lnT ?h ?q); (case h => walk_at "oh hp")))
local macro_rules | `(tactic| walk_at "oh go") => `(tactic| repeat first | walk_at "oh 1" | walk_at "oh 2")
def sp_is_name : Sp := fun vs H Q _ => ∃ z : Str, vs = [.str z] ∧ NameOk z ∧ ∀ H', Same H H' → Q (.bl true) H'
/- slots: 0 text, 1 sign -/
theorem sc_is_name : FnScope ["text", "sign"] ["text"] (defScope s_is_name) := by walk_at "oh sc"
theorem ok_is_name (T : Pg K mg) : Ok P w K mg base CX0 1 "is_name" ["text"] sp_is_name := by
  obtain ⟨fd, F⟩ := F_is_name T
  refine ⟨fd, F.ok sc_is_name (fun vs H Q E h => ?_) (fun cdv A outer s H vs Q E hr h => ?_), F.binds fun _ _ _ _ _ _ us hl => (match us, hl with | [_], _ => rfl), F.kp, g_is_name T⟩
  · obtain ⟨z, rfl, _⟩ := h
    rfl
  · obtain ⟨z, rfl, Z, q⟩ := h
    have hu := hu_of hr
    refine ⟨_, pss_cons (ps_if (PW.pt (pw_or (pt_not (pt_chain op_le op_le pe_int (pe_callB call_len_str (by rfl) (z_len T) PySem.boot_len (pa_cons (pv 0) pa_nil)) (show PE _ _ (tC (.int 8)) from pe_glob rfl (i_MOST_SIGNS T).choose_spec ⟨_, rfl⟩))) (pw_or1 (pt_cmpR op_in_seq (pv 0) (show PE _ _ (tC (.ref (He.ga K "WORDS"))) from pe_glob rfl (g_WORDS T) rfl) (by rfl)))))
      (pss_one (ps_ret pe_bl))
      pss_nil)
      (pss_one (ps_ret (pe_callB (cr_all rfl) (by rfl) (z_all T) (by decide +kernel) (pa_cons (pe_lc (own := [("sign", 1)]) (g := gName 1) rfl sc_is_name.nd (pi_str (pv 0)) (blkOk_by (own := [("sign", 1)]) (N := ["text", "sign"]) (sc := defScope s_is_name) (by decide +kernel)) (fun _ _ _ _ _ => pg_name (i := 1) sc_is_name.nd rfl (Or.inl rfl)) (fun _ _ _ _ _ => pts_nil) (fun _ _ _ _ _ => (pe_cmpR op_in_sign (pv 1) (show PE _ _ (tC (.str letters)) from pe_glob rfl (t_LETTERS T).choose_spec ⟨_, rfl⟩) (by rfl)))) pa_nil)))), ?_⟩
    walk_at "oh go"
    have z1 := Z.one
    have z2 := Z.most
    refine ⟨z, rfl, small (by omega), ?_⟩
    walk_at "oh go"
    refine i_dec (fun _ => ?_) (fun c => absurd (by omega : (1 : Int) ≤ (z.length : Int)) c)
    walk_at "oh go"
    rw [decide_eq_true (by omega : (z.length : Int) ≤ 8)]
    walk_at "oh go"
    refine i_inT (words_at T H) rfl ?_
    rw [show decide (z ∈ wordList) = false from decide_eq_false Z.word]
    walk_at "oh go"
    refine i_iStr ?_
    walk_at "oh go"
    refine ⟨z, rfl, ?_⟩
    intro D hD
    refine lc_FS (S := BlV) (fun i => List.replicate i true) hD rfl ?_ ?_
    · intro i c H1 acc ec X
      walk_at "oh go"
      refine ⟨rfl, ?_⟩
      walk_at "oh go"
      refine ⟨c, letters, rfl, rfl, ?_⟩
      have i8 : i < z.length := (Array.getElem?_eq_some_iff.mp ec).1
      refine made_push BlV.mono X (z := true) ?_ (by rw [List.length_replicate]; omega) ?_
      · have hc := Z.signs c (by rw [List.mem_iff_getElem?]; exact ⟨i, by rw [Array.getElem?_toList]; exact ec⟩)
        show V.bl (decide (c ∈ letters.cps.toList)) = V.bl true
        rw [decide_eq_true hc]
      · rw [List.replicate_succ']
    · intro H1 acc X
      walk_at "oh go"
      refine ⟨D, _, rfl, SqL.of ((bls_its X.its) ▸ X.at_), ?_⟩
      walk_at "oh go"
      rw [show (List.replicate z.cps.size true).all id = true from List.all_eq_true.mpr fun b hb => (List.mem_replicate.mp hb).2]
      exact q H1 X.sm
end
end OH
set_option Elab.async false
set_option linter.all false
set_option maxRecDepth 100000
set_option maxHeartbeats 4000000
namespace OH
open PySem PySem.Spec PyProof.Rows L2
theorem nodup_same {α : Type} [DecidableEq α] {l m : List α} (h1 : l.Nodup) (h2 : m.Nodup) (e : ∀ z, z ∈ l ↔ z ∈ m) : l.length = m.length :=
  Nat.le_antisymm (nodup_le h1 fun z h => (e z).mp h) (nodup_le h2 fun z h => (e z).mpr h)
section
variable {P : Program} {w : World} {K : PySem.W.Frag} {mg : Str → Option Value} {base : Heap}
/-- a known object: through what has changed since -/
local macro_rules | `(tactic| walk_at "oh hp") => `(tactic| first | assumption | exact upd_same | (refine get_new (by assumption) ?_; walk_at "oh hp") | (refine get_mut (by assumption) ?_ (by intro z; cases z); walk_at "oh hp") | (refine same_get (by assumption) ?_; walk_at "oh hp") | (refine ts_get (by assumption) ?_; walk_at "oh hp") | (refine same_get (LL.sm (by assumption)) ?_; walk_at "oh hp") | exact LL.at_ (by assumption))
local macro_rules | `(tactic| walk_at "oh sc") => `(tactic| exact ⟨rfl, rfl, rfl, by decide +kernel, rfl, by decide +kernel, by decide +kernel⟩)
/-- one step of a reading -/
local macro_rules | `(tactic| walk_at "oh 1") => `(tactic| with_reducible first
  | refine i_var rfl ?_ | refine i_c ?_ | refine i_op ?_ | refine i_I0 ?_ | refine i_cons ?_ | refine i_nil ?_ | refine i_asg ?_ | refine i_name ?_ | refine i_seq ?_ | refine i_ifS ?_ | refine i_test ?_ | refine i_bl ?_ | refine i_call ?_ | refine i_CB ?_
  | refine i_tup ?_ | refine i_lst ?_ | refine i_eqI ?_ | refine i_eqS ?_ | refine i_neI ?_ | refine i_un ?_ | refine i_U ?_ | refine i_ret ?_ | refine i_retN ?_ | refine i_next ?_ | refine i_cont ?_ | refine i_drop ?_ | refine i_B ?_ | refine i_and ?_ | refine i_or ?_ | refine i_not ?_ | refine i_mn ?_ | refine i_mx ?_ | refine i_isN ?_ | refine i_notN ?_ | refine i_bm ?_ | refine i_bm0 ?_ | refine i_rn ?_ | refine i_nn ?_ | refine i_rn' ?_ | refine i_nn' ?_ | refine i_gcons ?_ | refine i_gnil ?_ | refine i_orV ?_ | refine i_andV ?_ | refine i_notV ?_ | refine i_chain ?_ | refine i_forL ?_ | refine i_iL ?_ | refine i_iT ?_ | refine i_lc ?_ | refine i_yes ?_ | refine i_sortS ?_ | refine i_lenS ?_ | refine i_slL ?_ | refine i_noP ?_ | refine i_part ?_ | refine i_fld ?_ | refine i_sFld ?_ | refine i_dget ?_ | refine i_meth ?_ | refine i_dnot ?_ | refine i_aug rfl ?_ | refine i_ip ?_ | refine iteT ?_ | refine iteF ?_ | refine i_nT ?_ | refine i_nF ?_)
local macro_rules | `(tactic| walk_at "oh 2") => `(tactic| first | ((with_reducible refine' i_atP ?h ?c ?n ?l ?q); (case h => walk_at "oh hp"); (case c => assumption); (case n => assumption); (case l => exact Nat.le_of_ble_eq_true rfl)) | ((with_reducible refine' i_atF ?h ?c ?n ?l ?q); (case h => walk_at "oh hp"); (case c => assumption); (case n => assumption); (case l => rfl)) | ((with_reducible refine' i_ixT ?h ?e ?q); (case h => walk_at "oh hp"); (case e => rfl)) | ((with_reducible refine' i_gtup ?h ?e ?q); (case h => walk_at "oh hp"); (case e => rfl)) | ((with_reducible refine' i_atL ?h ?q); (case h => walk_at "oh hp")) | ((with_reducible refine' i_atT ?h ?q); (case h => walk_at "oh hp")) | ((with_reducible refine' i_tyL ?h ?q); (case h => walk_at "oh hp")) | ((with_reducible refine' i_lnL ?h ?q); (case h => walk_at "oh hp")) | ((with_reducible refine' i_lnT ?h ?q); (case h => walk_at "oh hp")))
local macro_rules | `(tactic| walk_at "oh go") => `(tactic| repeat first | walk_at "oh 1" | walk_at "oh 2")
def sp_look_at_names : Sp := fun vs H Q _ => ∃ (l : Addr) (ns : List Str), vs = [.ref l] ∧ H l = some (.lst (ns.map V.str)) ∧ (∀ z ∈ ns, NameOk z) ∧ ns.Nodup ∧ ns.length ≤ 4 ∧ ∀ H', Same H H' → Q .non H'
/- slots: 0 names, 1 name -/
theorem sc_look_at_names : FnScope ["names", "name"] ["names"] (defScope s_look_at_names) := by walk_at "oh sc"
theorem ok_look_at_names (T : Pg K mg) : Ok P w K mg base (L2.CX P w) 2 "look_at_names" ["names"] sp_look_at_names := by
  obtain ⟨fd, F⟩ := F_look_at_names T
  refine ⟨fd, F.okX sc_look_at_names (fun vs H Q E h => ?_) (fun cdv A outer s H vs Q E hr h => ?_), F.binds fun _ _ _ _ _ _ us hl => (match us, hl with | [_], _ => rfl), F.kp, g_look_at_names T⟩
  · obtain ⟨l, ns, rfl, _⟩ := h
    rfl
  · obtain ⟨l, ns, rfl, hl, ok, nd, few, q⟩ := h
    have hu := hu_of hr
    refine ⟨_, pss_cons (ps_for (passes_of rfl) rfl (pi_list (pv 0)) (pg_name (i := 1) sc_look_at_names.nd rfl (Or.inl rfl))
      (pss_one (ps_if (pt_not (pt_val (pe_c0 (k := 1) (ok_is_name T) hr (pa_cons (pv 1) pa_nil))))
        (pss_one (ps_raise rfl (takes_of rfl rfl rfl rfl) (pmk_own PySem.F.excBase_ValueError (e_BadName T).1 (g_BadName T) (e_BadName T).2.1 (raises_own (e_BadName T).2.2.1 (e_BadName T).2.2.2) rfl)))
        pss_nil)))
      (pss_one (ps_if (pt_cmpR op_lt (pe_lenSetA (kdS P w) rfl rfl rfl (by rfl) (z_len T) (by rfl) (z_set T) (pv 0)) (pe_callB cr_ln (by rfl) (z_len T) PySem.boot_len (pa_cons (pv 0) pa_nil)) (nomark _))
      (pss_one (ps_raise rfl (takes_of rfl rfl rfl rfl) (pmk_own PySem.F.excBase_ValueError (e_Twice T).1 (g_Twice T) (e_Twice T).2.1 (raises_own (e_Twice T).2.2.1 (e_Twice T).2.2.2) rfl)))
      pss_nil)), ?_⟩
    walk_at "oh go"
    refine for_left (H0 := H) (its_strs ns) (fun r σ H' => ∃ o, σ = [some (.ref l), o] ∧ Same H H' ∧ ∀ z ∈ r, z ∈ ns) ⟨none, rfl, Same.refl _, fun _ h => h⟩ ?_ ?_ ?_
    · rintro r σ H' ⟨o, rfl, sm, _⟩
      exact SqL.of (sm _ _ hl)
    · rintro x z r σ H' hx ⟨o, rfl, sm, sub⟩
      obtain rfl : x = .str z := hx
      walk_at "oh go"
      refine ⟨z, rfl, ok z (sub z List.mem_cons_self), fun H1 s1 => ?_⟩
      walk_at "oh go"
      exact ⟨_, rfl, sm.trans s1, fun y hy => sub y (List.mem_cons_of_mem _ hy)⟩
    · rintro σ H' ⟨o, rfl, sm, _⟩
      have hl' := sm _ _ hl
      walk_at "oh go"
      refine ⟨l, ns, rfl, SqL.of hl', by omega, fun ys ndy mem => ?_⟩
      have e : ys.length = (ns.map V.str).length := by rw [List.length_map]; exact nodup_same ndy nd mem
      walk_at "oh go"
      refine i_dec (fun c => absurd c (by rw [e]; exact Int.lt_irrefl _)) (fun _ => ?_)
      walk_at "oh go"
      exact q _ sm
structure OffersIn (K : PySem.W.Frag) (H : Hp) (l : Addr) (vs : List V) (B : Bk) : Prop where
  at_ : H l = some (.lst vs)
  its : Its (OfferV K) H vs B
  ok : BookIn B
theorem OffersIn.same {H H' : Hp} {l : Addr} {vs : List V} {B : Bk} (I : OffersIn K H l vs B) (s : Same H H') : OffersIn K H' l vs B := ⟨s _ _ I.at_, paired_mono I.its fun _ _ => OfferV.same s, I.ok⟩
def sp_look_at_rules (K : PySem.W.Frag) : Sp := fun vs H Q _ => ∃ (l : Addr) (us : List V) (B : Bk), vs = [.ref l] ∧ OffersIn K H l us B ∧ ∀ H', Same H H' → Q .non H'
/- slots: 0 offers, 1 names, 2 offer, 3 named -/
theorem sc_look_at_rules : FnScope ["offers", "names", "offer", "named"] ["offers"] (defScope s_look_at_rules) := by walk_at "oh sc"
theorem ok_look_at_rules (T : Pg K mg) : Ok P w K mg base (L2.CX P w) 6 "look_at_rules" ["offers"] (sp_look_at_rules K) := by
  obtain ⟨fd, F⟩ := F_look_at_rules T
  refine ⟨fd, F.okX sc_look_at_rules (fun vs H Q E h => ?_) (fun cdv A outer s H vs Q E hr h => ?_), F.binds fun _ _ _ _ _ _ us hl => (match us, hl with | [_], _ => rfl), F.kp, g_look_at_rules T⟩
  · obtain ⟨l, us, B, rfl, _⟩ := h
    rfl
  · obtain ⟨l, us, B, rfl, I, q⟩ := h
    have hu := hu_of hr
    refine ⟨_, pss_cons (ps_setLc (i := 1) (own := [("offer", 2)]) (g := gName 2) rfl sc_look_at_rules.nd rfl rfl (sw_true rfl rfl rfl (by decide +kernel)) (pi_list (pv 0)) (blkOk_by (own := [("offer", 2)]) (N := ["offers", "names", "offer", "named"]) (sc := defScope s_look_at_rules) (by decide +kernel)) (fun _ _ _ _ _ => pg_name (i := 2) sc_look_at_rules.nd rfl (Or.inl rfl)) (fun _ _ _ _ _ => pts_nil) (fun _ _ _ _ _ => (pe_ix (ixT K) (pv 2) pe_int (fun _ _ => rfl))))
      (pss_one (ps_for (passes_of rfl) rfl (pi_list (pv 0)) (pg_name (i := 2) sc_look_at_rules.nd rfl (Or.inl rfl))
      (pss_one (ps_for (passes_of rfl) rfl (pi_list (pe_any fun kk : Kd => pe_me0 (E := E0) (ok_names_k T 4 kk) (c_kd T kk) (mt_names T kk) hr pass0 (pe_ix ix_tup (pv 2) pe_int (fun _ _ => rfl)) pa_nil)) (pg_name (i := 3) sc_look_at_rules.nd rfl (Or.inl rfl))
        (pss_one (ps_if (pt_cmpR op_notIn_seq (pv 3) (pv 1) (by rfl))
          (pss_one (ps_raise rfl (takes_of rfl rfl rfl rfl) (pmk_own PySem.F.excBase_ValueError (e_NoOffer T).1 (g_NoOffer T) (e_NoOffer T).2.1 (raises_own (e_NoOffer T).2.2.1 (e_NoOffer T).2.2.2) rfl)))
          pss_nil)))))), ?_⟩
    have hl0 := I.at_
    walk_at "oh go"
    intro D hD
    refine lc_FL (S := StrV) (fun i => (B.take i).map (·.1)) I.at_ I.its hD rfl ?_ ?_
    · rintro i x ⟨n, p⟩ H1 acc e ⟨t, vr, rfl, ht, hR⟩ X
      have few := I.ok.few
      walk_at "oh go"
      refine ⟨rfl, ?_⟩
      walk_at "oh go"
      refine made_push StrV.mono X (z := n) rfl ?_ (take_map (f := fun o : Str × Plan Str => o.1) e)
      rw [List.length_map, List.length_take]
      omega
    · intro H1 acc X
      rw [List.take_length] at X
      have ea := strs_its X.its
      have hD1 := X.at_
      rw [ea] at hD1
      walk_at "oh go"
      refine for_left (H0 := H) I.its (fun r σ H' => ∃ o2 o3, σ = [some (.ref l), some (.ref D), o2, o3] ∧ Same H H' ∧ H' D = some (.lst ((B.map (·.1)).map V.str)) ∧ ∀ z ∈ r, z ∈ B) ⟨none, none, rfl, X.sm, hD1, fun _ h => h⟩ ?_ ?_ ?_
      · rintro r σ H' ⟨o2, o3, rfl, sm, _⟩
        exact SqL.of (sm _ _ I.at_)
      · rintro x ⟨n, p⟩ r σ H' ⟨t, vr, rfl, ht, hR⟩ ⟨o2, o3, rfl, sm, hD', sub⟩
        have inB := sub _ List.mem_cons_self
        have hR' := hR.same sm
        obtain ⟨a, dx, fs0, rfl, ha, nm⟩ := hR'.obj
        walk_at "oh go"
        refine i_ex (kd p) ?_
        walk_at "oh go"
        refine i_atM ha nm.2.1 ?_
        walk_at "oh go"
        refine ⟨_, p, rfl, hR', I.ok.dep _ inB, I.ok.names _ inB, fun l2 ys H2 n2 s2 h2 ndy mem => ?_⟩
        walk_at "oh go"
        refine for_left (H0 := H2) (its_strs ys) (fun r' σ H' => ∃ o3, σ = [some (.ref l), some (.ref D), some (.ref t), o3] ∧ H' = H2 ∧ ∀ z ∈ r', z ∈ ys) ⟨_, rfl, rfl, fun _ h => h⟩ ?_ ?_ ?_
        · rintro r' σ H' ⟨o3, rfl, rfl, _⟩
          exact SqL.of h2
        · rintro x z r' σ H' hx ⟨o3, rfl, rfl, sub'⟩
          obtain rfl : x = .str z := hx
          have hz := (mem z).mp (sub' z List.mem_cons_self)
          rw [allN_dirs] at hz
          obtain ⟨d, hd, ez⟩ := List.mem_map.mp hz
          walk_at "oh go"
          refine i_nin (s2 _ _ hD') ?_
          rw [show decide (z ∈ B.map (·.1)) = true from decide_eq_true (List.mem_map.mpr ⟨d, I.ok.res _ inB d hd, ez⟩)]
          walk_at "oh go"
          exact ⟨_, rfl, rfl, fun y hy => sub' y (List.mem_cons_of_mem _ hy)⟩
        · rintro σ H' ⟨o3, rfl, rfl, _⟩
          exact ⟨_, _, rfl, sm.trans s2, s2 _ _ hD', fun y hy => sub y (List.mem_cons_of_mem _ hy)⟩
      · rintro σ H' ⟨o2, o3, rfl, sm, _⟩
        walk_at "oh go"
        exact q _ sm
end
end OH
set_option Elab.async false
set_option linter.all false
set_option maxRecDepth 100000
set_option maxHeartbeats 4000000
namespace OH
open PySem PySem.Spec PyProof.Rows L2
def Closed (B : Bk) (S : List Str) : Prop := ∀ o ∈ B, o.1 ∈ S ∨ ∃ z ∈ allN o.2, z ∉ S
theorem Closed.all {B : Bk} {S : List Str} (BI : BookIn B) (h : Closed B S) : ∀ (k : Nat), ∀ o ∈ B, nd o.2 < k → o.1 ∈ S
  | 0, _, _, c => absurd c (Nat.not_lt_zero _)
  | k + 1, o, ho, c => by
    rcases h o ho with h1 | ⟨z, hz, nz⟩
    · exact h1
    · rw [allN_dirs] at hz
      obtain ⟨d, hd, ez⟩ := List.mem_map.mp hz
      have lt := dirs_nd hd
      exact absurd (ez ▸ Closed.all BI h k d (BI.res _ ho d hd) (by omega)) nz
theorem opInK {X : Cx} (K : PySem.W.Frag) (h : X.K = K := by rfl) : OpR X (compareOp .In) (rIn K false) := h ▸ op_in_seq
section
variable {P : Program} {w : World} {K : PySem.W.Frag} {mg : Str → Option Value} {base : Heap}
/-- a known object: through what has changed since -/
local macro_rules | `(tactic| walk_at "oh hp") => `(tactic| first | assumption | exact upd_same | (refine get_new (by assumption) ?_; walk_at "oh hp") | (refine get_mut (by assumption) ?_ (by intro z; cases z); walk_at "oh hp") | (refine same_get (by assumption) ?_; walk_at "oh hp") | (refine ts_get (by assumption) ?_; walk_at "oh hp") | (refine same_get (LL.sm (by assumption)) ?_; walk_at "oh hp") | exact LL.at_ (by assumption))
local macro_rules | `(tactic| walk_at "oh sc") => `(tactic| exact ⟨rfl, rfl, rfl, by decide +kernel, rfl, by decide +kernel, by decide +kernel⟩)
/-- one step of a reading -/
local macro_rules | `(tactic| walk_at "oh 1") => `(tactic| with_reducible first
  | refine i_var rfl ?_ | refine i_c ?_ | refine i_op ?_ | refine i_I0 ?_ | refine i_cons ?_ | refine i_nil ?_ | refine i_asg ?_ | refine i_name ?_ | refine i_seq ?_ | refine i_ifS ?_ | refine i_test ?_ | refine i_bl ?_ | refine i_call ?_ | refine i_CB ?_
  | refine i_tup ?_ | refine i_lst ?_ | refine i_eqI ?_ | refine i_eqS ?_ | refine i_neI ?_ | refine i_un ?_ | refine i_U ?_ | refine i_ret ?_ | refine i_retN ?_ | refine i_next ?_ | refine i_cont ?_ | refine i_drop ?_ | refine i_B ?_ | refine i_and ?_ | refine i_or ?_ | refine i_not ?_ | refine i_mn ?_ | refine i_mx ?_ | refine i_isN ?_ | refine i_notN ?_ | refine i_bm ?_ | refine i_bm0 ?_ | refine i_rn ?_ | refine i_nn ?_ | refine i_rn' ?_ | refine i_nn' ?_ | refine i_gcons ?_ | refine i_gnil ?_ | refine i_orV ?_ | refine i_andV ?_ | refine i_notV ?_ | refine i_chain ?_ | refine i_forL ?_ | refine i_iL ?_ | refine i_iT ?_ | refine i_lc ?_ | refine i_yes ?_ | refine i_sortS ?_ | refine i_lenS ?_ | refine i_slL ?_ | refine i_noP ?_ | refine i_part ?_ | refine i_fld ?_ | refine i_sFld ?_ | refine i_dget ?_ | refine i_meth ?_ | refine i_dnot ?_ | refine i_aug rfl ?_ | refine i_ip ?_ | refine iteT ?_ | refine iteF ?_ | refine i_nT ?_ | refine i_nF ?_)
local macro_rules | `(tactic| walk_at "oh 2") => `(tactic| first | ((with_reducible refine' i_atP ?h ?c ?n ?l ?q); (case h => walk_at "oh hp"); (case c => assumption); (case n => assumption); (case l => exact Nat.le_of_ble_eq_true rfl)) | ((with_reducible refine' i_atF ?h ?c ?n ?l ?q); (case h => walk_at "oh hp"); (case c => assumption); (case n => assumption); (case l => rfl)) | ((with_reducible refine' i_ixT ?h ?e ?q); (case h => walk_at "oh hp"); (case e => rfl)) | ((with_reducible refine' i_gtup ?h ?e ?q); (case h => walk_at "oh hp"); (case e => rfl)) | ((with_reducible refine' i_atL ?h ?q); (case h => walk_at "oh hp")) | ((with_reducible refine' i_atT ?h ?q); (case h => walk_at "oh hp")) | ((with_reducible refine' i_tyL ?h ?q); (case h => walk_at "oh hp")) | ((with_reducible refine' i_lnL ?h ?q); (case h => walk_at "oh hp")) | ((with_reducible refine' i_lnT ?h ?q); (case h => walk_at "oh hp")))
local macro_rules | `(tactic| walk_at "oh go") => `(tactic| repeat first | walk_at "oh 1" | walk_at "oh 2")
def sp_look_for_rings (K : PySem.W.Frag) : Sp := fun vs H Q _ => ∃ (l : Addr) (us : List V) (B : Bk), vs = [.ref l] ∧ OffersIn K H l us B ∧ ∀ H', Same H H' → Q .non H'
/- slots: 0 offers, 1 settled, 2 again, 3 name, 4 rule, 5 named (cells: settled) -/
theorem sc_look_for_rings : FnScope ["offers", "settled", "again", "name", "rule", "named"] ["offers"] (defScope s_look_for_rings) := by walk_at "oh sc"
theorem ok_look_for_rings (T : Pg K mg) : Ok P w K mg base (L2.CX P w) 6 "look_for_rings" ["offers"] (sp_look_for_rings K) := by
  obtain ⟨fd, F⟩ := F_look_for_rings T
  refine ⟨fd, F.okX sc_look_for_rings (fun vs H Q E h => ?_) (fun cdv A outer s H vs Q E hr h => ?_), F.binds fun _ _ _ _ _ _ us hl => (match us, hl with | [_], _ => rfl), F.kp, g_look_for_rings T⟩
  · obtain ⟨l, us, B, rfl, _⟩ := h
    rfl
  · obtain ⟨l, us, B, rfl, I, q⟩ := h
    have hu := hu_of hr
    refine ⟨_, pss_cons (ps_set (i := 1) sc_look_for_rings.nd rfl (Or.inr rfl) (pe_lst pa_nil))
      (pss_cons (ps_set (i := 2) sc_look_for_rings.nd rfl (Or.inl rfl) pe_bl)
      (pss_cons (ps_while (passes_of rfl) (pt_val (pv 2))
      (pss_cons (ps_set (i := 2) sc_look_for_rings.nd rfl (Or.inl rfl) pe_bl)
        (pss_one (ps_for (passes_of rfl) rfl (pi_list (pv 0)) (pg_tup rfl (pgs_cons (pg_name (i := 3) sc_look_for_rings.nd rfl (Or.inl rfl)) (pgs_cons (pg_name (i := 4) sc_look_for_rings.nd rfl (Or.inl rfl)) pgs_nil)))
        (pss_one (ps_if (PW.pt (pw_and (pt_cmpR op_notIn_seq (pv 3) (pv 1) (by rfl)) (pw_and1 (pt_val (pe_callB (cr_all rfl) (by rfl) (z_all T) (by decide +kernel) (pa_cons (pe_lc (own := [("named", 5)]) (g := gName 5) rfl sc_look_for_rings.nd (pi_list (pe_any fun kk : Kd => pe_me0 (E := E0) (ok_names_k T 4 kk) (c_kd T kk) (mt_names T kk) hr pass0 (pv 4) pa_nil)) (blkOk_by (own := [("named", 5)]) (N := ["offers", "settled", "again", "name", "rule", "named"]) (sc := defScope s_look_for_rings) (by decide +kernel)) (fun _ _ _ _ _ => pg_name (i := 5) sc_look_for_rings.nd rfl (Or.inl rfl)) (fun _ _ _ _ _ => pts_nil) (fun _ _ _ _ _ => (pe_cmpR (opInK K) (pv 5) (pv 1) (by rfl)))) pa_nil))))))
          (pss_cons (ps_expr (pe_bm PySem.F.plainAttrs_list PySem.F.slot_list_append PySem.F.type_list_append mt_append (pv 1) (pa_cons (pv 3) pa_nil)))
            (pss_one (ps_set (i := 2) sc_look_for_rings.nd rfl (Or.inl rfl) pe_bl)))
          pss_nil))))))
      (pss_one (ps_if (pt_cmpR op_lt (pe_callB cr_ln (by rfl) (z_len T) PySem.boot_len (pa_cons (pv 1) pa_nil)) (pe_callB cr_ln (by rfl) (z_len T) PySem.boot_len (pa_cons (pv 0) pa_nil)) (nomark _))
      (pss_one (ps_raise rfl (takes_of rfl rfl rfl rfl) (pmk_own PySem.F.excBase_ValueError (e_Ring T).1 (g_Ring T) (e_Ring T).2.1 (raises_own (e_Ring T).2.2.1 (e_Ring T).2.2.2) rfl)))
      pss_nil)))), ?_⟩
    have hl0 := I.at_
    have BI := I.ok
    have few := BI.few
    have nmap : (B.map (·.1)).length = B.length := List.length_map _
    walk_at "oh go"
    refine ⟨Nat.le_of_ble_eq_true rfl, fun t nt => ?_⟩
    walk_at "oh go"
    refine i_while (fun m σ H' => ∃ acc S ag o3 o4, σ = [some (.ref l), some (.ref t), some (.bl ag), o3, o4, none] ∧ LL StrV H t H' acc S ∧ S.Nodup ∧ (∀ z ∈ S, z ∈ B.map (·.1)) ∧ (ag = false → Closed B S) ∧ m = 2 * (B.length - S.length) + (if ag = true then 1 else 0)) _
      ⟨[], [], true, none, none, rfl, LL.new (Same.refl _) nt, List.nodup_nil, fun _ h => (nomatch h), fun h => (nomatch h), rfl⟩ ?_
    rintro m σ H1 ⟨acc, S, ag, o3, o4, rfl, X, nd, sub, cl, rfl⟩
    have sl : S.length ≤ B.length := by
      have := nodup_le nd sub
      omega
    walk_at "oh go"
    cases ag with
    | false =>
      have all : ∀ z ∈ B.map (·.1), z ∈ S := fun z hz => by
        obtain ⟨o, ho, e⟩ := List.mem_map.mp hz
        exact e ▸ (cl rfl).all BI 5 o ho (BI.nd o ho)
      have ge := nodup_le BI.nodup all
      have xl := X.len
      have ul := I.its.len
      walk_at "oh go"
      refine i_dec (fun c => absurd c (by omega)) (fun _ => ?_)
      walk_at "oh go"
      exact q _ X.sm
    | true =>
      refine iteT ?_
      refine i_body ?_
      walk_at "oh go"
      refine for_left I.its (fun r σ H' => ∃ acc S' ag o3 o4, σ = [some (.ref l), some (.ref t), some (.bl ag), o3, o4, none] ∧ LL StrV H t H' acc S' ∧ S'.Nodup ∧ (∀ z ∈ S', z ∈ B.map (·.1)) ∧ (ag = false → S' = S ∧ ∀ o ∈ B, o ∈ r ∨ (o.1 ∈ S ∨ ∃ z ∈ allN o.2, z ∉ S)) ∧ (ag = true → S.length < S'.length) ∧ ∀ o ∈ r, o ∈ B)
        ⟨acc, S, false, o3, o4, rfl, X, nd, sub, fun _ => ⟨rfl, fun o ho => .inl ho⟩, fun h => (nomatch h), fun _ h => h⟩ ?_ ?_ ?_
      · rintro r σ H' ⟨acc, S', ag, o3, o4, rfl, X', _⟩
        exact SqL.of (X'.sm _ _ hl0)
      · rintro x ⟨n, p⟩ r σ H' ⟨tu, vr, rfl, ht, hR⟩ ⟨acc, S', ag, o3, o4, rfl, X', nd', sub', k1, k2, rs⟩
        have inB := rs _ List.mem_cons_self
        have rs2 : ∀ o ∈ r, o ∈ B := fun o ho => rs o (List.mem_cons_of_mem _ ho)
        have hR' := hR.same X'.sm
        have sl' : S'.length ≤ B.length := by
          have := nodup_le nd' sub'
          omega
        have xl := X'.len
        obtain ⟨a, dx, fs0, rfl, ha, nm⟩ := hR'.obj
        have hS : H' t = some (.lst (S'.map V.str)) := (strs_its X'.its) ▸ X'.at_
        have skip : (n ∈ S' ∨ ∃ z ∈ allN p, z ∉ S') → (ag = false → S' = S ∧ ∀ o ∈ B, o ∈ r ∨ (o.1 ∈ S ∨ ∃ z ∈ allN o.2, z ∉ S)) := fun c e => by
          obtain ⟨e1, e2⟩ := k1 e
          subst e1
          refine ⟨rfl, fun o ho => ?_⟩
          rcases e2 o ho with h | h
          · rcases List.mem_cons.mp h with rfl | h
            · exact .inr c
            · exact .inl h
          · exact .inr h
        walk_at "oh go"
        refine i_nin hS ?_
        walk_at "oh go"
        refine i_ndec (fun c => ?_) (fun c => ?_)
        · walk_at "oh go"
          refine i_ex (kd p) ?_
          walk_at "oh go"
          refine i_atM ha nm.2.1 ?_
          walk_at "oh go"
          refine ⟨_, p, rfl, hR', BI.dep _ inB, BI.names _ inB, fun l2 ys H2 n2 s2 h2 ndy mem => ?_⟩
          have yl := nodup_le ndy fun z hz => (mem z).mp hz
          have nl := BI.names _ inB
          dsimp only at nl
          walk_at "oh go"
          intro D hD
          refine lc_FL (S := BlV) (fun i => (ys.take i).map fun z => decide (z ∈ S')) h2 (its_strs ys) hD rfl ?_ ?_
          · intro i x z H3 acc3 e hx X3
            obtain rfl : x = .str z := hx
            walk_at "oh go"
            refine ⟨rfl, ?_⟩
            walk_at "oh go"
            refine i_in (X3.sm _ _ (s2 _ _ hS)) ?_
            refine made_push BlV.mono X3 (z := decide (z ∈ S')) rfl ?_ (take_map (f := fun z : Str => decide (z ∈ S')) e)
            rw [List.length_map, List.length_take]
            omega
          · intro H3 acc3 X3
            rw [List.take_length] at X3
            have X4 := (X'.step StrV.mono s2).step StrV.mono X3.sm
            walk_at "oh go"
            refine ⟨D, _, rfl, SqL.of ((bls_its X3.its) ▸ X3.at_), ?_⟩
            have ea : ((ys.map fun z => decide (z ∈ S')).all id = true) ↔ ∀ z ∈ allN p, z ∈ S' := by
              rw [List.all_eq_true]
              constructor
              · intro h z hz
                exact of_decide_eq_true (h _ (List.mem_map.mpr ⟨z, (mem z).mpr hz, rfl⟩))
              · intro h b hb
                obtain ⟨z, hz, e⟩ := List.mem_map.mp hb
                rw [← e]
                exact decide_eq_true (h z ((mem z).mp hz))
            walk_at "oh go"
            cases e : (ys.map fun z => decide (z ∈ S')).all id with
            | false =>
              refine iteF ?_
              walk_at "oh go"
              refine ⟨_, S', ag, _, _, rfl, X4, nd', sub', skip (.inr ?_), k2, rs2⟩
              apply Classical.byContradiction
              intro no
              have : ((ys.map fun z => decide (z ∈ S')).all id = true) := ea.mpr fun z hz => Classical.byContradiction fun nz => no ⟨z, hz, nz⟩
              rw [e] at this
              cases this
            | true =>
              refine iteT ?_
              walk_at "oh go"
              refine i_app (by walk_at "oh hp") (by omega) ?_
              walk_at "oh go"
              refine ⟨_, S' ++ [n], true, _, _, rfl, X4.push StrV.mono (v := .str n) rfl, ?_, fun z hz => ?_, fun h => (nomatch h), fun _ => ?_, rs2⟩
              · refine List.nodup_append.mpr ⟨nd', List.nodup_cons.mpr ⟨fun z => (nomatch z), List.nodup_nil⟩, fun u hu y hy e => ?_⟩
                rw [List.mem_singleton.mp hy] at e
                exact c (e ▸ hu)
              · rcases List.mem_append.mp hz with h | h
                · exact sub' z h
                · rw [List.mem_singleton.mp h]
                  exact List.mem_map.mpr ⟨_, inB, rfl⟩
              · rw [List.length_append]
                show S.length < S'.length + 1
                cases ag with
                | true =>
                  have := k2 rfl
                  omega
                | false =>
                  rw [(k1 rfl).1]
                  exact Nat.lt_succ_self _
        · walk_at "oh go"
          exact ⟨_, S', ag, _, _, rfl, X', nd', sub', skip (.inl c), k2, rs2⟩
      · rintro σ H' ⟨acc, S', ag, o3, o4, rfl, X', nd', sub', k1, k2, _⟩
        have sl' : S'.length ≤ B.length := by
          have := nodup_le nd' sub'
          omega
        cases ag with
        | true =>
          have := k2 rfl
          exact ⟨2 * (B.length - S'.length) + 1, by rw [if_pos rfl]; omega, acc, S', true, o3, o4, rfl, X', nd', sub', fun h => (nomatch h), by rw [if_pos rfl]⟩
        | false =>
          obtain ⟨e1, e2⟩ := k1 rfl
          subst e1
          exact ⟨2 * (B.length - S'.length), by rw [if_pos rfl]; omega, acc, S', false, o3, o4, rfl, X', nd', sub', fun _ o ho => (e2 o ho).elim (fun h => nomatch h) id, by rw [if_neg (by decide)]; rfl⟩
end
end OH
set_option Elab.async false
set_option linter.all false
set_option maxRecDepth 100000
set_option maxHeartbeats 4000000
namespace OH
open PySem PySem.Spec PyProof.Rows L2
section
variable {P : Program} {w : World} {K : PySem.W.Frag} {mg : Str → Option Value} {base : Heap}
/-- a known object: through what has changed since -/
local macro_rules | `(tactic| walk_at "oh hp") => `(tactic| first | assumption | exact upd_same | (refine get_new (by assumption) ?_; walk_at "oh hp") | (refine get_mut (by assumption) ?_ (by intro z; cases z); walk_at "oh hp") | (refine same_get (by assumption) ?_; walk_at "oh hp") | (refine ts_get (by assumption) ?_; walk_at "oh hp") | (refine same_get (LL.sm (by assumption)) ?_; walk_at "oh hp") | exact LL.at_ (by assumption))
local macro_rules | `(tactic| walk_at "oh sc") => `(tactic| exact ⟨rfl, rfl, rfl, by decide +kernel, rfl, by decide +kernel, by decide +kernel⟩)
/-- one step of a reading -/
local macro_rules | `(tactic| walk_at "oh 1") => `(tactic| with_reducible first
  | refine i_var rfl ?_ | refine i_c ?_ | refine i_op ?_ | refine i_I0 ?_ | refine i_cons ?_ | refine i_nil ?_ | refine i_asg ?_ | refine i_name ?_ | refine i_seq ?_ | refine i_ifS ?_ | refine i_test ?_ | refine i_bl ?_ | refine i_call ?_ | refine i_CB ?_
  | refine i_tup ?_ | refine i_lst ?_ | refine i_eqI ?_ | refine i_eqS ?_ | refine i_neI ?_ | refine i_un ?_ | refine i_U ?_ | refine i_ret ?_ | refine i_retN ?_ | refine i_next ?_ | refine i_cont ?_ | refine i_drop ?_ | refine i_B ?_ | refine i_and ?_ | refine i_or ?_ | refine i_not ?_ | refine i_mn ?_ | refine i_mx ?_ | refine i_isN ?_ | refine i_notN ?_ | refine i_bm ?_ | refine i_bm0 ?_ | refine i_rn ?_ | refine i_nn ?_ | refine i_rn' ?_ | refine i_nn' ?_ | refine i_gcons ?_ | refine i_gnil ?_ | refine i_orV ?_ | refine i_andV ?_ | refine i_notV ?_ | refine i_chain ?_ | refine i_forL ?_ | refine i_iL ?_ | refine i_iT ?_ | refine i_lc ?_ | refine i_yes ?_ | refine i_sortS ?_ | refine i_lenS ?_ | refine i_slL ?_ | refine i_noP ?_ | refine i_part ?_ | refine i_fld ?_ | refine i_sFld ?_ | refine i_dget ?_ | refine i_meth ?_ | refine i_dnot ?_ | refine i_aug rfl ?_ | refine i_ip ?_ | refine iteT ?_ | refine iteF ?_ | refine i_nT ?_ | refine i_nF ?_)
local macro_rules | `(tactic| walk_at "oh 2") => `(tactic| first | ((with_reducible refine' i_atP ?h ?c ?n ?l ?q); (case h => walk_at "oh hp"); (case c => assumption); (case n => assumption); (case l => exact Nat.le_of_ble_eq_true rfl)) | ((with_reducible refine' i_atF ?h ?c ?n ?l ?q); (case h => walk_at "oh hp"); (case c => assumption); (case n => assumption); (case l => rfl)) | ((with_reducible refine' i_ixT ?h ?e ?q); (case h => walk_at "oh hp"); (case e => rfl)) | ((with_reducible refine' i_gtup ?h ?e ?q); (case h => walk_at "oh hp"); (case e => rfl)) | ((with_reducible refine' i_atL ?h ?q); (case h => walk_at "oh hp")) | ((with_reducible refine' i_atT ?h ?q); (case h => walk_at "oh hp")) | ((with_reducible refine' i_tyL ?h ?q); (case h => walk_at "oh hp")) | ((with_reducible refine' i_lnL ?h ?q); (case h => walk_at "oh hp")) | ((with_reducible refine' i_lnT ?h ?q); (case h => walk_at "oh hp")))
local macro_rules | `(tactic| walk_at "oh go") => `(tactic| repeat first | walk_at "oh 1" | walk_at "oh 2")
def sp_Book_init (K : PySem.W.Frag) : Sp := fun vs H Q _ => ∃ (x dx l : Addr) (us : List V) (B : Bk), vs = [.ref x, .ref l] ∧ H x = some (.ins (He.ga K "Book") dx []) ∧ OffersIn K H l us B ∧ (∀ o ∈ B, NameOk o.1) ∧
  ∀ H' k, (∀ b u, b ≠ x → H b = some u → H' b = some u) → H' x = some (.ins (He.ga K "Book") dx [("offers", .ref k)]) → H' k = some (.lst us) → Q .non H'
/- slots: 0 self, 1 offers, 2 offer -/
theorem sc_Book_init : FnScope ["self", "offers", "offer"] ["self", "offers"] (defScope s_Book_init) := by walk_at "oh sc"
theorem ok_Book_init (T : Pg K mg) : OkM P w K mg base (L2.CX P w) 7 "Book" "__init__" ["self", "offers"] (sp_Book_init K) := by
  obtain ⟨fd, F⟩ := F_Book_init T
  refine ⟨fd, F.okX sc_Book_init (fun vs H Q E h => ?_) (fun cdv A outer s H vs Q E hr h => ?_), F.binds fun _ _ _ _ _ _ us hl => (match us, hl with | [_, _], _ => rfl)⟩
  · obtain ⟨x, dx, l, us, B, rfl, _⟩ := h
    rfl
  · obtain ⟨x, dx, l, us, B, rfl, hx, I, ok, q⟩ := h
    have hu := hu_of hr
    refine ⟨_, pss_cons (ps_if (pt_cmpR op_gt (pe_callB cr_ln (by rfl) (z_len T) PySem.boot_len (pa_cons (pv 1) pa_nil)) (show PE _ _ (tC (.int 30)) from pe_glob rfl (i_MOST_OFFERS T).choose_spec ⟨_, rfl⟩) (nomark _))
      (pss_one (ps_raise rfl (takes_of rfl rfl rfl rfl) (pmk_own PySem.F.excBase_ValueError (e_TooMany T).1 (g_TooMany T) (e_TooMany T).2.1 (raises_own (e_TooMany T).2.2.1 (e_TooMany T).2.2.2) rfl)))
      pss_nil)
      (pss_cons (ps_expr (pe_cl (E := E) (ok_look_at_names T) hr (hx := passes_call (takes_of rfl rfl rfl rfl) fun _ _ _ _ h => h) (pa_cons (pe_lc (own := [("offer", 2)]) (g := gName 2) rfl sc_Book_init.nd (pi_list (pv 1)) (blkOk_by (own := [("offer", 2)]) (N := ["self", "offers", "offer"]) (sc := defScope s_Book_init) (by decide +kernel)) (fun _ _ _ _ _ => pg_name (i := 2) sc_Book_init.nd rfl (Or.inl rfl)) (fun _ _ _ _ _ => pts_nil) (fun _ _ _ _ _ => (pe_ix (ixT K) (pv 2) pe_int (fun _ _ => rfl)))) pa_nil)))
      (pss_cons (ps_expr (pe_cl (E := E) (ok_look_at_rules T) hr (hx := passes_call (takes_of rfl rfl rfl rfl) fun _ _ _ _ h => h) (pa_cons (pv 1) pa_nil)))
      (pss_cons (ps_expr (pe_cl (E := E) (ok_look_for_rings T) hr (hx := passes_call (takes_of rfl rfl rfl rfl) fun _ _ _ _ h => h) (pa_cons (pv 1) pa_nil)))
      (pss_one (ps_fld (pv 0) (pe_callTy cr_lo (by rfl) (z_list T) (by decide +kernel) (pa_cons (pv 1) pa_nil)) rfl))))), ?_⟩
    have hl0 := I.at_
    have c1 := c_Book T
    have n1 := n_Book_offers T
    have ul := I.its.len
    have few := I.ok.few
    walk_at "oh go"
    refine i_dec (fun c => absurd c (by omega)) (fun _ => ?_)
    walk_at "oh go"
    intro D hD
    refine lc_FL (S := StrV) (fun i => (B.take i).map (·.1)) I.at_ I.its hD rfl ?_ ?_
    · rintro i y ⟨n, p⟩ H1 acc e ⟨t, vr, rfl, ht, hR⟩ X
      walk_at "oh go"
      refine ⟨rfl, ?_⟩
      walk_at "oh go"
      refine made_push StrV.mono X (z := n) rfl ?_ (take_map (f := fun o : Str × Plan Str => o.1) e)
      rw [List.length_map, List.length_take]
      omega
    · intro H1 acc X
      rw [List.take_length] at X
      have hD1 : H1 D = some (.lst ((B.map (·.1)).map V.str)) := (strs_its X.its) ▸ X.at_
      walk_at "oh go"
      refine ⟨D, _, rfl, hD1, fun z hz => ?_, I.ok.nodup, by rw [List.length_map]; exact few, fun H2 s2 => ?_⟩
      · obtain ⟨o, ho, e⟩ := List.mem_map.mp hz
        exact e ▸ ok o ho
      have sm2 := X.sm.trans s2
      walk_at "oh go"
      refine ⟨l, us, B, rfl, I.same sm2, fun H3 s3 => ?_⟩
      have sm3 := sm2.trans s3
      walk_at "oh go"
      refine ⟨l, us, B, rfl, I.same sm3, fun H4 s4 => ?_⟩
      have sm4 := sm3.trans s4
      walk_at "oh go"
      refine i_loL (sm4 _ _ hl0) fun k nk => ?_
      have hx4 := sm4 _ _ hx
      have nkx : k ≠ x := (ne_of_none hx4 nk).symm
      walk_at "oh go"
      refine q _ k (fun b u nb e => ?_) upd_same ?_
      · rw [upd_ne nb]
        exact get_new nk (sm4 _ _ e)
      · rw [upd_ne nkx]
        exact upd_same
end
end OH
set_option Elab.async false
set_option linter.all false
set_option maxRecDepth 100000
set_option maxHeartbeats 4000000
namespace OH
open PySem PySem.Spec PyProof.Rows L2
theorem i_lnq {K : PySem.W.Frag} {H : Hp} {Q : VK} {p : Addr} {xs : List V} (h : SqL K H p xs) (q : Q (.int xs.length) H) : rLn K [.ref p] H Q := ⟨p, xs, rfl, .inl h, q⟩
theorem i_ixq {K : PySem.W.Frag} {H : Hp} {Q : VK} {p : Addr} {xs : List V} {i : Int} {v : V} (h : SqL K H p xs) (e : atI xs i = some v) (q : Q v H) : rIxL K (.ref p) (.int i) H Q := ⟨p, xs, i, v, rfl, rfl, h, e, q⟩
theorem SqL.same {K : PySem.W.Frag} {H H' : Hp} {p : Addr} {xs : List V} (s : Same H H') (h : SqL K H p xs) : SqL K H' p xs := by
  rcases h with (h | ⟨o, h⟩) | h
  · exact .inl (.inl (s _ _ h))
  · exact .inl (.inr ⟨o, s _ _ h⟩)
  · exact .inr h
section
variable {P : Program} {w : World} {K : PySem.W.Frag} {mg : Str → Option Value} {base : Heap}
/-- a known object: through what has changed since -/
local macro_rules | `(tactic| walk_at "oh hp") => `(tactic| first | assumption | exact upd_same | (refine get_new (by assumption) ?_; walk_at "oh hp") | (refine get_mut (by assumption) ?_ (by intro z; cases z); walk_at "oh hp") | (refine same_get (by assumption) ?_; walk_at "oh hp") | (refine ts_get (by assumption) ?_; walk_at "oh hp") | (refine same_get (LL.sm (by assumption)) ?_; walk_at "oh hp") | exact LL.at_ (by assumption))
local macro_rules | `(tactic| walk_at "oh sc") => `(tactic| exact ⟨rfl, rfl, rfl, by decide +kernel, rfl, by decide +kernel, by decide +kernel⟩)
/-- one step of a reading -/
local macro_rules | `(tactic| walk_at "oh 1") => `(tactic| with_reducible first
  | refine i_var rfl ?_ | refine i_c ?_ | refine i_op ?_ | refine i_I0 ?_ | refine i_cons ?_ | refine i_nil ?_ | refine i_asg ?_ | refine i_name ?_ | refine i_seq ?_ | refine i_ifS ?_ | refine i_test ?_ | refine i_bl ?_ | refine i_call ?_ | refine i_CB ?_
  | refine i_tup ?_ | refine i_lst ?_ | refine i_eqI ?_ | refine i_eqS ?_ | refine i_neI ?_ | refine i_un ?_ | refine i_U ?_ | refine i_ret ?_ | refine i_retN ?_ | refine i_next ?_ | refine i_cont ?_ | refine i_drop ?_ | refine i_B ?_ | refine i_and ?_ | refine i_or ?_ | refine i_not ?_ | refine i_mn ?_ | refine i_mx ?_ | refine i_isN ?_ | refine i_notN ?_ | refine i_bm ?_ | refine i_bm0 ?_ | refine i_rn ?_ | refine i_nn ?_ | refine i_rn' ?_ | refine i_nn' ?_ | refine i_gcons ?_ | refine i_gnil ?_ | refine i_orV ?_ | refine i_andV ?_ | refine i_notV ?_ | refine i_chain ?_ | refine i_forL ?_ | refine i_iL ?_ | refine i_iT ?_ | refine i_lc ?_ | refine i_yes ?_ | refine i_sortS ?_ | refine i_lenS ?_ | refine i_slL ?_ | refine i_noP ?_ | refine i_part ?_ | refine i_fld ?_ | refine i_sFld ?_ | refine i_dget ?_ | refine i_meth ?_ | refine i_dnot ?_ | refine i_aug rfl ?_ | refine i_ip ?_ | refine iteT ?_ | refine iteF ?_ | refine i_nT ?_ | refine i_nF ?_)
local macro_rules | `(tactic| walk_at "oh 2") => `(tactic| first | ((with_reducible refine' i_atP ?h ?c ?n ?l ?q); (case h => walk_at "oh hp"); (case c => assumption); (case n => assumption); (case l => exact Nat.le_of_ble_eq_true rfl)) | ((with_reducible refine' i_atF ?h ?c ?n ?l ?q); (case h => walk_at "oh hp"); (case c => assumption); (case n => assumption); (case l => rfl)) | ((with_reducible refine' i_ixT ?h ?e ?q); (case h => walk_at "oh hp"); (case e => rfl)) | ((with_reducible refine' i_gtup ?h ?e ?q); (case h => walk_at "oh hp"); (case e => rfl)) | ((with_reducible refine' i_atL ?h ?q); (case h => walk_at "oh hp")) | ((with_reducible refine' i_atT ?h ?q); (case h => walk_at "oh hp")) | ((with_reducible refine' i_tyL ?h ?q); (case h => walk_at "oh hp")) | ((with_reducible refine' i_lnL ?h ?q); (case h => walk_at "oh hp")) | ((with_reducible refine' i_lnT ?h ?q); (case h => walk_at "oh hp")))
local macro_rules | `(tactic| walk_at "oh go") => `(tactic| repeat first | walk_at "oh 1" | walk_at "oh 2")
def sp_law_at (K : PySem.W.Frag) : Sp := fun vs H Q _ => ∃ (a : Addr) (ns : List Int) (k : Int), vs = [.ref a, .int k] ∧ SqL K H a (ns.map V.int) ∧ 0 ≤ k ∧ ∀ c : Int, Q (.int c) H
/- slots: 0 script, 1 k -/
theorem sc_law_at : FnScope ["script", "k"] ["script", "k"] (defScope s_law_at) := by walk_at "oh sc"
theorem ok_law_at (T : Pg K mg) : Ok P w K mg base CX0 1 "_law_at" ["script", "k"] (sp_law_at K) := by
  obtain ⟨fd, F⟩ := F_law_at T
  refine ⟨fd, F.ok sc_law_at (fun vs H Q E h => ?_) (fun cdv A outer s H vs Q E hr h => ?_), F.binds fun _ _ _ _ _ _ us hl => (match us, hl with | [_, _], _ => rfl), F.kp, g_law_at T⟩
  · obtain ⟨a, ns, k, rfl, _⟩ := h
    rfl
  · obtain ⟨a, ns, k, rfl, hs, k0, q⟩ := h
    have hu := hu_of hr
    refine ⟨_, pss_cons (ps_if (pt_cmpR op_lt (pv 1) (pe_callB cr_ln (by rfl) (z_len T) PySem.boot_len (pa_cons (pv 0) pa_nil)) (nomark _))
      (pss_one (ps_ret (pe_ix ix_list (pv 0) (pv 1) (fun _ _ => rfl))))
      pss_nil)
      (pss_one (ps_ret pe_int)), ?_⟩
    walk_at "oh go"
    refine i_lnq hs ?_
    walk_at "oh go"
    refine i_dec (fun c => ?_) (fun c => ?_)
    · walk_at "oh go"
      rw [List.length_map] at c
      obtain ⟨n, rfl⟩ : ∃ n : Nat, k = (n : Int) := ⟨k.toNat, by omega⟩
      have lt : n < ns.length := by omega
      refine i_ixq hs (v := .int ns[n]) (atI_nat ?_) (q _)
      rw [List.getElem?_map, List.getElem?_eq_getElem lt]
      rfl
    · walk_at "oh go"
      exact q 0
def sp_law_mix : Sp := fun vs H Q _ => ∃ cell k size : Int, vs = [.int cell, .int k, .int size] ∧ 0 ≤ k ∧ k ≤ 300 ∧ 1 ≤ size ∧ ∀ r : Int, 0 ≤ r → r < size → Q (.int r) H
theorem sz_lit {n : Nat} {i : Int} (h : i.natAbs.log2 < n) (h0 : i ≠ 0) : Sz n i := (Nat.log2_lt (by omega)).mp h
/- slots: 0 cell, 1 k, 2 size, 3 odd, 4 big -/
theorem sc_law_mix : FnScope ["cell", "k", "size", "odd", "big"] ["cell", "k", "size"] (defScope s_law_mix) := by walk_at "oh sc"
theorem ok_law_mix (T : Pg K mg) : Ok P w K mg base CX0 1 "_law_mix" ["cell", "k", "size"] sp_law_mix := by
  obtain ⟨fd, F⟩ := F_law_mix T
  refine ⟨fd, F.ok sc_law_mix (fun vs H Q E h => ?_) (fun cdv A outer s H vs Q E hr h => ?_), F.binds fun _ _ _ _ _ _ us hl => (match us, hl with | [_, _, _], _ => rfl), F.kp, g_law_mix T⟩
  · obtain ⟨cell, k, size, rfl, _⟩ := h
    rfl
  · obtain ⟨cell, k, size, rfl, k0, k1, s1, q⟩ := h
    have hu := hu_of hr
    refine ⟨_, pss_cons (ps_set (i := 3) sc_law_mix.nd rfl (Or.inl rfl) (pe_op op_add pe_int (pe_op op_mulW (pe_op op_mulW pe_int (pv 1)) (pv 1))))
      (pss_cons (ps_set (i := 4) sc_law_mix.nd rfl (Or.inl rfl) (pe_op op_add (pe_op op_mulW (pe_op op_add (pe_op op_mod (pv 0) (pe_op op_pow pe_int pe_int)) pe_int) (pv 3)) (pe_op op_mulW pe_int (pv 1))))
      (pss_one (ps_ret (pe_op op_mod (pe_op op_fdivW (pe_op op_mod (pe_op op_mulW (pv 4) (pv 4)) (pe_op op_add (pe_op op_pow pe_int pe_int) pe_int)) pe_int) (pv 2))))), ?_⟩
    have sk : Sz 9 k := by unfold Sz; omega
    walk_at "oh go"
    refine i_I (bg_mul ((show Sz 2 2 by unfold Sz; decide).mono (by decide)) (sk.mono (by decide))) ?_
    walk_at "oh go"
    refine i_I (bg_mul (((show Sz 2 2 by unfold Sz; decide).mul sk).mono (by decide)) (sk.mono (by decide))) ?_
    walk_at "oh go"
    refine i_I (⟨by decide, by decide, by decide⟩ : CPow 10 60) ?_
    have t60 : (10 : Int) ^ (60 : Int).toNat = 1000000000000000000000000000000000000000000000000000000000000 := by decide +kernel
    rw [t60]
    walk_at "oh go"
    refine i_I (by decide : (0 : Int) < 1000000000000000000000000000000000000000000000000000000000000) ?_
    walk_at "oh go"
    have c1 : Sz 200 (cell % 1000000000000000000000000000000000000000000000000000000000000) := by
      have h1 := Int.emod_nonneg cell (show (1000000000000000000000000000000000000000000000000000000000000 : Int) ≠ 0 by decide)
      have h2 := Int.emod_lt_of_pos cell (show (0 : Int) < 1000000000000000000000000000000000000000000000000000000000000 by decide)
      exact Sz.btw (i := 0) (k := 1000000000000000000000000000000000000000000000000000000000000) Sz.zero (by unfold Sz; decide) h1 (Int.le_of_lt h2)
    have c2 : Sz 201 (cell % 1000000000000000000000000000000000000000000000000000000000000 + 1) := c1.add ((show Sz 2 1 by unfold Sz; decide).mono (by decide))
    have o1 : Sz 180 (2 * k) := ((show Sz 2 2 by unfold Sz; decide).mul sk).mono (by decide)
    have o2 : Sz 190 (2 * k * k) := (((show Sz 2 2 by unfold Sz; decide).mul sk).mul sk).mono (by decide)
    have o3 : Sz 191 (271828182845904523536028747135266249775724709369995 + 2 * k * k) := (show Sz 190 271828182845904523536028747135266249775724709369995 by unfold Sz; decide).add o2
    have o4 : Sz 20 7907 := by unfold Sz; decide
    refine i_I (bg_mul (c2.mono (by decide)) (o3.mono (by decide))) ?_
    walk_at "oh go"
    refine i_I (bg_mul (o4.mono (by decide)) (sk.mono (by decide))) ?_
    walk_at "oh go"
    have b1 := (c2.mul o3).add ((o4.mul sk).mono (by decide : 20 + 9 ≤ 201 + 191))
    generalize (cell % 1000000000000000000000000000000000000000000000000000000000000 + 1) * (271828182845904523536028747135266249775724709369995 + 2 * k * k) + 7907 * k = big at b1 ⊢
    refine i_I (bg_mul (b1.mono (by decide)) (b1.mono (by decide))) ?_
    walk_at "oh go"
    refine i_I (⟨by decide, by decide, by decide⟩ : CPow 10 60) ?_
    rw [t60]
    walk_at "oh go"
    refine i_I (by decide : (0 : Int) < 1000000000000000000000000000000000000000000000000000000000000 + 7) ?_
    walk_at "oh go"
    refine i_I (bg_div (by decide) (by unfold Bg Sz; decide)) ?_
    walk_at "oh go"
    refine i_I (by omega : (0 : Int) < size) ?_
    exact q _ (Int.emod_nonneg _ (by omega)) (Int.emod_lt_of_pos _ (by omega))
end
end OH
set_option Elab.async false
set_option linter.all false
set_option maxRecDepth 100000
set_option maxHeartbeats 4000000
set_option exponentiation.threshold 10000
namespace OH
open PySem PySem.Spec PyProof.Rows L2
theorem t9 : (10 : Int) ^ (9 : Int).toNat = 1000000000 := by decide +kernel
theorem t39 : (10 : Int) ^ (39 : Int).toNat = 1000000000000000000000000000000000000000 := by decide +kernel
theorem one_sz {n : Nat} (h : 2 ≤ n := by decide) : Sz n 1 := (show Sz 2 1 by unfold Sz; decide).mono h
section
variable {P : Program} {w : World} {K : PySem.W.Frag} {mg : Str → Option Value} {base : Heap}
/-- a known object: through what has changed since -/
local macro_rules | `(tactic| walk_at "oh hp") => `(tactic| first | assumption | exact upd_same | (refine get_new (by assumption) ?_; walk_at "oh hp") | (refine get_mut (by assumption) ?_ (by intro z; cases z); walk_at "oh hp") | (refine same_get (by assumption) ?_; walk_at "oh hp") | (refine ts_get (by assumption) ?_; walk_at "oh hp") | (refine same_get (LL.sm (by assumption)) ?_; walk_at "oh hp") | exact LL.at_ (by assumption))
local macro_rules | `(tactic| walk_at "oh sc") => `(tactic| exact ⟨rfl, rfl, rfl, by decide +kernel, rfl, by decide +kernel, by decide +kernel⟩)
/-- one step of a reading -/
local macro_rules | `(tactic| walk_at "oh 1") => `(tactic| with_reducible first
  | refine i_var rfl ?_ | refine i_c ?_ | refine i_op ?_ | refine i_I0 ?_ | refine i_cons ?_ | refine i_nil ?_ | refine i_asg ?_ | refine i_name ?_ | refine i_seq ?_ | refine i_ifS ?_ | refine i_test ?_ | refine i_bl ?_ | refine i_call ?_ | refine i_CB ?_
  | refine i_tup ?_ | refine i_lst ?_ | refine i_eqI ?_ | refine i_eqS ?_ | refine i_neI ?_ | refine i_un ?_ | refine i_U ?_ | refine i_ret ?_ | refine i_retN ?_ | refine i_next ?_ | refine i_cont ?_ | refine i_drop ?_ | refine i_B ?_ | refine i_and ?_ | refine i_or ?_ | refine i_not ?_ | refine i_mn ?_ | refine i_mx ?_ | refine i_isN ?_ | refine i_notN ?_ | refine i_bm ?_ | refine i_bm0 ?_ | refine i_rn ?_ | refine i_nn ?_ | refine i_rn' ?_ | refine i_nn' ?_ | refine i_gcons ?_ | refine i_gnil ?_ | refine i_orV ?_ | refine i_andV ?_ | refine i_notV ?_ | refine i_chain ?_ | refine i_forL ?_ | refine i_iL ?_ | refine i_iT ?_ | refine i_lc ?_ | refine i_yes ?_ | refine i_sortS ?_ | refine i_lenS ?_ | refine i_slL ?_ | refine i_noP ?_ | refine i_part ?_ | refine i_fld ?_ | refine i_sFld ?_ | refine i_dget ?_ | refine i_meth ?_ | refine i_dnot ?_ | refine i_aug rfl ?_ | refine i_ip ?_ | refine iteT ?_ | refine iteF ?_ | refine i_nT ?_ | refine i_nF ?_)
local macro_rules | `(tactic| walk_at "oh 2") => `(tactic| first | ((with_reducible refine' i_atP ?h ?c ?n ?l ?q); (case h => walk_at "oh hp"); (case c => assumption); (case n => assumption); (case l => exact Nat.le_of_ble_eq_true rfl)) | ((with_reducible refine' i_atF ?h ?c ?n ?l ?q); (case h => walk_at "oh hp"); (case c => assumption); (case n => assumption); (case l => rfl)) | ((with_reducible refine' i_ixT ?h ?e ?q); (case h => walk_at "oh hp"); (case e => rfl)) | ((with_reducible refine' i_gtup ?h ?e ?q); (case h => walk_at "oh hp"); (case e => rfl)) | ((with_reducible refine' i_atL ?h ?q); (case h => walk_at "oh hp")) | ((with_reducible refine' i_atT ?h ?q); (case h => walk_at "oh hp")) | ((with_reducible refine' i_tyL ?h ?q); (case h => walk_at "oh hp")) | ((with_reducible refine' i_lnL ?h ?q); (case h => walk_at "oh hp")) | ((with_reducible refine' i_lnT ?h ?q); (case h => walk_at "oh hp")))
local macro_rules | `(tactic| walk_at "oh go") => `(tactic| repeat first | walk_at "oh 1" | walk_at "oh 2")
def sp_law_price : Sp := fun vs H Q _ => ∃ cell k : Int, vs = [.int cell, .int k] ∧ 0 ≤ k ∧ k ≤ 100 ∧ ∀ (r : Int) H', Same H H' → Sz 130 r → Q (.int r) H'
/- slots: 0 cell, 1 k, 2 most -/
theorem sc_law_price : FnScope ["cell", "k", "most"] ["cell", "k"] (defScope s_law_price) := by walk_at "oh sc"
theorem ok_law_price (T : Pg K mg) : Ok P w K mg base CX0 2 "_law_price" ["cell", "k"] sp_law_price := by
  obtain ⟨fd, F⟩ := F_law_price T
  refine ⟨fd, F.ok sc_law_price (fun vs H Q E h => ?_) (fun cdv A outer s H vs Q E hr h => ?_), F.binds fun _ _ _ _ _ _ us hl => (match us, hl with | [_, _], _ => rfl), F.kp, g_law_price T⟩
  · obtain ⟨cell, k, rfl, _⟩ := h
    rfl
  · obtain ⟨cell, k, rfl, k0, k1, q⟩ := h
    have hu := hu_of hr
    refine ⟨_, pss_cons (ps_set (i := 2) sc_law_price.nd rfl (Or.inl rfl) (pe_ix ix_list (pe_lst (pa_cons pe_int (pa_cons (pe_op op_pow pe_int pe_int) (pa_cons (pe_op op_pow pe_int pe_int) pa_nil)))) (pe_c0 (ok_law_mix T) hr (pa_cons (pv 0) (pa_cons (pe_op op_add (pv 1) pe_int) (pa_cons pe_int pa_nil)))) (fun _ _ => rfl)))
      (pss_one (ps_ret (pe_op op_sub (pe_c0 (ok_law_mix T) hr (pa_cons (pv 0) (pa_cons (pv 1) (pa_cons (pe_op op_add (pe_op op_mulW pe_int (pv 2)) pe_int) pa_nil)))) (pv 2)))), ?_⟩
    walk_at "oh go"
    refine i_I (⟨by decide, by decide, by decide⟩ : CPow 10 9) ?_
    rw [t9]
    walk_at "oh go"
    refine i_I (⟨by decide, by decide, by decide⟩ : CPow 10 39) ?_
    rw [t39]
    walk_at "oh go"
    refine ⟨Nat.le_of_ble_eq_true rfl, fun l nl => ?_⟩
    walk_at "oh go"
    refine ⟨cell, _, 3, rfl, by omega, by omega, by decide, fun r r0 r1 => ?_⟩
    walk_at "oh go"
    have s1 := same_new nl (.lst [.int 3, .int 1000000000, .int 1000000000000000000000000000000000000000])
    have fin : ∀ m : Int, 1 ≤ m → Sz 130 m → m ≤ 1000000000000000000000000000000000000000 → ∀ r : Int, 0 ≤ r → r < 2 * m + 1 → Sz 130 (r - m) := fun m h1 h2 h3 r h4 h5 => Sz.btw (i := -m) (k := m) h2.neg h2 (by omega) (by omega)
    rcases (by omega : r = 0 ∨ r = 1 ∨ r = 2) with rfl | rfl | rfl
    · refine i_ixL upd_same rfl ?_
      walk_at "oh go"
      refine i_I (bg_mul (by unfold Bg Sz; decide) (by unfold Bg Sz; decide)) ?_
      walk_at "oh go"
      refine ⟨cell, k, _, rfl, k0, by omega, by decide, fun r r0 r1 => ?_⟩
      walk_at "oh go"
      exact q _ _ s1 (fin 3 (by decide) (by unfold Sz; decide) (by decide) r r0 r1)
    · refine i_ixL upd_same rfl ?_
      walk_at "oh go"
      refine i_I (bg_mul (by unfold Bg Sz; decide) (by unfold Bg Sz; decide)) ?_
      walk_at "oh go"
      refine ⟨cell, k, _, rfl, k0, by omega, by decide, fun r r0 r1 => ?_⟩
      walk_at "oh go"
      exact q _ _ s1 (fin _ (by decide) (by unfold Sz; decide) (by decide) r r0 r1)
    · refine i_ixL upd_same rfl ?_
      walk_at "oh go"
      refine i_I (bg_mul (by unfold Bg Sz; decide) (by unfold Bg Sz; decide)) ?_
      walk_at "oh go"
      refine ⟨cell, k, _, rfl, k0, by omega, by decide, fun r r0 r1 => ?_⟩
      walk_at "oh go"
      exact q _ _ s1 (fin _ (by decide) (by unfold Sz; decide) (by decide) r r0 r1)
/-- a scale -/
structure ScaleIn (s : Int) : Prop where
  one : 1 ≤ s
  most : s ≤ 100000000000000000000000000000000000000
theorem ScaleIn.sz {s r : Int} (h : ScaleIn s) (h0 : 0 ≤ r) (h1 : r ≤ 3 * s) : Sz 129 r := by
  have := h.most
  exact Sz.btw (i := 0) (k := 300000000000000000000000000000000000000) Sz.zero (by unfold Sz; decide) h0 (by omega)
def sp_law_rows : Sp := fun vs H Q _ => ∃ cell scale : Int, vs = [.int cell, .int scale] ∧ ScaleIn scale ∧ ∀ l us (r : Rows) H', H l = none → Same H H' → H' l = some (.lst us) → Its LnV H' us r → RowsOk r → Q (.ref l) H'
/- slots: 0 cell, 1 scale, 2 rows, 3 top, 4 j -/
theorem sc_law_rows : FnScope ["cell", "scale", "rows", "top", "j"] ["cell", "scale"] (defScope s_law_rows) := by walk_at "oh sc"
theorem ok_law_rows (T : Pg K mg) : Ok P w K mg base CX0 3 "_law_rows" ["cell", "scale"] sp_law_rows := by
  obtain ⟨fd, F⟩ := F_law_rows T
  refine ⟨fd, F.ok sc_law_rows (fun vs H Q E h => ?_) (fun cdv A outer s H vs Q E hr h => ?_), F.binds fun _ _ _ _ _ _ us hl => (match us, hl with | [_, _], _ => rfl), F.kp, g_law_rows T⟩
  · obtain ⟨cell, scale, rfl, _⟩ := h
    rfl
  · obtain ⟨cell, scale, rfl, S, q⟩ := h
    have hu := hu_of hr
    refine ⟨_, pss_cons (ps_set (i := 2) sc_law_rows.nd rfl (Or.inl rfl) (pe_lst pa_nil))
      (pss_cons (ps_set (i := 3) sc_law_rows.nd rfl (Or.inl rfl) (pe_op op_fdivW (pe_op op_mulW (pe_c0 (ok_law_mix T) hr (pa_cons (pv 0) (pa_cons pe_int (pa_cons (pv 1) pa_nil)))) (pe_c0 (ok_law_mix T) hr (pa_cons (pv 0) (pa_cons pe_int (pa_cons pe_int pa_nil))))) pe_int))
      (pss_cons (ps_for PassesOwn.never rfl (pi_range1 (by rfl) (z_range T) (pa_cons (pe_op op_add pe_int (pe_c0 (ok_law_mix T) hr (pa_cons (pv 0) (pa_cons pe_int (pa_cons pe_int pa_nil))))) pa_nil)) (pg_name (i := 4) sc_law_rows.nd rfl (Or.inl rfl))
      (pss_cons (ps_expr (pe_bm PySem.F.plainAttrs_list PySem.F.slot_list_append PySem.F.type_list_append mt_append (pv 2) (pa_cons (pe_tup (pa_cons (pv 3) (pa_cons (pe_c0 (ok_law_price T) hr (pa_cons (pv 0) (pa_cons (pe_op op_add pe_int (pv 4)) pa_nil))) pa_nil))) pa_nil)))
        (pss_one (ps_set (i := 3) sc_law_rows.nd rfl (Or.inl rfl) (pe_op op_add (pe_op op_add (pv 3) pe_int) (pe_c0 (ok_law_mix T) hr (pa_cons (pv 0) (pa_cons (pe_op op_add pe_int (pv 4)) (pa_cons (pv 1) pa_nil)))))))))
      (pss_one (ps_ret (pv 2))))), ?_⟩
    have s1 := S.one
    have s2 := S.most
    walk_at "oh go"
    refine ⟨Nat.le_of_ble_eq_true rfl, fun l nl => ?_⟩
    walk_at "oh go"
    refine ⟨cell, 30, scale, rfl, by decide, by decide, s1, fun r1 a0 a1 => ?_⟩
    walk_at "oh go"
    refine ⟨cell, 31, 3, rfl, by decide, by decide, by decide, fun r2 b0 b1 => ?_⟩
    walk_at "oh go"
    refine i_I (bg_mul ((S.sz a0 (by omega)).mono (by decide)) ((show Sz 2 r2 by unfold Sz; omega).mono (by decide))) ?_
    walk_at "oh go"
    refine i_I (bg_div (by decide) (by unfold Bg Sz; decide)) ?_
    have t0 : 0 ≤ r1 * r2 / 2 ∧ r1 * r2 / 2 ≤ scale := by
      have h1 : 0 ≤ r1 * r2 := Int.mul_nonneg a0 b0
      have h2 : r1 * r2 ≤ r1 * 2 := Int.mul_le_mul_of_nonneg_left (by omega) a0
      omega
    generalize r1 * r2 / 2 = top at t0
    walk_at "oh go"
    refine i_rng1 ?_
    walk_at "oh go"
    refine ⟨cell, 32, 2, rfl, by decide, by decide, by decide, fun r3 d0 d1 => ?_⟩
    walk_at "oh go"
    refine ⟨1 + r3, rfl, by omega, by omega, ?_⟩
    have n2 : (1 + r3).toNat ≤ 2 ∧ 1 ≤ (1 + r3).toNat := by omega
    refine for_n (fun i σ H' => ∃ acc L top o4, σ = [some (.int cell), some (.int scale), some (.ref l), some (.int top), o4] ∧ LL LnV H l H' acc L ∧ L.length = i ∧ L.Pairwise (fun a b => a.1 < b.1) ∧ (∀ q ∈ L, 0 ≤ q.1 ∧ q.1 < top ∧ Sz 130 q.1 ∧ Sz 130 q.2) ∧ 0 ≤ top ∧ top ≤ scale + i * scale)
      ⟨[], [], top, none, rfl, LL.new (Same.refl _) nl, rfl, List.Pairwise.nil, fun q h => (nomatch h), t0.1, by rw [Int.natCast_zero, Int.zero_mul]; omega⟩ ?_ ?_
    · rintro i σ H1 hi ⟨acc, L, top, o4, rfl, X, e, pw, al, tp0, tp1⟩
      have ll := X.len
      have i2 : i ≤ 1 := by omega
      have tb : top ≤ 2 * scale := by
        have h1 : (i : Int) * scale ≤ 1 * scale := Int.mul_le_mul_of_nonneg_right (by omega) (by omega)
        omega
      walk_at "oh go"
      refine ⟨cell, _, rfl, by omega, by omega, fun pr H2 s2 sp => ?_⟩
      walk_at "oh go"
      refine ⟨Nat.le_of_ble_eq_true rfl, fun k nk => ?_⟩
      walk_at "oh go"
      have X2 := X.step LnV.mono s2
      refine i_app (by walk_at "oh hp") (by omega) ?_
      walk_at "oh go"
      refine ⟨cell, _, scale, rfl, by omega, by omega, s1, fun r4 e0 e1 => ?_⟩
      walk_at "oh go"
      have X3 := X2.pushN LnV.mono (y := (top, pr)) nk ⟨k, rfl, upd_same⟩
      refine ⟨_, L ++ [(top, pr)], top + 1 + r4, _, rfl, X3, by rw [List.length_append, e]; rfl, List.pairwise_append.mpr ⟨pw, List.pairwise_singleton _ _, fun a ha b hb => ?_⟩, fun q hq => ?_, by omega, ?_⟩
      · rw [List.mem_singleton.mp hb]
        exact (al a ha).2.1
      · rcases List.mem_append.mp hq with h | h
        · obtain ⟨h1, h2, h3, h4⟩ := al q h
          exact ⟨h1, by omega, h3, h4⟩
        · rw [List.mem_singleton.mp h]
          exact ⟨tp0, by show top < _; omega, (S.sz tp0 (by omega)).mono (by decide), sp⟩
      · rw [Int.natCast_add, Int.add_mul]
        have : ((1 : Nat) : Int) * scale = scale := Int.one_mul scale
        omega
    · rintro σ H1 ⟨acc, L, top, o4, rfl, X, e, pw, al, tp0, tp1⟩
      walk_at "oh go"
      exact q l acc L H1 nl X.sm X.at_ X.its ⟨fun z => by rw [z] at e; simp at e; omega, pw, fun q hq => (al q hq).1, fun q hq => ⟨(al q hq).2.2.1, (al q hq).2.2.2⟩, by omega⟩
end
end OH
set_option Elab.async false
set_option linter.all false
set_option maxRecDepth 100000
set_option maxHeartbeats 4000000
set_option exponentiation.threshold 10000
namespace OH
open PySem PySem.Spec PyProof.Rows L2
theorem i_sF {x y : Str} {A B : Prop} (c : decide (x = y) = false) (q : B) : if decide (x = y) = true then A else B := by
  rw [c]
  exact iteF q
theorem i_sT {x y : Str} {A B : Prop} (c : decide (x = y) = true) (q : A) : if decide (x = y) = true then A else B := by
  rw [c]
  exact iteT q
theorem i_neS {x y : Str} {H : Hp} {Q : VK} (h : Q (.bl (!decide (x = y))) H) : rNe (.str x) (.str y) H Q := ⟨rfl, by
  have e : decide (V.str x = V.str y) = decide (x = y) := by
    by_cases q : x = y
    · rw [decide_eq_true q, decide_eq_true (congrArg V.str q)]
    · rw [decide_eq_false q, decide_eq_false fun z => q (V.str.inj z)]
  rw [e]
  exact h⟩
/-! ### plans in the heap -/
def PlanV (H : Hp) : Plan Str → V → Prop
  | .each u lo hi, v => ∃ t, v = .ref t ∧ H t = some (.tup [.str "each", .int u, .int lo, .int hi])
  | .flat p lo hi, v => ∃ t, v = .ref t ∧ H t = some (.tup [.str "flat", .int p, .int lo, .int hi])
  | .bands r, v => ∃ t l vs, v = .ref t ∧ H t = some (.tup [.str "bands", .ref l]) ∧ H l = some (.lst vs) ∧ Its LnV H vs r
  | .steps r, v => ∃ t l vs, v = .ref t ∧ H t = some (.tup [.str "steps", .ref l]) ∧ H l = some (.lst vs) ∧ Its LnV H vs r
  | .blocks s p m, v => ∃ t, v = .ref t ∧ H t = some (.tup [.str "blocks", .int s, .int p, .int m])
  | .name n _, v => ∃ t, v = .ref t ∧ H t = some (.tup [.str "name", .str n])
  | .plus x y, v => ∃ t va vb, v = .ref t ∧ H t = some (.tup [.str "plus", va, vb]) ∧ PlanV H x va ∧ PlanV H y vb
  | .cheap x y, v => ∃ t va vb, v = .ref t ∧ H t = some (.tup [.str "or", va, vb]) ∧ PlanV H x va ∧ PlanV H y vb
  | .dear x y, v => ∃ t va vb, v = .ref t ∧ H t = some (.tup [.str "max", va, vb]) ∧ PlanV H x va ∧ PlanV H y vb
  | .only x lo hi, v => ∃ t va, v = .ref t ∧ H t = some (.tup [.str "only", va, .int lo, .int hi]) ∧ PlanV H x va
  | .after x c, v => ∃ t va, v = .ref t ∧ H t = some (.tup [.str "after", va, .int c]) ∧ PlanV H x va
  | .fee x p, v => ∃ t va, v = .ref t ∧ H t = some (.tup [.str "fee", va, .int p]) ∧ PlanV H x va
abbrev PlanR : RepF (Plan Str) := fun H v p => PlanV H p v
theorem PlanV.same {H H' : Hp} (s : Same H H') : ∀ {p : Plan Str} {v : V}, PlanV H p v → PlanV H' p v := by
  intro p
  induction p with
  | each u lo hi => rintro v ⟨t, e, h⟩; exact ⟨t, e, s _ _ h⟩
  | flat u lo hi => rintro v ⟨t, e, h⟩; exact ⟨t, e, s _ _ h⟩
  | bands r => rintro v ⟨t, l, vs, e, h, h2, i⟩; exact ⟨t, l, vs, e, s _ _ h, s _ _ h2, i.mono LnV.mono (.of s)⟩
  | steps r => rintro v ⟨t, l, vs, e, h, h2, i⟩; exact ⟨t, l, vs, e, s _ _ h, s _ _ h2, i.mono LnV.mono (.of s)⟩
  | blocks u lo hi => rintro v ⟨t, e, h⟩; exact ⟨t, e, s _ _ h⟩
  | name n q _ => rintro v ⟨t, e, h⟩; exact ⟨t, e, s _ _ h⟩
  | plus x y ix iy => rintro v ⟨t, va, vb, e, h, h1, h2⟩; exact ⟨t, va, vb, e, s _ _ h, ix h1, iy h2⟩
  | cheap x y ix iy => rintro v ⟨t, va, vb, e, h, h1, h2⟩; exact ⟨t, va, vb, e, s _ _ h, ix h1, iy h2⟩
  | dear x y ix iy => rintro v ⟨t, va, vb, e, h, h1, h2⟩; exact ⟨t, va, vb, e, s _ _ h, ix h1, iy h2⟩
  | only x lo hi ix => rintro v ⟨t, va, e, h, h1⟩; exact ⟨t, va, e, s _ _ h, ix h1⟩
  | after x c ix => rintro v ⟨t, va, e, h, h1⟩; exact ⟨t, va, e, s _ _ h, ix h1⟩
  | fee x c ix => rintro v ⟨t, va, e, h, h1⟩; exact ⟨t, va, e, s _ _ h, ix h1⟩
/-- the offers that may be named -/
structure Base (ps : Bk) (M N : Nat) : Prop where
  ok : ∀ d ∈ ps, PlanOk d.2
  ops : ∀ d ∈ ps, ops d.2 ≤ M
  nd : ∀ d ∈ ps, nd d.2 < N
structure TreeIn (ps : Bk) (M N wt : Nat) (p : Plan Str) : Prop where
  ok : PlanOk p
  dir : ∀ d ∈ dirs p, d ∈ ps
  few : (dirs p).length ≤ wt
  dp : dep p + 1 ≤ wt
  op : ops p + 1 ≤ M + wt
  n : nd p ≤ N
theorem leaf_in {ps : Bk} {M N : Nat} {p : Plan Str} (h : PlanOk p) (e : dirs p = [] ∧ dep p = 0 ∧ ops p = 0 ∧ nd p = 0) : TreeIn ps M N 1 p :=
  ⟨h, fun d hd => (by rw [e.1] at hd; exact (nomatch hd)), by rw [e.1]; exact Nat.zero_le _, by rw [e.2.1]; exact Nat.le_refl _, by rw [e.2.2.1]; omega, by rw [e.2.2.2]; exact Nat.zero_le _⟩
section
variable {P : Program} {w : World} {K : PySem.W.Frag} {mg : Str → Option Value} {base : Heap}
/-- a known object: through what has changed since -/
local macro_rules | `(tactic| walk_at "oh hp") => `(tactic| first | assumption | exact upd_same | (refine get_new (by assumption) ?_; walk_at "oh hp") | (refine get_mut (by assumption) ?_ (by intro z; cases z); walk_at "oh hp") | (refine same_get (by assumption) ?_; walk_at "oh hp") | (refine ts_get (by assumption) ?_; walk_at "oh hp") | (refine same_get (LL.sm (by assumption)) ?_; walk_at "oh hp") | exact LL.at_ (by assumption))
local macro_rules | `(tactic| walk_at "oh sc") => `(tactic| exact ⟨rfl, rfl, rfl, by decide +kernel, rfl, by decide +kernel, by decide +kernel⟩)
/-- one step of a reading -/
local macro_rules | `(tactic| walk_at "oh 1") => `(tactic| with_reducible first
  | refine i_var rfl ?_ | refine i_c ?_ | refine i_op ?_ | refine i_I0 ?_ | refine i_cons ?_ | refine i_nil ?_ | refine i_asg ?_ | refine i_name ?_ | refine i_seq ?_ | refine i_ifS ?_ | refine i_test ?_ | refine i_bl ?_ | refine i_call ?_ | refine i_CB ?_
  | refine i_tup ?_ | refine i_lst ?_ | refine i_eqI ?_ | refine i_eqS ?_ | refine i_neI ?_ | refine i_un ?_ | refine i_U ?_ | refine i_ret ?_ | refine i_retN ?_ | refine i_next ?_ | refine i_cont ?_ | refine i_drop ?_ | refine i_B ?_ | refine i_and ?_ | refine i_or ?_ | refine i_not ?_ | refine i_mn ?_ | refine i_mx ?_ | refine i_isN ?_ | refine i_notN ?_ | refine i_bm ?_ | refine i_bm0 ?_ | refine i_rn ?_ | refine i_nn ?_ | refine i_rn' ?_ | refine i_nn' ?_ | refine i_gcons ?_ | refine i_gnil ?_ | refine i_orV ?_ | refine i_andV ?_ | refine i_notV ?_ | refine i_chain ?_ | refine i_forL ?_ | refine i_iL ?_ | refine i_iT ?_ | refine i_lc ?_ | refine i_yes ?_ | refine i_sortS ?_ | refine i_lenS ?_ | refine i_slL ?_ | refine i_noP ?_ | refine i_part ?_ | refine i_fld ?_ | refine i_sFld ?_ | refine i_dget ?_ | refine i_meth ?_ | refine i_dnot ?_ | refine i_aug rfl ?_ | refine i_ip ?_ | refine iteT ?_ | refine iteF ?_ | refine i_nT ?_ | refine i_nF ?_)
local macro_rules | `(tactic| walk_at "oh 2") => `(tactic| first | ((with_reducible refine' i_sF ?c ?q); (case c => decide +kernel)) | ((with_reducible refine' i_sT ?c ?q); (case c => decide +kernel)) | ((with_reducible refine' i_atP ?h ?c ?n ?l ?q); (case h => walk_at "oh hp"); (case c => assumption); (case n => assumption); (case l => exact Nat.le_of_ble_eq_true rfl)) | ((with_reducible refine' i_atF ?h ?c ?n ?l ?q); (case h => walk_at "oh hp"); (case c => assumption); (case n => assumption); (case l => rfl)) | ((with_reducible refine' i_ixT ?h ?e ?q); (case h => walk_at "oh hp"); (case e => rfl)) | ((with_reducible refine' i_gtup ?h ?e ?q); (case h => walk_at "oh hp"); (case e => rfl)) | ((with_reducible refine' i_atL ?h ?q); (case h => walk_at "oh hp")) | ((with_reducible refine' i_atT ?h ?q); (case h => walk_at "oh hp")) | ((with_reducible refine' i_tyL ?h ?q); (case h => walk_at "oh hp")) | ((with_reducible refine' i_lnL ?h ?q); (case h => walk_at "oh hp")) | ((with_reducible refine' i_lnT ?h ?q); (case h => walk_at "oh hp")))
local macro_rules | `(tactic| walk_at "oh go") => `(tactic| repeat first | walk_at "oh 1" | walk_at "oh 2")
abbrev RetP (H : Hp) (Q : VK) (ps : Bk) (M N wt : Nat) : Prop := ∀ v p H', Same H H' → PlanV H' p v → TreeIn ps M N wt p → Q v H'
def sp_law_leaf : Sp := fun vs H Q _ => ∃ (cell scale : Int) (l : Addr) (ps : Bk) (M N : Nat), vs = [.int cell, .int scale, .ref l] ∧ ScaleIn scale ∧ H l = some (.lst ((ps.map (·.1)).map V.str)) ∧ ps.length ≤ 4 ∧ Base ps M N ∧ RetP H Q ps M N 1
/- slots: 0 cell, 1 scale, 2 names, 3 kind, 4 price, 5 low, 6 high -/
theorem sc_law_leaf : FnScope ["cell", "scale", "names", "kind", "price", "low", "high"] ["cell", "scale", "names"] (defScope s_law_leaf) := by walk_at "oh sc"
theorem ok_law_leaf (T : Pg K mg) : Ok P w K mg base CX0 4 "_law_leaf" ["cell", "scale", "names"] sp_law_leaf := by
  obtain ⟨fd, F⟩ := F_law_leaf T
  refine ⟨fd, F.ok sc_law_leaf (fun vs H Q E h => ?_) (fun cdv A outer s H vs Q E hr h => ?_), F.binds fun _ _ _ _ _ _ us hl => (match us, hl with | [_, _, _], _ => rfl), F.kp, g_law_leaf T⟩
  · obtain ⟨cell, scale, l, ps, M, N, rfl, _⟩ := h
    rfl
  · obtain ⟨cell, scale, l, ps, M, N, rfl, S, hl, few, BB, q⟩ := h
    have hu := hu_of hr
    refine ⟨_, pss_cons (ps_set (i := 3) sc_law_leaf.nd rfl (Or.inl rfl) (pe_ix ix_list (pe_lst (pa_cons pe_str (pa_cons pe_str (pa_cons pe_str (pa_cons pe_str (pa_cons pe_str (pa_cons pe_str (pa_cons pe_str pa_nil)))))))) (pe_c0 (ok_law_mix T) hr (pa_cons (pv 0) (pa_cons pe_int (pa_cons pe_int pa_nil)))) (fun _ _ => rfl)))
      (pss_cons (ps_set (i := 4) sc_law_leaf.nd rfl (Or.inl rfl) (pe_c0 (ok_law_price T) hr (pa_cons (pv 0) (pa_cons pe_int pa_nil))))
      (pss_cons (ps_set (i := 5) sc_law_leaf.nd rfl (Or.inl rfl) (pe_op op_mulW (pe_c0 (ok_law_mix T) hr (pa_cons (pv 0) (pa_cons pe_int (pa_cons (pv 1) pa_nil)))) (pe_c0 (ok_law_mix T) hr (pa_cons (pv 0) (pa_cons pe_int (pa_cons pe_int pa_nil))))))
      (pss_cons (ps_set (i := 6) sc_law_leaf.nd rfl (Or.inl rfl) (pe_op op_add (pv 5) (pe_op op_mulW (pe_c0 (ok_law_mix T) hr (pa_cons (pv 0) (pa_cons pe_int (pa_cons (pv 1) pa_nil)))) (pe_c0 (ok_law_mix T) hr (pa_cons (pv 0) (pa_cons pe_int (pa_cons pe_int pa_nil)))))))
      (pss_cons (ps_if (PW.pt (pw_or (pt_cmpR op_eq (pv 3) pe_str (nomark _)) (pw_or1 (pt_cmpR op_eq (pv 3) pe_str (nomark _)))))
      (pss_one (ps_ret (pe_tup (pa_cons (pv 3) (pa_cons (pe_c0 (ok_law_rows T) hr (pa_cons (pv 0) (pa_cons (pv 1) pa_nil))) pa_nil)))))
      pss_nil)
      (pss_cons (ps_if (pt_cmpR op_eq (pv 3) pe_str (nomark _))
      (pss_one (ps_ret (pe_tup (pa_cons (pv 3) (pa_cons (pe_op op_add pe_int (pe_c0 (ok_law_mix T) hr (pa_cons (pv 0) (pa_cons pe_int (pa_cons (pv 1) pa_nil))))) (pa_cons (pv 4) (pa_cons (pe_op op_add pe_int (pe_c0 (ok_law_mix T) hr (pa_cons (pv 0) (pa_cons pe_int (pa_cons pe_int pa_nil))))) pa_nil)))))))
      pss_nil)
      (pss_cons (ps_if (PW.pt (pw_and (pt_cmpR op_eq (pv 3) pe_str (nomark _)) (pw_and1 (pt_cmpR op_gt (pe_callB cr_ln (by rfl) (z_len T) PySem.boot_len (pa_cons (pv 2) pa_nil)) pe_int (nomark _)))))
      (pss_one (ps_ret (pe_tup (pa_cons (pv 3) (pa_cons (pe_ix ix_list (pv 2) (pe_c0 (ok_law_mix T) hr (pa_cons (pv 0) (pa_cons pe_int (pa_cons (pe_callB cr_ln (by rfl) (z_len T) PySem.boot_len (pa_cons (pv 2) pa_nil)) pa_nil)))) (fun _ _ => rfl)) pa_nil)))))
      pss_nil)
      (pss_one (ps_ret (pe_tup (pa_cons (pe_ix ix_list (pe_lst (pa_cons pe_str (pa_cons pe_str pa_nil))) (pe_callTy call_int1 (by rfl) (z_int T) (by decide +kernel) (pa_cons (pe_cmpR op_ne (pv 3) pe_str (nomark _)) pa_nil)) (fun _ _ => rfl)) (pa_cons (pv 4) (pa_cons (pv 5) (pa_cons (pv 6) pa_nil))))))))))))), ?_⟩
    have s1 := S.one
    have s2 := S.most
    walk_at "oh go"
    refine ⟨Nat.le_of_ble_eq_true rfl, fun l1 n1 => ?_⟩
    walk_at "oh go"
    refine ⟨cell, 1, 7, rfl, by decide, by decide, by decide, fun r r0 r7 => ?_⟩
    walk_at "oh go"
    obtain ⟨s, hs, es⟩ : ∃ s : Str, atI [V.str "each", V.str "flat", V.str "bands", V.str "steps", V.str "blocks", V.str "name", V.str "name"] r = some (.str s) ∧ (s = "each" ∨ s = "flat" ∨ s = "bands" ∨ s = "steps" ∨ s = "blocks" ∨ s = "name") := by
      rcases (by omega : r = 0 ∨ r = 1 ∨ r = 2 ∨ r = 3 ∨ r = 4 ∨ r = 5 ∨ r = 6) with rfl | rfl | rfl | rfl | rfl | rfl | rfl
      · exact ⟨"each", rfl, .inl rfl⟩
      · exact ⟨"flat", rfl, .inr (.inl rfl)⟩
      · exact ⟨"bands", rfl, .inr (.inr (.inl rfl))⟩
      · exact ⟨"steps", rfl, .inr (.inr (.inr (.inl rfl)))⟩
      · exact ⟨"blocks", rfl, .inr (.inr (.inr (.inr (.inl rfl))))⟩
      · exact ⟨"name", rfl, .inr (.inr (.inr (.inr (.inr rfl))))⟩
      · exact ⟨"name", rfl, .inr (.inr (.inr (.inr (.inr rfl))))⟩
    have sm1 := same_new n1 (.lst [V.str "each", V.str "flat", V.str "bands", V.str "steps", V.str "blocks", V.str "name", V.str "name"])
    refine i_ixL upd_same hs ?_
    generalize upd H l1 (.lst [V.str "each", V.str "flat", V.str "bands", V.str "steps", V.str "blocks", V.str "name", V.str "name"]) = H1 at sm1
    walk_at "oh go"
    refine ⟨cell, 2, rfl, by decide, by decide, fun pr H2 sm2 spr => ?_⟩
    walk_at "oh go"
    refine ⟨cell, 3, scale, rfl, by decide, by decide, s1, fun a a0 a1 => ?_⟩
    walk_at "oh go"
    refine ⟨cell, 4, 2, rfl, by decide, by decide, by decide, fun b b0 b1 => ?_⟩
    walk_at "oh go"
    refine i_I (bg_mul ((S.sz a0 (by omega)).mono (by decide)) ((show Sz 2 b by unfold Sz; omega).mono (by decide))) ?_
    have lw : 0 ≤ a * b ∧ a * b ≤ scale := by
      have h1 : 0 ≤ a * b := Int.mul_nonneg a0 b0
      have h2 : a * b ≤ a * 1 := Int.mul_le_mul_of_nonneg_left (by omega) a0
      omega
    generalize a * b = low at lw
    walk_at "oh go"
    refine ⟨cell, 5, scale, rfl, by decide, by decide, s1, fun c c0 c1 => ?_⟩
    walk_at "oh go"
    refine ⟨cell, 6, 4, rfl, by decide, by decide, by decide, fun d d0 d1 => ?_⟩
    walk_at "oh go"
    refine i_I (bg_mul ((S.sz c0 (by omega)).mono (by decide)) ((show Sz 2 d by unfold Sz; omega).mono (by decide))) ?_
    have hg : 0 ≤ c * d ∧ c * d ≤ 3 * scale := by
      have h1 : 0 ≤ c * d := Int.mul_nonneg c0 d0
      have h2 : c * d ≤ c * 3 := Int.mul_le_mul_of_nonneg_left (by omega) c0
      omega
    generalize c * d = up_ at hg
    have sl : Sz 130 low := (S.sz lw.1 (by omega)).mono (by decide)
    have sh : Sz 130 (low + up_) := Sz.btw (i := 0) (k := 400000000000000000000000000000000000000) Sz.zero (by unfold Sz; decide) (by omega) (by omega)
    have sm := sm1.trans sm2
    have hl2 := sm _ _ hl
    walk_at "oh go"
    rcases es with rfl | rfl | rfl | rfl | rfl | rfl
    · walk_at "oh go"
      refine ⟨Nat.le_of_ble_eq_true rfl, fun l2 n2 => ?_⟩
      walk_at "oh go"
      refine i_neS ?_
      walk_at "oh go"
      refine .inr ⟨_, rfl, ?_⟩
      rw [show (if (!decide (("each" : Str) = "each")) = true then (1 : Int) else 0) = 0 by decide +kernel]
      refine i_ixL upd_same rfl ?_
      walk_at "oh go"
      refine ⟨Nat.le_of_ble_eq_true rfl, fun t nt => ?_⟩
      exact q (.ref t) (.each pr low (low + up_)) _ (sm.trans ((same_new n2 _).trans (same_new nt _))) ⟨t, rfl, upd_same⟩ (leaf_in ⟨by omega, spr, sl, sh⟩ ⟨rfl, rfl, rfl, rfl⟩)
    · walk_at "oh go"
      refine ⟨Nat.le_of_ble_eq_true rfl, fun l2 n2 => ?_⟩
      walk_at "oh go"
      refine i_neS ?_
      walk_at "oh go"
      refine .inr ⟨_, rfl, ?_⟩
      rw [show (if (!decide (("flat" : Str) = "each")) = true then (1 : Int) else 0) = 1 by decide +kernel]
      refine i_ixL upd_same rfl ?_
      walk_at "oh go"
      refine ⟨Nat.le_of_ble_eq_true rfl, fun t nt => ?_⟩
      exact q (.ref t) (.flat pr low (low + up_)) _ (sm.trans ((same_new n2 _).trans (same_new nt _))) ⟨t, rfl, upd_same⟩ (leaf_in ⟨by omega, spr, sl, sh⟩ ⟨rfl, rfl, rfl, rfl⟩)
    · walk_at "oh go"
      refine ⟨cell, scale, rfl, S, fun l3 us rw_ H3 n3 s3 h3 i3 ro => ?_⟩
      walk_at "oh go"
      refine ⟨Nat.le_of_ble_eq_true rfl, fun t nt => ?_⟩
      exact q (.ref t) (.bands rw_) _ (sm.trans (s3.trans (same_new nt _))) ⟨t, l3, us, rfl, upd_same, get_new nt h3, i3.mono LnV.mono (ts_new nt _)⟩ (leaf_in ro ⟨rfl, rfl, rfl, rfl⟩)
    · walk_at "oh go"
      refine ⟨cell, scale, rfl, S, fun l3 us rw_ H3 n3 s3 h3 i3 ro => ?_⟩
      walk_at "oh go"
      refine ⟨Nat.le_of_ble_eq_true rfl, fun t nt => ?_⟩
      exact q (.ref t) (.steps rw_) _ (sm.trans (s3.trans (same_new nt _))) ⟨t, l3, us, rfl, upd_same, get_new nt h3, i3.mono LnV.mono (ts_new nt _)⟩ (leaf_in ro ⟨rfl, rfl, rfl, rfl⟩)
    · walk_at "oh go"
      refine ⟨cell, 7, scale, rfl, by decide, by decide, s1, fun e e0 e1 => ?_⟩
      walk_at "oh go"
      refine ⟨cell, 8, 3, rfl, by decide, by decide, by decide, fun f f0 f1 => ?_⟩
      walk_at "oh go"
      refine ⟨Nat.le_of_ble_eq_true rfl, fun t nt => ?_⟩
      exact q (.ref t) (.blocks (1 + e) pr (1 + f)) _ (sm.trans (same_new nt _)) ⟨t, rfl, upd_same⟩ (leaf_in ⟨by omega, by omega, by omega, Sz.btw (i := 0) (k := 100000000000000000000000000000000000000) Sz.zero (by unfold Sz; decide) (by omega) (by omega), spr⟩ ⟨rfl, rfl, rfl, rfl⟩)
    · walk_at "oh go"
      refine i_dec (fun cc => ?_) (fun cc => ?_)
      · rw [List.length_map, List.length_map] at cc
        walk_at "oh go"
        refine ⟨cell, 9, _, rfl, by decide, by decide, by rw [List.length_map, List.length_map]; omega, fun e e0 e1 => ?_⟩
        rw [List.length_map, List.length_map] at e1
        obtain ⟨n, rfl⟩ : ∃ n : Nat, e = (n : Int) := ⟨e.toNat, by omega⟩
        have lt : n < ps.length := by omega
        refine i_ixL (v := .str ps[n].1) hl2 (atI_nat ?_) ?_
        · rw [List.getElem?_map, List.getElem?_map, List.getElem?_eq_getElem lt]
          rfl
        walk_at "oh go"
        refine ⟨Nat.le_of_ble_eq_true rfl, fun t nt => ?_⟩
        have mem : ps[n] ∈ ps := List.getElem_mem lt
        have h2 := BB.ops _ mem
        have h3 := BB.nd _ mem
        exact q (.ref t) (.name ps[n].1 ps[n].2) _ (sm.trans (same_new nt _)) ⟨t, rfl, upd_same⟩ ⟨BB.ok _ mem, fun d hd => by rw [List.mem_singleton.mp hd]; exact mem, Nat.le_refl _, Nat.le_refl _, Nat.succ_le_succ h2, h3⟩
      · walk_at "oh go"
        refine ⟨Nat.le_of_ble_eq_true rfl, fun l2 n2 => ?_⟩
        walk_at "oh go"
        refine i_neS ?_
        walk_at "oh go"
        refine .inr ⟨_, rfl, ?_⟩
        rw [show (if (!decide (("name" : Str) = "each")) = true then (1 : Int) else 0) = 1 by decide +kernel]
        refine i_ixL upd_same rfl ?_
        walk_at "oh go"
        refine ⟨Nat.le_of_ble_eq_true rfl, fun t nt => ?_⟩
        exact q (.ref t) (.flat pr low (low + up_)) _ (sm.trans ((same_new n2 _).trans (same_new nt _))) ⟨t, rfl, upd_same⟩ (leaf_in ⟨by omega, spr, sl, sh⟩ ⟨rfl, rfl, rfl, rfl⟩)
end
end OH
set_option Elab.async false
set_option linter.all false
set_option maxRecDepth 100000
set_option maxHeartbeats 4000000
set_option exponentiation.threshold 10000
namespace OH
open PySem PySem.Spec PyProof.Rows L2
section
variable {P : Program} {w : World} {K : PySem.W.Frag} {mg : Str → Option Value} {base : Heap}
/-- a known object: through what has changed since -/
local macro_rules | `(tactic| walk_at "oh hp") => `(tactic| first | assumption | exact upd_same | (refine get_new (by assumption) ?_; walk_at "oh hp") | (refine get_mut (by assumption) ?_ (by intro z; cases z); walk_at "oh hp") | (refine same_get (by assumption) ?_; walk_at "oh hp") | (refine ts_get (by assumption) ?_; walk_at "oh hp") | (refine same_get (LL.sm (by assumption)) ?_; walk_at "oh hp") | exact LL.at_ (by assumption))
local macro_rules | `(tactic| walk_at "oh sc") => `(tactic| exact ⟨rfl, rfl, rfl, by decide +kernel, rfl, by decide +kernel, by decide +kernel⟩)
/-- one step of a reading -/
local macro_rules | `(tactic| walk_at "oh 1") => `(tactic| with_reducible first
  | refine i_var rfl ?_ | refine i_c ?_ | refine i_op ?_ | refine i_I0 ?_ | refine i_cons ?_ | refine i_nil ?_ | refine i_asg ?_ | refine i_name ?_ | refine i_seq ?_ | refine i_ifS ?_ | refine i_test ?_ | refine i_bl ?_ | refine i_call ?_ | refine i_CB ?_
  | refine i_tup ?_ | refine i_lst ?_ | refine i_eqI ?_ | refine i_eqS ?_ | refine i_neI ?_ | refine i_un ?_ | refine i_U ?_ | refine i_ret ?_ | refine i_retN ?_ | refine i_next ?_ | refine i_cont ?_ | refine i_drop ?_ | refine i_B ?_ | refine i_and ?_ | refine i_or ?_ | refine i_not ?_ | refine i_mn ?_ | refine i_mx ?_ | refine i_isN ?_ | refine i_notN ?_ | refine i_bm ?_ | refine i_bm0 ?_ | refine i_rn ?_ | refine i_nn ?_ | refine i_rn' ?_ | refine i_nn' ?_ | refine i_gcons ?_ | refine i_gnil ?_ | refine i_orV ?_ | refine i_andV ?_ | refine i_notV ?_ | refine i_chain ?_ | refine i_forL ?_ | refine i_iL ?_ | refine i_iT ?_ | refine i_lc ?_ | refine i_yes ?_ | refine i_sortS ?_ | refine i_lenS ?_ | refine i_slL ?_ | refine i_noP ?_ | refine i_part ?_ | refine i_fld ?_ | refine i_sFld ?_ | refine i_dget ?_ | refine i_meth ?_ | refine i_dnot ?_ | refine i_aug rfl ?_ | refine i_ip ?_ | refine iteT ?_ | refine iteF ?_ | refine i_nT ?_ | refine i_nF ?_)
local macro_rules | `(tactic| walk_at "oh 2") => `(tactic| first | ((with_reducible refine' i_sF ?c ?q); (case c => decide +kernel)) | ((with_reducible refine' i_sT ?c ?q); (case c => decide +kernel)) | ((with_reducible refine' i_atP ?h ?c ?n ?l ?q); (case h => walk_at "oh hp"); (case c => assumption); (case n => assumption); (case l => exact Nat.le_of_ble_eq_true rfl)) | ((with_reducible refine' i_atF ?h ?c ?n ?l ?q); (case h => walk_at "oh hp"); (case c => assumption); (case n => assumption); (case l => rfl)) | ((with_reducible refine' i_ixT ?h ?e ?q); (case h => walk_at "oh hp"); (case e => rfl)) | ((with_reducible refine' i_gtup ?h ?e ?q); (case h => walk_at "oh hp"); (case e => rfl)) | ((with_reducible refine' i_atL ?h ?q); (case h => walk_at "oh hp")) | ((with_reducible refine' i_atT ?h ?q); (case h => walk_at "oh hp")) | ((with_reducible refine' i_tyL ?h ?q); (case h => walk_at "oh hp")) | ((with_reducible refine' i_lnL ?h ?q); (case h => walk_at "oh hp")) | ((with_reducible refine' i_lnT ?h ?q); (case h => walk_at "oh hp")))
local macro_rules | `(tactic| walk_at "oh go") => `(tactic| repeat first | walk_at "oh 1" | walk_at "oh 2")
def sp_law_turned : Sp := fun vs H Q _ => ∃ (v : V) (x : Plan Str) (s : Str) (cell scale : Int) (ps : Bk) (M N wt : Nat), vs = [v, .str s, .int cell, .int scale] ∧ PlanV H x v ∧ TreeIn ps M N wt x ∧ (s = "only" ∨ s = "after" ∨ s = "fee") ∧ ScaleIn scale ∧ RetP H Q ps M N (wt + 1)
/- slots: 0 one, 1 kind, 2 cell, 3 scale, 4 low -/
theorem sc_law_turned : FnScope ["one", "kind", "cell", "scale", "low"] ["one", "kind", "cell", "scale"] (defScope s_law_turned) := by walk_at "oh sc"
theorem ok_law_turned (T : Pg K mg) : Ok P w K mg base CX0 3 "_law_turned" ["one", "kind", "cell", "scale"] sp_law_turned := by
  obtain ⟨fd, F⟩ := F_law_turned T
  refine ⟨fd, F.ok sc_law_turned (fun vs H Q E h => ?_) (fun cdv A outer s H vs Q E hr h => ?_), F.binds fun _ _ _ _ _ _ us hl => (match us, hl with | [_, _, _, _], _ => rfl), F.kp, g_law_turned T⟩
  · obtain ⟨v, x, s, cell, scale, ps, M, N, wt, rfl, _⟩ := h
    rfl
  · obtain ⟨v, x, s, cell, scale, ps, M, N, wt, rfl, hx, I, es, S, q⟩ := h
    have hu := hu_of hr
    refine ⟨_, pss_cons (ps_if (pt_cmpR op_eq (pv 1) pe_str (nomark _))
      (pss_cons (ps_set (i := 4) sc_law_turned.nd rfl (Or.inl rfl) (pe_op op_mulW (pe_c0 (ok_law_mix T) hr (pa_cons (pv 2) (pa_cons pe_int (pa_cons (pv 3) pa_nil)))) (pe_c0 (ok_law_mix T) hr (pa_cons (pv 2) (pa_cons pe_int (pa_cons pe_int pa_nil))))))
        (pss_one (ps_ret (pe_tup (pa_cons (pv 1) (pa_cons (pv 0) (pa_cons (pv 4) (pa_cons (pe_op op_add (pv 4) (pe_c0 (ok_law_mix T) hr (pa_cons (pv 2) (pa_cons pe_int (pa_cons (pe_op op_mulW pe_int (pv 3)) pa_nil))))) pa_nil))))))))
      pss_nil)
      (pss_cons (ps_if (pt_cmpR op_eq (pv 1) pe_str (nomark _))
      (pss_one (ps_ret (pe_tup (pa_cons (pv 1) (pa_cons (pv 0) (pa_cons (pe_c0 (ok_law_mix T) hr (pa_cons (pv 2) (pa_cons pe_int (pa_cons (pv 3) pa_nil)))) pa_nil))))))
      pss_nil)
      (pss_one (ps_ret (pe_tup (pa_cons pe_str (pa_cons (pv 0) (pa_cons (pe_c0 (ok_law_price T) hr (pa_cons (pv 2) (pa_cons pe_int pa_nil))) pa_nil))))))), ?_⟩
    have s1 := S.one
    have s2 := S.most
    have tr : ∀ {y : Plan Str}, PlanOk y → dirs y = dirs x → dep y = dep x + 1 → ops y = ops x + 1 → nd y = nd x → TreeIn ps M N (wt + 1) y := fun h1 h2 h3 h4 h5 =>
      ⟨h1, fun d hd => I.dir d (h2 ▸ hd), by rw [h2]; have := I.few; omega, by rw [h3]; have := I.dp; omega, by rw [h4]; have := I.op; omega, by rw [h5]; exact I.n⟩
    walk_at "oh go"
    rcases es with rfl | rfl | rfl
    · walk_at "oh go"
      refine ⟨cell, 50, scale, rfl, by decide, by decide, s1, fun a a0 a1 => ?_⟩
      walk_at "oh go"
      refine ⟨cell, 51, 2, rfl, by decide, by decide, by decide, fun b b0 b1 => ?_⟩
      walk_at "oh go"
      refine i_I (bg_mul ((S.sz a0 (by omega)).mono (by decide)) ((show Sz 2 b by unfold Sz; omega).mono (by decide))) ?_
      have lw : 0 ≤ a * b ∧ a * b ≤ scale := by
        have h1 : 0 ≤ a * b := Int.mul_nonneg a0 b0
        have h2 : a * b ≤ a * 1 := Int.mul_le_mul_of_nonneg_left (by omega) a0
        omega
      generalize a * b = low at lw
      walk_at "oh go"
      refine i_I (bg_mul (by unfold Bg Sz; decide) ((S.sz (r := scale) (by omega) (by omega)).mono (by decide))) ?_
      walk_at "oh go"
      refine ⟨cell, 52, _, rfl, by decide, by decide, by omega, fun c c0 c1 => ?_⟩
      walk_at "oh go"
      refine ⟨Nat.le_of_ble_eq_true rfl, fun t nt => ?_⟩
      exact q (.ref t) (.only x low (low + c)) _ (same_new nt _) ⟨t, v, rfl, upd_same, hx.same (same_new nt _)⟩ (tr ⟨I.ok, by omega, (S.sz lw.1 (by omega)).mono (by decide), Sz.btw (i := 0) (k := 400000000000000000000000000000000000000) Sz.zero (by unfold Sz; decide) (by omega) (by omega)⟩ rfl rfl rfl rfl)
    · walk_at "oh go"
      refine ⟨cell, 53, scale, rfl, by decide, by decide, s1, fun a a0 a1 => ?_⟩
      walk_at "oh go"
      refine ⟨Nat.le_of_ble_eq_true rfl, fun t nt => ?_⟩
      exact q (.ref t) (.after x a) _ (same_new nt _) ⟨t, v, rfl, upd_same, hx.same (same_new nt _)⟩ (tr ⟨I.ok, a0, (S.sz a0 (by omega)).mono (by decide)⟩ rfl rfl rfl rfl)
    · walk_at "oh go"
      refine ⟨cell, 54, rfl, by decide, by decide, fun pr H2 sm2 spr => ?_⟩
      walk_at "oh go"
      refine ⟨Nat.le_of_ble_eq_true rfl, fun t nt => ?_⟩
      have sm := sm2.trans (same_new nt (.tup [.str "fee", v, .int pr]))
      exact q (.ref t) (.fee x pr) _ sm ⟨t, v, rfl, upd_same, hx.same sm⟩ (tr ⟨I.ok, spr⟩ rfl rfl rfl rfl)
/-! ### the stack of plans -/
theorem plan_head {H : Hp} {p : Plan Str} {v : V} (h : PlanV H p v) : ∃ t s rest, v = .ref t ∧ H t = some (.tup (.str s :: rest)) := by
  cases p with
  | each u lo hi => obtain ⟨t, e, h⟩ := h; exact ⟨t, _, _, e, h⟩
  | flat u lo hi => obtain ⟨t, e, h⟩ := h; exact ⟨t, _, _, e, h⟩
  | bands r => obtain ⟨t, l, vs, e, h, _⟩ := h; exact ⟨t, _, _, e, h⟩
  | steps r => obtain ⟨t, l, vs, e, h, _⟩ := h; exact ⟨t, _, _, e, h⟩
  | blocks u lo hi => obtain ⟨t, e, h⟩ := h; exact ⟨t, _, _, e, h⟩
  | name n q => obtain ⟨t, e, h⟩ := h; exact ⟨t, _, _, e, h⟩
  | plus x y => obtain ⟨t, va, vb, e, h, _⟩ := h; exact ⟨t, _, _, e, h⟩
  | cheap x y => obtain ⟨t, va, vb, e, h, _⟩ := h; exact ⟨t, _, _, e, h⟩
  | dear x y => obtain ⟨t, va, vb, e, h, _⟩ := h; exact ⟨t, _, _, e, h⟩
  | only x lo hi => obtain ⟨t, va, e, h, _⟩ := h; exact ⟨t, _, _, e, h⟩
  | after x c => obtain ⟨t, va, e, h, _⟩ := h; exact ⟨t, _, _, e, h⟩
  | fee x c => obtain ⟨t, va, e, h, _⟩ := h; exact ⟨t, _, _, e, h⟩
/-- a list of no rows changes: a plan stands -/
theorem PlanV.mut {H : Hp} {k : Addr} {acc acc' : List V} (hk : H k = some (.lst acc)) (no : ∀ x ∈ acc, ¬ ∃ l, LnV H x l) : ∀ {p : Plan Str} {v : V}, PlanOk p → PlanV H p v → PlanV (upd H k (.lst acc')) p v := by
  have tm : ∀ {b : Addr} {xs : List V}, H b = some (.tup xs) → upd H k (.lst acc') b = some (.tup xs) := fun e => by
    rw [upd_ne (ne_of e hk (by intro z; cases z))]
    exact e
  have rows : ∀ {l : Addr} {vs : List V} {r : Rows}, r ≠ [] → H l = some (.lst vs) → Its LnV H vs r → upd H k (.lst acc') l = some (.lst vs) ∧ Its LnV (upd H k (.lst acc')) vs r := fun {l vs r} hr h i => by
    have ne : l ≠ k := fun e => by
      subst e
      rw [hk] at h
      cases h
      match acc, r, i with
      | [], [], _ => exact hr rfl
      | x :: _, _ :: _, .cons a _ => exact no x List.mem_cons_self ⟨_, a⟩
    exact ⟨by rw [upd_ne ne]; exact h, i.mono LnV.mono (ts_mut hk _)⟩
  intro p
  induction p with
  | each u lo hi => rintro v _ ⟨t, e, h⟩; exact ⟨t, e, tm h⟩
  | flat u lo hi => rintro v _ ⟨t, e, h⟩; exact ⟨t, e, tm h⟩
  | bands r => rintro v ok ⟨t, l, vs, e, h, h2, i⟩; exact ⟨t, l, vs, e, tm h, rows (RowsOk.ne ok) h2 i⟩
  | steps r => rintro v ok ⟨t, l, vs, e, h, h2, i⟩; exact ⟨t, l, vs, e, tm h, rows (RowsOk.ne ok) h2 i⟩
  | blocks u lo hi => rintro v _ ⟨t, e, h⟩; exact ⟨t, e, tm h⟩
  | name n q _ => rintro v _ ⟨t, e, h⟩; exact ⟨t, e, tm h⟩
  | plus x y ix iy => rintro v ok ⟨t, va, vb, e, h, h1, h2⟩; exact ⟨t, va, vb, e, tm h, ix ok.1 h1, iy ok.2 h2⟩
  | cheap x y ix iy => rintro v ok ⟨t, va, vb, e, h, h1, h2⟩; exact ⟨t, va, vb, e, tm h, ix ok.1 h1, iy ok.2 h2⟩
  | dear x y ix iy => rintro v ok ⟨t, va, vb, e, h, h1, h2⟩; exact ⟨t, va, vb, e, tm h, ix ok.1 h1, iy ok.2 h2⟩
  | only x lo hi ix => rintro v ok ⟨t, va, e, h, h1⟩; exact ⟨t, va, e, tm h, ix ok.1 h1⟩
  | after x c ix => rintro v ok ⟨t, va, e, h, h1⟩; exact ⟨t, va, e, tm h, ix ok.1 h1⟩
  | fee x c ix => rintro v ok ⟨t, va, e, h, h1⟩; exact ⟨t, va, e, tm h, ix ok.1 h1⟩
theorem plan_no_line {H : Hp} {p : Plan Str} {x : V} (h : PlanV H p x) : ¬ ∃ l, LnV H x l := fun ⟨l, a, e, h2⟩ => by
  obtain ⟨t, s, rest, e1, h1⟩ := plan_head h
  rw [e1] at e
  cases e
  rw [h1] at h2
  cases h2
end
end OH
set_option Elab.async false
set_option linter.all false
set_option maxRecDepth 100000
set_option maxHeartbeats 4000000
set_option exponentiation.threshold 10000
namespace OH
open PySem PySem.Spec PyProof.Rows L2
theorem TreeIn.mono {ps : Bk} {M N a b : Nat} {p : Plan Str} (h : TreeIn ps M N a p) (le : a ≤ b) : TreeIn ps M N b p :=
  ⟨h.ok, h.dir, Nat.le_trans h.few le, Nat.le_trans h.dp le, Nat.le_trans h.op (Nat.add_le_add_left le M), h.n⟩
theorem tree_two {ps : Bk} {M N a b : Nat} {x y p : Plan Str} (hx : TreeIn ps M N a x) (hy : TreeIn ps M N b y) (ok : PlanOk p) (ed : dirs p = dirs x ++ dirs y) (ep : dep p = max (dep x) (dep y) + 1) (eo : ops p = max (ops x) (ops y) + 1) (en : nd p = max (nd x) (nd y)) : TreeIn ps M N (a + b) p := by
  have h1 := hx.few
  have h2 := hy.few
  have h3 := hx.dp
  have h4 := hy.dp
  have h5 := hx.op
  have h6 := hy.op
  have h7 := hx.n
  have h8 := hy.n
  refine ⟨ok, fun d hd => ?_, ?_, ?_, ?_, ?_⟩
  · rw [ed] at hd
    rcases List.mem_append.mp hd with h | h
    · exact hx.dir d h
    · exact hy.dir d h
  · rw [ed, List.length_append]
    omega
  · omega
  · omega
  · omega
/-- a plan and its weight -/
abbrev StkR (ps : Bk) (M N : Nat) : RepF (Plan Str × Nat) := fun H v p => PlanV H p.1 v ∧ TreeIn ps M N p.2 p.1
structure Stk (ps : Bk) (M N : Nat) (H0 : Hp) (l : Addr) (H : Hp) (acc : List V) (L : List (Plan Str × Nat)) (n : Nat) : Prop where
  at_ : H l = some (.lst acc)
  its : Its (StkR ps M N) H acc L
  sm : Same H0 H
  fr : H0 l = none
  sum : (L.map (·.2)).sum = n
section
variable {ps : Bk} {M N : Nat} {H0 H H' : Hp} {l : Addr} {acc : List V} {L : List (Plan Str × Nat)} {n : Nat}
theorem its_id {α : Type} {R S : RepF α} {H H' : Hp} {vs : List V} {l : List α} (h : Its R H vs l) (k : ∀ v a, R H v a → S H' v a) : Its S H' vs l := by
  have z := Its.map (S := S) (H' := H') (f := id) h k
  rw [List.map_id] at z
  exact z
theorem Stk.new (s : Same H0 H) (e : H l = none) : Stk ps M N H0 l (upd H l (.lst [])) [] [] 0 := ⟨upd_same, .nil, s.trans (same_new e _), none_back s e, rfl⟩
theorem Stk.step (h : Stk ps M N H0 l H acc L n) (s : Same H H') : Stk ps M N H0 l H' acc L n :=
  ⟨s _ _ h.at_, its_id h.its fun _ _ q => ⟨q.1.same s, q.2⟩, h.sm.trans s, h.fr, h.sum⟩
theorem its_all {α : Type} {R : RepF α} {H : Hp} {C : V → Prop} (k : ∀ v a, R H v a → C v) : ∀ {vs : List V} {l : List α}, Its R H vs l → ∀ x ∈ vs, C x
  | [], _, _, x, hx => nomatch hx
  | v :: vs, _, .cons a r, x, hx => by
    rcases List.mem_cons.mp hx with rfl | hx
    · exact k _ _ a
    · exact its_all k r x hx
theorem Stk.no (h : Stk ps M N H0 l H acc L n) : ∀ x ∈ acc, ¬ ∃ r, LnV H x r := its_all (fun _ _ q => plan_no_line q.1) h.its
theorem Stk.keep (h : Stk ps M N H0 l H acc L n) (acc' : List V) {p : Plan Str} {v : V} (o : PlanOk p) (q : PlanV H p v) : PlanV (upd H l (.lst acc')) p v := PlanV.mut h.at_ h.no o q
theorem Stk.push (h : Stk ps M N H0 l H acc L n) {p : Plan Str} {v : V} {k : Nat} (q : PlanV H p v) (t : TreeIn ps M N k p) : Stk ps M N H0 l (upd H l (.lst (acc ++ [v]))) (acc ++ [v]) (L ++ [(p, k)]) (n + k) :=
  ⟨upd_same, (its_id h.its fun _ _ z => ⟨h.keep _ z.2.ok z.1, z.2⟩).app (.cons ⟨h.keep _ t.ok q, t⟩ .nil), same_mut h.sm h.fr _, h.fr, by rw [List.map_append, List.sum_append, h.sum]; simp⟩
theorem Stk.len (h : Stk ps M N H0 l H acc L n) : acc.length = L.length := h.its.len
theorem Stk.pop (h : Stk ps M N H0 l H acc L n) (ne : L ≠ []) : ∃ v p k m, acc.getLast? = some v ∧ PlanV (upd H l (.lst acc.dropLast)) p v ∧ TreeIn ps M N k p ∧ Stk ps M N H0 l (upd H l (.lst acc.dropLast)) acc.dropLast L.dropLast m ∧ m + k = n := by
  have e := List.dropLast_concat_getLast ne
  obtain ⟨v, hv, q⟩ := h.its.last (List.getLast?_eq_some_getLast ne)
  refine ⟨v, (L.getLast ne).1, (L.getLast ne).2, (L.dropLast.map (·.2)).sum, hv, h.keep _ q.2.ok q.1, q.2, ⟨upd_same, ?_, same_mut h.sm h.fr _, h.fr, rfl⟩, ?_⟩
  · exact (its_id h.its fun _ _ z => ⟨h.keep _ z.2.ok z.1, z.2⟩ : Its (StkR ps M N) _ acc L).drop1
  · have z := h.sum
    rw [← e, List.map_append, List.sum_append] at z
    simpa using z
end
section
variable {P : Program} {w : World} {K : PySem.W.Frag} {mg : Str → Option Value} {base : Heap}
/-- a known object: through what has changed since -/
local macro_rules | `(tactic| walk_at "oh hp") => `(tactic| first | assumption | exact upd_same | (refine get_new (by assumption) ?_; walk_at "oh hp") | (refine get_mut (by assumption) ?_ (by intro z; cases z); walk_at "oh hp") | (refine same_get (by assumption) ?_; walk_at "oh hp") | (refine ts_get (by assumption) ?_; walk_at "oh hp") | (refine same_get (LL.sm (by assumption)) ?_; walk_at "oh hp") | exact LL.at_ (by assumption))
local macro_rules | `(tactic| walk_at "oh sc") => `(tactic| exact ⟨rfl, rfl, rfl, by decide +kernel, rfl, by decide +kernel, by decide +kernel⟩)
/-- one step of a reading -/
local macro_rules | `(tactic| walk_at "oh 1") => `(tactic| with_reducible first
  | refine i_var rfl ?_ | refine i_c ?_ | refine i_op ?_ | refine i_I0 ?_ | refine i_cons ?_ | refine i_nil ?_ | refine i_asg ?_ | refine i_name ?_ | refine i_seq ?_ | refine i_ifS ?_ | refine i_test ?_ | refine i_bl ?_ | refine i_call ?_ | refine i_CB ?_
  | refine i_tup ?_ | refine i_lst ?_ | refine i_eqI ?_ | refine i_eqS ?_ | refine i_neI ?_ | refine i_un ?_ | refine i_U ?_ | refine i_ret ?_ | refine i_retN ?_ | refine i_next ?_ | refine i_cont ?_ | refine i_drop ?_ | refine i_B ?_ | refine i_and ?_ | refine i_or ?_ | refine i_not ?_ | refine i_mn ?_ | refine i_mx ?_ | refine i_isN ?_ | refine i_notN ?_ | refine i_bm ?_ | refine i_bm0 ?_ | refine i_rn ?_ | refine i_nn ?_ | refine i_rn' ?_ | refine i_nn' ?_ | refine i_gcons ?_ | refine i_gnil ?_ | refine i_orV ?_ | refine i_andV ?_ | refine i_notV ?_ | refine i_chain ?_ | refine i_forL ?_ | refine i_iL ?_ | refine i_iT ?_ | refine i_lc ?_ | refine i_yes ?_ | refine i_sortS ?_ | refine i_lenS ?_ | refine i_slL ?_ | refine i_noP ?_ | refine i_part ?_ | refine i_fld ?_ | refine i_sFld ?_ | refine i_dget ?_ | refine i_meth ?_ | refine i_dnot ?_ | refine i_aug rfl ?_ | refine i_ip ?_ | refine iteT ?_ | refine iteF ?_ | refine i_nT ?_ | refine i_nF ?_)
local macro_rules | `(tactic| walk_at "oh 2") => `(tactic| first | ((with_reducible refine' i_sF ?c ?q); (case c => decide +kernel)) | ((with_reducible refine' i_sT ?c ?q); (case c => decide +kernel)) | ((with_reducible refine' i_atP ?h ?c ?n ?l ?q); (case h => walk_at "oh hp"); (case c => assumption); (case n => assumption); (case l => exact Nat.le_of_ble_eq_true rfl)) | ((with_reducible refine' i_atF ?h ?c ?n ?l ?q); (case h => walk_at "oh hp"); (case c => assumption); (case n => assumption); (case l => rfl)) | ((with_reducible refine' i_ixT ?h ?e ?q); (case h => walk_at "oh hp"); (case e => rfl)) | ((with_reducible refine' i_gtup ?h ?e ?q); (case h => walk_at "oh hp"); (case e => rfl)) | ((with_reducible refine' i_atL ?h ?q); (case h => walk_at "oh hp")) | ((with_reducible refine' i_atT ?h ?q); (case h => walk_at "oh hp")) | ((with_reducible refine' i_tyL ?h ?q); (case h => walk_at "oh hp")) | ((with_reducible refine' i_lnL ?h ?q); (case h => walk_at "oh hp")) | ((with_reducible refine' i_lnT ?h ?q); (case h => walk_at "oh hp")))
local macro_rules | `(tactic| walk_at "oh go") => `(tactic| repeat first | walk_at "oh 1" | walk_at "oh 2")
def sp_law_tree : Sp := fun vs H Q _ => ∃ (nl l : Addr) (ns : List Int) (scale : Int) (ps : Bk) (M N : Nat), vs = [.ref nl, .int scale, .ref l] ∧ H nl = some (.lst (ns.map V.int)) ∧ 1 ≤ ns.length ∧ ns.length ≤ 3 ∧ ScaleIn scale ∧ H l = some (.lst ((ps.map (·.1)).map V.str)) ∧ ps.length ≤ 4 ∧ Base ps M N ∧ RetP H Q ps M N 3
/- slots: 0 numbers, 1 scale, 2 names, 3 stack, 4 cell, 5 kind, 6 other -/
theorem sc_law_tree : FnScope ["numbers", "scale", "names", "stack", "cell", "kind", "other"] ["numbers", "scale", "names"] (defScope s_law_tree) := by walk_at "oh sc"
theorem ok_law_tree (T : Pg K mg) : Ok P w K mg base CX0 5 "_law_tree" ["numbers", "scale", "names"] sp_law_tree := by
  obtain ⟨fd, F⟩ := F_law_tree T
  refine ⟨fd, F.ok sc_law_tree (fun vs H Q E h => ?_) (fun cdv A outer s H vs Q E hr h => ?_), F.binds fun _ _ _ _ _ _ us hl => (match us, hl with | [_, _, _], _ => rfl), F.kp, g_law_tree T⟩
  · obtain ⟨nl, l, ns, scale, ps, M, N, rfl, _⟩ := h
    rfl
  · obtain ⟨nl, l, ns, scale, ps, M, N, rfl, hn, n1, n3, S, hl, few, BB, q⟩ := h
    have hu := hu_of hr
    refine ⟨_, pss_cons (ps_set (i := 3) sc_law_tree.nd rfl (Or.inl rfl) (pe_lst pa_nil))
      (pss_cons (ps_for PassesOwn.never rfl (pi_list (pv 0)) (pg_name (i := 4) sc_law_tree.nd rfl (Or.inl rfl))
      (pss_cons (ps_set (i := 5) sc_law_tree.nd rfl (Or.inl rfl) (pe_c0 (ok_law_mix T) hr (pa_cons (pv 4) (pa_cons pe_int (pa_cons pe_int pa_nil)))))
        (pss_one (ps_if (PW.pt (pw_and (pt_cmpR op_gt (pv 5) pe_int (nomark _)) (pw_and1 (pt_cmpR op_gt (pe_callB cr_ln (by rfl) (z_len T) PySem.boot_len (pa_cons (pv 3) pa_nil)) pe_int (nomark _)))))
        (pss_one (ps_expr (pe_bm PySem.F.plainAttrs_list PySem.F.slot_list_append PySem.F.type_list_append mt_append (pv 3) (pa_cons (pe_c0 (ok_law_turned T) hr (pa_cons (pe_bm0 PySem.F.plainAttrs_list PySem.F.slot_list_pop PySem.F.type_list_pop mt_pop (pv 3)) (pa_cons (pe_ix ix_list (pe_lst (pa_cons pe_str (pa_cons pe_str (pa_cons pe_str pa_nil)))) (pe_op op_sub (pv 5) pe_int) (fun _ _ => rfl)) (pa_cons (pv 4) (pa_cons (pv 1) pa_nil))))) pa_nil))))
        (pss_one (ps_expr (pe_bm PySem.F.plainAttrs_list PySem.F.slot_list_append PySem.F.type_list_append mt_append (pv 3) (pa_cons (pe_c0 (ok_law_leaf T) hr (pa_cons (pv 4) (pa_cons (pv 1) (pa_cons (pv 2) pa_nil)))) pa_nil))))))))
      (pss_cons (ps_while PassesOwn.never (pt_cmpR op_gt (pe_callB cr_ln (by rfl) (z_len T) PySem.boot_len (pa_cons (pv 3) pa_nil)) pe_int (nomark _))
      (pss_cons (ps_set (i := 6) sc_law_tree.nd rfl (Or.inl rfl) (pe_bm0 PySem.F.plainAttrs_list PySem.F.slot_list_pop PySem.F.type_list_pop mt_pop (pv 3)))
        (pss_one (ps_expr (pe_bm PySem.F.plainAttrs_list PySem.F.slot_list_append PySem.F.type_list_append mt_append (pv 3) (pa_cons (pe_tup (pa_cons (pe_ix ix_list (pe_lst (pa_cons pe_str (pa_cons pe_str (pa_cons pe_str (pa_cons pe_str pa_nil))))) (pe_c0 (ok_law_mix T) hr (pa_cons (pe_ix ix_list (pv 0) pe_int (fun _ _ => rfl)) (pa_cons pe_int (pa_cons pe_int pa_nil)))) (fun _ _ => rfl)) (pa_cons (pe_bm0 PySem.F.plainAttrs_list PySem.F.slot_list_pop PySem.F.type_list_pop mt_pop (pv 3)) (pa_cons (pv 6) pa_nil)))) pa_nil))))))
      (pss_one (ps_ret (pe_ix ix_list (pv 3) pe_int (fun _ _ => rfl)))))), ?_⟩
    walk_at "oh go"
    refine ⟨Nat.le_of_ble_eq_true rfl, fun k nk => ?_⟩
    walk_at "oh go"
    refine for_left (H0 := H) (its_ints ns) (fun r σ H' => ∃ acc L n o4 o5, σ = [some (.ref nl), some (.int scale), some (.ref l), some (.ref k), o4, o5, none] ∧ Stk ps M N H k H' acc L n ∧ n + r.length = ns.length ∧ L.length + r.length ≤ ns.length ∧ (L = [] → r = ns)) ⟨[], [], 0, none, none, rfl, Stk.new (Same.refl _) nk, by omega, by rw [List.length_nil]; omega, fun _ => rfl⟩ ?_ ?_ ?_
    · rintro r σ H1 ⟨acc, L, n, o4, o5, rfl, X, _, _⟩
      exact SqL.of (X.sm _ _ hn)
    · rintro x cell r σ H1 rfl ⟨acc, L, n, o4, o5, rfl, X, e, el, _⟩
      rw [List.length_cons] at e el
      have xl := X.len
      have put : ∀ {v : V} {p : Plan Str} {H2 : Hp} {acc : List V} {L : List (Plan Str × Nat)} {m k2 : Nat} {o5 : Option V}, Stk ps M N H k H2 acc L m → m + k2 = n + 1 → L.length + r.length + 1 ≤ ns.length → PlanV H2 p v → TreeIn ps M N k2 p → ∃ acc' L n o4' o5', [some (.ref nl), some (.int scale), some (.ref l), some (.ref k), some (.int cell), o5, none] = [some (.ref nl), some (.int scale), some (.ref l), some (.ref k), o4', o5', none] ∧ Stk ps M N H k (upd H2 k (.lst (acc ++ [v]))) acc' L n ∧ n + r.length = ns.length ∧ L.length + r.length ≤ ns.length ∧ (L = [] → r = ns) := fun {v p H2 acc L m k2 o5} Y hm hl2 hp ht =>
        ⟨_, L ++ [(p, k2)], m + k2, _, _, rfl, Y.push hp ht, by omega, by rw [List.length_append]; simpa [Nat.add_right_comm] using hl2, fun z => absurd z (by simp)⟩
      walk_at "oh go"
      refine ⟨cell, 0, 13, rfl, by decide, by decide, by decide, fun r0 a0 a1 => ?_⟩
      walk_at "oh go"
      have hk := X.at_
      have leaf : ∀ {D : Prop}, True := trivial
      refine i_dec (fun c => ?_) (fun c => ?_)
      · walk_at "oh go"
        refine i_dec (fun c2 => ?_) (fun c2 => ?_)
        · walk_at "oh go"
          have ne : L ≠ [] := fun z => by
            rw [z] at xl
            rw [xl] at c2
            exact absurd c2 (by decide)
          obtain ⟨v, p, wt, m, hv, hp, ht, Y, em⟩ := X.pop ne
          have yl : L.dropLast.length + 1 = L.length := by
            rw [List.length_dropLast]
            have := List.length_pos_iff.mpr ne
            omega
          have hy := Y.len
          refine i_pop hk hv ?_
          generalize upd H1 k (.lst acc.dropLast) = H2 at hp Y
          walk_at "oh go"
          refine ⟨Nat.le_of_ble_eq_true rfl, fun l2 n2 => ?_⟩
          have Y2 := Y.step (same_new n2 (.lst [.str "only", .str "after", .str "fee"]))
          have hp2 := hp.same (same_new n2 (.lst [.str "only", .str "after", .str "fee"]))
          walk_at "oh go"
          obtain ⟨s, hs, es⟩ : ∃ s : Str, atI [V.str "only", V.str "after", V.str "fee"] (r0 - 10) = some (.str s) ∧ (s = "only" ∨ s = "after" ∨ s = "fee") := by
            rcases (by omega : r0 = 10 ∨ r0 = 11 ∨ r0 = 12) with rfl | rfl | rfl
            · exact ⟨"only", rfl, .inl rfl⟩
            · exact ⟨"after", rfl, .inr (.inl rfl)⟩
            · exact ⟨"fee", rfl, .inr (.inr rfl)⟩
          refine i_ixL upd_same hs ?_
          walk_at "oh go"
          refine ⟨v, p, s, cell, scale, ps, M, N, wt, rfl, hp2, ht, es, S, fun v2 p2 H3 s3 hp3 ht3 => ?_⟩
          have Y3 := Y2.step s3
          have h3 := Y3.at_
          walk_at "oh go"
          refine i_app h3 (by omega) ?_
          exact put Y3 (by omega) (by omega) hp3 ht3
        · walk_at "oh go"
          refine ⟨cell, scale, l, ps, M, N, rfl, S, X.sm _ _ hl, few, BB, fun v2 p2 H3 s3 hp3 ht3 => ?_⟩
          have Y3 := X.step s3
          have h3 := Y3.at_
          walk_at "oh go"
          refine i_app h3 (by omega) ?_
          exact put Y3 rfl (by omega) hp3 ht3
      · walk_at "oh go"
        refine ⟨cell, scale, l, ps, M, N, rfl, S, X.sm _ _ hl, few, BB, fun v2 p2 H3 s3 hp3 ht3 => ?_⟩
        have Y3 := X.step s3
        have h3 := Y3.at_
        walk_at "oh go"
        refine i_app h3 (by omega) ?_
        exact put Y3 rfl (by omega) hp3 ht3
    · rintro σ H1 ⟨acc, L, n, o4, o5, rfl, X, e, el, en⟩
      rw [List.length_nil] at e el
      have ne : L ≠ [] := fun z => by
        rw [← en z] at n1
        exact absurd n1 (by decide)
      clear en
      walk_at "oh go"
      refine i_while (fun m σ H' => ∃ acc L o6, σ = [some (.ref nl), some (.int scale), some (.ref l), some (.ref k), o4, o5, o6] ∧ Stk ps M N H k H' acc L n ∧ L ≠ [] ∧ L.length ≤ 3 ∧ m = L.length) _ ⟨acc, L, none, rfl, X, ne, by omega, rfl⟩ ?_
      clear X ne el
      rintro m σ H2 ⟨acc, L, o6, rfl, X, ne, lm, rfl⟩
      have xl := X.len
      have hk := X.at_
      have pos := List.length_pos_iff.mpr ne
      walk_at "oh go"
      refine i_dec (fun c => ?_) (fun c => ?_)
      · refine i_body ?_
        have c' : 1 < L.length := by omega
        obtain ⟨v, p, wt, m, hv, hp, ht, Y, em⟩ := X.pop ne
        have yl : L.dropLast.length + 1 = L.length := by
          rw [List.length_dropLast]
          omega
        have yn := Y.len
        walk_at "oh go"
        refine i_pop hk hv ?_
        generalize upd H2 k (.lst acc.dropLast) = H3 at hp Y
        walk_at "oh go"
        have ky := Y.at_
        walk_at "oh go"
        refine ⟨Nat.le_of_ble_eq_true rfl, fun l2 n2 => ?_⟩
        have sm2 := same_new n2 (.lst [.str "or", .str "plus", .str "max", .str "or"])
        have Y2 := Y.step sm2
        have hp2 := hp.same sm2
        have hn2 := Y2.sm _ _ hn
        walk_at "oh go"
        refine i_ixL hn2 (v := .int (ns[0]'n1)) (atI_nat (j := 0) (by rw [List.getElem?_map, List.getElem?_eq_getElem n1]; rfl)) ?_
        walk_at "oh go"
        refine ⟨_, 55, 4, rfl, by decide, by decide, by decide, fun r0 a0 a1 => ?_⟩
        walk_at "oh go"
        obtain ⟨s, hs, es⟩ : ∃ s : Str, atI [V.str "or", V.str "plus", V.str "max", V.str "or"] r0 = some (.str s) ∧ (s = "or" ∨ s = "plus" ∨ s = "max") := by
          rcases (by omega : r0 = 0 ∨ r0 = 1 ∨ r0 = 2 ∨ r0 = 3) with rfl | rfl | rfl | rfl
          · exact ⟨"or", rfl, .inl rfl⟩
          · exact ⟨"plus", rfl, .inr (.inl rfl)⟩
          · exact ⟨"max", rfl, .inr (.inr rfl)⟩
          · exact ⟨"or", rfl, .inl rfl⟩
        refine i_ixL upd_same hs ?_
        generalize upd H3 l2 (.lst [.str "or", .str "plus", .str "max", .str "or"]) = H4 at Y2 hp2
        walk_at "oh go"
        have ky2 := Y2.at_
        walk_at "oh go"
        obtain ⟨v2, p2, wt2, m2, hv2, hq, ht2, Z, em2⟩ := Y2.pop (fun z => by rw [z] at yl; simp at yl; omega)
        have hp3 := Y2.keep acc.dropLast.dropLast ht.ok hp2
        refine i_pop ky2 hv2 ?_
        generalize upd H4 k (.lst acc.dropLast.dropLast) = H5 at hq Z hp3
        walk_at "oh go"
        refine ⟨Nat.le_of_ble_eq_true rfl, fun t nt => ?_⟩
        have sm5 := same_new nt (.tup [.str s, v2, v])
        have Z2 := Z.step sm5
        have hz := Z2.at_
        have zl := Z2.len
        have zl2 : L.dropLast.dropLast.length + 1 = L.dropLast.length := by
          rw [List.length_dropLast, List.length_dropLast]
          omega
        obtain ⟨p3, hp4, ht4⟩ : ∃ p3, PlanV (upd H5 t (.tup [.str s, v2, v])) p3 (.ref t) ∧ TreeIn ps M N (wt2 + wt) p3 := by
          rcases es with rfl | rfl | rfl
          · exact ⟨.cheap p2 p, ⟨t, v2, v, rfl, upd_same, hq.same sm5, hp3.same sm5⟩, tree_two ht2 ht ⟨ht2.ok, ht.ok⟩ rfl rfl rfl rfl⟩
          · exact ⟨.plus p2 p, ⟨t, v2, v, rfl, upd_same, hq.same sm5, hp3.same sm5⟩, tree_two ht2 ht ⟨ht2.ok, ht.ok⟩ rfl rfl rfl rfl⟩
          · exact ⟨.dear p2 p, ⟨t, v2, v, rfl, upd_same, hq.same sm5, hp3.same sm5⟩, tree_two ht2 ht ⟨ht2.ok, ht.ok⟩ rfl rfl rfl rfl⟩
        walk_at "oh go"
        refine i_app hz (by omega) ?_
        have W := Z2.push hp4 ht4
        rw [show m2 + (wt2 + wt) = n by omega] at W
        exact ⟨_, by rw [List.length_append]; show _ + 1 < _; omega, _, _, _, rfl, W, by simp, by rw [List.length_append]; show _ + 1 ≤ 3; omega, rfl⟩
      · walk_at "oh go"
        have one : L.length = 1 := by omega
        obtain ⟨y, rfl⟩ : ∃ y, L = [y] := List.length_eq_one_iff.mp one
        obtain ⟨v, rfl⟩ : ∃ v, acc = [v] := List.length_eq_one_iff.mp (by omega)
        refine i_ixL hk rfl ?_
        have zs := X.sum
        match X.its with
        | .cons a _ => exact q v y.1 H2 X.sm a.1 (a.2.mono (by simp at zs; omega))
end
end OH
set_option Elab.async false
set_option linter.all false
set_option maxRecDepth 100000
set_option maxHeartbeats 4000000
set_option exponentiation.threshold 10000
namespace OH
open PySem PySem.Spec PyProof.Rows L2
theorem t60 : (10 : Int) ^ (60 : Int).toNat = 1000000000000000000000000000000000000000000000000000000000000 := by decide +kernel
theorem i_rng2 {t : TA} {σ : L2.St} {H : Hp} {R : It → Hp → Prop} (h : t σ H fun vs H1 => ∃ i j : Int, vs = [.int i, .int j] ∧ (-(2 ^ 62) ≤ i ∧ i < 2 ^ 62 ∧ -(2 ^ 62) ≤ j ∧ j < 2 ^ 62) ∧ R (Itr i (j - i).toNat) H1) : iRng2 t σ H R := h
theorem i_sub {to ti : TE} {t : TSet} {v : V} {σ : L2.St} {H : Hp} {Q : L2.St → Hp → Prop} (h : to σ H fun o H1 => ti σ H1 fun i H2 => t o i v H2 fun H3 => Q σ H3) : gSub to ti t v σ H Q := h
theorem ixn {n j : Nat} (h : j < n) : ixN n (j : Int) = some j := by
  unfold ixN
  rw [if_pos (Int.natCast_nonneg j), if_pos (by omega)]
  simp
section
variable {P : Program} {w : World} {K : PySem.W.Frag} {mg : Str → Option Value} {base : Heap}
/-- a known object: through what has changed since -/
local macro_rules | `(tactic| walk_at "oh hp") => `(tactic| first | assumption | exact upd_same | (refine get_new (by assumption) ?_; walk_at "oh hp") | (refine get_mut (by assumption) ?_ (by intro z; cases z); walk_at "oh hp") | (refine same_get (by assumption) ?_; walk_at "oh hp") | (refine ts_get (by assumption) ?_; walk_at "oh hp") | (refine same_get (LL.sm (by assumption)) ?_; walk_at "oh hp") | exact LL.at_ (by assumption))
local macro_rules | `(tactic| walk_at "oh sc") => `(tactic| exact ⟨rfl, rfl, rfl, by decide +kernel, rfl, by decide +kernel, by decide +kernel⟩)
/-- one step of a reading -/
local macro_rules | `(tactic| walk_at "oh 1") => `(tactic| with_reducible first
  | refine i_var rfl ?_ | refine i_c ?_ | refine i_op ?_ | refine i_I0 ?_ | refine i_cons ?_ | refine i_nil ?_ | refine i_asg ?_ | refine i_name ?_ | refine i_seq ?_ | refine i_ifS ?_ | refine i_test ?_ | refine i_bl ?_ | refine i_call ?_ | refine i_CB ?_
  | refine i_tup ?_ | refine i_lst ?_ | refine i_eqI ?_ | refine i_eqS ?_ | refine i_neI ?_ | refine i_un ?_ | refine i_U ?_ | refine i_ret ?_ | refine i_retN ?_ | refine i_next ?_ | refine i_cont ?_ | refine i_drop ?_ | refine i_B ?_ | refine i_and ?_ | refine i_or ?_ | refine i_not ?_ | refine i_mn ?_ | refine i_mx ?_ | refine i_isN ?_ | refine i_notN ?_ | refine i_bm ?_ | refine i_bm0 ?_ | refine i_rn ?_ | refine i_nn ?_ | refine i_rn' ?_ | refine i_nn' ?_ | refine i_gcons ?_ | refine i_gnil ?_ | refine i_orV ?_ | refine i_andV ?_ | refine i_notV ?_ | refine i_chain ?_ | refine i_forL ?_ | refine i_iL ?_ | refine i_iT ?_ | refine i_lc ?_ | refine i_yes ?_ | refine i_sortS ?_ | refine i_lenS ?_ | refine i_slL ?_ | refine i_noP ?_ | refine i_part ?_ | refine i_fld ?_ | refine i_sFld ?_ | refine i_dget ?_ | refine i_meth ?_ | refine i_dnot ?_ | refine i_aug rfl ?_ | refine i_ip ?_ | refine iteT ?_ | refine iteF ?_ | refine i_nT ?_ | refine i_nF ?_)
local macro_rules | `(tactic| walk_at "oh 2") => `(tactic| first | ((with_reducible refine' i_sF ?c ?q); (case c => decide +kernel)) | ((with_reducible refine' i_sT ?c ?q); (case c => decide +kernel)) | ((with_reducible refine' i_atP ?h ?c ?n ?l ?q); (case h => walk_at "oh hp"); (case c => assumption); (case n => assumption); (case l => exact Nat.le_of_ble_eq_true rfl)) | ((with_reducible refine' i_atF ?h ?c ?n ?l ?q); (case h => walk_at "oh hp"); (case c => assumption); (case n => assumption); (case l => rfl)) | ((with_reducible refine' i_ixT ?h ?e ?q); (case h => walk_at "oh hp"); (case e => rfl)) | ((with_reducible refine' i_gtup ?h ?e ?q); (case h => walk_at "oh hp"); (case e => rfl)) | ((with_reducible refine' i_atL ?h ?q); (case h => walk_at "oh hp")) | ((with_reducible refine' i_atT ?h ?q); (case h => walk_at "oh hp")) | ((with_reducible refine' i_tyL ?h ?q); (case h => walk_at "oh hp")) | ((with_reducible refine' i_lnL ?h ?q); (case h => walk_at "oh hp")) | ((with_reducible refine' i_lnT ?h ?q); (case h => walk_at "oh hp")))
local macro_rules | `(tactic| walk_at "oh go") => `(tactic| repeat first | walk_at "oh 1" | walk_at "oh 2")
def sp_law_folded (K : PySem.W.Frag) : Sp := fun vs H Q _ => ∃ (a : Addr) (ns : List Int) (first most : Int), vs = [.ref a, .int first, .int most] ∧ SqL K H a (ns.map V.int) ∧ ns.length ≤ 1000 ∧ 0 ≤ first ∧ first ≤ 1000 ∧ 1 ≤ most ∧ most ≤ 12 ∧ ∀ (l : Addr) (cs : List Int) H', Same H H' → H l = none → H' l = some (.lst (cs.map V.int)) → 1 ≤ cs.length → (cs.length : Int) ≤ most → Q (.ref l) H'
/- slots: 0 script, 1 first, 2 most, 3 numbers, 4 k, 5 kept -/
theorem sc_law_folded : FnScope ["script", "first", "most", "numbers", "k", "kept"] ["script", "first", "most"] (defScope s_law_folded) := by walk_at "oh sc"
theorem ok_law_folded (T : Pg K mg) : Ok P w K mg base CX0 3 "_law_folded" ["script", "first", "most"] (sp_law_folded K) := by
  obtain ⟨fd, F⟩ := F_law_folded T
  refine ⟨fd, F.ok sc_law_folded (fun vs H Q E h => ?_) (fun cdv A outer s H vs Q E hr h => ?_), F.binds fun _ _ _ _ _ _ us hl => (match us, hl with | [_, _, _], _ => rfl), F.kp, g_law_folded T⟩
  · obtain ⟨a, ns, first, most, rfl, _⟩ := h
    rfl
  · obtain ⟨a, ns, first, most, rfl, hs, nl, f0, f1, m1, m2, q⟩ := h
    have hu := hu_of hr
    refine ⟨_, pss_cons (ps_set (i := 3) sc_law_folded.nd rfl (Or.inl rfl) (pe_lst (pa_cons (pe_c0 (ok_law_at T) hr (pa_cons (pv 0) (pa_cons (pv 1) pa_nil))) pa_nil)))
      (pss_cons (ps_for PassesOwn.never rfl (pi_range2 (by rfl) (z_range T) (pa_cons (pe_op op_add (pv 1) pe_int) (pa_cons (pe_callB cr_ln (by rfl) (z_len T) PySem.boot_len (pa_cons (pv 0) pa_nil)) pa_nil))) (pg_name (i := 4) sc_law_folded.nd rfl (Or.inl rfl))
      (pss_one (ps_if (pt_cmpR op_lt (pe_callB cr_ln (by rfl) (z_len T) PySem.boot_len (pa_cons (pv 3) pa_nil)) (pv 2) (nomark _))
        (pss_one (ps_expr (pe_bm PySem.F.plainAttrs_list PySem.F.slot_list_append PySem.F.type_list_append mt_append (pv 3) (pa_cons (pe_op op_mod (pe_ix ix_list (pv 0) (pv 4) (fun _ _ => rfl)) (pe_op op_pow pe_int pe_int)) pa_nil))))
        (pss_cons (ps_set (i := 5) sc_law_folded.nd rfl (Or.inl rfl) (pe_op op_add (pe_op op_mul (pe_ix ix_list (pv 3) (pe_op op_mod (pv 4) (pv 2)) (fun _ _ => rfl)) pe_int) (pe_op op_mod (pe_ix ix_list (pv 0) (pv 4) (fun _ _ => rfl)) (pe_op op_pow pe_int pe_int))))
          (pss_one (ps_asg (pe_op op_mod (pv 5) (pe_op op_pow pe_int pe_int)) (pg_sub (pv 3) (pe_op op_mod (pv 4) (pv 2)) set_list)))))))
      (pss_one (ps_ret (pv 3)))), ?_⟩
    walk_at "oh go"
    refine ⟨a, ns, first, rfl, hs, f0, fun c => ?_⟩
    walk_at "oh go"
    refine ⟨Nat.le_of_ble_eq_true rfl, fun l el => ?_⟩
    have s1 := same_new el (.lst [.int c])
    have hs1 := SqL.same s1 hs
    walk_at "oh go"
    refine i_rng2 ?_
    walk_at "oh go"
    refine i_lnq hs1 ?_
    walk_at "oh go"
    rw [List.length_map]
    refine ⟨first + 1, (ns.length : Int), rfl, by omega, ?_⟩
    refine for_n (fun i σ H' => ∃ cs o4 o5, σ = [some (.ref a), some (.int first), some (.int most), some (.ref l), o4, o5] ∧ Same H H' ∧ H' l = some (.lst (cs.map V.int)) ∧ 1 ≤ cs.length ∧ (cs.length : Int) ≤ most) ⟨[c], none, none, rfl, s1, upd_same, Nat.le_refl _, m1⟩ ?_ ?_
    · rintro i σ H1 hi ⟨cs, o4, o5, rfl, sm, hl, c1, c2⟩
      have hs2 := SqL.same sm hs
      have lt : first.toNat + 1 + i < ns.length := by omega
      have ek : first + 1 + (i : Int) = ((first.toNat + 1 + i : Nat) : Int) := by omega
      have at_ : atI (ns.map V.int) (first + 1 + (i : Int)) = some (.int ns[first.toNat + 1 + i]) := by
        rw [ek]
        refine atI_nat ?_
        rw [List.getElem?_map, List.getElem?_eq_getElem lt]
        rfl
      generalize ns[first.toNat + 1 + i] = e at at_
      walk_at "oh go"
      refine i_dec (fun cc => ?_) (fun cc => ?_)
      · rw [List.length_map] at cc
        walk_at "oh go"
        refine i_ixq hs2 at_ ?_
        walk_at "oh go"
        refine i_I (⟨by decide, by decide, by decide⟩ : CPow 10 60) ?_
        rw [t60]
        walk_at "oh go"
        refine i_I (by decide : (0 : Int) < 1000000000000000000000000000000000000000000000000000000000000) ?_
        walk_at "oh go"
        refine i_app hl (by rw [List.length_map]; omega) ?_
        exact ⟨cs ++ [e % 1000000000000000000000000000000000000000000000000000000000000], _, _, rfl, same_mut sm el _, by rw [List.map_append]; exact upd_same, by rw [List.length_append]; omega, by rw [List.length_append]; show ((cs.length + 1 : Nat) : Int) ≤ most; omega⟩
      · rw [List.length_map] at cc
        walk_at "oh go"
        refine i_I (by omega : (0 : Int) < most) ?_
        have r0 := Int.emod_nonneg (first + 1 + (i : Int)) (show most ≠ 0 by omega)
        have r1 := Int.emod_lt_of_pos (first + 1 + (i : Int)) (show (0 : Int) < most by omega)
        obtain ⟨j, hj⟩ : ∃ j : Nat, (first + 1 + (i : Int)) % most = (j : Int) := ⟨((first + 1 + (i : Int)) % most).toNat, by omega⟩
        rw [hj]
        have jl : j < cs.length := by omega
        refine i_ixL hl (v := .int cs[j]) (atI_nat (by rw [List.getElem?_map, List.getElem?_eq_getElem jl]; rfl)) ?_
        generalize cs[j] = d
        walk_at "oh go"
        refine i_I (.inr ⟨by decide, by decide⟩ : CMul d 10007) ?_
        walk_at "oh go"
        refine i_ixq hs2 at_ ?_
        walk_at "oh go"
        refine i_I (⟨by decide, by decide, by decide⟩ : CPow 10 60) ?_
        rw [t60]
        walk_at "oh go"
        refine i_I (by decide : (0 : Int) < 1000000000000000000000000000000000000000000000000000000000000) ?_
        walk_at "oh go"
        refine i_I (⟨by decide, by decide, by decide⟩ : CPow 10 60) ?_
        rw [t60]
        walk_at "oh go"
        refine i_I (by decide : (0 : Int) < 1000000000000000000000000000000000000000000000000000000000000) ?_
        generalize (d * 10007 + e % 1000000000000000000000000000000000000000000000000000000000000) % 1000000000000000000000000000000000000000000000000000000000000 = g
        refine i_sub ?_
        walk_at "oh go"
        refine i_I (by omega : (0 : Int) < most) ?_
        rw [hj]
        refine ⟨l, _, _, j, rfl, rfl, hl, ixn (by rw [List.length_map]; exact jl), ?_⟩
        exact ⟨cs.set j g, _, _, rfl, same_mut sm el _, by rw [List.map_set]; exact upd_same, by rw [List.length_set]; exact c1, by rw [List.length_set]; exact c2⟩
    · rintro σ H1 ⟨cs, o4, o5, rfl, sm, hl, c1, c2⟩
      walk_at "oh go"
      exact q l cs H1 sm el hl c1 c2
end
end OH
set_option Elab.async false
set_option linter.all false
set_option maxRecDepth 100000
set_option maxHeartbeats 4000000
set_option exponentiation.threshold 10000
namespace OH
open PySem PySem.Spec PyProof.Rows L2
namespace D
def bigV (cell k : Int) : Int := (cell % 1000000000000000000000000000000000000000000000000000000000000 + 1) * (271828182845904523536028747135266249775724709369995 + 2 * k * k) + 7907 * k
def mixV (cell k size : Int) : Int := bigV cell k * bigV cell k % (1000000000000000000000000000000000000000000000000000000000000 + 7) / 11 % size
theorem mix0 {cell k size : Int} (h : 1 ≤ size) : 0 ≤ mixV cell k size := Int.emod_nonneg _ (by omega)
theorem mix1 {cell k size : Int} (h : 1 ≤ size) : mixV cell k size < size := Int.emod_lt_of_pos _ (by omega)
section
variable {P : Program} {w : World} {K : PySem.W.Frag} {mg : Str → Option Value} {base : Heap}
/-- a known object: through what has changed since -/
local macro_rules | `(tactic| walk_at "oh hp") => `(tactic| first | assumption | exact upd_same | (refine get_new (by assumption) ?_; walk_at "oh hp") | (refine get_mut (by assumption) ?_ (by intro z; cases z); walk_at "oh hp") | (refine same_get (by assumption) ?_; walk_at "oh hp") | (refine ts_get (by assumption) ?_; walk_at "oh hp") | (refine same_get (LL.sm (by assumption)) ?_; walk_at "oh hp") | exact LL.at_ (by assumption))
local macro_rules | `(tactic| walk_at "oh sc") => `(tactic| exact ⟨rfl, rfl, rfl, by decide +kernel, rfl, by decide +kernel, by decide +kernel⟩)
/-- one step of a reading -/
local macro_rules | `(tactic| walk_at "oh 1") => `(tactic| with_reducible first
  | refine i_var rfl ?_ | refine i_c ?_ | refine i_op ?_ | refine i_I0 ?_ | refine i_cons ?_ | refine i_nil ?_ | refine i_asg ?_ | refine i_name ?_ | refine i_seq ?_ | refine i_ifS ?_ | refine i_test ?_ | refine i_bl ?_ | refine i_call ?_ | refine i_CB ?_
  | refine i_tup ?_ | refine i_lst ?_ | refine i_eqI ?_ | refine i_eqS ?_ | refine i_neI ?_ | refine i_un ?_ | refine i_U ?_ | refine i_ret ?_ | refine i_retN ?_ | refine i_next ?_ | refine i_cont ?_ | refine i_drop ?_ | refine i_B ?_ | refine i_and ?_ | refine i_or ?_ | refine i_not ?_ | refine i_mn ?_ | refine i_mx ?_ | refine i_isN ?_ | refine i_notN ?_ | refine i_bm ?_ | refine i_bm0 ?_ | refine i_rn ?_ | refine i_nn ?_ | refine i_rn' ?_ | refine i_nn' ?_ | refine i_gcons ?_ | refine i_gnil ?_ | refine i_orV ?_ | refine i_andV ?_ | refine i_notV ?_ | refine i_chain ?_ | refine i_forL ?_ | refine i_iL ?_ | refine i_iT ?_ | refine i_lc ?_ | refine i_yes ?_ | refine i_sortS ?_ | refine i_lenS ?_ | refine i_slL ?_ | refine i_noP ?_ | refine i_part ?_ | refine i_fld ?_ | refine i_sFld ?_ | refine i_dget ?_ | refine i_meth ?_ | refine i_dnot ?_ | refine i_aug rfl ?_ | refine i_ip ?_ | refine iteT ?_ | refine iteF ?_ | refine i_nT ?_ | refine i_nF ?_)
local macro_rules | `(tactic| walk_at "oh 2") => `(tactic| first | ((with_reducible refine' i_sF ?c ?q); (case c => decide +kernel)) | ((with_reducible refine' i_sT ?c ?q); (case c => decide +kernel)) | ((with_reducible refine' i_atP ?h ?c ?n ?l ?q); (case h => walk_at "oh hp"); (case c => assumption); (case n => assumption); (case l => exact Nat.le_of_ble_eq_true rfl)) | ((with_reducible refine' i_atF ?h ?c ?n ?l ?q); (case h => walk_at "oh hp"); (case c => assumption); (case n => assumption); (case l => rfl)) | ((with_reducible refine' i_ixT ?h ?e ?q); (case h => walk_at "oh hp"); (case e => rfl)) | ((with_reducible refine' i_gtup ?h ?e ?q); (case h => walk_at "oh hp"); (case e => rfl)) | ((with_reducible refine' i_atL ?h ?q); (case h => walk_at "oh hp")) | ((with_reducible refine' i_atT ?h ?q); (case h => walk_at "oh hp")) | ((with_reducible refine' i_tyL ?h ?q); (case h => walk_at "oh hp")) | ((with_reducible refine' i_lnL ?h ?q); (case h => walk_at "oh hp")) | ((with_reducible refine' i_lnT ?h ?q); (case h => walk_at "oh hp")))
local macro_rules | `(tactic| walk_at "oh go") => `(tactic| repeat first | walk_at "oh 1" | walk_at "oh 2")
def sp_law_mix : Sp := fun vs H Q _ => ∃ cell k size : Int, vs = [.int cell, .int k, .int size] ∧ 0 ≤ k ∧ k ≤ 300 ∧ 1 ≤ size ∧ Q (.int (mixV cell k size)) H
/- slots: 0 cell, 1 k, 2 size, 3 odd, 4 big -/
theorem sc_law_mix : FnScope ["cell", "k", "size", "odd", "big"] ["cell", "k", "size"] (defScope s_law_mix) := by walk_at "oh sc"
theorem ok_law_mix (T : Pg K mg) : Ok P w K mg base CX0 1 "_law_mix" ["cell", "k", "size"] sp_law_mix := by
  obtain ⟨fd, F⟩ := F_law_mix T
  refine ⟨fd, F.ok sc_law_mix (fun vs H Q E h => ?_) (fun cdv A outer s H vs Q E hr h => ?_), F.binds fun _ _ _ _ _ _ us hl => (match us, hl with | [_, _, _], _ => rfl), F.kp, g_law_mix T⟩
  · obtain ⟨cell, k, size, rfl, _⟩ := h
    rfl
  · obtain ⟨cell, k, size, rfl, k0, k1, s1, q⟩ := h
    have hu := hu_of hr
    refine ⟨_, pss_cons (ps_set (i := 3) sc_law_mix.nd rfl (Or.inl rfl) (pe_op op_add pe_int (pe_op op_mulW (pe_op op_mulW pe_int (pv 1)) (pv 1))))
      (pss_cons (ps_set (i := 4) sc_law_mix.nd rfl (Or.inl rfl) (pe_op op_add (pe_op op_mulW (pe_op op_add (pe_op op_mod (pv 0) (pe_op op_pow pe_int pe_int)) pe_int) (pv 3)) (pe_op op_mulW pe_int (pv 1))))
      (pss_one (ps_ret (pe_op op_mod (pe_op op_fdivW (pe_op op_mod (pe_op op_mulW (pv 4) (pv 4)) (pe_op op_add (pe_op op_pow pe_int pe_int) pe_int)) pe_int) (pv 2))))), ?_⟩
    have sk : Sz 9 k := by unfold Sz; omega
    walk_at "oh go"
    refine i_I (bg_mul ((show Sz 2 2 by unfold Sz; decide).mono (by decide)) (sk.mono (by decide))) ?_
    walk_at "oh go"
    refine i_I (bg_mul (((show Sz 2 2 by unfold Sz; decide).mul sk).mono (by decide)) (sk.mono (by decide))) ?_
    walk_at "oh go"
    refine i_I (⟨by decide, by decide, by decide⟩ : CPow 10 60) ?_
    have t60 : (10 : Int) ^ (60 : Int).toNat = 1000000000000000000000000000000000000000000000000000000000000 := by decide +kernel
    rw [t60]
    walk_at "oh go"
    refine i_I (by decide : (0 : Int) < 1000000000000000000000000000000000000000000000000000000000000) ?_
    walk_at "oh go"
    have c1 : Sz 200 (cell % 1000000000000000000000000000000000000000000000000000000000000) := by
      have h1 := Int.emod_nonneg cell (show (1000000000000000000000000000000000000000000000000000000000000 : Int) ≠ 0 by decide)
      have h2 := Int.emod_lt_of_pos cell (show (0 : Int) < 1000000000000000000000000000000000000000000000000000000000000 by decide)
      exact Sz.btw (i := 0) (k := 1000000000000000000000000000000000000000000000000000000000000) Sz.zero (by unfold Sz; decide) h1 (Int.le_of_lt h2)
    have c2 : Sz 201 (cell % 1000000000000000000000000000000000000000000000000000000000000 + 1) := c1.add ((show Sz 2 1 by unfold Sz; decide).mono (by decide))
    have o1 : Sz 180 (2 * k) := ((show Sz 2 2 by unfold Sz; decide).mul sk).mono (by decide)
    have o2 : Sz 190 (2 * k * k) := (((show Sz 2 2 by unfold Sz; decide).mul sk).mul sk).mono (by decide)
    have o3 : Sz 191 (271828182845904523536028747135266249775724709369995 + 2 * k * k) := (show Sz 190 271828182845904523536028747135266249775724709369995 by unfold Sz; decide).add o2
    have o4 : Sz 20 7907 := by unfold Sz; decide
    refine i_I (bg_mul (c2.mono (by decide)) (o3.mono (by decide))) ?_
    walk_at "oh go"
    refine i_I (bg_mul (o4.mono (by decide)) (sk.mono (by decide))) ?_
    walk_at "oh go"
    have b1 := (c2.mul o3).add ((o4.mul sk).mono (by decide : 20 + 9 ≤ 201 + 191))
    generalize hb : (cell % 1000000000000000000000000000000000000000000000000000000000000 + 1) * (271828182845904523536028747135266249775724709369995 + 2 * k * k) + 7907 * k = big at b1 ⊢
    refine i_I (bg_mul (b1.mono (by decide)) (b1.mono (by decide))) ?_
    walk_at "oh go"
    refine i_I (⟨by decide, by decide, by decide⟩ : CPow 10 60) ?_
    rw [t60]
    walk_at "oh go"
    refine i_I (by decide : (0 : Int) < 1000000000000000000000000000000000000000000000000000000000000 + 7) ?_
    walk_at "oh go"
    refine i_I (bg_div (by decide) (by unfold Bg Sz; decide)) ?_
    walk_at "oh go"
    refine i_I (by omega : (0 : Int) < size) ?_
    subst hb
    exact q
end
end D
end OH
set_option Elab.async false
set_option linter.all false
set_option maxRecDepth 100000
set_option maxHeartbeats 4000000
set_option exponentiation.threshold 10000
namespace OH
open PySem PySem.Spec PyProof.Rows L2
/-- one of the three signs -/
def Qxz (c : Nat) : Bool := c == 113 || c == 120 || c == 122
def QzV : RepF Unit := fun _ v _ => ∃ c, Qxz c = true ∧ v = .str ⟨#[c]⟩
theorem QzV.mono : MonoT QzV := fun _ _ _ _ _ h => h
theorem qz_its {H : Hp} : ∀ {vs : List V} {l : List Unit}, Its QzV H vs l → ∃ cs : List Nat, vs = (cs.map fun c => (⟨#[c]⟩ : Str)).map V.str ∧ cs.length = l.length ∧ ∀ c ∈ cs, Qxz c = true
  | _, _, .nil => ⟨[], rfl, rfl, fun _ h => nomatch h⟩
  | _, _, .cons ⟨c, hc, e⟩ r => by
    obtain ⟨cs, e2, e3, al⟩ := qz_its r
    refine ⟨c :: cs, by rw [e, e2]; rfl, by rw [List.length_cons, e3]; rfl, fun d hd => ?_⟩
    rcases List.mem_cons.mp hd with rfl | h
    · exact hc
    · exact al d h
theorem joinL_one : ∀ cs : List Nat, TL.joinL [] (cs.map fun c => [c]) = cs
  | [] => rfl
  | [_] => rfl
  | c :: d :: r => by
    have := joinL_one (d :: r)
    show [c] ++ ([] ++ TL.joinL [] ((d :: r).map fun c => [c])) = _
    rw [this]
    rfl
theorem join_signs (cs : List Nat) : (Txt.join "" (cs.map fun c => (⟨#[c]⟩ : Str))).cps.toList = cs := by
  have e := TL.tl_join "" (cs.map fun c => (⟨#[c]⟩ : Str))
  rw [TL.join_eq]
  refine Eq.trans e ?_
  rw [List.map_map]
  exact joinL_one cs
theorem sum_ones (cs : List Nat) : ((cs.map fun c => (⟨#[c]⟩ : Str)).map (·.length)).sum = cs.length := by
  induction cs with
  | nil => rfl
  | cons c r ih =>
    rw [List.map_cons, List.map_cons, List.sum_cons, ih, List.length_cons, Nat.add_comm]
    rfl
theorem letters_at {j : Nat} (h : j < 26) : letters.cps.toList[j]? = some (97 + j) := by
  have k : ∀ j < 26, letters.cps.toList[j]? = some (97 + j) := by decide +kernel
  exact k j h
/-- a word of the law -/
structure WordIs (hl : List Nat) (c : Nat) (tl_ : List Nat) (z : Str) : Prop where
  at_ : z.cps.toList = hl ++ c :: tl_
theorem word_ok {hl tl_ : List Nat} {c j : Nat} {z : Str} (W : WordIs hl c tl_ z) (h1 : ∀ d ∈ hl, Qxz d = true) (h2 : ∀ d ∈ tl_, Qxz d = true) (l1 : hl.length ≤ 3) (l2 : tl_.length ≤ 4) (hc : letters.cps.toList[j]? = some c) : NameOk z := by
  have ln : z.length = hl.length + (tl_.length + 1) := by
    show z.cps.size = _
    rw [← Array.length_toList, W.at_, List.length_append, List.length_cons]
  have qz : ∀ d, Qxz d = true → d ∈ letters.cps.toList := fun d hd => by
    unfold Qxz at hd
    rw [Bool.or_eq_true, Bool.or_eq_true] at hd
    rcases hd with (h | h) | h <;> rw [beq_iff_eq.mp h] <;> decide +kernel
  refine ⟨by omega, by omega, fun m => ?_, fun d hd => ?_⟩
  · have k : ∀ w ∈ wordList, 2 ≤ w.cps.toList.countP (fun c => !Qxz c) := by decide +kernel
    have z2 := k z m
    have c0 : ∀ {l : List Nat}, (∀ d ∈ l, Qxz d = true) → l.countP (fun c => !Qxz c) = 0 := fun h => List.countP_eq_zero.mpr fun d hd => by
      rw [h d hd]
      decide
    rw [W.at_, List.countP_append, c0 h1, List.countP_cons, c0 h2] at z2
    split at z2 <;> omega
  · rw [W.at_] at hd
    rcases List.mem_append.mp hd with h | h
    · exact qz d (h1 d h)
    · rcases List.mem_cons.mp h with rfl | h
      · exact List.mem_of_getElem? hc
      · exact qz d (h2 d h)
section
variable {P : Program} {w : World} {K : PySem.W.Frag} {mg : Str → Option Value} {base : Heap}
/-- a known object: through what has changed since -/
local macro_rules | `(tactic| walk_at "oh hp") => `(tactic| first | assumption | exact upd_same | (refine get_new (by assumption) ?_; walk_at "oh hp") | (refine get_mut (by assumption) ?_ (by intro z; cases z); walk_at "oh hp") | (refine same_get (by assumption) ?_; walk_at "oh hp") | (refine ts_get (by assumption) ?_; walk_at "oh hp") | (refine same_get (LL.sm (by assumption)) ?_; walk_at "oh hp") | exact LL.at_ (by assumption))
local macro_rules | `(tactic| walk_at "oh sc") => `(tactic| exact ⟨rfl, rfl, rfl, by decide +kernel, rfl, by decide +kernel, by decide +kernel⟩)
/-- one step of a reading -/
local macro_rules | `(tactic| walk_at "oh 1") => `(tactic| with_reducible first
  | refine i_var rfl ?_ | refine i_c ?_ | refine i_op ?_ | refine i_I0 ?_ | refine i_cons ?_ | refine i_nil ?_ | refine i_asg ?_ | refine i_name ?_ | refine i_seq ?_ | refine i_ifS ?_ | refine i_test ?_ | refine i_bl ?_ | refine i_call ?_ | refine i_CB ?_
  | refine i_tup ?_ | refine i_lst ?_ | refine i_eqI ?_ | refine i_eqS ?_ | refine i_neI ?_ | refine i_un ?_ | refine i_U ?_ | refine i_ret ?_ | refine i_retN ?_ | refine i_next ?_ | refine i_cont ?_ | refine i_drop ?_ | refine i_B ?_ | refine i_and ?_ | refine i_or ?_ | refine i_not ?_ | refine i_mn ?_ | refine i_mx ?_ | refine i_isN ?_ | refine i_notN ?_ | refine i_bm ?_ | refine i_bm0 ?_ | refine i_rn ?_ | refine i_nn ?_ | refine i_rn' ?_ | refine i_nn' ?_ | refine i_gcons ?_ | refine i_gnil ?_ | refine i_orV ?_ | refine i_andV ?_ | refine i_notV ?_ | refine i_chain ?_ | refine i_forL ?_ | refine i_iL ?_ | refine i_iT ?_ | refine i_lc ?_ | refine i_yes ?_ | refine i_sortS ?_ | refine i_lenS ?_ | refine i_slL ?_ | refine i_noP ?_ | refine i_part ?_ | refine i_fld ?_ | refine i_sFld ?_ | refine i_dget ?_ | refine i_meth ?_ | refine i_dnot ?_ | refine i_aug rfl ?_ | refine i_ip ?_ | refine iteT ?_ | refine iteF ?_ | refine i_nT ?_ | refine i_nF ?_)
local macro_rules | `(tactic| walk_at "oh 2") => `(tactic| first | ((with_reducible refine' i_sF ?c ?q); (case c => decide +kernel)) | ((with_reducible refine' i_sT ?c ?q); (case c => decide +kernel)) | ((with_reducible refine' i_atP ?h ?c ?n ?l ?q); (case h => walk_at "oh hp"); (case c => assumption); (case n => assumption); (case l => exact Nat.le_of_ble_eq_true rfl)) | ((with_reducible refine' i_atF ?h ?c ?n ?l ?q); (case h => walk_at "oh hp"); (case c => assumption); (case n => assumption); (case l => rfl)) | ((with_reducible refine' i_ixT ?h ?e ?q); (case h => walk_at "oh hp"); (case e => rfl)) | ((with_reducible refine' i_gtup ?h ?e ?q); (case h => walk_at "oh hp"); (case e => rfl)) | ((with_reducible refine' i_atL ?h ?q); (case h => walk_at "oh hp")) | ((with_reducible refine' i_atT ?h ?q); (case h => walk_at "oh hp")) | ((with_reducible refine' i_tyL ?h ?q); (case h => walk_at "oh hp")) | ((with_reducible refine' i_lnL ?h ?q); (case h => walk_at "oh hp")) | ((with_reducible refine' i_lnT ?h ?q); (case h => walk_at "oh hp")))
local macro_rules | `(tactic| walk_at "oh go") => `(tactic| repeat first | walk_at "oh 1" | walk_at "oh 2")
def sp_law_words : Sp := fun vs H Q _ => ∃ cell size : Int, vs = [.int cell, .int size] ∧ 1 ≤ size ∧ size ≤ 4 ∧ ∀ (l : Addr) (ns : List Str) H', H l = none → Same H H' → H' l = some (.lst (ns.map V.str)) → (ns.length : Int) = size → ns.Nodup → (∀ z ∈ ns, NameOk z) → (∀ x ∈ ns, ∀ y ∈ ns, x.length = y.length) → Q (.ref l) H'
/- slots: 0 cell, 1 size, 2 letters, 3 head, 4 tail, 5 j, 6 k (cells: cell, head, letters, tail) -/
theorem sc_law_words : FnScope ["cell", "size", "letters", "head", "tail", "j", "k"] ["cell", "size"] (defScope s_law_words) := by walk_at "oh sc"
theorem ok_law_words (T : Pg K mg) : Ok P w K mg base CX0 2 "_law_words" ["cell", "size"] sp_law_words := by
  obtain ⟨fd, F⟩ := F_law_words T
  refine ⟨fd, F.ok sc_law_words (fun vs H Q E h => ?_) (fun cdv A outer s H vs Q E hr h => ?_), F.binds fun _ _ _ _ _ _ us hl => (match us, hl with | [_, _], _ => rfl), F.kp, g_law_words T⟩
  · obtain ⟨cell, size, rfl, _⟩ := h
    rfl
  · obtain ⟨cell, size, rfl, z1, z4, q⟩ := h
    have hu := hu_of hr
    refine ⟨_, pss_cons (ps_set (i := 2) sc_law_words.nd rfl (Or.inr rfl) pe_str)
      (pss_cons (ps_set (i := 3) sc_law_words.nd rfl (Or.inr rfl) (pe_bm PySem.F.plainAttrs_str PySem.F.slot_str_join PySem.F.type_str_join mt_join pe_str (pa_cons (pe_lc (own := [("j", 5)]) (g := gName 5) rfl sc_law_words.nd (pi_range1 (by rfl) (z_range T) (pa_cons (pe_c0 (D.ok_law_mix T) hr (pa_cons (pv 0) (pa_cons pe_int (pa_cons pe_int pa_nil)))) pa_nil)) (blkOk_by (own := [("j", 5)]) (N := ["cell", "size", "letters", "head", "tail", "j", "k"]) (sc := defScope s_law_words) (by decide +kernel)) (fun _ _ _ _ _ => pg_name (i := 5) sc_law_words.nd rfl (Or.inl rfl)) (fun _ _ _ _ _ => pts_nil) (fun _ _ _ _ _ => (pe_ix ix_str pe_str (pe_c0 (D.ok_law_mix T) hr (pa_cons (pv 0) (pa_cons (pv 5) (pa_cons pe_int pa_nil)))) (fun _ _ => rfl)))) pa_nil)))
      (pss_cons (ps_set (i := 4) sc_law_words.nd rfl (Or.inr rfl) (pe_bm PySem.F.plainAttrs_str PySem.F.slot_str_join PySem.F.type_str_join mt_join pe_str (pa_cons (pe_lc (own := [("j", 5)]) (g := gName 5) rfl sc_law_words.nd (pi_range1 (by rfl) (z_range T) (pa_cons (pe_c0 (D.ok_law_mix T) hr (pa_cons (pv 0) (pa_cons pe_int (pa_cons pe_int pa_nil)))) pa_nil)) (blkOk_by (own := [("j", 5)]) (N := ["cell", "size", "letters", "head", "tail", "j", "k"]) (sc := defScope s_law_words) (by decide +kernel)) (fun _ _ _ _ _ => pg_name (i := 5) sc_law_words.nd rfl (Or.inl rfl)) (fun _ _ _ _ _ => pts_nil) (fun _ _ _ _ _ => (pe_ix ix_str pe_str (pe_c0 (D.ok_law_mix T) hr (pa_cons (pv 0) (pa_cons (pe_op op_add (pv 5) pe_int) (pa_cons pe_int pa_nil)))) (fun _ _ => rfl)))) pa_nil)))
      (pss_one (ps_ret (pe_lc (own := [("k", 6)]) (g := gName 6) rfl sc_law_words.nd (pi_range1 (by rfl) (z_range T) (pa_cons (pv 1) pa_nil)) (blkOk_by (own := [("k", 6)]) (N := ["cell", "size", "letters", "head", "tail", "j", "k"]) (sc := defScope s_law_words) (by decide +kernel)) (fun _ _ _ _ _ => pg_name (i := 6) sc_law_words.nd rfl (Or.inl rfl)) (fun _ _ _ _ _ => pts_nil) (fun _ _ _ _ _ => (pe_op op_add_str (pe_op op_add_str (pv 3) (pe_ix ix_str (pv 2) (pe_op op_mod (pe_op op_add (pe_c0 (D.ok_law_mix T) hr (pa_cons (pv 0) (pa_cons pe_int (pa_cons pe_int pa_nil)))) (pe_op op_mul pe_int (pv 6))) pe_int) (fun _ _ => rfl))) (pv 4)))))))), ?_⟩
    walk_at "oh go"
    refine ⟨rfl, ?_⟩
    walk_at "oh go"
    refine i_rng1 ?_
    walk_at "oh go"
    refine ⟨cell, 20, 4, rfl, by decide, by decide, by decide, ?_⟩
    have a0 := D.mix0 (cell := cell) (k := 20) (size := 4) (by decide)
    have a1 := D.mix1 (cell := cell) (k := 20) (size := 4) (by decide)
    generalize D.mixV cell 20 4 = a at a0 a1
    walk_at "oh go"
    refine ⟨a, rfl, by omega, by omega, ?_⟩
    intro D1 hD1
    refine lc_FR (S := QzV) (fun i => List.replicate i ()) hD1 rfl ?_ ?_
    · intro i H1 acc hi X
      walk_at "oh go"
      refine ⟨rfl, ?_⟩
      walk_at "oh go"
      refine ⟨cell, _, 3, rfl, by omega, by omega, by decide, ?_⟩
      have b0 := D.mix0 (cell := cell) (k := 0 + i) (size := 3) (by decide)
      have b1 := D.mix1 (cell := cell) (k := 0 + i) (size := 3) (by decide)
      generalize D.mixV cell (0 + i) 3 = b at b0 b1
      obtain ⟨c, hc, e⟩ : ∃ c, Qxz c = true ∧ atI ("qxz" : Str).cps.toList b = some c := by
        rcases (by omega : b = 0 ∨ b = 1 ∨ b = 2) with rfl | rfl | rfl
        · exact ⟨113, rfl, rfl⟩
        · exact ⟨120, rfl, rfl⟩
        · exact ⟨122, rfl, rfl⟩
      refine ⟨_, b, c, rfl, rfl, Nat.le_of_ble_eq_true rfl, e, ?_⟩
      exact made_push QzV.mono X (z := ()) ⟨c, hc, rfl⟩ (by rw [List.length_replicate]; omega) (by rw [List.replicate_succ'])
    intro H1 acc X
    obtain ⟨hd, rfl, hl, hq⟩ := qz_its X.its
    rw [List.length_replicate] at hl
    walk_at "oh go"
    refine ⟨_, D1, _, rfl, rfl, .inl (SqL.of X.at_), ?_, ?_⟩
    · rw [sum_ones]
      show hd.length + _ * 0 ≤ _
      omega
    walk_at "oh go"
    refine ⟨rfl, ?_⟩
    walk_at "oh go"
    refine i_rng1 ?_
    walk_at "oh go"
    refine ⟨cell, 21, 5, rfl, by decide, by decide, by decide, ?_⟩
    have c0 := D.mix0 (cell := cell) (k := 21) (size := 5) (by decide)
    have c1 := D.mix1 (cell := cell) (k := 21) (size := 5) (by decide)
    generalize D.mixV cell 21 5 = c at c0 c1
    walk_at "oh go"
    refine ⟨c, rfl, by omega, by omega, ?_⟩
    intro D2 hD2
    refine lc_FR (S := QzV) (fun i => List.replicate i ()) hD2 rfl ?_ ?_
    · intro i H1 acc hi X
      walk_at "oh go"
      refine ⟨rfl, ?_⟩
      walk_at "oh go"
      refine ⟨cell, _, 3, rfl, by omega, by omega, by decide, ?_⟩
      have b0 := D.mix0 (cell := cell) (k := 0 + i + 5) (size := 3) (by decide)
      have b1 := D.mix1 (cell := cell) (k := 0 + i + 5) (size := 3) (by decide)
      generalize D.mixV cell (0 + i + 5) 3 = b at b0 b1
      obtain ⟨c, hc, e⟩ : ∃ c, Qxz c = true ∧ atI ("zxq" : Str).cps.toList b = some c := by
        rcases (by omega : b = 0 ∨ b = 1 ∨ b = 2) with rfl | rfl | rfl
        · exact ⟨122, rfl, rfl⟩
        · exact ⟨120, rfl, rfl⟩
        · exact ⟨113, rfl, rfl⟩
      refine ⟨_, b, c, rfl, rfl, Nat.le_of_ble_eq_true rfl, e, ?_⟩
      exact made_push QzV.mono X (z := ()) ⟨c, hc, rfl⟩ (by rw [List.length_replicate]; omega) (by rw [List.replicate_succ'])
    intro H2 acc X2
    obtain ⟨tl_, rfl, tl2, tq⟩ := qz_its X2.its
    rw [List.length_replicate] at tl2
    walk_at "oh go"
    refine ⟨_, D2, _, rfl, rfl, .inl (SqL.of X2.at_), ?_, ?_⟩
    · rw [sum_ones]
      show tl_.length + _ * 0 ≤ _
      omega
    have jh := join_signs hd
    have jt := join_signs tl_
    generalize Txt.join "" (hd.map fun c => (⟨#[c]⟩ : Str)) = hs at jh
    generalize Txt.join "" (tl_.map fun c => (⟨#[c]⟩ : Str)) = ts at jt
    have lh : hs.length = hd.length := by
      rw [← jh]
      rfl
    have lt_ : ts.length = tl_.length := by
      rw [← jt]
      rfl
    have sm := X.sm.trans X2.sm
    walk_at "oh go"
    refine i_rng1 ?_
    walk_at "oh go"
    refine ⟨size, rfl, by omega, by omega, ?_⟩
    intro D3 hD3
    have m0 := D.mix0 (cell := cell) (k := 22) (size := 26) (by decide)
    have m1 := D.mix1 (cell := cell) (k := 22) (size := 26) (by decide)
    refine lc_FR (S := StrV) (fun i => (List.range i).map fun k => hs ++ ⟨#[97 + ((D.mixV cell 22 26 + 3 * (k : Int)) % 26).toNat]⟩ ++ ts) hD3 rfl ?_ ?_
    · intro i H3 acc hi X3
      walk_at "oh go"
      refine ⟨rfl, ?_⟩
      walk_at "oh go"
      refine ⟨cell, 22, 26, rfl, by decide, by decide, by decide, ?_⟩
      generalize D.mixV cell 22 26 = m at m0 m1 X3
      walk_at "oh go"
      refine i_I (.inl ⟨by decide, by decide⟩ : CMul 3 _) ?_
      walk_at "oh go"
      refine i_I (by decide : (0 : Int) < 26) ?_
      have r0 := Int.emod_nonneg (m + 3 * (0 + (i : Int))) (show (26 : Int) ≠ 0 by decide)
      have r1 := Int.emod_lt_of_pos (m + 3 * (0 + (i : Int))) (show (0 : Int) < 26 by decide)
      have er : (m + 3 * (0 + (i : Int))) % 26 = (m + 3 * (i : Int)) % 26 := by rw [Int.zero_add]
      obtain ⟨j, hj⟩ : ∃ j : Nat, (m + 3 * (0 + (i : Int))) % 26 = (j : Int) := ⟨((m + 3 * (0 + (i : Int))) % 26).toNat, by omega⟩
      have j26 : j < 26 := by omega
      refine ⟨_, _, 97 + j, rfl, rfl, Nat.le_of_ble_eq_true rfl, by rw [hj]; exact atI_nat (letters_at j26), ?_⟩
      refine ⟨hs, _, rfl, rfl, by show hs.length + 1 ≤ _; exact small (by omega), ?_⟩
      walk_at "oh go"
      have l2 : (hs ++ (⟨#[97 + j]⟩ : Str)).length = hs.length + 1 := by
        show (hs ++ (⟨#[97 + j]⟩ : Str)).cps.size = _
        rw [Str.cps_append, Array.size_append]
        rfl
      refine ⟨_, ts, rfl, rfl, by rw [l2]; exact small (by omega), ?_⟩
      refine made_push StrV.mono X3 (z := hs ++ (⟨#[97 + j]⟩ : Str) ++ ts) rfl (by rw [List.length_map, List.length_range]; omega) ?_
      rw [List.range_succ, List.map_append]
      show _ ++ [hs ++ (⟨#[97 + j]⟩ : Str) ++ ts] = _ ++ [hs ++ ⟨#[97 + ((m + 3 * (i : Int)) % 26).toNat]⟩ ++ ts]
      rw [show ((m + 3 * (i : Int)) % 26).toNat = j by omega]
    · intro H3 acc X3
      rw [strs_its X3.its] at X3
      generalize D.mixV cell 22 26 = m at m0 m1 X3
      have wd : ∀ k : Nat, WordIs hd (97 + ((m + 3 * (k : Int)) % 26).toNat) tl_ (hs ++ ⟨#[97 + ((m + 3 * (k : Int)) % 26).toNat]⟩ ++ ts) := fun k => ⟨by
        rw [Str.cps_append, Str.cps_append, Array.toList_append, Array.toList_append, jh, jt]
        simp⟩
      refine q D3 _ H3 (none_back sm hD3) (sm.trans X3.sm) X3.at_ (by rw [List.length_map, List.length_range]; omega) ?_ ?_ ?_
      · refine List.pairwise_map.mpr (List.Pairwise.imp_of_mem (R := (· < ·)) (fun {x y} hx hy lt e => ?_) List.pairwise_lt_range)
        have e1 := (wd x).at_
        rw [e, (wd y).at_] at e1
        have e2 := List.append_cancel_left e1
        injection e2 with e3 _
        have h1 := List.mem_range.mp hx
        have h2 := List.mem_range.mp hy
        omega
      · intro z hz
        obtain ⟨k, _, rfl⟩ := List.mem_map.mp hz
        exact word_ok (wd k) hq tq (by omega) (by omega) (letters_at (by omega))
      · have ln : ∀ k : Nat, (hs ++ (⟨#[97 + ((m + 3 * (k : Int)) % 26).toNat]⟩ : Str) ++ ts).length = hd.length + (tl_.length + 1) := fun k => by
          show Array.size (Str.cps _) = _
          rw [← Array.length_toList, (wd k).at_, List.length_append, List.length_cons]
        intro x hx y hy
        obtain ⟨k, _, rfl⟩ := List.mem_map.mp hx
        obtain ⟨k2, _, rfl⟩ := List.mem_map.mp hy
        rw [ln, ln]
end
end OH
set_option Elab.async false
set_option linter.all false
set_option maxRecDepth 100000
set_option maxHeartbeats 4000000
set_option exponentiation.threshold 10000
namespace OH
open PySem PySem.Spec PyProof.Rows L2
theorem t6 : (10 : Int) ^ (6 : Int).toNat = 1000000 := by decide +kernel
theorem t38 : (10 : Int) ^ (38 : Int).toNat = 100000000000000000000000000000000000000 := by decide +kernel
/-- an offer of the law: a name and a plan -/
abbrev PlO : RepF (Str × Plan Str) := fun H v o => ∃ t vp, v = .ref t ∧ H t = some (.tup [.str o.1, vp]) ∧ PlanV H o.2 vp
theorem PlO.same {H H' : Hp} {v : V} {o : Str × Plan Str} (s : Same H H') : PlO H v o → PlO H' v o := fun ⟨t, vp, e, h, r⟩ => ⟨t, vp, e, s _ _ h, r.same s⟩
theorem plo_no_line {H : Hp} {v : V} {o : Str × Plan Str} : PlO H v o → ¬ ∃ l, LnV H v l := fun ⟨t, vp, e, h, _⟩ ⟨l, a, e2, h2⟩ => by
  rw [e] at e2
  cases e2
  rw [h] at h2
  cases h2
theorem PlO.mut {H : Hp} {k : Addr} {acc acc' : List V} {o : Str × Plan Str} {v : V} (hk : H k = some (.lst acc)) (no : ∀ x ∈ acc, ¬ ∃ l, LnV H x l) (ok : PlanOk o.2) : PlO H v o → PlO (upd H k (.lst acc')) v o := fun ⟨t, vp, e, h, r⟩ =>
  ⟨t, vp, e, (by rw [upd_ne (ne_of h hk (by intro z; cases z))]; exact h), PlanV.mut hk no ok r⟩
/-- the offers made so far -/
structure Made (ns : List Str) (H0 : Hp) (l : Addr) (H : Hp) (acc : List V) (B : Bk) (k : Nat) : Prop where
  at_ : H l = some (.lst acc)
  its : Its PlO H acc B
  sm : Same H0 H
  fr : H0 l = none
  nm : B.map (·.1) = ns.take k
  base : Base B (2 * k) k
  dir : ∀ o ∈ B, ∀ d ∈ dirs o.2, d ∈ B
  few : ∀ o ∈ B, (dirs o.2).length ≤ 3 ∧ dep o.2 ≤ 2
section
variable {ns : List Str} {H0 H H' : Hp} {l : Addr} {acc : List V} {B : Bk} {k : Nat}
theorem Made.new (s : Same H0 H) (e : H l = none) : Made ns H0 l (upd H l (.lst [])) [] [] 0 := by
  refine ⟨upd_same, .nil, s.trans (same_new e _), none_back s e, by simp, ⟨?_, ?_, ?_⟩, ?_, ?_⟩ <;> exact fun _ h => (nomatch h)
theorem Made.step (h : Made ns H0 l H acc B k) (s : Same H H') : Made ns H0 l H' acc B k :=
  ⟨s _ _ h.at_, its_id h.its fun _ _ q => PlO.same s q, h.sm.trans s, h.fr, h.nm, h.base, h.dir, h.few⟩
theorem Made.no (h : Made ns H0 l H acc B k) : ∀ x ∈ acc, ¬ ∃ r, LnV H x r := its_all (fun _ _ q => plo_no_line q) h.its
theorem its_keep {α : Type} {R S : RepF α} {C : α → Prop} {H H' : Hp} (k : ∀ v a, C a → R H v a → S H' v a) : ∀ {vs : List V} {l : List α}, (∀ a ∈ l, C a) → Its R H vs l → Its S H' vs l
  | _, _, _, .nil => .nil
  | _, _, c, .cons a r => .cons (k _ _ (c _ List.mem_cons_self) a) (its_keep k (fun a h => c a (List.mem_cons_of_mem _ h)) r)
theorem Made.keep (h : Made ns H0 l H acc B k) (acc' : List V) : Its PlO (upd H l (.lst acc')) acc B := its_keep (fun _ _ c q => PlO.mut h.at_ h.no c q) h.base.ok h.its
theorem Made.push (h : Made ns H0 l H acc B k) {n : Str} {p : Plan Str} {v : V} (q : PlO H v (n, p)) (t : TreeIn B (2 * k) k 3 p) (e : ns[k]? = some n) : Made ns H0 l (upd H l (.lst (acc ++ [v]))) (acc ++ [v]) (B ++ [(n, p)]) (k + 1) := by
  refine ⟨upd_same, (h.keep _).app (.cons (PlO.mut h.at_ h.no t.ok q) .nil), same_mut h.sm h.fr _, h.fr, ?_, ⟨fun d hd => ?_, fun d hd => ?_, fun d hd => ?_⟩, fun o ho d hd => ?_, fun o ho => ?_⟩
  · rw [List.map_append, h.nm, List.take_add_one, e]
    rfl
  · rcases List.mem_append.mp hd with z | z
    · exact h.base.ok d z
    · rw [List.mem_singleton.mp z]
      exact t.ok
  · rcases List.mem_append.mp hd with z | z
    · have := h.base.ops d z
      omega
    · rw [List.mem_singleton.mp z]
      have := t.op
      show ops p ≤ _
      omega
  · rcases List.mem_append.mp hd with z | z
    · have := h.base.nd d z
      omega
    · rw [List.mem_singleton.mp z]
      have := t.n
      show nd p < _
      omega
  · rcases List.mem_append.mp ho with z | z
    · exact List.mem_append_left _ (h.dir o z d hd)
    · rw [List.mem_singleton.mp z] at hd
      exact List.mem_append_left _ (t.dir d hd)
  · rcases List.mem_append.mp ho with z | z
    · exact h.few o z
    · rw [List.mem_singleton.mp z]
      have h1 := t.few
      have h2 := t.dp
      exact ⟨h1, by show dep p ≤ 2; omega⟩
theorem Made.book (h : Made ns H0 l H acc B k) (k4 : k ≤ 4) (nd_ : ns.Nodup) : BookIn B := by
  have bl : B.length ≤ k := by
    have e := congrArg List.length h.nm
    rw [List.length_map, List.length_take] at e
    omega
  refine ⟨by rw [h.nm]; exact List.Nodup.sublist (List.take_sublist _ _) nd_, by omega, fun o ho => ⟨h.base.ok o ho, ?_⟩, fun o ho => ?_, fun o ho => ?_, h.dir, fun o ho => ?_⟩
  · have := h.base.ops o ho
    omega
  · have := (h.few o ho).2
    omega
  · rw [allN_dirs, List.length_map]
    have := (h.few o ho).1
    omega
  · have := h.base.nd o ho
    omega
end
theorem cut_take (xs : List V) (n : Nat) : cutV xs none (some (n : Int)) = xs.take n := by
  unfold cutV
  rw [HT.sIx_none, HT.sIx_nat, List.drop_zero, Nat.sub_zero]
  rcases Nat.le_total n xs.length with h | h
  · rw [Nat.min_eq_left h]
  · rw [Nat.min_eq_right h, List.take_length, List.take_of_length_le h]
theorem its_rev {α : Type} {R : RepF α} {H : Hp} : ∀ {vs : List V} {l : List α}, Its R H vs l → Its R H vs.reverse l.reverse
  | _, _, .nil => .nil
  | _, _, .cons a r => by
    rw [List.reverse_cons, List.reverse_cons]
    exact (its_rev r).app (.cons a .nil)
theorem BookIn.rev {B : Bk} (h : BookIn B) : BookIn B.reverse := by
  refine ⟨?_, by rw [List.length_reverse]; exact h.few, fun o ho => h.pin o (List.mem_reverse.mp ho), fun o ho => h.dep o (List.mem_reverse.mp ho), fun o ho => h.names o (List.mem_reverse.mp ho), fun o ho d hd => List.mem_reverse.mpr (h.res o (List.mem_reverse.mp ho) d hd), fun o ho => h.nd o (List.mem_reverse.mp ho)⟩
  rw [List.map_reverse]
  exact List.pairwise_reverse.mpr (h.nodup.imp fun ne e => ne e.symm)
section
variable {P : Program} {w : World} {K : PySem.W.Frag} {mg : Str → Option Value} {base : Heap}
/-- a known object: through what has changed since -/
local macro_rules | `(tactic| walk_at "oh hp") => `(tactic| first | assumption | exact upd_same | (refine get_new (by assumption) ?_; walk_at "oh hp") | (refine get_mut (by assumption) ?_ (by intro z; cases z); walk_at "oh hp") | (refine same_get (by assumption) ?_; walk_at "oh hp") | (refine ts_get (by assumption) ?_; walk_at "oh hp") | (refine same_get (LL.sm (by assumption)) ?_; walk_at "oh hp") | exact LL.at_ (by assumption))
local macro_rules | `(tactic| walk_at "oh sc") => `(tactic| exact ⟨rfl, rfl, rfl, by decide +kernel, rfl, by decide +kernel, by decide +kernel⟩)
/-- one step of a reading -/
local macro_rules | `(tactic| walk_at "oh 1") => `(tactic| with_reducible first
  | refine i_var rfl ?_ | refine i_c ?_ | refine i_op ?_ | refine i_I0 ?_ | refine i_cons ?_ | refine i_nil ?_ | refine i_asg ?_ | refine i_name ?_ | refine i_seq ?_ | refine i_ifS ?_ | refine i_test ?_ | refine i_bl ?_ | refine i_call ?_ | refine i_CB ?_
  | refine i_tup ?_ | refine i_lst ?_ | refine i_eqI ?_ | refine i_eqS ?_ | refine i_neI ?_ | refine i_un ?_ | refine i_U ?_ | refine i_ret ?_ | refine i_retN ?_ | refine i_next ?_ | refine i_cont ?_ | refine i_drop ?_ | refine i_B ?_ | refine i_and ?_ | refine i_or ?_ | refine i_not ?_ | refine i_mn ?_ | refine i_mx ?_ | refine i_isN ?_ | refine i_notN ?_ | refine i_bm ?_ | refine i_bm0 ?_ | refine i_rn ?_ | refine i_nn ?_ | refine i_rn' ?_ | refine i_nn' ?_ | refine i_gcons ?_ | refine i_gnil ?_ | refine i_orV ?_ | refine i_andV ?_ | refine i_notV ?_ | refine i_chain ?_ | refine i_forL ?_ | refine i_iL ?_ | refine i_iT ?_ | refine i_lc ?_ | refine i_yes ?_ | refine i_sortS ?_ | refine i_lenS ?_ | refine i_slL ?_ | refine i_noP ?_ | refine i_part ?_ | refine i_fld ?_ | refine i_sFld ?_ | refine i_dget ?_ | refine i_meth ?_ | refine i_dnot ?_ | refine i_aug rfl ?_ | refine i_ip ?_ | refine iteT ?_ | refine iteF ?_ | refine i_nT ?_ | refine i_nF ?_)
local macro_rules | `(tactic| walk_at "oh 2") => `(tactic| first | ((with_reducible refine' i_sF ?c ?q); (case c => decide +kernel)) | ((with_reducible refine' i_sT ?c ?q); (case c => decide +kernel)) | ((with_reducible refine' i_atP ?h ?c ?n ?l ?q); (case h => walk_at "oh hp"); (case c => assumption); (case n => assumption); (case l => exact Nat.le_of_ble_eq_true rfl)) | ((with_reducible refine' i_atF ?h ?c ?n ?l ?q); (case h => walk_at "oh hp"); (case c => assumption); (case n => assumption); (case l => rfl)) | ((with_reducible refine' i_ixT ?h ?e ?q); (case h => walk_at "oh hp"); (case e => rfl)) | ((with_reducible refine' i_gtup ?h ?e ?q); (case h => walk_at "oh hp"); (case e => rfl)) | ((with_reducible refine' i_atL ?h ?q); (case h => walk_at "oh hp")) | ((with_reducible refine' i_atT ?h ?q); (case h => walk_at "oh hp")) | ((with_reducible refine' i_tyL ?h ?q); (case h => walk_at "oh hp")) | ((with_reducible refine' i_lnL ?h ?q); (case h => walk_at "oh hp")) | ((with_reducible refine' i_lnT ?h ?q); (case h => walk_at "oh hp")))
local macro_rules | `(tactic| walk_at "oh go") => `(tactic| repeat first | walk_at "oh 1" | walk_at "oh 2")
def sp_law_book (K : PySem.W.Frag) : Sp := fun vs H Q _ => ∃ (a : Addr) (ns : List Int), vs = [.ref a] ∧ SqL K H a (ns.map V.int) ∧ ns.length ≤ 1000 ∧ ∀ (l : Addr) (us : List V) (B : Bk) H', H l = none → Same H H' → H' l = some (.lst us) → Its PlO H' us B → BookIn B → B ≠ [] → (∀ o ∈ B, NameOk o.1) → (∀ x ∈ B, ∀ y ∈ B, x.1.length = y.1.length) → Q (.ref l) H'
/- slots: 0 script, 1 scale, 2 size, 3 names, 4 numbers, 5 offers, 6 k, 7 own, 8 j (cells: k, numbers, size) -/
theorem sc_law_book : FnScope ["script", "scale", "size", "names", "numbers", "offers", "k", "own", "j"] ["script"] (defScope s_law_book) := by walk_at "oh sc"
theorem ok_law_book (T : Pg K mg) : Ok P w K mg base CX0 6 "_law_book" ["script"] (sp_law_book K) := by
  obtain ⟨fd, F⟩ := F_law_book T
  refine ⟨fd, F.ok sc_law_book (fun vs H Q E h => ?_) (fun cdv A outer s H vs Q E hr h => ?_), F.binds fun _ _ _ _ _ _ us hl => (match us, hl with | [_], _ => rfl), F.kp, g_law_book T⟩
  · obtain ⟨a, sn, rfl, _⟩ := h
    rfl
  · obtain ⟨a, sn, rfl, hs, sl, q⟩ := h
    have hu := hu_of hr
    refine ⟨_, pss_cons (ps_set (i := 1) sc_law_book.nd rfl (Or.inl rfl) (pe_ix ix_list (pe_lst (pa_cons pe_int (pa_cons (pe_op op_pow pe_int pe_int) (pa_cons (pe_op op_pow pe_int pe_int) pa_nil)))) (pe_op op_mod (pe_c0 (ok_law_at T) hr (pa_cons (pv 0) (pa_cons pe_int pa_nil))) pe_int) (fun _ _ => rfl)))
      (pss_cons (ps_set (i := 2) sc_law_book.nd rfl (Or.inr rfl) (pe_op op_add pe_int (pe_op op_mod (pe_op op_fdivW (pe_c0 (ok_law_at T) hr (pa_cons (pv 0) (pa_cons pe_int pa_nil))) pe_int) pe_int)))
      (pss_cons (ps_set (i := 3) sc_law_book.nd rfl (Or.inl rfl) (pe_c0 (ok_law_words T) hr (pa_cons (pe_c0 (ok_law_at T) hr (pa_cons (pv 0) (pa_cons pe_int pa_nil))) (pa_cons (pv 2) pa_nil))))
      (pss_cons (ps_set (i := 4) sc_law_book.nd rfl (Or.inr rfl) (pe_c0 (ok_law_folded T) hr (pa_cons (pv 0) (pa_cons pe_int (pa_cons (pe_op op_mul pe_int (pv 2)) pa_nil)))))
      (pss_cons (ps_set (i := 5) sc_law_book.nd rfl (Or.inl rfl) (pe_lst pa_nil))
      (pss_cons (ps_for PassesOwn.never rfl (pi_range1 (by rfl) (z_range T) (pa_cons (pv 2) pa_nil)) (pg_name (i := 6) sc_law_book.nd rfl (Or.inr rfl))
      (pss_cons (ps_set (i := 7) sc_law_book.nd rfl (Or.inl rfl) (pe_op op_cat (pe_lc (own := [("j", 8)]) (g := gName 8) rfl sc_law_book.nd (pi_range1 (by rfl) (z_range T) (pa_cons (pe_callB cr_ln (by rfl) (z_len T) PySem.boot_len (pa_cons (pv 4) pa_nil)) pa_nil)) (blkOk_by (own := [("j", 8)]) (N := ["script", "scale", "size", "names", "numbers", "offers", "k", "own", "j"]) (sc := defScope s_law_book) (by decide +kernel)) (fun _ _ _ _ _ => pg_name (i := 8) sc_law_book.nd rfl (Or.inl rfl)) (fun _ _ _ _ _ => pts_one (pt_cmpR op_eq (pe_op op_mod (pv 8) (pv 2)) (pv 6) (nomark _))) (fun _ _ _ _ _ => (pe_ix (ixL K) (pv 4) (pv 8) (fun _ _ => rfl)))) (pe_lst (pa_cons (pe_op op_add (pe_c0 (ok_law_at T) hr (pa_cons (pv 0) (pa_cons pe_int pa_nil))) (pv 6)) pa_nil))))
        (pss_one (ps_expr (pe_bm PySem.F.plainAttrs_list PySem.F.slot_list_append PySem.F.type_list_append mt_append (pv 5) (pa_cons (pe_tup (pa_cons (pe_ix ix_list (pv 3) (pv 6) (fun _ _ => rfl)) (pa_cons (pe_c0 (ok_law_tree T) hr (pa_cons (pe_slice sl_list (pv 7) po_none (po_some pe_int)) (pa_cons (pv 1) (pa_cons (pe_slice sl_list (pv 3) po_none (po_some (pv 6))) pa_nil)))) pa_nil))) pa_nil))))))
      (pss_cons (ps_if (pt_cmpR op_eq (pe_op op_mod (pe_op op_fdivW (pe_c0 (ok_law_at T) hr (pa_cons (pv 0) (pa_cons pe_int pa_nil))) pe_int) pe_int) pe_int (nomark _))
      (pss_one (ps_expr (pe_bm0 PySem.F.plainAttrs_list PySem.F.slot_list_reverse PySem.F.type_list_reverse mt_reverse (pv 5))))
      pss_nil)
      (pss_one (ps_ret (pv 5))))))))), ?_⟩
    walk_at "oh go"
    refine i_I (⟨by decide, by decide, by decide⟩ : CPow 10 6) ?_
    rw [t6]
    walk_at "oh go"
    refine i_I (⟨by decide, by decide, by decide⟩ : CPow 10 38) ?_
    rw [t38]
    walk_at "oh go"
    refine ⟨Nat.le_of_ble_eq_true rfl, fun l1 n1 => ?_⟩
    have s1 := same_new n1 (.lst [.int 9, .int 1000000, .int 100000000000000000000000000000000000000])
    walk_at "oh go"
    refine ⟨a, sn, 0, rfl, (SqL.same s1 hs), by decide, fun c0 => ?_⟩
    walk_at "oh go"
    refine i_I (by decide : (0 : Int) < 3) ?_
    obtain ⟨scale, hsc, S⟩ : ∃ scale : Int, atI [V.int 9, V.int 1000000, V.int 100000000000000000000000000000000000000] (c0 % 3) = some (.int scale) ∧ ScaleIn scale := by
      have r0 := Int.emod_nonneg c0 (show (3 : Int) ≠ 0 by decide)
      have r1 := Int.emod_lt_of_pos c0 (show (0 : Int) < 3 by decide)
      generalize c0 % 3 = r at r0 r1
      rcases (by omega : r = 0 ∨ r = 1 ∨ r = 2) with rfl | rfl | rfl
      · exact ⟨_, rfl, by decide, by decide⟩
      · exact ⟨_, rfl, by decide, by decide⟩
      · exact ⟨_, rfl, by decide, by decide⟩
    refine i_ixL upd_same hsc ?_
    generalize upd H l1 (.lst [.int 9, .int 1000000, .int 100000000000000000000000000000000000000]) = H1 at s1
    have hs1 := SqL.same s1 hs
    walk_at "oh go"
    refine ⟨a, sn, 0, rfl, hs1, by decide, fun c1 => ?_⟩
    walk_at "oh go"
    refine i_I (⟨by decide, by decide⟩ : CDivW c1 3) ?_
    walk_at "oh go"
    refine i_I (by decide : (0 : Int) < 4) ?_
    have z1 : 1 ≤ 1 + c1 / 3 % 4 ∧ 1 + c1 / 3 % 4 ≤ 4 := by
      have r0 := Int.emod_nonneg (c1 / 3) (show (4 : Int) ≠ 0 by decide)
      have r1 := Int.emod_lt_of_pos (c1 / 3) (show (0 : Int) < 4 by decide)
      omega
    walk_at "oh go"
    generalize 1 + c1 / 3 % 4 = size at z1
    refine ⟨a, sn, 1, rfl, hs1, by decide, fun c2 => ?_⟩
    walk_at "oh go"
    refine ⟨c2, size, rfl, z1.1, z1.2, fun ln ns H2 nn s2 hn nl nd_ ok same_ => ?_⟩
    have hs2 := SqL.same s2 hs1
    walk_at "oh go"
    refine i_I (.inl ⟨by decide, by decide⟩ : CMul 3 size) ?_
    walk_at "oh go"
    refine ⟨a, sn, 2, 3 * size, rfl, hs2, sl, by decide, by decide, by omega, by omega, fun lf cs H3 s3 nf hf f1 f2 => ?_⟩
    have hs3 := SqL.same s3 hs2
    have hn3 := s3 _ _ hn
    have f3 : cs.length ≤ 12 := by omega
    walk_at "oh go"
    refine ⟨Nat.le_of_ble_eq_true rfl, fun lo no => ?_⟩
    have sm0 := s1.trans (s2.trans s3)
    walk_at "oh go"
    refine i_rng1 ?_
    walk_at "oh go"
    refine ⟨size, rfl, by omega, by omega, ?_⟩
    have nl2 : ns.length = size.toNat := by omega
    refine for_n (fun i σ H' => ∃ acc B o6 o7, σ = [some (.ref a), some (.int scale), some (.int size), some (.ref ln), some (.ref lf), some (.ref lo), o6, o7, none] ∧ Made ns H3 lo H' acc B i) ⟨[], [], none, none, rfl, Made.new (Same.refl _) no⟩ ?_ ?_
    · rintro i σ H4 hi ⟨acc, B, o6, o7, rfl, X⟩
      have il : i < ns.length := by omega
      walk_at "oh go"
      refine i_rng1 ?_
      walk_at "oh go"
      have hf4 := X.sm _ _ hf
      refine i_lnL hf4 ?_
      rw [List.length_map]
      refine ⟨(cs.length : Int), rfl, by omega, by omega, ?_⟩
      intro D hD
      refine lc_range (fun j H' => ∃ L : List Int, L.length ≤ j ∧ MadeTo IntV H4 D L H') ⟨[], Nat.le_refl _, [], LL.new (Same.refl _) hD⟩ ?_ ?_
      · rintro j H5 hj ⟨L, lj, acc5, Y⟩
        walk_at "oh go"
        refine ⟨rfl, ?_⟩
        walk_at "oh go"
        refine i_I (by omega : (0 : Int) < size) ?_
        walk_at "oh go"
        refine i_dec (fun c => ?_) (fun c => ?_)
        · walk_at "oh go"
          have jl : j < cs.length := by omega
          refine i_ixL (Y.sm _ _ hf4) (v := .int cs[j]) (by rw [Int.zero_add]; exact atI_nat (by rw [List.getElem?_map, List.getElem?_eq_getElem jl]; rfl)) ?_
          exact ⟨acc5, Y.at_, Nat.lt_of_le_of_lt (by rw [Y.len]; omega : acc5.length ≤ 1000000) (by decide), L ++ [cs[j]], by rw [List.length_append]; show _ + 1 ≤ _; omega, _, Y.push IntV.mono rfl⟩
        · exact ⟨L, by omega, acc5, Y⟩
      · rintro H5 ⟨L, lj, acc5, Y⟩
        have e5 := ints_its Y.its
        subst e5
        have hD5 := Y.at_
        have X5 := X.step Y.sm
        walk_at "oh go"
        refine ⟨a, sn, 0, rfl, SqL.same X5.sm hs3, by decide, fun c4 => ?_⟩
        walk_at "oh go"
        refine ⟨Nat.le_of_ble_eq_true rfl, fun p np => ?_⟩
        have sp := same_new np (.lst [.int (c4 + (0 + (i : Int)))])
        have hD6 := sp _ _ hD5
        have X6 := X5.step sp
        refine i_catL hD6 upd_same (by rw [List.length_map]; show _ + 1 ≤ _; omega) fun t nt => ?_
        have st := same_new nt (.lst (L.map V.int ++ [.int (c4 + (0 + (i : Int)))]))
        have X7 := X6.step st
        have ht : upd (upd H5 p (.lst [.int (c4 + (0 + (i : Int)))])) t (.lst (L.map V.int ++ [.int (c4 + (0 + (i : Int)))])) t = some (.lst ((L ++ [c4 + (0 + (i : Int))]).map V.int)) := by
          rw [List.map_append]
          exact upd_same
        generalize upd (upd H5 p (.lst [.int (c4 + (0 + (i : Int)))])) t (.lst (L.map V.int ++ [.int (c4 + (0 + (i : Int)))])) = H6 at X7 ht
        walk_at "oh go"
        have lo7 := X7.at_
        refine i_tyL lo7 ?_
        walk_at "oh go"
        have hn7 := X7.sm _ _ hn3
        refine i_ixL hn7 (v := .str ns[i]) (by rw [Int.zero_add]; exact atI_nat (by rw [List.getElem?_map, List.getElem?_eq_getElem il]; rfl)) ?_
        walk_at "oh go"
        refine i_intK ?_
        refine ⟨t, _, rfl, SqL.of ht, fun t2 n2 => ?_⟩
        have own1 : 1 ≤ ((L ++ [c4 + (0 + (i : Int))]).take 3).length ∧ ((L ++ [c4 + (0 + (i : Int))]).take 3).length ≤ 3 := by
          rw [List.length_take, List.length_append]
          show 1 ≤ min 3 (_ + 1) ∧ min 3 (_ + 1) ≤ 3
          omega
        rw [show cutV ((L ++ [c4 + (0 + (i : Int))]).map V.int) none (some 3) = ((L ++ [c4 + (0 + (i : Int))]).take 3).map V.int from by
          rw [show (3 : Int) = ((3 : Nat) : Int) from rfl, cut_take, List.map_take]]
        generalize (L ++ [c4 + (0 + (i : Int))]).take 3 = own at own1
        have X8 := X7.step (same_new n2 (.lst (own.map V.int)))
        have ht2 : upd H6 t2 (.lst (own.map V.int)) t2 = some (.lst (own.map V.int)) := upd_same
        generalize upd H6 t2 (.lst (own.map V.int)) = H7 at X8 ht2
        walk_at "oh go"
        refine i_intK ?_
        refine ⟨ln, _, rfl, SqL.of (X8.sm _ _ hn3), fun t3 n3 => ?_⟩
        rw [show cutV (ns.map V.str) none (some (0 + (i : Int))) = (B.map (·.1)).map V.str from by
          rw [Int.zero_add, cut_take, X.nm, List.map_take]]
        have s9 := same_new n3 (.lst ((B.map (·.1)).map V.str))
        have X9 := X8.step s9
        have ht3 := s9 _ _ ht2
        have b4 : B.length ≤ 4 := by
          have e := congrArg List.length X.nm
          rw [List.length_map, List.length_take] at e
          omega
        walk_at "oh go"
        refine ⟨t2, t3, own, scale, B, 2 * i, i, rfl, ht3, own1.1, own1.2, S, upd_same, b4, X.base, fun v p9 H9 sm9 hp9 tr9 => ?_⟩
        have XA := X9.step sm9
        walk_at "oh go"
        refine ⟨Nat.le_of_ble_eq_true rfl, fun tt ntt => ?_⟩
        have sB := same_new ntt (.tup [.str ns[i], v])
        have XB := XA.step sB
        have hB := XB.at_
        have lB := XB.its.len
        walk_at "oh go"
        refine i_app hB (by omega) ?_
        exact ⟨_, _, _, _, rfl, XB.push (n := ns[i]) (p := p9) ⟨tt, v, rfl, upd_same, hp9.same sB⟩ tr9 (List.getElem?_eq_getElem il)⟩
    · rintro σ H4 ⟨acc, B, o6, o7, rfl, X⟩
      have bk := X.book (by omega) nd_
      have nm : B.map (·.1) = ns := by rw [X.nm, ← nl2, List.take_length]
      have inn : ∀ o ∈ B, o.1 ∈ ns := fun o ho => nm ▸ List.mem_map_of_mem ho
      have ne : B ≠ [] := fun z => by
        rw [z] at nm
        rw [← nm] at nl
        simp at nl
        omega
      walk_at "oh go"
      refine ⟨a, sn, 0, rfl, SqL.same X.sm hs3, by decide, fun c3 => ?_⟩
      walk_at "oh go"
      refine i_I (⟨by decide, by decide⟩ : CDivW c3 12) ?_
      walk_at "oh go"
      refine i_I (by decide : (0 : Int) < 2) ?_
      walk_at "oh go"
      refine i_dec (fun c => ?_) (fun c => ?_)
      · walk_at "oh go"
        refine i_tyL X.at_ ?_
        refine ⟨lo, acc, rfl, rfl, X.at_, ?_⟩
        walk_at "oh go"
        refine q lo acc.reverse B.reverse _ (none_back sm0 no) (same_mut (sm0.trans X.sm) (none_back sm0 no) _) upd_same (its_rev (X.keep _)) bk.rev (fun z => ne (List.reverse_eq_nil_iff.mp z)) (fun o ho => ok _ (inn o (List.mem_reverse.mp ho))) fun x hx y hy => same_ _ (inn x (List.mem_reverse.mp hx)) _ (inn y (List.mem_reverse.mp hy))
      · walk_at "oh go"
        exact q lo acc B H4 (none_back sm0 no) (sm0.trans X.sm) X.at_ X.its bk ne (fun o ho => ok _ (inn o ho)) fun x hx y hy => same_ _ (inn x hx) _ (inn y hy)
end
end OH
set_option Elab.async false
set_option linter.all false
set_option maxRecDepth 100000
set_option maxHeartbeats 4000000
set_option exponentiation.threshold 10000
namespace OH
open PySem PySem.Spec PyProof.Rows L2
section
variable {X : Cx} {CX : CXT} {k : Nat} {C : Str} {ps : List Str} {sp : Sp} {E : XK} {e : Expr} {es : List Expr} {t : TA} {p pos : Pos}
/-- an object is made -/
theorem pe_mkE {j : Nat} (M : Mk X.K (He.ga X.K C) (He.ma X.K (He.ga X.K C) "__init__")) (F : OkM X.prog X.w X.K X.mg X.base CX j C "__init__" ps sp) (hm : X.mg C = some (.ref (He.ga X.K C))) (hr : Room k X.A) (ha : PA X (e :: es) t) (hx : Passes CX X E) (hj : j + 1 ≤ k := by decide) (hg : Gl X C := by rfl) (hdb : (C == ("__debug__" : Str)) = false := by decide)
    (he : starEach (e :: es) X.env = (false, eval e X.env) :: starEach es X.env := by rfl) (hpl : (backTo pos (starEach es X.env)).any (·.1) = false := by rfl) : PE X (.Call (.Name C p) (e :: es) [] pos) (tMake (He.ga X.K C) sp [] E t) := by
  obtain ⟨fd, F, b⟩ := F
  exact pe_make M F (hr.mono hj) hg hm b .nil hx ha hdb he hpl
theorem i_make {C : Addr} {sp : Sp} {t : TA} {σ : L2.St} {H : Hp} {Q : VK} (h : t σ H fun vs H1 => ∀ x dx, H1 x = none → H1 dx = none → dx ≠ x →
  sp (.ref x :: vs) (upd (upd H1 dx (.own x)) x (.ins C dx [])) (fun v H2 => v = .non ∧ Q (.ref x) H2) E) : tMake C sp [] E t σ H Q := by
  unfold tMake
  simpa only [List.append_nil] using h
end
theorem made_same {H H1 : Hp} {x dx : Addr} (s : Same H H1) (nx : H1 x = none) (nd : H1 dx = none) (o0 o1 o2 : HO) : Same H (upd (upd (upd H1 dx o0) x o1) x o2) := s.trans (same_mut (same_mut (same_new nd _) nx _) nx _)
section
variable {P : Program} {w : World} {K : PySem.W.Frag} {mg : Str → Option Value} {base : Heap}
/-- a known object: through what has changed since -/
local macro_rules | `(tactic| walk_at "oh hp") => `(tactic| first | assumption | exact upd_same | (refine get_new (by assumption) ?_; walk_at "oh hp") | (refine get_mut (by assumption) ?_ (by intro z; cases z); walk_at "oh hp") | (refine same_get (by assumption) ?_; walk_at "oh hp") | (refine ts_get (by assumption) ?_; walk_at "oh hp") | (refine same_get (LL.sm (by assumption)) ?_; walk_at "oh hp") | exact LL.at_ (by assumption))
local macro_rules | `(tactic| walk_at "oh sc") => `(tactic| exact ⟨rfl, rfl, rfl, by decide +kernel, rfl, by decide +kernel, by decide +kernel⟩)
/-- one step of a reading -/
local macro_rules | `(tactic| walk_at "oh 1") => `(tactic| with_reducible first
  | refine i_var rfl ?_ | refine i_c ?_ | refine i_op ?_ | refine i_I0 ?_ | refine i_cons ?_ | refine i_nil ?_ | refine i_asg ?_ | refine i_name ?_ | refine i_seq ?_ | refine i_ifS ?_ | refine i_test ?_ | refine i_bl ?_ | refine i_call ?_ | refine i_CB ?_
  | refine i_tup ?_ | refine i_lst ?_ | refine i_eqI ?_ | refine i_eqS ?_ | refine i_neI ?_ | refine i_un ?_ | refine i_U ?_ | refine i_ret ?_ | refine i_retN ?_ | refine i_next ?_ | refine i_cont ?_ | refine i_drop ?_ | refine i_B ?_ | refine i_and ?_ | refine i_or ?_ | refine i_not ?_ | refine i_mn ?_ | refine i_mx ?_ | refine i_isN ?_ | refine i_notN ?_ | refine i_bm ?_ | refine i_bm0 ?_ | refine i_rn ?_ | refine i_nn ?_ | refine i_rn' ?_ | refine i_nn' ?_ | refine i_gcons ?_ | refine i_gnil ?_ | refine i_orV ?_ | refine i_andV ?_ | refine i_notV ?_ | refine i_chain ?_ | refine i_forL ?_ | refine i_iL ?_ | refine i_iT ?_ | refine i_lc ?_ | refine i_yes ?_ | refine i_sortS ?_ | refine i_lenS ?_ | refine i_slL ?_ | refine i_noP ?_ | refine i_part ?_ | refine i_fld ?_ | refine i_sFld ?_ | refine i_dget ?_ | refine i_meth ?_ | refine i_dnot ?_ | refine i_aug rfl ?_ | refine i_ip ?_ | refine iteT ?_ | refine iteF ?_ | refine i_nT ?_ | refine i_nF ?_)
local macro_rules | `(tactic| walk_at "oh 2") => `(tactic| first | ((with_reducible refine' i_sF ?c ?q); (case c => decide +kernel)) | ((with_reducible refine' i_sT ?c ?q); (case c => decide +kernel)) | ((with_reducible refine' i_atP ?h ?c ?n ?l ?q); (case h => walk_at "oh hp"); (case c => assumption); (case n => assumption); (case l => exact Nat.le_of_ble_eq_true rfl)) | ((with_reducible refine' i_atF ?h ?c ?n ?l ?q); (case h => walk_at "oh hp"); (case c => assumption); (case n => assumption); (case l => rfl)) | ((with_reducible refine' i_ixT ?h ?e ?q); (case h => walk_at "oh hp"); (case e => rfl)) | ((with_reducible refine' i_gtup ?h ?e ?q); (case h => walk_at "oh hp"); (case e => rfl)) | ((with_reducible refine' i_atL ?h ?q); (case h => walk_at "oh hp")) | ((with_reducible refine' i_atT ?h ?q); (case h => walk_at "oh hp")) | ((with_reducible refine' i_tyL ?h ?q); (case h => walk_at "oh hp")) | ((with_reducible refine' i_lnL ?h ?q); (case h => walk_at "oh hp")) | ((with_reducible refine' i_lnT ?h ?q); (case h => walk_at "oh hp")))
local macro_rules | `(tactic| walk_at "oh go") => `(tactic| repeat first | walk_at "oh 1" | walk_at "oh 2")
def sp_law_rule (K : PySem.W.Frag) (n : Nat) : Sp := fun vs H Q _ => ∃ (v : V) (p : Plan Str), vs = [v] ∧ PlanV H p v ∧ dep p < n ∧ ∀ (r : V) H', Same H H' → RuleV K H' p r → Q r H'
theorem sc_law_rule : FnScope ["plan", "kind"] ["plan"] (defScope s_law_rule) := by walk_at "oh sc"
theorem ok_law_rule (T : Pg K mg) : ∀ n, Ok P w K mg base CX0 (3 + n) "_law_rule" ["plan"] (sp_law_rule K n) := by
  intro n
  induction n with
  | zero =>
    obtain ⟨fd, F⟩ := F_law_rule T
    exact ⟨fd, ⟨fun vs H Q E ⟨_, _, _, _, h, _⟩ => absurd h (Nat.not_lt_zero _), fun A outer s H args us vs Q E _ _ _ _ ⟨_, _, _, _, h, _⟩ => absurd h (Nat.not_lt_zero _)⟩, F.binds fun _ _ _ _ _ _ us hl => (match us, hl with | [_], _ => rfl), F.kp, g_law_rule T⟩
  | succ n ih =>
    obtain ⟨fd, F⟩ := F_law_rule T
    refine ⟨fd, F.ok sc_law_rule (fun vs H Q E h => ?_) (fun cdv A outer s H vs Q E hr h => ?_), F.binds fun _ _ _ _ _ _ us hl => (match us, hl with | [_], _ => rfl), F.kp, g_law_rule T⟩
    · obtain ⟨v, p, rfl, _⟩ := h
      rfl
    obtain ⟨v, p, rfl, hp, hn, q⟩ := h
    change Room (3 + n) _ at hr
    have hu := hu_of hr
    refine ⟨_, pss_cons (ps_set (i := 1) sc_law_rule.nd rfl (Or.inl rfl) (pe_ix ix_tup (pv 0) pe_int (fun _ _ => rfl)))
      (pss_cons (ps_if (pt_cmpR op_eq (pv 1) pe_str (nomark _))
      (pss_one (ps_ret (pe_mkE (E := E0) (k_Each T) (ok_Each_init T) (g_Each T) hr (hx := pass0) (hj := by omega) (ha :=pa_cons (pe_ix ix_tup (pv 0) pe_int (fun _ _ => rfl)) (pa_cons (pe_ix ix_tup (pv 0) pe_int (fun _ _ => rfl)) (pa_cons (pe_ix ix_tup (pv 0) pe_int (fun _ _ => rfl)) pa_nil))))))
      pss_nil)
      (pss_cons (ps_if (pt_cmpR op_eq (pv 1) pe_str (nomark _))
      (pss_one (ps_ret (pe_mkE (E := E0) (k_Flat T) (ok_Flat_init T) (g_Flat T) hr (hx := pass0) (hj := by omega) (ha :=pa_cons (pe_ix ix_tup (pv 0) pe_int (fun _ _ => rfl)) (pa_cons (pe_ix ix_tup (pv 0) pe_int (fun _ _ => rfl)) (pa_cons (pe_ix ix_tup (pv 0) pe_int (fun _ _ => rfl)) pa_nil))))))
      pss_nil)
      (pss_cons (ps_if (pt_cmpR op_eq (pv 1) pe_str (nomark _))
      (pss_one (ps_ret (pe_mkE (E := E0) (k_Bands T) (ok_Bands_init T) (g_Bands T) hr (hx := pass0) (hj := by omega) (ha :=pa_cons (pe_callTy cr_lo (by rfl) (z_list T) (by decide +kernel) (pa_cons (pe_ix ix_tup (pv 0) pe_int (fun _ _ => rfl)) pa_nil)) pa_nil))))
      pss_nil)
      (pss_cons (ps_if (pt_cmpR op_eq (pv 1) pe_str (nomark _))
      (pss_one (ps_ret (pe_mkE (E := E0) (k_Steps T) (ok_Steps_init T) (g_Steps T) hr (hx := pass0) (hj := by omega) (ha :=pa_cons (pe_callTy cr_lo (by rfl) (z_list T) (by decide +kernel) (pa_cons (pe_ix ix_tup (pv 0) pe_int (fun _ _ => rfl)) pa_nil)) pa_nil))))
      pss_nil)
      (pss_cons (ps_if (pt_cmpR op_eq (pv 1) pe_str (nomark _))
      (pss_one (ps_ret (pe_mkE (E := E0) (k_Blocks T) (ok_Blocks_init T) (g_Blocks T) hr (hx := pass0) (hj := by omega) (ha :=pa_cons (pe_ix ix_tup (pv 0) pe_int (fun _ _ => rfl)) (pa_cons (pe_ix ix_tup (pv 0) pe_int (fun _ _ => rfl)) (pa_cons (pe_ix ix_tup (pv 0) pe_int (fun _ _ => rfl)) pa_nil))))))
      pss_nil)
      (pss_cons (ps_if (pt_cmpR op_eq (pv 1) pe_str (nomark _))
      (pss_one (ps_ret (pe_mkE (E := E0) (k_Named T) (ok_Named_init T) (g_Named T) hr (hx := pass0) (hj := by omega) (ha :=pa_cons (pe_ix ix_tup (pv 0) pe_int (fun _ _ => rfl)) pa_nil))))
      pss_nil)
      (pss_cons (ps_if (pt_cmpR op_eq (pv 1) pe_str (nomark _))
      (pss_one (ps_ret (pe_mkE (E := E0) (k_Sum T) ((ok_Pair_init T).to (h_Sum_init T) (fun _ _ _ _ h => h)) (g_Sum T) hr (hx := pass0) (hj := by omega) (ha :=pa_cons (pe_c0 (hj := Nat.le_refl _) ih hr (pa_cons (pe_ix ix_tup (pv 0) pe_int (fun _ _ => rfl)) pa_nil)) (pa_cons (pe_c0 (hj := Nat.le_refl _) ih hr (pa_cons (pe_ix ix_tup (pv 0) pe_int (fun _ _ => rfl)) pa_nil)) pa_nil)))))
      pss_nil)
      (pss_cons (ps_if (pt_cmpR op_eq (pv 1) pe_str (nomark _))
      (pss_one (ps_ret (pe_mkE (E := E0) (k_Cheaper T) ((ok_Pair_init T).to (h_Cheaper_init T) (fun _ _ _ _ h => h)) (g_Cheaper T) hr (hx := pass0) (hj := by omega) (ha :=pa_cons (pe_c0 (hj := Nat.le_refl _) ih hr (pa_cons (pe_ix ix_tup (pv 0) pe_int (fun _ _ => rfl)) pa_nil)) (pa_cons (pe_c0 (hj := Nat.le_refl _) ih hr (pa_cons (pe_ix ix_tup (pv 0) pe_int (fun _ _ => rfl)) pa_nil)) pa_nil)))))
      pss_nil)
      (pss_cons (ps_if (pt_cmpR op_eq (pv 1) pe_str (nomark _))
      (pss_one (ps_ret (pe_mkE (E := E0) (k_Dearer T) ((ok_Pair_init T).to (h_Dearer_init T) (fun _ _ _ _ h => h)) (g_Dearer T) hr (hx := pass0) (hj := by omega) (ha :=pa_cons (pe_c0 (hj := Nat.le_refl _) ih hr (pa_cons (pe_ix ix_tup (pv 0) pe_int (fun _ _ => rfl)) pa_nil)) (pa_cons (pe_c0 (hj := Nat.le_refl _) ih hr (pa_cons (pe_ix ix_tup (pv 0) pe_int (fun _ _ => rfl)) pa_nil)) pa_nil)))))
      pss_nil)
      (pss_cons (ps_if (pt_cmpR op_eq (pv 1) pe_str (nomark _))
      (pss_one (ps_ret (pe_mkE (E := E0) (k_Only T) (ok_Only_init T) (g_Only T) hr (hx := pass0) (hj := by omega) (ha :=pa_cons (pe_c0 (hj := Nat.le_refl _) ih hr (pa_cons (pe_ix ix_tup (pv 0) pe_int (fun _ _ => rfl)) pa_nil)) (pa_cons (pe_ix ix_tup (pv 0) pe_int (fun _ _ => rfl)) (pa_cons (pe_ix ix_tup (pv 0) pe_int (fun _ _ => rfl)) pa_nil))))))
      pss_nil)
      (pss_cons (ps_if (pt_cmpR op_eq (pv 1) pe_str (nomark _))
      (pss_one (ps_ret (pe_mkE (E := E0) (k_After T) (ok_After_init T) (g_After T) hr (hx := pass0) (hj := by omega) (ha :=pa_cons (pe_c0 (hj := Nat.le_refl _) ih hr (pa_cons (pe_ix ix_tup (pv 0) pe_int (fun _ _ => rfl)) pa_nil)) (pa_cons (pe_ix ix_tup (pv 0) pe_int (fun _ _ => rfl)) pa_nil)))))
      pss_nil)
      (pss_one (ps_ret (pe_mkE (E := E0) (k_Fee T) (ok_Fee_init T) (g_Fee T) hr (hx := pass0) (hj := by omega) (ha :=pa_cons (pe_c0 (hj := Nat.le_refl _) ih hr (pa_cons (pe_ix ix_tup (pv 0) pe_int (fun _ _ => rfl)) pa_nil)) (pa_cons (pe_ix ix_tup (pv 0) pe_int (fun _ _ => rfl)) pa_nil)))))))))))))))), ?_⟩
    cases p with
    | each u lo hi =>
      obtain ⟨t, rfl, ht⟩ := hp
      walk_at "oh go"
      refine i_make ?_
      walk_at "oh go"
      intro x dx nx nd ne
      exact ⟨x, dx, _, _, _, rfl, upd_same, rfl, q _ _ (made_same (Same.refl _) nx nd _ _ _) ⟨x, dx, rfl, upd_same⟩⟩
    | flat u lo hi =>
      obtain ⟨t, rfl, ht⟩ := hp
      walk_at "oh go"
      refine i_make ?_
      walk_at "oh go"
      intro x dx nx nd ne
      exact ⟨x, dx, _, _, _, rfl, upd_same, rfl, q _ _ (made_same (Same.refl _) nx nd _ _ _) ⟨x, dx, rfl, upd_same⟩⟩
    | blocks u lo hi =>
      obtain ⟨t, rfl, ht⟩ := hp
      walk_at "oh go"
      refine i_make ?_
      walk_at "oh go"
      intro x dx nx nd ne
      exact ⟨x, dx, _, _, _, rfl, upd_same, rfl, q _ _ (made_same (Same.refl _) nx nd _ _ _) ⟨x, dx, rfl, upd_same⟩⟩
    | name m pp =>
      obtain ⟨t, rfl, ht⟩ := hp
      walk_at "oh go"
      refine i_make ?_
      walk_at "oh go"
      intro x dx nx nd ne
      exact ⟨x, dx, _, rfl, upd_same, rfl, q _ _ (made_same (Same.refl _) nx nd _ _ _) ⟨x, dx, rfl, upd_same⟩⟩
    | bands r =>
      obtain ⟨t, l, vs, rfl, ht, hl, hi⟩ := hp
      walk_at "oh go"
      refine i_make ?_
      walk_at "oh go"
      refine i_loL hl fun l2 n2 => ?_
      walk_at "oh go"
      intro x dx nx nd ne
      refine ⟨x, dx, l2, vs, rfl, upd_same, same_mut (same_new nd _) nx _ _ _ upd_same, fun k nk => ⟨rfl, ?_⟩⟩
      have kx : k ≠ x := fun z => by
        rw [z] at nk
        rw [upd_same] at nk
        cases nk
      have sm := (same_new n2 (.lst vs)).trans (same_mut (same_mut (same_mut (same_new nd (.own x)) nx (.ins (He.ga K "Bands") dx [])) (none_back (same_mut (same_new nd (.own x)) nx (.ins (He.ga K "Bands") dx [])) nk) (.lst vs)) nx (.ins (He.ga K "Bands") dx [("rows", .ref k)]))
      exact q _ _ sm ⟨x, dx, k, vs, rfl, upd_same, by rw [upd_ne kx]; exact upd_same, hi.mono LnV.mono (.of sm)⟩
    | steps r =>
      obtain ⟨t, l, vs, rfl, ht, hl, hi⟩ := hp
      walk_at "oh go"
      refine i_make ?_
      walk_at "oh go"
      refine i_loL hl fun l2 n2 => ?_
      walk_at "oh go"
      intro x dx nx nd ne
      refine ⟨x, dx, l2, vs, rfl, upd_same, same_mut (same_new nd _) nx _ _ _ upd_same, fun k nk => ⟨rfl, ?_⟩⟩
      have kx : k ≠ x := fun z => by
        rw [z] at nk
        rw [upd_same] at nk
        cases nk
      have sm := (same_new n2 (.lst vs)).trans (same_mut (same_mut (same_mut (same_new nd (.own x)) nx (.ins (He.ga K "Steps") dx [])) (none_back (same_mut (same_new nd (.own x)) nx (.ins (He.ga K "Steps") dx [])) nk) (.lst vs)) nx (.ins (He.ga K "Steps") dx [("rows", .ref k)]))
      exact q _ _ sm ⟨x, dx, k, vs, rfl, upd_same, by rw [upd_ne kx]; exact upd_same, hi.mono LnV.mono (.of sm)⟩
    | plus a b =>
      obtain ⟨t, va, vb, rfl, ht, ha, hb⟩ := hp
      have da : dep a < n ∧ dep b < n := by
        have : max (dep a) (dep b) + 1 < n + 1 := hn
        omega
      walk_at "oh go"
      refine i_make ?_
      walk_at "oh go"
      refine ⟨va, a, rfl, ha, da.1, fun r1 H1 s1 h1 => ?_⟩
      walk_at "oh go"
      refine ⟨vb, b, rfl, hb.same s1, da.2, fun r2 H2 s2 h2 => ?_⟩
      walk_at "oh go"
      intro x dx nx nd ne
      have sm := made_same (s1.trans s2) nx nd (.own x) (.ins (He.ga K "Sum") dx []) (.ins (He.ga K "Sum") dx [("one", r1), ("other", r2)])
      have sm2 := made_same (Same.refl H2) nx nd (.own x) (.ins (He.ga K "Sum") dx []) (.ins (He.ga K "Sum") dx [("one", r1), ("other", r2)])
      exact ⟨x, _, dx, _, _, rfl, c_Sum T, n_Sum_one T, n_Sum_other T, upd_same, rfl, q _ _ sm ⟨x, dx, r1, r2, rfl, upd_same, h1.same (s2.trans sm2), h2.same sm2⟩⟩
    | cheap a b =>
      obtain ⟨t, va, vb, rfl, ht, ha, hb⟩ := hp
      have da : dep a < n ∧ dep b < n := by
        have : max (dep a) (dep b) + 1 < n + 1 := hn
        omega
      walk_at "oh go"
      refine i_make ?_
      walk_at "oh go"
      refine ⟨va, a, rfl, ha, da.1, fun r1 H1 s1 h1 => ?_⟩
      walk_at "oh go"
      refine ⟨vb, b, rfl, hb.same s1, da.2, fun r2 H2 s2 h2 => ?_⟩
      walk_at "oh go"
      intro x dx nx nd ne
      have sm := made_same (s1.trans s2) nx nd (.own x) (.ins (He.ga K "Cheaper") dx []) (.ins (He.ga K "Cheaper") dx [("one", r1), ("other", r2)])
      have sm2 := made_same (Same.refl H2) nx nd (.own x) (.ins (He.ga K "Cheaper") dx []) (.ins (He.ga K "Cheaper") dx [("one", r1), ("other", r2)])
      exact ⟨x, _, dx, _, _, rfl, c_Cheaper T, n_Cheaper_one T, n_Cheaper_other T, upd_same, rfl, q _ _ sm ⟨x, dx, r1, r2, rfl, upd_same, h1.same (s2.trans sm2), h2.same sm2⟩⟩
    | dear a b =>
      obtain ⟨t, va, vb, rfl, ht, ha, hb⟩ := hp
      have da : dep a < n ∧ dep b < n := by
        have : max (dep a) (dep b) + 1 < n + 1 := hn
        omega
      walk_at "oh go"
      refine i_make ?_
      walk_at "oh go"
      refine ⟨va, a, rfl, ha, da.1, fun r1 H1 s1 h1 => ?_⟩
      walk_at "oh go"
      refine ⟨vb, b, rfl, hb.same s1, da.2, fun r2 H2 s2 h2 => ?_⟩
      walk_at "oh go"
      intro x dx nx nd ne
      have sm := made_same (s1.trans s2) nx nd (.own x) (.ins (He.ga K "Dearer") dx []) (.ins (He.ga K "Dearer") dx [("one", r1), ("other", r2)])
      have sm2 := made_same (Same.refl H2) nx nd (.own x) (.ins (He.ga K "Dearer") dx []) (.ins (He.ga K "Dearer") dx [("one", r1), ("other", r2)])
      exact ⟨x, _, dx, _, _, rfl, c_Dearer T, n_Dearer_one T, n_Dearer_other T, upd_same, rfl, q _ _ sm ⟨x, dx, r1, r2, rfl, upd_same, h1.same (s2.trans sm2), h2.same sm2⟩⟩
    | only a lo hi =>
      obtain ⟨t, va, rfl, ht, ha⟩ := hp
      have da : dep a < n := Nat.lt_of_succ_lt_succ hn
      walk_at "oh go"
      refine i_make ?_
      walk_at "oh go"
      refine ⟨va, a, rfl, ha, da, fun r1 H1 s1 h1 => ?_⟩
      have ht1 := s1 _ _ ht
      walk_at "oh go"
      intro x dx nx nd ne
      have sm := made_same s1 nx nd (.own x) (.ins (He.ga K "Only") dx []) (.ins (He.ga K "Only") dx [("one", r1), ("low", .int lo), ("high", .int hi)])
      have sm2 := made_same (Same.refl H1) nx nd (.own x) (.ins (He.ga K "Only") dx []) (.ins (He.ga K "Only") dx [("one", r1), ("low", .int lo), ("high", .int hi)])
      exact ⟨x, dx, _, _, _, rfl, upd_same, rfl, q _ _ sm ⟨x, dx, r1, rfl, upd_same, h1.same sm2⟩⟩
    | after a cc =>
      obtain ⟨t, va, rfl, ht, ha⟩ := hp
      have da : dep a < n := Nat.lt_of_succ_lt_succ hn
      walk_at "oh go"
      refine i_make ?_
      walk_at "oh go"
      refine ⟨va, a, rfl, ha, da, fun r1 H1 s1 h1 => ?_⟩
      have ht1 := s1 _ _ ht
      walk_at "oh go"
      intro x dx nx nd ne
      have sm := made_same s1 nx nd (.own x) (.ins (He.ga K "After") dx []) (.ins (He.ga K "After") dx [("one", r1), ("count", .int cc)])
      have sm2 := made_same (Same.refl H1) nx nd (.own x) (.ins (He.ga K "After") dx []) (.ins (He.ga K "After") dx [("one", r1), ("count", .int cc)])
      exact ⟨x, dx, _, _, rfl, upd_same, rfl, q _ _ sm ⟨x, dx, r1, rfl, upd_same, h1.same sm2⟩⟩
    | fee a cc =>
      obtain ⟨t, va, rfl, ht, ha⟩ := hp
      have da : dep a < n := Nat.lt_of_succ_lt_succ hn
      walk_at "oh go"
      refine i_make ?_
      walk_at "oh go"
      refine ⟨va, a, rfl, ha, da, fun r1 H1 s1 h1 => ?_⟩
      have ht1 := s1 _ _ ht
      walk_at "oh go"
      intro x dx nx nd ne
      have sm := made_same s1 nx nd (.own x) (.ins (He.ga K "Fee") dx []) (.ins (He.ga K "Fee") dx [("one", r1), ("price", .int cc)])
      have sm2 := made_same (Same.refl H1) nx nd (.own x) (.ins (He.ga K "Fee") dx []) (.ins (He.ga K "Fee") dx [("one", r1), ("price", .int cc)])
      exact ⟨x, dx, _, _, rfl, upd_same, rfl, q _ _ sm ⟨x, dx, r1, rfl, upd_same, h1.same sm2⟩⟩
end
end OH
set_option Elab.async false
set_option linter.all false
set_option maxRecDepth 100000
set_option maxHeartbeats 4000000
set_option exponentiation.threshold 10000
namespace OH
open PySem PySem.Spec PyProof.Rows L2
/-- a list of no rows changes: a rule stands -/
theorem RuleV.mut {K : PySem.W.Frag} {H : Hp} {k : Addr} {acc acc' : List V} (hk : H k = some (.lst acc)) (no : ∀ x ∈ acc, ¬ ∃ l, LnV H x l) : ∀ {p : Plan Str} {v : V}, PlanOk p → RuleV K H p v → RuleV K (upd H k (.lst acc')) p v := by
  have tm : ∀ {b C dx : Addr} {fs : List (Str × V)}, H b = some (.ins C dx fs) → upd H k (.lst acc') b = some (.ins C dx fs) := fun e => by
    rw [upd_ne (ne_of e hk (by intro z; cases z))]
    exact e
  have rows : ∀ {l : Addr} {vs : List V} {r : Rows}, r ≠ [] → H l = some (.lst vs) → Its LnV H vs r → upd H k (.lst acc') l = some (.lst vs) ∧ Its LnV (upd H k (.lst acc')) vs r := fun {l vs r} hr h i => by
    have ne : l ≠ k := fun e => by
      subst e
      rw [hk] at h
      cases h
      match acc, r, i with
      | [], [], _ => exact hr rfl
      | x :: _, _ :: _, .cons a _ => exact no x List.mem_cons_self ⟨_, a⟩
    exact ⟨by rw [upd_ne ne]; exact h, i.mono LnV.mono (ts_mut hk _)⟩
  intro p
  induction p with
  | each u lo hi => rintro v _ ⟨a, dx, e, h⟩; exact ⟨a, dx, e, tm h⟩
  | flat u lo hi => rintro v _ ⟨a, dx, e, h⟩; exact ⟨a, dx, e, tm h⟩
  | bands r => rintro v ok ⟨a, dx, l, vs, e, h, h2, i⟩; exact ⟨a, dx, l, vs, e, tm h, rows (RowsOk.ne ok) h2 i⟩
  | steps r => rintro v ok ⟨a, dx, l, vs, e, h, h2, i⟩; exact ⟨a, dx, l, vs, e, tm h, rows (RowsOk.ne ok) h2 i⟩
  | blocks u lo hi => rintro v _ ⟨a, dx, e, h⟩; exact ⟨a, dx, e, tm h⟩
  | name n q _ => rintro v _ ⟨a, dx, e, h⟩; exact ⟨a, dx, e, tm h⟩
  | plus x y ix iy => rintro v ok ⟨a, dx, va, vb, e, h, h1, h2⟩; exact ⟨a, dx, va, vb, e, tm h, ix ok.1 h1, iy ok.2 h2⟩
  | cheap x y ix iy => rintro v ok ⟨a, dx, va, vb, e, h, h1, h2⟩; exact ⟨a, dx, va, vb, e, tm h, ix ok.1 h1, iy ok.2 h2⟩
  | dear x y ix iy => rintro v ok ⟨a, dx, va, vb, e, h, h1, h2⟩; exact ⟨a, dx, va, vb, e, tm h, ix ok.1 h1, iy ok.2 h2⟩
  | only x lo hi ix => rintro v ok ⟨a, dx, va, e, h, h1⟩; exact ⟨a, dx, va, e, tm h, ix ok.1 h1⟩
  | after x c ix => rintro v ok ⟨a, dx, va, e, h, h1⟩; exact ⟨a, dx, va, e, tm h, ix ok.1 h1⟩
  | fee x c ix => rintro v ok ⟨a, dx, va, e, h, h1⟩; exact ⟨a, dx, va, e, tm h, ix ok.1 h1⟩
theorem offer_no_line {K : PySem.W.Frag} {H : Hp} {v : V} {o : Str × Plan Str} : OfferV K H v o → ¬ ∃ l, LnV H v l := fun ⟨t, vp, e, h, _⟩ ⟨l, a, e2, h2⟩ => by
  rw [e] at e2
  cases e2
  rw [h] at h2
  cases h2
theorem OfferV.mut {K : PySem.W.Frag} {H : Hp} {k : Addr} {acc acc' : List V} {o : Str × Plan Str} {v : V} (hk : H k = some (.lst acc)) (no : ∀ x ∈ acc, ¬ ∃ l, LnV H x l) (ok : PlanOk o.2) : OfferV K H v o → OfferV K (upd H k (.lst acc')) v o := fun ⟨t, vp, e, h, r⟩ =>
  ⟨t, vp, e, (by rw [upd_ne (ne_of h hk (by intro z; cases z))]; exact h), RuleV.mut hk no ok r⟩
section
variable {P : Program} {w : World} {K : PySem.W.Frag} {mg : Str → Option Value} {base : Heap}
/-- a known object: through what has changed since -/
local macro_rules | `(tactic| walk_at "oh hp") => `(tactic| first | assumption | exact upd_same | (refine get_new (by assumption) ?_; walk_at "oh hp") | (refine get_mut (by assumption) ?_ (by intro z; cases z); walk_at "oh hp") | (refine same_get (by assumption) ?_; walk_at "oh hp") | (refine ts_get (by assumption) ?_; walk_at "oh hp") | (refine same_get (LL.sm (by assumption)) ?_; walk_at "oh hp") | exact LL.at_ (by assumption))
local macro_rules | `(tactic| walk_at "oh sc") => `(tactic| exact ⟨rfl, rfl, rfl, by decide +kernel, rfl, by decide +kernel, by decide +kernel⟩)
/-- one step of a reading -/
local macro_rules | `(tactic| walk_at "oh 1") => `(tactic| with_reducible first
  | refine i_var rfl ?_ | refine i_c ?_ | refine i_op ?_ | refine i_I0 ?_ | refine i_cons ?_ | refine i_nil ?_ | refine i_asg ?_ | refine i_name ?_ | refine i_seq ?_ | refine i_ifS ?_ | refine i_test ?_ | refine i_bl ?_ | refine i_call ?_ | refine i_CB ?_
  | refine i_tup ?_ | refine i_lst ?_ | refine i_eqI ?_ | refine i_eqS ?_ | refine i_neI ?_ | refine i_un ?_ | refine i_U ?_ | refine i_ret ?_ | refine i_retN ?_ | refine i_next ?_ | refine i_cont ?_ | refine i_drop ?_ | refine i_B ?_ | refine i_and ?_ | refine i_or ?_ | refine i_not ?_ | refine i_mn ?_ | refine i_mx ?_ | refine i_isN ?_ | refine i_notN ?_ | refine i_bm ?_ | refine i_bm0 ?_ | refine i_rn ?_ | refine i_nn ?_ | refine i_rn' ?_ | refine i_nn' ?_ | refine i_gcons ?_ | refine i_gnil ?_ | refine i_orV ?_ | refine i_andV ?_ | refine i_notV ?_ | refine i_chain ?_ | refine i_forL ?_ | refine i_iL ?_ | refine i_iT ?_ | refine i_lc ?_ | refine i_yes ?_ | refine i_sortS ?_ | refine i_lenS ?_ | refine i_slL ?_ | refine i_noP ?_ | refine i_part ?_ | refine i_fld ?_ | refine i_sFld ?_ | refine i_dget ?_ | refine i_meth ?_ | refine i_dnot ?_ | refine i_aug rfl ?_ | refine i_ip ?_ | refine iteT ?_ | refine iteF ?_ | refine i_nT ?_ | refine i_nF ?_)
local macro_rules | `(tactic| walk_at "oh 2") => `(tactic| first | ((with_reducible refine' i_sF ?c ?q); (case c => decide +kernel)) | ((with_reducible refine' i_sT ?c ?q); (case c => decide +kernel)) | ((with_reducible refine' i_atP ?h ?c ?n ?l ?q); (case h => walk_at "oh hp"); (case c => assumption); (case n => assumption); (case l => exact Nat.le_of_ble_eq_true rfl)) | ((with_reducible refine' i_atF ?h ?c ?n ?l ?q); (case h => walk_at "oh hp"); (case c => assumption); (case n => assumption); (case l => rfl)) | ((with_reducible refine' i_ixT ?h ?e ?q); (case h => walk_at "oh hp"); (case e => rfl)) | ((with_reducible refine' i_gtup ?h ?e ?q); (case h => walk_at "oh hp"); (case e => rfl)) | ((with_reducible refine' i_atL ?h ?q); (case h => walk_at "oh hp")) | ((with_reducible refine' i_atT ?h ?q); (case h => walk_at "oh hp")) | ((with_reducible refine' i_tyL ?h ?q); (case h => walk_at "oh hp")) | ((with_reducible refine' i_lnL ?h ?q); (case h => walk_at "oh hp")) | ((with_reducible refine' i_lnT ?h ?q); (case h => walk_at "oh hp")))
local macro_rules | `(tactic| walk_at "oh go") => `(tactic| repeat first | walk_at "oh 1" | walk_at "oh 2")
def sp_law_made (K : PySem.W.Frag) : Sp := fun vs H Q _ => ∃ (l : Addr) (us : List V) (B : Bk), vs = [.ref l] ∧ H l = some (.lst us) ∧ Its PlO H us B ∧ BookIn B ∧ (∀ o ∈ B, NameOk o.1) ∧ ∀ (v : V) H', Same H H' → BookV K H' v B → Q v H'
/- slots: 0 offers, 1 offer -/
theorem sc_law_made : FnScope ["offers", "offer"] ["offers"] (defScope s_law_made) := by walk_at "oh sc"
theorem ok_law_made (T : Pg K mg) : Ok P w K mg base (L2.CX P w) 9 "_law_made" ["offers"] (sp_law_made K) := by
  obtain ⟨fd, F⟩ := F_law_made T
  refine ⟨fd, F.okX sc_law_made (fun vs H Q E h => ?_) (fun cdv A outer s H vs Q E hr h => ?_), F.binds fun _ _ _ _ _ _ us hl => (match us, hl with | [_], _ => rfl), F.kp, g_law_made T⟩
  · obtain ⟨l, us, B, rfl, _⟩ := h
    rfl
  · obtain ⟨l, us, B, rfl, hl, hI, bk, ok, q⟩ := h
    have hu := hu_of hr
    refine ⟨_, pss_one (ps_ret (pe_mkE (E := E) (k_Book T) (ok_Book_init T) (g_Book T) hr (hx := passes_call (takes_of rfl rfl rfl rfl) fun _ _ _ _ h => h) (ha :=pa_cons (pe_lc (own := [("offer", 1)]) (g := gName 1) rfl sc_law_made.nd (pi_list (pv 0)) (blkOk_by (own := [("offer", 1)]) (N := ["offers", "offer"]) (sc := defScope s_law_made) (by decide +kernel)) (fun _ _ _ _ _ => pg_name (i := 1) sc_law_made.nd rfl (Or.inl rfl)) (fun _ _ _ _ _ => pts_nil) (fun _ _ _ _ _ => (pe_tup (pa_cons (pe_ix (ixT K) (pv 1) pe_int (fun _ _ => rfl)) (pa_cons (pe_c0 (ok_law_rule T 4) hr (pa_cons (pe_ix (ixT K) (pv 1) pe_int (fun _ _ => rfl)) pa_nil)) pa_nil))))) pa_nil))), ?_⟩
    walk_at "oh go"
    refine i_make ?_
    walk_at "oh go"
    intro D hD
    refine lc_list (K := K) (a := l) (xs := us) (fun i H' => ∃ acc, H' D = some (.lst acc) ∧ Its (OfferV K) H' acc (B.take i) ∧ Same H H') ⟨[], upd_same, .nil, same_new hD _⟩ (fun i H' _ ⟨acc, _, _, sm⟩ => SqL.of (sm _ _ hl)) ?_ ?_
    · rintro i x H1 ex ⟨acc, hD1, its, sm⟩
      obtain ⟨o, eo, t, vp, rfl, ht, hp⟩ := hI.get ex
      have mo : o ∈ B := List.mem_of_getElem? eo
      have ht1 := sm _ _ ht
      have al := its.len
      rw [List.length_take] at al
      have few := bk.few
      walk_at "oh go"
      refine ⟨rfl, ?_⟩
      walk_at "oh go"
      refine ⟨vp, o.2, rfl, hp.same sm, bk.dep o mo, fun r H2 s2 hr2 => ?_⟩
      walk_at "oh go"
      refine ⟨Nat.le_of_ble_eq_true rfl, fun tt ntt => ?_⟩
      have s3 := s2.trans (same_new ntt (.tup [.str o.1, r]))
      have its3 : Its (OfferV K) (upd H2 tt (.tup [.str o.1, r])) acc (B.take i) := its_id its fun _ _ z => OfferV.same s3 z
      have hD3 := s3 _ _ hD1
      have no : ∀ x ∈ acc, ¬ ∃ l, LnV (upd H2 tt (.tup [.str o.1, r])) x l := its_all (fun _ _ z => offer_no_line z) its3
      have new : OfferV K (upd H2 tt (.tup [.str o.1, r])) (.ref tt) o := ⟨tt, r, rfl, upd_same, hr2.same (same_new ntt _)⟩
      refine ⟨acc, hD3, small' (by omega), acc ++ [.ref tt], upd_same, ?_, same_mut (sm.trans s3) hD _⟩
      rw [List.take_add_one, eo]
      exact (its_keep (C := fun a => PlanOk a.2) (fun _ _ c z => OfferV.mut hD3 no c z) (fun a ha => (bk.pin a (List.mem_of_mem_take ha)).ok) its3).app (.cons (OfferV.mut hD3 no (bk.pin o mo).ok new) .nil)
    · rintro H1 ⟨acc, hD1, its, sm⟩
      rw [hI.len, List.take_length] at its
      walk_at "oh go"
      intro x dx nx nd ne
      have s2 : Same H1 (upd (upd H1 dx (.own x)) x (.ins (He.ga K "Book") dx [])) := same_mut (same_new nd _) nx _
      refine ⟨x, dx, D, acc, B, rfl, upd_same, ⟨s2 _ _ hD1, its_id its fun _ _ z => OfferV.same s2 z, bk⟩, ok, fun H2 k old hx hk => ⟨rfl, ?_⟩⟩
      have s3 : Same H1 H2 := fun b u e => old b u (ne_of_none e nx) (s2 _ _ e)
      exact q _ H2 (sm.trans s3) ⟨x, dx, k, acc, rfl, hx, hk, its_id its fun _ _ z => OfferV.same s3 z⟩
end
end OH
set_option Elab.async false
set_option linter.all false
set_option maxRecDepth 100000
set_option maxHeartbeats 4000000
set_option exponentiation.threshold 10000
namespace OH
open PySem PySem.Spec PyProof.Rows L2
/-- the offers of the law, in the heap -/
structure PlIn (H : Hp) (l : Addr) (us : List V) (B : Bk) : Prop where
  at_ : H l = some (.lst us)
  its : Its PlO H us B
  ok : BookIn B
theorem PlIn.same {H H' : Hp} {l : Addr} {us : List V} {B : Bk} (I : PlIn H l us B) (s : Same H H') : PlIn H' l us B := ⟨s _ _ I.at_, its_id I.its fun _ _ => PlO.same s, I.ok⟩
section
variable {P : Program} {w : World} {K : PySem.W.Frag} {mg : Str → Option Value} {base : Heap}
/-- a known object: through what has changed since -/
local macro_rules | `(tactic| walk_at "oh hp") => `(tactic| first | assumption | exact upd_same | (refine get_new (by assumption) ?_; walk_at "oh hp") | (refine get_mut (by assumption) ?_ (by intro z; cases z); walk_at "oh hp") | (refine same_get (by assumption) ?_; walk_at "oh hp") | (refine ts_get (by assumption) ?_; walk_at "oh hp") | (refine same_get (LL.sm (by assumption)) ?_; walk_at "oh hp") | exact LL.at_ (by assumption))
local macro_rules | `(tactic| walk_at "oh sc") => `(tactic| exact ⟨rfl, rfl, rfl, by decide +kernel, rfl, by decide +kernel, by decide +kernel⟩)
/-- one step of a reading -/
local macro_rules | `(tactic| walk_at "oh 1") => `(tactic| with_reducible first
  | refine i_var rfl ?_ | refine i_c ?_ | refine i_op ?_ | refine i_I0 ?_ | refine i_cons ?_ | refine i_nil ?_ | refine i_asg ?_ | refine i_name ?_ | refine i_seq ?_ | refine i_ifS ?_ | refine i_test ?_ | refine i_bl ?_ | refine i_call ?_ | refine i_CB ?_
  | refine i_tup ?_ | refine i_lst ?_ | refine i_eqI ?_ | refine i_eqS ?_ | refine i_neI ?_ | refine i_un ?_ | refine i_U ?_ | refine i_ret ?_ | refine i_retN ?_ | refine i_next ?_ | refine i_cont ?_ | refine i_drop ?_ | refine i_B ?_ | refine i_and ?_ | refine i_or ?_ | refine i_not ?_ | refine i_mn ?_ | refine i_mx ?_ | refine i_isN ?_ | refine i_notN ?_ | refine i_bm ?_ | refine i_bm0 ?_ | refine i_rn ?_ | refine i_nn ?_ | refine i_rn' ?_ | refine i_nn' ?_ | refine i_gcons ?_ | refine i_gnil ?_ | refine i_orV ?_ | refine i_andV ?_ | refine i_notV ?_ | refine i_chain ?_ | refine i_forL ?_ | refine i_iL ?_ | refine i_iT ?_ | refine i_lc ?_ | refine i_yes ?_ | refine i_sortS ?_ | refine i_lenS ?_ | refine i_slL ?_ | refine i_noP ?_ | refine i_part ?_ | refine i_fld ?_ | refine i_sFld ?_ | refine i_dget ?_ | refine i_meth ?_ | refine i_dnot ?_ | refine i_aug rfl ?_ | refine i_ip ?_ | refine iteT ?_ | refine iteF ?_ | refine i_nT ?_ | refine i_nF ?_)
local macro_rules | `(tactic| walk_at "oh 2") => `(tactic| first | ((with_reducible refine' i_sF ?c ?q); (case c => decide +kernel)) | ((with_reducible refine' i_sT ?c ?q); (case c => decide +kernel)) | ((with_reducible refine' i_atP ?h ?c ?n ?l ?q); (case h => walk_at "oh hp"); (case c => assumption); (case n => assumption); (case l => exact Nat.le_of_ble_eq_true rfl)) | ((with_reducible refine' i_atF ?h ?c ?n ?l ?q); (case h => walk_at "oh hp"); (case c => assumption); (case n => assumption); (case l => rfl)) | ((with_reducible refine' i_ixT ?h ?e ?q); (case h => walk_at "oh hp"); (case e => rfl)) | ((with_reducible refine' i_gtup ?h ?e ?q); (case h => walk_at "oh hp"); (case e => rfl)) | ((with_reducible refine' i_atL ?h ?q); (case h => walk_at "oh hp")) | ((with_reducible refine' i_atT ?h ?q); (case h => walk_at "oh hp")) | ((with_reducible refine' i_tyL ?h ?q); (case h => walk_at "oh hp")) | ((with_reducible refine' i_lnL ?h ?q); (case h => walk_at "oh hp")) | ((with_reducible refine' i_lnT ?h ?q); (case h => walk_at "oh hp")))
local macro_rules | `(tactic| walk_at "oh go") => `(tactic| repeat first | walk_at "oh 1" | walk_at "oh 2")
def sp_law_plan_of : Sp := fun vs H Q _ => ∃ (l : Addr) (us : List V) (B : Bk) (n : Str) (p : Plan Str), vs = [.ref l, .str n] ∧ PlIn H l us B ∧ (n, p) ∈ B ∧ ∀ (v : V) H', Same H H' → PlanV H' p v → Q v H'
/- slots: 0 offers, 1 name, 2 offer (cells: name) -/
theorem sc_law_plan_of : FnScope ["offers", "name", "offer"] ["offers", "name"] (defScope s_law_plan_of) := by walk_at "oh sc"
theorem ok_law_plan_of (T : Pg K mg) : Ok P w K mg base CX0 1 "_law_plan_of" ["offers", "name"] sp_law_plan_of := by
  obtain ⟨fd, F⟩ := F_law_plan_of T
  refine ⟨fd, F.ok sc_law_plan_of (fun vs H Q E h => ?_) (fun cdv A outer s H vs Q E hr h => ?_), F.binds fun _ _ _ _ _ _ us hl => (match us, hl with | [_, _], _ => rfl), F.kp, g_law_plan_of T⟩
  · obtain ⟨l, us, B, n, p, rfl, _⟩ := h
    rfl
  · obtain ⟨l, us, B, n, p, rfl, I, mp, q⟩ := h
    have hu := hu_of hr
    refine ⟨_, pss_one (ps_ret (pe_ix ix_list (pe_lc (own := [("offer", 2)]) (g := gName 2) rfl sc_law_plan_of.nd (pi_list (pv 0)) (blkOk_by (own := [("offer", 2)]) (N := ["offers", "name", "offer"]) (sc := defScope s_law_plan_of) (by decide +kernel)) (fun _ _ _ _ _ => pg_name (i := 2) sc_law_plan_of.nd rfl (Or.inl rfl)) (fun _ _ _ _ _ => pts_one (pt_cmpR op_eq (pe_ix (ixT K) (pv 2) pe_int (fun _ _ => rfl)) (pv 1) (nomark _))) (fun _ _ _ _ _ => (pe_ix (ixT K) (pv 2) pe_int (fun _ _ => rfl)))) pe_int (fun _ _ => rfl))), ?_⟩
    have hl0 := I.at_
    walk_at "oh go"
    intro D hD
    refine lc_list (K := K) (a := l) (xs := us) (fun i H' => ∃ acc, H' D = some (.lst acc) ∧ Its PlanR H acc (((B.take i).filter fun o => decide (o.1 = n)).map (·.2)) ∧ Same H H' ∧ acc.length ≤ i) ⟨[], upd_same, .nil, same_new hD _, Nat.le_refl _⟩ (fun i H' _ ⟨acc, _, _, sm, _⟩ => SqL.of (sm _ _ I.at_)) ?_ ?_
    · rintro i x H1 ex ⟨acc, hD1, its, sm, le⟩
      obtain ⟨o, eo, t, vp, rfl, ht, hp⟩ := I.its.get ex
      have ht1 := sm _ _ ht
      have ub := I.its.len
      have few := I.ok.few
      have il : i < us.length := (List.getElem?_eq_some_iff.mp ex).1
      walk_at "oh go"
      refine ⟨rfl, ?_⟩
      walk_at "oh go"
      rw [List.take_add_one, eo]
      refine i_dec (fun c => ?_) (fun c => ?_)
      · walk_at "oh go"
        refine ⟨acc, hD1, small' (by omega), acc ++ [vp], upd_same, ?_, same_mut sm hD _, by rw [List.length_append]; show _ + 1 ≤ _; omega⟩
        rw [List.filter_append, List.map_append]
        refine its.app ?_
        show Its PlanR H [vp] ((List.filter _ [o]).map _)
        rw [List.filter_cons_of_pos (by simpa using c)]
        exact .cons hp .nil
      · refine ⟨acc, hD1, ?_, sm, by omega⟩
        rw [List.filter_append, List.map_append]
        show Its PlanR H acc (_ ++ (List.filter _ [o]).map _)
        rw [List.filter_cons_of_neg (by simpa using c)]
        simpa using its
    · rintro H1 ⟨acc, hD1, its, sm, _⟩
      rw [I.its.len, List.take_length] at its
      have all : ∀ z ∈ (B.filter fun o => decide (o.1 = n)).map (·.2), z = p := fun z hz => by
        obtain ⟨o, ho, e⟩ := List.mem_map.mp hz
        obtain ⟨h1, h2⟩ := List.mem_filter.mp ho
        have h3 : o.1 = n := by simpa using h2
        have a := mem_lookup I.ok.nodup (n := n) (p := z) (by rw [← h3, ← e]; exact h1)
        rw [mem_lookup I.ok.nodup mp] at a
        exact (Option.some.inj a).symm
      have some_ : p ∈ (B.filter fun o => decide (o.1 = n)).map (·.2) := List.mem_map.mpr ⟨(n, p), List.mem_filter.mpr ⟨mp, by simp⟩, rfl⟩
      generalize (B.filter fun o => decide (o.1 = n)).map (·.2) = Z at its all some_
      walk_at "oh go"
      match acc, Z, its with
      | [], [], _ => cases some_
      | v :: r, z :: Z, .cons a _ =>
        refine i_ixL hD1 (v := v) (atI_nat (j := 0) rfl) ?_
        rw [all z List.mem_cons_self] at a
        exact q v H1 sm (a.same sm)
end
end OH
set_option Elab.async false
set_option linter.all false
set_option maxRecDepth 100000
set_option maxHeartbeats 4000000
set_option exponentiation.threshold 10000
namespace OH
open PySem PySem.Spec PyProof.Rows L2
/-- a plan with no other within -/
def Leaf : Plan Str → Prop
  | .each .. => True
  | .flat .. => True
  | .bands .. => True
  | .steps .. => True
  | .blocks .. => True
  | _ => False
/-- what each row adds -/
def stepTerms (x : Int) : Int → Rows → List Int
  | _, [] => []
  | done, (top, u) :: r => u * (mn x top - mn x done) :: stepTerms x top r
theorem stepTerms_sum (x : Int) : ∀ (r : Rows) (done : Int), (stepTerms x done r).sum = stepSum x done r
  | [], _ => rfl
  | (top, u) :: r, done => by
    show (_ :: stepTerms x top r).sum = _
    rw [List.sum_cons, stepTerms_sum x r top]
    rfl
theorem stepTerms_len (x : Int) : ∀ (r : Rows) (done : Int), (stepTerms x done r).length = r.length
  | [], _ => rfl
  | (top, u) :: r, done => congrArg (· + 1) (stepTerms_len x r top)
theorem stepTerms_at (x : Int) : ∀ (r : Rows) (done : Int) (i : Nat) (t u d : Int), r[i]? = some (t, u) → (done :: r.map (·.1))[i]? = some d → (stepTerms x done r)[i]? = some (u * (mn x t - mn x d))
  | [], _, i, t, u, d, h, _ => by simp at h
  | (top, u0) :: r, done, 0, t, u, d, h, e => by
    obtain ⟨rfl, rfl⟩ := Prod.mk.inj (Option.some.inj (show some (top, u0) = some (t, u) from h))
    obtain rfl := Option.some.inj (show some done = some d from e)
    rfl
  | (top, u0) :: r, done, i + 1, t, u, d, h, e => stepTerms_at x r top i t u d h e
theorem bandUnits (x : Int) : ∀ r : Rows, r ≠ [] → x ≤ lastTop r → ∃ L, (r.filter fun q => decide (x ≤ q.1)).map (·.2) = bandUnit x r :: L
  | [], h, _ => absurd rfl h
  | [(top, u)], _, l => ⟨[], by
    have l' : x ≤ top := l
    rw [List.filter_cons_of_pos (by simpa using l')]
    show [u] = [if x ≤ top then u else 0]
    rw [if_pos l']⟩
  | (top, u) :: q :: r, _, l => by
    by_cases c : x ≤ top
    · refine ⟨((q :: r).filter fun q => decide (x ≤ q.1)).map (·.2), ?_⟩
      rw [List.filter_cons_of_pos (by simpa using c)]
      show u :: _ = (if x ≤ top then u else bandUnit x (q :: r)) :: _
      rw [if_pos c]
    · obtain ⟨L, e⟩ := bandUnits x (q :: r) (fun z => nomatch z) l
      refine ⟨L, ?_⟩
      rw [List.filter_cons_of_neg (by simpa using c), e]
      show _ = (if x ≤ top then u else bandUnit x (q :: r)) :: L
      rw [if_neg c]
theorem lastTop_at : ∀ r : Rows, r ≠ [] → ∃ q, r.getLast? = some q ∧ q.1 = lastTop r
  | [], h => absurd rfl h
  | [q], _ => ⟨q, rfl, rfl⟩
  | p :: q :: r, _ => by
    obtain ⟨z, e, k⟩ := lastTop_at (q :: r) fun z => nomatch z
    exact ⟨z, by rw [List.getLast?_cons_cons]; exact e, k⟩
section
variable {P : Program} {w : World} {K : PySem.W.Frag} {mg : Str → Option Value} {base : Heap}
/-- a known object: through what has changed since -/
local macro_rules | `(tactic| walk_at "oh hp") => `(tactic| first | assumption | exact upd_same | (refine get_new (by assumption) ?_; walk_at "oh hp") | (refine get_mut (by assumption) ?_ (by intro z; cases z); walk_at "oh hp") | (refine same_get (by assumption) ?_; walk_at "oh hp") | (refine ts_get (by assumption) ?_; walk_at "oh hp") | (refine same_get (LL.sm (by assumption)) ?_; walk_at "oh hp") | exact LL.at_ (by assumption))
local macro_rules | `(tactic| walk_at "oh sc") => `(tactic| exact ⟨rfl, rfl, rfl, by decide +kernel, rfl, by decide +kernel, by decide +kernel⟩)
/-- one step of a reading -/
local macro_rules | `(tactic| walk_at "oh 1") => `(tactic| with_reducible first
  | refine i_var rfl ?_ | refine i_c ?_ | refine i_op ?_ | refine i_I0 ?_ | refine i_cons ?_ | refine i_nil ?_ | refine i_asg ?_ | refine i_name ?_ | refine i_seq ?_ | refine i_ifS ?_ | refine i_test ?_ | refine i_bl ?_ | refine i_call ?_ | refine i_CB ?_
  | refine i_tup ?_ | refine i_lst ?_ | refine i_eqI ?_ | refine i_eqS ?_ | refine i_neI ?_ | refine i_un ?_ | refine i_U ?_ | refine i_ret ?_ | refine i_retN ?_ | refine i_next ?_ | refine i_cont ?_ | refine i_drop ?_ | refine i_B ?_ | refine i_and ?_ | refine i_or ?_ | refine i_not ?_ | refine i_mn ?_ | refine i_mx ?_ | refine i_isN ?_ | refine i_notN ?_ | refine i_bm ?_ | refine i_bm0 ?_ | refine i_rn ?_ | refine i_nn ?_ | refine i_rn' ?_ | refine i_nn' ?_ | refine i_gcons ?_ | refine i_gnil ?_ | refine i_orV ?_ | refine i_andV ?_ | refine i_notV ?_ | refine i_chain ?_ | refine i_forL ?_ | refine i_iL ?_ | refine i_iT ?_ | refine i_lc ?_ | refine i_yes ?_ | refine i_sortS ?_ | refine i_lenS ?_ | refine i_slL ?_ | refine i_noP ?_ | refine i_part ?_ | refine i_fld ?_ | refine i_sFld ?_ | refine i_dget ?_ | refine i_meth ?_ | refine i_dnot ?_ | refine i_aug rfl ?_ | refine i_ip ?_ | refine iteT ?_ | refine iteF ?_ | refine i_nT ?_ | refine i_nF ?_)
local macro_rules | `(tactic| walk_at "oh 2") => `(tactic| first | ((with_reducible refine' i_sF ?c ?q); (case c => decide +kernel)) | ((with_reducible refine' i_sT ?c ?q); (case c => decide +kernel)) | ((with_reducible refine' i_atP ?h ?c ?n ?l ?q); (case h => walk_at "oh hp"); (case c => assumption); (case n => assumption); (case l => exact Nat.le_of_ble_eq_true rfl)) | ((with_reducible refine' i_atF ?h ?c ?n ?l ?q); (case h => walk_at "oh hp"); (case c => assumption); (case n => assumption); (case l => rfl)) | ((with_reducible refine' i_ixT ?h ?e ?q); (case h => walk_at "oh hp"); (case e => rfl)) | ((with_reducible refine' i_gtup ?h ?e ?q); (case h => walk_at "oh hp"); (case e => rfl)) | ((with_reducible refine' i_atL ?h ?q); (case h => walk_at "oh hp")) | ((with_reducible refine' i_atT ?h ?q); (case h => walk_at "oh hp")) | ((with_reducible refine' i_tyL ?h ?q); (case h => walk_at "oh hp")) | ((with_reducible refine' i_lnL ?h ?q); (case h => walk_at "oh hp")) | ((with_reducible refine' i_lnT ?h ?q); (case h => walk_at "oh hp")))
local macro_rules | `(tactic| walk_at "oh go") => `(tactic| repeat first | walk_at "oh 1" | walk_at "oh 2")
def sp_law_leaf_cost : Sp := fun vs H Q _ => ∃ (v : V) (p : Plan Str) (x : Int), vs = [v, .int x] ∧ PlanV H p v ∧ PlanOk p ∧ Leaf p ∧ Sz 200 x ∧ ∀ H', Same H H' → Q (optV (cost p x)) H'
/- slots: 0 plan, 1 x, 2 kind, 3 tops, 4 row, 5 j (cells: plan, tops, x) -/
theorem sc_law_leaf_cost : FnScope ["plan", "x", "kind", "tops", "row", "j"] ["plan", "x"] (defScope s_law_leaf_cost) := by walk_at "oh sc"
theorem ok_law_leaf_cost (T : Pg K mg) : Ok P w K mg base CX0 1 "_law_leaf_cost" ["plan", "x"] sp_law_leaf_cost := by
  obtain ⟨fd, F⟩ := F_law_leaf_cost T
  refine ⟨fd, F.ok sc_law_leaf_cost (fun vs H Q E h => ?_) (fun cdv A outer s H vs Q E hr h => ?_), F.binds fun _ _ _ _ _ _ us hl => (match us, hl with | [_, _], _ => rfl), F.kp, g_law_leaf_cost T⟩
  · obtain ⟨v, p, x, rfl, _⟩ := h
    rfl
  · obtain ⟨v, p, x, rfl, hp, A, lf, sx, q⟩ := h
    have hu := hu_of hr
    refine ⟨_, pss_cons (ps_set (i := 2) sc_law_leaf_cost.nd rfl (Or.inl rfl) (pe_ix ix_tup (pv 0) pe_int (fun _ _ => rfl)))
      (pss_cons (ps_if (PW.pt (pw_or (pt_cmpR op_eq (pv 2) pe_str (nomark _)) (pw_or1 (pt_cmpR op_eq (pv 2) pe_str (nomark _)))))
      (pss_cons (ps_if (PW.pt (pw_or (pt_cmpR op_lt (pv 1) (pe_ix ix_tup (pv 0) pe_int (fun _ _ => rfl)) (nomark _)) (pw_or1 (pt_cmpR op_lt (pe_ix ix_tup (pv 0) pe_int (fun _ _ => rfl)) (pv 1) (nomark _)))))
        (pss_one (ps_ret pe_non))
        pss_nil)
        (pss_one (ps_ret (pe_op op_mulW (pe_ix ix_tup (pv 0) pe_int (fun _ _ => rfl)) (pe_ix ix_list (pe_lst (pa_cons pe_int (pa_cons (pv 1) pa_nil))) (pe_callTy call_int1 (by rfl) (z_int T) (by decide +kernel) (pa_cons (pe_cmpR op_eq (pv 2) pe_str (nomark _)) pa_nil)) (fun _ _ => rfl))))))
      pss_nil)
      (pss_cons (ps_if (pt_cmpR op_eq (pv 2) pe_str (nomark _))
      (pss_cons (ps_if (PW.pt (pw_or (pt_cmpR op_lt (pv 1) pe_int (nomark _)) (pw_or1 (pt_cmpR op_gt (pv 1) (pe_op op_mulW (pe_ix ix_tup (pv 0) pe_int (fun _ _ => rfl)) (pe_ix ix_tup (pv 0) pe_int (fun _ _ => rfl))) (nomark _)))))
        (pss_one (ps_ret pe_non))
        pss_nil)
        (pss_one (ps_ret (pe_op op_mulW (pe_ix ix_tup (pv 0) pe_int (fun _ _ => rfl)) (pe_op op_fdivW (pe_op op_sub (pe_op op_add (pv 1) (pe_ix ix_tup (pv 0) pe_int (fun _ _ => rfl))) pe_int) (pe_ix ix_tup (pv 0) pe_int (fun _ _ => rfl)))))))
      pss_nil)
      (pss_cons (ps_if (PW.pt (pw_or (pt_cmpR op_lt (pv 1) pe_int (nomark _)) (pw_or1 (pt_cmpR op_gt (pv 1) (pe_ix ix_tup (pe_ix ix_list (pe_ix ix_tup (pv 0) pe_int (fun _ _ => rfl)) (pe_un un_neg pe_int) (fun _ _ => rfl)) pe_int (fun _ _ => rfl)) (nomark _)))))
      (pss_one (ps_ret pe_non))
      pss_nil)
      (pss_cons (ps_if (pt_cmpR op_eq (pv 2) pe_str (nomark _))
      (pss_one (ps_ret (pe_op op_mulW (pv 1) (pe_ix ix_list (pe_lc (own := [("row", 4)]) (g := gName 4) rfl sc_law_leaf_cost.nd (pi_list (pe_ix ix_tup (pv 0) pe_int (fun _ _ => rfl))) (blkOk_by (own := [("row", 4)]) (N := ["plan", "x", "kind", "tops", "row", "j"]) (sc := defScope s_law_leaf_cost) (by decide +kernel)) (fun _ _ _ _ _ => pg_name (i := 4) sc_law_leaf_cost.nd rfl (Or.inl rfl)) (fun _ _ _ _ _ => pts_one (pt_cmpR op_le (pv 1) (pe_ix (ixT K) (pv 4) pe_int (fun _ _ => rfl)) (nomark _))) (fun _ _ _ _ _ => (pe_ix (ixT K) (pv 4) pe_int (fun _ _ => rfl)))) pe_int (fun _ _ => rfl)))))
      pss_nil)
      (pss_cons (ps_set (i := 3) sc_law_leaf_cost.nd rfl (Or.inr rfl) (pe_op op_cat (pe_lst (pa_cons pe_int pa_nil)) (pe_lc (own := [("row", 4)]) (g := gName 4) rfl sc_law_leaf_cost.nd (pi_list (pe_ix ix_tup (pv 0) pe_int (fun _ _ => rfl))) (blkOk_by (own := [("row", 4)]) (N := ["plan", "x", "kind", "tops", "row", "j"]) (sc := defScope s_law_leaf_cost) (by decide +kernel)) (fun _ _ _ _ _ => pg_name (i := 4) sc_law_leaf_cost.nd rfl (Or.inl rfl)) (fun _ _ _ _ _ => pts_nil) (fun _ _ _ _ _ => (pe_ix (ixT K) (pv 4) pe_int (fun _ _ => rfl))))))
      (pss_one (ps_ret (pe_callB (cr_sum rfl) (by rfl) (z_sum T) (by decide +kernel) (pa_cons (pe_lc (own := [("j", 5)]) (g := gName 5) rfl sc_law_leaf_cost.nd (pi_range1 (by rfl) (z_range T) (pa_cons (pe_callB cr_ln (by rfl) (z_len T) PySem.boot_len (pa_cons (pe_ix ix_tup (pv 0) pe_int (fun _ _ => rfl)) pa_nil)) pa_nil)) (blkOk_by (own := [("j", 5)]) (N := ["plan", "x", "kind", "tops", "row", "j"]) (sc := defScope s_law_leaf_cost) (by decide +kernel)) (fun _ _ _ _ _ => pg_name (i := 5) sc_law_leaf_cost.nd rfl (Or.inl rfl)) (fun _ _ _ _ _ => pts_nil) (fun _ _ _ _ _ => (pe_op op_mulW (pe_ix (ixT K) (pe_ix (ixL K) (pe_ix (ixT K) (pv 0) pe_int (fun _ _ => rfl)) (pv 5) (fun _ _ => rfl)) pe_int (fun _ _ => rfl)) (pe_op op_sub (pe_callB (cr_mn rfl) (by rfl) (z_min T) (by decide +kernel) (pa_cons (pv 1) (pa_cons (pe_ix (ixL K) (pv 3) (pe_op op_add (pv 5) pe_int) (fun _ _ => rfl)) pa_nil))) (pe_callB (cr_mn rfl) (by rfl) (z_min T) (by decide +kernel) (pa_cons (pv 1) (pa_cons (pe_ix (ixL K) (pv 3) (pv 5) (fun _ _ => rfl)) pa_nil))))))) pa_nil))))))))), ?_⟩
    have q' : ∀ o, cost p x = o → ∀ H', Same H H' → Q (optV o) H' := fun o e => e ▸ q
    cases p with
    | each u lo hi =>
      obtain ⟨t, rfl, ht⟩ := hp
      obtain ⟨le, su, slo, shi⟩ := A
      walk_at "oh go"
      refine i_dec (fun c => ?_) (fun c => ?_)
      · walk_at "oh go"
        exact q' none (if_pos (.inl c)) H (Same.refl _)
      walk_at "oh go"
      refine i_dec (fun c2 => ?_) (fun c2 => ?_)
      · walk_at "oh go"
        exact q' none (if_pos (.inr c2)) H (Same.refl _)
      walk_at "oh go"
      refine ⟨Nat.le_of_ble_eq_true rfl, fun l nl => ?_⟩
      walk_at "oh go"
      refine .inr ⟨_, rfl, ?_⟩
      rw [show (if decide (("each" : Str) = "each") = true then (1 : Int) else 0) = 1 by decide +kernel]
      refine i_ixL upd_same rfl ?_
      walk_at "oh go"
      refine i_I (bg_mul (su.mono (by decide)) (sx.mono (by decide))) ?_
      walk_at "oh go"
      exact q' (some _) (if_neg fun z => z.elim c c2) _ (same_new nl _)
    | flat u lo hi =>
      obtain ⟨t, rfl, ht⟩ := hp
      obtain ⟨le, su, slo, shi⟩ := A
      walk_at "oh go"
      refine i_dec (fun c => ?_) (fun c => ?_)
      · walk_at "oh go"
        exact q' none (if_pos (.inl c)) H (Same.refl _)
      walk_at "oh go"
      refine i_dec (fun c2 => ?_) (fun c2 => ?_)
      · walk_at "oh go"
        exact q' none (if_pos (.inr c2)) H (Same.refl _)
      walk_at "oh go"
      refine ⟨Nat.le_of_ble_eq_true rfl, fun l nl => ?_⟩
      walk_at "oh go"
      refine .inr ⟨_, rfl, ?_⟩
      rw [show (if decide (("flat" : Str) = "each") = true then (1 : Int) else 0) = 0 by decide +kernel]
      refine i_ixL upd_same rfl ?_
      walk_at "oh go"
      refine i_I (bg_mul (su.mono (by decide)) ((one_sz (n := 9000)))) ?_
      rw [Int.mul_one]
      walk_at "oh go"
      exact q' (some _) (if_neg fun z => z.elim c c2) _ (same_new nl _)
    | blocks size pr many =>
      obtain ⟨t, rfl, ht⟩ := hp
      obtain ⟨z1, z2, z3, ss, sp⟩ := A
      have sm : Sz 3 many := by unfold Sz; omega
      walk_at "oh go"
      refine i_dec (fun c => ?_) (fun c => ?_)
      · walk_at "oh go"
        exact q' none (if_pos (.inl c)) H (Same.refl _)
      walk_at "oh go"
      refine i_I (bg_mul (ss.mono (by decide)) (sm.mono (by decide))) ?_
      walk_at "oh go"
      refine i_dec (fun c2 => ?_) (fun c2 => ?_)
      · walk_at "oh go"
        exact q' none (if_pos (.inr c2)) H (Same.refl _)
      walk_at "oh go"
      refine i_I (bg_div (by omega) (ss.mono (by decide))) ?_
      have s1 : Sz 128 ((x + size - 1) / size) := by
        have h1 : (x + size - 1) / size < many + 1 := (Int.ediv_lt_iff_lt_mul (by omega)).mpr (by rw [Int.add_mul]; have := Int.mul_comm size many; omega)
        have h2 : 0 ≤ (x + size - 1) / size := Int.ediv_nonneg (by omega) (by omega)
        exact (show Sz 3 _ by unfold Sz; omega).mono (by decide)
      walk_at "oh go"
      refine i_I (bg_mul (sp.mono (by decide)) (s1.mono (by decide))) ?_
      walk_at "oh go"
      exact q' (some _) (if_neg fun z => z.elim c c2) _ (Same.refl _)
    | bands r =>
      obtain ⟨t, l, vs, rfl, ht, hl, hI⟩ := hp
      obtain ⟨z, ez, kz⟩ := lastTop_at r A.ne
      obtain ⟨vz, evz, az, rfl, haz⟩ := hI.last ez
      walk_at "oh go"
      refine i_dec (fun c => ?_) (fun c => ?_)
      · walk_at "oh go"
        exact q' none (if_pos (.inl c)) H (Same.refl _)
      walk_at "oh go"
      refine i_ixL hl (atI_lst evz) ?_
      walk_at "oh go"
      rw [kz]
      refine i_dec (fun c2 => ?_) (fun c2 => ?_)
      · walk_at "oh go"
        exact q' none (if_pos (.inr c2)) H (Same.refl _)
      walk_at "oh go"
      intro D hD
      refine lc_FL (S := IntV) (R := LnV) (fun i => ((r.take i).filter fun q => decide (x ≤ q.1)).map (·.2)) hl hI hD rfl ?_ ?_
      · rintro i vx ⟨top, u⟩ H1 acc ei ⟨ax, rfl, hx⟩ X
        have hx1 := X.sm _ _ hx
        have ln : (((r.take i).filter fun q => decide (x ≤ q.1)).map (·.2)).length ≤ 1000000 := by
          rw [List.length_map]
          have h1 := List.length_filter_le (fun q : Int × Int => decide (x ≤ q.1)) (r.take i)
          have h2 := A.len
          rw [List.length_take] at h1
          omega
        walk_at "oh go"
        refine ⟨rfl, ?_⟩
        walk_at "oh go"
        have nx : (((r.take (i + 1)).filter fun q => decide (x ≤ q.1)).map (·.2)) = ((r.take i).filter fun q => decide (x ≤ q.1)).map (·.2) ++ ([(top, u)].filter fun q => decide (x ≤ q.1)).map (·.2) := by
          rw [List.take_add_one, ei, List.filter_append, List.map_append]
          rfl
        refine i_dec (fun c3 => ?_) (fun c3 => ?_)
        · walk_at "oh go"
          refine made_push IntV.mono X rfl ln ?_
          rw [nx, List.filter_cons_of_pos (by simpa using c3)]
          rfl
        · refine ⟨acc, X.is ?_⟩
          rw [nx, List.filter_cons_of_neg (by simpa using c3)]
          exact (List.append_nil _).symm
      · intro H1 acc X
        rw [List.take_length] at X
        obtain ⟨L, e⟩ := bandUnits x r A.ne (by omega)
        rw [e] at X
        have ea := ints_its X.its
        subst ea
        have hD1 := X.at_
        walk_at "oh go"
        refine i_ixL hD1 (v := .int (bandUnit x r)) (atI_nat (j := 0) rfl) ?_
        have su : Sz 130 (bandUnit x r) := by
          have : bandUnit x r ∈ (r.filter fun q => decide (x ≤ q.1)).map (·.2) := by rw [e]; exact List.mem_cons_self
          obtain ⟨o, ho, eo⟩ := List.mem_map.mp this
          rw [← eo]
          exact (A.sz o (List.mem_filter.mp ho).1).2
        walk_at "oh go"
        refine i_I (bg_mul (sx.mono (by decide)) (su.mono (by decide))) ?_
        walk_at "oh go"
        exact q' (some _) (if_neg fun z => z.elim c (by omega)) _ X.sm
    | steps r =>
      obtain ⟨t, l, vs, rfl, ht, hl, hI⟩ := hp
      obtain ⟨z, ez, kz⟩ := lastTop_at r A.ne
      obtain ⟨vz, evz, az, rfl, haz⟩ := hI.last ez
      have len2 := A.len
      walk_at "oh go"
      refine i_dec (fun c => ?_) (fun c => ?_)
      · walk_at "oh go"
        exact q' none (if_pos (.inl c)) H (Same.refl _)
      walk_at "oh go"
      refine i_ixL hl (atI_lst evz) ?_
      walk_at "oh go"
      rw [kz]
      refine i_dec (fun c2 => ?_) (fun c2 => ?_)
      · walk_at "oh go"
        exact q' none (if_pos (.inr c2)) H (Same.refl _)
      walk_at "oh go"
      refine ⟨Nat.le_of_ble_eq_true rfl, fun l0 n0 => ?_⟩
      have s0 := same_new n0 (.lst [.int 0])
      have hl1 := s0 _ _ hl
      have ht1 := s0 _ _ ht
      have hI1 : Its LnV (upd H l0 (.lst [.int 0])) vs r := hI.mono LnV.mono (.of s0)
      have at0 : upd H l0 (.lst [.int 0]) l0 = some (.lst [.int 0]) := upd_same
      generalize upd H l0 (.lst [.int 0]) = H0 at s0 hl1 ht1 hI1 at0
      walk_at "oh go"
      intro D hD
      refine lc_FL (S := IntV) (R := LnV) (fun i => (r.take i).map (·.1)) hl1 hI1 hD rfl ?_ ?_
      · rintro i vx ⟨top, u⟩ H1 acc ei ⟨ax, rfl, hx⟩ X
        have hx1 := X.sm _ _ hx
        have ln : ((r.take i).map (·.1)).length ≤ 1000000 := by
          rw [List.length_map, List.length_take]
          omega
        walk_at "oh go"
        refine ⟨rfl, ?_⟩
        walk_at "oh go"
        exact made_push IntV.mono X rfl ln (take_map ei)
      · intro H1 acc X
        rw [List.take_length] at X
        have ea := ints_its X.its
        subst ea
        have hD1 := X.at_
        have a01 := X.sm _ _ at0
        have hl2 := X.sm _ _ hl1
        have ht2 := X.sm _ _ ht1
        have hI2 : Its LnV H1 vs r := hI1.mono LnV.mono (.of X.sm)
        have s1 := s0.trans X.sm
        walk_at "oh go"
        refine i_catL a01 hD1 (by rw [List.length_map, List.length_map]; show 1 + _ ≤ _; omega) fun k nk => ?_
        have sk := same_new nk (.lst ([V.int 0] ++ (r.map (·.1)).map V.int))
        have hk : upd H1 k (.lst ([V.int 0] ++ (r.map (·.1)).map V.int)) k = some (.lst (((0 : Int) :: r.map (·.1)).map V.int)) := upd_same
        have s2 := s1.trans sk
        have hl3 := sk _ _ hl2
        have ht3 := sk _ _ ht2
        have hI3 : Its LnV (upd H1 k (.lst ([V.int 0] ++ (r.map (·.1)).map V.int))) vs r := hI2.mono LnV.mono (.of sk)
        generalize upd H1 k (.lst ([V.int 0] ++ (r.map (·.1)).map V.int)) = H2 at s2 hl3 ht3 hI3 hk
        walk_at "oh go"
        refine i_rng1 ?_
        walk_at "oh go"
        refine ⟨_, rfl, by have := hI3.len; omega, by have := hI3.len; omega, ?_⟩
        intro D2 hD2
        have vl := hI3.len
        refine lc_FR (S := IntV) (fun i => (stepTerms x 0 r).take i) hD2 rfl ?_ ?_
        · rintro i H3 acc hi X2
          have il : i < r.length := by omega
          obtain ⟨⟨top, u⟩, ei⟩ : ∃ q, r[i]? = some q := ⟨_, List.getElem?_eq_getElem il⟩
          obtain ⟨vx, evx, ax, rfl, hx⟩ := hI3.at ei
          obtain ⟨d, ed⟩ : ∃ d, ((0 : Int) :: r.map (·.1))[i]? = some d := ⟨_, List.getElem?_eq_getElem (by rw [List.length_cons, List.length_map]; omega)⟩
          have et : ((0 : Int) :: r.map (·.1))[i + 1]? = some top := by
            show (r.map (·.1))[i]? = some top
            rw [List.getElem?_map, ei]
            rfl
          have mem : (top, u) ∈ r := List.mem_of_getElem? ei
          have st := (A.sz _ mem).1
          have su := (A.sz _ mem).2
          have sd : Sz 130 d := by
            rcases List.mem_cons.mp (List.mem_of_getElem? ed) with rfl | h
            · exact Sz.zero
            · obtain ⟨o, ho, rfl⟩ := List.mem_map.mp h
              exact (A.sz _ ho).1
          have hx2 := X2.sm _ _ hx
          have hl4 := X2.sm _ _ hl3
          have hk4 := X2.sm _ _ hk
          have ht4 := X2.sm _ _ ht3
          walk_at "oh go"
          refine ⟨rfl, ?_⟩
          walk_at "oh go"
          refine i_ixL hl4 (by rw [Int.zero_add]; exact atI_nat evx) ?_
          walk_at "oh go"
          refine i_ixL hk4 (v := .int top) (by rw [Int.zero_add]; exact atI_nat (j := i + 1) (by rw [List.getElem?_map, et]; rfl)) ?_
          walk_at "oh go"
          refine i_ixL hk4 (v := .int d) (by rw [Int.zero_add]; exact atI_nat (by rw [List.getElem?_map, ed]; rfl)) ?_
          walk_at "oh go"
          have m1 : Sz 201 (mn x top - mn x d) := (sx.mn (st.mono (by decide))).sub (sx.mn (sd.mono (by decide)))
          refine i_I (bg_mul (su.mono (by decide)) (m1.mono (by decide))) ?_
          walk_at "oh go"
          refine made_push IntV.mono X2 rfl (by rw [List.length_take]; omega) ?_
          rw [List.take_add_one, stepTerms_at x r 0 i top u d ei ed]
          rfl
        · intro H3 acc X2
          rw [Int.toNat_natCast, vl, ← stepTerms_len x r 0, List.take_length] at X2
          have ea := ints_its X2.its
          subst ea
          walk_at "oh go"
          refine ⟨D2, _, rfl, SqL.of X2.at_, ?_⟩
          walk_at "oh go"
          rw [stepTerms_sum]
          exact q' (some _) (if_neg fun z => z.elim c (by omega)) _ (s2.trans X2.sm)
    | _ => exact lf.elim
end
end OH
set_option Elab.async false
set_option linter.all false
set_option maxRecDepth 100000
set_option maxHeartbeats 4000000
set_option exponentiation.threshold 10000
namespace OH
open PySem PySem.Spec PyProof.Rows L2
/-- how deep the law goes into a plan -/
def hg : Plan Str → Nat
  | .name _ q => hg q + 1
  | .plus a b => max (hg a) (hg b) + 1
  | .cheap a b => max (hg a) (hg b) + 1
  | .dear a b => max (hg a) (hg b) + 1
  | .only a _ _ => hg a + 1
  | .after a _ => hg a + 1
  | .fee a _ => hg a + 1
  | _ => 0
theorem hg_le : ∀ p : Plan Str, hg p ≤ ops p + nd p := by
  intro p
  induction p with
  | name n q ih => show hg q + 1 ≤ ops q + (nd q + 1); omega
  | plus a b ia ib => show max (hg a) (hg b) + 1 ≤ max (ops a) (ops b) + 1 + max (nd a) (nd b); omega
  | cheap a b ia ib => show max (hg a) (hg b) + 1 ≤ max (ops a) (ops b) + 1 + max (nd a) (nd b); omega
  | dear a b ia ib => show max (hg a) (hg b) + 1 ≤ max (ops a) (ops b) + 1 + max (nd a) (nd b); omega
  | only a _ _ ia => show hg a + 1 ≤ ops a + 1 + nd a; omega
  | after a _ ia => show hg a + 1 ≤ ops a + 1 + nd a; omega
  | fee a _ ia => show hg a + 1 ≤ ops a + 1 + nd a; omega
  | _ => exact Nat.zero_le _
/-- a plan among the law's offers, of less than n deeds one within another -/
structure CostIn (H : Hp) (l : Addr) (us : List V) (B : Bk) (n : Nat) (p : Plan Str) (v : V) : Prop where
  v : PlanV H p v
  ok : PlanOk p
  dir : ∀ d ∈ dirs p, d ∈ B
  hg : hg p < n
  pl : PlIn H l us B
theorem CostIn.same {H H' : Hp} {l : Addr} {us : List V} {B : Bk} {n : Nat} {p : Plan Str} {v : V} (C : CostIn H l us B n p v) (s : Same H H') : CostIn H' l us B n p v := ⟨C.v.same s, C.ok, C.dir, C.hg, C.pl.same s⟩
theorem in_if {i : Int} {A B : Prop} (h : B) : if decide (V.int i = V.non) = true then A else B := by
  rw [decide_eq_false (by intro z; cases z)]
  exact iteF h
theorem in_ifV {i : Int} {α : Type} {a b : α} : (if decide (V.int i = V.non) = true then a else b) = b := by
  rw [decide_eq_false (by intro z; cases z)]
  exact if_neg Bool.false_ne_true
theorem nn_ifV {α : Type} {a b : α} : (if decide (V.non = V.non) = true then a else b) = a := by
  rw [decide_eq_true rfl]
  exact if_pos rfl
section
variable {P : Program} {w : World} {K : PySem.W.Frag} {mg : Str → Option Value} {base : Heap}
/-- a known object: through what has changed since -/
local macro_rules | `(tactic| walk_at "oh hp") => `(tactic| first | assumption | exact upd_same | (refine get_new (by assumption) ?_; walk_at "oh hp") | (refine get_mut (by assumption) ?_ (by intro z; cases z); walk_at "oh hp") | (refine same_get (by assumption) ?_; walk_at "oh hp") | (refine ts_get (by assumption) ?_; walk_at "oh hp") | (refine same_get (LL.sm (by assumption)) ?_; walk_at "oh hp") | exact LL.at_ (by assumption))
local macro_rules | `(tactic| walk_at "oh sc") => `(tactic| exact ⟨rfl, rfl, rfl, by decide +kernel, rfl, by decide +kernel, by decide +kernel⟩)
/-- one step of a reading -/
local macro_rules | `(tactic| walk_at "oh 1") => `(tactic| with_reducible first
  | refine i_var rfl ?_ | refine i_c ?_ | refine i_op ?_ | refine i_I0 ?_ | refine i_cons ?_ | refine i_nil ?_ | refine i_asg ?_ | refine i_name ?_ | refine i_seq ?_ | refine i_ifS ?_ | refine i_test ?_ | refine i_bl ?_ | refine i_call ?_ | refine i_CB ?_
  | refine i_tup ?_ | refine i_lst ?_ | refine i_eqI ?_ | refine i_eqS ?_ | refine i_neI ?_ | refine i_un ?_ | refine i_U ?_ | refine i_ret ?_ | refine i_retN ?_ | refine i_next ?_ | refine i_cont ?_ | refine i_drop ?_ | refine i_B ?_ | refine i_and ?_ | refine i_or ?_ | refine i_not ?_ | refine i_mn ?_ | refine i_mx ?_ | refine i_isN ?_ | refine i_notN ?_ | refine i_bm ?_ | refine i_bm0 ?_ | refine i_rn ?_ | refine i_inon ?_ | refine i_nn ?_ | refine i_rn' ?_ | refine i_nn' ?_ | refine i_gcons ?_ | refine i_gnil ?_ | refine i_orV ?_ | refine i_andV ?_ | refine i_notV ?_ | refine i_chain ?_ | refine i_forL ?_ | refine i_iL ?_ | refine i_iT ?_ | refine i_lc ?_ | refine i_yes ?_ | refine i_sortS ?_ | refine i_lenS ?_ | refine i_slL ?_ | refine i_noP ?_ | refine i_part ?_ | refine i_fld ?_ | refine i_sFld ?_ | refine i_dget ?_ | refine i_meth ?_ | refine i_dnot ?_ | refine i_aug rfl ?_ | refine i_ip ?_ | refine iteT ?_ | refine iteF ?_ | refine i_nT ?_ | refine i_nF ?_)
local macro_rules | `(tactic| walk_at "oh 2") => `(tactic| first | ((with_reducible refine' i_sF ?c ?q); (case c => decide +kernel)) | ((with_reducible refine' i_sT ?c ?q); (case c => decide +kernel)) | ((with_reducible refine' i_atP ?h ?c ?n ?l ?q); (case h => walk_at "oh hp"); (case c => assumption); (case n => assumption); (case l => exact Nat.le_of_ble_eq_true rfl)) | ((with_reducible refine' i_atF ?h ?c ?n ?l ?q); (case h => walk_at "oh hp"); (case c => assumption); (case n => assumption); (case l => rfl)) | ((with_reducible refine' i_ixT ?h ?e ?q); (case h => walk_at "oh hp"); (case e => rfl)) | ((with_reducible refine' i_gtup ?h ?e ?q); (case h => walk_at "oh hp"); (case e => rfl)) | ((with_reducible refine' i_atL ?h ?q); (case h => walk_at "oh hp")) | ((with_reducible refine' i_atT ?h ?q); (case h => walk_at "oh hp")) | ((with_reducible refine' i_tyL ?h ?q); (case h => walk_at "oh hp")) | ((with_reducible refine' i_lnL ?h ?q); (case h => walk_at "oh hp")) | ((with_reducible refine' i_lnT ?h ?q); (case h => walk_at "oh hp")))
local macro_rules | `(tactic| walk_at "oh go") => `(tactic| repeat first | walk_at "oh 1" | walk_at "oh 2")
def sp_law_cost (n : Nat) : Sp := fun vs H Q _ => ∃ (v : V) (p : Plan Str) (x : Int) (l : Addr) (us : List V) (B : Bk), vs = [v, .int x, .ref l] ∧ CostIn H l us B n p v ∧ Sz 200 x ∧ ∀ H', Same H H' → Q (optV (cost p x)) H'
def bothOp (z : Str) : Option Int → Option Int → Option Int := if z = "or" then cheaper else if z = "plus" then both (· + ·) else both mx
def sp_law_both (n : Nat) : Sp := fun vs H Q _ => ∃ (t : Addr) (z : Str) (va vb : V) (a b : Plan Str) (x : Int) (l : Addr) (us : List V) (B : Bk), vs = [.ref t, .int x, .ref l] ∧ H t = some (.tup [.str z, va, vb]) ∧ (z = "or" ∨ z = "plus" ∨ z = "max") ∧ CostIn H l us B n a va ∧ CostIn H l us B n b vb ∧ Sz 200 x ∧
  ∀ H', Same H H' → Q (optV (bothOp z (cost a x) (cost b x))) H'
theorem sc_law_both : FnScope ["plan", "x", "offers", "first", "second"] ["plan", "x", "offers"] (defScope s_law_both) := by walk_at "oh sc"
theorem ok_law_both (T : Pg K mg) {n : Nat} (ih : Ok P w K mg base CX0 (2 + 2 * n) "_law_cost" ["plan", "x", "offers"] (sp_law_cost n)) : Ok P w K mg base CX0 (3 + 2 * n) "_law_both" ["plan", "x", "offers"] (sp_law_both n) := by
  obtain ⟨fd, F⟩ := F_law_both T
  rw [show 3 + 2 * n = (2 + 2 * n) + 1 by omega]
  refine ⟨fd, F.ok sc_law_both (fun vs H Q E h => ?_) (fun cdv A outer s H vs Q E hr h => ?_), F.binds fun _ _ _ _ _ _ us hl => (match us, hl with | [_, _, _], _ => rfl), F.kp, g_law_both T⟩
  · obtain ⟨t, z, va, vb, a, b, x, l, us, B, rfl, _⟩ := h
    rfl
  obtain ⟨t, z, va, vb, a, b, x, l, us, B, rfl, ht, hz, Ca, Cb, sx, q⟩ := h
  have hu := hu_of hr
  refine ⟨_, pss_cons (ps_set (i := 3) sc_law_both.nd rfl (Or.inl rfl) (pe_c0 (hj := Nat.le_refl _) ih hr (pa_cons (pe_ix ix_tup (pv 0) pe_int (fun _ _ => rfl)) (pa_cons (pv 1) (pa_cons (pv 2) pa_nil)))))
      (pss_cons (ps_set (i := 4) sc_law_both.nd rfl (Or.inl rfl) (pe_c0 (hj := Nat.le_refl _) ih hr (pa_cons (pe_ix ix_tup (pv 0) pe_int (fun _ _ => rfl)) (pa_cons (pv 1) (pa_cons (pv 2) pa_nil)))))
      (pss_cons (ps_if (PW.pt (pw_and (pt_cmpR op_eq (pe_ix ix_tup (pv 0) pe_int (fun _ _ => rfl)) pe_str (nomark _)) (pw_and1 (PW.pt (pw_or (pt_cmpR op_isN1 (pv 3) pe_non (nomark _)) (pw_or1 (pt_cmpR op_isN1 (pv 4) pe_non (nomark _))))))))
      (pss_one (ps_ret (pe_ix ix_list (pe_lst (pa_cons (pv 3) (pa_cons (pv 4) pa_nil))) (pe_callTy call_int1 (by rfl) (z_int T) (by decide +kernel) (pa_cons (pe_cmpR op_isN1 (pv 3) pe_non (nomark _)) pa_nil)) (fun _ _ => rfl))))
      pss_nil)
      (pss_cons (ps_if (PW.pt (pw_or (pt_cmpR op_isN1 (pv 3) pe_non (nomark _)) (pw_or1 (pt_cmpR op_isN1 (pv 4) pe_non (nomark _)))))
      (pss_one (ps_ret pe_non))
      pss_nil)
      (pss_cons (ps_if (pt_cmpR op_eq (pe_ix ix_tup (pv 0) pe_int (fun _ _ => rfl)) pe_str (nomark _))
      (pss_one (ps_ret (pe_op op_add (pv 3) (pv 4))))
      pss_nil)
      (pss_cons (ps_if (pt_cmpR op_eq (pe_ix ix_tup (pv 0) pe_int (fun _ _ => rfl)) pe_str (nomark _))
      (pss_one (ps_ret (pe_callB (cr_mn rfl) (by rfl) (z_min T) (by decide +kernel) (pa_cons (pv 3) (pa_cons (pv 4) pa_nil)))))
      pss_nil)
      (pss_one (ps_ret (pe_callB (cr_mx rfl) (by rfl) (z_max T) (by decide +kernel) (pa_cons (pv 3) (pa_cons (pv 4) pa_nil)))))))))), ?_⟩
  walk_at "oh go"
  refine ⟨va, a, x, l, us, B, rfl, Ca, sx, fun H1 s1 => ?_⟩
  have ht1 := s1 _ _ ht
  walk_at "oh go"
  refine ⟨vb, b, x, l, us, B, rfl, Cb.same s1, sx, fun H2 s2 => ?_⟩
  have ht2 := s2 _ _ ht1
  have s3 := s1.trans s2
  cases ea : cost a x with
  | none =>
    cases eb : cost b x with
    | none =>
      rw [ea, eb] at q
      unfold optV
      rcases hz with rfl | rfl | rfl
      · walk_at "oh go"
        refine ⟨Nat.le_of_ble_eq_true rfl, fun k nk => ?_⟩
        walk_at "oh go"
        refine .inr ⟨_, rfl, ?_⟩
        rw [nn_ifV]
        refine i_ixL upd_same rfl ?_
        walk_at "oh go"
        exact q _ (s3.trans (same_new nk _))
      · walk_at "oh go"
        exact q _ s3
      · walk_at "oh go"
        exact q _ s3
    | some j =>
      rw [ea, eb] at q
      unfold optV
      rcases hz with rfl | rfl | rfl
      · walk_at "oh go"
        refine ⟨Nat.le_of_ble_eq_true rfl, fun k nk => ?_⟩
        walk_at "oh go"
        refine .inr ⟨_, rfl, ?_⟩
        rw [nn_ifV]
        refine i_ixL upd_same rfl ?_
        walk_at "oh go"
        exact q _ (s3.trans (same_new nk _))
      · walk_at "oh go"
        exact q _ s3
      · walk_at "oh go"
        exact q _ s3
  | some i =>
    cases eb : cost b x with
    | none =>
      rw [ea, eb] at q
      unfold optV
      rcases hz with rfl | rfl | rfl
      · walk_at "oh go"
        refine ⟨Nat.le_of_ble_eq_true rfl, fun k nk => ?_⟩
        walk_at "oh go"
        refine .inr ⟨_, rfl, ?_⟩
        rw [in_ifV]
        refine i_ixL upd_same rfl ?_
        walk_at "oh go"
        exact q _ (s3.trans (same_new nk _))
      · walk_at "oh go"
        exact q _ s3
      · walk_at "oh go"
        exact q _ s3
    | some j =>
      rw [ea, eb] at q
      unfold optV
      rcases hz with rfl | rfl | rfl
      · walk_at "oh go"
        exact q _ s3
      · walk_at "oh go"
        exact q _ s3
      · walk_at "oh go"
        exact q _ s3
end
end OH
set_option Elab.async false
set_option linter.all false
set_option maxRecDepth 100000
set_option maxHeartbeats 4000000
set_option exponentiation.threshold 10000
namespace OH
open PySem PySem.Spec PyProof.Rows L2
section
variable {P : Program} {w : World} {K : PySem.W.Frag} {mg : Str → Option Value} {base : Heap}
/-- a known object: through what has changed since -/
local macro_rules | `(tactic| walk_at "oh hp") => `(tactic| first | assumption | exact upd_same | (refine get_new (by assumption) ?_; walk_at "oh hp") | (refine get_mut (by assumption) ?_ (by intro z; cases z); walk_at "oh hp") | (refine same_get (by assumption) ?_; walk_at "oh hp") | (refine ts_get (by assumption) ?_; walk_at "oh hp") | (refine same_get (LL.sm (by assumption)) ?_; walk_at "oh hp") | exact LL.at_ (by assumption))
local macro_rules | `(tactic| walk_at "oh sc") => `(tactic| exact ⟨rfl, rfl, rfl, by decide +kernel, rfl, by decide +kernel, by decide +kernel⟩)
/-- one step of a reading -/
local macro_rules | `(tactic| walk_at "oh 1") => `(tactic| with_reducible first
  | refine i_var rfl ?_ | refine i_c ?_ | refine i_op ?_ | refine i_I0 ?_ | refine i_cons ?_ | refine i_nil ?_ | refine i_asg ?_ | refine i_name ?_ | refine i_seq ?_ | refine i_ifS ?_ | refine i_test ?_ | refine i_bl ?_ | refine i_call ?_ | refine i_CB ?_
  | refine i_tup ?_ | refine i_lst ?_ | refine i_eqI ?_ | refine i_eqS ?_ | refine i_neI ?_ | refine i_un ?_ | refine i_U ?_ | refine i_ret ?_ | refine i_retN ?_ | refine i_next ?_ | refine i_cont ?_ | refine i_drop ?_ | refine i_B ?_ | refine i_and ?_ | refine i_or ?_ | refine i_not ?_ | refine i_mn ?_ | refine i_mx ?_ | refine i_isN ?_ | refine i_notN ?_ | refine i_bm ?_ | refine i_bm0 ?_ | refine i_rn ?_ | refine i_inon ?_ | refine i_nn ?_ | refine i_rn' ?_ | refine i_nn' ?_ | refine i_gcons ?_ | refine i_gnil ?_ | refine i_orV ?_ | refine i_andV ?_ | refine i_notV ?_ | refine i_chain ?_ | refine i_forL ?_ | refine i_iL ?_ | refine i_iT ?_ | refine i_lc ?_ | refine i_yes ?_ | refine i_sortS ?_ | refine i_lenS ?_ | refine i_slL ?_ | refine i_noP ?_ | refine i_part ?_ | refine i_fld ?_ | refine i_sFld ?_ | refine i_dget ?_ | refine i_meth ?_ | refine i_dnot ?_ | refine i_aug rfl ?_ | refine i_ip ?_ | refine iteT ?_ | refine iteF ?_ | refine i_nT ?_ | refine i_nF ?_)
local macro_rules | `(tactic| walk_at "oh 2") => `(tactic| first | ((with_reducible refine' i_sF ?c ?q); (case c => decide +kernel)) | ((with_reducible refine' i_sT ?c ?q); (case c => decide +kernel)) | ((with_reducible refine' i_atP ?h ?c ?n ?l ?q); (case h => walk_at "oh hp"); (case c => assumption); (case n => assumption); (case l => exact Nat.le_of_ble_eq_true rfl)) | ((with_reducible refine' i_atF ?h ?c ?n ?l ?q); (case h => walk_at "oh hp"); (case c => assumption); (case n => assumption); (case l => rfl)) | ((with_reducible refine' i_ixT ?h ?e ?q); (case h => walk_at "oh hp"); (case e => rfl)) | ((with_reducible refine' i_gtup ?h ?e ?q); (case h => walk_at "oh hp"); (case e => rfl)) | ((with_reducible refine' i_atL ?h ?q); (case h => walk_at "oh hp")) | ((with_reducible refine' i_atT ?h ?q); (case h => walk_at "oh hp")) | ((with_reducible refine' i_tyL ?h ?q); (case h => walk_at "oh hp")) | ((with_reducible refine' i_lnL ?h ?q); (case h => walk_at "oh hp")) | ((with_reducible refine' i_lnT ?h ?q); (case h => walk_at "oh hp")))
local macro_rules | `(tactic| walk_at "oh go") => `(tactic| repeat first | walk_at "oh 1" | walk_at "oh 2")
theorem sc_law_cost : FnScope ["plan", "x", "offers", "kind", "told"] ["plan", "x", "offers"] (defScope s_law_cost) := by walk_at "oh sc"
theorem ok_law_cost (T : Pg K mg) : ∀ n, Ok P w K mg base CX0 (2 + 2 * n) "_law_cost" ["plan", "x", "offers"] (sp_law_cost n) := by
  intro n
  induction n with
  | zero =>
    obtain ⟨fd, F⟩ := F_law_cost T
    exact ⟨fd, ⟨fun vs H Q E ⟨_, _, _, _, _, _, _, C, _⟩ => absurd C.hg (Nat.not_lt_zero _), fun A outer s H args us vs Q E _ _ _ _ ⟨_, _, _, _, _, _, _, C, _⟩ => absurd C.hg (Nat.not_lt_zero _)⟩, F.binds fun _ _ _ _ _ _ us hl => (match us, hl with | [_, _, _], _ => rfl), F.kp, g_law_cost T⟩
  | succ n ih =>
    obtain ⟨fd, F⟩ := F_law_cost T
    rw [show 2 + 2 * (n + 1) = (3 + 2 * n) + 1 by omega]
    refine ⟨fd, F.ok sc_law_cost (fun vs H Q E h => ?_) (fun cdv A outer s H vs Q E hr h => ?_), F.binds fun _ _ _ _ _ _ us hl => (match us, hl with | [_, _, _], _ => rfl), F.kp, g_law_cost T⟩
    · obtain ⟨v, p, x, l, us, B, rfl, _⟩ := h
      rfl
    obtain ⟨v, p, x, l, us, B, rfl, C, sx, q⟩ := h
    have hu := hu_of hr
    refine ⟨_, pss_cons (ps_set (i := 3) sc_law_cost.nd rfl (Or.inl rfl) (pe_ix ix_tup (pv 0) pe_int (fun _ _ => rfl)))
      (pss_cons (ps_if (pt_cmpR op_eq (pv 3) pe_str (nomark _))
      (pss_one (ps_ret (pe_c0 (hj := by omega) ih hr (pa_cons (pe_c0 (hj := by omega) (ok_law_plan_of T) hr (pa_cons (pv 2) (pa_cons (pe_ix ix_tup (pv 0) pe_int (fun _ _ => rfl)) pa_nil))) (pa_cons (pv 1) (pa_cons (pv 2) pa_nil))))))
      pss_nil)
      (pss_cons (ps_if (PW.pt (pw_or (pt_cmpR op_eq (pv 3) pe_str (nomark _)) (pw_or (pt_cmpR op_eq (pv 3) pe_str (nomark _)) (pw_or1 (pt_cmpR op_eq (pv 3) pe_str (nomark _))))))
      (pss_one (ps_ret (pe_c0 (hj := Nat.le_refl _) (ok_law_both T ih) hr (pa_cons (pv 0) (pa_cons (pv 1) (pa_cons (pv 2) pa_nil))))))
      pss_nil)
      (pss_cons (ps_if (pt_cmpR op_eq (pv 3) pe_str (nomark _))
      (pss_cons (ps_if (PW.pt (pw_or (pt_cmpR op_lt (pv 1) (pe_ix ix_tup (pv 0) pe_int (fun _ _ => rfl)) (nomark _)) (pw_or1 (pt_cmpR op_lt (pe_ix ix_tup (pv 0) pe_int (fun _ _ => rfl)) (pv 1) (nomark _)))))
        (pss_one (ps_ret pe_non))
        pss_nil)
        (pss_one (ps_ret (pe_c0 (hj := by omega) ih hr (pa_cons (pe_ix ix_tup (pv 0) pe_int (fun _ _ => rfl)) (pa_cons (pv 1) (pa_cons (pv 2) pa_nil)))))))
      pss_nil)
      (pss_cons (ps_if (pt_cmpR op_eq (pv 3) pe_str (nomark _))
      (pss_cons (ps_if (pt_cmpR op_lt (pv 1) pe_int (nomark _))
        (pss_one (ps_ret pe_non))
        pss_nil)
        (pss_one (ps_ret (pe_c0 (hj := by omega) ih hr (pa_cons (pe_ix ix_tup (pv 0) pe_int (fun _ _ => rfl)) (pa_cons (pe_callB (cr_mx rfl) (by rfl) (z_max T) (by decide +kernel) (pa_cons pe_int (pa_cons (pe_op op_sub (pv 1) (pe_ix ix_tup (pv 0) pe_int (fun _ _ => rfl))) pa_nil))) (pa_cons (pv 2) pa_nil)))))))
      pss_nil)
      (pss_cons (ps_if (pt_cmpR op_eq (pv 3) pe_str (nomark _))
      (pss_cons (ps_set (i := 4) sc_law_cost.nd rfl (Or.inl rfl) (pe_c0 (hj := by omega) ih hr (pa_cons (pe_ix ix_tup (pv 0) pe_int (fun _ _ => rfl)) (pa_cons (pv 1) (pa_cons (pv 2) pa_nil)))))
        (pss_cons (ps_if (PW.pt (pw_or (pt_cmpR op_isN1 (pv 4) pe_non (nomark _)) (pw_or1 (pt_cmpR op_eq (pv 1) pe_int (nomark _)))))
        (pss_one (ps_ret (pv 4)))
        pss_nil)
        (pss_one (ps_ret (pe_op op_add (pv 4) (pe_ix ix_tup (pv 0) pe_int (fun _ _ => rfl)))))))
      pss_nil)
      (pss_one (ps_ret (pe_c0 (hj := by omega) (ok_law_leaf_cost T) hr (pa_cons (pv 0) (pa_cons (pv 1) pa_nil)))))))))), ?_⟩
    obtain ⟨hp, po, di, hh, pl⟩ := C
    have q' : ∀ o, cost p x = o → ∀ H', Same H H' → Q (optV o) H' := fun o e => e ▸ q
    cases p with
    | each u lo hi =>
      obtain ⟨t, rfl, ht⟩ := id hp
      walk_at "oh go"
      refine ⟨_, _, x, rfl, hp, po, trivial, sx, fun H1 s1 => ?_⟩
      walk_at "oh go"
      exact q _ s1
    | flat u lo hi =>
      obtain ⟨t, rfl, ht⟩ := id hp
      walk_at "oh go"
      refine ⟨_, _, x, rfl, hp, po, trivial, sx, fun H1 s1 => ?_⟩
      walk_at "oh go"
      exact q _ s1
    | blocks u lo hi =>
      obtain ⟨t, rfl, ht⟩ := id hp
      walk_at "oh go"
      refine ⟨_, _, x, rfl, hp, po, trivial, sx, fun H1 s1 => ?_⟩
      walk_at "oh go"
      exact q _ s1
    | bands r =>
      obtain ⟨t, l, vs, rfl, ht, hl, hI⟩ := id hp
      walk_at "oh go"
      refine ⟨_, _, x, rfl, hp, po, trivial, sx, fun H1 s1 => ?_⟩
      walk_at "oh go"
      exact q _ s1
    | steps r =>
      obtain ⟨t, l, vs, rfl, ht, hl, hI⟩ := id hp
      walk_at "oh go"
      refine ⟨_, _, x, rfl, hp, po, trivial, sx, fun H1 s1 => ?_⟩
      walk_at "oh go"
      exact q _ s1
    | name m pp =>
      obtain ⟨t, rfl, ht⟩ := hp
      have inB := di _ List.mem_cons_self
      walk_at "oh go"
      refine ⟨l, us, B, m, pp, rfl, pl, inB, fun v H1 s1 hv => ?_⟩
      walk_at "oh go"
      refine ⟨v, pp, x, l, us, B, rfl, ⟨hv, po, pl.ok.res _ inB, Nat.lt_of_succ_lt_succ hh, pl.same s1⟩, sx, fun H2 s2 => ?_⟩
      walk_at "oh go"
      exact q _ (s1.trans s2)
    | plus a b =>
      obtain ⟨t, va, vb, rfl, ht, ha, hb⟩ := hp
      have da : hg a < n ∧ hg b < n := by
        have : max (hg a) (hg b) + 1 < n + 1 := hh
        omega
      walk_at "oh go"
      refine ⟨t, "plus", va, vb, a, b, x, l, us, B, rfl, ht, .inr (.inl rfl), ⟨ha, po.1, fun d hd => di d (List.mem_append_left _ hd), da.1, pl⟩, ⟨hb, po.2, fun d hd => di d (List.mem_append_right _ hd), da.2, pl⟩, sx, fun H1 s1 => ?_⟩
      walk_at "oh go"
      exact q' (bothOp "plus" _ _) rfl _ s1
    | cheap a b =>
      obtain ⟨t, va, vb, rfl, ht, ha, hb⟩ := hp
      have da : hg a < n ∧ hg b < n := by
        have : max (hg a) (hg b) + 1 < n + 1 := hh
        omega
      walk_at "oh go"
      refine ⟨t, "or", va, vb, a, b, x, l, us, B, rfl, ht, .inl rfl, ⟨ha, po.1, fun d hd => di d (List.mem_append_left _ hd), da.1, pl⟩, ⟨hb, po.2, fun d hd => di d (List.mem_append_right _ hd), da.2, pl⟩, sx, fun H1 s1 => ?_⟩
      walk_at "oh go"
      exact q' (bothOp "or" _ _) rfl _ s1
    | dear a b =>
      obtain ⟨t, va, vb, rfl, ht, ha, hb⟩ := hp
      have da : hg a < n ∧ hg b < n := by
        have : max (hg a) (hg b) + 1 < n + 1 := hh
        omega
      walk_at "oh go"
      refine ⟨t, "max", va, vb, a, b, x, l, us, B, rfl, ht, .inr (.inr rfl), ⟨ha, po.1, fun d hd => di d (List.mem_append_left _ hd), da.1, pl⟩, ⟨hb, po.2, fun d hd => di d (List.mem_append_right _ hd), da.2, pl⟩, sx, fun H1 s1 => ?_⟩
      walk_at "oh go"
      exact q' (bothOp "max" _ _) rfl _ s1
    | only a lo hi =>
      obtain ⟨t, va, rfl, ht, ha⟩ := hp
      walk_at "oh go"
      refine i_dec (fun c => ?_) (fun c => ?_)
      · walk_at "oh go"
        exact q' none (if_pos (.inl c)) H (Same.refl _)
      walk_at "oh go"
      refine i_dec (fun c2 => ?_) (fun c2 => ?_)
      · walk_at "oh go"
        exact q' none (if_pos (.inr c2)) H (Same.refl _)
      walk_at "oh go"
      refine ⟨va, a, x, l, us, B, rfl, ⟨ha, po.1, di, Nat.lt_of_succ_lt_succ hh, pl⟩, sx, fun H1 s1 => ?_⟩
      walk_at "oh go"
      exact q' (cost a x) (if_neg fun z => z.elim c c2) _ s1
    | after a cc =>
      obtain ⟨t, va, rfl, ht, ha⟩ := hp
      have c0 := po.2.1
      walk_at "oh go"
      refine i_dec (fun c => ?_) (fun c => ?_)
      · walk_at "oh go"
        exact q' none (if_pos c) H (Same.refl _)
      walk_at "oh go"
      have sm : Sz 200 (mx 0 (x - cc)) := Sz.btw (i := 0) (k := x) Sz.zero sx (by unfold mx; split <;> omega) (by unfold mx; split <;> omega)
      refine ⟨va, a, mx 0 (x - cc), l, us, B, rfl, ⟨ha, po.1, di, Nat.lt_of_succ_lt_succ hh, pl⟩, sm, fun H1 s1 => ?_⟩
      walk_at "oh go"
      exact q' _ (if_neg c) _ s1
    | fee a cc =>
      obtain ⟨t, va, rfl, ht, ha⟩ := hp
      walk_at "oh go"
      refine ⟨va, a, x, l, us, B, rfl, ⟨ha, po.1, di, Nat.lt_of_succ_lt_succ hh, pl⟩, sx, fun H1 s1 => ?_⟩
      have ht1 := s1 _ _ ht
      walk_at "oh go"
      cases e : cost a x with
      | none =>
        unfold optV
        walk_at "oh go"
        exact q' none (by show (match cost a x with | none => none | some v => _) = none; rw [e]) _ s1
      | some i =>
        unfold optV
        walk_at "oh go"
        refine i_dec (fun c => ?_) (fun c => ?_)
        · walk_at "oh go"
          exact q' (some i) (by show (match cost a x with | none => none | some v => if x = 0 then some v else some (v + cc)) = _; rw [e]; exact if_pos c) _ s1
        · walk_at "oh go"
          exact q' (some (i + cc)) (by show (match cost a x with | none => none | some v => if x = 0 then some v else some (v + cc)) = _; rw [e]; exact if_neg c) _ s1
end
end OH
set_option Elab.async false
set_option linter.all false
set_option maxRecDepth 100000
set_option maxHeartbeats 4000000
set_option exponentiation.threshold 10000
namespace OH
open PySem PySem.Spec PyProof.Rows L2
/-- the ends that the law looks at: few and small -/
structure EndsIn (n : Nat) (es : List Int) : Prop where
  len : es.length + 2 ≤ 5 * 2 ^ n
  sz : ∀ e ∈ es, Sz (130 + n) e
theorem EndsIn.lt {n : Nat} {es : List Int} (h : EndsIn n es) (k : n ≤ 9) : es.length ≤ 3000 := by
  have h1 := h.len
  have h2 : 2 ^ n ≤ 2 ^ 9 := Nat.pow_le_pow_right (by decide) k
  rw [show 2 ^ 9 = 512 from rfl] at h2
  omega
theorem EndsIn.leaf {es : List Int} (h : es.length ≤ 3) (k : ∀ e ∈ es, Sz 130 e) : EndsIn 0 es := ⟨by rw [Nat.pow_zero]; omega, k⟩
theorem EndsIn.two {n m : Nat} {es fs : List Int} (h : EndsIn n es) (k : EndsIn m fs) : EndsIn (max n m + 1) (es ++ fs) := by
  have h1 := h.len
  have h2 := k.len
  have p1 : 2 ^ n ≤ 2 ^ max n m := Nat.pow_le_pow_right (by decide) (Nat.le_max_left _ _)
  have p2 : 2 ^ m ≤ 2 ^ max n m := Nat.pow_le_pow_right (by decide) (Nat.le_max_right _ _)
  refine ⟨?_, fun e he => ?_⟩
  · rw [List.length_append, Nat.pow_succ]
    omega
  · rcases List.mem_append.mp he with z | z
    · exact (h.sz e z).mono (by omega)
    · exact (k.sz e z).mono (by omega)
theorem EndsIn.only {n : Nat} {es : List Int} {a b : Int} (h : EndsIn n es) (ha : Sz 130 a) (hb : Sz 130 b) : EndsIn (n + 1) (es ++ [a, b]) := by
  have h1 := h.len
  have p1 : 1 ≤ 2 ^ n := Nat.one_le_two_pow
  refine ⟨?_, fun e he => ?_⟩
  · rw [List.length_append, Nat.pow_succ]
    show es.length + 2 + 2 ≤ _
    omega
  · rcases List.mem_append.mp he with z | z
    · exact (h.sz e z).mono (by omega)
    · rcases List.mem_cons.mp z with rfl | z
      · exact ha.mono (by omega)
      · rw [List.mem_singleton.mp z]
        exact hb.mono (by omega)
theorem EndsIn.aft {n : Nat} {es : List Int} {c : Int} (h : EndsIn n es) (hc : Sz 130 c) : EndsIn (n + 1) (es ++ [c] ++ es.map (· + c)) := by
  have h1 := h.len
  refine ⟨?_, fun e he => ?_⟩
  · rw [List.length_append, List.length_append, List.length_map, Nat.pow_succ]
    show es.length + 1 + es.length + 2 ≤ _
    omega
  · rcases List.mem_append.mp he with z | z
    · rcases List.mem_append.mp z with z | z
      · exact (h.sz e z).mono (by omega)
      · rw [List.mem_singleton.mp z]
        exact hc.mono (by omega)
    · obtain ⟨x, hx, rfl⟩ := List.mem_map.mp z
      exact (h.sz x hx).add (hc.mono (by omega))
theorem EndsIn.up {n : Nat} {es : List Int} (h : EndsIn n es) : EndsIn (n + 1) es := ⟨by have := h.len; rw [Nat.pow_succ]; omega, fun e he => (h.sz e he).mono (by omega)⟩
section
variable {P : Program} {w : World} {K : PySem.W.Frag} {mg : Str → Option Value} {base : Heap}
/-- a known object: through what has changed since -/
local macro_rules | `(tactic| walk_at "oh hp") => `(tactic| first | assumption | exact upd_same | (refine get_new (by assumption) ?_; walk_at "oh hp") | (refine get_mut (by assumption) ?_ (by intro z; cases z); walk_at "oh hp") | (refine same_get (by assumption) ?_; walk_at "oh hp") | (refine ts_get (by assumption) ?_; walk_at "oh hp") | (refine same_get (LL.sm (by assumption)) ?_; walk_at "oh hp") | exact LL.at_ (by assumption))
local macro_rules | `(tactic| walk_at "oh sc") => `(tactic| exact ⟨rfl, rfl, rfl, by decide +kernel, rfl, by decide +kernel, by decide +kernel⟩)
/-- one step of a reading -/
local macro_rules | `(tactic| walk_at "oh 1") => `(tactic| with_reducible first
  | refine i_var rfl ?_ | refine i_c ?_ | refine i_op ?_ | refine i_I0 ?_ | refine i_cons ?_ | refine i_nil ?_ | refine i_asg ?_ | refine i_name ?_ | refine i_seq ?_ | refine i_ifS ?_ | refine i_test ?_ | refine i_bl ?_ | refine i_call ?_ | refine i_CB ?_
  | refine i_tup ?_ | refine i_lst ?_ | refine i_eqI ?_ | refine i_eqS ?_ | refine i_neI ?_ | refine i_un ?_ | refine i_U ?_ | refine i_ret ?_ | refine i_retN ?_ | refine i_next ?_ | refine i_cont ?_ | refine i_drop ?_ | refine i_B ?_ | refine i_and ?_ | refine i_or ?_ | refine i_not ?_ | refine i_mn ?_ | refine i_mx ?_ | refine i_isN ?_ | refine i_notN ?_ | refine i_bm ?_ | refine i_bm0 ?_ | refine i_rn ?_ | refine i_inon ?_ | refine i_nn ?_ | refine i_rn' ?_ | refine i_nn' ?_ | refine i_gcons ?_ | refine i_gnil ?_ | refine i_orV ?_ | refine i_andV ?_ | refine i_notV ?_ | refine i_chain ?_ | refine i_forL ?_ | refine i_iL ?_ | refine i_iT ?_ | refine i_lc ?_ | refine i_yes ?_ | refine i_sortS ?_ | refine i_lenS ?_ | refine i_slL ?_ | refine i_noP ?_ | refine i_part ?_ | refine i_fld ?_ | refine i_sFld ?_ | refine i_dget ?_ | refine i_meth ?_ | refine i_dnot ?_ | refine i_aug rfl ?_ | refine i_ip ?_ | refine iteT ?_ | refine iteF ?_ | refine i_nT ?_ | refine i_nF ?_)
local macro_rules | `(tactic| walk_at "oh 2") => `(tactic| first | ((with_reducible refine' i_sF ?c ?q); (case c => decide +kernel)) | ((with_reducible refine' i_sT ?c ?q); (case c => decide +kernel)) | ((with_reducible refine' i_atP ?h ?c ?n ?l ?q); (case h => walk_at "oh hp"); (case c => assumption); (case n => assumption); (case l => exact Nat.le_of_ble_eq_true rfl)) | ((with_reducible refine' i_atF ?h ?c ?n ?l ?q); (case h => walk_at "oh hp"); (case c => assumption); (case n => assumption); (case l => rfl)) | ((with_reducible refine' i_ixT ?h ?e ?q); (case h => walk_at "oh hp"); (case e => rfl)) | ((with_reducible refine' i_gtup ?h ?e ?q); (case h => walk_at "oh hp"); (case e => rfl)) | ((with_reducible refine' i_atL ?h ?q); (case h => walk_at "oh hp")) | ((with_reducible refine' i_atT ?h ?q); (case h => walk_at "oh hp")) | ((with_reducible refine' i_tyL ?h ?q); (case h => walk_at "oh hp")) | ((with_reducible refine' i_lnL ?h ?q); (case h => walk_at "oh hp")) | ((with_reducible refine' i_lnT ?h ?q); (case h => walk_at "oh hp")))
local macro_rules | `(tactic| walk_at "oh go") => `(tactic| repeat first | walk_at "oh 1" | walk_at "oh 2")
abbrev RetE (H : Hp) (Q : VK) (n : Nat) : Prop := ∀ (r : Addr) (es : List Int) H', Same H H' → H' r = some (.lst (es.map V.int)) → EndsIn n es → Q (.ref r) H'
def sp_law_ends (n : Nat) : Sp := fun vs H Q _ => ∃ (v : V) (p : Plan Str) (l : Addr) (us : List V) (B : Bk), vs = [v, .ref l] ∧ CostIn H l us B n p v ∧ ops p ≤ 9 ∧ RetE H Q (ops p)
theorem sc_law_ends : FnScope ["plan", "offers", "kind", "told", "row", "x"] ["plan", "offers"] (defScope s_law_ends) := by walk_at "oh sc"
theorem ok_law_ends (T : Pg K mg) : ∀ n, Ok P w K mg base CX0 (2 + n) "_law_ends" ["plan", "offers"] (sp_law_ends n) := by
  intro n
  induction n with
  | zero =>
    obtain ⟨fd, F⟩ := F_law_ends T
    exact ⟨fd, ⟨fun vs H Q E ⟨_, _, _, _, _, _, C, _⟩ => absurd C.hg (Nat.not_lt_zero _), fun A outer s H args us vs Q E _ _ _ _ ⟨_, _, _, _, _, _, C, _⟩ => absurd C.hg (Nat.not_lt_zero _)⟩, F.binds fun _ _ _ _ _ _ us hl => (match us, hl with | [_, _], _ => rfl), F.kp, g_law_ends T⟩
  | succ n ih =>
    obtain ⟨fd, F⟩ := F_law_ends T
    refine ⟨fd, F.ok sc_law_ends (fun vs H Q E h => ?_) (fun cdv A outer s H vs Q E hr h => ?_), F.binds fun _ _ _ _ _ _ us hl => (match us, hl with | [_, _], _ => rfl), F.kp, g_law_ends T⟩
    · obtain ⟨v, p, l, us, B, rfl, _⟩ := h
      rfl
    obtain ⟨v, p, l, us, B, rfl, C, o9, q⟩ := h
    change Room (2 + n) _ at hr
    have hu := hu_of hr
    refine ⟨_, pss_cons (ps_set (i := 2) sc_law_ends.nd rfl (Or.inl rfl) (pe_ix ix_tup (pv 0) pe_int (fun _ _ => rfl)))
      (pss_cons (ps_if (pt_cmpR op_eq (pv 2) pe_str (nomark _))
      (pss_one (ps_ret (pe_c0 (hj := Nat.le_refl _) ih hr (pa_cons (pe_c0 (hj := by omega) (ok_law_plan_of T) hr (pa_cons (pv 1) (pa_cons (pe_ix ix_tup (pv 0) pe_int (fun _ _ => rfl)) pa_nil))) (pa_cons (pv 1) pa_nil)))))
      pss_nil)
      (pss_cons (ps_if (PW.pt (pw_or (pt_cmpR op_eq (pv 2) pe_str (nomark _)) (pw_or1 (pt_cmpR op_eq (pv 2) pe_str (nomark _)))))
      (pss_one (ps_ret (pe_lst (pa_cons (pe_ix ix_tup (pv 0) pe_int (fun _ _ => rfl)) (pa_cons (pe_ix ix_tup (pv 0) pe_int (fun _ _ => rfl)) pa_nil)))))
      pss_nil)
      (pss_cons (ps_if (pt_cmpR op_eq (pv 2) pe_str (nomark _))
      (pss_one (ps_ret (pe_lst (pa_cons pe_int (pa_cons (pe_ix ix_tup (pv 0) pe_int (fun _ _ => rfl)) (pa_cons (pe_op op_mulW (pe_ix ix_tup (pv 0) pe_int (fun _ _ => rfl)) (pe_ix ix_tup (pv 0) pe_int (fun _ _ => rfl))) pa_nil))))))
      pss_nil)
      (pss_cons (ps_if (PW.pt (pw_or (pt_cmpR op_eq (pv 2) pe_str (nomark _)) (pw_or1 (pt_cmpR op_eq (pv 2) pe_str (nomark _)))))
      (pss_one (ps_ret (pe_op op_cat (pe_lst (pa_cons pe_int pa_nil)) (pe_lc (own := [("row", 4)]) (g := gName 4) rfl sc_law_ends.nd (pi_list (pe_ix ix_tup (pv 0) pe_int (fun _ _ => rfl))) (blkOk_by (own := [("row", 4)]) (N := ["plan", "offers", "kind", "told", "row", "x"]) (sc := defScope s_law_ends) (by decide +kernel)) (fun _ _ _ _ _ => pg_name (i := 4) sc_law_ends.nd rfl (Or.inl rfl)) (fun _ _ _ _ _ => pts_nil) (fun _ _ _ _ _ => (pe_ix (ixT K) (pv 4) pe_int (fun _ _ => rfl)))))))
      pss_nil)
      (pss_cons (ps_set (i := 3) sc_law_ends.nd rfl (Or.inl rfl) (pe_c0 (hj := Nat.le_refl _) ih hr (pa_cons (pe_ix ix_tup (pv 0) pe_int (fun _ _ => rfl)) (pa_cons (pv 1) pa_nil))))
      (pss_cons (ps_if (PW.pt (pw_or (pt_cmpR op_eq (pv 2) pe_str (nomark _)) (pw_or (pt_cmpR op_eq (pv 2) pe_str (nomark _)) (pw_or1 (pt_cmpR op_eq (pv 2) pe_str (nomark _))))))
      (pss_one (ps_set (i := 3) sc_law_ends.nd rfl (Or.inl rfl) (pe_op op_cat (pv 3) (pe_c0 (hj := Nat.le_refl _) ih hr (pa_cons (pe_ix ix_tup (pv 0) pe_int (fun _ _ => rfl)) (pa_cons (pv 1) pa_nil))))))
      pss_nil)
      (pss_cons (ps_if (pt_cmpR op_eq (pv 2) pe_str (nomark _))
      (pss_one (ps_set (i := 3) sc_law_ends.nd rfl (Or.inl rfl) (pe_op op_cat (pv 3) (pe_lst (pa_cons (pe_ix ix_tup (pv 0) pe_int (fun _ _ => rfl)) (pa_cons (pe_ix ix_tup (pv 0) pe_int (fun _ _ => rfl)) pa_nil))))))
      pss_nil)
      (pss_cons (ps_if (pt_cmpR op_eq (pv 2) pe_str (nomark _))
      (pss_one (ps_set (i := 3) sc_law_ends.nd rfl (Or.inl rfl) (pe_op op_cat (pe_op op_cat (pv 3) (pe_lst (pa_cons (pe_ix ix_tup (pv 0) pe_int (fun _ _ => rfl)) pa_nil))) (pe_lc (own := [("x", 5)]) (g := gName 5) rfl sc_law_ends.nd (pi_list (pv 3)) (blkOk_by (own := [("x", 5)]) (N := ["plan", "offers", "kind", "told", "row", "x"]) (sc := defScope s_law_ends) (by decide +kernel)) (fun _ _ _ _ _ => pg_name (i := 5) sc_law_ends.nd rfl (Or.inl rfl)) (fun _ _ _ _ _ => pts_nil) (fun _ _ _ _ _ => (pe_op op_add (pv 5) (pe_ix (ixT K) (pv 0) pe_int (fun _ _ => rfl))))))))
      pss_nil)
      (pss_one (ps_ret (pv 3))))))))))), ?_⟩
    obtain ⟨hp, po, di, hh, pl⟩ := C
    cases p with
    | each u lo hi =>
      obtain ⟨t, rfl, ht⟩ := hp
      walk_at "oh go"
      refine ⟨Nat.le_of_ble_eq_true rfl, fun k nk => ?_⟩
      walk_at "oh go"
      refine q k [lo, hi] _ (same_new nk _) upd_same (EndsIn.leaf (Nat.le_of_ble_eq_true rfl) fun e he => ?_)
      rcases List.mem_cons.mp he with rfl | he
      · exact po.2.2.1
      · rw [List.mem_singleton.mp he]
        exact po.2.2.2
    | flat u lo hi =>
      obtain ⟨t, rfl, ht⟩ := hp
      walk_at "oh go"
      refine ⟨Nat.le_of_ble_eq_true rfl, fun k nk => ?_⟩
      walk_at "oh go"
      refine q k [lo, hi] _ (same_new nk _) upd_same (EndsIn.leaf (Nat.le_of_ble_eq_true rfl) fun e he => ?_)
      rcases List.mem_cons.mp he with rfl | he
      · exact po.2.2.1
      · rw [List.mem_singleton.mp he]
        exact po.2.2.2
    | blocks size pr many =>
      obtain ⟨t, rfl, ht⟩ := hp
      obtain ⟨z1, z2, z3, ss, sp⟩ := po
      have sm : Sz 2 many := by unfold Sz; omega
      walk_at "oh go"
      refine i_I (bg_mul (ss.mono (by decide)) (sm.mono (by decide))) ?_
      walk_at "oh go"
      refine ⟨Nat.le_of_ble_eq_true rfl, fun k nk => ?_⟩
      walk_at "oh go"
      refine q k [0, size, size * many] _ (same_new nk _) upd_same (EndsIn.leaf (Nat.le_of_ble_eq_true rfl) fun e he => ?_)
      rcases List.mem_cons.mp he with rfl | he
      · exact Sz.zero
      rcases List.mem_cons.mp he with rfl | he
      · exact ss.mono (by decide)
      · rw [List.mem_singleton.mp he]
        exact ss.mul sm
    | bands r =>
      obtain ⟨t, lr, vs, rfl, ht, hl, hI⟩ := hp
      have A : RowsOk r := po
      have len2 := A.len
      walk_at "oh go"
      refine ⟨Nat.le_of_ble_eq_true rfl, fun l0 n0 => ?_⟩
      have s0 := same_new n0 (.lst [.int 0])
      have hl1 := s0 _ _ hl
      have ht1 := s0 _ _ ht
      have hI1 : Its LnV (upd H l0 (.lst [.int 0])) vs r := hI.mono LnV.mono (.of s0)
      have at0 : upd H l0 (.lst [.int 0]) l0 = some (.lst [.int 0]) := upd_same
      generalize upd H l0 (.lst [.int 0]) = H0 at s0 hl1 ht1 hI1 at0
      walk_at "oh go"
      intro D hD
      refine lc_FL (S := IntV) (R := LnV) (fun i => (r.take i).map (·.1)) hl1 hI1 hD rfl ?_ ?_
      · rintro i vx ⟨top, u⟩ H1 acc ei ⟨ax, rfl, hx⟩ X
        have hx1 := X.sm _ _ hx
        have ln : ((r.take i).map (·.1)).length ≤ 1000000 := by
          rw [List.length_map, List.length_take]
          omega
        walk_at "oh go"
        refine ⟨rfl, ?_⟩
        walk_at "oh go"
        exact made_push IntV.mono X rfl ln (take_map ei)
      · intro H1 acc X
        rw [List.take_length] at X
        have ea := ints_its X.its
        subst ea
        have hD1 := X.at_
        have a01 := X.sm _ _ at0
        walk_at "oh go"
        refine i_catL a01 hD1 (by rw [List.length_map, List.length_map]; show 1 + _ ≤ _; omega) fun k nk => ?_
        walk_at "oh go"
        refine q k ((0 : Int) :: r.map (·.1)) _ ((s0.trans X.sm).trans (same_new nk _)) upd_same (EndsIn.leaf (by rw [List.length_cons, List.length_map]; omega) fun e he => ?_)
        rcases List.mem_cons.mp he with rfl | he
        · exact Sz.zero
        · obtain ⟨o, ho, rfl⟩ := List.mem_map.mp he
          exact (A.sz o ho).1
    | steps r =>
      obtain ⟨t, lr, vs, rfl, ht, hl, hI⟩ := hp
      have A : RowsOk r := po
      have len2 := A.len
      walk_at "oh go"
      refine ⟨Nat.le_of_ble_eq_true rfl, fun l0 n0 => ?_⟩
      have s0 := same_new n0 (.lst [.int 0])
      have hl1 := s0 _ _ hl
      have ht1 := s0 _ _ ht
      have hI1 : Its LnV (upd H l0 (.lst [.int 0])) vs r := hI.mono LnV.mono (.of s0)
      have at0 : upd H l0 (.lst [.int 0]) l0 = some (.lst [.int 0]) := upd_same
      generalize upd H l0 (.lst [.int 0]) = H0 at s0 hl1 ht1 hI1 at0
      walk_at "oh go"
      intro D hD
      refine lc_FL (S := IntV) (R := LnV) (fun i => (r.take i).map (·.1)) hl1 hI1 hD rfl ?_ ?_
      · rintro i vx ⟨top, u⟩ H1 acc ei ⟨ax, rfl, hx⟩ X
        have hx1 := X.sm _ _ hx
        have ln : ((r.take i).map (·.1)).length ≤ 1000000 := by
          rw [List.length_map, List.length_take]
          omega
        walk_at "oh go"
        refine ⟨rfl, ?_⟩
        walk_at "oh go"
        exact made_push IntV.mono X rfl ln (take_map ei)
      · intro H1 acc X
        rw [List.take_length] at X
        have ea := ints_its X.its
        subst ea
        have hD1 := X.at_
        have a01 := X.sm _ _ at0
        walk_at "oh go"
        refine i_catL a01 hD1 (by rw [List.length_map, List.length_map]; show 1 + _ ≤ _; omega) fun k nk => ?_
        walk_at "oh go"
        refine q k ((0 : Int) :: r.map (·.1)) _ ((s0.trans X.sm).trans (same_new nk _)) upd_same (EndsIn.leaf (by rw [List.length_cons, List.length_map]; omega) fun e he => ?_)
        rcases List.mem_cons.mp he with rfl | he
        · exact Sz.zero
        · obtain ⟨o, ho, rfl⟩ := List.mem_map.mp he
          exact (A.sz o ho).1
    | name m pp =>
      obtain ⟨t, rfl, ht⟩ := hp
      have inB := di _ List.mem_cons_self
      walk_at "oh go"
      refine ⟨l, us, B, m, pp, rfl, pl, inB, fun v H1 s1 hv => ?_⟩
      walk_at "oh go"
      refine ⟨v, pp, l, us, B, rfl, ⟨hv, po, pl.ok.res _ inB, Nat.lt_of_succ_lt_succ hh, pl.same s1⟩, o9, fun r es H2 s2 hr2 E2 => ?_⟩
      walk_at "oh go"
      exact q r es H2 (s1.trans s2) hr2 E2
    | plus a b =>
      obtain ⟨t, va, vb, rfl, ht, ha, hb⟩ := hp
      have da : hg a < n ∧ hg b < n := by
        have : max (hg a) (hg b) + 1 < n + 1 := hh
        omega
      have oa : ops a ≤ 9 ∧ ops b ≤ 9 := by
        have : max (ops a) (ops b) + 1 ≤ 9 := o9
        omega
      walk_at "oh go"
      refine ⟨va, a, l, us, B, rfl, ⟨ha, po.1, fun d hd => di d (List.mem_append_left _ hd), da.1, pl⟩, oa.1, fun r1 es1 H1 s1 h1 E1 => ?_⟩
      have ht1 := s1 _ _ ht
      walk_at "oh go"
      refine ⟨vb, b, l, us, B, rfl, ⟨hb.same s1, po.2, fun d hd => di d (List.mem_append_right _ hd), da.2, pl.same s1⟩, oa.2, fun r2 es2 H2 s2 h2 E2 => ?_⟩
      have h12 := s2 _ _ h1
      walk_at "oh go"
      refine i_catL h12 h2 (by rw [List.length_map, List.length_map]; have := E1.lt oa.1; have := E2.lt oa.2; omega) fun k nk => ?_
      walk_at "oh go"
      refine q k (es1 ++ es2) _ ((s1.trans s2).trans (same_new nk _)) (by rw [List.map_append]; exact upd_same) (E1.two E2)
    | cheap a b =>
      obtain ⟨t, va, vb, rfl, ht, ha, hb⟩ := hp
      have da : hg a < n ∧ hg b < n := by
        have : max (hg a) (hg b) + 1 < n + 1 := hh
        omega
      have oa : ops a ≤ 9 ∧ ops b ≤ 9 := by
        have : max (ops a) (ops b) + 1 ≤ 9 := o9
        omega
      walk_at "oh go"
      refine ⟨va, a, l, us, B, rfl, ⟨ha, po.1, fun d hd => di d (List.mem_append_left _ hd), da.1, pl⟩, oa.1, fun r1 es1 H1 s1 h1 E1 => ?_⟩
      have ht1 := s1 _ _ ht
      walk_at "oh go"
      refine ⟨vb, b, l, us, B, rfl, ⟨hb.same s1, po.2, fun d hd => di d (List.mem_append_right _ hd), da.2, pl.same s1⟩, oa.2, fun r2 es2 H2 s2 h2 E2 => ?_⟩
      have h12 := s2 _ _ h1
      walk_at "oh go"
      refine i_catL h12 h2 (by rw [List.length_map, List.length_map]; have := E1.lt oa.1; have := E2.lt oa.2; omega) fun k nk => ?_
      walk_at "oh go"
      refine q k (es1 ++ es2) _ ((s1.trans s2).trans (same_new nk _)) (by rw [List.map_append]; exact upd_same) (E1.two E2)
    | dear a b =>
      obtain ⟨t, va, vb, rfl, ht, ha, hb⟩ := hp
      have da : hg a < n ∧ hg b < n := by
        have : max (hg a) (hg b) + 1 < n + 1 := hh
        omega
      have oa : ops a ≤ 9 ∧ ops b ≤ 9 := by
        have : max (ops a) (ops b) + 1 ≤ 9 := o9
        omega
      walk_at "oh go"
      refine ⟨va, a, l, us, B, rfl, ⟨ha, po.1, fun d hd => di d (List.mem_append_left _ hd), da.1, pl⟩, oa.1, fun r1 es1 H1 s1 h1 E1 => ?_⟩
      have ht1 := s1 _ _ ht
      walk_at "oh go"
      refine ⟨vb, b, l, us, B, rfl, ⟨hb.same s1, po.2, fun d hd => di d (List.mem_append_right _ hd), da.2, pl.same s1⟩, oa.2, fun r2 es2 H2 s2 h2 E2 => ?_⟩
      have h12 := s2 _ _ h1
      walk_at "oh go"
      refine i_catL h12 h2 (by rw [List.length_map, List.length_map]; have := E1.lt oa.1; have := E2.lt oa.2; omega) fun k nk => ?_
      walk_at "oh go"
      refine q k (es1 ++ es2) _ ((s1.trans s2).trans (same_new nk _)) (by rw [List.map_append]; exact upd_same) (E1.two E2)
    | only a lo hi =>
      obtain ⟨t, va, rfl, ht, ha⟩ := hp
      have oa : ops a ≤ 9 := by
        have : ops a + 1 ≤ 9 := o9
        omega
      walk_at "oh go"
      refine ⟨va, a, l, us, B, rfl, ⟨ha, po.1, di, Nat.lt_of_succ_lt_succ hh, pl⟩, oa, fun r1 es1 H1 s1 h1 E1 => ?_⟩
      have ht1 := s1 _ _ ht
      walk_at "oh go"
      refine ⟨Nat.le_of_ble_eq_true rfl, fun k nk => ?_⟩
      have sk := same_new nk (.lst [.int lo, .int hi])
      refine i_catL (sk _ _ h1) upd_same (by rw [List.length_map]; have := E1.lt oa; show _ + 2 ≤ _; omega) fun k2 nk2 => ?_
      walk_at "oh go"
      exact q k2 (es1 ++ [lo, hi]) _ ((s1.trans sk).trans (same_new nk2 _)) (by rw [List.map_append]; exact upd_same) (E1.only po.2.2.1 po.2.2.2)
    | after a cc =>
      obtain ⟨t, va, rfl, ht, ha⟩ := hp
      have oa : ops a ≤ 9 := by
        have : ops a + 1 ≤ 9 := o9
        omega
      walk_at "oh go"
      refine ⟨va, a, l, us, B, rfl, ⟨ha, po.1, di, Nat.lt_of_succ_lt_succ hh, pl⟩, oa, fun r1 es1 H1 s1 h1 E1 => ?_⟩
      have ht1 := s1 _ _ ht
      walk_at "oh go"
      refine ⟨Nat.le_of_ble_eq_true rfl, fun k nk => ?_⟩
      have sk := same_new nk (.lst [.int cc])
      have l1 := E1.lt oa
      refine i_catL (sk _ _ h1) upd_same (by rw [List.length_map]; show _ + 1 ≤ _; omega) fun k2 nk2 => ?_
      have sk2 := same_new nk2 (.lst (es1.map V.int ++ [V.int cc]))
      have s3 := sk.trans sk2
      have s4 := s1.trans s3
      have h12 := s3 _ _ h1
      have ht2 := s3 _ _ ht1
      have hk2 : upd (upd H1 k (.lst [.int cc])) k2 (.lst (es1.map V.int ++ [V.int cc])) k2 = some (.lst ((es1 ++ [cc]).map V.int)) := by
        rw [List.map_append]
        exact upd_same
      generalize upd (upd H1 k (.lst [.int cc])) k2 (.lst (es1.map V.int ++ [V.int cc])) = H2 at s4 h12 ht2 hk2
      walk_at "oh go"
      intro D hD
      refine lc_FL (S := IntV) (R := IntV) (fun i => (es1.take i).map (· + cc)) h12 (its_ints es1) hD rfl ?_ ?_
      · rintro i vx x H3 acc ei hx X
        obtain rfl : vx = .int x := hx
        have ht3 := X.sm _ _ ht2
        walk_at "oh go"
        refine ⟨rfl, ?_⟩
        walk_at "oh go"
        exact made_push IntV.mono X rfl (by rw [List.length_map, List.length_take]; omega) (take_map ei)
      · intro H3 acc X
        rw [List.take_length] at X
        have ea := ints_its X.its
        subst ea
        have hD3 := X.at_
        have hk3 := X.sm _ _ hk2
        walk_at "oh go"
        refine i_catL hk3 hD3 (by rw [List.length_map, List.length_map, List.length_map, List.length_append]; show _ + 1 + _ ≤ _; omega) fun k3 nk3 => ?_
        walk_at "oh go"
        exact q k3 (es1 ++ [cc] ++ es1.map (· + cc)) _ ((s4.trans X.sm).trans (same_new nk3 _)) (by rw [List.map_append (l₁ := es1 ++ [cc])]; exact upd_same) (E1.aft po.2.2)
    | fee a cc =>
      obtain ⟨t, va, rfl, ht, ha⟩ := hp
      have oa : ops a ≤ 9 := by
        have : ops a + 1 ≤ 9 := o9
        omega
      walk_at "oh go"
      refine ⟨va, a, l, us, B, rfl, ⟨ha, po.1, di, Nat.lt_of_succ_lt_succ hh, pl⟩, oa, fun r1 es1 H1 s1 h1 E1 => ?_⟩
      have ht1 := s1 _ _ ht
      walk_at "oh go"
      exact q r1 es1 H1 s1 h1 E1.up
end
end OH
set_option Elab.async false
set_option linter.all false
set_option maxRecDepth 100000
set_option maxHeartbeats 4000000
set_option exponentiation.threshold 10000
namespace OH
open PySem PySem.Spec PyProof.Rows L2
section
variable {P : Program} {w : World} {K : PySem.W.Frag} {mg : Str → Option Value} {base : Heap}
/-- a known object: through what has changed since -/
local macro_rules | `(tactic| walk_at "oh hp") => `(tactic| first | assumption | exact upd_same | (refine get_new (by assumption) ?_; walk_at "oh hp") | (refine get_mut (by assumption) ?_ (by intro z; cases z); walk_at "oh hp") | (refine same_get (by assumption) ?_; walk_at "oh hp") | (refine ts_get (by assumption) ?_; walk_at "oh hp") | (refine same_get (LL.sm (by assumption)) ?_; walk_at "oh hp") | exact LL.at_ (by assumption))
local macro_rules | `(tactic| walk_at "oh sc") => `(tactic| exact ⟨rfl, rfl, rfl, by decide +kernel, rfl, by decide +kernel, by decide +kernel⟩)
/-- one step of a reading -/
local macro_rules | `(tactic| walk_at "oh 1") => `(tactic| with_reducible first
  | refine i_var rfl ?_ | refine i_c ?_ | refine i_op ?_ | refine i_I0 ?_ | refine i_cons ?_ | refine i_nil ?_ | refine i_asg ?_ | refine i_name ?_ | refine i_seq ?_ | refine i_ifS ?_ | refine i_test ?_ | refine i_bl ?_ | refine i_call ?_ | refine i_CB ?_
  | refine i_tup ?_ | refine i_lst ?_ | refine i_eqI ?_ | refine i_eqS ?_ | refine i_neI ?_ | refine i_un ?_ | refine i_U ?_ | refine i_ret ?_ | refine i_retN ?_ | refine i_next ?_ | refine i_cont ?_ | refine i_drop ?_ | refine i_B ?_ | refine i_and ?_ | refine i_or ?_ | refine i_not ?_ | refine i_mn ?_ | refine i_mx ?_ | refine i_isN ?_ | refine i_notN ?_ | refine i_bm ?_ | refine i_bm0 ?_ | refine i_rn ?_ | refine i_inon ?_ | refine i_nn ?_ | refine i_rn' ?_ | refine i_nn' ?_ | refine i_gcons ?_ | refine i_gnil ?_ | refine i_orV ?_ | refine i_andV ?_ | refine i_notV ?_ | refine i_chain ?_ | refine i_forL ?_ | refine i_iL ?_ | refine i_iT ?_ | refine i_lc ?_ | refine i_yes ?_ | refine i_sortS ?_ | refine i_lenS ?_ | refine i_slL ?_ | refine i_noP ?_ | refine i_part ?_ | refine i_fld ?_ | refine i_sFld ?_ | refine i_dget ?_ | refine i_meth ?_ | refine i_dnot ?_ | refine i_aug rfl ?_ | refine i_ip ?_ | refine iteT ?_ | refine iteF ?_ | refine i_nT ?_ | refine i_nF ?_)
local macro_rules | `(tactic| walk_at "oh 2") => `(tactic| first | ((with_reducible refine' i_sF ?c ?q); (case c => decide +kernel)) | ((with_reducible refine' i_sT ?c ?q); (case c => decide +kernel)) | ((with_reducible refine' i_atP ?h ?c ?n ?l ?q); (case h => walk_at "oh hp"); (case c => assumption); (case n => assumption); (case l => exact Nat.le_of_ble_eq_true rfl)) | ((with_reducible refine' i_atF ?h ?c ?n ?l ?q); (case h => walk_at "oh hp"); (case c => assumption); (case n => assumption); (case l => rfl)) | ((with_reducible refine' i_ixT ?h ?e ?q); (case h => walk_at "oh hp"); (case e => rfl)) | ((with_reducible refine' i_gtup ?h ?e ?q); (case h => walk_at "oh hp"); (case e => rfl)) | ((with_reducible refine' i_atL ?h ?q); (case h => walk_at "oh hp")) | ((with_reducible refine' i_atT ?h ?q); (case h => walk_at "oh hp")) | ((with_reducible refine' i_tyL ?h ?q); (case h => walk_at "oh hp")) | ((with_reducible refine' i_lnL ?h ?q); (case h => walk_at "oh hp")) | ((with_reducible refine' i_lnT ?h ?q); (case h => walk_at "oh hp")))
local macro_rules | `(tactic| walk_at "oh go") => `(tactic| repeat first | walk_at "oh 1" | walk_at "oh 2")
def sp_law_amounts (n : Nat) : Sp := fun vs H Q _ => ∃ (v : V) (p : Plan Str) (l c : Addr) (us : List V) (B : Bk) (cs : List Int) (scale : Int), vs = [v, .ref l, .ref c, .int scale] ∧ CostIn H l us B n p v ∧ ops p ≤ 9 ∧ H c = some (.lst (cs.map V.int)) ∧ cs.length ≤ 12 ∧ ScaleIn scale ∧
  ∀ (r : Addr) (xs : List Int) H', H r = none → Same H H' → H' r = some (.lst (xs.map V.int)) → xs.length ≤ 100 → (∀ x ∈ xs, Sz 150 x) → Q (.ref r) H'
theorem sc_law_amounts : FnScope ["plan", "offers", "cells", "scale", "told", "x", "cell"] ["plan", "offers", "cells", "scale"] (defScope s_law_amounts) := by walk_at "oh sc"
theorem ok_law_amounts (T : Pg K mg) (n : Nat) : Ok P w K mg base CX0 (3 + n) "_law_amounts" ["plan", "offers", "cells", "scale"] (sp_law_amounts n) := by
  obtain ⟨fd, F⟩ := F_law_amounts T
  rw [show 3 + n = (2 + n) + 1 by omega]
  refine ⟨fd, F.ok sc_law_amounts (fun vs H Q E h => ?_) (fun cdv A outer s H vs Q E hr h => ?_), F.binds fun _ _ _ _ _ _ us hl => (match us, hl with | [_, _, _, _], _ => rfl), F.kp, g_law_amounts T⟩
  · obtain ⟨v, p, l, c, us, B, cs, scale, rfl, _⟩ := h
    rfl
  obtain ⟨v, p, l, c, us, B, cs, scale, rfl, C, o9, hc, c12, S, q⟩ := h
  have hu := hu_of hr
  have S1 := S.one
  have S2 := S.most
  refine ⟨_, pss_cons (ps_set (i := 4) sc_law_amounts.nd rfl (Or.inl rfl) (pe_lst (pa_cons (pe_un un_neg pe_int) (pa_cons pe_int (pa_cons pe_int pa_nil)))))
      (pss_cons (ps_for PassesOwn.never rfl (pi_list (pe_slice sl_list (pe_sortSetA (kdI P w) rfl rfl rfl (by rfl) (z_sorted T) (by rfl) (z_set T) (pe_c0 (hj := Nat.le_refl _) (ok_law_ends T n) hr (pa_cons (pv 0) (pa_cons (pv 1) pa_nil)))) po_none (po_some pe_int))) (pg_name (i := 5) sc_law_amounts.nd rfl (Or.inl rfl))
      (pss_one (ps_expr (pe_bm PySem.F.plainAttrs_list PySem.F.slot_list_extend PySem.F.type_list_extend mt_extend (pv 4) (pa_cons (pe_lst (pa_cons (pe_op op_sub (pv 5) pe_int) (pa_cons (pv 5) (pa_cons (pe_op op_add (pv 5) pe_int) pa_nil)))) pa_nil)))))
      (pss_cons (ps_for PassesOwn.never rfl (pi_list (pv 2)) (pg_name (i := 6) sc_law_amounts.nd rfl (Or.inl rfl))
      (pss_one (ps_expr (pe_bm PySem.F.plainAttrs_list PySem.F.slot_list_append PySem.F.type_list_append mt_append (pv 4) (pa_cons (pe_op op_sub (pe_op op_mod (pv 6) (pe_op op_mulW pe_int (pv 3))) (pe_op op_fdivW (pv 3) pe_int)) pa_nil)))))
      (pss_one (ps_ret (pv 4))))), ?_⟩
  walk_at "oh go"
  refine ⟨Nat.le_of_ble_eq_true rfl, fun lt nt => ?_⟩
  walk_at "oh go"
  have s0 := same_new nt (.lst [.int (-1), .int 0, .int 1])
  refine ⟨v, p, l, us, B, rfl, C.same s0, o9, fun r es H1 s1 h1 E1 => ?_⟩
  walk_at "oh go"
  refine ⟨r, es, rfl, SqL.of h1, by have := E1.lt o9; omega, fun ys l3 nd mem od n3 => ?_⟩
  have s2 := same_new n3 (.lst (ys.map (kdI P w).vv))
  have ht : H1 lt = some (.lst (([-1, 0, 1] : List Int).map V.int)) := s1 _ _ upd_same
  have hs : upd H1 l3 (.lst (ys.map (kdI P w).vv)) l3 = some (.lst (ys.map V.int)) := upd_same
  have ht2 := s2 _ _ ht
  have sm0 := s0.trans (s1.trans s2)
  generalize upd H1 l3 (.lst (ys.map (kdI P w).vv)) = H2 at s2 hs ht2 sm0
  walk_at "oh go"
  refine i_intK ?_
  refine ⟨l3, _, rfl, SqL.of hs, fun l4 n4 => ?_⟩
  rw [show cutV (ys.map V.int) none (some 10) = (ys.take 10).map V.int from by
    rw [show (10 : Int) = ((10 : Nat) : Int) from rfl, cut_take, List.map_take]]
  have y10 : (ys.take 10).length ≤ 10 := by rw [List.length_take]; omega
  have ysz : ∀ y ∈ ys.take 10, Sz 140 y := fun y hy => (E1.sz y ((mem y).mp (List.mem_of_mem_take hy))).mono (by omega)
  have s4 := same_new n4 (.lst ((ys.take 10).map V.int))
  have h4 : upd H2 l4 (.lst ((ys.take 10).map V.int)) l4 = some (.lst ((ys.take 10).map V.int)) := upd_same
  have nt4 := s4 _ _ ht2
  have sm4 := sm0.trans s4
  have hc4 := sm4 _ _ hc
  generalize ys.take 10 = zs at y10 ysz h4 s4 nt4 sm4 hc4 ⊢
  generalize upd H2 l4 (.lst (zs.map V.int)) = H4 at h4 s4 nt4 sm4 hc4 ⊢
  walk_at "oh go"
  have X0 : LL IntV H lt H4 (([-1, 0, 1] : List Int).map V.int) [-1, 0, 1] := ⟨nt4, its_ints _, sm4, nt⟩
  have l4n : l4 ≠ lt := fun z => by
    rw [z] at n4
    rw [n4] at ht2
    cases ht2
  have cn : c ≠ lt := ne_of_none hc nt
  refine for_left (H0 := H) (its_ints zs) (fun rest σ H' => ∃ acc L o5, σ = [some v, some (.ref l), some (.ref c), some (.int scale), some (.ref lt), o5, none] ∧ LL IntV H lt H' acc L ∧ H' l4 = some (.lst (zs.map V.int)) ∧ L.length + 3 * rest.length ≤ 33 ∧ (∀ x ∈ L, Sz 150 x) ∧ ∀ x ∈ rest, Sz 140 x)
    ⟨_, _, none, rfl, X0, h4, by show 3 + 3 * zs.length ≤ 33; omega, ?_, ysz⟩ ?_ ?_ ?_
  · intro x hx
    rcases List.mem_cons.mp hx with rfl | hx
    · exact (show Sz 2 (-1) by unfold Sz; decide).mono (by decide)
    rcases List.mem_cons.mp hx with rfl | hx
    · exact Sz.zero
    · rw [List.mem_singleton.mp hx]
      exact one_sz
  · rintro rest σ H' ⟨acc, L, o5, rfl, X, hl4, _⟩
    exact SqL.of hl4
  · rintro vx x rest σ H5 hx ⟨acc, L, o5, rfl, X, hl4, n5, szL, szr⟩
    obtain rfl : vx = .int x := hx
    have ll := X.len
    rw [List.length_cons] at n5
    have sx := szr x List.mem_cons_self
    have hlt := X.at_
    walk_at "oh go"
    refine ⟨Nat.le_of_ble_eq_true rfl, fun k nk => ?_⟩
    have X2 := X.step IntV.mono (same_new nk (.lst [.int (x - 1), .int x, .int (x + 1)]))
    have hl5 := get_new (o := .lst [.int (x - 1), .int x, .int (x + 1)]) nk hl4
    walk_at "oh go"
    refine i_ext X2.at_ upd_same (by show _ + 3 ≤ _; omega) ?_
    walk_at "oh go"
    have X3 := X2.ext IntV.mono (its_ints (H := upd H5 k (.lst [.int (x - 1), .int x, .int (x + 1)])) [x - 1, x, x + 1])
    refine ⟨_, _, _, rfl, X3, by rw [upd_ne l4n]; exact hl5, by rw [List.length_append]; show _ + 3 + _ ≤ _; omega, fun y hy => ?_, fun y hy => szr y (List.mem_cons_of_mem _ hy)⟩
    rcases List.mem_append.mp hy with hy | hy
    · exact szL y hy
    rcases List.mem_cons.mp hy with rfl | hy
    · exact (sx.sub one_sz).mono (by decide)
    rcases List.mem_cons.mp hy with rfl | hy
    · exact sx.mono (by decide)
    · rw [List.mem_singleton.mp hy]
      exact (sx.add one_sz).mono (by decide)
  · rintro σ H5 ⟨acc, L, o5, rfl, X, hl4, n5, szL, _⟩
    rw [List.length_nil] at n5
    have hc5 := X.sm _ _ hc
    walk_at "oh go"
    refine for_left (H0 := H) (its_ints cs) (fun rest σ H' => ∃ acc L o5 o6, σ = [some v, some (.ref l), some (.ref c), some (.int scale), some (.ref lt), o5, o6] ∧ LL IntV H lt H' acc L ∧ L.length + rest.length ≤ 45 ∧ (∀ x ∈ L, Sz 150 x))
      ⟨_, _, _, none, rfl, X, by omega, szL⟩ ?_ ?_ ?_
    · rintro rest σ H' ⟨acc, L, o5, o6, rfl, X, _⟩
      exact SqL.of (X.sm _ _ hc)
    · rintro vx x rest σ H6 hx ⟨acc, L, o5, o6, rfl, X, n6, szL⟩
      obtain rfl : vx = .int x := hx
      have ll := X.len
      rw [List.length_cons] at n6
      have hlt := X.at_
      walk_at "oh go"
      have s127 : Sz 127 scale := Sz.btw (i := 0) (k := 100000000000000000000000000000000000000) Sz.zero (by unfold Sz; decide) (by omega) S2
      refine i_I (bg_mul ((show Sz 3 4 by unfold Sz; decide).mono (by decide)) (s127.mono (by decide))) ?_
      walk_at "oh go"
      refine i_I (by omega : (0 : Int) < 4 * scale) ?_
      walk_at "oh go"
      refine i_I (⟨by decide, by decide⟩ : CDivW scale 2) ?_
      walk_at "oh go"
      refine i_app hlt (by omega) ?_
      have r0 := Int.emod_nonneg x (show 4 * scale ≠ 0 by omega)
      have r1 := Int.emod_lt_of_pos x (show 0 < 4 * scale by omega)
      have sy : Sz 150 (x % (4 * scale) - scale / 2) := Sz.btw (i := -100000000000000000000000000000000000000) (k := 400000000000000000000000000000000000000) (by unfold Sz; decide) (by unfold Sz; decide) (by omega) (by omega)
      refine ⟨_, _, _, _, rfl, X.push IntV.mono (y := x % (4 * scale) - scale / 2) rfl, by rw [List.length_append]; show _ + 1 + _ ≤ _; omega, fun y hy => ?_⟩
      rcases List.mem_append.mp hy with hy | hy
      · exact szL y hy
      · rw [List.mem_singleton.mp hy]
        exact sy
    · rintro σ H6 ⟨acc, L, o5, o6, rfl, X, n6, szL⟩
      walk_at "oh go"
      have ea := ints_its X.its
      subst ea
      exact q lt L H6 nt X.sm X.at_ (by omega) szL
end
end OH
set_option Elab.async false
set_option linter.all false
set_option maxRecDepth 100000
set_option maxHeartbeats 4000000
set_option exponentiation.threshold 10000
namespace OH
open PySem PySem.Spec PyProof.Rows L2
section
variable {X : Cx} {k : Nat} {x : Str} {ps : List Str} {sp : Sp} {W : WX} {e : Expr} {es : List Expr} {t : TA} {p pos : Pos}
/-- a call in a try: its exceptions meet the clause -/
theorem pe_clS {j : Nat} (F : Ok X.prog X.w X.K X.mg X.base (L2.CX X.prog X.w) j x ps sp) (hr : Room k X.A) (tk : Takes X W) (ha : PA X (e :: es) t) (hj : j ≤ k := by decide) (hg : Gl X x := by rfl) (hdb : (x == ("__debug__" : Str)) = false := by decide)
    (he : starEach (e :: es) X.env = (false, eval e X.env) :: starEach es X.env := by rfl) (hpl : (backTo pos (starEach es X.env)).any (·.1) = false := by rfl) : PE X (.Call (.Name x p) (e :: es) [] pos) (tCallS sp (WE W) t) := by
  obtain ⟨fd, F, b, kp, m⟩ := F
  exact pe_callS F (hr.mono hj) hg m kp b (fun σ => passAt tk σ) ha hdb he hpl
theorem i_callS {E : L2.St → XK} {σ : L2.St} {H : Hp} {Q : VK} (h : t σ H fun vs H1 => sp vs H1 Q (E σ)) : tCallS sp E t σ H Q := h
theorem i_try {tb : WX → TS} {K : PySem.W.Frag} {c : Value} {ts : Addr → Value → Option Addr → TS} {Wout : WX} {D : Ends} {σ : L2.St} {H : Hp} (h : tb (wOnly K c ts Wout D) D σ H) : (fun D σ H => tb (wOnly K c ts Wout D) D σ H) D σ H := h
theorem w_only {K : PySem.W.Frag} {c : Value} {ts : Addr → Value → Option Addr → TS} {Wout : WX} {D : Ends} {σ : L2.St} {H : Hp} (h : PySem.W.exmOne K c c = some true) (q : ∀ a, H a = none → ts a c none D σ H) : WE (wOnly K c ts Wout D) σ c none H :=
  ⟨true, h, fun _ => q, fun z => nomatch z⟩
end
section
variable {P : Program} {w : World} {K : PySem.W.Frag} {mg : Str → Option Value} {base : Heap}
/-- a known object: through what has changed since -/
local macro_rules | `(tactic| walk_at "oh hp") => `(tactic| first | assumption | exact upd_same | (refine get_new (by assumption) ?_; walk_at "oh hp") | (refine get_mut (by assumption) ?_ (by intro z; cases z); walk_at "oh hp") | (refine same_get (by assumption) ?_; walk_at "oh hp") | (refine ts_get (by assumption) ?_; walk_at "oh hp") | (refine same_get (LL.sm (by assumption)) ?_; walk_at "oh hp") | exact LL.at_ (by assumption))
local macro_rules | `(tactic| walk_at "oh sc") => `(tactic| exact ⟨rfl, rfl, rfl, by decide +kernel, rfl, by decide +kernel, by decide +kernel⟩)
/-- one step of a reading -/
local macro_rules | `(tactic| walk_at "oh 1") => `(tactic| with_reducible first
  | refine i_var rfl ?_ | refine i_c ?_ | refine i_op ?_ | refine i_I0 ?_ | refine i_cons ?_ | refine i_nil ?_ | refine i_asg ?_ | refine i_name ?_ | refine i_seq ?_ | refine i_ifS ?_ | refine i_test ?_ | refine i_bl ?_ | refine i_call ?_ | refine i_CB ?_
  | refine i_tup ?_ | refine i_lst ?_ | refine i_eqI ?_ | refine i_eqS ?_ | refine i_neI ?_ | refine i_un ?_ | refine i_U ?_ | refine i_ret ?_ | refine i_retN ?_ | refine i_next ?_ | refine i_cont ?_ | refine i_drop ?_ | refine i_B ?_ | refine i_and ?_ | refine i_or ?_ | refine i_not ?_ | refine i_mn ?_ | refine i_mx ?_ | refine i_isN ?_ | refine i_notN ?_ | refine i_bm ?_ | refine i_bm0 ?_ | refine i_rn ?_ | refine i_inon ?_ | refine i_nn ?_ | refine i_rn' ?_ | refine i_nn' ?_ | refine i_gcons ?_ | refine i_gnil ?_ | refine i_orV ?_ | refine i_andV ?_ | refine i_notV ?_ | refine i_chain ?_ | refine i_forL ?_ | refine i_iL ?_ | refine i_iT ?_ | refine i_lc ?_ | refine i_yes ?_ | refine i_sortS ?_ | refine i_lenS ?_ | refine i_slL ?_ | refine i_noP ?_ | refine i_part ?_ | refine i_fld ?_ | refine i_sFld ?_ | refine i_dget ?_ | refine i_meth ?_ | refine i_dnot ?_ | refine i_aug rfl ?_ | refine i_ip ?_ | refine iteT ?_ | refine iteF ?_ | refine i_nT ?_ | refine i_nF ?_)
local macro_rules | `(tactic| walk_at "oh 2") => `(tactic| first | ((with_reducible refine' i_sF ?c ?q); (case c => decide +kernel)) | ((with_reducible refine' i_sT ?c ?q); (case c => decide +kernel)) | ((with_reducible refine' i_atP ?h ?c ?n ?l ?q); (case h => walk_at "oh hp"); (case c => assumption); (case n => assumption); (case l => exact Nat.le_of_ble_eq_true rfl)) | ((with_reducible refine' i_atF ?h ?c ?n ?l ?q); (case h => walk_at "oh hp"); (case c => assumption); (case n => assumption); (case l => rfl)) | ((with_reducible refine' i_ixT ?h ?e ?q); (case h => walk_at "oh hp"); (case e => rfl)) | ((with_reducible refine' i_gtup ?h ?e ?q); (case h => walk_at "oh hp"); (case e => rfl)) | ((with_reducible refine' i_atL ?h ?q); (case h => walk_at "oh hp")) | ((with_reducible refine' i_atT ?h ?q); (case h => walk_at "oh hp")) | ((with_reducible refine' i_tyL ?h ?q); (case h => walk_at "oh hp")) | ((with_reducible refine' i_lnL ?h ?q); (case h => walk_at "oh hp")) | ((with_reducible refine' i_lnT ?h ?q); (case h => walk_at "oh hp")))
local macro_rules | `(tactic| walk_at "oh go") => `(tactic| repeat first | walk_at "oh 1" | walk_at "oh 2")
def sp_law_form_or_none (K : PySem.W.Frag) : Sp := fun vs H Q _ => ∃ (v : V) (B : Bk) (n : Str) (p : Plan Str), vs = [v, .str n] ∧ BookV K H v B ∧ BookIn B ∧ B.lookup n = some p ∧ (∀ f, fm p = some f → Ret H Q FormV f) ∧ (fm p = none → ∀ H', Same H H' → Q .non H')
/- slots: 0 book, 1 name, 2 made -/
theorem sc_law_form_or_none : FnScope ["book", "name", "made"] ["book", "name"] (defScope s_law_form_or_none) := by walk_at "oh sc"
theorem ok_law_form_or_none (T : Pg K mg) : Ok P w K mg base CX0 15 "_law_form_or_none" ["book", "name"] (sp_law_form_or_none K) := by
  obtain ⟨fd, F⟩ := F_law_form_or_none T
  refine ⟨fd, F.ok sc_law_form_or_none (fun vs H Q E h => ?_) (fun cdv A outer s H vs Q E hr h => ?_), F.binds fun _ _ _ _ _ _ us hl => (match us, hl with | [_, _], _ => rfl), F.kp, g_law_form_or_none T⟩
  · obtain ⟨v, B, n, p, rfl, _⟩ := h
    rfl
  · obtain ⟨v, B, n, p, rfl, hB, BI, en, q1, q2⟩ := h
    have hu := hu_of hr
    refine ⟨_, pss_cons (ps_set (i := 2) sc_law_form_or_none.nd rfl (Or.inl rfl) pe_non)
      (pss_cons (ps_try_only (tb := fun W => tAsg (tCallS (sp_form_of K) (WE W) (tCons (tVar 0) (tCons (tVar 1) tNil))) (gName 2)) (ts := fun _ _ _ => tAsg (tC .non) (gName 2)) (Wout := fun _ _ _ _ => False) rfl rfl ⟨rfl, by decide, Or.inl (g_TooMany T)⟩ takes0 (fun W pn xe tk _ => pss_one (ps_set (i := 2) sc_law_form_or_none.nd rfl (Or.inl rfl) (by exact (pe_clS (ok_form_of T) hr tk (pa_cons (pv 0) (pa_cons (pv 1) pa_nil)))))) (fun _ _ _ _ _ _ _ => pss_one (ps_set (i := 2) sc_law_form_or_none.nd rfl (Or.inl rfl) pe_non)))
      (pss_one (ps_ret (pv 2)))), ?_⟩
    walk_at "oh go"
    refine i_callS ?_
    walk_at "oh go"
    refine ⟨v, B, n, rfl, hB, BI, fun p' en' => ?_, fun z => ?_⟩
    rotate_left
    · rw [en] at z
      cases z
    obtain rfl : p = p' := by
      rw [en] at en'
      exact Option.some.inj en'
    refine ⟨fun f ef vf H1 s1 hv => ?_, fun ef H1 s1 => ?_⟩
    · walk_at "oh go"
      exact q1 f ef vf H1 s1 hv
    · refine w_only (x_TooMany T) fun a na => ?_
      walk_at "oh go"
      exact q2 ef H1 s1
end
end OH
set_option Elab.async false
set_option linter.all false
set_option maxRecDepth 100000
set_option maxHeartbeats 4000000
set_option exponentiation.threshold 10000
namespace OH
open PySem PySem.Spec PyProof.Rows L2
section
variable {P : Program} {w : World} {K : PySem.W.Frag} {mg : Str → Option Value} {base : Heap}
/-- a known object: through what has changed since -/
local macro_rules | `(tactic| walk_at "oh hp") => `(tactic| first | assumption | exact upd_same | (refine get_new (by assumption) ?_; walk_at "oh hp") | (refine get_mut (by assumption) ?_ (by intro z; cases z); walk_at "oh hp") | (refine same_get (by assumption) ?_; walk_at "oh hp") | (refine ts_get (by assumption) ?_; walk_at "oh hp") | (refine same_get (LL.sm (by assumption)) ?_; walk_at "oh hp") | exact LL.at_ (by assumption))
local macro_rules | `(tactic| walk_at "oh sc") => `(tactic| exact ⟨rfl, rfl, rfl, by decide +kernel, rfl, by decide +kernel, by decide +kernel⟩)
/-- one step of a reading -/
local macro_rules | `(tactic| walk_at "oh 1") => `(tactic| with_reducible first
  | refine i_var rfl ?_ | refine i_c ?_ | refine i_op ?_ | refine i_I0 ?_ | refine i_cons ?_ | refine i_nil ?_ | refine i_asg ?_ | refine i_name ?_ | refine i_seq ?_ | refine i_ifS ?_ | refine i_test ?_ | refine i_bl ?_ | refine i_call ?_ | refine i_CB ?_
  | refine i_tup ?_ | refine i_lst ?_ | refine i_eqI ?_ | refine i_eqS ?_ | refine i_neI ?_ | refine i_un ?_ | refine i_U ?_ | refine i_ret ?_ | refine i_retN ?_ | refine i_next ?_ | refine i_cont ?_ | refine i_drop ?_ | refine i_B ?_ | refine i_and ?_ | refine i_or ?_ | refine i_not ?_ | refine i_mn ?_ | refine i_mx ?_ | refine i_isN ?_ | refine i_notN ?_ | refine i_bm ?_ | refine i_bm0 ?_ | refine i_rn ?_ | refine i_inon ?_ | refine i_nn ?_ | refine i_rn' ?_ | refine i_nn' ?_ | refine i_gcons ?_ | refine i_gnil ?_ | refine i_orV ?_ | refine i_andV ?_ | refine i_notV ?_ | refine i_chain ?_ | refine i_forL ?_ | refine i_iL ?_ | refine i_iT ?_ | refine i_lc ?_ | refine i_yes ?_ | refine i_sortS ?_ | refine i_lenS ?_ | refine i_slL ?_ | refine i_noP ?_ | refine i_part ?_ | refine i_fld ?_ | refine i_sFld ?_ | refine i_dget ?_ | refine i_meth ?_ | refine i_dnot ?_ | refine i_aug rfl ?_ | refine i_ip ?_ | refine iteT ?_ | refine iteF ?_ | refine i_nT ?_ | refine i_nF ?_)
local macro_rules | `(tactic| walk_at "oh 2") => `(tactic| first | ((with_reducible refine' i_sF ?c ?q); (case c => decide +kernel)) | ((with_reducible refine' i_sT ?c ?q); (case c => decide +kernel)) | ((with_reducible refine' i_atP ?h ?c ?n ?l ?q); (case h => walk_at "oh hp"); (case c => assumption); (case n => assumption); (case l => exact Nat.le_of_ble_eq_true rfl)) | ((with_reducible refine' i_atF ?h ?c ?n ?l ?q); (case h => walk_at "oh hp"); (case c => assumption); (case n => assumption); (case l => rfl)) | ((with_reducible refine' i_ixT ?h ?e ?q); (case h => walk_at "oh hp"); (case e => rfl)) | ((with_reducible refine' i_gtup ?h ?e ?q); (case h => walk_at "oh hp"); (case e => rfl)) | ((with_reducible refine' i_atL ?h ?q); (case h => walk_at "oh hp")) | ((with_reducible refine' i_atT ?h ?q); (case h => walk_at "oh hp")) | ((with_reducible refine' i_tyL ?h ?q); (case h => walk_at "oh hp")) | ((with_reducible refine' i_lnL ?h ?q); (case h => walk_at "oh hp")) | ((with_reducible refine' i_lnT ?h ?q); (case h => walk_at "oh hp")))
local macro_rules | `(tactic| walk_at "oh go") => `(tactic| repeat first | walk_at "oh 1" | walk_at "oh 2")
/-- told.append(n), told in slot 2 -/
abbrev tTell (K : PySem.W.Frag) (n : Int) : TS := tDrop (tBM K "list" rAppend (tVar 2) (tCons (tC (.int n)) tNil))
def sp_law_no_offer (K : PySem.W.Frag) : Sp := fun vs H Q _ => ∃ (v : V) (B : Bk) (n : Str), vs = [v, .str n] ∧ BookV K H v B ∧ BookIn B ∧ B.lookup n = none ∧ ∀ H', Same H H' → Q (.bl true) H'
/- slots: 0 book, 1 name, 2 told -/
theorem sc_law_no_offer : FnScope ["book", "name", "told"] ["book", "name"] (defScope s_law_no_offer) := by walk_at "oh sc"
theorem ok_law_no_offer (T : Pg K mg) : Ok P w K mg base CX0 16 "_law_no_offer" ["book", "name"] (sp_law_no_offer K) := by
  obtain ⟨fd, F⟩ := F_law_no_offer T
  refine ⟨fd, F.ok sc_law_no_offer (fun vs H Q E h => ?_) (fun cdv A outer s H vs Q E hr h => ?_), F.binds fun _ _ _ _ _ _ us hl => (match us, hl with | [_, _], _ => rfl), F.kp, g_law_no_offer T⟩
  · obtain ⟨v, B, n, rfl, _⟩ := h
    rfl
  · obtain ⟨v, B, n, rfl, hB, BI, en, q⟩ := h
    have hu := hu_of hr
    refine ⟨_, pss_cons (ps_set (i := 2) sc_law_no_offer.nd rfl (Or.inl rfl) (pe_lst pa_nil))
      (pss_cons (ps_try_only (tb := fun W => tDrop (tCallS (sp_quote K) (WE W) (tCons (tVar 0) (tCons (tVar 1) (tCons (tC (.int 0)) tNil))))) (ts := fun _ _ _ => tTell K 1) (Wout := fun _ _ _ _ => False) rfl rfl ⟨rfl, by decide, Or.inl (g_NoOffer T)⟩ takes0 (fun W pn xe tk _ => pss_one (ps_expr (by exact (pe_clS (ok_quote T) hr tk (pa_cons (pv 0) (pa_cons (pv 1) (pa_cons pe_int pa_nil))))))) (fun _ _ _ _ _ _ _ => pss_one (ps_expr (pe_bm PySem.F.plainAttrs_list PySem.F.slot_list_append PySem.F.type_list_append mt_append (pv 2) (pa_cons pe_int pa_nil)))))
      (pss_cons (ps_try_only (tb := fun W => tDrop (tCallS (sp_form_of K) (WE W) (tCons (tVar 0) (tCons (tVar 1) tNil)))) (ts := fun _ _ _ => tTell K 2) (Wout := fun _ _ _ _ => False) rfl rfl ⟨rfl, by decide, Or.inl (g_NoOffer T)⟩ takes0 (fun W pn xe tk _ => pss_one (ps_expr (by exact (pe_clS (ok_form_of T) hr tk (pa_cons (pv 0) (pa_cons (pv 1) pa_nil)))))) (fun _ _ _ _ _ _ _ => pss_one (ps_expr (pe_bm PySem.F.plainAttrs_list PySem.F.slot_list_append PySem.F.type_list_append mt_append (pv 2) (pa_cons pe_int pa_nil)))))
      (pss_one (ps_ret (pe_cmpR (op_eqD hr.units) (pv 2) (pe_lst (pa_cons pe_int (pa_cons pe_int pa_nil))) (nomark _)))))), ?_⟩
    walk_at "oh go"
    refine ⟨Nat.le_of_ble_eq_true rfl, fun l nl => ?_⟩
    have s0 := same_new nl (.lst [])
    have h0 : upd H l (.lst []) l = some (.lst []) := upd_same
    generalize upd H l (.lst []) = H0 at s0 h0 ⊢
    walk_at "oh go"
    refine i_callS ?_
    walk_at "oh go"
    refine ⟨v, B, n, 0, rfl, hB.same s0, BI, Sz.zero, fun p z => ?_, fun _ H1 s1 => ?_⟩
    · rw [en] at z
      cases z
    refine w_only (x_NoOffer T) fun a na => ?_
    have h1 := s1 _ _ h0
    walk_at "oh go"
    refine i_app h1 (by decide) ?_
    walk_at "oh go"
    have s2 : Same H (upd H1 l (.lst ([] ++ [.int 1]))) := same_mut (s0.trans s1) nl _
    have h2 : upd H1 l (.lst ([] ++ [.int 1])) l = some (.lst [.int 1]) := upd_same
    generalize upd H1 l (.lst ([] ++ [.int 1])) = H2 at s2 h2 ⊢
    refine i_callS ?_
    walk_at "oh go"
    refine ⟨v, B, n, rfl, hB.same s2, BI, fun p z => ?_, fun _ H3 s3 => ?_⟩
    · rw [en] at z
      cases z
    refine w_only (x_NoOffer T) fun a na => ?_
    have h3 := s3 _ _ h2
    walk_at "oh go"
    refine i_app h3 (Nat.le_of_ble_eq_true rfl) ?_
    walk_at "oh go"
    have s4 : Same H (upd H3 l (.lst ([.int 1] ++ [.int 2]))) := same_mut (s2.trans s3) nl _
    have h4 : upd H3 l (.lst ([.int 1] ++ [.int 2])) l = some (.lst [.int 1, .int 2]) := upd_same
    generalize upd H3 l (.lst ([.int 1] ++ [.int 2])) = H4 at s4 h4 ⊢
    refine ⟨Nat.le_of_ble_eq_true rfl, fun k nk => ?_⟩
    walk_at "oh go"
    have s5 := same_new nk (.lst [.int 1, .int 2])
    have dd : ∀ {b : Addr}, upd H4 k (.lst [.int 1, .int 2]) b = some (.lst [.int 1, .int 2]) → Dp K (upd H4 k (.lst [.int 1, .int 2])) (.ref b) (.list [.int 1, .int 2]) := fun e => .lst (SqL.of e) (.cons (.int 1) (.cons (.int 2) .nil))
    refine ⟨.list [.int 1, .int 2], .list [.int 1, .int 2], dd (s5 _ _ h4), dd upd_same, by decide +kernel, by decide +kernel, ?_⟩
    walk_at "oh go"
    exact q _ (s4.trans s5)
end
end OH
set_option Elab.async false
set_option linter.all false
set_option maxRecDepth 100000
set_option maxHeartbeats 4000000
set_option exponentiation.threshold 10000
namespace OH
open PySem PySem.Spec PyProof.Rows L2
/-- the asked instance's class is D -/
def rIsD (K : PySem.W.Frag) (D a : Addr) (cls : Value) (d : Option Addr) : List V → Hp → VK → Prop := fun xs H Q => cls = .ref D ∧ d = none ∧ rIsE K D a xs H Q
theorem cr_isD {X : Cx} {a D : Addr} {oe : Obj} {cls : Value} {d : Option Addr} {pn : List (Addr × Obj)} (C : ExcC X.K D) (hz : Zc cls d oe) (hf : ∃ vs, oe.data = .fields vs) : CallR (X.suite a ((a, oe) :: pn)) (.builtin "isinstance") (rIsD X.K D a cls d) := by
  intro pins s σ H xs us Q I r h
  obtain ⟨rfl, rfl, h⟩ := h
  exact call_isE C hz hf pins s σ H xs us Q I r h
theorem w_as {K : PySem.W.Frag} {c : Value} {i : Nat} {ts : Addr → Value → Option Addr → TS} {Wout : WX} {D : Ends} {σ : L2.St} {H : Hp} (h : PySem.W.exmOne K c c = some true)
    (q : ∀ a, H a = none → ts a c none { nx := fun σ' H' => D.nx (σ'.set i none) H', rt := D.rt, bk := fun σ' H' => D.bk (σ'.set i none) H', ct := fun σ' H' => D.ct (σ'.set i none) H' } (σ.set i (some (.ref a))) H) : WE (wAs K c i ts Wout D) σ c none H :=
  ⟨true, h, fun _ => q, fun z => nomatch z⟩
section
variable {P : Program} {w : World} {K : PySem.W.Frag} {mg : Str → Option Value} {base : Heap}
theorem isB_ok {K : PySem.W.Frag} (h : isB K = true) : ExcC K (He.ga K "NotOffered") ∧ PySem.W.kitOne K (.ref (He.ga K "NotOffered")) (.type "ValueError") = some true := by
  obtain ⟨h1, h⟩ := He.ba h
  obtain ⟨h2, h⟩ := He.ba h
  obtain ⟨h3, h⟩ := He.ba h
  obtain ⟨h4, h⟩ := He.ba h
  obtain ⟨h5, h⟩ := He.ba h
  obtain ⟨h6, h⟩ := He.ba h
  obtain ⟨h7, h⟩ := He.ba h
  obtain ⟨h8, h9⟩ := He.ba h
  exact ⟨⟨He.eqO_ok h1, He.eqO_ok h2, of_decide_eq_true h3, h4, He.eqO_ok h5, He.eqO_ok h6, of_decide_eq_true h7, of_decide_eq_true h8⟩, of_decide_eq_true h9⟩
theorem exc_NotOffered (T : Pg K mg) : ExcC K (He.ga K "NotOffered") ∧ PySem.W.kitOne K (.ref (He.ga K "NotOffered")) (.type "ValueError") = some true := isB_ok (He.ba (He.ba T.ex).2).1
/-- a known object: through what has changed since -/
local macro_rules | `(tactic| walk_at "oh hp") => `(tactic| first | assumption | exact upd_same | (refine get_new (by assumption) ?_; walk_at "oh hp") | (refine get_mut (by assumption) ?_ (by intro z; cases z); walk_at "oh hp") | (refine same_get (by assumption) ?_; walk_at "oh hp") | (refine ts_get (by assumption) ?_; walk_at "oh hp") | (refine same_get (LL.sm (by assumption)) ?_; walk_at "oh hp") | exact LL.at_ (by assumption))
local macro_rules | `(tactic| walk_at "oh sc") => `(tactic| exact ⟨rfl, rfl, rfl, by decide +kernel, rfl, by decide +kernel, by decide +kernel⟩)
/-- one step of a reading -/
local macro_rules | `(tactic| walk_at "oh 1") => `(tactic| with_reducible first
  | refine i_var rfl ?_ | refine i_c ?_ | refine i_op ?_ | refine i_I0 ?_ | refine i_cons ?_ | refine i_nil ?_ | refine i_asg ?_ | refine i_name ?_ | refine i_seq ?_ | refine i_ifS ?_ | refine i_test ?_ | refine i_bl ?_ | refine i_call ?_ | refine i_CB ?_
  | refine i_tup ?_ | refine i_lst ?_ | refine i_eqI ?_ | refine i_eqS ?_ | refine i_neI ?_ | refine i_un ?_ | refine i_U ?_ | refine i_ret ?_ | refine i_retN ?_ | refine i_next ?_ | refine i_cont ?_ | refine i_drop ?_ | refine i_B ?_ | refine i_and ?_ | refine i_or ?_ | refine i_not ?_ | refine i_mn ?_ | refine i_mx ?_ | refine i_isN ?_ | refine i_notN ?_ | refine i_bm ?_ | refine i_bm0 ?_ | refine i_rn ?_ | refine i_inon ?_ | refine i_nn ?_ | refine i_rn' ?_ | refine i_nn' ?_ | refine i_gcons ?_ | refine i_gnil ?_ | refine i_orV ?_ | refine i_andV ?_ | refine i_notV ?_ | refine i_chain ?_ | refine i_forL ?_ | refine i_iL ?_ | refine i_iT ?_ | refine i_lc ?_ | refine i_yes ?_ | refine i_sortS ?_ | refine i_lenS ?_ | refine i_slL ?_ | refine i_noP ?_ | refine i_part ?_ | refine i_fld ?_ | refine i_sFld ?_ | refine i_dget ?_ | refine i_meth ?_ | refine i_dnot ?_ | refine i_aug rfl ?_ | refine i_ip ?_ | refine iteT ?_ | refine iteF ?_ | refine i_nT ?_ | refine i_nF ?_)
local macro_rules | `(tactic| walk_at "oh 2") => `(tactic| first | ((with_reducible refine' i_sF ?c ?q); (case c => decide +kernel)) | ((with_reducible refine' i_sT ?c ?q); (case c => decide +kernel)) | ((with_reducible refine' i_atP ?h ?c ?n ?l ?q); (case h => walk_at "oh hp"); (case c => assumption); (case n => assumption); (case l => exact Nat.le_of_ble_eq_true rfl)) | ((with_reducible refine' i_atF ?h ?c ?n ?l ?q); (case h => walk_at "oh hp"); (case c => assumption); (case n => assumption); (case l => rfl)) | ((with_reducible refine' i_ixT ?h ?e ?q); (case h => walk_at "oh hp"); (case e => rfl)) | ((with_reducible refine' i_gtup ?h ?e ?q); (case h => walk_at "oh hp"); (case e => rfl)) | ((with_reducible refine' i_atL ?h ?q); (case h => walk_at "oh hp")) | ((with_reducible refine' i_atT ?h ?q); (case h => walk_at "oh hp")) | ((with_reducible refine' i_tyL ?h ?q); (case h => walk_at "oh hp")) | ((with_reducible refine' i_lnL ?h ?q); (case h => walk_at "oh hp")) | ((with_reducible refine' i_lnT ?h ?q); (case h => walk_at "oh hp")))
local macro_rules | `(tactic| walk_at "oh go") => `(tactic| repeat first | walk_at "oh 1" | walk_at "oh 2")
def rInt1 : List V → Hp → VK → Prop := fun xs H Q => (∃ i, xs = [.int i] ∧ Q (.int i) H) ∨ ∃ k, xs = [.bl k] ∧ Q (.int (if k then 1 else 0)) H
/-- the except's suite -/
abbrev tNone (K : PySem.W.Frag) (D : Addr) (a : Addr) (cls : Value) (d : Option Addr) : TS := tAsg (tTup (tCons (tC (.str "none")) (tCons (tCB rInt1 (tCons (tNotV (tCB (rIsD K D a cls d) (tCons (tVar 4) (tCons (tC (.ty "ValueError")) tNil)))) tNil)) tNil))) (gName 3)
def quoted (o : Option Int) : List V := match o with
  | some c => [.str "cost", .int c]
  | none => [.str "none", .int 0]
def sp_law_quoted (K : PySem.W.Frag) : Sp := fun vs H Q _ => ∃ (v : V) (B : Bk) (n : Str) (x : Int) (p : Plan Str) (f : Form), vs = [v, .str n, .int x] ∧ BookV K H v B ∧ BookIn B ∧ Sz 8000 x ∧ B.lookup n = some p ∧ fm p = some f ∧ ∀ (t : Addr) H', Same H H' → H' t = some (.tup (quoted (costAt f x))) → Q (.ref t) H'
/- slots: 0 book, 1 name, 2 x, 3 told, 4 e -/
theorem sc_law_quoted : FnScope ["book", "name", "x", "told", "e"] ["book", "name", "x"] (defScope s_law_quoted) := by walk_at "oh sc"
theorem ok_law_quoted (T : Pg K mg) : Ok P w K mg base CX0 16 "_law_quoted" ["book", "name", "x"] (sp_law_quoted K) := by
  obtain ⟨fd, F⟩ := F_law_quoted T
  refine ⟨fd, F.ok sc_law_quoted (fun vs H Q E h => ?_) (fun cdv A outer s H vs Q E hr h => ?_), F.binds fun _ _ _ _ _ _ us hl => (match us, hl with | [_, _, _], _ => rfl), F.kp, g_law_quoted T⟩
  · obtain ⟨v, B, n, x, p, f, rfl, _⟩ := h
    rfl
  · obtain ⟨v, B, n, x, p, f, rfl, hB, BI, sx, en, ef, q⟩ := h
    have hu := hu_of hr
    refine ⟨_, pss_cons (ps_set (i := 3) sc_law_quoted.nd rfl (Or.inl rfl) (pe_tup (pa_cons pe_str (pa_cons pe_int pa_nil))))
      (pss_cons (ps_try_as (i := 4) (tb := fun W => tAsg (tTup (tCons (tC (.str "cost")) (tCons (tCallS (sp_quote K) (WE W) (tCons (tVar 0) (tCons (tVar 1) (tCons (tVar 2) tNil)))) tNil))) (gName 3)) (ts := fun a cls d => tNone K (He.ga K "NotOffered") a cls d) (Wout := fun _ _ _ _ => False) rfl rfl sc_law_quoted.nd rfl rfl ⟨rfl, by decide, Or.inl (g_NotOffered T)⟩ takes0 (fun W pn xe tk _ => pss_one (ps_set (i := 3) sc_law_quoted.nd rfl (Or.inl rfl) (by exact (pe_tup (pa_cons pe_str (pa_cons (pe_clS (ok_quote T) hr tk (pa_cons (pv 0) (pa_cons (pv 1) (pa_cons (pv 2) pa_nil)))) pa_nil)))))) (fun a oe cls d pn hz hf => pss_one (ps_set (i := 3) sc_law_quoted.nd rfl (Or.inl rfl) (by exact (pe_tup (pa_cons pe_str (pa_cons (pe_callTy call_int1 (by rfl) (z_int T) (by decide +kernel) (pa_cons (pe_not (pe_callB (cr_isD (exc_NotOffered T).1 hz hf) (by rfl) (z_isinstance T) (by decide +kernel) (pa_cons (pv 4) (pa_cons (pe_bltn (v := .ty "ValueError") (by rfl) (z_ValueError T) (by decide +kernel) rfl) pa_nil)))) pa_nil)) pa_nil)))))))
      (pss_one (ps_ret (pv 3)))), ?_⟩
    walk_at "oh go"
    refine ⟨Nat.le_of_ble_eq_true rfl, fun t0 n0 => ?_⟩
    have s0 := same_new n0 (.tup [.str "none", .int 0])
    walk_at "oh go"
    refine i_callS ?_
    walk_at "oh go"
    refine ⟨v, B, n, x, rfl, hB.same s0, BI, sx, fun p' en' => ?_, fun z => ?_⟩
    rotate_left
    · rw [en] at z
      cases z
    obtain rfl : p = p' := by
      rw [en] at en'
      exact Option.some.inj en'
    refine ⟨fun f' ef' => ?_, fun z => ?_⟩
    rotate_left
    · rw [ef] at z
      cases z
    obtain rfl : f = f' := by
      rw [ef] at ef'
      exact Option.some.inj ef'
    refine ⟨fun c ec H1 s1 => ?_, fun ec H1 s1 => ?_⟩
    · walk_at "oh go"
      refine ⟨Nat.le_of_ble_eq_true rfl, fun t nt => ?_⟩
      walk_at "oh go"
      exact q t _ ((s0.trans s1).trans (same_new nt _)) (by rw [ec]; exact upd_same)
    · refine w_as (x_NotOffered T) fun a na => ?_
      walk_at "oh go"
      refine ⟨rfl, rfl, .ty "ValueError", .type "ValueError", true, rfl, fun u r => r, (exc_NotOffered T).2, ?_⟩
      walk_at "oh go"
      refine .inr ⟨_, rfl, ?_⟩
      walk_at "oh go"
      refine ⟨Nat.le_of_ble_eq_true rfl, fun t nt => ?_⟩
      walk_at "oh go"
      exact q t _ ((s0.trans s1).trans (same_new nt _)) (by rw [ec]; exact upd_same)
end
end OH
set_option Elab.async false
set_option linter.all false
set_option maxRecDepth 100000
set_option maxHeartbeats 4000000
set_option exponentiation.threshold 10000
namespace OH
open PySem PySem.Spec PyProof.Rows L2
theorem in_if' {i : Int} {A B : Prop} (h : A) : if (!decide (V.int i = V.non)) = true then A else B := by
  rw [decide_eq_false (by intro z; cases z)]
  exact iteT h
theorem i_neO {o : Option Int} {H : Hp} {Q : VK} (h : Q (.bl false) H) : rNe (optV o) (optV o) H Q := by
  cases o with
  | none =>
    refine ⟨rfl, ?_⟩
    rw [decide_eq_true rfl]
    exact h
  | some c =>
    refine ⟨rfl, ?_⟩
    rw [decide_eq_true rfl]
    exact h
theorem quoted_dp {K : PySem.W.Frag} {H : Hp} {t : Addr} {z : Str} {c : Int} (h : H t = some (.tup [.str z, .int c])) : Dp K H (.ref t) (.tuple [.str z, .int c]) := .tup (SqT.of h) (.cons (.str z) (.cons (.int c) .nil))
theorem quoted_eq (z : Str) (c : Int) : PyData.eqv (.tuple [.str z, .int c]) (.tuple [.str z, .int c]) = true := by
  show ((z == z) && ((c == c) && true)) = true
  rw [beq_self_eq_true, beq_self_eq_true]
  rfl
theorem cost_shaped (c : Int) : SeqAt.shaped (.tuple [.str "cost", .int c]) = true := by
  have h : SeqAt.shaped (.tuple [.str "cost", .int 0]) = true := by decide +kernel
  exact h
theorem no_name {B : Bk} {n : Str} (h : ∀ o ∈ B, o.1.length ≠ n.length) : B.lookup n = none := by
  cases e : B.lookup n with
  | none => rfl
  | some p => exact absurd rfl (h _ (lookup_mem e))
section
variable {P : Program} {w : World} {K : PySem.W.Frag} {mg : Str → Option Value} {base : Heap}
/-- a known object: through what has changed since -/
local macro_rules | `(tactic| walk_at "oh hp") => `(tactic| first | assumption | exact upd_same | (refine get_new (by assumption) ?_; walk_at "oh hp") | (refine get_mut (by assumption) ?_ (by intro z; cases z); walk_at "oh hp") | (refine same_get (by assumption) ?_; walk_at "oh hp") | (refine ts_get (by assumption) ?_; walk_at "oh hp") | (refine same_get (LL.sm (by assumption)) ?_; walk_at "oh hp") | exact LL.at_ (by assumption))
local macro_rules | `(tactic| walk_at "oh sc") => `(tactic| exact ⟨rfl, rfl, rfl, by decide +kernel, rfl, by decide +kernel, by decide +kernel⟩)
/-- one step of a reading -/
local macro_rules | `(tactic| walk_at "oh 1") => `(tactic| with_reducible first
  | refine i_var rfl ?_ | refine i_c ?_ | refine i_op ?_ | refine i_I0 ?_ | refine i_cons ?_ | refine i_nil ?_ | refine i_asg ?_ | refine i_name ?_ | refine i_seq ?_ | refine i_ifS ?_ | refine i_test ?_ | refine i_bl ?_ | refine i_call ?_ | refine i_CB ?_
  | refine i_tup ?_ | refine i_lst ?_ | refine i_eqI ?_ | refine i_eqS ?_ | refine i_neI ?_ | refine i_un ?_ | refine i_U ?_ | refine i_ret ?_ | refine i_retN ?_ | refine i_next ?_ | refine i_cont ?_ | refine i_drop ?_ | refine i_B ?_ | refine i_and ?_ | refine i_or ?_ | refine i_not ?_ | refine i_mn ?_ | refine i_mx ?_ | refine i_isN ?_ | refine i_notN ?_ | refine i_bm ?_ | refine i_bm0 ?_ | refine i_rn ?_ | refine i_inon ?_ | refine i_nn ?_ | refine i_rn' ?_ | refine i_nn' ?_ | refine i_gcons ?_ | refine i_gnil ?_ | refine i_orV ?_ | refine i_andV ?_ | refine i_notV ?_ | refine i_chain ?_ | refine i_forL ?_ | refine i_iL ?_ | refine i_iT ?_ | refine i_lc ?_ | refine i_yes ?_ | refine i_sortS ?_ | refine i_lenS ?_ | refine i_slL ?_ | refine i_noP ?_ | refine i_part ?_ | refine i_fld ?_ | refine i_sFld ?_ | refine i_dget ?_ | refine i_meth ?_ | refine i_dnot ?_ | refine i_aug rfl ?_ | refine i_ip ?_ | refine iteT ?_ | refine iteF ?_ | refine i_nT ?_ | refine i_nF ?_)
local macro_rules | `(tactic| walk_at "oh 2") => `(tactic| first | ((with_reducible refine' i_sF ?c ?q); (case c => decide +kernel)) | ((with_reducible refine' i_sT ?c ?q); (case c => decide +kernel)) | ((with_reducible refine' i_atP ?h ?c ?n ?l ?q); (case h => walk_at "oh hp"); (case c => assumption); (case n => assumption); (case l => exact Nat.le_of_ble_eq_true rfl)) | ((with_reducible refine' i_atF ?h ?c ?n ?l ?q); (case h => walk_at "oh hp"); (case c => assumption); (case n => assumption); (case l => rfl)) | ((with_reducible refine' i_ixT ?h ?e ?q); (case h => walk_at "oh hp"); (case e => rfl)) | ((with_reducible refine' i_gtup ?h ?e ?q); (case h => walk_at "oh hp"); (case e => rfl)) | ((with_reducible refine' i_atL ?h ?q); (case h => walk_at "oh hp")) | ((with_reducible refine' i_atT ?h ?q); (case h => walk_at "oh hp")) | ((with_reducible refine' i_tyL ?h ?q); (case h => walk_at "oh hp")) | ((with_reducible refine' i_lnL ?h ?q); (case h => walk_at "oh hp")) | ((with_reducible refine' i_lnT ?h ?q); (case h => walk_at "oh hp")))
local macro_rules | `(tactic| walk_at "oh go") => `(tactic| repeat first | walk_at "oh 1" | walk_at "oh 2")
def sp_law (K : PySem.W.Frag) : Sp := fun vs H Q _ => ∃ (a : Addr) (ns : List Int), vs = [.ref a] ∧ SqL K H a (ns.map V.int) ∧ ns.length ≤ 63 ∧ ∀ H', Q (.bl true) H'
theorem sc_law : FnScope ["script", "scale", "offers", "book", "name", "plan", "made", "turn", "x", "due", "found"] ["script"] (defScope s_law) := by walk_at "oh sc"
theorem ok_law (T : Pg K mg) {fd : FuncData} (F : Fun K "law" "law" s_law (He.ga K "law") fd) : FnOk P w K mg base (L2.CX P w) 31 (He.ga K "law") fd ["script"] (sp_law K) := by
  refine F.okX sc_law (fun vs H Q E h => ?_) (fun cdv A outer s H vs Q E hr h => ?_)
  · obtain ⟨a, sn, rfl, _⟩ := h
    rfl
  · obtain ⟨a, sn, rfl, hs, sl, q⟩ := h
    have hu := hu_of hr
    refine ⟨_, pss_cons (ps_set (i := 1) sc_law.nd rfl (Or.inl rfl) (pe_ix ix_list (pe_lst (pa_cons pe_int (pa_cons (pe_op op_pow pe_int pe_int) (pa_cons (pe_op op_pow pe_int pe_int) pa_nil)))) (pe_op op_mod (pe_c0 (ok_law_at T) hr (pa_cons (pv 0) (pa_cons pe_int pa_nil))) pe_int) (fun _ _ => rfl)))
      (pss_cons (ps_set (i := 2) sc_law.nd rfl (Or.inl rfl) (pe_c0 (ok_law_book T) hr (pa_cons (pv 0) pa_nil)))
      (pss_cons (ps_set (i := 3) sc_law.nd rfl (Or.inl rfl) (pe_cl (E := E) (hx := passes_call (takes_of rfl rfl rfl rfl) fun _ _ _ _ h => h) (ok_law_made T) hr (pa_cons (pv 2) pa_nil)))
      (pss_cons (ps_for (passes_of rfl) rfl (pi_list (pv 2)) (pg_tup rfl (pgs_cons (pg_name (i := 4) sc_law.nd rfl (Or.inl rfl)) (pgs_cons (pg_name (i := 5) sc_law.nd rfl (Or.inl rfl)) pgs_nil)))
      (pss_cons (ps_set (i := 6) sc_law.nd rfl (Or.inl rfl) (pe_c0 (ok_law_form_or_none T) hr (pa_cons (pv 3) (pa_cons (pv 4) pa_nil))))
        (pss_one (ps_if (pt_cmpR op_notN1 (pv 6) pe_non (nomark _))
        (pss_cons (ps_set (i := 7) sc_law.nd rfl (Or.inl rfl) pe_int)
          (pss_one (ps_for (passes_of rfl) rfl (pi_list (pe_c0 (ok_law_amounts T 14) hr (pa_cons (pv 5) (pa_cons (pv 2) (pa_cons (pe_slice sl_list (pv 0) po_none (po_some pe_int)) (pa_cons (pv 1) pa_nil)))))) (pg_name (i := 8) sc_law.nd rfl (Or.inl rfl))
          (pss_cons (ps_set (i := 9) sc_law.nd rfl (Or.inl rfl) (pe_c0 (ok_law_cost T 14) hr (pa_cons (pv 5) (pa_cons (pv 8) (pa_cons (pv 2) pa_nil)))))
            (pss_cons (ps_if (pt_cmpR op_ne (pe_c0 (ok_cost_at T) hr (pa_cons (pv 6) (pa_cons (pv 8) pa_nil))) (pv 9) (nomark _))
            (pss_one (ps_ret pe_bl))
            pss_nil)
            (pss_cons (ps_set (i := 7) sc_law.nd rfl (Or.inl rfl) (pe_op op_add (pv 7) pe_int))
            (pss_one (ps_if (pt_cmpR op_eq (pe_op op_mod (pv 7) pe_int) pe_int (nomark _))
            (pss_cons (ps_set (i := 10) sc_law.nd rfl (Or.inl rfl) (pe_c0 (ok_law_quoted T) hr (pa_cons (pv 3) (pa_cons (pv 4) (pa_cons (pv 8) pa_nil)))))
              (pss_one (ps_if (PW.pt (pw_or (PW.pt (pw_and (pt_cmpR op_isN1 (pv 9) pe_non (nomark _)) (pw_and1 (pt_cmpR (op_neD hr.units) (pv 10) (pe_tup (pa_cons pe_str (pa_cons pe_int pa_nil))) (nomark _))))) (pw_or1 (PW.pt (pw_and (pt_cmpR op_notN1 (pv 9) pe_non (nomark _)) (pw_and1 (pt_cmpR (op_neD hr.units) (pv 10) (pe_tup (pa_cons pe_str (pa_cons (pv 9) pa_nil))) (nomark _))))))))
              (pss_one (ps_ret pe_bl))
              pss_nil)))
            pss_nil))))))))
        pss_nil))))
      (pss_one (ps_ret (pe_c0 (ok_law_no_offer T) hr (pa_cons (pv 3) (pa_cons (pe_op op_add_str (pe_ix ix_tup (pe_ix ix_list (pv 2) pe_int (fun _ _ => rfl)) pe_int (fun _ _ => rfl)) pe_str) pa_nil)))))))), ?_⟩
    walk_at "oh go"
    refine i_I (⟨by decide, by decide, by decide⟩ : CPow 10 6) ?_
    rw [t6]
    walk_at "oh go"
    refine i_I (⟨by decide, by decide, by decide⟩ : CPow 10 38) ?_
    rw [t38]
    walk_at "oh go"
    refine ⟨Nat.le_of_ble_eq_true rfl, fun l1 n1 => ?_⟩
    have s1 := same_new n1 (.lst [.int 9, .int 1000000, .int 100000000000000000000000000000000000000])
    walk_at "oh go"
    refine ⟨a, sn, 0, rfl, (SqL.same s1 hs), by decide, fun c0 => ?_⟩
    walk_at "oh go"
    refine i_I (by decide : (0 : Int) < 3) ?_
    obtain ⟨scale, hsc, S⟩ : ∃ scale : Int, atI [V.int 9, V.int 1000000, V.int 100000000000000000000000000000000000000] (c0 % 3) = some (.int scale) ∧ ScaleIn scale := by
      have r0 := Int.emod_nonneg c0 (show (3 : Int) ≠ 0 by decide)
      have r1 := Int.emod_lt_of_pos c0 (show (0 : Int) < 3 by decide)
      generalize c0 % 3 = r at r0 r1
      rcases (by omega : r = 0 ∨ r = 1 ∨ r = 2) with rfl | rfl | rfl
      · exact ⟨_, rfl, by decide, by decide⟩
      · exact ⟨_, rfl, by decide, by decide⟩
      · exact ⟨_, rfl, by decide, by decide⟩
    refine i_ixL upd_same hsc ?_
    generalize upd H l1 (.lst [.int 9, .int 1000000, .int 100000000000000000000000000000000000000]) = H1 at s1
    have hs1 := SqL.same s1 hs
    walk_at "oh go"
    refine ⟨a, sn, rfl, hs1, by omega, fun l us B H2 nl s2 hl hI bk ne nok same_ => ?_⟩
    have hs2 := SqL.same s2 hs1
    walk_at "oh go"
    refine ⟨l, us, B, rfl, hl, hI, bk, nok, fun v H3 s3 hB => ?_⟩
    have hs3 := SqL.same s3 hs2
    have pl3 : PlIn H3 l us B := ⟨s3 _ _ hl, its_id hI fun _ _ => PlO.same s3, bk⟩
    walk_at "oh go"
    refine for_left (H0 := H3) pl3.its (fun r σ H' => ∃ o4 o5 o6 o7 o8 o9 o10, σ = [some (.ref a), some (.int scale), some (.ref l), some v, o4, o5, o6, o7, o8, o9, o10] ∧ Same H3 H' ∧ ∀ o ∈ r, o ∈ B)
      ⟨none, none, none, none, none, none, none, rfl, Same.refl _, fun _ h => h⟩ ?_ ?_ ?_
    · rintro r σ H' ⟨o4, o5, o6, o7, o8, o9, o10, rfl, sm, _⟩
      exact SqL.of (sm _ _ pl3.at_)
    · rintro x ⟨n, p⟩ r σ H4 ⟨t, vp, rfl, ht, hp⟩ ⟨o4, o5, o6, o7, o8, o9, o10, rfl, sm, sub⟩
      have inB := sub _ List.mem_cons_self
      have sub' : ∀ o ∈ r, o ∈ B := fun o ho => sub o (List.mem_cons_of_mem _ ho)
      have en := mem_lookup bk.nodup inB
      have ht4 := sm _ _ ht
      have PI := bk.pin _ inB
      have CI : CostIn H3 l us B 14 p vp := ⟨hp, PI.ok, bk.res _ inB, by have h1 := hg_le p; have h2 := PI.ops; have h3 := bk.nd _ inB; dsimp only at h2 h3; omega, pl3⟩
      walk_at "oh go"
      refine ⟨v, B, n, p, rfl, hB.same sm, bk, en, fun f ef vf H5 s5 hv => ?_, fun ef H5 s5 => ?_⟩
      rotate_left
      · walk_at "oh go"
        exact ⟨_, _, _, _, _, _, _, rfl, sm.trans s5, sub'⟩
      have fin := PI.form ef
      have fok := (fm_ok p f PI.ok ef).2
      obtain ⟨fa, fvs, rfl, hfa, hfI⟩ := hv
      have sm5 := sm.trans s5
      walk_at "oh go"
      refine i_intK ?_
      refine ⟨a, _, rfl, SqL.same sm5 hs3, fun c nc => ?_⟩
      rw [show cutV (sn.map V.int) none (some 12) = (sn.take 12).map V.int from by
        rw [show (12 : Int) = ((12 : Nat) : Int) from rfl, cut_take, List.map_take]]
      have sc := same_new nc (.lst ((sn.take 12).map V.int))
      have hc : upd H5 c (.lst ((sn.take 12).map V.int)) c = some (.lst ((sn.take 12).map V.int)) := upd_same
      have c12 : (sn.take 12).length ≤ 12 := by rw [List.length_take]; omega
      generalize sn.take 12 = cs at sc hc c12 ⊢
      generalize upd H5 c (.lst (cs.map V.int)) = H6 at sc hc ⊢
      have sm6 := sm5.trans sc
      walk_at "oh go"
      refine ⟨vp, p, l, c, us, B, cs, scale, rfl, CI.same sm6, PI.ops, hc, c12, S, fun rx xs H7 nrx s7 hrx x100 xsz => ?_⟩
      have sm7 := sm6.trans s7
      have s57 := sc.trans s7
      walk_at "oh go"
      refine for_left (H0 := H7) (its_ints xs) (fun rest σ H' => ∃ (turn : Int) (o8 o9 o10 : Option V), σ = [some (.ref a), some (.int scale), some (.ref l), some v, some (.str n), some vp, some (.ref fa), some (.int turn), o8, o9, o10] ∧ Same H7 H' ∧ ∀ x ∈ rest, Sz 150 x)
        ⟨0, _, _, _, rfl, Same.refl _, xsz⟩ ?_ ?_ ?_
      · rintro rest σ H' ⟨turn, o8, o9, o10, rfl, sm8, _⟩
        exact SqL.of (sm8 _ _ hrx)
      · rintro vx x rest σ H8 hx ⟨turn, o8, o9, o10, rfl, sm8, szr⟩
        obtain rfl : vx = .int x := hx
        have sx := szr x List.mem_cons_self
        have szr' : ∀ y ∈ rest, Sz 150 y := fun y hy => szr y (List.mem_cons_of_mem _ hy)
        have sm38 := sm7.trans sm8
        walk_at "oh go"
        refine ⟨vp, p, x, l, us, B, rfl, CI.same sm38, sx.mono (by decide), fun H9 s9 => ?_⟩
        walk_at "oh go"
        have sm39 := sm38.trans s9
        have s59 := s57.trans (sm8.trans s9)
        refine ⟨.ref fa, f, x, rfl, ⟨fa, fvs, rfl, s59 _ _ hfa, hfI.mono S4V.mono (.of s59)⟩, fin.fb.mono (by decide) (by decide), sx.mono (by decide), fun H10 s10 => ?_⟩
        walk_at "oh go"
        rw [fok x]
        refine i_neO ?_
        walk_at "oh go"
        refine i_I (by decide : (0 : Int) < 3) ?_
        walk_at "oh go"
        have sm310 := sm39.trans s10
        have s710 := sm8.trans (s9.trans s10)
        refine i_dec (fun c3 => ?_) (fun c3 => ?_)
        · walk_at "oh go"
          refine ⟨v, B, n, x, p, f, rfl, hB.same sm310, bk, sx.mono (by decide), en, ef, fun tq H11 s11 htq => ?_⟩
          walk_at "oh go"
          have s711 := s710.trans s11
          rw [fok x] at htq
          have fin2 : ∀ H', Same H11 H' → ∃ (turn2 : Int) (o8 o9 o10 : Option V), ([some (.ref a), some (.int scale), some (.ref l), some v, some (.str n), some vp, some (.ref fa), some (.int (turn + 1)), some (.int x), some (optV (cost p x)), some (.ref tq)] : L2.St) = [some (.ref a), some (.int scale), some (.ref l), some v, some (.str n), some vp, some (.ref fa), some (.int turn2), o8, o9, o10] ∧ Same H7 H' ∧ ∀ x ∈ rest, Sz 150 x :=
            fun H' s' => ⟨turn + 1, _, _, _, rfl, s711.trans s', szr'⟩
          cases ec : cost p x with
          | none =>
            rw [ec] at htq fin2
            have htq' : H11 tq = some (.tup [.str "none", .int 0]) := htq
            unfold optV
            walk_at "oh go"
            refine ⟨Nat.le_of_ble_eq_true rfl, fun k nk => ?_⟩
            have sk := same_new nk (.tup [.str "none", .int 0])
            walk_at "oh go"
            refine ⟨_, _, quoted_dp (sk _ _ htq'), quoted_dp upd_same, by decide +kernel, by decide +kernel, ?_⟩
            rw [quoted_eq]
            walk_at "oh go"
            exact fin2 _ sk
          | some due =>
            rw [ec] at htq fin2
            have htq' : H11 tq = some (.tup [.str "cost", .int due]) := htq
            unfold optV
            walk_at "oh go"
            refine in_if' ?_
            walk_at "oh go"
            refine ⟨Nat.le_of_ble_eq_true rfl, fun k nk => ?_⟩
            have sk := same_new nk (.tup [.str "cost", .int due])
            walk_at "oh go"
            refine ⟨_, _, quoted_dp (sk _ _ htq'), quoted_dp upd_same, cost_shaped due, cost_shaped due, ?_⟩
            rw [quoted_eq]
            walk_at "oh go"
            exact fin2 _ sk
        · walk_at "oh go"
          exact ⟨_, _, _, _, rfl, s710, szr'⟩
      · rintro σ H8 ⟨turn, o8, o9, o10, rfl, sm8, _⟩
        walk_at "oh go"
        exact ⟨_, _, _, _, _, _, _, rfl, sm7.trans sm8, sub'⟩
    · rintro σ H4 ⟨o4, o5, o6, o7, o8, o9, o10, rfl, sm, _⟩
      walk_at "oh go"
      match us, B, pl3, bk, ne, nok, same_, hB with
      | [], [], _, _, ne, _, _, _ => exact absurd rfl ne
      | [], _ :: _, pl3, _, _, _, _, _ => exact nomatch pl3.its
      | _ :: _, [], pl3, _, _, _, _, _ => exact nomatch pl3.its
      | u :: us, (n, p) :: B, pl3, bk, ne, nok, same_, hB =>
        obtain ⟨t, vp, rfl, ht, hp⟩ : PlO H3 u (n, p) := match pl3.its with | .cons h _ => h
        refine i_ixL (sm _ _ pl3.at_) (atI_nat (j := 0) rfl) ?_
        have ht4 := sm _ _ ht
        walk_at "oh go"
        refine ⟨n, "q", rfl, rfl, small (by have := (nok _ List.mem_cons_self).most; dsimp only at this; show n.length + 1 ≤ _; omega), ?_⟩
        walk_at "oh go"
        refine ⟨v, (n, p) :: B, n ++ "q", rfl, hB.same sm, bk, no_name fun o ho e => ?_, fun H5 s5 => ?_⟩
        · have h1 := same_ o ho (n, p) List.mem_cons_self
          rw [e, Str.length_append] at h1
          have h2 : (n.length + 1 : Nat) = n.length := h1
          omega
        · walk_at "oh go"
          exact q _
end
end OH
set_option Elab.async false
set_option linter.all false
set_option maxRecDepth 100000
set_option maxHeartbeats 0
namespace OH
open PySem PySem.Spec PyProof.Rows L2
theorem law_binds {K : PySem.W.Frag} {f : Addr} {fd : FuncData} (F : Fun K "law" "law" s_law f fd) (s : Shared) (u : Value) : BindsTo s fd ⟨[u], []⟩ [("script", u)] := by
  obtain ⟨oc, od, kV, doc, pm, an, cdv, ct, osl, rfl, lk, hcd⟩ := F.ex
  exact .of_eq rfl
theorem no_way_out {P : Program} {w : World} {H : Hp} {s : Shared} {e : Value} {s' : Shared} (h : L2.CX P w [] H s (fun _ _ _ => False) e s') : False := by
  obtain ⟨_, _, _, _, _, _, _, _, _, _, _, _, z⟩ := h
  exact z
end OH
open PySem PySem.W PySem.Calls PyProof.Rows
theorem PySem.Challenge.cw_offerhouse_k84_whole_quoted_holds : PySem.Challenge.rw_offerhouse_k84_whole_quoted.Holds := by
  w_on; o_law
  refine HandSHeadRun.head_any (r := OpenLaw.row PySem.Challenge.rw_offerhouse_k84_whole_quoted) (q := view (OpenLaw.row PySem.Challenge.rw_offerhouse_k84_whole_quoted).prog [88]) (H := OH.hkA) (ob := OH.obA) (M := 12000) (loose := OH.looseAll)
    (d := HandSHeadRun.topDef (OpenLaw.row PySem.Challenge.rw_offerhouse_k84_whole_quoted).prog 88) (kwd := []) OH.obA_eq (by kernel_rfl) (fun s => by kernel_rfl) OH.runA (by kernel_rfl) (by kernel_rfl) (by kernel_rfl) (by rfl)
    (by first | assumption | decide +kernel) (by decide +kernel) ⟨rfl, rfl, rfl, rfl, rfl, by decide +kernel⟩ ?hw ?hc
  case hw => w_witness2
  case hc =>
    refine LamX.walk_ofTsE (l := PySem.Challenge.rw_offerhouse_k84_whole_quoted) (n := 63) (k := 31) (x := "script") (CX := fun w => L2.CX PySem.Challenge.pw_offerhouse_k84_whole_quoted w) rfl (by decide) (by kernel_rfl) ⟨rfl, by decide, by decide⟩ ?F (fun _ _ _ _ _ h => OH.no_way_out h)
    intro w mg fa h Y G hmg0
    obtain ⟨K, KX, c, ex⟩ := Y
    have T : OH.Pg K mg := ⟨c, ex, h, KX, G⟩
    have hmg : mg ("law" : PySem.Str) = some (.ref fa) := by
      have e : (HandSHeadRun.topDef (OpenLaw.row PySem.Challenge.rw_offerhouse_k84_whole_quoted).prog 88).name = ("law" : PySem.Str) := by kernel_rfl
      rw [← e]
      exact hmg0
    have e := hmg.symm.trans (OH.g_law T)
    cases e
    obtain ⟨fd, F⟩ := OH.F_law T
    exact ⟨K, KX, fd, [], OH.sp_law K, fun p hp => (nomatch hp), fun p hp => (nomatch hp), fun p hp => (nomatch hp), OH.law_binds F, fun H a ns hl _ _ hS => ⟨a, ns, rfl, hS, hl, fun _ => rfl⟩, fun base _ _ _ => OH.ok_law T F⟩

