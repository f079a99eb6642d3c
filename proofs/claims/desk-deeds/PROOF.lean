import PyProof.Rows.All
import Wide.All
import OpenK.AllK
import Wide.FinOn
import HandS.ForMost
import KE.KStateDown
import HandS.Head0
import HandS.Head1
import HandS.Head2
import HandS.HeadEnd
import HandS.HeadHook1
import HandS.HeadHook2
import HandS.HeadHook3
import HandS.HeadHook4
import HandS.Evl
import KE.KDictWalk
import HandS.DictTup
import PyProof.ZipIter
import PyProof.Draws
import HandS.Wide
import HandS.WideMore
import HandS.TupSets
import HandS.Zip
import HandS.Walk
import HandS.Exc
import HandS.ExcOwn
import HandS.ExcIs
import HandS.TryOnly
import HandS.NoneIn
import HandS.Codes
import HandS.IsInst
import HandS.Flow
import HandS.SortKw
import HandS.SetFor
import HandS.WordsExc
import HandS.More
import HandS.SortRule
import HandS.SortInts
import KE.DatumOrd
import KE.DataFind
import PyProof.Rows.CountFlat
import PyProof.SetRoads
import HandS.Strs
import HandS.Text
import KE.IntTextLaws
import PySem.Challenge.RW_pairsheath_k93_desk_deeds
set_option Elab.async false
set_option linter.all false
set_option maxRecDepth 100000
/-! the text by places: each def, its slots -/
namespace KD
open PySem L2
def top (i : Nat) : Stmt := PySem.Challenge.pw_pairsheath_k93_desk_deeds.main.body.getD i (.Pass ⟨0, 0, 0, 0⟩)
abbrev s_left : Stmt := top 2
theorem sc_left : FnScope ["web", "pairs", "used", "a", "b"] ["web", "pairs"] (defScope s_left) := ⟨rfl, rfl, rfl, by decide +kernel, rfl, by decide +kernel, by decide +kernel⟩
abbrev s_partner : Stmt := top 3
theorem sc_partner : FnScope ["pairs", "a", "one", "other"] ["pairs", "a"] (defScope s_partner) := ⟨rfl, rfl, rfl, by decide +kernel, rfl, by decide +kernel, by decide +kernel⟩
abbrev s_Web_init : Stmt := inClass (top 21) 0
theorem sc_Web_init : FnScope ["self", "many", "ties", "a", "b", "heavy", "k"] ["self", "many", "ties"] (defScope s_Web_init) := ⟨rfl, rfl, rfl, by decide +kernel, rfl, by decide +kernel, by decide +kernel⟩
abbrev s_Web_size : Stmt := inClass (top 21) 1
theorem sc_Web_size : FnScope ["self"] ["self"] (defScope s_Web_size) := ⟨rfl, rfl, rfl, by decide +kernel, rfl, by decide +kernel, by decide +kernel⟩
abbrev s_Web_ties : Stmt := inClass (top 21) 2
theorem sc_Web_ties : FnScope ["self", "ends", "heavy"] ["self"] (defScope s_Web_ties) := ⟨rfl, rfl, rfl, by decide +kernel, rfl, by decide +kernel, by decide +kernel⟩
abbrev s_Web_weight : Stmt := inClass (top 21) 3
theorem sc_Web_weight : FnScope ["self", "a", "b"] ["self", "a", "b"] (defScope s_Web_weight) := ⟨rfl, rfl, rfl, by decide +kernel, rfl, by decide +kernel, by decide +kernel⟩
abbrev s_Web_tied : Stmt := inClass (top 21) 4
theorem sc_Web_tied : FnScope ["self", "a"] ["self", "a"] (defScope s_Web_tied) := ⟨rfl, rfl, rfl, by decide +kernel, rfl, by decide +kernel, by decide +kernel⟩
abbrev s_grown : Stmt := top 26
theorem sc_grown : FnScope ["web", "pairs", "rows", "ends", "a", "k", "b", "c"] ["web", "pairs"] (defScope s_grown) := ⟨rfl, rfl, rfl, by decide +kernel, rfl, by decide +kernel, by decide +kernel⟩
abbrev s_better : Stmt := top 33
theorem sc_better : FnScope ["web", "pairs", "one", "other", "ends", "groups", "row"] ["web", "pairs"] (defScope s_better) := ⟨rfl, rfl, rfl, by decide +kernel, rfl, by decide +kernel, by decide +kernel⟩
abbrev s_most : Stmt := top 36
theorem sc_most : FnScope ["web", "pairs", "row"] ["web"] (defScope s_most) := ⟨rfl, rfl, rfl, by decide +kernel, rfl, by decide +kernel, by decide +kernel⟩
abbrev s_reached : Stmt := top 48
theorem sc_reached : FnScope ["web", "start", "seen", "found", "waiting", "b"] ["web", "start", "seen"] (defScope s_reached) := ⟨rfl, rfl, rfl, by decide +kernel, rfl, by decide +kernel, by decide +kernel⟩
abbrev s_parts : Stmt := top 49
theorem sc_parts : FnScope ["web", "out", "seen", "a", "found"] ["web", "out"] (defScope s_parts) := ⟨rfl, rfl, rfl, by decide +kernel, rfl, by decide +kernel, by decide +kernel⟩
abbrev s_spared_from : Stmt := top 55
theorem sc_spared_from : FnScope ["web", "pairs", "a", "rest", "row", "pair"] ["web", "pairs", "a"] (defScope s_spared_from) := ⟨rfl, rfl, rfl, by decide +kernel, rfl, by decide +kernel, by decide +kernel⟩
abbrev s_kinds : Stmt := top 56
theorem sc_kinds : FnScope ["web", "pairs", "spare", "beside", "rest", "a", "b"] ["web"] (defScope s_kinds) := ⟨rfl, rfl, rfl, by decide +kernel, rfl, by decide +kernel, by decide +kernel⟩
abbrev s_refuse_unfit : Stmt := top 85
theorem sc_refuse_unfit : FnScope ["web", "home", "tied", "part", "tie"] ["web", "home"] (defScope s_refuse_unfit) := ⟨rfl, rfl, rfl, by decide +kernel, rfl, by decide +kernel, by decide +kernel⟩
abbrev s_walk : Stmt := top 87
theorem sc_walk : FnScope ["web", "home", "points", "again", "distances", "prices", "times", "a", "b", "heavy"] ["web", "home"] (defScope s_walk) := ⟨rfl, rfl, rfl, by decide +kernel, rfl, by decide +kernel, by decide +kernel⟩
abbrev s_copied : Stmt := top 90
theorem sc_copied : FnScope ["web", "numbers", "owners", "a", "ties", "i", "j"] ["web", "numbers"] (defScope s_copied) := ⟨rfl, rfl, rfl, by decide +kernel, rfl, by decide +kernel, by decide +kernel⟩
abbrev s_wanted : Stmt := top 91
theorem sc_wanted : FnScope ["web", "numbers", "small", "owners", "pairs", "found", "i", "j", "ends"] ["web", "numbers"] (defScope s_wanted) := ⟨rfl, rfl, rfl, by decide +kernel, rfl, by decide +kernel, by decide +kernel⟩
abbrev s_field : Stmt := top 93
theorem sc_field : FnScope ["words"] ["words"] (defScope s_field) := ⟨rfl, rfl, rfl, by decide +kernel, rfl, by decide +kernel, by decide +kernel⟩
abbrev s_points_told : Stmt := top 94
theorem sc_points_told : FnScope ["names", "points", "a"] ["names", "points"] (defScope s_points_told) := ⟨rfl, rfl, rfl, by decide +kernel, rfl, by decide +kernel, by decide +kernel⟩
abbrev s_wanted_told : Stmt := top 101
theorem sc_wanted_told : FnScope ["names", "web", "numbers", "found", "a", "b", "times"] ["names", "web", "numbers"] (defScope s_wanted_told) := ⟨rfl, rfl, rfl, by decide +kernel, rfl, by decide +kernel, by decide +kernel⟩
abbrev s_walk_told : Stmt := top 104
theorem sc_walk_told : FnScope ["names", "web", "home", "points", "distances", "prices", "cost", "a", "b", "over"] ["names", "web", "home"] (defScope s_walk_told) := ⟨rfl, rfl, rfl, by decide +kernel, rfl, by decide +kernel, by decide +kernel⟩
abbrev s_is_name : Stmt := top 108
theorem sc_is_name : FnScope ["word", "sign"] ["word"] (defScope s_is_name) := ⟨rfl, rfl, rfl, by decide +kernel, rfl, by decide +kernel, by decide +kernel⟩
abbrev s_is_number : Stmt := top 109
theorem sc_is_number : FnScope ["word", "figures", "sign"] ["word"] (defScope s_is_number) := ⟨rfl, rfl, rfl, by decide +kernel, rfl, by decide +kernel, by decide +kernel⟩
abbrev s_shown : Stmt := top 110
theorem sc_shown : FnScope ["names", "web", "things", "a", "b", "heavy"] ["names", "web"] (defScope s_shown) := ⟨rfl, rfl, rfl, by decide +kernel, rfl, by decide +kernel, by decide +kernel⟩
abbrev s_fits_shape : Stmt := top 115
theorem sc_fits_shape : FnScope ["word", "sign"] ["word", "sign"] (defScope s_fits_shape) := ⟨rfl, rfl, rfl, by decide +kernel, rfl, by decide +kernel, by decide +kernel⟩
abbrev s_shape_of : Stmt := top 116
theorem sc_shape_of : FnScope ["words", "many"] ["words", "many"] (defScope s_shape_of) := ⟨rfl, rfl, rfl, by decide +kernel, rfl, by decide +kernel, by decide +kernel⟩
abbrev s_words_of : Stmt := top 117
theorem sc_words_of : FnScope ["row", "many", "words", "shape", "word", "sign"] ["row", "many"] (defScope s_words_of) := ⟨rfl, rfl, rfl, by decide +kernel, rfl, by decide +kernel, by decide +kernel⟩
abbrev s_Desk_init : Stmt := inClass (top 118) 0
theorem sc_Desk_init : FnScope ["self"] ["self"] (defScope s_Desk_init) := ⟨rfl, rfl, rfl, by decide +kernel, rfl, by decide +kernel, by decide +kernel⟩
abbrev s_Desk_say : Stmt := inClass (top 118) 1
theorem sc_Desk_say : FnScope ["self", "row", "words", "web", "numbers", "a", "b", "heavy", "word"] ["self", "row"] (defScope s_Desk_say) := ⟨rfl, rfl, rfl, by decide +kernel, rfl, by decide +kernel, by decide +kernel⟩
abbrev s_Desk_look_at_names : Stmt := inClass (top 118) 2
theorem sc_Desk_look_at_names : FnScope ["self", "words", "k", "fresh"] ["self", "words"] (defScope s_Desk_look_at_names) := ⟨rfl, rfl, rfl, by decide +kernel, rfl, by decide +kernel, by decide +kernel⟩
abbrev s_Desk_change : Stmt := inClass (top 118) 3
theorem sc_Desk_change : FnScope ["self", "words", "a", "b"] ["self", "words"] (defScope s_Desk_change) := ⟨rfl, rfl, rfl, by decide +kernel, rfl, by decide +kernel, by decide +kernel⟩
abbrev s_Desk_go : Stmt := inClass (top 118) 4
theorem sc_Desk_go : FnScope ["self", "gone", "behind", "a", "b", "heavy"] ["self", "gone"] (defScope s_Desk_go) := ⟨rfl, rfl, rfl, by decide +kernel, rfl, by decide +kernel, by decide +kernel⟩
abbrev s_Desk_asked : Stmt := inClass (top 118) 5
theorem sc_Desk_asked : FnScope ["self", "words", "web", "numbers", "word"] ["self", "words", "web"] (defScope s_Desk_asked) := ⟨rfl, rfl, rfl, by decide +kernel, rfl, by decide +kernel, by decide +kernel⟩
abbrev s_l_cell_at : Stmt := top 120
theorem sc_l_cell_at : FnScope ["_law_script", "_law_k"] ["_law_script", "_law_k"] (defScope s_l_cell_at) := ⟨rfl, rfl, rfl, by decide +kernel, rfl, by decide +kernel, by decide +kernel⟩
abbrev s_l_mixed : Stmt := top 121
theorem sc_l_mixed : FnScope ["_law_cell", "_law_factor"] ["_law_cell", "_law_factor"] (defScope s_l_mixed) := ⟨rfl, rfl, rfl, by decide +kernel, rfl, by decide +kernel, by decide +kernel⟩
abbrev s_l_pool : Stmt := top 122
theorem sc_l_pool : FnScope ["_law_number_here", "_law_many", "_law_letters", "_law_found", "_law_k", "_law_word", "_law_at", "_law_letter"] ["_law_number_here", "_law_many"] (defScope s_l_pool) := ⟨rfl, rfl, rfl, by decide +kernel, rfl, by decide +kernel, by decide +kernel⟩
abbrev s_l_number : Stmt := top 123
theorem sc_l_number : FnScope ["_law_cell"] ["_law_cell"] (defScope s_l_number) := ⟨rfl, rfl, rfl, by decide +kernel, rfl, by decide +kernel, by decide +kernel⟩
abbrev s_l_named : Stmt := top 124
theorem sc_l_named : FnScope ["_law_names", "_law_pool_here", "_law_number_here"] ["_law_names", "_law_pool_here", "_law_number_here"] (defScope s_l_named) := ⟨rfl, rfl, rfl, by decide +kernel, rfl, by decide +kernel, by decide +kernel⟩
abbrev s_l_broken : Stmt := top 125
theorem sc_l_broken : FnScope ["_law_one", "_law_other", "_law_number_here", "_law_some"] ["_law_one", "_law_other", "_law_number_here"] (defScope s_l_broken) := ⟨rfl, rfl, rfl, by decide +kernel, rfl, by decide +kernel, by decide +kernel⟩
abbrev s_l_form : Stmt := top 126
theorem sc_l_form : FnScope ["_law_names", "_law_number_here", "_law_many"] ["_law_names", "_law_number_here"] (defScope s_l_form) := ⟨rfl, rfl, rfl, by decide +kernel, rfl, by decide +kernel, by decide +kernel⟩
abbrev s_l_bound_right : Stmt := top 127
theorem sc_l_bound_right : FnScope ["_law_desk", "_law_names", "_law_rest", "_law_found"] ["_law_desk", "_law_names"] (defScope s_l_bound_right) := ⟨rfl, rfl, rfl, by decide +kernel, rfl, by decide +kernel, by decide +kernel⟩
abbrev s_l_question : Stmt := top 128
theorem sc_l_question : FnScope ["_law_names", "_law_one", "_law_other", "_law_number_here", "_law_many", "_law_some"] ["_law_names", "_law_one", "_law_other", "_law_number_here"] (defScope s_l_question) := ⟨rfl, rfl, rfl, by decide +kernel, rfl, by decide +kernel, by decide +kernel⟩
abbrev s_l_row : Stmt := top 129
theorem sc_l_row : FnScope ["_law_names", "_law_pool_here", "_law_cell", "_law_number_here", "_law_one", "_law_other", "_law_fresh", "_law_way"] ["_law_names", "_law_pool_here", "_law_cell"] (defScope s_l_row) := ⟨rfl, rfl, rfl, by decide +kernel, rfl, by decide +kernel, by decide +kernel⟩
abbrev s_l_walk_due : Stmt := top 130
theorem sc_l_walk_due : FnScope ["_law_names", "_law_table", "_law_home", "_law_ends", "_law_one", "_law_other", "_law_row_here", "_law_k", "_law_word"] ["_law_names", "_law_table", "_law_home"] (defScope s_l_walk_due) := ⟨rfl, rfl, rfl, by decide +kernel, rfl, by decide +kernel, by decide +kernel⟩
abbrev s_l_question_due : Stmt := top 131
theorem sc_l_question_due : FnScope ["_law_names", "_law_table", "_law_words", "_law_word"] ["_law_names", "_law_table", "_law_words"] (defScope s_l_question_due) := ⟨rfl, rfl, rfl, by decide +kernel, rfl, by decide +kernel, by decide +kernel⟩
abbrev s_l_due : Stmt := top 132
theorem sc_l_due : FnScope ["_law_names", "_law_table", "_law_words"] ["_law_names", "_law_table", "_law_words"] (defScope s_l_due) := ⟨rfl, rfl, rfl, by decide +kernel, rfl, by decide +kernel, by decide +kernel⟩
abbrev s_l_done : Stmt := top 133
theorem sc_l_done : FnScope ["_law_names", "_law_table", "_law_words", "_law_behind", "_law_found", "_law_one", "_law_other", "_law_pair", "_law_gone", "_law_word"] ["_law_names", "_law_table", "_law_words"] (defScope s_l_done) := ⟨rfl, rfl, rfl, by decide +kernel, rfl, by decide +kernel, by decide +kernel⟩
abbrev s_l_web : Stmt := top 134
theorem sc_l_web : FnScope ["_law_names", "_law_table", "_law_rows", "_law_one", "_law_other", "_law_a", "_law_b", "_law_heavy"] ["_law_names", "_law_table"] (defScope s_l_web) := ⟨rfl, rfl, rfl, by decide +kernel, rfl, by decide +kernel, by decide +kernel⟩
abbrev s_l_said : Stmt := top 135
theorem sc_l_said : FnScope ["_law_desk", "_law_row_here", "_law_told", "_law_found", "error", "_law_some"] ["_law_desk", "_law_row_here"] (defScope s_l_said) := ⟨rfl, rfl, rfl, by decide +kernel, rfl, by decide +kernel, by decide +kernel⟩
abbrev s_law : Stmt := top 136
theorem sc_law : FnScope ["_law_script", "_law_head", "_law_pool_here", "_law_desk", "_law_other", "_law_names", "_law_table", "_law_cell", "_law_row_here", "_law_words", "_law_due_here", "_law_found"] ["_law_script"] (defScope s_law) := ⟨rfl, rfl, rfl, by decide +kernel, rfl, by decide +kernel, by decide +kernel⟩
end KD
set_option maxHeartbeats 0
/-! the head: the facts of the defs, classes, tables; the top run once in the kernel -/
namespace KD
open PySem PySem.Spec PyProof.Rows L2
def d_left : He.DefD := { at_ := ("left", none), name := "left", qual := "left", params := defArgs s_left, body := defBody s_left, scope := defScope s_left }
def d_partner : He.DefD := { at_ := ("partner", none), name := "partner", qual := "partner", params := defArgs s_partner, body := defBody s_partner, scope := defScope s_partner }
def d_Web_init : He.DefD := { at_ := ("Web", some "__init__"), name := "__init__", qual := "Web.__init__", params := defArgs s_Web_init, body := defBody s_Web_init, scope := defScope s_Web_init }
def d_Web_size : He.DefD := { at_ := ("Web", some "size"), name := "size", qual := "Web.size", params := defArgs s_Web_size, body := defBody s_Web_size, scope := defScope s_Web_size }
def d_Web_ties : He.DefD := { at_ := ("Web", some "ties"), name := "ties", qual := "Web.ties", params := defArgs s_Web_ties, body := defBody s_Web_ties, scope := defScope s_Web_ties }
def d_Web_weight : He.DefD := { at_ := ("Web", some "weight"), name := "weight", qual := "Web.weight", params := defArgs s_Web_weight, body := defBody s_Web_weight, scope := defScope s_Web_weight }
def d_Web_tied : He.DefD := { at_ := ("Web", some "tied"), name := "tied", qual := "Web.tied", params := defArgs s_Web_tied, body := defBody s_Web_tied, scope := defScope s_Web_tied }
def d_grown : He.DefD := { at_ := ("grown", none), name := "grown", qual := "grown", params := defArgs s_grown, body := defBody s_grown, scope := defScope s_grown }
def d_better : He.DefD := { at_ := ("better", none), name := "better", qual := "better", params := defArgs s_better, body := defBody s_better, scope := defScope s_better }
def d_most : He.DefD := { at_ := ("most", none), name := "most", qual := "most", params := defArgs s_most, body := defBody s_most, scope := defScope s_most }
def d_reached : He.DefD := { at_ := ("reached", none), name := "reached", qual := "reached", params := defArgs s_reached, body := defBody s_reached, scope := defScope s_reached }
def d_parts : He.DefD := { at_ := ("parts", none), name := "parts", qual := "parts", params := defArgs s_parts, body := defBody s_parts, scope := defScope s_parts }
def d_spared_from : He.DefD := { at_ := ("spared_from", none), name := "spared_from", qual := "spared_from", params := defArgs s_spared_from, body := defBody s_spared_from, scope := defScope s_spared_from }
def d_kinds : He.DefD := { at_ := ("kinds", none), name := "kinds", qual := "kinds", params := defArgs s_kinds, body := defBody s_kinds, scope := defScope s_kinds }
def d_refuse_unfit : He.DefD := { at_ := ("refuse_unfit", none), name := "refuse_unfit", qual := "refuse_unfit", params := defArgs s_refuse_unfit, body := defBody s_refuse_unfit, scope := defScope s_refuse_unfit }
def d_walk : He.DefD := { at_ := ("walk", none), name := "walk", qual := "walk", params := defArgs s_walk, body := defBody s_walk, scope := defScope s_walk, dfl := [.int 0] }
def d_copied : He.DefD := { at_ := ("copied", none), name := "copied", qual := "copied", params := defArgs s_copied, body := defBody s_copied, scope := defScope s_copied }
def d_wanted : He.DefD := { at_ := ("wanted", none), name := "wanted", qual := "wanted", params := defArgs s_wanted, body := defBody s_wanted, scope := defScope s_wanted }
def d_field : He.DefD := { at_ := ("field", none), name := "field", qual := "field", params := defArgs s_field, body := defBody s_field, scope := defScope s_field }
def d_points_told : He.DefD := { at_ := ("points_told", none), name := "points_told", qual := "points_told", params := defArgs s_points_told, body := defBody s_points_told, scope := defScope s_points_told }
def d_wanted_told : He.DefD := { at_ := ("wanted_told", none), name := "wanted_told", qual := "wanted_told", params := defArgs s_wanted_told, body := defBody s_wanted_told, scope := defScope s_wanted_told }
def d_walk_told : He.DefD := { at_ := ("walk_told", none), name := "walk_told", qual := "walk_told", params := defArgs s_walk_told, body := defBody s_walk_told, scope := defScope s_walk_told }
def d_is_name : He.DefD := { at_ := ("is_name", none), name := "is_name", qual := "is_name", params := defArgs s_is_name, body := defBody s_is_name, scope := defScope s_is_name }
def d_is_number : He.DefD := { at_ := ("is_number", none), name := "is_number", qual := "is_number", params := defArgs s_is_number, body := defBody s_is_number, scope := defScope s_is_number }
def d_shown : He.DefD := { at_ := ("shown", none), name := "shown", qual := "shown", params := defArgs s_shown, body := defBody s_shown, scope := defScope s_shown }
def d_fits_shape : He.DefD := { at_ := ("fits_shape", none), name := "fits_shape", qual := "fits_shape", params := defArgs s_fits_shape, body := defBody s_fits_shape, scope := defScope s_fits_shape }
def d_shape_of : He.DefD := { at_ := ("shape_of", none), name := "shape_of", qual := "shape_of", params := defArgs s_shape_of, body := defBody s_shape_of, scope := defScope s_shape_of }
def d_words_of : He.DefD := { at_ := ("words_of", none), name := "words_of", qual := "words_of", params := defArgs s_words_of, body := defBody s_words_of, scope := defScope s_words_of }
def d_Desk_init : He.DefD := { at_ := ("Desk", some "__init__"), name := "__init__", qual := "Desk.__init__", params := defArgs s_Desk_init, body := defBody s_Desk_init, scope := defScope s_Desk_init }
def d_Desk_say : He.DefD := { at_ := ("Desk", some "say"), name := "say", qual := "Desk.say", params := defArgs s_Desk_say, body := defBody s_Desk_say, scope := defScope s_Desk_say }
def d_Desk_look_at_names : He.DefD := { at_ := ("Desk", some "look_at_names"), name := "look_at_names", qual := "Desk.look_at_names", params := defArgs s_Desk_look_at_names, body := defBody s_Desk_look_at_names, scope := defScope s_Desk_look_at_names }
def d_Desk_change : He.DefD := { at_ := ("Desk", some "change"), name := "change", qual := "Desk.change", params := defArgs s_Desk_change, body := defBody s_Desk_change, scope := defScope s_Desk_change }
def d_Desk_go : He.DefD := { at_ := ("Desk", some "go"), name := "go", qual := "Desk.go", params := defArgs s_Desk_go, body := defBody s_Desk_go, scope := defScope s_Desk_go }
def d_Desk_asked : He.DefD := { at_ := ("Desk", some "asked"), name := "asked", qual := "Desk.asked", params := defArgs s_Desk_asked, body := defBody s_Desk_asked, scope := defScope s_Desk_asked }
def d_l_cell_at : He.DefD := { at_ := ("_law_cell_at", none), name := "_law_cell_at", qual := "_law_cell_at", params := defArgs s_l_cell_at, body := defBody s_l_cell_at, scope := defScope s_l_cell_at }
def d_l_mixed : He.DefD := { at_ := ("_law_mixed", none), name := "_law_mixed", qual := "_law_mixed", params := defArgs s_l_mixed, body := defBody s_l_mixed, scope := defScope s_l_mixed }
def d_l_pool : He.DefD := { at_ := ("_law_pool", none), name := "_law_pool", qual := "_law_pool", params := defArgs s_l_pool, body := defBody s_l_pool, scope := defScope s_l_pool }
def d_l_number : He.DefD := { at_ := ("_law_number", none), name := "_law_number", qual := "_law_number", params := defArgs s_l_number, body := defBody s_l_number, scope := defScope s_l_number }
def d_l_named : He.DefD := { at_ := ("_law_named", none), name := "_law_named", qual := "_law_named", params := defArgs s_l_named, body := defBody s_l_named, scope := defScope s_l_named }
def d_l_broken : He.DefD := { at_ := ("_law_broken", none), name := "_law_broken", qual := "_law_broken", params := defArgs s_l_broken, body := defBody s_l_broken, scope := defScope s_l_broken }
def d_l_form : He.DefD := { at_ := ("_law_form", none), name := "_law_form", qual := "_law_form", params := defArgs s_l_form, body := defBody s_l_form, scope := defScope s_l_form }
def d_l_bound_right : He.DefD := { at_ := ("_law_bound_right", none), name := "_law_bound_right", qual := "_law_bound_right", params := defArgs s_l_bound_right, body := defBody s_l_bound_right, scope := defScope s_l_bound_right }
def d_l_question : He.DefD := { at_ := ("_law_question", none), name := "_law_question", qual := "_law_question", params := defArgs s_l_question, body := defBody s_l_question, scope := defScope s_l_question }
def d_l_row : He.DefD := { at_ := ("_law_row", none), name := "_law_row", qual := "_law_row", params := defArgs s_l_row, body := defBody s_l_row, scope := defScope s_l_row }
def d_l_walk_due : He.DefD := { at_ := ("_law_walk_due", none), name := "_law_walk_due", qual := "_law_walk_due", params := defArgs s_l_walk_due, body := defBody s_l_walk_due, scope := defScope s_l_walk_due }
def d_l_question_due : He.DefD := { at_ := ("_law_question_due", none), name := "_law_question_due", qual := "_law_question_due", params := defArgs s_l_question_due, body := defBody s_l_question_due, scope := defScope s_l_question_due }
def d_l_due : He.DefD := { at_ := ("_law_due", none), name := "_law_due", qual := "_law_due", params := defArgs s_l_due, body := defBody s_l_due, scope := defScope s_l_due }
def d_l_done : He.DefD := { at_ := ("_law_done", none), name := "_law_done", qual := "_law_done", params := defArgs s_l_done, body := defBody s_l_done, scope := defScope s_l_done }
def d_l_web : He.DefD := { at_ := ("_law_web", none), name := "_law_web", qual := "_law_web", params := defArgs s_l_web, body := defBody s_l_web, scope := defScope s_l_web }
def d_l_said : He.DefD := { at_ := ("_law_said", none), name := "_law_said", qual := "_law_said", params := defArgs s_l_said, body := defBody s_l_said, scope := defScope s_l_said }
def d_law : He.DefD := { at_ := ("law", none), name := "law", qual := "law", params := defArgs s_law, body := defBody s_law, scope := defScope s_law }
def fn_0 : List He.DefD := [d_left, d_partner, d_Web_init, d_Web_size, d_Web_ties, d_Web_weight, d_Web_tied, d_grown, d_better, d_most, d_reached, d_parts]
def fn_1 : List He.DefD := [d_spared_from, d_kinds, d_refuse_unfit, d_walk, d_copied, d_wanted, d_field, d_points_told, d_wanted_told, d_walk_told, d_is_name, d_is_number]
def fn_2 : List He.DefD := [d_shown, d_fits_shape, d_shape_of, d_words_of, d_Desk_init, d_Desk_say, d_Desk_look_at_names, d_Desk_change, d_Desk_go, d_Desk_asked, d_l_cell_at, d_l_mixed]
def fn_3 : List He.DefD := [d_l_pool, d_l_number, d_l_named, d_l_broken, d_l_form, d_l_bound_right, d_l_question, d_l_row, d_l_walk_due, d_l_question_due, d_l_due, d_l_done]
def fn_4 : List He.DefD := [d_l_web, d_l_said, d_law]
def fn : List He.DefD := fn_0 ++ fn_1 ++ fn_2 ++ fn_3 ++ fn_4
def fa_0 : List He.Fa := [.glo "left", .glo "partner", .glo "grown", .glo "better", .glo "most", .glo "reached", .glo "parts", .glo "spared_from", .glo "kinds", .glo "refuse_unfit", .glo "walk", .glo "copied", .glo "wanted", .glo "field", .glo "points_told", .glo "wanted_told", .glo "walk_told", .glo "is_name", .glo "is_number", .glo "shown"]
def fa_1 : List He.Fa := [.glo "fits_shape", .glo "shape_of", .glo "words_of", .glo "_law_cell_at", .glo "_law_mixed", .glo "_law_pool", .glo "_law_number", .glo "_law_named", .glo "_law_broken", .glo "_law_form", .glo "_law_bound_right", .glo "_law_question", .glo "_law_row", .glo "_law_walk_due", .glo "_law_question_due", .glo "_law_due", .glo "_law_done", .glo "_law_web", .glo "_law_said", .glo "law"]
def fa_2 : List He.Fa := [.glo "Web", .glo "Desk", .glo "WebError", .glo "SHAPES", .glo "BadRow", .glo "Taken", .glo "NoName", .glo "TooMany", .glo "BadTie", .glo "NoTie", .glo "BelowNought", .glo "Apart", .free "len", .free "range", .free "zip", .free "sorted", .free "min", .free "max", .free "sum", .free "int"]
def fa_3 : List He.Fa := [.free "str", .free "isinstance", .free "set", .free "all", .free "any", .free "list", .free "ValueError", .int "MOST_POINTS" 24, .int "MOST_HERE" 12, .int "MOST_WANTED_desk" 24, .int "MOST_WANTED_wanted" 24, .str "LETTERS" "abcdefghijklmnopqrstuvwxyz", .str "FIGURES" "0123456789", .cls "Web", .mkr "Web", .noat "Web" "many", .noat "Web" "table", .noat "Web" "ends", .cls "Desk", .mkr "Desk"]
def fa_4 : List He.Fa := [.noat "Desk" "named", .noat "Desk" "table", .meth "Web" "size", .meth "Web" "ties", .meth "Web" "weight", .meth "Web" "tied", .meth "Desk" "say", .meth "Desk" "look_at_names", .meth "Desk" "change", .meth "Desk" "go", .meth "Desk" "asked", .exc "BadRow", .exc "Taken", .exc "NoName", .exc "TooMany", .exc "BadTie", .exc "NoTie", .exc "BelowNought", .exc "Apart", .exc "WebError"]
def fa_5 : List He.Fa := [.exm "BadRow" "WebError" true, .exm "Taken" "WebError" true, .exm "NoName" "WebError" true, .exm "TooMany" "WebError" true, .exm "BadTie" "WebError" true, .exm "NoTie" "WebError" true, .exm "BelowNought" "WebError" true, .exm "Apart" "WebError" true]
def fa : List He.Fa := fa_0 ++ fa_1 ++ fa_2 ++ fa_3 ++ fa_4 ++ fa_5
def shKeys : List Str := ["point", "tie", "untie", "gone", "rename", "web", "most", "spare", "heaviest", "paired", "walk"]
def shVals : List (Str × He.Dv) := [("point", .str "n"), ("tie", .str "nnw"), ("untie", .str "nn"), ("gone", .str "n"), ("rename", .str "nn"), ("web", .str ""), ("most", .str ""), ("spare", .str ""), ("heaviest", .str ""), ("paired", .str ""), ("walk", .str "n")]
def ts : List He.Tab := [((fun K => He.ga K "SHAPES"), shKeys)]
def errN : List Str := ["BadRow", "Taken", "NoName", "TooMany", "BadTie", "NoTie", "BelowNought", "Apart"]
/-- what isinstance and the catch ask of an own class of error -/
def excB (K : PySem.W.Frag) (D : Addr) : Bool :=
  He.eqO (PySem.W.findIn K (.ref D) "__getattribute__") (some (some (.builtin "BaseException.__getattribute__"))) &&
  (He.eqO (PySem.W.findIn K (.ref D) "__getattr__") (some none) && (decide (PySem.W.subIn K (.ref D) (.type "BaseException") = some true) &&
  (PySem.W.hasDictIn K D && (He.eqO (PySem.W.findIn K (.ref D) "__class__") (some (some (.builtin "object.__class__"))) && decide (PySem.W.mroIn K D (.type "object") = some true)))))
def isB (K : PySem.W.Frag) : Bool :=
  He.eqO (PySem.W.specialIn K (.builtin "object.__class__") "__get__") (some (some (.builtin "getset_descriptor.__get__"))) && decide (PySem.W.takesIn K (.builtin "object.__class__") = some true)
def kitB (K : PySem.W.Frag) : Bool := errN.all fun x => errN.all fun y => decide (PySem.W.kitOne K (.ref (He.ga K x)) (.ref (He.ga K y)) = some (decide (x = y)))
def kitV (K : PySem.W.Frag) : Bool := errN.all fun x => decide (PySem.W.kitOne K (.ref (He.ga K x)) (.type "ValueError") = some true)
def exB (K : PySem.W.Frag) : Bool := (errN.all fun x => excB K (He.ga K x)) && (isB K && (kitB K && (kitV K && He.valsB K (He.ga K "SHAPES") shVals)))
def lawI : Nat := 136
def loose_0 : List Str := ["worth", "left", "partner", "tie_of", "ties_along", "exchanged", "WebError", "TooMany", "BadTie", "Twice", "NoTie", "BelowNought", "Apart", "BadRow", "NoName", "Taken", "MOST_POINTS", "Web", "numbers_of", "drawn", "grown", "ring_of", "grouped", "drawn_pairs", "inside", "opened", "opened_search", "better", "reached_ends", "most"]
def loose_1 : List Str := ["reason", "top_of", "tops", "kids", "joined", "opened_families", "hole_of", "unfolded", "reached", "parts", "odd_parts", "cut_price", "bare_of", "spared_from", "kinds", "BESIDE", "REST", "Deal", "best_above", "marked", "twice_the_step", "move", "sum_of", "open_free", "settle", "holes_of", "heaviest", "all_paired", "nearest", "ways"]
def loose_2 : List Str := ["lacking", "turned", "signless", "far_web", "cost_of", "turn_along", "odd_ties", "refuse_unfit", "gone_along", "walk", "MOST_WANTED_wanted", "copied", "wanted", "field", "points_told", "pairs_told", "prices_told", "most_told", "spare_told", "heaviest_told", "paired_told", "wanted_told", "points_to_turn", "odd_told", "walk_told", "LETTERS", "FIGURES", "is_name", "is_number", "shown"]
def loose_3 : List Str := ["MOST_HERE", "MOST_WANTED_desk", "SHAPES", "fits_shape", "shape_of", "words_of", "Desk", "_law_cell_at", "_law_mixed", "_law_pool", "_law_number", "_law_named", "_law_broken", "_law_form", "_law_bound_right", "_law_question", "_law_row", "_law_walk_due", "_law_question_due", "_law_due", "_law_done", "_law_web", "_law_said"]
def loose : List Str := loose_0 ++ loose_1 ++ loose_2 ++ loose_3
def asL_0 : List Addr := [3, 645, 210, 209, 714, 713, 58, 57, 143, 142, 167, 166, 155, 154, 71, 70, 83, 82, 107, 106, 119, 118, 131, 130, 24, 23, 31, 30, 181, 180]
def asL_1 : List Addr := [188, 187, 193, 192, 200, 199, 207, 206, 233, 232, 271, 270, 285, 284, 340, 339, 347, 346, 369, 368, 374, 373, 536, 535, 547, 546, 542, 554, 553, 559]
def asL_2 : List Addr := [558, 566, 565, 571, 570, 612, 611, 627, 626, 632, 631, 637, 636, 644, 643, 652, 651, 659, 658, 666, 665, 680, 679, 685, 684, 692, 691, 699, 698, 706]
def asL_3 : List Addr := [705, 711, 710, 725, 724, 732, 731, 739, 738, 746, 745, 753, 752, 760, 759, 767, 766, 774, 773, 781, 780, 788, 787, 793, 792, 798, 797, 805, 804, 810]
def asL_4 : List Addr := [809, 815, 814, 822, 821, 829, 828]
def asL : List Addr := asL_0 ++ asL_1 ++ asL_2 ++ asL_3 ++ asL_4
abbrev R : PySem.W.OpenRow := PySem.W.OpenLaw.row PySem.Challenge.rw_pairsheath_k93_desk_deeds
/-! a list, an object, a part of the heap, read once -/
def frL {A B : Type} : List A → (List A → B) → B
  | [], k => k []
  | x :: r, k => frL r fun r' => k (x :: r')
theorem frL_eq {A B : Type} : ∀ (l : List A) (k : List A → B), frL l k = k l
  | [], _ => rfl
  | x :: r, k => frL_eq r fun r' => k (x :: r')
def frO {B : Type} (o : Obj) (k : Obj → B) : B := match o with
  | ⟨c, d, .dict es n, sl⟩ => frL es.toList fun l => k ⟨c, d, .dict l.toArray n, sl⟩
  | o => k o
theorem frO_eq {B : Type} (o : Obj) (k : Obj → B) : frO o k = k o := by
  obtain ⟨c, d, dt, sl⟩ := o
  cases dt with
  | dict es n =>
    show frL es.toList (fun l => k ⟨c, d, .dict l.toArray n, sl⟩) = _
    rw [frL_eq]
  | _ => rfl
def frK {B : Type} : PySem.W.Frag → (PySem.W.Frag → B) → B
  | [], k => k []
  | (a, o) :: r, k => frO o fun o' => frK r fun r' => k ((a, o') :: r')
theorem frK_eq {B : Type} : ∀ (K : PySem.W.Frag) (k : PySem.W.Frag → B), frK K k = k K
  | [], _ => rfl
  | (a, o) :: r, k => by
    show frO o (fun o' => frK r fun r' => k ((a, o') :: r')) = _
    rw [frO_eq, frK_eq r]
abbrev AlM : Type := He.AlT × Bool
def obsM (K : PySem.W.Frag) : AlM := (He.obsT fa fn ts K, exB K)
def obsMG (g : Addr → Option Obj) : AlM := frK (He.frG g asL) obsM
def valM (w : World) : AlM := (He.valT fn ts w, true)
/-- what the head tells: a part of the heap with these facts -/
def Says (w : World) (K : PySem.W.Frag) : Prop := obsM K = valM w
def hk : PySem.W.Hook where
  α := AlM
  obs := fun s => obsMG s.heap.get?
  val := fun w => valM w
  says := fun w h => ∃ K : PySem.W.Frag, K.In h ∧ Says w K
  of := fun _ s e => ⟨_, He.frG_in, (frK_eq (He.frG s.heap.get? asL) obsM).symm.trans e⟩
  keeps := fun _ _ _ ⟨K, hK, c⟩ k => ⟨K, PySem.W.Frag.In.keeps hK k, c⟩
def ob (s : PySem.W.SharedT) : AlM := obsMG (HandSHeadRun.getT s)
theorem ob_eq (s : PySem.W.SharedT) : ob s = hk.obs s.abs := by
  have e : HandSHeadRun.getT s = s.abs.heap.get? := funext (HandSHeadRun.getT_eq s)
  show obsMG (HandSHeadRun.getT s) = obsMG s.abs.heap.get?
  rw [e]
theorem runF (w : World) : HandSHeadRun.RunEq R (PySem.W.view R.prog [lawI]) hk ob 20000 loose (w.withFollow "special-get-raises" false) := by
  intro os
  kernel_rfl
theorem runT (w : World) : HandSHeadRun.RunEq R (PySem.W.view R.prog [lawI]) hk ob 20000 loose (w.withFollow "special-get-raises" true) := by
  intro os
  kernel_rfl
theorem run (w : World) : HandSHeadRun.RunEq R (PySem.W.view R.prog [lawI]) hk ob 20000 loose w :=
  PySem.W.byRow2 "special-get-raises" (P := fun w => HandSHeadRun.RunEq R (PySem.W.view R.prog [lawI]) hk ob 20000 loose w) runF runT w
end KD
set_option maxHeartbeats 2000000
/-! the facts by their names; calls of own defs in short -/
namespace KD
open PySem PySem.Spec PyProof.Rows L2
/-- what the head tells -/
structure Txt (w : World) (K : PySem.W.Frag) (mg : Str → Option Value) : Prop where
  says : Says w K
  glo : ∀ x, (He.Fa.glo x).ok K = true → mg x = some (.ref (He.ga K x))
  free : ∀ x, (He.Fa.free x).ok K = true → mg x = none
  int : ∀ x i, (He.Fa.int x i).ok K = true → ∃ t, mg x = some (.int i t)
  str : ∀ x z, (He.Fa.str x z).ok K = true → ∃ t, mg x = some (.str z t)
section
variable {w : World} {K : PySem.W.Frag} {mg : Str → Option Value}
theorem Txt.t (T : Txt w K mg) : He.SaysT fa fn ts w K := congrArg (fun z : AlM => z.1) T.says
theorem Txt.d (T : Txt w K mg) : He.SaysD fa fn K := T.t.d
theorem Txt.ex (T : Txt w K mg) : exB K = true := congrArg (fun z : AlM => z.2) T.says

theorem Txt.g_left (T : Txt w K mg) : mg "left" = some (.ref (He.ga K "left")) := T.glo _ (T.d.fact 0 rfl)
theorem Txt.g_partner (T : Txt w K mg) : mg "partner" = some (.ref (He.ga K "partner")) := T.glo _ (T.d.fact 1 rfl)
theorem Txt.g_grown (T : Txt w K mg) : mg "grown" = some (.ref (He.ga K "grown")) := T.glo _ (T.d.fact 2 rfl)
theorem Txt.g_better (T : Txt w K mg) : mg "better" = some (.ref (He.ga K "better")) := T.glo _ (T.d.fact 3 rfl)
theorem Txt.g_most (T : Txt w K mg) : mg "most" = some (.ref (He.ga K "most")) := T.glo _ (T.d.fact 4 rfl)
theorem Txt.g_reached (T : Txt w K mg) : mg "reached" = some (.ref (He.ga K "reached")) := T.glo _ (T.d.fact 5 rfl)
theorem Txt.g_parts (T : Txt w K mg) : mg "parts" = some (.ref (He.ga K "parts")) := T.glo _ (T.d.fact 6 rfl)
theorem Txt.g_spared_from (T : Txt w K mg) : mg "spared_from" = some (.ref (He.ga K "spared_from")) := T.glo _ (T.d.fact 7 rfl)
theorem Txt.g_kinds (T : Txt w K mg) : mg "kinds" = some (.ref (He.ga K "kinds")) := T.glo _ (T.d.fact 8 rfl)
theorem Txt.g_refuse_unfit (T : Txt w K mg) : mg "refuse_unfit" = some (.ref (He.ga K "refuse_unfit")) := T.glo _ (T.d.fact 9 rfl)
theorem Txt.g_walk (T : Txt w K mg) : mg "walk" = some (.ref (He.ga K "walk")) := T.glo _ (T.d.fact 10 rfl)
theorem Txt.g_copied (T : Txt w K mg) : mg "copied" = some (.ref (He.ga K "copied")) := T.glo _ (T.d.fact 11 rfl)
theorem Txt.g_wanted (T : Txt w K mg) : mg "wanted" = some (.ref (He.ga K "wanted")) := T.glo _ (T.d.fact 12 rfl)
theorem Txt.g_field (T : Txt w K mg) : mg "field" = some (.ref (He.ga K "field")) := T.glo _ (T.d.fact 13 rfl)
theorem Txt.g_points_told (T : Txt w K mg) : mg "points_told" = some (.ref (He.ga K "points_told")) := T.glo _ (T.d.fact 14 rfl)
theorem Txt.g_wanted_told (T : Txt w K mg) : mg "wanted_told" = some (.ref (He.ga K "wanted_told")) := T.glo _ (T.d.fact 15 rfl)
theorem Txt.g_walk_told (T : Txt w K mg) : mg "walk_told" = some (.ref (He.ga K "walk_told")) := T.glo _ (T.d.fact 16 rfl)
theorem Txt.g_is_name (T : Txt w K mg) : mg "is_name" = some (.ref (He.ga K "is_name")) := T.glo _ (T.d.fact 17 rfl)
theorem Txt.g_is_number (T : Txt w K mg) : mg "is_number" = some (.ref (He.ga K "is_number")) := T.glo _ (T.d.fact 18 rfl)
theorem Txt.g_shown (T : Txt w K mg) : mg "shown" = some (.ref (He.ga K "shown")) := T.glo _ (T.d.fact 19 rfl)
theorem Txt.g_fits_shape (T : Txt w K mg) : mg "fits_shape" = some (.ref (He.ga K "fits_shape")) := T.glo _ (T.d.fact 20 rfl)
theorem Txt.g_shape_of (T : Txt w K mg) : mg "shape_of" = some (.ref (He.ga K "shape_of")) := T.glo _ (T.d.fact 21 rfl)
theorem Txt.g_words_of (T : Txt w K mg) : mg "words_of" = some (.ref (He.ga K "words_of")) := T.glo _ (T.d.fact 22 rfl)
theorem Txt.g_l_cell_at (T : Txt w K mg) : mg "_law_cell_at" = some (.ref (He.ga K "_law_cell_at")) := T.glo _ (T.d.fact 23 rfl)
theorem Txt.g_l_mixed (T : Txt w K mg) : mg "_law_mixed" = some (.ref (He.ga K "_law_mixed")) := T.glo _ (T.d.fact 24 rfl)
theorem Txt.g_l_pool (T : Txt w K mg) : mg "_law_pool" = some (.ref (He.ga K "_law_pool")) := T.glo _ (T.d.fact 25 rfl)
theorem Txt.g_l_number (T : Txt w K mg) : mg "_law_number" = some (.ref (He.ga K "_law_number")) := T.glo _ (T.d.fact 26 rfl)
theorem Txt.g_l_named (T : Txt w K mg) : mg "_law_named" = some (.ref (He.ga K "_law_named")) := T.glo _ (T.d.fact 27 rfl)
theorem Txt.g_l_broken (T : Txt w K mg) : mg "_law_broken" = some (.ref (He.ga K "_law_broken")) := T.glo _ (T.d.fact 28 rfl)
theorem Txt.g_l_form (T : Txt w K mg) : mg "_law_form" = some (.ref (He.ga K "_law_form")) := T.glo _ (T.d.fact 29 rfl)
theorem Txt.g_l_bound_right (T : Txt w K mg) : mg "_law_bound_right" = some (.ref (He.ga K "_law_bound_right")) := T.glo _ (T.d.fact 30 rfl)
theorem Txt.g_l_question (T : Txt w K mg) : mg "_law_question" = some (.ref (He.ga K "_law_question")) := T.glo _ (T.d.fact 31 rfl)
theorem Txt.g_l_row (T : Txt w K mg) : mg "_law_row" = some (.ref (He.ga K "_law_row")) := T.glo _ (T.d.fact 32 rfl)
theorem Txt.g_l_walk_due (T : Txt w K mg) : mg "_law_walk_due" = some (.ref (He.ga K "_law_walk_due")) := T.glo _ (T.d.fact 33 rfl)
theorem Txt.g_l_question_due (T : Txt w K mg) : mg "_law_question_due" = some (.ref (He.ga K "_law_question_due")) := T.glo _ (T.d.fact 34 rfl)
theorem Txt.g_l_due (T : Txt w K mg) : mg "_law_due" = some (.ref (He.ga K "_law_due")) := T.glo _ (T.d.fact 35 rfl)
theorem Txt.g_l_done (T : Txt w K mg) : mg "_law_done" = some (.ref (He.ga K "_law_done")) := T.glo _ (T.d.fact 36 rfl)
theorem Txt.g_l_web (T : Txt w K mg) : mg "_law_web" = some (.ref (He.ga K "_law_web")) := T.glo _ (T.d.fact 37 rfl)
theorem Txt.g_l_said (T : Txt w K mg) : mg "_law_said" = some (.ref (He.ga K "_law_said")) := T.glo _ (T.d.fact 38 rfl)
theorem Txt.g_law (T : Txt w K mg) : mg "law" = some (.ref (He.ga K "law")) := T.glo _ (T.d.fact 39 rfl)
theorem Txt.g_Web (T : Txt w K mg) : mg "Web" = some (.ref (He.ga K "Web")) := T.glo _ (T.d.fact 40 rfl)
theorem Txt.g_Desk (T : Txt w K mg) : mg "Desk" = some (.ref (He.ga K "Desk")) := T.glo _ (T.d.fact 41 rfl)
theorem Txt.g_WebError (T : Txt w K mg) : mg "WebError" = some (.ref (He.ga K "WebError")) := T.glo _ (T.d.fact 42 rfl)
theorem Txt.g_SHAPES (T : Txt w K mg) : mg "SHAPES" = some (.ref (He.ga K "SHAPES")) := T.glo _ (T.d.fact 43 rfl)
theorem Txt.g_BadRow (T : Txt w K mg) : mg "BadRow" = some (.ref (He.ga K "BadRow")) := T.glo _ (T.d.fact 44 rfl)
theorem Txt.g_Taken (T : Txt w K mg) : mg "Taken" = some (.ref (He.ga K "Taken")) := T.glo _ (T.d.fact 45 rfl)
theorem Txt.g_NoName (T : Txt w K mg) : mg "NoName" = some (.ref (He.ga K "NoName")) := T.glo _ (T.d.fact 46 rfl)
theorem Txt.g_TooMany (T : Txt w K mg) : mg "TooMany" = some (.ref (He.ga K "TooMany")) := T.glo _ (T.d.fact 47 rfl)
theorem Txt.g_BadTie (T : Txt w K mg) : mg "BadTie" = some (.ref (He.ga K "BadTie")) := T.glo _ (T.d.fact 48 rfl)
theorem Txt.g_NoTie (T : Txt w K mg) : mg "NoTie" = some (.ref (He.ga K "NoTie")) := T.glo _ (T.d.fact 49 rfl)
theorem Txt.g_BelowNought (T : Txt w K mg) : mg "BelowNought" = some (.ref (He.ga K "BelowNought")) := T.glo _ (T.d.fact 50 rfl)
theorem Txt.g_Apart (T : Txt w K mg) : mg "Apart" = some (.ref (He.ga K "Apart")) := T.glo _ (T.d.fact 51 rfl)
theorem Txt.n_len (T : Txt w K mg) : mg "len" = none := T.free _ (T.d.fact 52 rfl)
theorem Txt.n_range (T : Txt w K mg) : mg "range" = none := T.free _ (T.d.fact 53 rfl)
theorem Txt.n_zip (T : Txt w K mg) : mg "zip" = none := T.free _ (T.d.fact 54 rfl)
theorem Txt.n_sorted (T : Txt w K mg) : mg "sorted" = none := T.free _ (T.d.fact 55 rfl)
theorem Txt.n_min (T : Txt w K mg) : mg "min" = none := T.free _ (T.d.fact 56 rfl)
theorem Txt.n_max (T : Txt w K mg) : mg "max" = none := T.free _ (T.d.fact 57 rfl)
theorem Txt.n_sum (T : Txt w K mg) : mg "sum" = none := T.free _ (T.d.fact 58 rfl)
theorem Txt.n_int (T : Txt w K mg) : mg "int" = none := T.free _ (T.d.fact 59 rfl)
theorem Txt.n_str (T : Txt w K mg) : mg "str" = none := T.free _ (T.d.fact 60 rfl)
theorem Txt.n_isinstance (T : Txt w K mg) : mg "isinstance" = none := T.free _ (T.d.fact 61 rfl)
theorem Txt.n_set (T : Txt w K mg) : mg "set" = none := T.free _ (T.d.fact 62 rfl)
theorem Txt.n_all (T : Txt w K mg) : mg "all" = none := T.free _ (T.d.fact 63 rfl)
theorem Txt.n_any (T : Txt w K mg) : mg "any" = none := T.free _ (T.d.fact 64 rfl)
theorem Txt.n_list (T : Txt w K mg) : mg "list" = none := T.free _ (T.d.fact 65 rfl)
theorem Txt.n_ValueError (T : Txt w K mg) : mg "ValueError" = none := T.free _ (T.d.fact 66 rfl)
theorem Txt.c_MOST_POINTS (T : Txt w K mg) : ∃ t, mg "MOST_POINTS" = some (.int 24 t) := T.int _ _ (T.d.fact 67 rfl)
theorem Txt.c_MOST_HERE (T : Txt w K mg) : ∃ t, mg "MOST_HERE" = some (.int 12 t) := T.int _ _ (T.d.fact 68 rfl)
theorem Txt.c_MOST_WANTED_desk (T : Txt w K mg) : ∃ t, mg "MOST_WANTED_desk" = some (.int 24 t) := T.int _ _ (T.d.fact 69 rfl)
theorem Txt.c_MOST_WANTED_wanted (T : Txt w K mg) : ∃ t, mg "MOST_WANTED_wanted" = some (.int 24 t) := T.int _ _ (T.d.fact 70 rfl)
theorem Txt.c_LETTERS (T : Txt w K mg) : ∃ t, mg "LETTERS" = some (.str "abcdefghijklmnopqrstuvwxyz" t) := T.str _ _ (T.d.fact 71 rfl)
theorem Txt.c_FIGURES (T : Txt w K mg) : ∃ t, mg "FIGURES" = some (.str "0123456789" t) := T.str _ _ (T.d.fact 72 rfl)
theorem Txt.k_Web (T : Txt w K mg) : Cls K (He.ga K "Web") := He.cls_ok (T.d.fact 73 rfl)
theorem Txt.mk_Web (T : Txt w K mg) : Mk K (He.ga K "Web") (He.ma K (He.ga K "Web") "__init__") := He.mkr_ok (T.d.fact 74 rfl)
theorem Txt.na_Web_many (T : Txt w K mg) : NoAttr K (He.ga K "Web") "many" := He.noat_ok (T.d.fact 75 rfl)
theorem Txt.na_Web_table (T : Txt w K mg) : NoAttr K (He.ga K "Web") "table" := He.noat_ok (T.d.fact 76 rfl)
theorem Txt.na_Web_ends (T : Txt w K mg) : NoAttr K (He.ga K "Web") "ends" := He.noat_ok (T.d.fact 77 rfl)
theorem Txt.k_Desk (T : Txt w K mg) : Cls K (He.ga K "Desk") := He.cls_ok (T.d.fact 78 rfl)
theorem Txt.mk_Desk (T : Txt w K mg) : Mk K (He.ga K "Desk") (He.ma K (He.ga K "Desk") "__init__") := He.mkr_ok (T.d.fact 79 rfl)
theorem Txt.na_Desk_named (T : Txt w K mg) : NoAttr K (He.ga K "Desk") "named" := He.noat_ok (T.d.fact 80 rfl)
theorem Txt.na_Desk_table (T : Txt w K mg) : NoAttr K (He.ga K "Desk") "table" := He.noat_ok (T.d.fact 81 rfl)
theorem Txt.m_Web_size (T : Txt w K mg) : Meth K (He.ga K "Web") "size" (He.ma K (He.ga K "Web") "size") := He.meth_ok (T.d.fact 82 rfl)
theorem Txt.m_Web_ties (T : Txt w K mg) : Meth K (He.ga K "Web") "ties" (He.ma K (He.ga K "Web") "ties") := He.meth_ok (T.d.fact 83 rfl)
theorem Txt.m_Web_weight (T : Txt w K mg) : Meth K (He.ga K "Web") "weight" (He.ma K (He.ga K "Web") "weight") := He.meth_ok (T.d.fact 84 rfl)
theorem Txt.m_Web_tied (T : Txt w K mg) : Meth K (He.ga K "Web") "tied" (He.ma K (He.ga K "Web") "tied") := He.meth_ok (T.d.fact 85 rfl)
theorem Txt.m_Desk_say (T : Txt w K mg) : Meth K (He.ga K "Desk") "say" (He.ma K (He.ga K "Desk") "say") := He.meth_ok (T.d.fact 86 rfl)
theorem Txt.m_Desk_look_at_names (T : Txt w K mg) : Meth K (He.ga K "Desk") "look_at_names" (He.ma K (He.ga K "Desk") "look_at_names") := He.meth_ok (T.d.fact 87 rfl)
theorem Txt.m_Desk_change (T : Txt w K mg) : Meth K (He.ga K "Desk") "change" (He.ma K (He.ga K "Desk") "change") := He.meth_ok (T.d.fact 88 rfl)
theorem Txt.m_Desk_go (T : Txt w K mg) : Meth K (He.ga K "Desk") "go" (He.ma K (He.ga K "Desk") "go") := He.meth_ok (T.d.fact 89 rfl)
theorem Txt.m_Desk_asked (T : Txt w K mg) : Meth K (He.ga K "Desk") "asked" (He.ma K (He.ga K "Desk") "asked") := He.meth_ok (T.d.fact 90 rfl)
theorem Txt.x_BadRow (T : Txt w K mg) : PySem.W.excIn K (He.ga K "BadRow") He.veBase "ValueError.__new__" = true := (He.exc_ok (T.d.fact 91 rfl)).1
theorem Txt.p_BadRow (T : Txt w K mg) : PySem.W.keepIn K (.ref (He.ga K "BadRow")) = true := (He.exc_ok (T.d.fact 91 rfl)).2.1
theorem Txt.b_BadRow (T : Txt w K mg) : PySem.W.subIn K (.ref (He.ga K "BadRow")) (.type "BaseException") = some true := (He.exc_ok (T.d.fact 91 rfl)).2.2.1
theorem Txt.t_BadRow (T : Txt w K mg) : PySem.W.typeIn K (.ref (He.ga K "BadRow")) = some (.type "type") := (He.exc_ok (T.d.fact 91 rfl)).2.2.2
theorem Txt.x_Taken (T : Txt w K mg) : PySem.W.excIn K (He.ga K "Taken") He.veBase "ValueError.__new__" = true := (He.exc_ok (T.d.fact 92 rfl)).1
theorem Txt.p_Taken (T : Txt w K mg) : PySem.W.keepIn K (.ref (He.ga K "Taken")) = true := (He.exc_ok (T.d.fact 92 rfl)).2.1
theorem Txt.b_Taken (T : Txt w K mg) : PySem.W.subIn K (.ref (He.ga K "Taken")) (.type "BaseException") = some true := (He.exc_ok (T.d.fact 92 rfl)).2.2.1
theorem Txt.t_Taken (T : Txt w K mg) : PySem.W.typeIn K (.ref (He.ga K "Taken")) = some (.type "type") := (He.exc_ok (T.d.fact 92 rfl)).2.2.2
theorem Txt.x_NoName (T : Txt w K mg) : PySem.W.excIn K (He.ga K "NoName") He.veBase "ValueError.__new__" = true := (He.exc_ok (T.d.fact 93 rfl)).1
theorem Txt.p_NoName (T : Txt w K mg) : PySem.W.keepIn K (.ref (He.ga K "NoName")) = true := (He.exc_ok (T.d.fact 93 rfl)).2.1
theorem Txt.b_NoName (T : Txt w K mg) : PySem.W.subIn K (.ref (He.ga K "NoName")) (.type "BaseException") = some true := (He.exc_ok (T.d.fact 93 rfl)).2.2.1
theorem Txt.t_NoName (T : Txt w K mg) : PySem.W.typeIn K (.ref (He.ga K "NoName")) = some (.type "type") := (He.exc_ok (T.d.fact 93 rfl)).2.2.2
theorem Txt.x_TooMany (T : Txt w K mg) : PySem.W.excIn K (He.ga K "TooMany") He.veBase "ValueError.__new__" = true := (He.exc_ok (T.d.fact 94 rfl)).1
theorem Txt.p_TooMany (T : Txt w K mg) : PySem.W.keepIn K (.ref (He.ga K "TooMany")) = true := (He.exc_ok (T.d.fact 94 rfl)).2.1
theorem Txt.b_TooMany (T : Txt w K mg) : PySem.W.subIn K (.ref (He.ga K "TooMany")) (.type "BaseException") = some true := (He.exc_ok (T.d.fact 94 rfl)).2.2.1
theorem Txt.t_TooMany (T : Txt w K mg) : PySem.W.typeIn K (.ref (He.ga K "TooMany")) = some (.type "type") := (He.exc_ok (T.d.fact 94 rfl)).2.2.2
theorem Txt.x_BadTie (T : Txt w K mg) : PySem.W.excIn K (He.ga K "BadTie") He.veBase "ValueError.__new__" = true := (He.exc_ok (T.d.fact 95 rfl)).1
theorem Txt.p_BadTie (T : Txt w K mg) : PySem.W.keepIn K (.ref (He.ga K "BadTie")) = true := (He.exc_ok (T.d.fact 95 rfl)).2.1
theorem Txt.b_BadTie (T : Txt w K mg) : PySem.W.subIn K (.ref (He.ga K "BadTie")) (.type "BaseException") = some true := (He.exc_ok (T.d.fact 95 rfl)).2.2.1
theorem Txt.t_BadTie (T : Txt w K mg) : PySem.W.typeIn K (.ref (He.ga K "BadTie")) = some (.type "type") := (He.exc_ok (T.d.fact 95 rfl)).2.2.2
theorem Txt.x_NoTie (T : Txt w K mg) : PySem.W.excIn K (He.ga K "NoTie") He.veBase "ValueError.__new__" = true := (He.exc_ok (T.d.fact 96 rfl)).1
theorem Txt.p_NoTie (T : Txt w K mg) : PySem.W.keepIn K (.ref (He.ga K "NoTie")) = true := (He.exc_ok (T.d.fact 96 rfl)).2.1
theorem Txt.b_NoTie (T : Txt w K mg) : PySem.W.subIn K (.ref (He.ga K "NoTie")) (.type "BaseException") = some true := (He.exc_ok (T.d.fact 96 rfl)).2.2.1
theorem Txt.t_NoTie (T : Txt w K mg) : PySem.W.typeIn K (.ref (He.ga K "NoTie")) = some (.type "type") := (He.exc_ok (T.d.fact 96 rfl)).2.2.2
theorem Txt.x_BelowNought (T : Txt w K mg) : PySem.W.excIn K (He.ga K "BelowNought") He.veBase "ValueError.__new__" = true := (He.exc_ok (T.d.fact 97 rfl)).1
theorem Txt.p_BelowNought (T : Txt w K mg) : PySem.W.keepIn K (.ref (He.ga K "BelowNought")) = true := (He.exc_ok (T.d.fact 97 rfl)).2.1
theorem Txt.b_BelowNought (T : Txt w K mg) : PySem.W.subIn K (.ref (He.ga K "BelowNought")) (.type "BaseException") = some true := (He.exc_ok (T.d.fact 97 rfl)).2.2.1
theorem Txt.t_BelowNought (T : Txt w K mg) : PySem.W.typeIn K (.ref (He.ga K "BelowNought")) = some (.type "type") := (He.exc_ok (T.d.fact 97 rfl)).2.2.2
theorem Txt.x_Apart (T : Txt w K mg) : PySem.W.excIn K (He.ga K "Apart") He.veBase "ValueError.__new__" = true := (He.exc_ok (T.d.fact 98 rfl)).1
theorem Txt.p_Apart (T : Txt w K mg) : PySem.W.keepIn K (.ref (He.ga K "Apart")) = true := (He.exc_ok (T.d.fact 98 rfl)).2.1
theorem Txt.b_Apart (T : Txt w K mg) : PySem.W.subIn K (.ref (He.ga K "Apart")) (.type "BaseException") = some true := (He.exc_ok (T.d.fact 98 rfl)).2.2.1
theorem Txt.t_Apart (T : Txt w K mg) : PySem.W.typeIn K (.ref (He.ga K "Apart")) = some (.type "type") := (He.exc_ok (T.d.fact 98 rfl)).2.2.2
theorem Txt.x_WebError (T : Txt w K mg) : PySem.W.excIn K (He.ga K "WebError") He.veBase "ValueError.__new__" = true := (He.exc_ok (T.d.fact 99 rfl)).1
theorem Txt.p_WebError (T : Txt w K mg) : PySem.W.keepIn K (.ref (He.ga K "WebError")) = true := (He.exc_ok (T.d.fact 99 rfl)).2.1
theorem Txt.b_WebError (T : Txt w K mg) : PySem.W.subIn K (.ref (He.ga K "WebError")) (.type "BaseException") = some true := (He.exc_ok (T.d.fact 99 rfl)).2.2.1
theorem Txt.t_WebError (T : Txt w K mg) : PySem.W.typeIn K (.ref (He.ga K "WebError")) = some (.type "type") := (He.exc_ok (T.d.fact 99 rfl)).2.2.2
theorem Txt.e_BadRow (T : Txt w K mg) : PySem.W.exmOne K (.ref (He.ga K "BadRow")) (.ref (He.ga K "WebError")) = some true := He.exm_ok (T.d.fact 100 rfl)
theorem Txt.e_Taken (T : Txt w K mg) : PySem.W.exmOne K (.ref (He.ga K "Taken")) (.ref (He.ga K "WebError")) = some true := He.exm_ok (T.d.fact 101 rfl)
theorem Txt.e_NoName (T : Txt w K mg) : PySem.W.exmOne K (.ref (He.ga K "NoName")) (.ref (He.ga K "WebError")) = some true := He.exm_ok (T.d.fact 102 rfl)
theorem Txt.e_TooMany (T : Txt w K mg) : PySem.W.exmOne K (.ref (He.ga K "TooMany")) (.ref (He.ga K "WebError")) = some true := He.exm_ok (T.d.fact 103 rfl)
theorem Txt.e_BadTie (T : Txt w K mg) : PySem.W.exmOne K (.ref (He.ga K "BadTie")) (.ref (He.ga K "WebError")) = some true := He.exm_ok (T.d.fact 104 rfl)
theorem Txt.e_NoTie (T : Txt w K mg) : PySem.W.exmOne K (.ref (He.ga K "NoTie")) (.ref (He.ga K "WebError")) = some true := He.exm_ok (T.d.fact 105 rfl)
theorem Txt.e_BelowNought (T : Txt w K mg) : PySem.W.exmOne K (.ref (He.ga K "BelowNought")) (.ref (He.ga K "WebError")) = some true := He.exm_ok (T.d.fact 106 rfl)
theorem Txt.e_Apart (T : Txt w K mg) : PySem.W.exmOne K (.ref (He.ga K "Apart")) (.ref (He.ga K "WebError")) = some true := He.exm_ok (T.d.fact 107 rfl)
theorem Txt.f_left (T : Txt w K mg) : ∃ fd, FunD K "left" "left" (defArgs s_left) (defBody s_left) (defScope s_left) [] [] (He.fAd K ("left", none)) fd := T.d.def_ 0 (d := d_left) rfl
theorem Txt.f_partner (T : Txt w K mg) : ∃ fd, FunD K "partner" "partner" (defArgs s_partner) (defBody s_partner) (defScope s_partner) [] [] (He.fAd K ("partner", none)) fd := T.d.def_ 1 (d := d_partner) rfl
theorem Txt.f_Web_init (T : Txt w K mg) : ∃ fd, FunD K "__init__" "Web.__init__" (defArgs s_Web_init) (defBody s_Web_init) (defScope s_Web_init) [] [] (He.fAd K ("Web", some "__init__")) fd := T.d.def_ 2 (d := d_Web_init) rfl
theorem Txt.f_Web_size (T : Txt w K mg) : ∃ fd, FunD K "size" "Web.size" (defArgs s_Web_size) (defBody s_Web_size) (defScope s_Web_size) [] [] (He.fAd K ("Web", some "size")) fd := T.d.def_ 3 (d := d_Web_size) rfl
theorem Txt.f_Web_ties (T : Txt w K mg) : ∃ fd, FunD K "ties" "Web.ties" (defArgs s_Web_ties) (defBody s_Web_ties) (defScope s_Web_ties) [] [] (He.fAd K ("Web", some "ties")) fd := T.d.def_ 4 (d := d_Web_ties) rfl
theorem Txt.f_Web_weight (T : Txt w K mg) : ∃ fd, FunD K "weight" "Web.weight" (defArgs s_Web_weight) (defBody s_Web_weight) (defScope s_Web_weight) [] [] (He.fAd K ("Web", some "weight")) fd := T.d.def_ 5 (d := d_Web_weight) rfl
theorem Txt.f_Web_tied (T : Txt w K mg) : ∃ fd, FunD K "tied" "Web.tied" (defArgs s_Web_tied) (defBody s_Web_tied) (defScope s_Web_tied) [] [] (He.fAd K ("Web", some "tied")) fd := T.d.def_ 6 (d := d_Web_tied) rfl
theorem Txt.f_grown (T : Txt w K mg) : ∃ fd, FunD K "grown" "grown" (defArgs s_grown) (defBody s_grown) (defScope s_grown) [] [] (He.fAd K ("grown", none)) fd := T.d.def_ 7 (d := d_grown) rfl
theorem Txt.f_better (T : Txt w K mg) : ∃ fd, FunD K "better" "better" (defArgs s_better) (defBody s_better) (defScope s_better) [] [] (He.fAd K ("better", none)) fd := T.d.def_ 8 (d := d_better) rfl
theorem Txt.f_most (T : Txt w K mg) : ∃ fd, FunD K "most" "most" (defArgs s_most) (defBody s_most) (defScope s_most) [] [] (He.fAd K ("most", none)) fd := T.d.def_ 9 (d := d_most) rfl
theorem Txt.f_reached (T : Txt w K mg) : ∃ fd, FunD K "reached" "reached" (defArgs s_reached) (defBody s_reached) (defScope s_reached) [] [] (He.fAd K ("reached", none)) fd := T.d.def_ 10 (d := d_reached) rfl
theorem Txt.f_parts (T : Txt w K mg) : ∃ fd, FunD K "parts" "parts" (defArgs s_parts) (defBody s_parts) (defScope s_parts) [] [] (He.fAd K ("parts", none)) fd := T.d.def_ 11 (d := d_parts) rfl
theorem Txt.f_spared_from (T : Txt w K mg) : ∃ fd, FunD K "spared_from" "spared_from" (defArgs s_spared_from) (defBody s_spared_from) (defScope s_spared_from) [] [] (He.fAd K ("spared_from", none)) fd := T.d.def_ 12 (d := d_spared_from) rfl
theorem Txt.f_kinds (T : Txt w K mg) : ∃ fd, FunD K "kinds" "kinds" (defArgs s_kinds) (defBody s_kinds) (defScope s_kinds) [] [] (He.fAd K ("kinds", none)) fd := T.d.def_ 13 (d := d_kinds) rfl
theorem Txt.f_refuse_unfit (T : Txt w K mg) : ∃ fd, FunD K "refuse_unfit" "refuse_unfit" (defArgs s_refuse_unfit) (defBody s_refuse_unfit) (defScope s_refuse_unfit) [] [] (He.fAd K ("refuse_unfit", none)) fd := T.d.def_ 14 (d := d_refuse_unfit) rfl
theorem Txt.f_walk (T : Txt w K mg) : ∃ fd, FunD K "walk" "walk" (defArgs s_walk) (defBody s_walk) (defScope s_walk) [.int 0] [] (He.fAd K ("walk", none)) fd := T.d.def_ 15 (d := d_walk) rfl
theorem Txt.f_copied (T : Txt w K mg) : ∃ fd, FunD K "copied" "copied" (defArgs s_copied) (defBody s_copied) (defScope s_copied) [] [] (He.fAd K ("copied", none)) fd := T.d.def_ 16 (d := d_copied) rfl
theorem Txt.f_wanted (T : Txt w K mg) : ∃ fd, FunD K "wanted" "wanted" (defArgs s_wanted) (defBody s_wanted) (defScope s_wanted) [] [] (He.fAd K ("wanted", none)) fd := T.d.def_ 17 (d := d_wanted) rfl
theorem Txt.f_field (T : Txt w K mg) : ∃ fd, FunD K "field" "field" (defArgs s_field) (defBody s_field) (defScope s_field) [] [] (He.fAd K ("field", none)) fd := T.d.def_ 18 (d := d_field) rfl
theorem Txt.f_points_told (T : Txt w K mg) : ∃ fd, FunD K "points_told" "points_told" (defArgs s_points_told) (defBody s_points_told) (defScope s_points_told) [] [] (He.fAd K ("points_told", none)) fd := T.d.def_ 19 (d := d_points_told) rfl
theorem Txt.f_wanted_told (T : Txt w K mg) : ∃ fd, FunD K "wanted_told" "wanted_told" (defArgs s_wanted_told) (defBody s_wanted_told) (defScope s_wanted_told) [] [] (He.fAd K ("wanted_told", none)) fd := T.d.def_ 20 (d := d_wanted_told) rfl
theorem Txt.f_walk_told (T : Txt w K mg) : ∃ fd, FunD K "walk_told" "walk_told" (defArgs s_walk_told) (defBody s_walk_told) (defScope s_walk_told) [] [] (He.fAd K ("walk_told", none)) fd := T.d.def_ 21 (d := d_walk_told) rfl
theorem Txt.f_is_name (T : Txt w K mg) : ∃ fd, FunD K "is_name" "is_name" (defArgs s_is_name) (defBody s_is_name) (defScope s_is_name) [] [] (He.fAd K ("is_name", none)) fd := T.d.def_ 22 (d := d_is_name) rfl
theorem Txt.f_is_number (T : Txt w K mg) : ∃ fd, FunD K "is_number" "is_number" (defArgs s_is_number) (defBody s_is_number) (defScope s_is_number) [] [] (He.fAd K ("is_number", none)) fd := T.d.def_ 23 (d := d_is_number) rfl
theorem Txt.f_shown (T : Txt w K mg) : ∃ fd, FunD K "shown" "shown" (defArgs s_shown) (defBody s_shown) (defScope s_shown) [] [] (He.fAd K ("shown", none)) fd := T.d.def_ 24 (d := d_shown) rfl
theorem Txt.f_fits_shape (T : Txt w K mg) : ∃ fd, FunD K "fits_shape" "fits_shape" (defArgs s_fits_shape) (defBody s_fits_shape) (defScope s_fits_shape) [] [] (He.fAd K ("fits_shape", none)) fd := T.d.def_ 25 (d := d_fits_shape) rfl
theorem Txt.f_shape_of (T : Txt w K mg) : ∃ fd, FunD K "shape_of" "shape_of" (defArgs s_shape_of) (defBody s_shape_of) (defScope s_shape_of) [] [] (He.fAd K ("shape_of", none)) fd := T.d.def_ 26 (d := d_shape_of) rfl
theorem Txt.f_words_of (T : Txt w K mg) : ∃ fd, FunD K "words_of" "words_of" (defArgs s_words_of) (defBody s_words_of) (defScope s_words_of) [] [] (He.fAd K ("words_of", none)) fd := T.d.def_ 27 (d := d_words_of) rfl
theorem Txt.f_Desk_init (T : Txt w K mg) : ∃ fd, FunD K "__init__" "Desk.__init__" (defArgs s_Desk_init) (defBody s_Desk_init) (defScope s_Desk_init) [] [] (He.fAd K ("Desk", some "__init__")) fd := T.d.def_ 28 (d := d_Desk_init) rfl
theorem Txt.f_Desk_say (T : Txt w K mg) : ∃ fd, FunD K "say" "Desk.say" (defArgs s_Desk_say) (defBody s_Desk_say) (defScope s_Desk_say) [] [] (He.fAd K ("Desk", some "say")) fd := T.d.def_ 29 (d := d_Desk_say) rfl
theorem Txt.f_Desk_look_at_names (T : Txt w K mg) : ∃ fd, FunD K "look_at_names" "Desk.look_at_names" (defArgs s_Desk_look_at_names) (defBody s_Desk_look_at_names) (defScope s_Desk_look_at_names) [] [] (He.fAd K ("Desk", some "look_at_names")) fd := T.d.def_ 30 (d := d_Desk_look_at_names) rfl
theorem Txt.f_Desk_change (T : Txt w K mg) : ∃ fd, FunD K "change" "Desk.change" (defArgs s_Desk_change) (defBody s_Desk_change) (defScope s_Desk_change) [] [] (He.fAd K ("Desk", some "change")) fd := T.d.def_ 31 (d := d_Desk_change) rfl
theorem Txt.f_Desk_go (T : Txt w K mg) : ∃ fd, FunD K "go" "Desk.go" (defArgs s_Desk_go) (defBody s_Desk_go) (defScope s_Desk_go) [] [] (He.fAd K ("Desk", some "go")) fd := T.d.def_ 32 (d := d_Desk_go) rfl
theorem Txt.f_Desk_asked (T : Txt w K mg) : ∃ fd, FunD K "asked" "Desk.asked" (defArgs s_Desk_asked) (defBody s_Desk_asked) (defScope s_Desk_asked) [] [] (He.fAd K ("Desk", some "asked")) fd := T.d.def_ 33 (d := d_Desk_asked) rfl
theorem Txt.f_l_cell_at (T : Txt w K mg) : ∃ fd, FunD K "_law_cell_at" "_law_cell_at" (defArgs s_l_cell_at) (defBody s_l_cell_at) (defScope s_l_cell_at) [] [] (He.fAd K ("_law_cell_at", none)) fd := T.d.def_ 34 (d := d_l_cell_at) rfl
theorem Txt.f_l_mixed (T : Txt w K mg) : ∃ fd, FunD K "_law_mixed" "_law_mixed" (defArgs s_l_mixed) (defBody s_l_mixed) (defScope s_l_mixed) [] [] (He.fAd K ("_law_mixed", none)) fd := T.d.def_ 35 (d := d_l_mixed) rfl
theorem Txt.f_l_pool (T : Txt w K mg) : ∃ fd, FunD K "_law_pool" "_law_pool" (defArgs s_l_pool) (defBody s_l_pool) (defScope s_l_pool) [] [] (He.fAd K ("_law_pool", none)) fd := T.d.def_ 36 (d := d_l_pool) rfl
theorem Txt.f_l_number (T : Txt w K mg) : ∃ fd, FunD K "_law_number" "_law_number" (defArgs s_l_number) (defBody s_l_number) (defScope s_l_number) [] [] (He.fAd K ("_law_number", none)) fd := T.d.def_ 37 (d := d_l_number) rfl
theorem Txt.f_l_named (T : Txt w K mg) : ∃ fd, FunD K "_law_named" "_law_named" (defArgs s_l_named) (defBody s_l_named) (defScope s_l_named) [] [] (He.fAd K ("_law_named", none)) fd := T.d.def_ 38 (d := d_l_named) rfl
theorem Txt.f_l_broken (T : Txt w K mg) : ∃ fd, FunD K "_law_broken" "_law_broken" (defArgs s_l_broken) (defBody s_l_broken) (defScope s_l_broken) [] [] (He.fAd K ("_law_broken", none)) fd := T.d.def_ 39 (d := d_l_broken) rfl
theorem Txt.f_l_form (T : Txt w K mg) : ∃ fd, FunD K "_law_form" "_law_form" (defArgs s_l_form) (defBody s_l_form) (defScope s_l_form) [] [] (He.fAd K ("_law_form", none)) fd := T.d.def_ 40 (d := d_l_form) rfl
theorem Txt.f_l_bound_right (T : Txt w K mg) : ∃ fd, FunD K "_law_bound_right" "_law_bound_right" (defArgs s_l_bound_right) (defBody s_l_bound_right) (defScope s_l_bound_right) [] [] (He.fAd K ("_law_bound_right", none)) fd := T.d.def_ 41 (d := d_l_bound_right) rfl
theorem Txt.f_l_question (T : Txt w K mg) : ∃ fd, FunD K "_law_question" "_law_question" (defArgs s_l_question) (defBody s_l_question) (defScope s_l_question) [] [] (He.fAd K ("_law_question", none)) fd := T.d.def_ 42 (d := d_l_question) rfl
theorem Txt.f_l_row (T : Txt w K mg) : ∃ fd, FunD K "_law_row" "_law_row" (defArgs s_l_row) (defBody s_l_row) (defScope s_l_row) [] [] (He.fAd K ("_law_row", none)) fd := T.d.def_ 43 (d := d_l_row) rfl
theorem Txt.f_l_walk_due (T : Txt w K mg) : ∃ fd, FunD K "_law_walk_due" "_law_walk_due" (defArgs s_l_walk_due) (defBody s_l_walk_due) (defScope s_l_walk_due) [] [] (He.fAd K ("_law_walk_due", none)) fd := T.d.def_ 44 (d := d_l_walk_due) rfl
theorem Txt.f_l_question_due (T : Txt w K mg) : ∃ fd, FunD K "_law_question_due" "_law_question_due" (defArgs s_l_question_due) (defBody s_l_question_due) (defScope s_l_question_due) [] [] (He.fAd K ("_law_question_due", none)) fd := T.d.def_ 45 (d := d_l_question_due) rfl
theorem Txt.f_l_due (T : Txt w K mg) : ∃ fd, FunD K "_law_due" "_law_due" (defArgs s_l_due) (defBody s_l_due) (defScope s_l_due) [] [] (He.fAd K ("_law_due", none)) fd := T.d.def_ 46 (d := d_l_due) rfl
theorem Txt.f_l_done (T : Txt w K mg) : ∃ fd, FunD K "_law_done" "_law_done" (defArgs s_l_done) (defBody s_l_done) (defScope s_l_done) [] [] (He.fAd K ("_law_done", none)) fd := T.d.def_ 47 (d := d_l_done) rfl
theorem Txt.f_l_web (T : Txt w K mg) : ∃ fd, FunD K "_law_web" "_law_web" (defArgs s_l_web) (defBody s_l_web) (defScope s_l_web) [] [] (He.fAd K ("_law_web", none)) fd := T.d.def_ 48 (d := d_l_web) rfl
theorem Txt.f_l_said (T : Txt w K mg) : ∃ fd, FunD K "_law_said" "_law_said" (defArgs s_l_said) (defBody s_l_said) (defScope s_l_said) [] [] (He.fAd K ("_law_said", none)) fd := T.d.def_ 49 (d := d_l_said) rfl
theorem Txt.f_law (T : Txt w K mg) : ∃ fd, FunD K "law" "law" (defArgs s_law) (defBody s_law) (defScope s_law) [] [] (He.fAd K ("law", none)) fd := T.d.def_ 50 (d := d_law) rfl
end
/-! ### a def's promise, and how it is called -/
def Ok (P : Program) (w : World) (K : PySem.W.Frag) (mg : Str → Option Value) (base : Heap) (CX : CXT) (k : Nat) (p : Str × Option Str) (ps : List Str) (sp : Sp) : Prop :=
  ∃ fd, FnOk P w K mg base CX k (He.fAd K p) fd ps sp ∧ Binds K fd ps [] ∧ PySem.W.keepIn K (.ref (He.fAd K p)) = true
def tC (sp : Sp) (E : XK) (t : TA) : TE := fun σ H Q => t σ H fun vs H1 => sp vs H1 Q E
def tM (C : Addr) (m : Str) (sp : Sp) (E : XK) (ta : TE) (t : TA) : TE := fun σ H Q => ta σ H fun x H1 => ∃ a dx fs, x = .ref a ∧ H1 a = some (.ins C dx fs) ∧ fs.lookup m = none ∧ t σ H1 fun vs H2 => sp (x :: vs) H2 Q E
def tMk (C : Addr) (sp : Sp) (E : XK) (t : TA) : TE := fun σ H Q => t σ H fun vs H1 => ∀ x dx, H1 x = none → H1 dx = none → dx ≠ x →
  sp (.ref x :: vs) (upd (upd H1 dx (.own x)) x (.ins C dx [])) (fun v H2 => v = .non ∧ Q (.ref x) H2) E
section
variable {X : Cx} {CXn : CXT} {j k : Nat} {f C : Addr} {ps : List Str} {sp : Sp} {E : XK} {x m : Str} {p pos apos : Pos} {e o : Expr} {es : List Expr} {te ta : TE} {t : TA}
theorem tC_eq : tCall sp [] E t = tC sp E t := by
  funext σ H Q
  show t σ H (fun vs H1 => sp (vs ++ []) H1 Q E) = t σ H fun vs H1 => sp vs H1 Q E
  simp only [List.append_nil]
theorem pcx (G : Ok X.prog X.w X.K X.mg X.base CXn j (x, none) ps sp) (hr : Room k X.A) (hj : j ≤ k) (hm : X.mg x = some (.ref (He.ga X.K x))) (hx : Passes CXn X E) (ha : PA X (e :: es) t) (hg : Gl X x := by rfl) (hdb : (x == ("__debug__" : Str)) = false := by decide)
    (he : starEach (e :: es) X.env = (false, eval e X.env) :: starEach es X.env := by rfl) (hpl : (backTo pos (starEach es X.env)).any (·.1) = false := by rfl) : PE X (.Call (.Name x p) (e :: es) [] pos) (tC sp E t) := by
  obtain ⟨fd, F, b, kp⟩ := G
  rw [← tC_eq]
  exact pe_call F (hr.mono hj) hg hm kp b .nil hx ha hdb he hpl
theorem pc (G : Ok X.prog X.w X.K X.mg X.base CX0 j (x, none) ps sp) (hr : Room k X.A) (hj : j ≤ k) (hm : X.mg x = some (.ref (He.ga X.K x))) (ha : PA X (e :: es) t) (hg : Gl X x := by rfl) (hdb : (x == ("__debug__" : Str)) = false := by decide)
    (he : starEach (e :: es) X.env = (false, eval e X.env) :: starEach es X.env := by rfl) (hpl : (backTo pos (starEach es X.env)).any (·.1) = false := by rfl) : PE X (.Call (.Name x p) (e :: es) [] pos) (tC sp E0 t) := pcx G hr hj hm pass0 ha hg hdb he hpl
theorem pxc (G : Ok X.prog X.w X.K X.mg X.base (L2.CX X.prog X.w) j (x, none) ps sp) (hr : Room k X.A) (hj : j ≤ k) (hm : X.mg x = some (.ref (He.ga X.K x))) (tk : Takes X (fun cls d _ H => E cls d H)) (ha : PA X (e :: es) t) (hg : Gl X x := by rfl) (hdb : (x == ("__debug__" : Str)) = false := by decide)
    (he : starEach (e :: es) X.env = (false, eval e X.env) :: starEach es X.env := by rfl) (hpl : (backTo pos (starEach es X.env)).any (·.1) = false := by rfl) : PE X (.Call (.Name x p) (e :: es) [] pos) (tC sp E t) :=
  pcx G hr hj hm (passes_call tk fun _ _ _ _ h => h) ha hg hdb he hpl
theorem tM_eq : tMeth C m sp [] E ta t = tM C m sp E ta t := by
  funext σ H Q
  show ta σ H _ = ta σ H _
  simp only [List.append_nil]
theorem tMk_eq : tMake C sp [] E t = tMk C sp E t := by
  funext σ H Q
  show t σ H _ = t σ H _
  simp only [List.append_nil]
theorem pmx {pl : Sem Bool} {c : Str} (hc : Cls X.K (He.ga X.K c)) (hm : Meth X.K (He.ga X.K c) m (He.ma X.K (He.ga X.K c) m)) (G : Ok X.prog X.w X.K X.mg X.base CXn j (c, some m) ps sp) (hr : Room k X.A) (hj : j ≤ k) (hx : Passes CXn X E) (he : PE X o ta) (ha : PA X (e :: es) t)
    (hst : starEach (e :: es) X.env = (false, eval e X.env) :: starEach es X.env := by rfl) (hpl : (backTo pos (starEach es X.env)).any (·.1) = false := by rfl)
    (ht : eval (.Call (.Attribute o m apos) (e :: es) [] pos) X.env = (do
      let ov ← eval o X.env
      standAt apos.atName
      let (f, first) ← holding [ov] (getMethod ov m pl)
      callWith pos f first (backTo pos (starEach (e :: es) X.env)) (backToKw pos (keywordEach [] X.env))) := by rfl) :
    PE X (.Call (.Attribute o m apos) (e :: es) [] pos) (tM (He.ga X.K c) m sp E ta t) := by
  obtain ⟨fd, F, b, kp⟩ := G
  rw [← tM_eq]
  exact pe_meth he hc hm F (hr.mono hj) b .nil hx ha hst hpl ht
theorem pmx0 {pl : Sem Bool} {c : Str} (hc : Cls X.K (He.ga X.K c)) (hm : Meth X.K (He.ga X.K c) m (He.ma X.K (He.ga X.K c) m)) (G : Ok X.prog X.w X.K X.mg X.base CXn j (c, some m) ps sp) (hr : Room k X.A) (hj : j ≤ k) (hx : Passes CXn X E) (he : PE X o ta)
    (ht : eval (.Call (.Attribute o m apos) [] [] pos) X.env = (do
      let ov ← eval o X.env
      standAt apos.atName
      let (f, first) ← holding [ov] (getMethod ov m pl)
      callWith pos f first (backTo pos (starEach [] X.env)) (backToKw pos (keywordEach [] X.env))) := by rfl) :
    PE X (.Call (.Attribute o m apos) [] [] pos) (tM (He.ga X.K c) m sp E ta tNil) := by
  obtain ⟨fd, F, b, kp⟩ := G
  rw [← tM_eq]
  exact pe_meth0 he hc hm F (hr.mono hj) b .nil hx ht
theorem pm {pl : Sem Bool} {c : Str} (hc : Cls X.K (He.ga X.K c)) (hm : Meth X.K (He.ga X.K c) m (He.ma X.K (He.ga X.K c) m)) (G : Ok X.prog X.w X.K X.mg X.base CX0 j (c, some m) ps sp) (hr : Room k X.A) (hj : j ≤ k) (he : PE X o ta) (ha : PA X (e :: es) t)
    (hst : starEach (e :: es) X.env = (false, eval e X.env) :: starEach es X.env := by rfl) (hpl : (backTo pos (starEach es X.env)).any (·.1) = false := by rfl)
    (ht : eval (.Call (.Attribute o m apos) (e :: es) [] pos) X.env = (do
      let ov ← eval o X.env
      standAt apos.atName
      let (f, first) ← holding [ov] (getMethod ov m pl)
      callWith pos f first (backTo pos (starEach (e :: es) X.env)) (backToKw pos (keywordEach [] X.env))) := by rfl) :
    PE X (.Call (.Attribute o m apos) (e :: es) [] pos) (tM (He.ga X.K c) m sp E0 ta t) := pmx hc hm G hr hj pass0 he ha hst hpl ht
theorem pm0 {pl : Sem Bool} {c : Str} (hc : Cls X.K (He.ga X.K c)) (hm : Meth X.K (He.ga X.K c) m (He.ma X.K (He.ga X.K c) m)) (G : Ok X.prog X.w X.K X.mg X.base CX0 j (c, some m) ps sp) (hr : Room k X.A) (hj : j ≤ k) (he : PE X o ta)
    (ht : eval (.Call (.Attribute o m apos) [] [] pos) X.env = (do
      let ov ← eval o X.env
      standAt apos.atName
      let (f, first) ← holding [ov] (getMethod ov m pl)
      callWith pos f first (backTo pos (starEach [] X.env)) (backToKw pos (keywordEach [] X.env))) := by rfl) :
    PE X (.Call (.Attribute o m apos) [] [] pos) (tM (He.ga X.K c) m sp E0 ta tNil) := pmx0 hc hm G hr hj pass0 he ht
theorem pxm {pl : Sem Bool} {c : Str} (hc : Cls X.K (He.ga X.K c)) (hm : Meth X.K (He.ga X.K c) m (He.ma X.K (He.ga X.K c) m)) (G : Ok X.prog X.w X.K X.mg X.base (L2.CX X.prog X.w) j (c, some m) ps sp) (hr : Room k X.A) (hj : j ≤ k) (tk : Takes X (fun cls d _ H => E cls d H)) (he : PE X o ta) (ha : PA X (e :: es) t)
    (hst : starEach (e :: es) X.env = (false, eval e X.env) :: starEach es X.env := by rfl) (hpl : (backTo pos (starEach es X.env)).any (·.1) = false := by rfl)
    (ht : eval (.Call (.Attribute o m apos) (e :: es) [] pos) X.env = (do
      let ov ← eval o X.env
      standAt apos.atName
      let (f, first) ← holding [ov] (getMethod ov m pl)
      callWith pos f first (backTo pos (starEach (e :: es) X.env)) (backToKw pos (keywordEach [] X.env))) := by rfl) :
    PE X (.Call (.Attribute o m apos) (e :: es) [] pos) (tM (He.ga X.K c) m sp E ta t) := pmx hc hm G hr hj (passes_call tk fun _ _ _ _ h => h) he ha hst hpl ht
theorem pcMk (M : Mk X.K (He.ga X.K x) (He.ma X.K (He.ga X.K x) "__init__")) (hm : X.mg x = some (.ref (He.ga X.K x))) (G : Ok X.prog X.w X.K X.mg X.base CX0 j (x, some "__init__") ps sp) (hr : Room k X.A) (hj : j + 1 ≤ k) (ha : PA X (e :: es) t) (hg : Gl X x := by rfl) (hdb : (x == ("__debug__" : Str)) = false := by decide)
    (he : starEach (e :: es) X.env = (false, eval e X.env) :: starEach es X.env := by rfl) (hpl : (backTo pos (starEach es X.env)).any (·.1) = false := by rfl) : PE X (.Call (.Name x p) (e :: es) [] pos) (tMk (He.ga X.K x) sp E0 t) := by
  obtain ⟨fd, F, b, kp⟩ := G
  rw [← tMk_eq]
  exact pe_make M F (hr.mono hj) hg hm b .nil pass0 ha hdb he hpl
theorem pcMk0 (M : Mk X.K (He.ga X.K x) (He.ma X.K (He.ga X.K x) "__init__")) (hm : X.mg x = some (.ref (He.ga X.K x))) (G : Ok X.prog X.w X.K X.mg X.base CX0 j (x, some "__init__") ps sp) (hr : Room k X.A) (hj : j + 1 ≤ k) (hg : Gl X x := by rfl) (hdb : (x == ("__debug__" : Str)) = false := by decide) :
    PE X (.Call (.Name x p) [] [] pos) (tMk (He.ga X.K x) sp E0 tNil) := by
  obtain ⟨fd, F, b, kp⟩ := G
  rw [← tMk_eq]
  exact pe_make0 M F (hr.mono hj) hg hm b .nil pass0 hdb
end
section
variable {P : Program} {w : World} {K : PySem.W.Frag} {mg : Str → Option Value} {base : Heap} {CXn : CXT} {p : Str × Option Str} {x qual : Str} {st : Stmt} {N ps : List Str} {k : Nat} {sp : Sp}
/-- a def that lets nothing out -/
theorem ok0 (hF : ∃ fd, FunD K x qual (defArgs st) (defBody st) (defScope st) [] [] (He.fAd K p) fd) (S : FnScope N ps (defScope st)) (len : ∀ vs H Q E, sp vs H Q E → vs.length = ps.length)
    (hb : ∀ (kV doc pm : Value) (an : Option Addr) (cdv ct : Value) (us : List Value), us.length = ps.length → bindArgs (PySem.W.fnOf x qual (defArgs st) (defBody st) (defScope st) .none kV doc pm an cdv ct) ⟨us, []⟩ = pure (ps.zip us))
    (body : ∀ (f : Addr) (cdv : Value) (A : Around) (outer : List Env) (s : Shared) (H : Hp) (vs : List V) (Q : VK) (E : XK), Room k (A.deeper (envOfC qual (defScope st) s.heap.objs.size f cdv)) → sp vs H Q E →
      ∃ t, PSs (cxOf CX0 P w K mg base N qual (defScope st) f cdv A outer s H E).nox (defBody st) t ∧ t { nx := fun _ H' => Q .non H', rt := Q } (start N vs) H) : Ok P w K mg base CX0 (k + 1) p ps sp := by
  obtain ⟨fd, F⟩ := hF
  refine ⟨fd, F.ok S len fun cdv A outer s H vs Q E hr h => ?_, F.bindsN hb, F.kp⟩
  obtain ⟨t, h1, h2⟩ := body _ cdv A outer s H vs Q E hr h
  exact ⟨t, h1.nox, h2⟩
/-- a def that may raise -/
theorem okX (hF : ∃ fd, FunD K x qual (defArgs st) (defBody st) (defScope st) [] [] (He.fAd K p) fd) (S : FnScope N ps (defScope st)) (len : ∀ vs H Q E, sp vs H Q E → vs.length = ps.length)
    (hb : ∀ (kV doc pm : Value) (an : Option Addr) (cdv ct : Value) (us : List Value), us.length = ps.length → bindArgs (PySem.W.fnOf x qual (defArgs st) (defBody st) (defScope st) .none kV doc pm an cdv ct) ⟨us, []⟩ = pure (ps.zip us))
    (body : ∀ (f : Addr) (cdv : Value) (A : Around) (outer : List Env) (s : Shared) (H : Hp) (vs : List V) (Q : VK) (E : XK), Room k (A.deeper (envOfC qual (defScope st) s.heap.objs.size f cdv)) → sp vs H Q E →
      ∃ t, PSs (cxOf (L2.CX P w) P w K mg base N qual (defScope st) f cdv A outer s H E) (defBody st) t ∧ t { nx := fun _ H' => Q .non H', rt := Q } (start N vs) H) : Ok P w K mg base (L2.CX P w) (k + 1) p ps sp := by
  obtain ⟨fd, F⟩ := hF
  exact ⟨fd, F.ok S len fun cdv A outer s H vs Q E hr h => body _ cdv A outer s H vs Q E hr h, F.bindsN hb, F.kp⟩
end
/-- the end of a promise: the value, in a heap that says more -/
abbrev RV1 (v : V) (H : Hp) (Q : VK) : Prop := ∀ H', Evl.Ex H H' → Q v H'
end KD
set_option maxHeartbeats 2000000
/-! own rules 1: a walk over the items of a dict whose keys are tuples -/
namespace KD
open PySem PySem.Spec PyProof.Rows L2
/-- what a locked dict of tuple keys says, with the values -/
theorem frzTV {X : Cx} {pins : List (Addr × Obj)} {σ : L2.St} {H : Hp} {s : Shared} {d : Addr} {o : Obj} {kvs : List (List L2.Key × V)} (I : Inv X pins σ H s) (hd0 : H d = some (.frz o (.dT kvs))) :
    (d == sysModules) = false ∧ s.heap.get? d = some o ∧ o.ExactDict ∧ ∃ (es : Array DictEntry) (ep : Nat), o.data = .dict es ep ∧ es.size = kvs.length ∧
      ∀ (i : Nat) (k : List L2.Key) (v : V), kvs[i]? = some (k, v) → ∃ (en : DictEntry) (q : Addr), es[i]? = some en ∧ en.key = .ref q ∧ H q = some (.tup (k.map kV)) ∧ RelV v en.val := by
  obtain ⟨g1, z, g2, xs, pr, o', es, ep, ho, hx, hdt, he, hn⟩ := I.hok d _ hd0
  have eo : o = o' := Option.some.inj (g1.symm.trans ho)
  subst eo
  have n1 : es.size = xs.length := size_of_entries he
  have n2 : kvs.length = xs.length := Paired.length pr
  refine ⟨g2, g1, hx, es, ep, hdt, n1.trans n2.symm, ?_⟩
  intro i k v e
  obtain ⟨b, hb, e1, e2, e3⟩ := paired_get pr e
  have q := entry_at he i
  rw [hb] at q
  exact ⟨_, b.2.1, q, rfl, e2, e3⟩
/-- the items: a new tuple of the key's own tuple and the value -/
def ItiT (d : Addr) (o : Obj) (kvs : List (List L2.Key × V)) : It :=
  ⟨fun i H => H d = some (.frz o (.dT kvs)) ∧ i < kvs.length,
   fun i H x H' => ∃ T q k v, kvs[i]? = some (k, v) ∧ x = .ref T ∧ H q = some (.tup (k.map kV)) ∧ H T = none ∧ H' = upd H T (.tup [.ref q, v]),
   fun i H => H d = some (.frz o (.dT kvs)) ∧ kvs.length ≤ i⟩
theorem turn_itemsT {P : Program} {w : World} {K : PySem.W.Frag} {d : Addr} {o : Obj} {es : Array DictEntry} {ep : Nat} {kvs : List (List L2.Key × V)} {elts : List Expr} {kk : Nat} {tpos : Pos} (it : Addr) (hod : o.data = .dict es ep) :
    Turn P w K (.Tuple elts kk tpos) (ItiT d o kvs) [it] it (fun i h => ∃ ok ov, IsItemIter h it d i kvs.length ep ok ov) where
  mem := List.mem_singleton.mpr rfl
  obj := fun i h hst b hb => by
    obtain rfl : b = it := List.mem_singleton.mp hb
    obtain ⟨ok, ov, e⟩ := hst
    exact ⟨_, e, fun v z => nomatch z⟩
  keep := fun i h h' hst k => let ⟨ok, ov, e⟩ := hst; ⟨ok, ov, k it (List.mem_singleton.mpr rfl) _ e⟩
  item := by
    intro X hP hw hK hc i pins s σ H E I hf hst hgo
    subst hP hw hK
    obtain ⟨hd, hi⟩ := hgo
    obtain ⟨g1, g2, g3, es', ep', hdt, hsz, ent⟩ := frzTV I hd
    obtain ⟨rfl, rfl⟩ := dict_ep hod hdt
    obtain ⟨⟨k, v⟩, hkv⟩ : ∃ p, kvs[i]? = some p := ⟨kvs[i], List.getElem?_eq_getElem hi⟩
    obtain ⟨en, q, hen, hkey, hq, hval⟩ := ent i k v hkv
    obtain ⟨hil, een⟩ := Array.getElem?_eq_some_iff.mp hen
    obtain ⟨ok, ov, he⟩ := hst
    rw [← hsz] at he
    have lt0 : it < s.heap.objs.size := Heap.lt_size he
    refine wpAny_pyNext_items_item_raw he ⟨o, g2, g3, hdt⟩ hil fun h' hout hT hz hk => ?_
    rw [een] at hT hout
    refine ⟨_, rfl, wpAny_letOwnedTupleGo_items (s := { s with heap := h' }) hout fun h'' hin sb => ?_⟩
    have hT2 : h''.get? s.heap.objs.size = some { cls := .type "tuple", data := .seq #[en.key, en.val] } := (sb.2 _ (Nat.ne_of_gt lt0)).trans hT
    have hob : ObjOk X.prog X.w (upd H s.heap.objs.size (.tup [.ref q, v])) h'' s.heap.objs.size (.tup [.ref q, v]) :=
      ⟨by show 2 ≤ sizeLine; decide, [en.key, en.val], .cons hkey (.cons hval .nil), ⟨_, hT2, rfl, _, rfl⟩⟩
    have J : Inv X pins σ (upd H s.heap.objs.size (.tup [.ref q, v])) { s with heap := h'' } :=
      I.turnedNew (t' := s.toks) (ch := [it]) (fun b ob hb e => (sb.2 b (fun z => hb (List.mem_singleton.mpr z))).trans (hk b ob (fun z => hb (List.mem_singleton.mpr z)) e)) hf (Nat.le_refl _) hob
    refine ⟨.ref s.heap.objs.size, _, J, rfl, ⟨_, q, k, v, hkv, rfl, hq, I.hok.fresh (Nat.le_refl _), rfl⟩, ⟨en.key, en.val, ?_⟩, fun b hb => ?_⟩
    · rw [← hsz]; exact hin
    · obtain rfl : b = it := List.mem_singleton.mp hb
      rw [upd_ne (Nat.ne_of_lt lt0)]
      exact (hf b (List.mem_singleton.mpr rfl)).1
  done := by
    intro X hP hw hK hc i pins s σ H E I hf hst hgo
    subst hP hw hK
    obtain ⟨hd, hi⟩ := hgo
    obtain ⟨f0, f1, f2, f3, f4, f5⟩ := hf it (List.mem_singleton.mpr rfl)
    obtain ⟨g1, g2, g3, es', ep', hdt, hsz, ent⟩ := frzTV I hd
    obtain ⟨rfl, rfl⟩ := dict_ep hod hdt
    obtain ⟨ok, ov, he⟩ := hst
    rw [← hsz] at he
    refine wpAny_pyNext_items_end_raw (I.ok.hd hc) he ⟨o, g2, g3, hdt⟩ (by rw [hsz]; exact hi) fun h' eb => ?_
    exact ⟨rfl, I.turned (t' := s.toks) (fun b ob hb e => eb b ob hb e) f0 f1 f3 f4 f5⟩
  self := fun A i s Q E hst h => let ⟨_, _, e⟩ := hst; wpAny_pyIter_itemiter e h
/-- d.items(), the dict locked -/
def iItemsT (td : TE) : TI := fun σ H R => td σ H fun x H1 => ∃ d o kvs, x = .ref d ∧ H1 d = some (.frz o (.dT kvs)) ∧ R (ItiT d o kvs) H1
theorem pi_itemsT {X : Cx} {e : Expr} {td : TE} {apos cpos : Pos} {elts : List Expr} {kk : Nat} {tpos : Pos} (he : PE X e td) (hbase : attributeBase e "items" X.env (eval e X.env) = eval e X.env := by rfl) (hline : (apos.endLine == cpos.line) = true := by rfl) :
    PI X (.Tuple elts kk tpos) (.Call (.Attribute e "items" apos) [] [] cpos) (iItemsT td) := by
  constructor
  intro pins s σ H R I h
  refine wpAny_Call_method (T := "dict") (id := "dict.items") hbase rfl hline F.plainAttrs_dict F.slot_dict_items F.type_dict_items ?_
  refine thn (he.run pins s σ H _ I h) fun u s1 hh => ?_
  obtain ⟨x, H1, J, rx, d, o, kvs, ex, hd, q⟩ := hh
  subst ex
  obtain rfl : u = Value.ref d := rx
  obtain ⟨g1, g2, g3, es, ep, hdt, hsz, ent⟩ := frzTV J hd
  have raw : s1.heap.DictRaw d es ep := ⟨o, g2, g3, hdt⟩
  refine ⟨raw.typeIs, ?_, ?_⟩
  · intro a e
    cases e
    exact ⟨o, g2, g3.2.1⟩
  have J2 : Inv X pins σ H1 { s1 with heap := s1.heap.push { cls := .type "dict_items", data := .fields #[.ref d] } } := J.kept (t' := s1.toks) fun b ob q => Heap.get?_push_of_some _ q
  have fin : wpAny (model X.prog X.w) X.A (pyIter (.ref s1.heap.objs.size)) (PIE X pins σ (.Tuple elts kk tpos) R) X.xe { s1 with heap := s1.heap.push { cls := .type "dict_items", data := .fields #[.ref d] } } := by
    refine wpAny_pyIter_items_raw (d := d) ⟨_, Heap.get?_push_size _ rfl, rfl, rfl⟩ (raw.at fun _ e => Heap.get?_push_of_some _ e) (pi_one (tk := s1.toks) J2 _ (turn_itemsT _ hdt) ⟨.none, .none, ?_⟩ q)
    rw [← hsz]
    exact Heap.get?_push_size _ rfl
  show wpAny _ _ (callWith cpos (.builtin "dict.items") [.ref d] [] []) _ X.xe s1
  exact method_meetsIn F.slot_dict_items F.entry_dict_items rfl (PySem.evalArgs_none ⟨rfl, raw.typeIs, F.args_dict_items_1 _, _, meets_dict_items_raw d g1, ⟨⟨es, ep, raw⟩, fin⟩⟩)
end KD
set_option maxHeartbeats 2000000
/-! own rules 2: d.pop(k) of a dict of tuple keys, k there -/
namespace KD
open PySem PySem.Spec PyProof.Rows L2
section
variable {KT : Type} [DecidableEq KT] {prog : Program} {w : World} {knd : HeapKind prog w KT}
theorem meetsPop1 {d b : Addr} {k : KT} (hd : (d == sysModules) = false) :
    MeetsIn prog w (Builtin.«dict.pop» ⟨[.ref d, .ref b], []⟩) (fun A R s => ∃ xs p, knd.room A.in1 ∧ knd.is s.heap k b ∧ s.heap.DictOfH knd d xs ∧ xs.length ≤ sizeLine ∧ atKey xs k = some p ∧
      ∀ h' tk, h'.DictOfH knd d (DT.dropH xs k) → Heap.SameBut d s.heap h' → R (.ok (.ret p.2)) { s with heap := h', toks := tk }) :=
  .of_wp fun A R s hyp => by
    obtain ⟨xs, p, hu, hkey, hm, hsz, hat, hgo⟩ := hyp
    obtain ⟨o, es, ep, ho, hc, hdat, he, his, hn⟩ := id hm
    have n1 : es.size = xs.length := size_of_entries he
    have kp : (keyPart (Value.ref b)).isSome = false := rfl
    unfold Builtin.«dict.pop»
    refine wpAny_bind ?_
    unfold Builtin.Dict.keyAndDefault
    refine wpAny_bind (wpAny_notOrdered_dict hm.typeIs ?_)
    show wpAny _ _ (pure (d, Value.ref b, none)) _ _ s
    refine wpAny_pure ?_
    simp only [kp, Bool.false_eq_true, if_false]
    refine wpAny_bind (wpAny_dictEntries ho hdat (wpAny_bind (wpAny_pure ?_)))
    cases hem : es.isEmpty with
    | true =>
      have z : es.size = 0 := by simpa using hem
      have z2 : xs = [] := List.length_eq_zero_iff.mp (n1.symm.trans z)
      rw [z2] at hat
      cases hat
    | false =>
      simp only [Bool.false_eq_true, if_false]
      refine wpAny_bind (DT.takeH hu hkey hm hsz (fun hno => ?_) fun p' e hp hev h' hm' hs' => ?_)
      · rw [hat] at hno
        cases hno
      · have ep' : p' = p := Option.some.inj (hp.symm.trans hat)
        simp only [Option.isNone_some, Bool.false_eq_true, if_false]
        exact wpAny_bind (wpAny_letGo (wpAny_pure ⟨e.val, rfl, by rw [hev, ep']; exact hgo h' _ hm' hs'⟩))
end
/-- d.pop(k), k there -/
def rPopT1 : V → List V → Hp → VK → Prop := fun x xs H Q => ∃ (a : Addr) (kvs : List (List L2.Key × V)) (k : List L2.Key) (b : Addr) (v : V), x = .ref a ∧ xs = [.ref b] ∧ H a = some (.dT kvs) ∧ H b = some (.tup (k.map kV)) ∧
  valV kvs k = some v ∧ Q v (upd H a (.dT (dropK kvs k)))
theorem mt_popT1 {X : Cx} (hu : X.A.units + 1 < cLine) : MtR X "dict.pop" rPopT1 := by
  intro pins s σ H x xs v us Q I rx rxs h
  obtain ⟨a, kvs, k, b, v1, rfl, rfl, ha, hb, hv, q⟩ := h
  cases rx
  obtain ⟨u1, rfl, r1⟩ := vals1 rxs
  cases r1
  obtain ⟨z, hd, xs', rel, dd⟩ := dt_of I.hok ha
  have hz : xs'.length ≤ sizeLine := by rw [← Paired.length rel]; exact z
  have r := rel.val k
  rw [hv] at r
  obtain ⟨p, hp, rv⟩ : ∃ p, atKey xs' k = some p ∧ RelV v1 p.2 := by
    cases ev : atKey xs' k with
    | none =>
      rw [ev] at r
      exact False.elim r
    | some p =>
      rw [ev] at r
      exact ⟨p, rfl, r⟩
  refine call_meetsIn PySem.F.slot_dict_pop dd.typeIs PySem.F.entry_dict_pop (PySem.F.args_dict_pop_2 _ _) (meetsPop1 (knd := tupleKind (mixKind X.prog X.w)) (k := k) hd) ⟨xs', p, tupleKind_room_in1 hu, key_of I.hok hb, dd, hz, hp, fun h' tk dd' hs => ?_⟩
  obtain ⟨o, es, ep, hq, h2, h3, h4, _, h5⟩ := dd'
  have mu : Mut (H a) := by rw [ha]; exact True.intro
  have J : Inv X pins σ (upd H a (.dT (dropK kvs k))) { s with heap := h', toks := tk } :=
    d_write I mu hs ⟨o, hq⟩ ⟨Nat.le_trans (dropK_le kvs k) z, hd, _, (L2.DX.KT_drop k rel).keeps (fun c ys ec => (by rw [upd_ne (ne_of ec ha (fun z => nomatch z))]; exact ec)), o, es, ep, hq, h2, h3, h4, h5⟩
  show EP X pins σ Q p.2 _
  exact ⟨v1, _, J, rv, q⟩
end KD
set_option maxHeartbeats 2000000
/-! own rules 3: zip of a list and a plain text -/
namespace KD
open PySem PySem.Spec PyProof.Rows L2
structure Six (z T O a b l : Addr) : Prop where
  tz : T ≠ z
  oz : O ≠ z
  az : a ≠ z
  bz : b ≠ z
  to : T ≠ O
  ta : T ≠ a
  tb : T ≠ b
  oa : O ≠ a
  ob : O ≠ b
  ab : a ≠ b
  lz : l ≠ z
  lo : l ≠ O
  la : l ≠ a
  lb : l ≠ b
theorem ne_lt {n m : Nat} (h : n < m ∨ m < n) : n ≠ m := by omega
theorem six_of (I l : Nat) (h : l < I) : Six (I + 4) (I + 2) (I + 3) I (I + 1) l := by
  constructor <;> (refine ne_lt ?_; omega)
section
variable {prog : Program} {w : World} {A : Around} {E : Value → Shared → Prop} {s : Shared}
theorem zipS_item {z T O a b l : Addr} {i j c : Nat} {xs : Array Value} {y : Str} {tk : Tok} {x p q : Value} {Q : Value → Shared → Prop} (D : Six z T O a b l)
    (hz : IsZip s.heap z T O .none) (hT : IsPair s.heap T (.ref a) (.ref b)) (hO : IsPair s.heap O p q)
    (ha : s.heap.IsListIter a l i) (hb : s.heap.IsStrIter b "str_ascii_iterator" y tk j) (hl : s.heap.IsList l xs) (hx : xs[i]? = some x) (hy : y.cps[j]? = some c)
    (hQ : ∀ h' t', IsZip h' z T O (rawInt s.heap.objs.size) → IsPair h' O x (.str ⟨#[c]⟩ t') → h'.IsListIter a l (i + 1) → h'.IsStrIter b "str_ascii_iterator" y tk (j + 1) →
      IsPair h' s.heap.objs.size x (.str ⟨#[c]⟩ t') → h'.objs.size = s.heap.objs.size + 1 →
      (∀ e o, e ≠ z → e ≠ O → e ≠ a → e ≠ b → s.heap.get? e = some o → h'.get? e = some o) → Q (.ref s.heap.objs.size) { s with heap := h', toks := s.toks + 1 }) :
    wpAny (model prog w) A (Builtin.«zip.__next__» ⟨[.ref z], []⟩) (fun fin s' => ∃ v, fin = .done (.ret v) ∧ Q v s') E s := by
  show wpAny _ A (field (.ref z) 2 >>= _) _ E s
  refine wpAny_bind (wpAny_field hz rfl (x := .bool false) rfl ?_)
  show wpAny _ A (field (.ref z) 3 >>= _) _ E s
  refine wpAny_bind (wpAny_field hz rfl (x := .ref T) rfl ?_)
  refine wpAny_bind (wpAny_seqItems hT rfl ?_)
  show wpAny _ A (Builtin.SmallTypes.ownedTupleIsFree (.ref z) >>= _) _ E s
  refine wpAny_bind ?_
  unfold Builtin.SmallTypes.ownedTupleIsFree
  refine wpAny_bind (wpAny_field hz rfl (x := .none) rfl (wpAny_pure ?_))
  simp only [if_true]
  refine wpAny_bind (wpAny_rule ?_)
  refine wpAny_bind (wpAny_field hz rfl (x := .ref O) rfl ?_)
  refine wpAny_bind (wpAny_setField_rec hz (by simp) fun g1 z1 s1 => ?_)
  replace z1 : IsZip g1 z T O .ellipsis := z1
  refine wpAny_bind ?_
  simp only [List.zipIdx_cons, List.zipIdx_nil, List.forIn_cons, List.forIn_nil]
  refine wpAny_bind (wpAny_bind (wpAny_onRaise ?_))
  show wpAny _ _ (Builtin.SmallTypes.nextOf (.ref a) >>= _) _ _ _
  refine wpAny_bind (wpAny_nextOf_list_item (ha.extBut s1.extBut D.az) (hl.extBut s1.extBut D.lz) hx fun g2 a2 s2 => wpAny_pure ?_)
  have O2 : IsPair g2 O p q := s2.extBut _ _ D.oa (s1.extBut _ _ D.oz hO)
  refine wpAny_bind (wpAny_seqItems O2 rfl ?_)
  refine wpAny_bind (wpAny_updateSeq_pair O2 fun g3 O3 s3 => ?_)
  replace O3 : IsPair g3 O x q := O3
  refine wpAny_bind (wpAny_letGo (wpAny_pure ?_))
  refine wpAny_bind (wpAny_bind (wpAny_onRaise ?_))
  show wpAny _ _ (Builtin.SmallTypes.nextOf (.ref b) >>= _) _ _ _
  have b3 : g3.IsStrIter b "str_ascii_iterator" y tk j := ((hb.extBut s1.extBut D.bz).extBut s2.extBut D.ab.symm).extBut s3.extBut D.ob.symm
  refine wpAny_bind (wpAny_nextOf_ascii_item b3 hy fun g4 b4 s4 => wpAny_pure ?_)
  have O4 : IsPair g4 O x q := s4.extBut _ _ D.ob O3
  refine wpAny_bind (wpAny_seqItems O4 rfl ?_)
  refine wpAny_bind (wpAny_updateSeq_pair O4 fun g5 O5 s5 => ?_)
  replace O5 : IsPair g5 O x (.str ⟨#[c]⟩ s.toks) := O5
  refine wpAny_bind (wpAny_letGo (wpAny_pure (wpAny_pure ?_)))
  refine wpAny_bind (wpAny_seqItems O5 rfl ?_)
  refine wpAny_bind (wpAny_newTuple ?_)
  have sz5 : g5.objs.size = s.heap.objs.size := by rw [s5.1, s4.1, s3.1, s2.1, s1.1]
  have z5 : IsZip g5 z T O .ellipsis := s5.extBut _ _ D.oz.symm (s4.extBut _ _ D.bz.symm (s3.extBut _ _ D.oz.symm (s2.extBut _ _ D.az.symm z1)))
  have k5 : ∀ e o, e ≠ z → e ≠ O → e ≠ a → e ≠ b → s.heap.get? e = some o → g5.get? e = some o := fun e o n1 n2 n3 n4 w1 =>
    s5.extBut _ _ n2 (s4.extBut _ _ n4 (s3.extBut _ _ n2 (s2.extBut _ _ n3 (s1.extBut _ _ n1 w1))))
  have a5 : g5.IsListIter a l (i + 1) := ((a2.extBut s3.extBut D.oa.symm).extBut s4.extBut D.ab).extBut s5.extBut D.oa.symm
  have b5 : g5.IsStrIter b "str_ascii_iterator" y tk (j + 1) := b4.extBut s5.extBut D.ob.symm
  have zlt : z < g5.objs.size := Heap.lt_size z5
  show wpAny _ _ (Builtin.SmallTypes.ownedTupleHandOut (.ref z) (.ref g5.objs.size) >>= _) _ _ _
  refine wpAny_bind ?_
  unfold Builtin.SmallTypes.ownedTupleHandOut
  have z6 : IsZip (g5.push { cls := .type "tuple", data := .seq #[x, .str ⟨#[c]⟩ s.toks] }) z T O .ellipsis := Heap.get?_push_of_some _ z5
  refine wpAny_bind (wpAny_setField_rec z6 (by simp) fun g7 z7 s7 => ?_)
  replace z7 : IsZip g7 z T O (rawInt g5.objs.size) := z7
  refine wpAny_setField_rec z7 (by simp) fun g8 z8 s8 => ?_
  replace z8 : IsZip g8 z T O (rawInt g5.objs.size) := z8
  have up : ∀ e o, e ≠ z → g5.get? e = some o → g8.get? e = some o := fun e o n1 w1 => s8.extBut _ _ n1 (s7.extBut _ _ n1 (Heap.get?_push_of_some _ w1))
  have T8 : IsPair g8 g5.objs.size x (.str ⟨#[c]⟩ s.toks) := s8.extBut _ _ (Nat.ne_of_gt zlt) (s7.extBut _ _ (Nat.ne_of_gt zlt) (Heap.get?_push_size _ rfl))
  have sz8 : g8.objs.size = g5.objs.size + 1 := by rw [s8.1, s7.1, Heap.size_push]
  rw [sz5] at z8 T8 sz8
  refine wpAny_pure ⟨_, rfl, ?_⟩
  show Q (.ref g5.objs.size) _
  rw [sz5]
  exact hQ g8 _ z8 (up _ _ D.oz O5) (a5.at fun o w1 => up _ o D.az w1) (let ⟨o, w1, r⟩ := b5; ⟨o, up _ o D.bz w1, r⟩) T8 sz8 fun e o n1 n2 n3 n4 w1 => up e o n1 (k5 e o n1 n2 n3 n4 w1)
theorem zipS_end {z T O a b l : Addr} {i j : Nat} {xs : Array Value} {y : Str} {tk : Tok} {p q : Value} {Q : Fin → Shared → Prop} (hh : A.handled = none) (D : Six z T O a b l)
    (hz : IsZip s.heap z T O .none) (hT : IsPair s.heap T (.ref a) (.ref b)) (hO : IsPair s.heap O p q)
    (ha : s.heap.IsListIter a l i) (hl : s.heap.IsList l xs) (hx : xs[i]? = none)
    (hE : ∀ h' e, (∀ c o, c ≠ z → c ≠ O → c ≠ a → c ≠ b → s.heap.get? c = some o → h'.get? c = some o) → (∃ o, h'.get? e = some o ∧ o.cls = .type "StopIteration") → E (.ref e) { s with heap := h' }) :
    wpAny (model prog w) A (Builtin.«zip.__next__» ⟨[.ref z], []⟩) Q E s := by
  show wpAny _ A (field (.ref z) 2 >>= _) Q E s
  refine wpAny_bind (wpAny_field hz rfl (x := .bool false) rfl ?_)
  show wpAny _ A (field (.ref z) 3 >>= _) Q E s
  refine wpAny_bind (wpAny_field hz rfl (x := .ref T) rfl ?_)
  refine wpAny_bind (wpAny_seqItems hT rfl ?_)
  show wpAny _ A (Builtin.SmallTypes.ownedTupleIsFree (.ref z) >>= _) Q E s
  refine wpAny_bind ?_
  unfold Builtin.SmallTypes.ownedTupleIsFree
  refine wpAny_bind (wpAny_field hz rfl (x := .none) rfl (wpAny_pure ?_))
  simp only [if_true]
  refine wpAny_bind (wpAny_rule ?_)
  refine wpAny_bind (wpAny_field hz rfl (x := .ref O) rfl ?_)
  refine wpAny_bind (wpAny_setField_rec hz (by simp) fun g1 z1 s1 => ?_)
  replace z1 : IsZip g1 z T O .ellipsis := z1
  refine wpAny_bind ?_
  simp only [List.zipIdx_cons, List.zipIdx_nil, List.forIn_cons, List.forIn_nil]
  refine wpAny_bind (wpAny_bind (wpAny_onRaise ?_))
  show wpAny _ _ (Builtin.SmallTypes.nextOf (.ref a) >>= _) _ _ _
  refine wpAny_bind (wpAny_nextOf_list_end hh (ha.extBut s1.extBut D.az) (hl.extBut s1.extBut D.lz) hx fun g2 e s2 he => ?_)
  obtain ⟨oe, hoe, hce⟩ := he
  have z2 : IsZip g2 z T O .ellipsis := s2 _ _ D.az.symm z1
  have ez : e ≠ z := fun w1 => by
    rw [w1, z2] at hoe
    cases hoe
    simp at hce
  refine wpAny_setField_rec z2 (by simp) fun g3 _ s3 => hE g3 e (fun c o n1 n2 n3 _ w1 => s3.extBut _ _ n1 (s2 _ _ n3 (s1.extBut _ _ n1 w1))) ⟨oe, s3.extBut _ _ ez hoe, hce⟩
theorem zipS_next {z T O a b l : Addr} {i j c : Nat} {xs : Array Value} {y : Str} {tk : Tok} {x p q : Value} {Q : Option Value → Shared → Prop} (D : Six z T O a b l)
    (hz : IsZip s.heap z T O .none) (hT : IsPair s.heap T (.ref a) (.ref b)) (hO : IsPair s.heap O p q)
    (ha : s.heap.IsListIter a l i) (hb : s.heap.IsStrIter b "str_ascii_iterator" y tk j) (hl : s.heap.IsList l xs) (hx : xs[i]? = some x) (hy : y.cps[j]? = some c)
    (hQ : ∀ h' t', IsZip h' z T O (rawInt s.heap.objs.size) → IsPair h' O x (.str ⟨#[c]⟩ t') → h'.IsListIter a l (i + 1) → h'.IsStrIter b "str_ascii_iterator" y tk (j + 1) →
      IsPair h' s.heap.objs.size x (.str ⟨#[c]⟩ t') → h'.objs.size = s.heap.objs.size + 1 →
      (∀ e o, e ≠ z → e ≠ O → e ≠ a → e ≠ b → s.heap.get? e = some o → h'.get? e = some o) → Q (some (.ref s.heap.objs.size)) { s with heap := h', toks := s.toks + 1 }) :
    wpAny (model prog w) A (pyNext (.ref z)) Q E s := by
  have ty : s.TypeIs (.ref z) "zip" := ⟨_, hz, rfl⟩
  unfold pyNext
  refine wpAny_bind (wpAny_attempt (wpAny_callSpecial?_slot (name := Str.ofString "__next__") ty F.slot_zip_next (wpAny_call_entry F.slot_zip_next ty F.entry_zip_next ?_ (F.args_zip_next_1 _))))
  exact zipS_item D hz hT hO ha hb hl hx hy fun h' t' w1 w2 w3 w4 w5 w6 w7 => wpAny_pure (hQ h' t' w1 w2 w3 w4 w5 w6 w7)
theorem zipS_stop {z T O a b l : Addr} {i j : Nat} {xs : Array Value} {p q : Value} {Q : Option Value → Shared → Prop} (hh : A.handled = none) (D : Six z T O a b l)
    (hz : IsZip s.heap z T O .none) (hT : IsPair s.heap T (.ref a) (.ref b)) (hO : IsPair s.heap O p q) (ha : s.heap.IsListIter a l i) (hl : s.heap.IsList l xs) (hx : xs[i]? = none)
    (hQ : ∀ h', (∀ c o, c ≠ z → c ≠ O → c ≠ a → c ≠ b → s.heap.get? c = some o → h'.get? c = some o) → Q none { s with heap := h' }) : wpAny (model prog w) A (pyNext (.ref z)) Q E s := by
  have ty : s.TypeIs (.ref z) "zip" := ⟨_, hz, rfl⟩
  unfold pyNext
  refine wpAny_bind (wpAny_attempt (wpAny_callSpecial?_slot (name := Str.ofString "__next__") ty F.slot_zip_next (wpAny_call_entry F.slot_zip_next ty F.entry_zip_next ?_ (F.args_zip_next_1 _))))
  refine zipS_end (j := j) (y := Str.empty) (tk := 0) hh D hz hT hO ha hl hx fun h' e hk he => ?_
  obtain ⟨o, ho, hc⟩ := he
  exact wpAny_bind (wpAny_isInstance (T := "StopIteration") (b := true) ⟨o, ho, hc⟩ isSubtype_stop (wpAny_pure (hQ _ hk)))
abbrev zs1 (h : Heap) (l : Addr) : Heap := h.push { cls := .type "list_iterator", data := .fields #[.ref l, .int 0 0] }
abbrev zs2 (h : Heap) (l : Addr) (y : Str) (t : Tok) : Heap := (zs1 h l).push { cls := .type "str_ascii_iterator", data := .fields #[.str y t, .int 0 0] }
abbrev zs3 (h : Heap) (l : Addr) (y : Str) (t : Tok) : Heap := (zs2 h l y t).push { cls := .type "tuple", data := .seq #[.ref h.objs.size, .ref (zs1 h l).objs.size] }
abbrev zs4 (h : Heap) (l : Addr) (y : Str) (t : Tok) : Heap := (zs3 h l y t).push { cls := .type "tuple", data := .seq #[.none, .none] }
abbrev zs5 (h : Heap) (l : Addr) (y : Str) (t : Tok) : Heap := (zs4 h l y t).push { cls := .type "zip", data := .fields #[.none, .bool false, .bool false, .ref (zs2 h l y t).objs.size, .ref (zs3 h l y t).objs.size] }
end
theorem meets_zipS (l : Addr) (y : Str) (t : Tok) (xs : Array Value) (hy : y.cps.all (· < 128) = true) :
    Meets (Builtin.«zip.__new__» ⟨[.type "zip", .ref l, .str y t], []⟩) (fun _ R s => s.heap.IsList l xs ∧ R (.ok (.ret (.ref (zs4 s.heap l y t).objs.size))) { s with heap := zs5 s.heap l y t }) :=
  .of_wp fun prog w A R s h => by
    obtain ⟨hp, g, d, tk, os⟩ := s
    obtain ⟨hl, h⟩ := h
    have hsub := sub_zip
    have L1 : Heap.IsList (Shared.heap ⟨hp, g, d, tk, os⟩) l xs := hl
    wp_walk using wpAny_pyIter_list L1, wpAny_pyIter_ascii (t := t) hy
    exact ⟨_, rfl, h⟩
section
variable {prog : Program} {w : World} {A : Around} {E : Value → Shared → Prop} {s : Shared}
theorem call_zipS {l : Addr} {y : Str} {t : Tok} {xs : Array Value} {Q : Value → Shared → Prop} (hl : s.heap.IsList l xs) (hy : y.cps.all (· < 128) = true)
    (h : ∀ h', IsZip h' (s.heap.objs.size + 4) (s.heap.objs.size + 2) (s.heap.objs.size + 3) .none → IsPair h' (s.heap.objs.size + 2) (.ref s.heap.objs.size) (.ref (s.heap.objs.size + 1)) →
      IsPair h' (s.heap.objs.size + 3) .none .none → h'.IsListIter s.heap.objs.size l 0 → h'.IsStrIter (s.heap.objs.size + 1) "str_ascii_iterator" y t 0 →
      (∀ c o, s.heap.get? c = some o → h'.get? c = some o) → Q (.ref (s.heap.objs.size + 4)) { s with heap := h' }) :
    wpAny (model prog w) A (call (.type "zip") [.ref l, .str y t]) Q E s := by
  refine callType_new F.called_zip (by decide) (F.typeCall_zip_2 _ _) (F.newCall_zip_2 _ _) (fun obj => F.args_object_init_3 obj _ _) F.entry_zip_new (meets_zipS l y t xs hy) ⟨hl, ?_⟩
  have n1 : (zs1 s.heap l).objs.size = s.heap.objs.size + 1 := Heap.size_push ..
  have n2 : (zs2 s.heap l y t).objs.size = s.heap.objs.size + 2 := by rw [Heap.size_push, n1]
  have n3 : (zs3 s.heap l y t).objs.size = s.heap.objs.size + 3 := by rw [Heap.size_push, n2]
  have n4 : (zs4 s.heap l y t).objs.size = s.heap.objs.size + 4 := by rw [Heap.size_push, n3]
  have g5 : (zs5 s.heap l y t).get? (zs4 s.heap l y t).objs.size = some _ := Heap.get?_push_size _ rfl
  have g4 : (zs5 s.heap l y t).get? (zs3 s.heap l y t).objs.size = some _ := Heap.get?_push_of_some _ (Heap.get?_push_size _ rfl)
  have g3 : (zs5 s.heap l y t).get? (zs2 s.heap l y t).objs.size = some _ := Heap.get?_push_of_some _ (Heap.get?_push_of_some _ (Heap.get?_push_size _ rfl))
  have g2 : (zs5 s.heap l y t).get? (zs1 s.heap l).objs.size = some _ := Heap.get?_push_of_some _ (Heap.get?_push_of_some _ (Heap.get?_push_of_some _ (Heap.get?_push_size _ rfl)))
  have g1 : (zs5 s.heap l y t).get? s.heap.objs.size = some _ := Heap.get?_push_of_some _ (Heap.get?_push_of_some _ (Heap.get?_push_of_some _ (Heap.get?_push_of_some _ (Heap.get?_push_size _ rfl))))
  show _ ∧ _
  rw [n2, n3, n4] at g5
  rw [n1, n2] at g3
  rw [n3] at g4
  rw [n1] at g2
  rw [n4]
  refine ⟨⟨_, g5, rfl⟩, h _ g5 g3 g4 ⟨_, g1, rfl, rfl⟩ ⟨_, g2, rfl, rfl⟩ fun c o x => ?_⟩
  exact Heap.get?_push_of_some _ (Heap.get?_push_of_some _ (Heap.get?_push_of_some _ (Heap.get?_push_of_some _ (Heap.get?_push_of_some _ x))))
end
/-- the items of the list beside the text's signs, as many as the list has (the text has as many or more) -/
def ItzS (K : PySem.W.Frag) (a : Addr) (y : Str) : It :=
  ⟨fun i H => ∃ xs x c, SqL K H a xs ∧ xs[i]? = some x ∧ y.cps[i]? = some c,
   fun i H v H' => ∃ T x c, v = .ref T ∧ H T = none ∧ H' = upd H T (.tup [x, .str ⟨#[c]⟩]) ∧ y.cps[i]? = some c ∧ ∀ xs, SqL K H a xs → xs[i]? = some x,
   fun i H => ∃ xs, SqL K H a xs ∧ xs.length ≤ i⟩
theorem turn_zipS {P : Program} {w : World} {K : PySem.W.Frag} {elts : List Expr} {kk : Nat} {tpos : Pos} {l z T O a b : Addr} {y : Str} {tk : Tok} (D : Six z T O a b l) :
    Turn P w K (.Tuple elts kk tpos) (ItzS K l y) [z, T, O, a, b] z (fun i h => IsZip h z T O .none ∧ IsPair h T (.ref a) (.ref b) ∧ (∃ x y, IsPair h O x y) ∧ h.IsListIter a l i ∧ h.IsStrIter b "str_ascii_iterator" y tk i) where
  mem := List.mem_cons_self
  obj := fun i h hst c hc => by
    obtain ⟨hz, hT, ⟨x, y', hO⟩, ⟨o1, e1, _, d1⟩, ⟨o2, e2, _, d2⟩⟩ := hst
    simp only [List.mem_cons, List.not_mem_nil, or_false] at hc
    rcases hc with q | q | q | q | q <;> rw [q]
    · exact ⟨_, hz, fun v q => nomatch q⟩
    · exact ⟨_, hT, fun v q => nomatch q⟩
    · exact ⟨_, hO, fun v q => nomatch q⟩
    · exact ⟨o1, e1, fun v q => by rw [d1] at q; cases q⟩
    · exact ⟨o2, e2, fun v q => by rw [d2] at q; cases q⟩
  keep := fun i h h' hst k => by
    obtain ⟨hz, hT, ⟨x, y', hO⟩, h1, ⟨o2, e2, r2⟩⟩ := hst
    exact ⟨k z (by simp) _ hz, k T (by simp) _ hT, ⟨x, y', k O (by simp) _ hO⟩, h1.at fun o q => k a (by simp) o q, ⟨o2, k b (by simp) o2 e2, r2⟩⟩
  item := by
    intro X hP hw hK hc i pins s σ H E I hf hst hgo
    subst hP hw hK
    obtain ⟨hz, hT, ⟨x0, y0, hO⟩, h1, h2⟩ := hst
    obtain ⟨xs, x, c, hq, hx, hy⟩ := hgo
    obtain ⟨its, rv, p, _⟩ := I.list hq
    obtain ⟨u, hu, ru⟩ := rv.get hx
    have zlt : z < s.heap.objs.size := Heap.lt_size hz
    refine zipS_next D hz hT hO h1 h2 p.isList (x := u) (c := c) (by simpa using hu) hy fun h' t' z' O' a' b' T' hsz hk => ?_
    refine ⟨_, rfl, wpAny_letOwnedTupleGo_zip (s := { s with heap := h', toks := s.toks + 1 }) z' fun h'' z'' sb => ?_⟩
    have T2 : h''.get? s.heap.objs.size = some { cls := .type "tuple", data := .seq #[u, .str ⟨#[c]⟩ t'] } := (sb.2 _ (Nat.ne_of_gt zlt)).trans T'
    have hob : ObjOk X.prog X.w (upd H s.heap.objs.size (.tup [x, .str ⟨#[c]⟩])) h'' s.heap.objs.size (.tup [x, .str ⟨#[c]⟩]) :=
      ⟨by show 2 ≤ sizeLine; decide, [u, .str ⟨#[c]⟩ t'], .cons ru (.cons ⟨t', rfl⟩ .nil), ⟨_, T2, rfl, _, rfl⟩⟩
    have J : Inv X pins σ (upd H s.heap.objs.size (.tup [x, .str ⟨#[c]⟩])) { s with heap := h'', toks := s.toks + 1 } :=
      I.turnedNew (t' := s.toks + 1) (ch := [z, T, O, a, b]) (fun e o hb q => (sb.2 e (fun q' => hb (by simp [q']))).trans (hk e o (fun q' => hb (by simp [q'])) (fun q' => hb (by simp [q'])) (fun q' => hb (by simp [q'])) (fun q' => hb (by simp [q'])) q)) hf (Nat.le_refl _) hob
    refine ⟨.ref s.heap.objs.size, _, J, rfl, ⟨_, x, c, rfl, I.hok.fresh (Nat.le_refl _), rfl, hy, fun l' hl => by rw [I.list_inj hl hq]; exact hx⟩, ⟨z'', ?_, ⟨u, .str ⟨#[c]⟩ t', ?_⟩, ?_, ?_⟩, fun e hcm => ?_⟩
    · exact (sb.2 _ D.tz).trans (hk _ _ D.tz D.to D.ta D.tb hT)
    · exact (sb.2 _ D.oz).trans O'
    · exact a'.at fun o q => (sb.2 _ D.az).trans q
    · obtain ⟨o, w1, r⟩ := b'
      exact ⟨o, (sb.2 _ D.bz).trans w1, r⟩
    · have lt0 : e < s.heap.objs.size := by
        simp only [List.mem_cons, List.not_mem_nil, or_false] at hcm
        rcases hcm with q | q | q | q | q <;> rw [q]
        · exact zlt
        · exact Heap.lt_size hT
        · exact Heap.lt_size hO
        · obtain ⟨_, e1, _⟩ := h1; exact Heap.lt_size e1
        · obtain ⟨_, e2, _⟩ := h2; exact Heap.lt_size e2
      rw [upd_ne (Nat.ne_of_lt lt0)]
      exact (hf e hcm).1
  done := by
    intro X hP hw hK hc i pins s σ H E I hf hst hgo
    subst hP hw hK
    obtain ⟨hz, hT, ⟨x0, y0, hO⟩, h1, h2⟩ := hst
    obtain ⟨xs, hq, hend⟩ := hgo
    obtain ⟨its, rv, p, _⟩ := I.list hq
    have n1 := rv.length
    have he : its.toArray[i]? = none := by simp; omega
    refine zipS_stop (j := i) (I.ok.hd hc) D hz hT hO h1 p.isList he fun h' hk => ⟨rfl, ?_⟩
    exact I.turnedL (t' := s.toks) (ch := [z, T, O, a, b]) (fun c o hb q => hk c o (fun q' => hb (by simp [q'])) (fun q' => hb (by simp [q'])) (fun q' => hb (by simp [q'])) (fun q' => hb (by simp [q'])) q) hf
  self := fun A i s Q E hst h => wpAny_pyIter_zip hst.1 h
def iZipS (K : PySem.W.Frag) (ta : TA) : TI := fun σ H R => ta σ H fun vs H1 => ∃ a xs y, vs = [.ref a, .str y] ∧ SqL K H1 a xs ∧ y.cps.all (· < 128) = true ∧ R (ItzS K a y) H1
theorem pi_zipS {X : Cx} {e e2 : Expr} {ta : TA} {p pos tpos : Pos} {elts : List Expr} {kk : Nat} (hg : Gl X "zip") (hm : X.mg "zip" = none) (ha : PA X [e, e2] ta)
    (hs : starEach [e, e2] X.env = (false, eval e X.env) :: starEach [e2] X.env := by rfl) (hpl : (backTo pos (starEach [e2] X.env)).any (·.1) = false := by rfl) :
    PI X (.Tuple elts kk tpos) (.Call (.Name "zip" p) [e, e2] [] pos) (iZipS X.K ta) := by
  constructor
  intro pins s σ H R I h
  refine Call_ (ld_blt I hg hm PyProof.Rows.boot_zip (PyProof.Rows.callWith_type1 (thn (ha.run pos pins s σ H _ I h) fun us s1 hh => ?_) hs hpl))
  obtain ⟨vs, H1, J, r1, a, xs, y, ex, hq, hy, q⟩ := hh
  subst ex
  cases r1 with
  | cons r rr =>
    cases rr with
    | cons r' rr =>
      cases rr
      cases r
      obtain ⟨t, rfl⟩ := r'
      obtain ⟨its, rv, p1, _⟩ := J.list hq
      have la : a < s1.heap.objs.size := p1.lt
      refine call_zipS p1.isList hy fun h' hz hT hO h1 h2 hk => wpAny_pyIter_zip hz ?_
      have J2 : Inv X pins σ H1 { s1 with heap := h' } := J.kept (t' := s1.toks) hk
      have D : Six (s1.heap.objs.size + 4) (s1.heap.objs.size + 2) (s1.heap.objs.size + 3) s1.heap.objs.size (s1.heap.objs.size + 1) a := six_of _ _ la
      refine ⟨s1.heap.objs.size + 4, [s1.heap.objs.size + 4, s1.heap.objs.size + 2, s1.heap.objs.size + 3, s1.heap.objs.size, s1.heap.objs.size + 1], _, _, H1, rfl, J2, turn_zipS (y := y) (tk := t) D, ⟨hz, hT, ⟨_, _, hO⟩, h1, h2⟩, fun c hcm => ?_, q⟩
      have le0 : s1.heap.objs.size ≤ c := by
        simp only [List.mem_cons, List.not_mem_nil, or_false] at hcm
        rcases hcm with z | z | z | z | z <;> rw [z]
        · exact Nat.le_add_right _ _
        · exact Nat.le_add_right _ _
        · exact Nat.le_add_right _ _
        · exact Nat.le_refl _
        · exact Nat.le_add_right _ _
      exact J.fpOk le0 (J.hok.fresh le0)
end KD
set_option maxHeartbeats 2000000
/-! more words of what a reading gives, leaving what is known -/
namespace KD
open PySem PySem.Spec PyProof.Rows L2 Evl
/-- some value of which more is said -/
def EvP (te : TE) (σ : L2.St) (H : Hp) (Φ : V → Hp → Prop) : Prop := ∀ H1, Ex H H1 → ∀ Q : VK, (∀ v H2, Ex H1 H2 → Φ v H2 → Q v H2) → te σ H1 Q
def RCP (r : List V → Hp → VK → Prop) (vs : List V) (H : Hp) (Φ : V → Hp → Prop) : Prop := ∀ H1, Ex H H1 → ∀ Q : VK, (∀ v H2, Ex H1 H2 → Φ v H2 → Q v H2) → r vs H1 Q
def SpP (sp : Sp) (vs : List V) (H : Hp) (Φ : V → Hp → Prop) : Prop := ∀ H1, Ex H H1 → ∀ Q : VK, (∀ v H2, Ex H1 H2 → Φ v H2 → Q v H2) → ∀ E : XK, sp vs H1 Q E
/-- a method's reading on values, leaving what is known -/
def RM (r : V → List V → Hp → VK → Prop) (x : V) (vs : List V) (H : Hp) (z : V) : Prop := ∀ H1, Ex H H1 → ∀ Q : VK, (∀ H2, Ex H1 H2 → Q z H2) → r x vs H1 Q
def RML (r : V → List V → Hp → VK → Prop) (x : V) (vs : List V) (H : Hp) (xs : List V) : Prop := ∀ H1, Ex H H1 → ∀ Q : VK, (∀ p H2, H1 p = none → Ex H1 H2 → H2 p = some (.lst xs) → Q (.ref p) H2) → r x vs H1 Q
section
variable {K : PySem.W.Frag} {σ : L2.St} {H H' : Hp} {ta tb te tx : TE} {t u : TT} {x y z v : V} {r : R2} {Φ : V → Hp → Prop}
theorem EvP.mono (e : Ex H H') (h : EvP te σ H Φ) : EvP te σ H' Φ := fun H1 a Q q => h H1 (e.trans a) Q q
theorem EvU.mono {xs : List V} (e : Ex H H') (h : EvU te σ H xs) : EvU te σ H' xs := fun H1 a Q q => h H1 (e.trans a) Q q
theorem ev_tC {sp : Sp} {vs : List V} {E : XK} {ta : TA} (h : EvA ta σ H vs) (hs : SpV sp vs H z) : Ev (tC sp E ta) σ H z := fun H1 e Q q =>
  h H1 e _ fun H2 e2 => hs H2 (e.trans e2) Q (fun H3 e3 => q H3 (e2.trans e3)) E
theorem el_tC {sp : Sp} {vs xs : List V} {E : XK} {ta : TA} (h : EvA ta σ H vs) (hs : SpL sp vs H xs) : EvL (tC sp E ta) σ H xs := fun H1 e Q q =>
  h H1 e _ fun H2 e2 => hs H2 (e.trans e2) Q (fun p H3 hp e3 h3 => q p H3 (fresh_back e2 hp) (e2.trans e3) h3) E
theorem ep_tC {sp : Sp} {vs : List V} {E : XK} {ta : TA} (h : EvA ta σ H vs) (hs : SpP sp vs H Φ) : EvP (tC sp E ta) σ H Φ := fun H1 e Q q =>
  h H1 e _ fun H2 e2 => hs H2 (e.trans e2) Q (fun v H3 e3 h3 => q v H3 (e2.trans e3) h3) E
/-- the same where one argument is a new list -/
theorem ev_tCL {sp : Sp} {xs vs : List V} {E : XK} {tr : TA} (h1 : EvL te σ H xs) (h2 : EvA tr σ H vs) (hs : ∀ p H1, Ex H H1 → H1 p = some (.lst xs) → SpV sp (.ref p :: vs) H1 z) : Ev (tC sp E (tCons te tr)) σ H z := fun H1 e Q q =>
  h1 H1 e _ fun p H2 _ e2 hp => h2 H2 (e.trans e2) _ fun H3 e3 => hs p H3 ((e.trans e2).trans e3) (e3 p _ hp) H3 (Ex.refl H3) Q (fun H4 e4 => q H4 ((e2.trans e3).trans e4)) E
theorem ev_tCL2 {sp : Sp} {xs : List V} {E : XK} (h1 : Ev tx σ H x) (h2 : EvL te σ H xs) (hs : ∀ p H1, Ex H H1 → H1 p = some (.lst xs) → SpV sp [x, .ref p] H1 z) : Ev (tC sp E (tCons tx (tCons te tNil))) σ H z := fun H1 e Q q =>
  h1 H1 e _ fun H2 e2 => h2 H2 (e.trans e2) _ fun p H3 _ e3 hp => hs p H3 ((e.trans e2).trans e3) hp H3 (Ex.refl H3) Q (fun H4 e4 => q H4 ((e2.trans e3).trans e4)) E
theorem ev_tM {C : Addr} {m : Str} {sp : Sp} {vs : List V} {E : XK} {ta : TA} {a dx : Addr} {fs : List (Str × V)} (ho : Ev te σ H (.ref a)) (hi : H a = some (.ins C dx fs)) (hl : fs.lookup m = none) (h : EvA ta σ H vs) (hs : SpV sp (.ref a :: vs) H z) : Ev (tM C m sp E te ta) σ H z := fun H1 e Q q =>
  ho H1 e _ fun H2 e2 => ⟨a, dx, fs, rfl, (e.trans e2) a _ hi, hl, h H2 (e.trans e2) _ fun H3 e3 => hs H3 ((e.trans e2).trans e3) Q (fun H4 e4 => q H4 ((e2.trans e3).trans e4)) E⟩
theorem el_tM {C : Addr} {m : Str} {sp : Sp} {vs xs : List V} {E : XK} {ta : TA} {a dx : Addr} {fs : List (Str × V)} (ho : Ev te σ H (.ref a)) (hi : H a = some (.ins C dx fs)) (hl : fs.lookup m = none) (h : EvA ta σ H vs) (hs : SpL sp (.ref a :: vs) H xs) : EvL (tM C m sp E te ta) σ H xs := fun H1 e Q q =>
  ho H1 e _ fun H2 e2 => ⟨a, dx, fs, rfl, (e.trans e2) a _ hi, hl, h H2 (e.trans e2) _ fun H3 e3 => hs H3 ((e.trans e2).trans e3) Q (fun p H4 hp e4 h4 => q p H4 (fresh_back (e2.trans e3) hp) ((e2.trans e3).trans e4) h4) E⟩
theorem ep_tM {C : Addr} {m : Str} {sp : Sp} {vs : List V} {E : XK} {ta : TA} {a dx : Addr} {fs : List (Str × V)} (ho : Ev te σ H (.ref a)) (hi : H a = some (.ins C dx fs)) (hl : fs.lookup m = none) (h : EvA ta σ H vs) (hs : SpP sp (.ref a :: vs) H Φ) : EvP (tM C m sp E te ta) σ H Φ := fun H1 e Q q =>
  ho H1 e _ fun H2 e2 => ⟨a, dx, fs, rfl, (e.trans e2) a _ hi, hl, h H2 (e.trans e2) _ fun H3 e3 => hs H3 ((e.trans e2).trans e3) Q (fun v H4 e4 h4 => q v H4 ((e2.trans e3).trans e4) h4) E⟩
theorem ev_fld {C dx a : Addr} {fs : List (Str × V)} {f : Str} (ho : Ev te σ H (.ref a)) (hi : H a = some (.ins C dx fs)) (c : Cls K C) (n : NoAttr K C f) (hl : fs.lookup f = some v) : Ev (tFld K te f) σ H v := fun H1 e Q q =>
  ho H1 e _ fun H2 e2 => ⟨a, C, dx, fs, v, rfl, (e.trans e2) a _ hi, c, n, hl, q H2 e2⟩
theorem ev_tBM {T : String} {rm : V → List V → Hp → VK → Prop} {ta : TA} {vs : List V} (ho : Ev te σ H x) (ht : ∀ H1, Ex H H1 → tyV K T x H1) (h : EvA ta σ H vs) (hm : RM rm x vs H z) : Ev (tBM K T rm te ta) σ H z := fun H1 e Q q =>
  ho H1 e _ fun H2 e2 => ⟨ht H2 (e.trans e2), h H2 (e.trans e2) _ fun H3 e3 => hm H3 ((e.trans e2).trans e3) Q fun H4 e4 => q H4 ((e2.trans e3).trans e4)⟩
theorem tyL {p : Addr} {xs : List V} (h : SqL K H p xs) : ∀ H1, Ex H H1 → tyV K "list" (.ref p) H1 := fun H1 e => Or.inl ⟨rfl, xs, ex_l e h⟩
theorem ev_tM1 {rm : V → List V → Hp → VK → Prop} {a : Str} (ho : Ev te σ H (.str a)) (h : Ev tx σ H y) (hm : RM rm (.str a) [y] H z) : Ev (tM1 rm te tx) σ H z := fun H1 e Q q =>
  ho H1 e _ fun H2 e2 => ⟨⟨a, rfl⟩, h H2 (e.trans e2) _ fun H3 e3 => hm H3 ((e.trans e2).trans e3) Q fun H4 e4 => q H4 ((e2.trans e3).trans e4)⟩
theorem el_tM1 {rm : V → List V → Hp → VK → Prop} {a : Str} {xs : List V} (ho : Ev te σ H (.str a)) (h : Ev tx σ H y) (hm : RML rm (.str a) [y] H xs) : EvL (tM1 rm te tx) σ H xs := fun H1 e Q q =>
  ho H1 e _ fun H2 e2 => ⟨⟨a, rfl⟩, h H2 (e.trans e2) _ fun H3 e3 => hm H3 ((e.trans e2).trans e3) Q fun p H4 hp e4 h4 => q p H4 (fresh_back (e2.trans e3) hp) ((e2.trans e3).trans e4) h4⟩
/-- the argument a new list -/
theorem ev_tM1L {rm : V → List V → Hp → VK → Prop} {a : Str} {xs : List V} (ho : Ev te σ H (.str a)) (h : EvL tx σ H xs) (hm : ∀ p H1, Ex H H1 → H1 p = some (.lst xs) → RM rm (.str a) [.ref p] H1 z) : Ev (tM1 rm te tx) σ H z := fun H1 e Q q =>
  ho H1 e _ fun H2 e2 => ⟨⟨a, rfl⟩, h H2 (e.trans e2) _ fun p H3 _ e3 hp => hm p H3 ((e.trans e2).trans e3) hp H3 (Ex.refl H3) Q fun H4 e4 => q H4 ((e2.trans e3).trans e4)⟩
/-- a call of a built-in on a new list -/
theorem ev_cbL {rc : List V → Hp → VK → Prop} {xs : List V} (h : EvL te σ H xs) (hr : ∀ p H1, Ex H H1 → H1 p = some (.lst xs) → RC rc [.ref p] H1 z) : Ev (tCB rc (tCons te tNil)) σ H z := fun H1 e Q q =>
  h H1 e _ fun p H2 _ e2 hp => hr p H2 (e.trans e2) hp H2 (Ex.refl H2) Q fun H3 e3 => q H3 (e2.trans e3)
theorem el_cbL {rc : List V → Hp → VK → Prop} {xs ys : List V} (h : EvL te σ H xs) (hr : ∀ p H1, Ex H H1 → H1 p = some (.lst xs) → RCL rc [.ref p] H1 ys) : EvL (tCB rc (tCons te tNil)) σ H ys := fun H1 e Q q =>
  h H1 e _ fun p H2 _ e2 hp => hr p H2 (e.trans e2) hp H2 (Ex.refl H2) Q fun p2 H3 hp2 e3 h3 => q p2 H3 (fresh_back e2 hp2) (e2.trans e3) h3
theorem ep_cbL {rc : List V → Hp → VK → Prop} {xs : List V} (h : EvL te σ H xs) (hr : ∀ p H1, Ex H H1 → H1 p = some (.lst xs) → RCP rc [.ref p] H1 Φ) : EvP (tCB rc (tCons te tNil)) σ H Φ := fun H1 e Q q =>
  h H1 e _ fun p H2 _ e2 hp => hr p H2 (e.trans e2) hp H2 (Ex.refl H2) Q fun v H3 e3 h3 => q v H3 (e2.trans e3) h3
theorem ep_cb {rc : List V → Hp → VK → Prop} {ta : TA} {vs : List V} (h : EvA ta σ H vs) (hr : RCP rc vs H Φ) : EvP (tCB rc ta) σ H Φ := fun H1 e Q q =>
  h H1 e _ fun H2 e2 => hr H2 (e.trans e2) Q fun v H3 e3 h3 => q v H3 (e2.trans e3) h3
theorem EvL.p {xs : List V} (h : EvL te σ H xs) : EvP te σ H fun v H1 => ∃ p, v = .ref p ∧ H p = none ∧ H1 p = some (.lst xs) := fun H1 e Q q => h H1 e Q fun p H2 hp e2 h2 => q _ H2 e2 ⟨p, rfl, fresh_back e hp, h2⟩
theorem Ev.p (h : Ev te σ H v) (hf : ∀ H1, Ex H H1 → Φ v H1) : EvP te σ H Φ := fun H1 e Q q => h H1 e Q fun H2 e2 => q v H2 e2 (hf H2 (e.trans e2))
theorem EvP.imp {Φ' : V → Hp → Prop} (h : EvP te σ H Φ) (k : ∀ v H1, Ex H H1 → Φ v H1 → Φ' v H1) : EvP te σ H Φ' := fun H1 e Q q => h H1 e Q fun v H2 e2 hv => q v H2 e2 (k v H2 (e.trans e2) hv)
/-- dicts -/
theorem ev_dget {a : Addr} (ho : Ev te σ H (.ref a)) (h : Ev tx σ H y) (hd : ∀ H1, Ex H H1 → DGet H1 a y (some v)) : Ev (tDGet te tx) σ H v := fun H1 e Q q =>
  ho H1 e _ fun H2 e2 => h H2 (e.trans e2) _ fun H3 e3 => ⟨a, v, rfl, hd H3 ((e.trans e2).trans e3), q H3 (e2.trans e3)⟩
theorem ev_dgetU {a : Addr} {xs : List V} (ho : Ev te σ H (.ref a)) (h : EvU tx σ H xs) (hd : ∀ p H1, Ex H H1 → H1 p = some (.tup xs) → DGet H1 a (.ref p) (some v)) : Ev (tDGet te tx) σ H v := fun H1 e Q q =>
  ho H1 e _ fun H2 e2 => h H2 (e.trans e2) _ fun p H3 _ e3 hp => ⟨a, v, rfl, hd p H3 ((e.trans e2).trans e3) hp, q H3 (e2.trans e3)⟩
theorem ev_dget1U {a : Addr} {xs : List V} {o : Option V} (ho : Ev te σ H (.ref a)) (hi : ∀ H1, Ex H H1 → IsD H1 a) (h : EvU tx σ H xs) (hd : ∀ p H1, Ex H H1 → H1 p = some (.tup xs) → DGet H1 a (.ref p) o) : Ev (tDGet1 te tx) σ H (o.getD .non) := fun H1 e Q q =>
  ho H1 e _ fun H2 e2 => ⟨a, rfl, hi H2 (e.trans e2), h H2 (e.trans e2) _ fun p H3 _ e3 hp => ⟨o, hd p H3 ((e.trans e2).trans e3) hp, q H3 (e2.trans e3)⟩⟩
theorem ev_din {a : Addr} {o : Option V} (h : Ev tx σ H y) (ho : Ev te σ H (.ref a)) (hd : ∀ H1, Ex H H1 → DGet H1 a y o) : Ev (tDIn tx te) σ H (.bl o.isSome) := fun H1 e Q q =>
  h H1 e _ fun H2 e2 => ho H2 (e.trans e2) _ fun H3 e3 => ⟨a, o, rfl, hd H3 ((e.trans e2).trans e3), q H3 (e2.trans e3)⟩
theorem ev_dinU {a : Addr} {o : Option V} {xs : List V} (h : EvU tx σ H xs) (ho : Ev te σ H (.ref a)) (hd : ∀ p H1, Ex H H1 → H1 p = some (.tup xs) → DGet H1 a (.ref p) o) : Ev (tDIn tx te) σ H (.bl o.isSome) := fun H1 e Q q =>
  h H1 e _ fun p H2 _ e2 hp => ho H2 (e.trans e2) _ fun H3 e3 => ⟨a, o, rfl, hd p H3 ((e.trans e2).trans e3) (e3 p _ hp), q H3 (e2.trans e3)⟩
theorem ev_dnin {a : Addr} {o : Option V} (h : Ev tx σ H y) (ho : Ev te σ H (.ref a)) (hd : ∀ H1, Ex H H1 → DGet H1 a y o) : Ev (tDNotIn tx te) σ H (.bl (!o.isSome)) := fun H1 e Q q =>
  h H1 e _ fun H2 e2 => ho H2 (e.trans e2) _ fun H3 e3 => ⟨a, o, rfl, hd H3 ((e.trans e2).trans e3), q H3 (e2.trans e3)⟩
theorem ev_dninU {a : Addr} {o : Option V} {xs : List V} (h : EvU tx σ H xs) (ho : Ev te σ H (.ref a)) (hd : ∀ p H1, Ex H H1 → H1 p = some (.tup xs) → DGet H1 a (.ref p) o) : Ev (tDNotIn tx te) σ H (.bl (!o.isSome)) := fun H1 e Q q =>
  h H1 e _ fun p H2 _ e2 hp => ho H2 (e.trans e2) _ fun H3 e3 => ⟨a, o, rfl, hd p H3 ((e.trans e2).trans e3) (e3 p _ hp), q H3 (e2.trans e3)⟩
theorem ex_rdk {a : Addr} {kvs : List (Key × V)} (e : Ex H H') (h : Rd H a (.dK kvs)) : Rd H' a (.dK kvs) := ex_rd e h
theorem dg_k {a : Addr} {kvs : List (Key × V)} {k : Key} (h : Rd H a (.dK kvs)) : ∀ H1, Ex H H1 → DGet H1 a (kV k) (valV kvs k) := fun H1 e => Or.inl ⟨kvs, k, ex_rd e h, rfl, rfl⟩
theorem dg_t {a : Addr} {kvs : List (List Key × V)} {k : List Key} {xs : List V} (h : Rd H a (.dT kvs)) (hx : xs = k.map kV) : ∀ p H1, Ex H H1 → H1 p = some (.tup xs) → DGet H1 a (.ref p) (valV kvs k) := fun p H1 e hp => Or.inr ⟨kvs, k, p, ex_rd e h, rfl, by rw [hp, hx], rfl⟩
/-! statements -/
variable {D : Ends} {tu tw tz : TS} {g : TG}
theorem s_asgP {i : Nat} (h : EvP te σ H Φ) (k : ∀ v H1, Ex H H1 → Φ v H1 → D.nx (σ.set i (some v)) H1) : tAsg te (gName i) D σ H := h H (Ex.refl H) _ fun v H1 e hv => k v H1 e hv
theorem q_asgP {i : Nat} (h : EvP te σ H Φ) (k : ∀ v H1, Ex H H1 → Φ v H1 → tz D (σ.set i (some v)) H1) : tSeq (tAsg te (gName i)) tz D σ H := s_asgP (D := { D with nx := tz D }) h k
theorem s_retP (h : EvP te σ H Φ) (k : ∀ v H1, Ex H H1 → Φ v H1 → D.rt v H1) : tRet te D σ H := h H (Ex.refl H) _ k
theorem q_ret (h : Ev te σ H v) (k : ∀ H1, Ex H H1 → D.rt v H1) : tSeq (tRet te) tz D σ H := h H (Ex.refl H) _ k
/-- what is locked while a walk runs -/
theorem ex_unlock {d : Addr} {u : HO} {od : Obj} (hd : H d = some u) (e : Ex (upd H d (.frz od u)) H') : Ex H (upd H' d u) := fun a o ha => by
  by_cases h : a = d
  · subst h
    rw [upd_same]
    exact hd.symm.trans ha |>.symm ▸ rfl
  · rw [upd_ne h]
    refine e a o ?_
    rw [upd_ne h]
    exact ha
end
end KD
set_option maxHeartbeats 2000000
/-! rules by values, each with what it leaves known -/
namespace KD
open PySem PySem.Spec PyProof.Rows L2 Evl
section
variable {K : PySem.W.Frag} {σ : L2.St} {H H' : Hp} {ta tb te tx : TE} {t u : TT} {x y z v : V} {r : R2} {Φ : V → Hp → Prop}
theorem rv_R {C : Int → Int → Prop} {g : Int → Int → V} {i j : Int} (hc : C i j) : RV (rI C g) (.int i) (.int j) H (g i j) := rv_I hc
theorem rv_addS {a b : Str} (h : a.length + b.length ≤ sizeLine) : RV (fun x y H Q => ∃ i j, x = .str i ∧ y = .str j ∧ i.length + j.length ≤ sizeLine ∧ Q (.str (i ++ j)) H) (.str a) (.str b) H (.str (a ++ b)) := fun H1 _ _ q => ⟨a, b, rfl, rfl, h, q H1 (Ex.refl H1)⟩
theorem rv_sign {c : Nat} {w : Str} : RV (fun x y H Q => ∃ (c : Nat) (z : Str), x = .str ⟨#[c]⟩ ∧ y = .str z ∧ Q (.bl (decide (c ∈ z.cps.toList))) H) (.str ⟨#[c]⟩) (.str w) H (.bl (decide (c ∈ w.cps.toList))) := fun H1 _ _ q => ⟨c, w, rfl, rfl, q H1 (Ex.refl H1)⟩
theorem rc_len {p : Addr} {xs : List V} (h : SqL K H p xs) : RC (fun xs H Q => ∃ p ys, xs = [.ref p] ∧ (SqL K H p ys ∨ SqT K H p ys) ∧ Q (.int ys.length) H) [.ref p] H (.int xs.length) := fun H1 e _ q => ⟨p, xs, rfl, Or.inl (ex_l e h), q H1 (Ex.refl H1)⟩
theorem rc_lenS {s : Str} (h : s.length ≤ sizeLine) : RC (fun xs H Q => ∃ z, xs = [.str z] ∧ z.length ≤ sizeLine ∧ Q (.int z.length) H) [.str s] H (.int s.length) := fun H1 e _ q => ⟨s, rfl, h, q H1 (Ex.refl H1)⟩
theorem rc_min2 {i j : Int} : RC (fun xs H Q => ∃ i j, xs = [.int i, .int j] ∧ Q (.int (if j < i then j else i)) H) [.int i, .int j] H (.int (if j < i then j else i)) := fun H1 e _ q => ⟨i, j, rfl, q H1 (Ex.refl H1)⟩
theorem rc_max2 {i j : Int} : RC (fun xs H Q => ∃ i j, xs = [.int i, .int j] ∧ Q (.int (if j > i then j else i)) H) [.int i, .int j] H (.int (if j > i then j else i)) := fun H1 e _ q => ⟨i, j, rfl, q H1 (Ex.refl H1)⟩
theorem rc_all {p : Addr} {bs : List Bool} (h : SqL K H p (bs.map V.bl)) : RC (rAll K) [.ref p] H (.bl (bs.all id)) := fun H1 e _ q => ⟨p, bs, rfl, ex_l e h, q H1 (Ex.refl H1)⟩
theorem rc_any {p : Addr} {bs : List Bool} (h : SqL K H p (bs.map V.bl)) : RC (rAny K) [.ref p] H (.bl (bs.any id)) := fun H1 e _ q => ⟨p, bs, rfl, ex_l e h, q H1 (Ex.refl H1)⟩
theorem rc_sum {p : Addr} {ns : List Int} (h : SqL K H p (ns.map V.int)) : RC (rSum K) [.ref p] H (.int ns.sum) := fun H1 e _ q => ⟨p, ns, rfl, ex_l e h, q H1 (Ex.refl H1)⟩
theorem rc_str {i : Int} (h : i.natAbs.log2 < 1920) : RC (fun xs H Q => ∃ i, xs = [.int i] ∧ i.natAbs.log2 < 1920 ∧ Q (.str (toString i)) H) [.int i] H (.str (toString i)) := fun H1 e _ q => ⟨i, rfl, h, q H1 (Ex.refl H1)⟩
theorem rc_intS {a : Str} {n : Int} (h : PySem.intText? a = some n) (hl : a.length ≤ 640) : RC (fun xs H Q => ∃ a n, xs = [.str a] ∧ PySem.intText? a = some n ∧ a.length ≤ 640 ∧ Q (.int n) H) [.str a] H (.int n) := fun H1 e _ q => ⟨a, n, rfl, h, hl, q H1 (Ex.refl H1)⟩
theorem rc_intB {b : Bool} : RC (fun xs H Q => (∃ i, xs = [.int i] ∧ Q (.int i) H) ∨ ∃ k, xs = [.bl k] ∧ Q (.int (if k then 1 else 0)) H) [.bl b] H (.int (if b then 1 else 0)) := fun H1 e _ q => Or.inr ⟨b, rfl, q H1 (Ex.refl H1)⟩
theorem rcl_list {p : Addr} {xs : List V} (h : SqL K H p xs) : RCL (fun xs H Q => ∃ p ys, xs = [.ref p] ∧ (SqL K H p ys ∨ SqT K H p ys) ∧ ∀ l, H l = none → Q (.ref l) (upd H l (.lst ys))) [.ref p] H xs := fun H1 e _ q => ⟨p, xs, rfl, Or.inl (ex_l e h), fun l hl => q l _ hl (Ex.new hl) upd_same⟩
theorem rm_join {s : Str} {p : Addr} {ys : List Str} (h : SqL K H p (ys.map V.str)) (hz : (ys.map (·.length)).sum + ys.length * s.length ≤ 16777216) :
    RM (fun x xs H Q => ∃ a p, ∃ ys : List Str, x = .str a ∧ xs = [.ref p] ∧ (SqL K H p (ys.map V.str) ∨ SqT K H p (ys.map V.str)) ∧ (ys.map (·.length)).sum + ys.length * a.length ≤ 16777216 ∧ Q (.str (Txt.join a ys)) H) (.str s) [.ref p] H (.str (Txt.join s ys)) :=
  fun H1 e _ q => ⟨s, p, ys, rfl, rfl, Or.inl (ex_l e h), hz, q H1 (Ex.refl H1)⟩
theorem rml_split {a b : Str} (hb : (b.length == 0) = false) (ha : a.length + 2 ≤ sizeLine) : RML (fun x xs H Q => ∃ a b, x = .str a ∧ xs = [.str b] ∧ (b.length == 0) = false ∧ a.length + 2 ≤ sizeLine ∧ rNewStrs (Txt.split a b) H Q) (.str a) [.str b] H ((Txt.split a b).map V.str) :=
  fun H1 e _ q => ⟨a, b, rfl, rfl, hb, ha, fun p hp => q p _ hp (Ex.new hp) upd_same⟩
theorem rm_starts {a b : Str} : RM (fun x xs H Q => ∃ a b, x = .str a ∧ xs = [.str b] ∧ Q (.bl (Txt.startswith a b)) H) (.str a) [.str b] H (.bl (Txt.startswith a b)) := fun H1 e _ q => ⟨a, b, rfl, rfl, q H1 (Ex.refl H1)⟩
/-- the place of what is there -/
theorem rm_index {a : Addr} {ys : List V} {y z : V} {j : Nat} (h : SqL K H a ys) (h1 : flatV y = true) (h2 : ys.all flatV = true) (hj : ys[j]? = some z) (he : eqV z y = true) (hn : ∀ m z', m < j → ys[m]? = some z' → eqV z' y = false) : RM (rIndex K) (.ref a) [y] H (.int j) :=
  fun H1 e _ q => ⟨a, ys, y, j, z, rfl, rfl, ex_l e h, h1, h2, hj, he, hn, q H1 (Ex.refl H1)⟩
theorem rv_ixLn {p : Addr} {xs : List V} {j : Nat} (h : SqL K H p xs) (ha : xs[j]? = some v) : RV (rIxL K) (.ref p) (.int (j : Int)) H v := rv_ixL h (atI_nat ha)
theorem ev_slS {w : Str} {lo hi : Option Int} {tl th : TO} (h : Ev te σ H (.str w)) (h1 : EvO tl σ H lo) (h2 : EvO th σ H hi) (hw : w.length ≤ sizeLine) : Ev (tSl rSlS te tl th) σ H (.str (cutS w lo hi)) := fun H1 e _ q =>
  h H1 e _ fun H2 e2 => h1 H2 (e.trans e2) _ fun H3 e3 => h2 H3 ((e.trans e2).trans e3) _ fun H4 e4 => ⟨w, rfl, hw, q H4 ((e2.trans e3).trans e4)⟩
/-- two lists set together, two repeated: new ones -/
theorem el_cat {l b : Addr} {xs zs : List V} (ha : Ev ta σ H (.ref l)) (hb : Ev tb σ H (.ref b)) (h1 : H l = some (.lst xs)) (h2 : H b = some (.lst zs)) (hz : xs.length + zs.length ≤ sizeLine) : EvL (tOp rCat ta tb) σ H (xs ++ zs) := fun H1 e Q q =>
  ha H1 e _ fun H2 e2 => hb H2 (e.trans e2) _ fun H3 e3 => ⟨l, b, xs, zs, rfl, rfl, ((e.trans e2).trans e3) l _ h1, ((e.trans e2).trans e3) b _ h2, hz, fun p hp => q p _ (fresh_back (e2.trans e3) hp) ((e2.trans e3).trans (Ex.new hp)) upd_same⟩
theorem el_catL {l : Addr} {xs zs : List V} (ha : Ev ta σ H (.ref l)) (hb : EvL tb σ H zs) (h1 : H l = some (.lst xs)) (hz : xs.length + zs.length ≤ sizeLine) : EvL (tOp rCat ta tb) σ H (xs ++ zs) := fun H1 e Q q =>
  ha H1 e _ fun H2 e2 => hb H2 (e.trans e2) _ fun b H3 _ e3 hb3 => ⟨l, b, xs, zs, rfl, rfl, ((e.trans e2).trans e3) l _ h1, hb3, hz, fun p hp => q p _ (fresh_back (e2.trans e3) hp) ((e2.trans e3).trans (Ex.new hp)) upd_same⟩
theorem el_rep {xs : List V} {k : Int} (ha : EvL ta σ H xs) (hb : Ev tb σ H (.int k)) (h1 : -(2 ^ 63) ≤ k ∧ k < 2 ^ 63) (hz : xs.length * k.toNat ≤ sizeLine) : EvL (tOp rRep ta tb) σ H (List.replicate k.toNat xs).flatten := fun H1 e Q q =>
  ha H1 e _ fun l H2 _ e2 hl => hb H2 (e.trans e2) _ fun H3 e3 => ⟨l, k, xs, rfl, rfl, e3 l _ hl, h1.1, h1.2, hz, fun p hp => q p _ (fresh_back (e2.trans e3) hp) ((e2.trans e3).trans (Ex.new hp)) upd_same⟩
end
end KD
set_option maxHeartbeats 2000000
/-! walks: what a comprehension over the items of a plain list gives; loops over any walk -/
namespace KD
open PySem PySem.Spec PyProof.Rows L2 Evl
/-- what is walked -/
def EvI (wi : TI) (σ : L2.St) (H : Hp) (J : It) : Prop := ∀ H1, Ex H H1 → ∀ R : It → Hp → Prop, (∀ H2, Ex H1 H2 → R J H2) → wi σ H1 R
section
variable {K : PySem.W.Frag} {σ : L2.St} {H H' : Hp} {ta tb te tx tl : TE} {t u : TT} {x y z v : V} {r : R2} {Φ : V → Hp → Prop} {J : It} {n : Nat} {G : Hp → Prop} {Y : Nat → Hp → V → Hp → Prop} {wi : TI} {g : TG} {vs : List Nat} {D : Ends} {tu tw tz : TS}
theorem EvI.mono (e : Ex H H') (h : EvI wi σ H J) : EvI wi σ H' J := fun H1 a R q => h H1 (e.trans a) R q
theorem ei_list {a : Addr} {xs : List V} (h : Ev tl σ H (.ref a)) (hx : SqL K H a xs) : EvI (iList K tl) σ H (Itl K a) := fun H1 e R q => h H1 e _ fun H2 e2 => ⟨a, rfl, ⟨xs, ex_l (e.trans e2) hx⟩, q H2 e2⟩
theorem ei_str {w : Str} (h : Ev tl σ H (.str w)) : EvI (iStr tl) σ H (Its w) := fun H1 e R q => h H1 e _ fun H2 e2 => ⟨w, rfl, q H2 e2⟩
theorem ei_rng1 {ta : TA} {k : Int} (h : EvA ta σ H [.int k]) (hk : -(2 ^ 62) ≤ k ∧ k < 2 ^ 62) : EvI (iRng1 ta) σ H (Itr 0 k.toNat) := fun H1 e R q => h H1 e _ fun H2 e2 => ⟨k, rfl, hk.1, hk.2, q H2 e2⟩
theorem ei_rng2 {ta : TA} {k l : Int} (h : EvA ta σ H [.int k, .int l]) (hk : -(2 ^ 62) ≤ k ∧ k < 2 ^ 62 ∧ -(2 ^ 62) ≤ l ∧ l < 2 ^ 62) : EvI (iRng2 ta) σ H (Itr k (l - k).toNat) := fun H1 e R q => h H1 e _ fun H2 e2 => ⟨k, l, rfl, hk, q H2 e2⟩
theorem take_snoc {α : Type} {as : List α} {i : Nat} {a : α} (h : as[i]? = some a) : as.take (i + 1) = as.take i ++ [a] := by
  obtain ⟨hl, e⟩ := List.getElem?_eq_some_iff.mp h
  rw [List.take_add_one, h]
  rfl
/-- a comprehension over any walk that gives the items of as, one by one, into the slot j -/
theorem el_lcW {α : Type} {j : Nat} (as : List α) (toV : α → V) (p : α → Bool) (q : α → V) (w : Walk J as.length G Y) (hi : EvI wi σ H J) (hG : ∀ H1, Ex H H1 → G H1)
    (hy : ∀ i H1 x H2, i < as.length → Y i H1 x H2 → H2 = H1 ∧ ∃ a, as[i]? = some a ∧ x = toV a) (hz : as.length ≤ 40000) (hw : ∀ x, wipe ((wipe σ vs).set j (some x)) vs = wipe σ vs)
    (ht : ∀ (i : Nat) (a : α) H1, Ex H H1 → as[i]? = some a → EvT t ((wipe σ vs).set j (some (toV a))) H1 (p a)) (he : ∀ (i : Nat) (a : α) H1, Ex H H1 → as[i]? = some a → p a = true → Ev te ((wipe σ vs).set j (some (toV a))) H1 (q a)) :
    EvL (tLc wi (gName j) t te vs) σ H ((as.filter p).map q) := fun H0 e0 Q k => hi H0 e0 _ fun H1 e1 Dl hD => by
  refine lc_it w (fun i H' => Ex H1 H' ∧ H' Dl = some (.lst (((as.take i).filter p).map q))) ⟨Ex.new hD, by rw [upd_same]; rfl⟩ (fun i H' _ pv => hG H' ((e0.trans e1).trans pv.1)) (fun i x H2 H3 hi pv yv => ?_) fun H' pv => k Dl H' (fresh_back e1 hD) (e1.trans pv.1) (by rw [pv.2, List.take_length])
  obtain ⟨rfl, a, ha, rfl⟩ := hy i _ _ _ hi yv
  refine ⟨hw _, ?_⟩
  have eb := (e0.trans e1).trans pv.1
  refine ht i a H1 (e0.trans e1) ha H3 pv.1 _ fun H4 e4 => ?_
  have len : (((as.take i).filter p).map q).length < sizeLine := by
    rw [List.length_map]
    refine sz_lt ?_
    have h1 := List.length_filter_le p (as.take i)
    have h2 := List.length_take_le i as
    omega
  cases hp : p a with
  | true =>
    show te _ H4 _
    refine he i a H1 (e0.trans e1) ha hp H4 (pv.1.trans e4) _ fun H5 e5 => ⟨_, e5 Dl _ (e4 Dl _ pv.2), len, Ex.mut ((pv.1.trans e4).trans e5) hD, ?_⟩
    rw [upd_same, take_snoc ha, List.filter_append, List.map_append, List.filter_cons, if_pos hp]
    rfl
  | false =>
    show _ ∧ _
    refine ⟨pv.1.trans e4, ?_⟩
    rw [take_snoc ha, List.filter_append, List.filter_cons, if_neg (by rw [hp]; decide)]
    show H4 Dl = some (.lst ((_ ++ []).map q))
    rw [List.append_nil]
    exact e4 Dl _ pv.2
theorem el_lcA {α : Type} {j : Nat} {a : Addr} (as : List α) (toV : α → V) (p : α → Bool) (q : α → V) (h : Ev tl σ H (.ref a)) (hx : SqL K H a (as.map toV)) (hz : as.length ≤ 40000) (hw : ∀ x, wipe ((wipe σ vs).set j (some x)) vs = wipe σ vs)
    (ht : ∀ (i : Nat) (a : α) H1, Ex H H1 → as[i]? = some a → EvT t ((wipe σ vs).set j (some (toV a))) H1 (p a)) (he : ∀ (i : Nat) (a : α) H1, Ex H H1 → as[i]? = some a → p a = true → Ev te ((wipe σ vs).set j (some (toV a))) H1 (q a)) :
    EvL (tLc (iList K tl) (gName j) t te vs) σ H ((as.filter p).map q) := by
  have w := walk_list (K := K) (a := a) (xs := as.map toV)
  rw [List.length_map] at w
  refine el_lcW as toV p q w (ei_list h hx) (fun H1 e => ex_l e hx) (fun i H1 x H2 hi yv => ⟨yv.1, ?_⟩) hz hw ht he
  have := yv.2
  rw [List.getElem?_map] at this
  obtain ⟨b, hb, e⟩ := Option.map_eq_some_iff.mp this
  exact ⟨b, hb, e.symm⟩
theorem el_lcAL {α : Type} {j : Nat} (as : List α) (toV : α → V) (p : α → Bool) (q : α → V) (h : EvL tl σ H (as.map toV)) (hz : as.length ≤ 40000) (hw : ∀ x, wipe ((wipe σ vs).set j (some x)) vs = wipe σ vs)
    (ht : ∀ (i : Nat) (a : α) H1, Ex H H1 → as[i]? = some a → EvT t ((wipe σ vs).set j (some (toV a))) H1 (p a)) (he : ∀ (i : Nat) (a : α) H1, Ex H H1 → as[i]? = some a → p a = true → Ev te ((wipe σ vs).set j (some (toV a))) H1 (q a)) :
    EvL (tLc (iList K tl) (gName j) t te vs) σ H ((as.filter p).map q) := fun H0 e0 Q k => h H0 e0 _ fun a H1 ha e1 hx => by
  have hv : Ev (fun _ H Q => Q (.ref a) H) σ H1 (.ref a) := fun H2 e2 Q q => q H2 (Ex.refl H2)
  have g := el_lcA (K := K) (tl := fun _ H Q => Q (.ref a) H) as toV p q hv (sq_of hx) hz hw (fun i b H2 e2 hb => ht i b H2 ((e0.trans e1).trans e2) hb) (fun i b H2 e2 hb hp => he i b H2 ((e0.trans e1).trans e2) hb hp)
  exact g H1 (Ex.refl H1) Q fun p H2 hp e2 h2 => k p H2 (fresh_back e1 hp) (e1.trans e2) h2
theorem el_lcS {j : Nat} {s : Str} (p : Nat → Bool) (q : Nat → V) (h : Ev tl σ H (.str s)) (hz : s.cps.toList.length ≤ 40000) (hw : ∀ x, wipe ((wipe σ vs).set j (some x)) vs = wipe σ vs)
    (ht : ∀ (i : Nat) (c : Nat) H1, Ex H H1 → s.cps.toList[i]? = some c → EvT t ((wipe σ vs).set j (some (.str ⟨#[c]⟩))) H1 (p c)) (he : ∀ (i : Nat) (c : Nat) H1, Ex H H1 → s.cps.toList[i]? = some c → p c = true → Ev te ((wipe σ vs).set j (some (.str ⟨#[c]⟩))) H1 (q c)) :
    EvL (tLc (iStr tl) (gName j) t te vs) σ H ((s.cps.toList.filter p).map q) := by
  have w := walk_str (z := s)
  rw [← Array.length_toList] at w
  refine el_lcW s.cps.toList (fun c => .str ⟨#[c]⟩) p q w (ei_str h) (fun H1 e => True.intro) (fun i H1 x H2 hi yv => ⟨yv.1, ?_⟩) hz hw ht he
  obtain ⟨c, hc, e⟩ := yv.2
  exact ⟨c, by rw [Array.getElem?_toList]; exact hc, e⟩
theorem el_lcR {ta : TA} {j : Nat} {k : Nat} (p : Nat → Bool) (q : Nat → V) (h : EvA ta σ H [.int (k : Int)]) (hk : k ≤ 40000) (hw : ∀ x, wipe ((wipe σ vs).set j (some x)) vs = wipe σ vs)
    (ht : ∀ (i : Nat) H1, Ex H H1 → i < k → EvT t ((wipe σ vs).set j (some (.int (i : Int)))) H1 (p i)) (he : ∀ (i : Nat) H1, Ex H H1 → i < k → p i = true → Ev te ((wipe σ vs).set j (some (.int (i : Int)))) H1 (q i)) :
    EvL (tLc (iRng1 ta) (gName j) t te vs) σ H (((List.range k).filter p).map q) := by
  have w := walk_range (lo := 0) (n := k)
  have e : (List.range k).length = k := List.length_range
  have inn : ∀ i a : Nat, (List.range k)[i]? = some a → a = i ∧ i < k := fun i a h => by
    obtain ⟨h1, h2⟩ := List.getElem?_eq_some_iff.mp h
    rw [List.getElem_range] at h2
    exact ⟨h2.symm, by rw [e] at h1; exact h1⟩
  have w2 : Walk (Itr 0 (k : Int).toNat) (List.range k).length (fun _ => True) (YFn fun i => .int ((0 : Int) + i)) := by
    rw [e]
    exact w
  refine el_lcW (List.range k) (fun i => .int (i : Int)) p q w2 (ei_rng1 h (by omega)) (fun H1 e => True.intro) (fun i H1 x H2 hi yv => ⟨yv.1, i, ?_, ?_⟩) (by omega) hw (fun i a H1 e1 ha => ?_) (fun i a H1 e1 ha hp => ?_)
  · rw [List.getElem?_range (by omega)]
  · rw [yv.2]
    show V.int ((0 : Int) + (i : Int)) = V.int (i : Int)
    rw [Int.zero_add]
  · obtain ⟨rfl, hi⟩ := inn i a ha
    exact ht a H1 e1 hi
  · obtain ⟨rfl, hi⟩ := inn i a ha
    exact he a H1 e1 hi hp
/-- a loop over any walk -/
theorem s_forW (w : Walk J n G Y) (hi : EvI wi σ H J) (Pv : Nat → L2.St → Hp → Prop) (h0 : ∀ H1, Ex H H1 → Pv 0 σ H1) (hG : ∀ i σ' H1, i ≤ n → Pv i σ' H1 → G H1)
    (hs : ∀ i x σ' H1 H2, i < n → Pv i σ' H1 → Y i H1 x H2 → g x σ' H2 fun σ2 H3 => tu { D with nx := Pv (i + 1), ct := Pv (i + 1), bk := D.nx } σ2 H3) (hd : ∀ σ' H1, Pv n σ' H1 → D.nx σ' H1) : tFor wi g tu D σ H :=
  hi H (Ex.refl H) _ fun H1 e1 => for_it w Pv (h0 H1 e1) hG hs hd
theorem q_forW (w : Walk J n G Y) (hi : EvI wi σ H J) (Pv : Nat → L2.St → Hp → Prop) (h0 : ∀ H1, Ex H H1 → Pv 0 σ H1) (hG : ∀ i σ' H1, i ≤ n → Pv i σ' H1 → G H1)
    (hs : ∀ i x σ' H1 H2, i < n → Pv i σ' H1 → Y i H1 x H2 → g x σ' H2 fun σ2 H3 => tu { D with nx := Pv (i + 1), ct := Pv (i + 1), bk := tz D } σ2 H3) (hd : ∀ σ' H1, Pv n σ' H1 → tz D σ' H1) : tSeq (tFor wi g tu) tz D σ H :=
  s_forW (D := { D with nx := tz D }) w hi Pv h0 hG hs hd
/-- while a thing is locked -/
theorem q_lock {d : Addr} {u : HO} (hd : H d = some u) (hm : Mut (some u)) (k : ∀ od, tu ⟨fun σ' H' => H' d = some (.frz od u) ∧ tz D σ' (upd H' d u), fun v H' => H' d = some (.frz od u) ∧ D.rt v (upd H' d u), fun σ' H' => H' d = some (.frz od u) ∧ D.bk σ' (upd H' d u), fun σ' H' => H' d = some (.frz od u) ∧ D.ct σ' (upd H' d u)⟩ σ (upd H d (.frz od u))) :
    tSeq (tLock tu) tz D σ H := ⟨d, u, hd, hm, k⟩
theorem s_lock {d : Addr} {u : HO} (hd : H d = some u) (hm : Mut (some u)) (k : ∀ od, tu ⟨fun σ' H' => H' d = some (.frz od u) ∧ D.nx σ' (upd H' d u), fun v H' => H' d = some (.frz od u) ∧ D.rt v (upd H' d u), fun σ' H' => H' d = some (.frz od u) ∧ D.bk σ' (upd H' d u), fun σ' H' => H' d = some (.frz od u) ∧ D.ct σ' (upd H' d u)⟩ σ (upd H d (.frz od u))) :
    tLock tu D σ H := ⟨d, u, hd, hm, k⟩
theorem ev_chain {tc : TE} {r' : R2} {x y z : V} {a b : Bool} (h1 : Ev ta σ H x) (h2 : Ev tb σ H y) (hr : RV r x y H (.bl a)) (h3 : Ev tc σ H z) (hr' : a = true → RV r' y z H (.bl b)) : Ev (tChain r r' ta tb tc) σ H (.bl (a && b)) := fun H1 e Q q =>
  h1 H1 e _ fun H2 e2 => h2 H2 (e.trans e2) _ fun H3 e3 => hr H3 ((e.trans e2).trans e3) _ fun H4 e4 => ⟨a, rfl, by
    cases a with
    | false =>
      refine iteF ?_
      exact q H4 ((e2.trans e3).trans e4)
    | true =>
      refine iteT ?_
      exact h3 H4 (((e.trans e2).trans e3).trans e4) _ fun H5 e5 => hr' rfl H5 ((((e.trans e2).trans e3).trans e4).trans e5) Q fun H6 e6 => q H6 ((((e2.trans e3).trans e4).trans e5).trans e6)⟩
theorem dec_str {a b : Str} : decide (V.str a = V.str b) = decide (a = b) := decide_eq_decide.mpr ⟨fun h => by injection h, fun h => by rw [h]⟩
theorem dec_int {a b : Int} : decide (V.int a = V.int b) = decide (a = b) := decide_eq_decide.mpr ⟨fun h => by injection h, fun h => by rw [h]⟩
theorem rv_eqS {a b : Str} : RV rEq (.str a) (.str b) H (.bl (decide (a = b))) := by
  rw [← dec_str]
  exact rv_eq rfl
theorem rv_neS {a b : Str} : RV rNe (.str a) (.str b) H (.bl (!decide (a = b))) := by
  rw [← dec_str]
  exact rv_ne rfl
theorem rv_eqI {a b : Int} : RV rEq (.int a) (.int b) H (.bl (decide (a = b))) := by
  rw [← dec_int]
  exact rv_eq rfl
theorem rv_neI {a b : Int} : RV rNe (.int a) (.int b) H (.bl (!decide (a = b))) := by
  rw [← dec_int]
  exact rv_ne rfl
/-- zip of a new list and a text -/
theorem s_forZS {xs : List V} {w : Str} (h : EvL te σ H xs) (h2 : ∀ H1, Ex H H1 → Ev tx σ H1 (.str w)) (hy : w.cps.all (· < 128) = true) (hl : xs.length ≤ w.cps.size) (Pv : Addr → Nat → L2.St → Hp → Prop) (h0 : ∀ p H1, H p = none → Ex H H1 → H1 p = some (.lst xs) → Pv p 0 σ H1)
    (hG : ∀ p i σ' H1, i ≤ xs.length → Pv p i σ' H1 → SqL K H1 p xs) (hs : ∀ p i x c σ' H1 T, xs[i]? = some x → w.cps[i]? = some c → Pv p i σ' H1 → H1 T = none → g (.ref T) σ' (upd H1 T (.tup [x, .str ⟨#[c]⟩])) fun σ2 H2 => tu { D with nx := Pv p (i + 1), ct := Pv p (i + 1), bk := D.nx } σ2 H2)
    (hd : ∀ p σ' H1, Pv p xs.length σ' H1 → D.nx σ' H1) : tFor (iZipS K (tCons te (tCons tx tNil))) g tu D σ H :=
  h H (Ex.refl H) _ fun p H1 hp e1 h1 => h2 H1 e1 H1 (Ex.refl H1) _ fun H2 e2 => ⟨p, xs, w, rfl, sq_of (e2 p _ h1), hy, by
    refine ⟨fun i m σ' H' => m = xs.length - i ∧ i ≤ xs.length ∧ Pv p i σ' H', ⟨xs.length, by simp, Nat.zero_le _, h0 p H2 hp (e1.trans e2) (e2 p _ h1)⟩, ?_⟩
    rintro i m σ' H' ⟨rfl, hi, pv⟩
    have q := hG p i σ' H' hi pv
    by_cases hlt : i < xs.length
    · have hx : xs[i]? = some xs[i] := List.getElem?_eq_getElem hlt
      have hc : w.cps[i]? = some (w.cps[i]'(Nat.lt_of_lt_of_le hlt hl)) := Array.getElem?_eq_getElem _
      refine .inr ⟨⟨xs, _, _, q, hx, hc⟩, Pv p (i + 1), fun σ2 H2 p' => ⟨xs.length - (i + 1), by omega, rfl, hlt, p'⟩, fun v H2 yv => ?_⟩
      obtain ⟨T, x, c, rfl, hT, rfl, hc2, hx2⟩ := yv
      exact hs p i x c σ' H' T (hx2 xs q) hc2 pv hT
    · have e : i = xs.length := by omega
      subst e
      exact .inl ⟨⟨xs, q, Nat.le_refl _⟩, hd p σ' H' pv⟩⟩
theorem q_forZS {xs : List V} {w : Str} (h : EvL te σ H xs) (h2 : ∀ H1, Ex H H1 → Ev tx σ H1 (.str w)) (hy : w.cps.all (· < 128) = true) (hl : xs.length ≤ w.cps.size) (Pv : Addr → Nat → L2.St → Hp → Prop) (h0 : ∀ p H1, H p = none → Ex H H1 → H1 p = some (.lst xs) → Pv p 0 σ H1)
    (hG : ∀ p i σ' H1, i ≤ xs.length → Pv p i σ' H1 → SqL K H1 p xs) (hs : ∀ p i x c σ' H1 T, xs[i]? = some x → w.cps[i]? = some c → Pv p i σ' H1 → H1 T = none → g (.ref T) σ' (upd H1 T (.tup [x, .str ⟨#[c]⟩])) fun σ2 H2 => tu { D with nx := Pv p (i + 1), ct := Pv p (i + 1), bk := tz D } σ2 H2)
    (hd : ∀ p σ' H1, Pv p xs.length σ' H1 → tz D σ' H1) : tSeq (tFor (iZipS K (tCons te (tCons tx tNil))) g tu) tz D σ H :=
  s_forZS (D := { D with nx := tz D }) h h2 hy hl Pv h0 hG hs hd
theorem rv_isN {x : V} : RV (fun x y H Q => y = V.non ∧ Q (V.bl (decide (x = V.non))) H) x .non H (.bl (decide (x = .non))) := fun H1 _ _ q => ⟨rfl, q H1 (Ex.refl H1)⟩
theorem rv_notN {x : V} : RV (fun x y H Q => y = V.non ∧ Q (V.bl (!decide (x = V.non))) H) x .non H (.bl (!decide (x = .non))) := fun H1 _ _ q => ⟨rfl, q H1 (Ex.refl H1)⟩
/-- a pair unpacked into two slots -/
theorem g_pair {n : Nat} (hn : n = 2) {T : Addr} {x y : V} {i j : Nat} {Qs : L2.St → Hp → Prop} (h : H T = some (.tup [x, y])) (k : Qs ((σ.set i (some x)).set j (some y)) H) : gTup K n (gCons (gName i) (gCons (gName j) gNil)) (.ref T) σ H Qs :=
  ⟨T, [x, y], rfl, st_of h, hn.symm, x, [y], rfl, y, [], rfl, rfl, k⟩
theorem g_triple {n : Nat} (hn : n = 3) {T : Addr} {x y z : V} {i j l : Nat} {Qs : L2.St → Hp → Prop} (h : SqT K H T [x, y, z]) (k : Qs (((σ.set i (some x)).set j (some y)).set l (some z)) H) : gTup K n (gCons (gName i) (gCons (gName j) (gCons (gName l) gNil))) (.ref T) σ H Qs :=
  ⟨T, [x, y, z], rfl, h, hn.symm, x, [y, z], rfl, y, [z], rfl, z, [], rfl, rfl, k⟩
theorem cutV_from (xs : List V) (k : Nat) : cutV xs (some (k : Int)) none = xs.drop k := by
  unfold cutV
  rw [HT.sIx_nat, HT.sIx_none]
  by_cases h : k ≤ xs.length
  · rw [Nat.min_eq_left h, List.take_of_length_le (by rw [List.length_drop]; exact Nat.le_refl _)]
  · rw [Nat.min_eq_right (by omega), List.drop_length, List.drop_of_length_le (by omega), List.take_nil]
theorem cutV_to (xs : List V) (k : Nat) : cutV xs none (some (k : Int)) = xs.take k := by
  unfold cutV
  rw [HT.sIx_nat, HT.sIx_none, List.drop_zero, Nat.sub_zero]
  by_cases h : k ≤ xs.length
  · rw [Nat.min_eq_left h]
  · rw [Nat.min_eq_right (by omega), List.take_length, List.take_of_length_le (by omega)]
end
end KD
set_option maxHeartbeats 2000000
/-! own rules 4: a text repeated; the written table asked by get -/
namespace KD
open PySem PySem.Spec PyProof.Rows L2 Evl
/-- z, k times over -/
def repS (z : Str) (k : Nat) : Str := ⟨(List.replicate k z.cps.toList).flatten.toArray⟩
def rMulS : R2 := fun x y H Q => ∃ (z : Str) (n : Int), x = .str z ∧ y = .int n ∧ n.natAbs ≤ 20000 ∧ z.length ≤ 4 ∧ Q (.str (repS z n.toNat)) H
theorem foldl_arr : ∀ (l : List (Array Nat)) (a : Array Nat), (l.foldl (· ++ ·) a).toList = a.toList ++ (l.map Array.toList).flatten
  | [], a => by simp
  | b :: l, a => by
    rw [List.foldl_cons, foldl_arr l (a ++ b)]
    simp
theorem fold_rep (z : Str) (k : Nat) : (⟨(List.replicate k z.cps).foldl (· ++ ·) #[]⟩ : Str) = repS z k := by
  unfold repS
  congr 1
  apply Array.ext'
  rw [foldl_arr]
  simp
theorem op_mulstr {X : Cx} : OpR X (binaryOp .Mult) rMulS := by
  intro pins s σ H x y v u Q I rx ry h
  obtain ⟨z, n, rfl, rfl, hn, hz, q⟩ := h
  obtain ⟨t, rfl⟩ := rx
  obtain ⟨t', rfl⟩ := ry
  have hb : z.length * n.toNat ≤ 4 * 20000 := Nat.mul_le_mul hz (by omega)
  refine PySem.P.mul_str ?_ (fun h1 _ => ?_) (fun _ _ => ?_) ?_
  · rw [decide_eq_false (by omega), decide_eq_false (by omega)]
    rfl
  · have hn0 : 0 < n := by omega
    have : (4 : Int) ≤ (2 ^ 63 - 1) / n := by
      refine Int.le_ediv_of_mul_le hn0 ?_
      omega
    omega
  · unfold Builtin.Str.tooLong
    rw [decide_eq_false_iff_not]
    have : (4 * 20000 : Nat) ≤ sizeLine := by decide
    omega
  · have l0 : z.cps.toList.length = z.length := Array.length_toList
    by_cases h1 : n < 1
    · rw [if_pos h1]
      have e : repS z n.toNat = Str.empty := by
        have : n.toNat = 0 := by omega
        rw [this]
        rfl
      rw [e] at q
      exact ⟨by decide, .str Str.empty, H, I.tok _, ⟨_, rfl⟩, q⟩
    · rw [if_neg h1]
      by_cases h2 : (n == 1 || z.length == 0) = true
      · rw [if_pos h2]
        have e : repS z n.toNat = z := by
          rw [Bool.or_eq_true, beq_iff_eq, beq_iff_eq] at h2
          unfold repS
          rcases h2 with h2 | h2
          · rw [h2]
            show (⟨([z.cps.toList]).flatten.toArray⟩ : Str) = z
            simp
          · have : z.cps = #[] := Array.eq_empty_of_size_eq_zero h2
            rw [this]
            have e3 : (List.replicate n.toNat (#[] : Array Nat).toList).flatten = [] := by simp
            rw [e3]
            show (⟨#[]⟩ : Str) = z
            rw [← this]
        rw [e] at q
        exact ⟨.str z, H, I, ⟨_, rfl⟩, q⟩
      · rw [if_neg h2, fold_rep]
        refine ⟨?_, .str (repS z n.toNat), H, I.tok _, ⟨_, rfl⟩, q⟩
        have e : (repS z n.toNat).length = n.toNat * z.length := by
          show ((List.replicate n.toNat z.cps.toList).flatten.toArray).size = _
          rw [List.size_toArray, List.length_flatten, List.map_replicate, List.sum_replicate_nat, l0]
        rw [e, Nat.mul_comm]
        have : (4 * 20000 : Nat) ≤ sizeLine := by decide
        omega
/-! ### SHAPES.get -/
def shOf (z : Str) : Option Str := match shVals.find? (fun q => decide (q.1 = z)) with
  | some (_, .str s) => some s
  | _ => none
def optS : Option Str → V
  | some s => .str s
  | none => .non
theorem keyOf_str {e : DictEntry} {k : Str} {h : Int} (q : He.keyOf e = some (k, h)) : ∃ t, e.key = .str k t := by
  unfold He.keyOf at q
  split at q
  · rename_i x t hx
    have := Option.some.inj q
    obtain ⟨rfl, _⟩ := Prod.mk.inj this
    exact ⟨t, hx⟩
  · cases q
theorem keys_none {P : Params} {z : Str} : ∀ {l : List DictEntry} {ks : List Str}, l.map He.keyOf = He.keysIn P ks → z ∉ ks → l.find? (·.key.isStr z) = none ∧ l.any (·.refKey) = false
  | [], _, _, _ => ⟨rfl, rfl⟩
  | e :: r, [], h, _ => by cases h
  | e :: r, k :: ks, h, hz => by
    have h1 : He.keyOf e :: r.map He.keyOf = some (k, PyData.keyHash P k) :: He.keysIn P ks := h
    injection h1 with h2 h3
    obtain ⟨t, ht⟩ := keyOf_str h2
    have hk : z ≠ k := fun q => hz (q ▸ List.mem_cons_self)
    obtain ⟨i1, i2⟩ := keys_none h3 fun q => hz (List.mem_cons_of_mem _ q)
    refine ⟨?_, ?_⟩
    · rw [List.find?_cons, ht]
      have : (Value.str k t).isStr z = false := by
        show decide (k = z) = false
        exact decide_eq_false fun q => hk q.symm
      rw [this]
      exact i1
    · rw [List.any_cons, i2, Bool.or_false]
      show DictEntry.refKey e = false
      unfold DictEntry.refKey
      rw [ht]
theorem sh_in {w : World} {K : PySem.W.Frag} {mg : Str → Option Value} (T : Txt w K mg) (z : Str) : ∃ r, PySem.W.nsIn K (He.ga K "SHAPES") z = some r ∧ RelV (optS (shOf z)) (r.getD .none) := by
  by_cases hz : z ∈ shKeys
  · have hv : He.valsB K (He.ga K "SHAPES") shVals = true := by
      have := T.ex
      unfold exB at this
      exact (He.ba (He.ba (He.ba (He.ba this).2).2).2).2
    have all : ∀ q ∈ shVals, ∃ s, q.2 = .str s ∧ shOf q.1 = some s := by
      intro q hq
      unfold shVals at hq
      simp only [List.mem_cons, List.not_mem_nil, or_false] at hq
      rcases hq with rfl | rfl | rfl | rfl | rfl | rfl | rfl | rfl | rfl | rfl | rfl
      all_goals exact ⟨_, rfl, by decide +kernel⟩
    have hm : z ∈ shVals.map (·.1) := hz
    obtain ⟨q, hq, rfl⟩ := List.mem_map.mp hm
    obtain ⟨s, h2, h3⟩ := all q hq
    obtain ⟨u, h4, h5⟩ := He.valsB_ok hv hq
    refine ⟨some u, h4, ?_⟩
    rw [h3]
    rw [h2] at h5
    exact h5
  · obtain ⟨es, n, D⟩ := T.t.tab 0 (t := ((fun K => He.ga K "SHAPES"), shKeys)) rfl
    have D : KDict K w (He.ga K "SHAPES") es n := D
    have hd : He.dicW K (He.ga K "SHAPES") = some (He.keysIn w.params shKeys) := by
      have h1 : ts.map (fun t => He.dicW K (t.1 K)) = ts.map fun t => some (He.keysIn w.params t.2) := congrArg (fun z : He.AlT => z.2) T.t
      exact (List.cons.inj h1).1
    have hk : es.toList.map He.keyOf = He.keysIn w.params shKeys := by
      unfold He.dicW at hd
      rw [D.at_] at hd
      dsimp only at hd
      split at hd
      · exact Option.some.inj hd
      · cases hd
    obtain ⟨f1, f2⟩ := keys_none hk hz
    have hn : shOf z = none := by
      unfold shOf
      have : shVals.find? (fun q => decide (q.1 = z)) = none := List.find?_eq_none.mpr fun q hq hh => hz (by
        have : q.1 ∈ shVals.map (·.1) := List.mem_map.mpr ⟨q, hq, rfl⟩
        rw [of_decide_eq_true hh] at this
        exact this)
      rw [this]
    refine ⟨none, ?_, ?_⟩
    · unfold PySem.W.nsIn
      rw [D.at_]
      dsimp only
      rw [f1]
      dsimp only
      rw [f2]
      rfl
    · rw [hn]
      rfl
def tShapes (ty : TE) : TE := fun σ H Q => ty σ H fun y H1 => ∃ z, y = .str z ∧ Q (optS (shOf z)) H1
theorem pe_shapes {X : Cx} {e : Expr} {apos cpos p : Pos} {ty : TE} (T : Txt X.w X.K X.mg) (he : PE X e ty) (hg : Gl X "SHAPES" := by rfl) (m : M1 X (.Name "SHAPES" p) "get" apos e cpos := by exact ⟨rfl, rfl, rfl, rfl⟩) :
    PE X (.Call (.Attribute (.Name "SHAPES" p) "get" apos) [e] [] cpos) (tShapes ty) := by
  have ho : PE X (.Name "SHAPES" p) (L2.tC (.ref (He.ga X.K "SHAPES"))) := pe_glob (v := .ref (He.ga X.K "SHAPES")) hg T.g_SHAPES rfl
  obtain ⟨es, n, D⟩ := T.t.tab 0 (t := ((fun K => He.ga K "SHAPES"), shKeys)) rfl
  have D : KDict X.K X.w (He.ga X.K "SHAPES") es n := D
  refine ⟨fun pins s σ H Q I h => ?_⟩
  refine wpAny_Call_method m.base m.few m.line PySem.F.plainAttrs_dict PySem.F.slot_dict_get PySem.F.type_dict_get (thn (ho.run pins s σ H (fun x H1 => x = .ref (He.ga X.K "SHAPES") ∧ ty σ H1 fun y H1 => ∃ z, y = .str z ∧ Q (optS (shOf z)) H1) I ⟨rfl, h⟩) fun u s1 ⟨x, H1, I1, rx, ex, q1⟩ => ?_)
  subst ex
  obtain rfl : u = Value.ref (He.ga X.K "SHAPES") := rx
  refine ⟨kd_type D I1, fun b q => ?_, ?_⟩
  · cases q
    exact ⟨_, I1.kIn _ _ D.at_, rfl⟩
  rw [m.trees]
  refine Calls.callWith_builtin rfl (Calls.evalArgs_plain (Calls.spliced_cons (thn (he.run pins s1 σ H1 _ I1 q1) fun iv s2 ⟨y, H2, I2, ry, z, ey, q2⟩ => Calls.spliced_nil ?_)))
  subst ey
  obtain ⟨t, rfl⟩ := ry
  obtain ⟨r, hr, rel⟩ := sh_in T z
  refine call_meetsIn PySem.F.slot_dict_get (kd_type D I2) PySem.F.entry_dict_get (PySem.F.args_dict_get_2 _ _) (meets_dict_get (strKind X.prog X.w) _ (PySem.strKind_is X.prog X.w z t) D.low) ⟨_, PySem.W.mapOf_K (prog := X.prog) I2.kIn D.at_ D.lit, ?_⟩
  rw [PySem.W.find_K D.at_ hr]
  exact ⟨_, H2, I2.tok _, rel, q2⟩
end KD
set_option maxHeartbeats 2000000
/-! texts: is_name, is_number, fits_shape -/
namespace KD
open PySem PySem.Spec PyProof.Rows L2 Evl
section
variable {P : Program} {w : World} {K : PySem.W.Frag} {mg : Str → Option Value} {base : Heap}
def lets : Str := "abcdefghijklmnopqrstuvwxyz"
def figs : Str := "0123456789"
def isName (z : Str) : Bool := (decide ((1 : Int) ≤ (z.length : Int)) && decide ((z.length : Int) ≤ 8)) && z.cps.toList.all fun c => decide (c ∈ lets.cps.toList)
def sp_is_name : Sp := fun vs H Q _ => ∃ z : Str, vs = [.str z] ∧ z.length ≤ 20000 ∧ RV1 (.bl (isName z)) H Q
theorem len_cps (z : Str) : z.cps.toList.length = z.length := Array.length_toList
theorem all_map {α : Type} (xs : List α) (f : α → Bool) : (xs.map f).all id = xs.all f := by
  rw [List.all_map]
  rfl
theorem filter_yes {α : Type} (xs : List α) : xs.filter (fun _ => true) = xs := List.filter_eq_self.mpr fun _ _ => rfl
theorem sz20 {z : Str} (h : z.length ≤ 20000) : z.length ≤ sizeLine := Nat.le_trans h (by decide)
/-- the signs of a text, each asked whether it is among y's -/
theorem el_signs {K : PySem.W.Frag} {σ : L2.St} {H : Hp} {z y : Str} {tl : TE} {j : Nat} {vs : List Nat} (h : Ev tl σ H (.str z)) (hz : z.length ≤ 20000) (hw : ∀ x, wipe ((wipe σ vs).set j (some x)) vs = wipe σ vs) (hj : ∀ x : V, ((wipe σ vs).set j (some x))[j]? = some (some x)) :
    EvL (tLc (iStr tl) (gName j) tYes (tOp (fun x y H Q => ∃ (c : Nat) (z : Str), x = .str ⟨#[c]⟩ ∧ y = .str z ∧ Q (.bl (decide (c ∈ z.cps.toList))) H) (tVar j) (L2.tC (.str y))) vs) σ H ((z.cps.toList.map fun c => decide (c ∈ y.cps.toList)).map V.bl) := by
  have g := el_lcS (vs := vs) (j := j) (t := tYes) (te := tOp (fun x y H Q => ∃ (c : Nat) (z : Str), x = .str ⟨#[c]⟩ ∧ y = .str z ∧ Q (.bl (decide (c ∈ z.cps.toList))) H) (tVar j) (L2.tC (.str y))) (fun _ => true) (fun c => .bl (decide (c ∈ y.cps.toList))) h (by rw [len_cps]; omega) hw (fun i c H1 e hc => fun H2 e2 Q q => q H2 (Ex.refl H2)) (fun i c H1 e hc _ => ev_op (ev_var (hj _)) ev_c rv_sign)
  rw [filter_yes] at g
  rw [List.map_map]
  exact g
theorem ok_is_name (T : Txt w K mg) : Ok P w K mg base CX0 1 ("is_name", none) ["word"] sp_is_name := by
  refine ok0 T.f_is_name sc_is_name (fun vs H Q E h => by obtain ⟨_, rfl, _⟩ := h; rfl) (fun _ _ _ _ _ _ us hl => match us, hl with | [_], _ => rfl) fun f cdv A outer s H vs Q E hr h => ?_
  have nd := sc_is_name.nd
  obtain ⟨tL, m_LETTERS⟩ := T.c_LETTERS
  refine ⟨_, (pss_one (ps_ret (pe_and (pe_chain op_le op_le pe_int (pe_callB call_len_str (by rfl) T.n_len (by decide +kernel) (pa_cons (pv 0) pa_nil)) pe_int) (pe_one (pe_callB (cr_all rfl) (by rfl) T.n_all (by decide +kernel) (pa_cons (pe_lc (own := [("sign", 1)]) (g := gName 1) rfl nd (pi_str (pv 0)) (blkOk_by (N := ["word", "sign"]) (own := [("sign", 1)]) (sc := defScope s_is_name) (by decide +kernel)) (fun _ _ _ _ _ => (pg_name (i := 1) nd rfl (Or.inl rfl))) (fun _ _ _ _ _ => pts_nil) (fun _ _ _ _ _ => (pe_cmpR op_in_sign (pv 1) (pe_glob (v := .str lets) rfl m_LETTERS ⟨_, rfl⟩) rfl))) pa_nil)))))), ?_⟩
  try dsimp only [cxOf, L2.Cx.nox, L2.Cx.blk]
  obtain ⟨z, rfl, hz, hq⟩ := h
  refine s_ret (v := .bl (isName z)) ?t fun H1 e1 => hq _ e1
  case t =>
    exact ev_andV (ev_chain ev_c (ev_cb (ea_cons (ev_var rfl) ea_nil) (rc_lenS (sz20 hz))) rv_I0 ev_c fun _ => rv_I0) fun _ => by
      have g := ev_cbL (rc := rAll K) (z := .bl (z.cps.toList.all fun c => decide (c ∈ lets.cps.toList))) (el_signs (K := K) (σ := L2.start ["word", "sign"] [V.str z]) (H := H) (y := lets) (j := 1) (vs := [1]) (tl := tVar 0) (ev_var rfl) hz (fun _ => rfl) (fun _ => rfl)) fun p H1 e h1 => by
        have := rc_all (sq_of (K := K) h1)
        rw [all_map] at this
        exact this
      exact g
def figures (z : Str) : Str := if Txt.startswith z "-" = true then cutS z (some 1) none else z
def headC (z : Str) : Nat := (z.cps.toList[0]?).getD 0
def isNum (z : Str) : Bool :=
  if (decide (figures z = "") || (decide (60 < (figures z).length) || !((figures z).cps.toList.all fun c => decide (c ∈ figs.cps.toList)))) = true then false
  else (!decide ((⟨#[headC (figures z)]⟩ : Str) = "0")) || decide (z = "0")
def sp_is_number : Sp := fun vs H Q _ => ∃ z : Str, vs = [.str z] ∧ z.length ≤ 20000 ∧ RV1 (.bl (isNum z)) H Q
theorem fig_le (z : Str) : (figures z).length ≤ z.length := by
  unfold figures
  split
  · exact cutS_length _ _ _
  · exact Nat.le_refl _
theorem ok_is_number (T : Txt w K mg) : Ok P w K mg base CX0 1 ("is_number", none) ["word"] sp_is_number := by
  refine ok0 T.f_is_number sc_is_number (fun vs H Q E h => by obtain ⟨_, rfl, _⟩ := h; rfl) (fun _ _ _ _ _ _ us hl => match us, hl with | [_], _ => rfl) fun f cdv A outer s H vs Q E hr h => ?_
  have nd := sc_is_number.nd
  obtain ⟨tL, m_FIGURES⟩ := T.c_FIGURES
  refine ⟨_, (pss_cons (ps_set (i := 1) nd rfl (Or.inl rfl) (pv 0))
 (pss_cons (ps_if (pt_val (pe_m1 PySem.F.slot_str_startswith PySem.F.type_str_startswith mt_startswith (pv 0) pe_str)) (pss_one (ps_set (i := 1) nd rfl (Or.inl rfl) (pe_slice sl_str (pv 0) (po_some pe_int) po_none))) pss_nil)
 (pss_cons (ps_if (PW.pt (pw_or (pt_cmpR op_eq (pv 1) pe_str (nomark _)) (pw_or (pt_cmpR op_gt (pe_callB call_len_str (by rfl) T.n_len (by decide +kernel) (pa_cons (pv 1) pa_nil)) pe_int (nomark _)) (pw_or1 (pt_not (pt_val (pe_callB (cr_all rfl) (by rfl) T.n_all (by decide +kernel) (pa_cons (pe_lc (own := [("sign", 2)]) (g := gName 2) rfl nd (pi_str (pv 1)) (blkOk_by (N := ["word", "figures", "sign"]) (own := [("sign", 2)]) (sc := defScope s_is_number) (by decide +kernel)) (fun _ _ _ _ _ => (pg_name (i := 2) nd rfl (Or.inl rfl))) (fun _ _ _ _ _ => pts_nil) (fun _ _ _ _ _ => (pe_cmpR op_in_sign (pv 2) (pe_glob (v := .str figs) rfl m_FIGURES ⟨_, rfl⟩) rfl))) pa_nil)))))))) (pss_one (ps_ret pe_bl)) pss_nil)
 (pss_one (ps_ret (pe_or (pe_cmpR op_ne (pe_ix ix_str (pv 1) pe_int (fun _ _ => rfl)) pe_str (nomark _)) (pe_one (pe_cmpR op_eq (pv 0) pe_str (nomark _))))))))), ?_⟩
  try dsimp only [cxOf, L2.Cx.nox, L2.Cx.blk]
  obtain ⟨z, rfl, hz, hq⟩ := h
  refine q_asg (v := .str z) (ev_var rfl) fun H1 e1 => ?_
  refine q_ifAsg (v := .str (figures z)) (b := Txt.startswith z "-") ?t1 ?t2 ?t3 fun H2 e2 => ?_
  case t1 => (repeat' first | with_reducible exact ev_c | with_reducible exact ev_var rfl | with_reducible exact ea_nil | with_reducible exact rv_I0 | with_reducible exact rv_eqS | with_reducible exact rv_neS | with_reducible exact rv_eqI | with_reducible exact rv_neI | with_reducible exact rv_eq rfl | with_reducible exact rv_ne rfl | with_reducible exact ru_neg | with_reducible exact rc_len (by assumption) | with_reducible exact rc_lenS (by assumption) | with_reducible exact rc_min2 | with_reducible exact rc_max2 | with_reducible exact rc_intB | with_reducible exact rv_sign | with_reducible exact rm_starts | with_reducible exact eo_none | with_reducible exact rv_addS (by assumption) | with_reducible apply ea_cons | with_reducible apply ev_op | with_reducible apply ev_un | with_reducible apply rv_R | with_reducible apply et_test | with_reducible apply et_B | with_reducible apply et_not | with_reducible apply ev_notV | with_reducible apply ev_cb | with_reducible apply eo_some | with_reducible apply ev_tM1 | with_reducible apply et_and | with_reducible apply et_or | with_reducible apply ev_andV | with_reducible apply ev_orV | with_reducible apply ev_slS | with_reducible refine ev_fld ?_ (by assumption) (by assumption) (by assumption) rfl)
  case t2 =>
    intro hb
    have e : figures z = cutS z (some 1) none := if_pos hb
    rw [e]
    exact ev_slS (ev_var rfl) (eo_some ev_c) eo_none (sz20 hz)
  case t3 =>
    intro hb
    have e : figures z = z := if_neg (by rw [hb]; decide)
    rw [e]
    rfl
  have hl : (figures z).length ≤ 20000 := Nat.le_trans (fig_le z) hz
  have h4 := sz20 hl
  refine q_when (b := decide (figures z = "") || (decide ((60 : Int) < ((figures z).length : Int)) || !((figures z).cps.toList.all fun c => decide (c ∈ figs.cps.toList)))) ?t (fun hb H3 e3 => ?_) fun hb H3 e3 => ?_
  case t =>
    refine et_or (et_test (ev_op (ev_var rfl) ev_c rv_eqS)) fun _ => et_or (et_test (ev_op (ev_cb (ea_cons (ev_var rfl) ea_nil) (rc_lenS h4)) ev_c rv_I0)) fun _ => et_not (et_B ?_)
    exact ev_cbL (rc := rAll K) (el_signs (K := K) (y := figs) (j := 2) (vs := [2]) (tl := tVar 1) (ev_var rfl) hl (fun _ => rfl) (fun _ => rfl)) fun p H1 e h1 => by
        have := rc_all (sq_of (K := K) h1)
        rw [all_map] at this
        exact this
  · have e : isNum z = false := by
      unfold isNum
      rw [if_pos ?_]
      rw [← hb]
      congr 2
      exact decide_eq_decide.mpr (by omega)
    rw [e] at hq
    refine s_ret (v := .bl false) ev_c fun H4 e4 => ?_
    exact hq _ (((e1.trans e2).trans e3).trans e4)
  · have e : isNum z = ((!decide ((⟨#[headC (figures z)]⟩ : Str) = "0")) || decide (z = "0")) := by
      unfold isNum
      rw [if_neg ?_]
      intro h
      have h : (decide (figures z = "") || (decide (60 < (figures z).length) || !((figures z).cps.toList.all fun c => decide (c ∈ figs.cps.toList)))) = true := h
      have e60 : decide ((60 : Int) < ((figures z).length : Int)) = decide (60 < (figures z).length) := decide_eq_decide.mpr (by omega)
      rw [e60] at hb
      rw [h] at hb
      cases hb
    rw [e] at hq
    have hne : (figures z) ≠ "" := fun h => by
      rw [h] at hb
      cases hb
    have hpos : 0 < (figures z).cps.toList.length := by
      rw [len_cps]
      refine Nat.pos_of_ne_zero fun h => hne ?_
      have : (figures z).cps = #[] := Array.eq_empty_of_size_eq_zero h
      show figures z = ⟨#[]⟩
      rw [← this]
    have hx : atI (figures z).cps.toList (0 : Int) = some (headC (figures z)) := by
      have := atI_nat (xs := (figures z).cps.toList) (j := 0) (v := headC (figures z)) (by
        unfold headC
        rw [List.getElem?_eq_getElem hpos]
        rfl)
      exact this
    refine s_ret (ev_orV (ev_op (ev_op (ev_var rfl) ev_c (rv_ixS (by omega) hx)) ev_c rv_neS) fun _ => ev_op (ev_var rfl) ev_c rv_eqS) fun H4 e4 => ?_
    exact hq _ (((e1.trans e2).trans e3).trans e4)
end
end KD
set_option maxHeartbeats 2000000
/-! the words of a row -/
namespace KD
open PySem PySem.Spec PyProof.Rows L2 Evl
section
variable {P : Program} {w : World} {K : PySem.W.Frag} {mg : Str → Option Value} {base : Heap}
def fitsSh (z g : Str) : Bool := if g = "n" then isName z else isNum z && (decide (g = "w") || !Txt.startswith z "-")
def sp_fits_shape : Sp := fun vs H Q _ => ∃ z g : Str, vs = [.str z, .str g] ∧ z.length ≤ 20000 ∧ RV1 (.bl (fitsSh z g)) H Q
theorem spv_is_name {z : Str} {H : Hp} (h : z.length ≤ 20000) : SpV sp_is_name [.str z] H (.bl (isName z)) := fun H1 _ Q q E => ⟨z, rfl, h, q⟩
theorem spv_is_number {z : Str} {H : Hp} (h : z.length ≤ 20000) : SpV sp_is_number [.str z] H (.bl (isNum z)) := fun H1 _ Q q E => ⟨z, rfl, h, q⟩
theorem spv_fits_shape {z g : Str} {H : Hp} (h : z.length ≤ 20000) : SpV sp_fits_shape [.str z, .str g] H (.bl (fitsSh z g)) := fun H1 _ Q q E => ⟨z, g, rfl, h, q⟩
theorem ok_fits_shape (T : Txt w K mg) : Ok P w K mg base CX0 2 ("fits_shape", none) ["word", "sign"] sp_fits_shape := by
  have c_is_name := ok_is_name (P := P) (base := base) T
  have c_is_number := ok_is_number (P := P) (base := base) T
  refine ok0 T.f_fits_shape sc_fits_shape (fun vs H Q E h => by obtain ⟨_, _, rfl, _⟩ := h; rfl) (fun _ _ _ _ _ _ us hl => match us, hl with | [_, _], _ => rfl) fun f cdv A outer s H vs Q E hr h => ?_
  have nd := sc_fits_shape.nd
  refine ⟨_, (pss_cons (ps_if (pt_cmpR op_eq (pv 1) pe_str (nomark _)) (pss_one (ps_ret (pc c_is_name hr (by decide) T.g_is_name (pa_cons (pv 0) pa_nil)))) pss_nil)
 (pss_one (ps_ret (pe_and (pc c_is_number hr (by decide) T.g_is_number (pa_cons (pv 0) pa_nil)) (pe_one (pe_or (pe_cmpR op_eq (pv 1) pe_str (nomark _)) (pe_one (pe_not (pe_m1 PySem.F.slot_str_startswith PySem.F.type_str_startswith mt_startswith (pv 0) pe_str))))))))), ?_⟩
  try dsimp only [cxOf, L2.Cx.nox, L2.Cx.blk]
  obtain ⟨z, g, rfl, hz, hq⟩ := h
  refine q_when (by (repeat' first | with_reducible exact ev_c | with_reducible exact ev_var rfl | with_reducible exact ea_nil | with_reducible exact rv_I0 | with_reducible exact rv_eqS | with_reducible exact rv_neS | with_reducible exact rv_eqI | with_reducible exact rv_neI | with_reducible exact rv_eq rfl | with_reducible exact rv_ne rfl | with_reducible exact ru_neg | with_reducible exact rc_len (by assumption) | with_reducible exact rc_lenS (by assumption) | with_reducible exact rc_min2 | with_reducible exact rc_max2 | with_reducible exact rc_intB | with_reducible exact rv_sign | with_reducible exact rm_starts | with_reducible exact eo_none | with_reducible exact rv_addS (by assumption) | with_reducible apply ea_cons | with_reducible apply ev_op | with_reducible apply ev_un | with_reducible apply rv_R | with_reducible apply et_test | with_reducible apply et_B | with_reducible apply et_not | with_reducible apply ev_notV | with_reducible apply ev_cb | with_reducible apply eo_some | with_reducible apply ev_tM1 | with_reducible apply et_and | with_reducible apply et_or | with_reducible apply ev_andV | with_reducible apply ev_orV | with_reducible apply ev_slS | with_reducible refine ev_fld ?_ (by assumption) (by assumption) (by assumption) rfl)) (fun hb H1 e1 => ?_) (fun hb H1 e1 => ?_)
  · have e : fitsSh z g = isName z := if_pos (of_decide_eq_true hb)
    rw [e] at hq
    refine s_ret (ev_tC (ea_cons (ev_var rfl) ea_nil) (spv_is_name hz)) fun H2 e2 => ?_
    exact hq _ (e1.trans e2)
  · have e : fitsSh z g = (isNum z && (decide (g = "w") || !Txt.startswith z "-")) := if_neg (of_decide_eq_false hb)
    rw [e] at hq
    refine s_ret (ev_andV (ev_tC (ea_cons (ev_var rfl) ea_nil) (spv_is_number hz)) fun _ => ev_orV (ev_op (ev_var rfl) ev_c rv_eqS) fun _ => ev_notV (ev_tM1 (ev_var rfl) ev_c rm_starts)) fun H2 e2 => ?_
    exact hq _ (e1.trans e2)
def shapeOf (ws : List Str) (many : Nat) : Option Str :=
  if ws.headD "" = "wanted" then some (repS "f" many) else if ws.headD "" = "odd" then some (repS "n" (ws.length - 1)) else shOf (ws.headD "")
def sp_shape_of (K : PySem.W.Frag) : Sp := fun vs H Q _ => ∃ (a : Addr) (ws : List Str) (many : Nat), vs = [.ref a, .int many] ∧ SqL K H a (ws.map V.str) ∧ ws ≠ [] ∧ ws.length ≤ 1000 ∧ many ≤ 1000 ∧ RV1 (optS (shapeOf ws many)) H Q
theorem spv_shape_of {a : Addr} {ws : List Str} {many : Nat} {H : Hp} (h : SqL K H a (ws.map V.str)) (h1 : ws ≠ []) (h2 : ws.length ≤ 1000) (h3 : many ≤ 1000) : SpV (sp_shape_of K) [.ref a, .int many] H (optS (shapeOf ws many)) :=
  fun H1 e Q q E => ⟨a, ws, many, rfl, ex_l e h, h1, h2, h3, q⟩
theorem head_at {ws : List Str} (h : ws ≠ []) : (ws.map V.str)[0]? = some (.str (ws.headD "")) := by
  cases ws with
  | nil => exact absurd rfl h
  | cons x r => rfl
theorem ev_head {σ : L2.St} {H : Hp} {a : Addr} {ws : List Str} {te : TE} (h : Ev te σ H (.ref a)) (hx : SqL K H a (ws.map V.str)) (h1 : ws ≠ []) : Ev (tOp (rIxL K) te (L2.tC (.int 0))) σ H (.str (ws.headD "")) := ev_op h ev_c (rv_ixLn (j := 0) hx (head_at h1))
theorem rv_mulS {z : Str} {n : Int} {H : Hp} (h1 : n.natAbs ≤ 20000) (h2 : z.length ≤ 4) : RV rMulS (.str z) (.int n) H (.str (repS z n.toNat)) := fun H1 _ _ q => ⟨z, n, rfl, rfl, h1, h2, q H1 (Ex.refl H1)⟩
theorem ev_shapes {σ : L2.St} {H : Hp} {ty : TE} {z : Str} (h : Ev ty σ H (.str z)) : Ev (tShapes ty) σ H (optS (shOf z)) := fun H1 e Q q => h H1 e _ fun H2 e2 => ⟨z, rfl, q H2 e2⟩
theorem ok_shape_of (T : Txt w K mg) : Ok P w K mg base CX0 1 ("shape_of", none) ["words", "many"] (sp_shape_of K) := by
  refine ok0 T.f_shape_of sc_shape_of (fun vs H Q E h => by obtain ⟨_, _, _, rfl, _⟩ := h; rfl) (fun _ _ _ _ _ _ us hl => match us, hl with | [_, _], _ => rfl) fun f cdv A outer s H vs Q E hr h => ?_
  have nd := sc_shape_of.nd
  refine ⟨_, (pss_cons (ps_if (pt_cmpR op_eq (pe_ix ix_list (pv 0) pe_int (fun _ _ => rfl)) pe_str (nomark _)) (pss_one (ps_ret (pe_op op_mulstr pe_str (pv 1)))) pss_nil)
 (pss_cons (ps_if (pt_cmpR op_eq (pe_ix ix_list (pv 0) pe_int (fun _ _ => rfl)) pe_str (nomark _)) (pss_one (ps_ret (pe_op op_mulstr pe_str (pe_op op_sub (pe_callB call_len_seq (by rfl) T.n_len (by decide +kernel) (pa_cons (pv 0) pa_nil)) pe_int)))) pss_nil)
 (pss_one (ps_ret (pe_shapes T (pe_ix ix_list (pv 0) pe_int (fun _ _ => rfl))))))), ?_⟩
  try dsimp only [cxOf, L2.Cx.nox, L2.Cx.blk]
  obtain ⟨a, ws, many, rfl, hx, h1, h2, h3, hq⟩ := h
  refine q_when (et_test (ev_op (ev_head (ev_var rfl) hx h1) ev_c rv_eqS)) (fun hb H1 e1 => ?_) (fun hb H1 e1 => ?_)
  · have hb := of_decide_eq_true hb
    have e : shapeOf ws many = some (repS "f" many) := if_pos hb
    rw [e] at hq
    refine s_ret (v := .str (repS "f" many)) (ev_op ev_c (ev_var rfl) (rv_mulS (n := (many : Int)) (by omega) (by decide))) fun H2 e2 => ?_
    exact hq _ (e1.trans e2)
  have hb := of_decide_eq_false hb
  have hx1 := ex_l e1 hx
  refine q_when (et_test (ev_op (ev_head (ev_var rfl) hx1 h1) ev_c rv_eqS)) (fun hc H2 e2 => ?_) (fun hc H2 e2 => ?_)
  · have hc := of_decide_eq_true hc
    have e : shapeOf ws many = some (repS "n" (ws.length - 1)) := by
      unfold shapeOf
      rw [if_neg hb, if_pos hc]
    rw [e] at hq
    have hp : 0 < ws.length := List.length_pos_iff.mpr h1
    have hn : ((ws.map V.str).length : Int) - 1 = ((ws.length - 1 : Nat) : Int) := by
      rw [List.length_map]
      omega
    refine s_ret (v := .str (repS "n" (ws.length - 1))) (ev_op ev_c (ev_is (ev_op (ev_cb (ea_cons (ev_var rfl) ea_nil) (rc_len (ex_l e2 hx1))) ev_c rv_I0) (congrArg V.int hn)) (rv_mulS (n := ((ws.length - 1 : Nat) : Int)) (by omega) (by decide))) fun H3 e3 => ?_
    exact hq _ ((e1.trans e2).trans e3)
  · have hc := of_decide_eq_false hc
    have e : shapeOf ws many = shOf (ws.headD "") := by
      unfold shapeOf
      rw [if_neg hb, if_neg hc]
    rw [e] at hq
    refine s_ret (ev_shapes (ev_head (ev_var rfl) (ex_l e2 hx1) h1)) fun H3 e3 => ?_
    exact hq _ ((e1.trans e2).trans e3)
/-! ### words_of -/
structure RowOk (row : Str) (ws : List Str) : Prop where
  split : Txt.split row " " = ws
  ne : ws ≠ []
  few : ws.length ≤ 100
  short : ∀ z ∈ ws, z.length ≤ 100
  len : row.length ≤ 15000
def fitAll : List Str → List Nat → Bool
  | z :: r, c :: s => fitsSh z ⟨#[c]⟩ && fitAll r s
  | _, _ => true
def okWords (ws : List Str) (many : Nat) : Bool := match shapeOf ws many with
  | none => false
  | some sh => decide (sh.length = ws.length - 1) && fitAll ws.tail sh.cps.toList
def sp_words_of (K : PySem.W.Frag) : Sp := fun vs H Q E => ∃ (row : Str) (ws : List Str) (many : Nat), vs = [.str row, .int many] ∧ RowOk row ws ∧ many ≤ 1000 ∧
  (okWords ws many = true → RetL (ws.map V.str) H Q) ∧ (okWords ws many = false → ∀ H', Ex H H' → E (.ref (He.ga K "BadRow")) none H')
theorem fitAll_of : ∀ {zs : List Str} {cs : List Nat}, (∀ (i : Nat) (z : Str) (c : Nat), zs[i]? = some z → cs[i]? = some c → fitsSh z ⟨#[c]⟩ = true) → fitAll zs cs = true
  | [], cs, _ => by cases cs <;> rfl
  | z :: r, [], _ => rfl
  | z :: r, c :: s, h => by
    show (fitsSh z ⟨#[c]⟩ && fitAll r s) = true
    rw [h 0 z c rfl rfl, fitAll_of fun i a b ha hb => h (i + 1) a b ha hb]
    rfl
theorem fitAll_not : ∀ {zs : List Str} {cs : List Nat} {i : Nat} {z : Str} {c : Nat}, zs[i]? = some z → cs[i]? = some c → fitsSh z ⟨#[c]⟩ = false → fitAll zs cs = false
  | [], cs, i, z, c, h, _, _ => by simp at h
  | z :: r, [], i, _, c, _, h, _ => by simp at h
  | z :: r, c :: s, 0, z', c', h1, h2, h3 => by
    have e1 : z = z' := Option.some.inj h1
    have e2 : c = c' := Option.some.inj h2
    show (fitsSh z ⟨#[c]⟩ && fitAll r s) = false
    rw [e1, e2, h3]
    rfl
  | z :: r, c :: s, i + 1, z', c', h1, h2, h3 => by
    show (fitsSh z ⟨#[c]⟩ && fitAll r s) = false
    rw [fitAll_not (zs := r) (cs := s) (i := i) h1 h2 h3]
    exact Bool.and_false _
theorem repS_len (z : Str) (k : Nat) : (repS z k).length = k * z.length := by
  show ((List.replicate k z.cps.toList).flatten.toArray).size = _
  rw [List.size_toArray, List.length_flatten, List.map_replicate, List.sum_replicate_nat, Array.length_toList]
  rfl
theorem repS_asc {z : Str} {k : Nat} (h : z.cps.all (· < 128) = true) : (repS z k).cps.all (· < 128) = true := by
  rw [Array.all_eq_true_iff_forall_mem] at h ⊢
  intro c hc
  have hc : c ∈ (List.replicate k z.cps.toList).flatten.toArray := hc
  rw [List.mem_toArray, List.mem_flatten] at hc
  obtain ⟨l, hl, hm⟩ := hc
  obtain ⟨_, rfl⟩ := List.mem_replicate.mp hl
  exact h c (Array.mem_toList_iff.mp hm)
theorem shOf_in {z s : Str} (h : shOf z = some s) : ∃ q ∈ shVals, q.2 = .str s := by
  unfold shOf at h
  split at h
  · rename_i k s' hf
    have := Option.some.inj h
    subst this
    exact ⟨_, List.mem_of_find?_eq_some hf, rfl⟩
  · cases h
theorem shape_asc {ws : List Str} {many : Nat} {sh : Str} (hm : many ≤ 1000) (hw : ws.length ≤ 1000) (h : shapeOf ws many = some sh) : sh.cps.all (· < 128) = true ∧ sh.length ≤ 20000 := by
  unfold shapeOf at h
  split at h
  · rw [← Option.some.inj h]
    refine ⟨repS_asc (by decide +kernel), ?_⟩
    rw [repS_len]
    have : ("f" : Str).length = 1 := by decide
    rw [this]
    omega
  split at h
  · rw [← Option.some.inj h]
    refine ⟨repS_asc (by decide +kernel), ?_⟩
    rw [repS_len]
    have : ("n" : Str).length = 1 := by decide
    rw [this]
    omega
  · obtain ⟨q, hq, e⟩ := shOf_in h
    have all : ∀ q ∈ shVals, ∀ s, q.2 = He.Dv.str s → s.cps.all (· < 128) = true ∧ s.length ≤ 20000 := by
      intro q hq s hs
      unfold shVals at hq
      simp only [List.mem_cons, List.not_mem_nil, or_false] at hq
      rcases hq with rfl | rfl | rfl | rfl | rfl | rfl | rfl | rfl | rfl | rfl | rfl
      all_goals
        have hs : He.Dv.str _ = He.Dv.str s := hs
        injection hs with hs
        subst hs
        exact ⟨by decide +kernel, by decide +kernel⟩
    exact all q hq sh e
theorem ok_words_of (T : Txt w K mg) : Ok P w K mg base (L2.CX P w) 3 ("words_of", none) ["row", "many"] (sp_words_of K) := by
  have c_shape_of := ok_shape_of (P := P) (base := base) T
  have c_fits_shape := ok_fits_shape (P := P) (base := base) T
  refine okX T.f_words_of sc_words_of (fun vs H Q E h => by obtain ⟨_, _, _, rfl, _⟩ := h; rfl) (fun _ _ _ _ _ _ us hl => match us, hl with | [_, _], _ => rfl) fun f cdv A outer s H vs Q E hr h => ?_
  have nd := sc_words_of.nd
  refine ⟨_, (pss_cons (ps_set (i := 2) nd rfl (Or.inl rfl) (pe_split (pv 0) pe_str))
 (pss_cons (ps_set (i := 3) nd rfl (Or.inl rfl) (pc c_shape_of hr (by decide) T.g_shape_of (pa_cons (pv 2) (pa_cons (pv 1) pa_nil))))
 (pss_cons (ps_if (PW.pt (pw_or (pt_cmpR op_isN (pv 3) pe_non (nomark _)) (pw_or1 (pt_cmpR op_ne (pe_callB call_len_str (by rfl) T.n_len (by decide +kernel) (pa_cons (pv 3) pa_nil)) (pe_op op_sub (pe_callB call_len_seq (by rfl) T.n_len (by decide +kernel) (pa_cons (pv 2) pa_nil)) pe_int) (nomark _))))) (pss_one (ps_raise rfl (takes_of rfl rfl rfl rfl) (pmk_own PySem.F.excBase_ValueError T.x_BadRow T.g_BadRow T.p_BadRow (raises_own T.b_BadRow T.t_BadRow) rfl))) pss_nil)
 (pss_cons (ps_for PassesOwn.leaving rfl (pi_zipS (by rfl) T.n_zip (pa_cons (pe_slice sl_list (pv 2) (po_some pe_int) po_none) (pa_cons (pv 3) pa_nil))) (pg_tup rfl (pgs_cons (pg_name (i := 4) nd rfl (Or.inl rfl)) (pgs_cons (pg_name (i := 5) nd rfl (Or.inl rfl)) pgs_nil))) (pss_one (ps_if (pt_not (pt_val (pc c_fits_shape hr (by decide) T.g_fits_shape (pa_cons (pv 4) (pa_cons (pv 5) pa_nil))))) (pss_one (ps_raise rfl (takes_of rfl rfl rfl rfl) (pmk_own PySem.F.excBase_ValueError T.x_BadRow T.g_BadRow T.p_BadRow (raises_own T.b_BadRow T.t_BadRow) rfl))) pss_nil)))
 (pss_one (ps_ret (pv 2))))))), ?_⟩
  try dsimp only [cxOf, L2.Cx.nox, L2.Cx.blk]
  obtain ⟨row, ws, many, rfl, hw, hm, hq, hx⟩ := h
  have l20 : row.length + 2 ≤ sizeLine := Nat.le_trans (Nat.add_le_add_right hw.len 2) (by decide)
  refine q_asgL (el_tM1 (ev_var rfl) ev_c (rml_split (by decide) l20)) fun p H1 hp e1 h1 => ?_
  rw [hw.split] at h1
  have hx1 : SqL K H1 p (ws.map V.str) := sq_of h1
  refine q_asg (ev_tC (ea_cons (ev_var rfl) (ea_cons (ev_var rfl) ea_nil)) (spv_shape_of hx1 hw.ne (Nat.le_trans hw.few (by decide)) hm)) fun H2 e2 => ?_
  cases hs : shapeOf ws many with
  | none =>
    have ok : okWords ws many = false := by
      unfold okWords
      rw [hs]
    refine q_when (b := true) (et_is (et_or (et_test (ev_op (ev_var rfl) ev_c rv_isN)) (b := true) fun h => ?_) ?_) (fun _ H3 e3 => ?_) fun hb => ?_
    · cases h
    · rfl
    · exact hx ok _ ((e1.trans e2).trans e3)
    · cases hb
  | some sh =>
    obtain ⟨asc, sl⟩ := shape_asc hm (Nat.le_trans hw.few (by decide)) hs
    have hp0 : 0 < ws.length := List.length_pos_iff.mpr hw.ne
    have hx2 := ex_l e2 hx1
    refine q_when (b := !decide (sh.length = ws.length - 1)) (et_is (et_or (a := false) (b := !decide (sh.length = ws.length - 1)) (et_test (ev_op (ev_var rfl) ev_c rv_isN)) fun _ => et_test ?_) (Bool.false_or _)) (fun hb H3 e3 => ?_) fun hb H3 e3 => ?_
    · refine ev_is (ev_op (ev_cb (ea_cons (ev_var rfl) ea_nil) (rc_lenS (sz20 sl))) (ev_op (ev_cb (ea_cons (ev_var rfl) ea_nil) (rc_len hx2)) ev_c rv_I0) rv_neI) ?_
      refine congrArg (fun z => V.bl (!z)) (decide_eq_decide.mpr ?_)
      rw [List.length_map]
      omega
    · refine hx ?_ _ ((e1.trans e2).trans e3)
      unfold okWords
      rw [hs]
      show (decide (sh.length = ws.length - 1) && _) = false
      rw [Bool.not_eq_true'] at hb
      rw [hb]
      rfl
    · rw [Bool.not_eq_false'] at hb
      have hl := of_decide_eq_true hb
      have et : cutV (ws.map V.str) (some (1 : Int)) none = ws.tail.map V.str := by
        rw [show (1 : Int) = ((1 : Nat) : Int) from rfl, cutV_from, ← List.map_drop, List.drop_one]
      have hx3 := ex_l e3 hx2
      refine q_forZS (xs := ws.tail.map V.str) (w := sh) ?ht (fun H4 e4 => ev_var rfl) asc ?hl (fun q i σ' H' => Ex H3 H' ∧ H' q = some (.lst (ws.tail.map V.str)) ∧ (∃ a b, σ' = [some (V.str row), some (.int (many : Int)), some (.ref p), some (.str sh), a, b]) ∧ ∀ j, j < i → ∀ z c, ws.tail[j]? = some z → sh.cps.toList[j]? = some c → fitsSh z ⟨#[c]⟩ = true) (fun q H4 hq4 e4 h4 => ?h0) (fun q i σ' H' _ pv => sq_of pv.2.1) (fun q i x c σ' H' T hx' hc pv hT => ?hs) (fun q σ' H' pv => ?hd)
      case ht =>
        rw [← et]
        exact el_sl (ev_var rfl) (eo_some ev_c) eo_none hx3
      case hl =>
        rw [List.length_map, List.length_tail]
        show ws.length - 1 ≤ sh.length
        omega
      case h0 => exact ⟨e4, h4, ⟨none, none, rfl⟩, fun j hj => absurd hj (Nat.not_lt_zero _)⟩
      case hs =>
        obtain ⟨pe, ph, ⟨a, b, rfl⟩, pf⟩ := pv
        rw [List.getElem?_map] at hx'
        obtain ⟨z, hz, rfl⟩ := Option.map_eq_some_iff.mp hx'
        have hzl : z.length ≤ 20000 := by
          have := hw.short z (List.mem_of_mem_tail (List.mem_of_getElem? hz))
          omega
        have hc' : sh.cps.toList[i]? = some c := by
          rw [Array.getElem?_toList]
          exact hc
        refine g_pair (by rfl) upd_same ?_
        refine s_when (b := !fitsSh z ⟨#[c]⟩) (et_not (et_B (ev_tC (ea_cons (ev_var rfl) (ea_cons (ev_var rfl) ea_nil)) (spv_fits_shape hzl)))) (fun hb H5 e5 => ?_) fun hb H5 e5 => ?_
        · refine hx ?_ _ ((((e1.trans e2).trans e3).trans pe).trans ((Ex.new hT).trans e5))
          rw [Bool.not_eq_true'] at hb
          unfold okWords
          rw [hs]
          show (decide (sh.length = ws.length - 1) && fitAll ws.tail sh.cps.toList) = false
          rw [fitAll_not hz hc' hb]
          exact Bool.and_false _
        · rw [Bool.not_eq_false'] at hb
          refine ⟨pe.trans ((Ex.new hT).trans e5), ((Ex.new hT).trans e5) _ _ ph, ⟨_, _, rfl⟩, fun j hj z' c2 hz' hc2 => ?_⟩
          by_cases hji : j = i
          · subst hji
            rw [Option.some.inj (hz'.symm.trans hz), Option.some.inj (hc2.symm.trans hc')]
            exact hb
          · exact pf j (by omega) z' c2 hz' hc2
      case hd =>
        obtain ⟨pe, ph, ⟨a, b, rfl⟩, pf⟩ := pv
        rw [List.length_map] at pf
        have ok : okWords ws many = true := by
          unfold okWords
          rw [hs]
          show (decide (sh.length = ws.length - 1) && fitAll ws.tail sh.cps.toList) = true
          rw [decide_eq_true hl, fitAll_of fun j z c hz hc => pf j (List.getElem?_eq_some_iff.mp hz).1 z c hz hc]
          rfl
        refine s_ret (v := .ref p) (ev_var rfl) fun H4 e4 => ?_
        exact hq ok p H4 hp ((((e1.trans e2).trans e3).trans pe).trans e4) (e4 _ _ (pe _ _ (e3 _ _ (e2 _ _ h1))))
end
end KD
set_option maxHeartbeats 2000000
/-! rules within a comprehension: the written part by its name -/
namespace KD
open PySem PySem.Spec PyProof.Rows L2 Evl
section
variable {X : Cx} {K : PySem.W.Frag} {e o : Expr} {es : List Expr} {f : Str} {pos : Pos} {ta to : TE} {t : TA}
theorem ix_listK (h : X.K = K := by rfl) : IxR X (rIxL K) := h ▸ ix_list
theorem ix_tupK (h : X.K = K := by rfl) : IxR X (rIxT K) := h ▸ ix_tup
theorem op_in_seqK (h : X.K = K := by rfl) : OpR X (compareOp .In) (rIn K false) := h ▸ op_in_seq
theorem op_notIn_seqK (h : X.K = K := by rfl) : OpR X (compareOp .NotIn) (rIn K true) := h ▸ op_notIn_seq
def rLenQ (K : PySem.W.Frag) : List V → Hp → VK → Prop := fun xs H Q => ∃ p ys, xs = [.ref p] ∧ (SqL K H p ys ∨ SqT K H p ys) ∧ Q (.int ys.length) H
theorem call_len_seqK (h : X.K = K := by rfl) : CallR X (.builtin "len") (rLenQ K) := h ▸ call_len_seq
theorem mt_indexK (h : X.K = K := by rfl) : MtR X "list.index" (rIndex K) := h ▸ mt_index
theorem pe_fldK (he : PE X e ta) (h : X.K = K := by rfl) (hb : attributeBase e f X.env (eval e X.env) = eval e X.env := by rfl) : PE X (.Attribute e f pos) (tFld K ta f) := h ▸ pe_fld he hb
theorem rc_lenQ {p : Addr} {xs : List V} {H : Hp} (h : SqL K H p xs) : RC (rLenQ K) [.ref p] H (.int xs.length) := rc_len h
end
section
variable {K : PySem.W.Frag} {σ : L2.St} {H H' : Hp} {ta tb te tx td ty tv : TE} {t u : TT} {x y z v : V} {D : Ends} {tu tw tz : TS}
/-- d[a, b] = v -/
theorem q_dputU {d : Addr} {kvs : List (List Key × V)} {k : List Key} {xs : List V} (hv : Ev tv σ H v) (hd : Ev td σ H (.ref d)) (hk : EvU ty σ H xs) (hx : xs = k.map kV) (h : H d = some (.dT kvs)) (hl : kvs.length < 100000) (kont : ∀ H1, Ex H H1 → tz D σ (upd H1 d (.dT (putK kvs k v)))) :
    tSeq (sDPut td ty tv) tz D σ H := hv H (Ex.refl H) _ fun H1 e1 => hd H1 e1 _ fun H2 e2 => hk H2 (e1.trans e2) _ fun p H3 _ e3 hp => ⟨d, _, rfl, DPut.t ((((e1.trans e2).trans e3)) _ _ h) (hp.trans (by rw [hx])) (sz_lt hl), kont H3 ((e1.trans e2).trans e3)⟩
theorem s_dputU {d : Addr} {kvs : List (List Key × V)} {k : List Key} {xs : List V} (hv : Ev tv σ H v) (hd : Ev td σ H (.ref d)) (hk : EvU ty σ H xs) (hx : xs = k.map kV) (h : H d = some (.dT kvs)) (hl : kvs.length < 100000) (kont : ∀ H1, Ex H H1 → D.nx σ (upd H1 d (.dT (putK kvs k v)))) :
    sDPut td ty tv D σ H := hv H (Ex.refl H) _ fun H1 e1 => hd H1 e1 _ fun H2 e2 => hk H2 (e1.trans e2) _ fun p H3 _ e3 hp => ⟨d, _, rfl, DPut.t ((((e1.trans e2).trans e3)) _ _ h) (hp.trans (by rw [hx])) (sz_lt hl), kont H3 ((e1.trans e2).trans e3)⟩
/-- d[k] = v, k a number or a text -/
theorem q_dputK {d : Addr} {kvs : List (Key × V)} {k : Key} {y : V} (hv : Ev tv σ H v) (hd : Ev td σ H (.ref d)) (hk : Ev ty σ H y) (hx : y = kV k) (h : H d = some (.dK kvs)) (hl : kvs.length < 100000) (kont : ∀ H1, Ex H H1 → tz D σ (upd H1 d (.dK (putK kvs k v)))) :
    tSeq (sDPut td ty tv) tz D σ H := hv H (Ex.refl H) _ fun H1 e1 => hd H1 e1 _ fun H2 e2 => hk H2 (e1.trans e2) _ fun H3 e3 => ⟨d, _, rfl, by rw [hx]; exact DPut.k (((e1.trans e2).trans e3) _ _ h) (sz_lt hl), kont H3 ((e1.trans e2).trans e3)⟩
theorem s_dputK {d : Addr} {kvs : List (Key × V)} {k : Key} {y : V} (hv : Ev tv σ H v) (hd : Ev td σ H (.ref d)) (hk : Ev ty σ H y) (hx : y = kV k) (h : H d = some (.dK kvs)) (hl : kvs.length < 100000) (kont : ∀ H1, Ex H H1 → D.nx σ (upd H1 d (.dK (putK kvs k v)))) :
    sDPut td ty tv D σ H := hv H (Ex.refl H) _ fun H1 e1 => hd H1 e1 _ fun H2 e2 => hk H2 (e1.trans e2) _ fun H3 e3 => ⟨d, _, rfl, by rw [hx]; exact DPut.k (((e1.trans e2).trans e3) _ _ h) (sz_lt hl), kont H3 ((e1.trans e2).trans e3)⟩
/-- o.f = v -/
theorem q_fld {a C dx : Addr} {fs : List (Str × V)} {f : Str} (hv : Ev tv σ H v) (ho : Ev ta σ H (.ref a)) (hi : H a = some (.ins C dx fs)) (c : Cls K C) (n : NoAttr K C f) (hl : fs.length < 1000) (kont : ∀ H1, Ex H H1 → tz D σ (upd H1 a (.ins C dx (putF f v fs)))) : tSeq (sFld K ta tv f) tz D σ H :=
  hv H (Ex.refl H) _ fun H1 e1 => ho H1 e1 _ fun H2 e2 => ⟨a, C, dx, fs, rfl, (e1.trans e2) _ _ hi, c, n, hl, kont H2 (e1.trans e2)⟩
theorem q_fldP {a C dx : Addr} {fs : List (Str × V)} {f : Str} {Φ : V → Hp → Prop} (hv : EvP tv σ H Φ) (ho : ∀ H1, Ex H H1 → Ev ta σ H1 (.ref a)) (hi : H a = some (.ins C dx fs)) (c : Cls K C) (n : NoAttr K C f) (hl : fs.length < 1000) (hm : ∀ v H1 H2, Φ v H1 → Ex H1 H2 → Φ v H2) (kont : ∀ v H1, Ex H H1 → Φ v H1 → tz D σ (upd H1 a (.ins C dx (putF f v fs)))) : tSeq (sFld K ta tv f) tz D σ H :=
  hv H (Ex.refl H) _ fun v H1 e1 p1 => ho H1 e1 H1 (Ex.refl H1) _ fun H2 e2 => ⟨a, C, dx, fs, rfl, (e1.trans e2) _ _ hi, c, n, hl, kont v H2 (e1.trans e2) (hm v H1 H2 p1 e2)⟩
theorem s_fld {a C dx : Addr} {fs : List (Str × V)} {f : Str} (hv : Ev tv σ H v) (ho : Ev ta σ H (.ref a)) (hi : H a = some (.ins C dx fs)) (c : Cls K C) (n : NoAttr K C f) (hl : fs.length < 1000) (kont : ∀ H1, Ex H H1 → D.nx σ (upd H1 a (.ins C dx (putF f v fs)))) : sFld K ta tv f D σ H :=
  hv H (Ex.refl H) _ fun H1 e1 => ho H1 e1 _ fun H2 e2 => ⟨a, C, dx, fs, rfl, (e1.trans e2) _ _ hi, c, n, hl, kont H2 (e1.trans e2)⟩
theorem ep_newT : EvP tDNewT σ H fun v H1 => ∃ d, v = .ref d ∧ H d = none ∧ H1 d = some (.dT []) := fun H1 e Q q => fun p hp => q _ _ (Ex.new hp) ⟨p, rfl, fresh_back e hp, upd_same⟩
theorem ep_newK : EvP tDNewK σ H fun v H1 => ∃ d, v = .ref d ∧ H d = none ∧ H1 d = some (.dK []) := fun H1 e Q q => fun p hp => q _ _ (Ex.new hp) ⟨p, rfl, fresh_back e hp, upd_same⟩
theorem RCP.imp {r : List V → Hp → VK → Prop} {vs : List V} {Φ Ψ : V → Hp → Prop} (h : RCP r vs H Φ) (k : ∀ v H1, Φ v H1 → Ψ v H1) : RCP r vs H Ψ := fun H1 e Q q => h H1 e Q fun v H2 e2 hv => q v H2 e2 (k v H2 hv)
theorem ep_cbP {rc : List V → Hp → VK → Prop} {Φ Ψ : V → Hp → Prop} (h : EvP te σ H Φ) (hr : ∀ v H1, Ex H H1 → Φ v H1 → RCP rc [v] H1 Ψ) : EvP (tCB rc (tCons te tNil)) σ H Ψ := fun H1 e Q q =>
  h H1 e _ fun v H2 e2 hv => hr v H2 (e.trans e2) hv H2 (Ex.refl H2) Q fun v2 H3 e3 h3 => q v2 H3 (e2.trans e3) h3
theorem putK_le {κ : Type} [DecidableEq κ] (kvs : List (κ × V)) (k : κ) (v : V) : (putK kvs k v).length ≤ kvs.length + 1 := by
  unfold putK
  split
  · rw [List.length_map]
    omega
  · rw [List.length_append]
    exact Nat.le_refl _
theorem s_dputKP {d : Addr} {kvs : List (Key × V)} {k : Key} {y : V} {Φ : V → Hp → Prop} (hv : EvP tv σ H Φ) (hd : ∀ H1, Ex H H1 → Ev td σ H1 (.ref d)) (hk : ∀ H1, Ex H H1 → Ev ty σ H1 y) (hx : y = kV k) (h : H d = some (.dK kvs)) (hl : kvs.length < 100000) (kont : ∀ v H1, Ex H H1 → D.nx σ (upd H1 d (.dK (putK kvs k v)))) :
    sDPut td ty tv D σ H := hv H (Ex.refl H) _ fun v H1 e1 _ => hd H1 e1 H1 (Ex.refl _) _ fun H2 e2 => hk H2 (e1.trans e2) H2 (Ex.refl _) _ fun H3 e3 => ⟨d, _, rfl, by rw [hx]; exact DPut.k (((e1.trans e2).trans e3) _ _ h) (sz_lt hl), kont v H3 ((e1.trans e2).trans e3)⟩
/-- a walk over nothing -/
theorem s_for0 {g : TG} (h : EvP te σ H fun v H1 => ∃ p, v = .ref p ∧ H1 p = some (.lst [])) (k : ∀ H1, Ex H H1 → D.nx σ H1) : tFor (iList K te) g tu D σ H :=
  h H (Ex.refl H) _ fun v H1 e1 ⟨p, ev, hp⟩ => ⟨p, ev, ⟨[], sq_of hp⟩, for_list (xs := []) (fun i σ' H' => σ' = σ ∧ Ex H1 H') ⟨rfl, Ex.refl _⟩ (fun i σ' H' _ pv => sq_of (pv.2 _ _ hp)) (fun i x σ' H' hx => absurd hx (by simp)) fun σ' H' pv => by rw [pv.1]; exact k H' (e1.trans pv.2)⟩
theorem q_for0 {g : TG} (h : EvP te σ H fun v H1 => ∃ p, v = .ref p ∧ H1 p = some (.lst [])) (k : ∀ H1, Ex H H1 → tz D σ H1) : tSeq (tFor (iList K te) g tu) tz D σ H := s_for0 (D := { D with nx := tz D }) h k
/-- a new tuple made of what is known and one new list -/
theorem s_retUP {xs : List V} (h : EvU te σ H xs) (k : ∀ p H1, H p = none → Ex H H1 → H1 p = some (.tup xs) → D.rt (.ref p) H1) : tRet te D σ H := s_retU h k
/-- a tuple unpacked into names, the tuple some value -/
theorem q_asgTP {Φ : V → Hp → Prop} {n : Nat} {tg : TGs} (h : EvP te σ H Φ) (k : ∀ v H1, Ex H H1 → Φ v H1 → ∃ a xs, v = .ref a ∧ SqT K H1 a xs ∧ xs.length = n ∧ tg xs σ H1 (tz D)) : tSeq (tAsg te (gTup K n tg)) tz D σ H := h H (Ex.refl H) _ fun v H1 e1 hv => k v H1 e1 hv
end
end KD
set_option maxHeartbeats 4000000
/-! own rules 5: sorted of triples of ints, of any size -/
namespace KD
open PySem PySem.Spec PyProof.Rows L2 Evl
abbrev I3 : Type := Int × Int × Int
/-- by the first, then the second, then the third -/
def lex3 (p q : I3) : Bool := decide (p.1 < q.1 ∨ (p.1 = q.1 ∧ (p.2.1 < q.2.1 ∨ (p.2.1 = q.2.1 ∧ p.2.2 < q.2.2))))
theorem lex3_yes {p q : I3} : lex3 p q = true ↔ (p.1 < q.1 ∨ (p.1 = q.1 ∧ (p.2.1 < q.2.1 ∨ (p.2.1 = q.2.1 ∧ p.2.2 < q.2.2)))) := decide_eq_true_iff
theorem lex3_not {p q : I3} : lex3 p q = false ↔ ¬ (p.1 < q.1 ∨ (p.1 = q.1 ∧ (p.2.1 < q.2.1 ∨ (p.2.1 = q.2.1 ∧ p.2.2 < q.2.2)))) := decide_eq_false_iff_not
theorem swo3 {α : Type} (k : α → I3) : SrtO.Swo fun v u => lex3 (k v) (k u) := by
  refine ⟨fun x y h => ?_, fun x y z h1 h2 => ?_⟩
  · have a := lex3_yes.mp h
    refine lex3_not.mpr ?_
    omega
  · have a := lex3_not.mp h1
    have b := lex3_not.mp h2
    refine lex3_not.mpr ?_
    omega
/-- at v stands a tuple of these three ints -/
def Is3 (h : Heap) (v : Value) (p : I3) : Prop := ∃ (a : Addr) (o : Obj) (t u r : Tok) (n : Nat), v = .ref a ∧ h.get? a = some o ∧ o.cls = .type "tuple" ∧ o.data = .seq #[.int p.1 t, .int p.2.1 u, .int p.2.2 r] n
theorem Is3.at {h g : Heap} {v : Value} {p : I3} (x : Is3 h v p) (k : ∀ b o, h.get? b = some o → o.cls = .type "tuple" → g.get? b = some o) : Is3 g v p := by
  obtain ⟨a, o, t, u, r, n, e, ho, hc, hd⟩ := x
  exact ⟨a, o, t, u, r, n, e, k a o ho hc, hc, hd⟩
section
variable {prog : Program} {w : World} {A : Around} {E : Value → Shared → Prop} {s : Shared}
theorem cmp3 {vs : List Value} {k : Value → I3} (hp : ∀ v ∈ vs, Is3 s.heap v (k v)) : SrtO.Cmp prog w A s (tuples' true) (fun p => p.1 ∈ vs) (SrtO.lt2 fun v u => lex3 (k v) (k u)) := by
  intro p q hm hm'
  have g1 := hp _ hm
  have g2 := hp _ hm'
  show wpAny (model prog w) A (keyLt' (tuples' true) p.1 q.1) (fun r s' => s' = s ∧ r = lex3 (k p.1) (k q.1)) (fun _ _ => False) s
  generalize k p.1 = x at g1 ⊢
  generalize k q.1 = y at g2 ⊢
  obtain ⟨x1, x2, x3⟩ := x
  obtain ⟨y1, y2, y3⟩ := y
  obtain ⟨a, o, t1, t2, t3, n, ea, ho, hc, hd⟩ := g1
  obtain ⟨b, o', u1, u2, u3, n', eb, ho', hc', hd'⟩ := g2
  rw [ea, eb]
  refine PySem.W.kat_lt ho hd ho' hd' ?_
  show PySem.W.KatLex prog w A true (decide (3 < 3)) _ [(.int x1 t1, .int y1 u1), (.int x2 t2, .int y2 u2), (.int x3 t3, .int y3 u3)] 0 s
  refine PySem.W.kat_cons (SeqAt.EqAt.int_int x1 t1 y1 u1 prog w _ _ ?_)
  refine PySem.W.kat_go (fun q1 => ?_) (fun q1 => ?_)
  · have e1 : x1 = y1 := by simpa using q1
    refine PySem.W.kat_yes (PySem.W.kat_cons (SeqAt.EqAt.int_int x2 t2 y2 u2 prog w _ _ ?_))
    refine PySem.W.kat_go (fun q2 => ?_) (fun q2 => ?_)
    · have e2 : x2 = y2 := by simpa using q2
      refine PySem.W.kat_yes (PySem.W.kat_cons (SeqAt.EqAt.int_int x3 t3 y3 u3 prog w _ _ ?_))
      refine PySem.W.kat_go (fun q3 => ?_) (fun q3 => ?_)
      · have e3 : x3 = y3 := by simpa using q3
        have r : lex3 (x1, x2, x3) (y1, y2, y3) = false := lex3_not.mpr (by simp only; omega)
        exact PySem.W.kat_yes (PySem.W.kat_nil ⟨rfl, r.symm⟩)
      · have r : lex3 (x1, x2, x3) (y1, y2, y3) = decide (x3 < y3) := decide_eq_decide.mpr (by simp only; omega)
        refine PySem.W.kat_no (PySem.W.kat_one _ _ (PyProof.Rows.lt_int ?_))
        exact (show s = s ∧ decide (x3 < y3) = lex3 (x1, x2, x3) (y1, y2, y3) from ⟨rfl, r.symm⟩)
    · have e2 : ¬ x2 = y2 := by simpa using q2
      have r : lex3 (x1, x2, x3) (y1, y2, y3) = decide (x2 < y2) := decide_eq_decide.mpr (by simp only; omega)
      refine PySem.W.kat_no (PySem.W.kat_one _ _ (PyProof.Rows.lt_int ?_))
      exact (show s = s ∧ decide (x2 < y2) = lex3 (x1, x2, x3) (y1, y2, y3) from ⟨rfl, r.symm⟩)
  · have e1 : ¬ x1 = y1 := by simpa using q1
    have r : lex3 (x1, x2, x3) (y1, y2, y3) = decide (x1 < y1) := decide_eq_decide.mpr (by simp only; omega)
    exact PySem.W.kat_no (oneLt_int ⟨rfl, r.symm⟩)
theorem firsts3 {h : Heap} : ∀ {vs : List Value}, (∀ v ∈ vs, ∃ p, Is3 h v p) → ∃ fs, PySem.W.KatTups h vs fs ∧ fs.length = vs.length ∧ ∀ f ∈ fs, ∃ n t, f = Value.int n t
  | [], _ => ⟨[], PySem.W.KatTups.nil, rfl, fun f hf => by simp at hf⟩
  | v :: vs, x => by
    obtain ⟨fs, kt, hl, hi⟩ := firsts3 fun u hu => x u (List.mem_cons_of_mem v hu)
    obtain ⟨p, a, o, t, u, r, n, rfl, ho, hc, hd⟩ := x v (List.mem_cons_self ..)
    refine ⟨_ :: fs, PySem.W.KatTups.cons ho hc hd rfl kt, by simp [hl], fun f hf => ?_⟩
    rcases List.mem_cons.mp hf with rfl | hf
    · exact ⟨p.1, t, rfl⟩
    · exact hi f hf
theorem sortable3 {a : Addr} {vs : List Value} {k : Value → I3} (h0 : 0 < vs.length) (hp : ∀ v ∈ vs, Is3 s.heap v (k v)) (ha : ∀ o, s.heap.get? a = some o → o.cls ≠ .type "tuple") : SrtO.SortableO prog w A s a vs fun v u => lex3 (k v) (k u) := by
  intro g keep
  have hp2 : ∀ v ∈ vs, Is3 g v (k v) := fun v hm => (hp v hm).at fun b o e c => keep b o (fun z => by subst z; exact ha o e c) e
  obtain ⟨fs, h1, h2, h3⟩ := firsts3 fun v hm => ⟨_, hp2 v hm⟩
  refine ⟨tuples' true, fun Q E hq => ?_, cmp3 hp2⟩
  refine PySem.W.kat_kind (T := .type "int") h1 (by omega) (fun f hm => ?_) (by rfl) ?_
  · obtain ⟨x, t, rfl⟩ := h3 f hm
    exact PySem.W.Looks.now
  · have e : (Value.type "int" != Value.type "tuple") = true := by decide +kernel
    rw [e]
    exact hq
end
/-- sorted(xs), xs a list of triples of ints: a new list, the same items, in order -/
def rSort3 (K : PySem.W.Frag) : List V → Hp → VK → Prop := fun vs H Q => ∃ (a : Addr) (xs : List V) (k : V → I3), vs = [V.ref a] ∧ SqL K H a xs ∧ (∀ x ∈ xs, ∃ t, x = V.ref t ∧ H t = some (.tup [.int (k x).1, .int (k x).2.1, .int (k x).2.2])) ∧
  ∀ ys p, ys.Perm xs → ys.Pairwise (fun x y => lex3 (k y) (k x) = false) → H p = none → Q (.ref p) (upd H p (.lst ys))
theorem cr_sort3 {X : Cx} {K : PySem.W.Frag} (hK : X.K = K := by rfl) : CallR X (.builtin "sorted") (rSort3 K) := by
  subst hK
  intro pins s σ H vs us Q I r h
  obtain ⟨a, xs, k, rfl, hs, hx, q⟩ := h
  obtain ⟨its, rv, hl, hz⟩ := I.list hs
  obtain ⟨u, rfl, ru⟩ := vals1 r
  obtain rfl : u = Value.ref a := ru
  obtain ⟨e1, e2⟩ := refs_back rv fun x m => let ⟨t, e, _⟩ := hx x m; ⟨t, e⟩
  have tup : ∀ v ∈ its, Is3 s.heap v (k (backV v)) := fun v hv => by
    obtain ⟨t, rfl⟩ := e2 v hv
    have hm : V.ref t ∈ xs := e1 ▸ List.mem_map.mpr ⟨_, hv, rfl⟩
    obtain ⟨t', e, ht⟩ := hx _ hm
    cases e
    obtain ⟨_, its2, r2, o, ho, hc, n, hd⟩ := I.hok _ _ ht
    cases r2 with
    | cons ra r2 =>
      cases r2 with
      | cons rb r2 =>
        cases r2 with
        | cons rc r2 =>
          cases r2
          obtain ⟨ta, rfl⟩ := ra
          obtain ⟨tb, rfl⟩ := rb
          obtain ⟨tc, rfl⟩ := rc
          exact ⟨t, o, ta, tb, tc, n, rfl, ho, hc, hd⟩
  refine SrtO.sorted_ord (swo3 fun u => k (backV u)) hl.isList (by rw [← rv.length]; exact hz) (fun h2 g b hb kk => ?_) fun out hs hb => ?_
  · refine sortable3 (s := { s with heap := g }) (by omega) (fun v hm => (tup v hm).at fun c o e _ => (kk c o e).2) fun o e => ?_
    have e' : some o = some (seqObj "list" its.toArray 0) := e.symm.trans hb
    cases e'
    intro c
    exact absurd (Value.type.inj c) (by decide)
  · have h3 : ∀ u ∈ out, ∃ a, u = Value.ref a := fun u hu => e2 u (hb.perm.mem_iff.mp hu)
    have hperm : (out.map backV).Perm xs := by
      rw [e1]
      exact hb.perm.map backV
    refine ⟨.ref (s.heap.objs.size + 1), upd H (s.heap.objs.size + 1) (.lst (out.map backV)), I.laid (t' := s.toks) (fun b o e => sortedAll_old e) (Nat.le_succ _) ⟨?_, out, _, vals_back h3, (sortedAll_at s.heap its out.toArray).choose_spec⟩, rfl, q _ _ hperm (List.pairwise_map.mpr hs) (I.hok.fresh (Nat.le_succ _))⟩
    rw [hperm.length_eq]
    exact hz
end KD
set_option maxHeartbeats 2000000
/-! webs -/
namespace KD
open PySem PySem.Spec PyProof.Rows L2 Evl
abbrev Tie : Type := Nat × Nat × Int
def kk (a b : Nat) : List Key := [.inl (a : Int), .inl (b : Int)]
theorem kk_inj {a b c d : Nat} (h : kk a b = kk c d) : a = c ∧ b = d := by
  unfold kk at h
  injection h with h1 h2
  injection h2 with h2 _
  injection h1 with h1
  injection h2 with h2
  omega
def tabOf (ts : List Tie) : List (List Key × V) := ts.flatMap fun t => [(kk t.1 t.2.1, .int t.2.2), (kk t.2.1 t.1, .int t.2.2)]
def endsAt (ts : List Tie) (k : Nat) : List Nat := ts.flatMap fun t => (if t.1 = k then [t.2.1] else []) ++ (if t.2.1 = k then [t.1] else [])
structure TiesOk (n : Nat) (ts : List Tie) : Prop where
  lt : ∀ t ∈ ts, t.1 < t.2.1 ∧ t.2.1 < n
  nd : (ts.map fun t => (t.1, t.2.1)).Nodup
  few : ts.length ≤ 1000
theorem tab_snoc (ts : List Tie) (t : Tie) : tabOf (ts ++ [t]) = (tabOf ts ++ [(kk t.1 t.2.1, .int t.2.2)]) ++ [(kk t.2.1 t.1, .int t.2.2)] := by
  unfold tabOf
  rw [List.flatMap_append]
  simp
theorem ends_snoc (ts : List Tie) (t : Tie) (k : Nat) : endsAt (ts ++ [t]) k = endsAt ts k ++ ((if t.1 = k then [t.2.1] else []) ++ (if t.2.1 = k then [t.1] else [])) := by
  unfold endsAt
  rw [List.flatMap_append]
  simp
theorem tab_mem {ts : List Tie} {p : List Key × V} (h : p ∈ tabOf ts) : ∃ t ∈ ts, p = (kk t.1 t.2.1, .int t.2.2) ∨ p = (kk t.2.1 t.1, .int t.2.2) := by
  unfold tabOf at h
  obtain ⟨t, ht, hp⟩ := List.mem_flatMap.mp h
  exact ⟨t, ht, by simpa using hp⟩
theorem tab_len (ts : List Tie) : (tabOf ts).length = 2 * ts.length := by
  induction ts with
  | nil => rfl
  | cons t r ih =>
    show (tabOf r).length + 1 + 1 = 2 * (r.length + 1)
    omega
theorem valV_none' {κ : Type} [DecidableEq κ] {kvs : List (κ × V)} {k : κ} (h : ∀ p ∈ kvs, p.1 ≠ k) : valV kvs k = none := by
  unfold valV
  rw [List.find?_eq_none.mpr fun p hp => by simp [h p hp]]
  rfl
def WebAt (K : PySem.W.Frag) (H : Hp) (x : Addr) (n : Nat) (ts : List Tie) : Prop := ∃ (dx t e : Addr) (rows : List Addr), H x = some (.ins (He.ga K "Web") dx [("many", .int (n : Int)), ("table", .ref t), ("ends", .ref e)]) ∧
  H t = some (.dT (tabOf ts)) ∧ H e = some (.lst (rows.map V.ref)) ∧ rows.length = n ∧ ∀ (k : Nat) (r : Addr), rows[k]? = some r → H r = some (.lst ((endsAt ts k).map fun b : Nat => V.int (b : Int)))
theorem WebAt.mono {K : PySem.W.Frag} {H H' : Hp} {x : Addr} {n : Nat} {ts : List Tie} (e : Ex H H') (h : WebAt K H x n ts) : WebAt K H' x n ts := by
  obtain ⟨dx, t, e', rows, h1, h2, h3, h4, h5⟩ := h
  exact ⟨dx, t, e', rows, e _ _ h1, e _ _ h2, e _ _ h3, h4, fun k r hk => e _ _ (h5 k r hk)⟩
/-- the items of a list of ties -/
def tieV (t : Tie) : List V := [.int (t.1 : Int), .int (t.2.1 : Int), .int t.2.2]
def TieRow (H : Hp) (v : V) (t : Tie) : Prop := ∃ q, v = .ref q ∧ H q = some (.tup (tieV t))
/-- xs is a list of tuples, the ties ts -/
def TieRows (H : Hp) (xs : List V) (ts : List Tie) : Prop := xs.length = ts.length ∧ ∀ (i : Nat) (v : V) (t : Tie), xs[i]? = some v → ts[i]? = some t → TieRow H v t
theorem TieRows.mono {H H' : Hp} {xs : List V} {ts : List Tie} (e : Ex H H') (h : TieRows H xs ts) : TieRows H' xs ts := ⟨h.1, fun i v t h1 h2 => let ⟨q, a, b⟩ := h.2 i v t h1 h2; ⟨q, a, e _ _ b⟩⟩
section
variable {P : Program} {w : World} {K : PySem.W.Frag} {mg : Str → Option Value} {base : Heap}
def FrX (x : Addr) (H H' : Hp) : Prop := ∀ b o, H b = some o → b ≠ x → H' b = some o
def sp_Web_init (K : PySem.W.Frag) : Sp := fun vs H Q _ => ∃ (x dx l : Addr) (n : Nat) (xs : List V) (ts : List Tie), vs = [.ref x, .int (n : Int), .ref l] ∧ n ≤ 24 ∧ H x = some (.ins (He.ga K "Web") dx []) ∧ H l = some (.lst xs) ∧ TieRows H xs ts ∧ TiesOk n ts ∧
  ∀ H', FrX x H H' → WebAt K H' x n ts → Q .non H'
theorem new_tab {n : Nat} {ts : List Tie} (h : TiesOk n ts) {i : Nat} {t : Tie} (ht : ts[i]? = some t) : (∀ p ∈ tabOf (ts.take i), p.1 ≠ kk t.1 t.2.1) ∧ ∀ p ∈ tabOf (ts.take i), p.1 ≠ kk t.2.1 t.1 := by
  have key : ∀ u ∈ ts.take i, (u.1, u.2.1) ≠ (t.1, t.2.1) := fun u hu e => by
    obtain ⟨j, hj, eu⟩ := List.mem_take_iff_getElem.mp hu
    have h1 : (ts.map fun t => (t.1, t.2.1))[j]? = some (u.1, u.2.1) := by
      rw [List.getElem?_map, List.getElem?_eq_getElem (by omega), eu]
      rfl
    have h2 : (ts.map fun t => (t.1, t.2.1))[i]? = some (t.1, t.2.1) := by
      rw [List.getElem?_map, ht]
      rfl
    rw [← e] at h2
    have := nd_ix h.nd h1 h2
    omega
  have ot := (h.lt t (List.mem_of_getElem? ht)).1
  refine ⟨fun p hp e => ?_, fun p hp e => ?_⟩
  · obtain ⟨u, hu, q⟩ := tab_mem hp
    have ou := (h.lt u (List.mem_of_mem_take hu)).1
    rcases q with rfl | rfl
    · obtain ⟨e1, e2⟩ := kk_inj e
      exact key u hu (by rw [e1, e2])
    · obtain ⟨e1, e2⟩ := kk_inj e
      omega
  · obtain ⟨u, hu, q⟩ := tab_mem hp
    have ou := (h.lt u (List.mem_of_mem_take hu)).1
    rcases q with rfl | rfl
    · obtain ⟨e1, e2⟩ := kk_inj e
      omega
    · obtain ⟨e1, e2⟩ := kk_inj e
      exact key u hu (by rw [e1, e2])
/-- n new empty lists -/
theorem ep_rows {σ : L2.St} {H : Hp} {n : Nat} {ta : TA} {j : Nat} {vs : List Nat} (h : EvA ta σ H [.int (n : Int)]) (hn : n ≤ 24) (hw : ∀ x, wipe ((wipe σ vs).set j (some x)) vs = wipe σ vs) :
    EvP (tLc (iRng1 ta) (gName j) tYes (tLst tNil) vs) σ H fun v H1 => ∃ (e : Addr) (rows : List Addr), v = .ref e ∧ H e = none ∧ H1 e = some (.lst (rows.map V.ref)) ∧ rows.length = n ∧ rows.Nodup ∧ ∀ r ∈ rows, H r = none ∧ r ≠ e ∧ H1 r = some (.lst []) := fun H0 e0 Q k => h H0 e0 _ fun H1 e1 => ⟨(n : Int), rfl, by omega, by omega, fun Dl hD => by
  refine lc_range (lo := 0) (n := (n : Int).toNat) (fun i H' => Ex H1 H' ∧ ∃ rows : List Addr, H' Dl = some (.lst (rows.map V.ref)) ∧ rows.length = i ∧ rows.Nodup ∧ ∀ r ∈ rows, H1 r = none ∧ r ≠ Dl ∧ H' r = some (.lst [])) ⟨Ex.new hD, [], upd_same, rfl, List.nodup_nil, fun r hr => absurd hr List.not_mem_nil⟩ (fun i H' hi pv => ?_) fun H' pv => ?_
  · obtain ⟨pe, rows, p1, p2, p3, p4⟩ := pv
    refine ⟨hw _, ?_⟩
    unfold tYes
    simp only [if_true]
    refine ⟨Nat.zero_le _, fun p hp => ?_⟩
    have hpD : p ≠ Dl := fun q => by
      rw [q, p1] at hp
      cases hp
    have hp1 : H1 p = none := fresh_back pe hp
    refine ⟨rows.map V.ref, (by rw [upd_ne (Ne.symm hpD)]; exact p1), sz_lt (by rw [List.length_map]; omega), Ex.mut (pe.trans (Ex.new hp)) hD, rows ++ [p], ?_, ?_, ?_, fun r hr => ?_⟩
    · rw [upd_same, List.map_append]
      rfl
    · rw [List.length_append, p2]
      rfl
    · rw [List.nodup_append]
      refine ⟨p3, by simp, fun a ha b hb q => ?_⟩
      rw [List.mem_singleton] at hb
      subst hb
      subst q
      rw [(p4 _ ha).2.2] at hp
      cases hp
    · rcases List.mem_append.mp hr with hr | hr
      · obtain ⟨q1, q2, q3⟩ := p4 r hr
        refine ⟨q1, q2, ?_⟩
        rw [upd_ne q2]
        exact Ex.new hp _ _ q3
      · rw [List.mem_singleton] at hr
        subst hr
        refine ⟨hp1, hpD, ?_⟩
        rw [upd_ne hpD]
        exact upd_same
  · obtain ⟨pe, rows, p1, p2, p3, p4⟩ := pv
    exact k _ H' (e1.trans pe) ⟨Dl, rows, rfl, fresh_back (e0.trans e1) hD, p1, by omega, p3, fun r hr => ⟨fresh_back (e0.trans e1) (p4 r hr).1, (p4 r hr).2⟩⟩⟩
theorem ok_Web_init (T : Txt w K mg) : Ok P w K mg base CX0 1 ("Web", some "__init__") ["self", "many", "ties"] (sp_Web_init K) := by
  obtain ⟨tL, m_MOST_POINTS⟩ := T.c_MOST_POINTS
  refine ok0 T.f_Web_init sc_Web_init (fun vs H Q E h => by obtain ⟨_, _, _, _, _, _, rfl, _⟩ := h; rfl) (fun _ _ _ _ _ _ us hl => match us, hl with | [_, _, _], _ => rfl) fun f cdv A outer s H vs Q E hr h => ?_
  have nd := sc_Web_init.nd
  have hu := hu_of hr
  refine ⟨_, (pss_cons (ps_if (PW.pt (pw_or (pt_cmpR op_lt (pv 1) pe_int (nomark _)) (pw_or1 (pt_cmpR op_gt (pv 1) (pe_glob (v := .int 24) rfl m_MOST_POINTS ⟨_, rfl⟩) (nomark _))))) (pss_one ps_never) pss_nil)
 (pss_cons (ps_fld (pv 0) (pv 1) rfl)
 (pss_cons (ps_fld (pv 0) pe_dnewT rfl)
 (pss_cons (ps_fld (pv 0) (pe_lc (own := [("k", 6)]) (g := gName 6) rfl nd (pi_range1 (by rfl) T.n_range (pa_cons (pv 1) pa_nil)) (blkOk_by (N := ["self", "many", "ties", "a", "b", "heavy", "k"]) (own := [("k", 6)]) (sc := defScope s_Web_init) (by decide +kernel)) (fun _ _ _ _ _ => (pg_name (i := 6) nd rfl (Or.inl rfl))) (fun _ _ _ _ _ => pts_nil) (fun _ _ _ _ _ => (pe_lst pa_nil))) rfl)
 (pss_one (ps_for PassesOwn.never rfl (pi_list (pv 2)) (pg_tup rfl (pgs_cons (pg_name (i := 3) nd rfl (Or.inl rfl)) (pgs_cons (pg_name (i := 4) nd rfl (Or.inl rfl)) (pgs_cons (pg_name (i := 5) nd rfl (Or.inl rfl)) pgs_nil)))) (pss_cons (ps_if (PW.pt (pw_or (pt_cmpR op_eq (pv 3) (pv 4) (nomark _)) (pw_or (pt_cmpR op_lt (pe_callB (call_min2 rfl) (by rfl) T.n_min (by decide +kernel) (pa_cons (pv 3) (pa_cons (pv 4) pa_nil))) pe_int (nomark _)) (pw_or1 (pt_cmpR op_ge (pe_callB (call_max2 rfl) (by rfl) T.n_max (by decide +kernel) (pa_cons (pv 3) (pa_cons (pv 4) pa_nil))) (pv 1) (nomark _)))))) (pss_one ps_never) pss_nil)
 (pss_cons (ps_if (pt_cmp (pc_din hu (pe_tup (pa_cons (pv 3) (pa_cons (pv 4) pa_nil))) (pe_fld (pv 0) rfl))) (pss_one ps_never) pss_nil)
 (pss_cons (ps_dput hu (pe_fld (pv 0) rfl) (pe_tup (pa_cons (pv 3) (pa_cons (pv 4) pa_nil))) (pv 5) rfl)
 (pss_cons (ps_dput hu (pe_fld (pv 0) rfl) (pe_tup (pa_cons (pv 4) (pa_cons (pv 3) pa_nil))) (pv 5) rfl)
 (pss_cons (ps_expr (pe_bm PySem.F.plainAttrs_list PySem.F.slot_list_append PySem.F.type_list_append mt_append (pe_ix ix_list (pe_fld (pv 0) rfl) (pv 3) (fun _ _ => rfl)) (pa_cons (pv 4) pa_nil)))
 (pss_one (ps_expr (pe_bm PySem.F.plainAttrs_list PySem.F.slot_list_append PySem.F.type_list_append mt_append (pe_ix ix_list (pe_fld (pv 0) rfl) (pv 4) (fun _ _ => rfl)) (pa_cons (pv 3) pa_nil))))))))))))))), ?_⟩
  try dsimp only [cxOf, L2.Cx.nox, L2.Cx.blk]
  obtain ⟨x, dx, l, n, xs, ts, rfl, hn, hx, hl, hts, hok, hq⟩ := h
  refine q_when (b := false) (et_is (et_or (et_test (ev_op (ev_var rfl) ev_c rv_I0)) fun _ => et_test (ev_op (ev_var rfl) ev_c rv_I0)) ?_) (fun hb => ?_) fun _ H1 e1 => ?_
  · rw [decide_eq_false (by omega), decide_eq_false (by omega)]
    rfl
  · cases hb
  refine q_fld (ev_var rfl) (ev_var rfl) (e1 _ _ hx) T.k_Web T.na_Web_many (by decide) fun H2 e2 => ?_
  have x2 : (upd H2 x (.ins (He.ga K "Web") dx (putF "many" (.int (n : Int)) []))) x = some (.ins (He.ga K "Web") dx [("many", .int (n : Int))]) := upd_same
  have fr2 : FrX x H (upd H2 x (.ins (He.ga K "Web") dx (putF "many" (.int (n : Int)) []))) := fun b o hb hne => by
    rw [upd_ne hne]
    exact e2 _ _ (e1 _ _ hb)
  generalize upd H2 x (.ins (He.ga K "Web") dx (putF "many" (.int (n : Int)) [])) = H3 at x2 fr2 ⊢
  refine q_fldP ep_newT (fun H4 e4 => ev_var rfl) x2 T.k_Web T.na_Web_table (by simp) (fun v H4 H5 ⟨d, q1, q2, q3⟩ e => ⟨d, q1, q2, e _ _ q3⟩) fun v H4 e4 hv => ?_
  obtain ⟨t, rfl, t0, t4⟩ := hv
  have tx : t ≠ x := fun q => by
    rw [q, x2] at t0
    cases t0
  have t0' : H t = none := by
    cases ho : H t with
    | none => rfl
    | some o =>
      rw [fr2 t o ho tx] at t0
      cases t0
  have x5 : (upd H4 x (.ins (He.ga K "Web") dx (putF "table" (.ref t) [("many", .int (n : Int))]))) x = some (.ins (He.ga K "Web") dx [("many", .int (n : Int)), ("table", .ref t)]) := upd_same
  have fr5 : FrX x H (upd H4 x (.ins (He.ga K "Web") dx (putF "table" (.ref t) [("many", .int (n : Int))]))) := fun b o hb hne => by
    rw [upd_ne hne]
    exact e4 _ _ (fr2 b o hb hne)
  have t5 : (upd H4 x (.ins (He.ga K "Web") dx (putF "table" (.ref t) [("many", .int (n : Int))]))) t = some (.dT []) := by
    rw [upd_ne tx]
    exact t4
  generalize upd H4 x (.ins (He.ga K "Web") dx (putF "table" (.ref t) [("many", .int (n : Int))])) = H5 at x5 fr5 t5 ⊢
  refine q_fldP (ep_rows (ea_cons (ev_var rfl) ea_nil) hn (fun _ => rfl)) (fun H6 e6 => ev_var rfl) x5 T.k_Web T.na_Web_ends (by simp) (fun v H6 H7 ⟨e, rows, q1, q2, q3, q4, q5, q6⟩ ee => ⟨e, rows, q1, q2, ee _ _ q3, q4, q5, fun r hr => ⟨(q6 r hr).1, (q6 r hr).2.1, ee _ _ (q6 r hr).2.2⟩⟩) fun v H6 e6 hv => ?_
  obtain ⟨e, rows, rfl, e0, he6, hn6, hnd, hr6⟩ := hv
  have no5 : ∀ {r : Addr}, H5 r = none → r ≠ x ∧ r ≠ t ∧ H r = none := fun {r} h0 => by
    have q1 : r ≠ x := fun q => by
      rw [q, x5] at h0
      cases h0
    refine ⟨q1, fun q => ?_, ?_⟩
    · rw [q, t5] at h0
      cases h0
    · cases ho : H r with
      | none => rfl
      | some o =>
        rw [fr5 r o ho q1] at h0
        cases h0
  obtain ⟨ex, et, e0'⟩ := no5 e0
  have x7 : (upd H6 x (.ins (He.ga K "Web") dx (putF "ends" (.ref e) [("many", .int (n : Int)), ("table", .ref t)]))) x = some (.ins (He.ga K "Web") dx [("many", .int (n : Int)), ("table", .ref t), ("ends", .ref e)]) := upd_same
  have fr7 : FrX x H (upd H6 x (.ins (He.ga K "Web") dx (putF "ends" (.ref e) [("many", .int (n : Int)), ("table", .ref t)]))) := fun b o hb hne => by
    rw [upd_ne hne]
    exact e6 _ _ (fr5 b o hb hne)
  have t7 : (upd H6 x (.ins (He.ga K "Web") dx (putF "ends" (.ref e) [("many", .int (n : Int)), ("table", .ref t)]))) t = some (.dT []) := by
    rw [upd_ne tx]
    exact e6 _ _ t5
  have e7 : (upd H6 x (.ins (He.ga K "Web") dx (putF "ends" (.ref e) [("many", .int (n : Int)), ("table", .ref t)]))) e = some (.lst (rows.map V.ref)) := by
    rw [upd_ne ex]
    exact he6
  have r7 : ∀ r ∈ rows, (upd H6 x (.ins (He.ga K "Web") dx (putF "ends" (.ref e) [("many", .int (n : Int)), ("table", .ref t)]))) r = some (.lst []) := fun r hr => by
    rw [upd_ne (no5 (hr6 r hr).1).1]
    exact (hr6 r hr).2.2
  generalize upd H6 x (.ins (He.ga K "Web") dx (putF "ends" (.ref e) [("many", .int (n : Int)), ("table", .ref t)])) = H7 at x7 fr7 t7 e7 r7 ⊢
  have lx : l ≠ x := ne_of hl hx (by intro z; cases z)
  have l7 : H7 l = some (.lst xs) := fr7 l _ hl lx
  have row_out : ∀ r ∈ rows, H r = none ∧ r ≠ x ∧ r ≠ t ∧ r ≠ e := fun r hr => ⟨(no5 (hr6 r hr).1).2.2, (no5 (hr6 r hr).1).1, (no5 (hr6 r hr).1).2.1, (hr6 r hr).2.1⟩
  refine s_forL (a := l) (xs := xs) (ev_var rfl) (sq_of l7) (fun i σ' H' => (∃ a b c, σ' = [some (.ref x), some (.int (n : Int)), some (.ref l), a, b, c, none]) ∧ FrX x H H' ∧ H' x = some (.ins (He.ga K "Web") dx [("many", .int (n : Int)), ("table", .ref t), ("ends", .ref e)]) ∧ H' t = some (.dT (tabOf (ts.take i))) ∧ H' e = some (.lst (rows.map V.ref)) ∧ ∀ (k : Nat) (r : Addr), rows[k]? = some r → H' r = some (.lst ((endsAt (ts.take i) k).map fun b : Nat => V.int (b : Int)))) (fun H8 e8 => ⟨⟨none, none, none, rfl⟩, fun b o hb hne => e8 _ _ (fr7 b o hb hne), e8 _ _ x7, e8 _ _ t7, e8 _ _ e7, fun k r hk => e8 _ _ (r7 r (List.mem_of_getElem? hk))⟩) (fun i σ' H' _ pv => sq_of (pv.2.1 l _ hl lx)) (fun i v σ' H' hv pv => ?hs) (fun σ' H' pv => ?hd)
  case hd =>
    obtain ⟨_, p1, p2, p3, p4, p5⟩ := pv
    rw [hts.1, List.take_length] at p3
    refine hq H' p1 ⟨dx, t, e, rows, p2, p3, p4, hn6, fun k r hk => ?_⟩
    have := p5 k r hk
    rw [hts.1, List.take_length] at this
    exact this
  case hs =>
    obtain ⟨⟨a0, b0, c0, rfl⟩, p1, p2, p3, p4, p5⟩ := pv
    obtain ⟨hi, hvi⟩ := List.getElem?_eq_some_iff.mp hv
    have hti : ts[i]? = some (ts[i]'(by rw [← hts.1]; exact hi)) := List.getElem?_eq_getElem _
    generalize ts[i]'(by rw [← hts.1]; exact hi) = u at hti
    obtain ⟨a, b, c⟩ := u
    obtain ⟨q, rfl, hqt⟩ := hts.2 i v _ hv hti
    have hqx : q ≠ x := ne_of hqt hx (by intro z; cases z)
    obtain ⟨lab, lbn⟩ := hok.lt _ (List.mem_of_getElem? hti)
    have lab : a < b := lab
    have lbn : b < n := lbn
    obtain ⟨k1, k2⟩ := new_tab hok hti
    have k1 : ∀ p ∈ tabOf (ts.take i), p.1 ≠ kk a b := k1
    have k2 : ∀ p ∈ tabOf (ts.take i), p.1 ≠ kk b a := k2
    have tl : (tabOf (ts.take i)).length ≤ 2000 := by
      rw [tab_len, List.length_take]
      have := hok.few
      omega
    refine g_triple (by rfl) (st_of (p1 q _ hqt hqx)) ?_
    refine q_when (b := false) (et_is (et_or (et_test (ev_op (ev_var rfl) (ev_var rfl) rv_eqI)) fun _ => et_or (et_test (ev_op (ev_cb (ea_cons (ev_var rfl) (ea_cons (ev_var rfl) ea_nil)) rc_min2) ev_c rv_I0)) fun _ => et_test (ev_op (ev_cb (ea_cons (ev_var rfl) (ea_cons (ev_var rfl) ea_nil)) rc_max2) (ev_var rfl) rv_I0)) ?_) (fun hb => ?_) fun _ H8 e8 => ?_
    · rw [if_neg (by omega), if_pos (by omega), decide_eq_false (by omega), decide_eq_false (by omega), decide_eq_false (by omega)]
      rfl
    · cases hb
    refine q_when (b := (valV (tabOf (ts.take i)) (kk a b)).isSome) (et_B (ev_dinU (xs := [.int (a : Int), .int (b : Int)]) (eu_tup (ea_cons (ev_var rfl) (ea_cons (ev_var rfl) ea_nil)) (by simp)) (ev_fld (ev_var rfl) (e8 _ _ p2) T.k_Web T.na_Web_table rfl) (dg_t (.inl (e8 _ _ p3)) rfl))) (fun hb => ?_) fun _ H9 e9 => ?_
    · rw [valV_none' k1] at hb
      cases hb
    have p2' := e9 _ _ (e8 _ _ p2)
    refine q_dputU (k := kk a b) (xs := [.int (a : Int), .int (b : Int)]) (ev_var rfl) (ev_fld (ev_var rfl) p2' T.k_Web T.na_Web_table rfl) (eu_tup (ea_cons (ev_var rfl) (ea_cons (ev_var rfl) ea_nil)) (by simp)) rfl (e9 _ _ (e8 _ _ p3)) (by omega) fun H10 e10 => ?_
    rw [putK_new _ (valV_none' k1)]
    have tne : ∀ {r : Addr} {k : Nat}, rows[k]? = some r → r ≠ t := fun hk => (row_out _ (List.mem_of_getElem? hk)).2.2.1
    have s1 : ∃ G : Hp, G = upd H10 t (.dT (tabOf (ts.take i) ++ [(kk a b, .int c)])) ∧ G x = some (.ins (He.ga K "Web") dx [("many", .int (n : Int)), ("table", .ref t), ("ends", .ref e)]) ∧ G t = some (.dT (tabOf (ts.take i) ++ [(kk a b, .int c)])) ∧ G e = some (.lst (rows.map V.ref)) ∧ FrX x H G ∧ ∀ (k : Nat) (r : Addr), rows[k]? = some r → G r = some (.lst ((endsAt (ts.take i) k).map fun b : Nat => V.int (b : Int))) := by
      refine ⟨_, rfl, ?_, upd_same, ?_, fun b' o hb hne => ?_, fun k r hk => ?_⟩
      · rw [upd_ne (Ne.symm tx)]
        exact e10 _ _ p2'
      · rw [upd_ne et]
        exact e10 _ _ (e9 _ _ (e8 _ _ p4))
      · rw [upd_ne (ne_of_none hb t0')]
        exact e10 _ _ (e9 _ _ (e8 _ _ (p1 b' o hb hne)))
      · rw [upd_ne (tne hk)]
        exact e10 _ _ (e9 _ _ (e8 _ _ (p5 k r hk)))
    obtain ⟨G, hG, g1, g2, g3, g4, g5⟩ := s1
    rw [← hG]
    refine q_dputU (k := kk b a) (xs := [.int (b : Int), .int (a : Int)]) (ev_var rfl) (ev_fld (ev_var rfl) g1 T.k_Web T.na_Web_table rfl) (eu_tup (ea_cons (ev_var rfl) (ea_cons (ev_var rfl) ea_nil)) (by simp)) rfl g2 (by rw [List.length_append]; show _ + 1 < _; omega) fun H11 e11 => ?_
    have k3 : ∀ p ∈ tabOf (ts.take i) ++ [(kk a b, V.int c)], p.1 ≠ kk b a := fun p hp => by
      rcases List.mem_append.mp hp with hp | hp
      · exact k2 p hp
      · rw [List.mem_singleton] at hp
        subst hp
        intro h
        have := kk_inj h
        omega
    rw [putK_new _ (valV_none' k3)]
    have hts1 : ts.take (i + 1) = ts.take i ++ [(a, b, c)] := take_snoc hti
    have s2 : ∃ G' : Hp, G' = upd H11 t (.dT ((tabOf (ts.take i) ++ [(kk a b, .int c)]) ++ [(kk b a, .int c)])) ∧ G' x = some (.ins (He.ga K "Web") dx [("many", .int (n : Int)), ("table", .ref t), ("ends", .ref e)]) ∧ G' t = some (.dT (tabOf (ts.take (i + 1)))) ∧ G' e = some (.lst (rows.map V.ref)) ∧ FrX x H G' ∧ ∀ (k : Nat) (r : Addr), rows[k]? = some r → G' r = some (.lst ((endsAt (ts.take i) k).map fun b : Nat => V.int (b : Int))) := by
      refine ⟨_, rfl, ?_, ?_, ?_, fun b' o hb hne => ?_, fun k r hk => ?_⟩
      · rw [upd_ne (Ne.symm tx)]
        exact e11 _ _ g1
      · rw [upd_same, hts1, tab_snoc]
      · rw [upd_ne et]
        exact e11 _ _ g3
      · rw [upd_ne (ne_of_none hb t0')]
        exact e11 _ _ (g4 b' o hb hne)
      · rw [upd_ne (tne hk)]
        exact e11 _ _ (g5 k r hk)
    obtain ⟨G', hG', f1, f2, f3, f4, f5⟩ := s2
    rw [← hG']
    have ha' : a < rows.length := by omega
    have hb' : b < rows.length := by omega
    have ra : rows[a]? = some rows[a] := List.getElem?_eq_getElem ha'
    have rb : rows[b]? = some rows[b] := List.getElem?_eq_getElem hb'
    generalize rows[a] = pa at ra
    generalize rows[b] = pb at rb
    have pne : pa ≠ pb := fun q => by
      rw [← q] at rb
      have := nd_ix hnd ra rb
      omega
    have at_ : ∀ {k : Nat} {r : Addr}, rows[k]? = some r → (rows.map V.ref)[k]? = some (.ref r) := fun hk => by
      rw [List.getElem?_map, hk]
      rfl
    have elen : ∀ k : Nat, (endsAt (ts.take i) k).length ≤ 2000 := fun k => by
      have : (endsAt (ts.take i) k).length ≤ 2 * (ts.take i).length := by
        generalize ts.take i = us
        induction us with
        | nil => exact Nat.le_refl _
        | cons u r ih =>
          show (((if u.1 = k then [u.2.1] else []) ++ (if u.2.1 = k then [u.1] else [])) ++ endsAt r k).length ≤ 2 * (r.length + 1)
          rw [List.length_append, List.length_append]
          have h1 : (if u.1 = k then [u.2.1] else []).length ≤ 1 := by split <;> simp
          have h2 : (if u.2.1 = k then [u.1] else []).length ≤ 1 := by split <;> simp
          omega
      rw [List.length_take] at this
      have := hok.few
      omega
    refine q_app (l := pa) (xs := (endsAt (ts.take i) a).map fun b : Nat => V.int (b : Int)) (v := .int (b : Int)) (f5 a pa ra) (ev_op (ev_fld (ev_var rfl) f1 T.k_Web T.na_Web_ends rfl) (ev_var rfl) (rv_ixLn (sq_of f3) (at_ ra))) (ev_var rfl) (by rw [List.length_map]; have := elen a; omega) fun H12 e12 => ?_
    obtain ⟨oa1, oa2, oa3, oa4⟩ := row_out pa (List.mem_of_getElem? ra)
    obtain ⟨ob1, ob2, ob3, ob4⟩ := row_out pb (List.mem_of_getElem? rb)
    have s3 : ∃ J : Hp, J = upd H12 pa (.lst (((endsAt (ts.take i) a).map fun b : Nat => V.int (b : Int)) ++ [.int (b : Int)])) ∧ J x = some (.ins (He.ga K "Web") dx [("many", .int (n : Int)), ("table", .ref t), ("ends", .ref e)]) ∧ J t = some (.dT (tabOf (ts.take (i + 1)))) ∧ J e = some (.lst (rows.map V.ref)) ∧ FrX x H J ∧ J pa = some (.lst (((endsAt (ts.take i) a).map fun b : Nat => V.int (b : Int)) ++ [.int (b : Int)])) ∧ ∀ (k : Nat) (r : Addr), rows[k]? = some r → k ≠ a → J r = some (.lst ((endsAt (ts.take i) k).map fun b : Nat => V.int (b : Int))) := by
      refine ⟨_, rfl, ?_, ?_, ?_, fun b' o hb hne => ?_, upd_same, fun k r hk hka => ?_⟩
      · rw [upd_ne (Ne.symm oa2)]
        exact e12 _ _ f1
      · rw [upd_ne (Ne.symm oa3)]
        exact e12 _ _ f2
      · rw [upd_ne (Ne.symm oa4)]
        exact e12 _ _ f3
      · rw [upd_ne (ne_of_none hb oa1)]
        exact e12 _ _ (f4 b' o hb hne)
      · rw [upd_ne fun q => hka (nd_ix hnd (hk.trans (congrArg some q)) ra)]
        exact e12 _ _ (f5 k r hk)
    obtain ⟨J, hJ, j1, j2, j3, j4, j5, j6⟩ := s3
    rw [← hJ]
    refine s_app (l := pb) (xs := (endsAt (ts.take i) b).map fun b : Nat => V.int (b : Int)) (v := .int (a : Int)) (j6 b pb rb (by omega)) (ev_op (ev_fld (ev_var rfl) j1 T.k_Web T.na_Web_ends rfl) (ev_var rfl) (rv_ixLn (sq_of j3) (at_ rb))) (ev_var rfl) (by rw [List.length_map]; have := elen b; omega) fun H13 e13 => ?_
    refine ⟨⟨_, _, _, rfl⟩, fun b' o hb hne => ?_, ?_, ?_, ?_, fun k r hk => ?_⟩
    · rw [upd_ne (ne_of_none hb ob1)]
      exact e13 _ _ (j4 b' o hb hne)
    · rw [upd_ne (Ne.symm ob2)]
      exact e13 _ _ j1
    · rw [upd_ne (Ne.symm ob3)]
      exact e13 _ _ j2
    · rw [upd_ne (Ne.symm ob4)]
      exact e13 _ _ j3
    · rw [hts1, ends_snoc]
      by_cases hkb : k = b
      · subst hkb
        obtain rfl : r = pb := Option.some.inj (hk.symm.trans rb)
        rw [upd_same, if_neg (by show ¬ a = k; omega), if_pos rfl, List.map_append]
        rfl
      · rw [upd_ne fun q => hkb (nd_ix hnd (hk.trans (congrArg some q)) rb)]
        by_cases hka : k = a
        · subst hka
          obtain rfl : r = pa := Option.some.inj (hk.symm.trans ra)
          rw [if_pos rfl, if_neg (by show ¬ b = k; omega), List.map_append]
          exact e13 _ _ j5
        · rw [if_neg (by show ¬ a = k; omega), if_neg (by show ¬ b = k; omega), List.append_nil, List.append_nil]
          exact e13 _ _ (j6 k r hk hka)
end
end KD
set_option maxHeartbeats 2000000
/-! webs: what they tell -/
namespace KD
open PySem PySem.Spec PyProof.Rows L2 Evl
def rowsK (ps : List Tie) : List (List Key × V) := ps.map fun t => (kk t.1 t.2.1, .int t.2.2)
def both (ts : List Tie) : List Tie := ts.flatMap fun t => [t, (t.2.1, t.1, t.2.2)]
theorem tab_rows (ts : List Tie) : tabOf ts = rowsK (both ts) := by
  unfold tabOf rowsK both
  rw [List.map_flatMap]
  rfl
theorem both_up {n : Nat} {ts : List Tie} (h : TiesOk n ts) : (both ts).filter (fun t => decide (t.1 < t.2.1)) = ts := by
  have : ∀ us : List Tie, (∀ t ∈ us, t.1 < t.2.1) → (both us).filter (fun t => decide (t.1 < t.2.1)) = us := by
    intro us
    induction us with
    | nil => intro _; rfl
    | cons t r ih =>
      intro hl
      have h1 := hl t (List.mem_cons_self ..)
      show (t :: (t.2.1, t.1, t.2.2) :: both r).filter (fun t => decide (t.1 < t.2.1)) = t :: r
      rw [List.filter_cons, if_pos (decide_eq_true h1), List.filter_cons, if_neg (by simp; omega), ih fun u hu => hl u (List.mem_cons_of_mem _ hu)]
  exact this ts fun t ht => (h.lt t ht).1
section
variable {P : Program} {w : World} {K : PySem.W.Frag} {mg : Str → Option Value} {base : Heap}
theorem walk_itemsT {d : Addr} {o : Obj} {kvs : List (List Key × V)} : Walk (ItiT d o kvs) kvs.length (fun H => H d = some (.frz o (.dT kvs)))
    (fun i H x H' => ∃ T q k v, kvs[i]? = some (k, v) ∧ x = .ref T ∧ H q = some (.tup (k.map kV)) ∧ H T = none ∧ H' = upd H T (.tup [.ref q, v])) :=
  ⟨fun _ _ hi q => ⟨q, hi⟩, fun _ q => ⟨q, Nat.le_refl _⟩, fun _ _ _ _ _ _ y => y⟩
/-- the tuples made of a table's items, those that keep lets through -/
theorem ep_lcItems {σ : L2.St} {H : Hp} {td : TE} {g : TG} {tt : TT} {te : TE} {vs : List Nat} {d : Addr} (ps : List Tie) (keep : Tie → Bool) (hd : H d = some (.dT (rowsK ps))) (hz : ps.length ≤ 4000)
    (htd : ∀ H1 od, Ex H H1 → Ev td σ (upd H1 d (.frz od (.dT (rowsK ps)))) (.ref d))
    (hs : ∀ (p : Tie) (q T : Addr) (H2 : Hp), H2 q = some (.tup [.int (p.1 : Int), .int (p.2.1 : Int)]) → H2 T = some (.tup [.ref q, .int p.2.2]) → ∀ R : L2.St → Hp → Prop, (∀ σ2, wipe σ2 vs = wipe σ vs → EvT tt σ2 H2 (keep p) → EvU te σ2 H2 (tieV p) → R σ2 H2) → g (.ref T) (wipe σ vs) H2 R) :
    EvP (tLockE (tLc (iItemsT td) g tt te vs)) σ H fun v H' => ∃ (Dl : Addr) (ys : List V), v = .ref Dl ∧ H Dl = none ∧ H' Dl = some (.lst ys) ∧ TieRows H' ys (ps.filter keep) := fun H1 e1 Q k => by
  have hd1 := e1 _ _ hd
  refine ⟨d, _, hd1, trivial, fun od => ?_⟩
  refine htd H1 od e1 _ (Ex.refl _) _ fun H2 e2 => ⟨d, od, rowsK ps, rfl, e2 _ _ upd_same, fun Dl hD => ?_⟩
  have hdD : Dl ≠ d := fun q => by
    rw [q, e2 _ _ upd_same] at hD
    cases hD
  have hlen : (rowsK ps).length = ps.length := List.length_map _
  refine lc_it walk_itemsT (fun i H' => Ex H2 H' ∧ H' d = some (.frz od (.dT (rowsK ps))) ∧ ∃ ys, H' Dl = some (.lst ys) ∧ TieRows H' ys ((ps.take i).filter keep)) ⟨Ex.new hD, Ex.new hD _ _ (e2 _ _ upd_same), [], upd_same, rfl, fun i v t h => by simp at h⟩ (fun i H' _ pv => pv.2.1) (fun i x H3 H4 hi pv yv => ?_) fun H' pv => ?_
  · obtain ⟨pe, pd, ys, pl, pr⟩ := pv
    obtain ⟨T, q, k0, v0, hkv, rfl, hq, hT, rfl⟩ := yv
    have hi' : i < ps.length := by omega
    have hpi : ps[i]? = some ps[i] := List.getElem?_eq_getElem hi'
    generalize ps[i] = p at hpi
    have : (rowsK ps)[i]? = some (kk p.1 p.2.1, .int p.2.2) := by
      unfold rowsK
      rw [List.getElem?_map, hpi]
      rfl
    obtain ⟨rfl, rfl⟩ := Prod.mk.inj (Option.some.inj (hkv.symm.trans this))
    have eN : Ex H3 (upd H3 T (.tup [.ref q, .int p.2.2])) := Ex.new hT
    refine hs p q T _ (eN _ _ hq) upd_same _ fun σ2 hw ht hu => ⟨hw, ?_⟩
    refine ht _ (Ex.refl _) _ fun H5 e5 => ?_
    have q5 := eN.trans e5
    have lenys : ys.length ≤ 4000 := by
      rw [pr.1]
      have h1 := List.length_filter_le keep (ps.take i)
      have h2 := List.length_take_le i ps
      have h3 : (ps.take i).length ≤ ps.length := by rw [List.length_take]; omega
      omega
    cases hkp : keep p with
    | false =>
      show _ ∧ _
      refine ⟨pe.trans q5, q5 _ _ pd, ys, q5 _ _ pl, ?_⟩
      rw [take_snoc hpi, List.filter_append, List.filter_cons, if_neg (by rw [hkp]; decide)]
      show TieRows H5 ys (_ ++ [])
      rw [List.append_nil]
      exact pr.mono q5
    | true =>
      simp only [if_true]
      refine hu H5 e5 _ fun p5 H6 hp5 e6 h6 => ?_
      have q6 := q5.trans e6
      have hD6 : H6 Dl = some (.lst ys) := q6 _ _ pl
      refine ⟨ys, hD6, sz_lt (by omega), Ex.mut (pe.trans q6) hD, ?_, ys ++ [.ref p5], upd_same, ?_⟩
      · rw [upd_ne (Ne.symm hdD)]
        exact q6 _ _ pd
      · rw [take_snoc hpi, List.filter_append, List.filter_cons, if_pos hkp]
        show TieRows _ (ys ++ [.ref p5]) ((ps.take i).filter keep ++ [p])
        have npl : ∀ {b : Addr} {o : List V}, H6 b = some (.tup o) → b ≠ Dl := fun hb => ne_of hb hD6 (by intro z; cases z)
        refine ⟨by rw [List.length_append, List.length_append, pr.1]; rfl, fun j v t hv ht' => ?_⟩
        by_cases hj : j < ys.length
        · rw [List.getElem?_append_left hj] at hv
          rw [List.getElem?_append_left (by rw [← pr.1]; exact hj)] at ht'
          obtain ⟨q', e', h'⟩ := pr.2 j v t hv ht'
          have h7 := q6 _ _ h'
          exact ⟨q', e', by rw [upd_ne (npl h7)]; exact h7⟩
        · have hj2 : j = ys.length := by
            have := (List.getElem?_eq_some_iff.mp hv).1
            rw [List.length_append] at this
            simp at this
            omega
          subst hj2
          rw [List.getElem?_append_right (Nat.le_refl _), Nat.sub_self] at hv
          rw [List.getElem?_append_right (by rw [pr.1]; exact Nat.le_refl _), pr.1, Nat.sub_self] at ht'
          cases hv
          cases ht'
          exact ⟨p5, rfl, by rw [upd_ne (npl h6)]; exact h6⟩
  · obtain ⟨pe, pd, ys, pl, pr⟩ := pv
    rw [hlen, List.take_length] at pr
    refine ⟨pd, k _ _ (ex_unlock hd1 (e2.trans pe)) ⟨Dl, ys, rfl, ?_, ?_, pr.1, fun i v t hv ht => ?_⟩⟩
    · cases ho : H Dl with
      | none => rfl
      | some o =>
        have h1 := e1 _ _ ho
        have h2 : (upd H1 d (.frz od (.dT (rowsK ps)))) Dl = some o := by
          rw [upd_ne hdD]
          exact h1
        rw [e2 _ _ h2] at hD
        cases hD
    · rw [upd_ne hdD]
      exact pl
    · obtain ⟨q', e', h'⟩ := pr.2 i v t hv ht
      exact ⟨q', e', by rw [upd_ne (ne_of h' pd (by intro z; cases z))]; exact h'⟩
/-! ### sorted ties -/
def i3 (t : Tie) : I3 := ((t.1 : Int), (t.2.1 : Int), t.2.2)
def Srt3 (us : List Tie) : Prop := us.Pairwise fun p q => lex3 (i3 q) (i3 p) = false
def keyV (H : Hp) : V → I3
  | .ref q => match H q with
    | some (.tup [.int a, .int b, .int c]) => (a, b, c)
    | _ => (0, 0, 0)
  | _ => (0, 0, 0)
def tieOf (p : I3) : Tie := (p.1.toNat, p.2.1.toNat, p.2.2)
theorem tieOf_i3 (t : Tie) : tieOf (i3 t) = t := by
  obtain ⟨a, b, c⟩ := t
  rfl
theorem key_row {H : Hp} {v : V} {t : Tie} (h : TieRow H v t) : keyV H v = i3 t := by
  obtain ⟨q, rfl, hq⟩ := h
  unfold keyV
  simp only [hq, tieV]
  rfl
theorem rcp_sort3 {H : Hp} {p : Addr} {xs : List V} {ts : List Tie} (h : SqL K H p xs) (hr : TieRows H xs ts) : RCP (rSort3 K) [.ref p] H fun v H' => ∃ (r : Addr) (ys : List V) (us : List Tie), v = .ref r ∧ H r = none ∧ H' r = some (.lst ys) ∧ us.Perm ts ∧ Srt3 us ∧ TieRows H' ys us := fun H1 e1 Q k => by
  have hr1 := hr.mono e1
  have row : ∀ x ∈ xs, ∃ t ∈ ts, TieRow H1 x t := fun x hx => by
    obtain ⟨i, hi, e⟩ := List.getElem_of_mem hx
    have h1 : xs[i]? = some x := by rw [List.getElem?_eq_getElem hi, e]
    have h2 : ts[i]? = some (ts[i]'(by rw [← hr.1]; exact hi)) := List.getElem?_eq_getElem _
    exact ⟨_, List.mem_of_getElem? h2, hr1.2 i x _ h1 h2⟩
  refine ⟨p, xs, keyV H1, rfl, ex_l e1 h, fun x hx => ?_, fun ys r hp hs hn => ?_⟩
  · obtain ⟨t, _, ht⟩ := row x hx
    rw [key_row ht]
    exact ht
  · have hts : xs.map (fun x => tieOf (keyV H1 x)) = ts := by
      refine List.ext_getElem? fun i => ?_
      rw [List.getElem?_map]
      by_cases hi : i < xs.length
      · have h1 : xs[i]? = some xs[i] := List.getElem?_eq_getElem hi
        have h2 : ts[i]? = some (ts[i]'(by rw [← hr.1]; exact hi)) := List.getElem?_eq_getElem _
        rw [h1, h2]
        show some (tieOf (keyV H1 xs[i])) = _
        rw [key_row (hr1.2 i _ _ h1 h2), tieOf_i3]
      · rw [List.getElem?_eq_none (by omega), List.getElem?_eq_none (by rw [← hr.1]; omega)]
        rfl
    refine k (.ref r) _ (Ex.new hn) ⟨r, ys, ys.map fun x => tieOf (keyV H1 x), rfl, fresh_back e1 hn, upd_same, ?_, ?_, by rw [List.length_map], fun i v t hv ht => ?_⟩
    · rw [← hts]
      exact hp.map _
    · unfold Srt3
      rw [List.pairwise_map]
      refine hs.imp_of_mem fun {a b} ha hb hab => ?_
      obtain ⟨ta, _, ra⟩ := row a (hp.mem_iff.mp ha)
      obtain ⟨tb, _, rb⟩ := row b (hp.mem_iff.mp hb)
      rw [key_row ra, key_row rb] at hab ⊢
      rw [tieOf_i3, tieOf_i3]
      exact hab
    · rw [List.getElem?_map, hv] at ht
      obtain rfl := Option.some.inj ht
      obtain ⟨ta, _, ra⟩ := row v (hp.mem_iff.mp (List.mem_of_getElem? hv))
      show TieRow _ v (tieOf (keyV H1 v))
      rw [key_row ra, tieOf_i3]
      obtain ⟨q, e, hq⟩ := ra
      exact ⟨q, e, Ex.new hn _ _ hq⟩
def sp_Web_size (K : PySem.W.Frag) : Sp := fun vs H Q _ => ∃ (x : Addr) (n : Nat) (ts : List Tie), vs = [.ref x] ∧ WebAt K H x n ts ∧ RV1 (.int (n : Int)) H Q
theorem ok_Web_size (T : Txt w K mg) : Ok P w K mg base CX0 1 ("Web", some "size") ["self"] (sp_Web_size K) := by
  refine ok0 T.f_Web_size sc_Web_size (fun vs H Q E h => by obtain ⟨_, _, _, rfl, _⟩ := h; rfl) (fun _ _ _ _ _ _ us hl => match us, hl with | [_], _ => rfl) fun f cdv A outer s H vs Q E hr h => ?_
  have nd := sc_Web_size.nd
  have hu := hu_of hr
  refine ⟨_, (pss_one (ps_ret (pe_fld (pv 0) rfl))), ?_⟩
  try dsimp only [cxOf, L2.Cx.nox, L2.Cx.blk]
  obtain ⟨x, n, ts, rfl, ⟨dx, t, e, rows, h1, h2, h3, h4, h5⟩, hq⟩ := h
  refine s_ret (v := .int (n : Int)) (ev_fld (ev_var rfl) h1 T.k_Web T.na_Web_many rfl) ?_
  exact fun H' e' => hq H' e'
/-- the ties, sorted -/
def TiesTold (H : Hp) (ts : List Tie) (v : V) (H' : Hp) : Prop := ∃ (r : Addr) (ys : List V) (us : List Tie), v = .ref r ∧ H r = none ∧ H' r = some (.lst ys) ∧ us.Perm ts ∧ Srt3 us ∧ TieRows H' ys us
def sp_Web_ties (K : PySem.W.Frag) : Sp := fun vs H Q _ => ∃ (x : Addr) (n : Nat) (ts : List Tie), vs = [.ref x] ∧ WebAt K H x n ts ∧ TiesOk n ts ∧ ∀ v H', Ex H H' → TiesTold H ts v H' → Q v H'
theorem ok_Web_ties (T : Txt w K mg) : Ok P w K mg base CX0 1 ("Web", some "ties") ["self"] (sp_Web_ties K) := by
  refine ok0 T.f_Web_ties sc_Web_ties (fun vs H Q E h => by obtain ⟨_, _, _, rfl, _⟩ := h; rfl) (fun _ _ _ _ _ _ us hl => match us, hl with | [_], _ => rfl) fun f cdv A outer s H vs Q E hr h => ?_
  have nd := sc_Web_ties.nd
  have hu := hu_of hr
  refine ⟨_, (pss_one (ps_ret (pe_callB (cr_sort3 (K := K)) (by rfl) T.n_sorted (by decide +kernel) (pa_cons (pe_lock (pe_lc (own := [("ends", 1), ("heavy", 2)]) (g := gTup K 2 (gCons (gName 1) (gCons (gName 2) gNil))) rfl nd (pi_itemsT (pe_fld (pv 0) rfl)) (blkOk_by (N := ["self", "ends", "heavy"]) (own := [("ends", 1), ("heavy", 2)]) (sc := defScope s_Web_ties) (by decide +kernel)) (fun _ _ _ _ _ => (pg_tup rfl (pgs_cons (pg_name (i := 1) nd rfl (Or.inl rfl)) (pgs_cons (pg_name (i := 2) nd rfl (Or.inl rfl)) pgs_nil)))) (fun _ _ _ _ _ => (pts_one (pt_cmpR op_lt (pe_ix (ix_tupK (K := K)) (pv 1) pe_int (fun _ _ => rfl)) (pe_ix (ix_tupK (K := K)) (pv 1) pe_int (fun _ _ => rfl)) (nomark _)))) (fun _ _ _ _ _ => (pe_tup (pa_cons (pe_ix (ix_tupK (K := K)) (pv 1) pe_int (fun _ _ => rfl)) (pa_cons (pe_ix (ix_tupK (K := K)) (pv 1) pe_int (fun _ _ => rfl)) (pa_cons (pv 2) pa_nil))))))) pa_nil)))), ?_⟩
  try dsimp only [cxOf, L2.Cx.nox, L2.Cx.blk]
  obtain ⟨x, n, ts, rfl, ⟨dx, t, e, rows, h1, h2, h3, h4, h5⟩, hok, hq⟩ := h
  rw [tab_rows] at h2
  have hb : (both ts).length ≤ 4000 := by
    have h6 := tab_len ts
    rw [tab_rows] at h6
    unfold rowsK at h6
    rw [List.length_map] at h6
    have := hok.few
    omega
  have xt : ∀ {H1 : Hp} {od : Obj} {u : HO}, Ex H H1 → (upd H1 t (.frz od u)) x = some (.ins (He.ga K "Web") dx [("many", .int (n : Int)), ("table", .ref t), ("ends", .ref e)]) := fun e1 => by
    rw [upd_ne (ne_of h1 h2 (by intro z; cases z))]
    exact e1 _ _ h1
  refine s_retP (Φ := TiesTold H ts) (ep_cbP (ep_lcItems (both ts) (fun p => decide (p.1 < p.2.1)) h2 hb (fun H1 od e1 => ev_fld (ev_var rfl) (xt e1) T.k_Web T.na_Web_table rfl) fun p q T1 H2 hq2 hT R k => ?hs) fun v H1 e1 hv => ?hr) fun v H1 e1 hv => hq v H1 e1 hv
  case hs =>
    refine ⟨T1, _, rfl, st_of hT, rfl, .ref q, _, rfl, .int p.2.2, [], rfl, rfl, ?_⟩
    refine k _ rfl (et_test (ev_op (ev_op (ev_var rfl) ev_c (rv_ixT (st_of hq2) (atI_nat (j := 0) rfl))) (ev_op (ev_var rfl) ev_c (rv_ixT (st_of hq2) (atI_nat (j := 1) rfl))) ?_)) ?_
    · have : decide (p.1 < p.2.1) = decide ((p.1 : Int) < (p.2.1 : Int)) := decide_eq_decide.mpr (by omega)
      rw [this]
      exact rv_I0
    · exact eu_tup (ea_cons (ev_op (ev_var rfl) ev_c (rv_ixT (st_of hq2) (atI_nat (j := 0) rfl))) (ea_cons (ev_op (ev_var rfl) ev_c (rv_ixT (st_of hq2) (atI_nat (j := 1) rfl))) (ea_cons (ev_var rfl) ea_nil))) (Nat.le_of_lt_succ (by show 3 < 100001; decide))
  case hr =>
    obtain ⟨Dl, ys, rfl, _, hl, hr⟩ := hv
    rw [both_up hok] at hr
    refine (rcp_sort3 (sq_of hl) hr).imp fun v2 H2 hv2 => ?_
    obtain ⟨r, ys2, us, q1, q2, q3⟩ := hv2
    exact ⟨r, ys2, us, q1, fresh_back e1 q2, q3⟩
theorem spp_Web_ties {H : Hp} {x : Addr} {n : Nat} {ts : List Tie} (h : WebAt K H x n ts) (hk : TiesOk n ts) : SpP (sp_Web_ties K) [.ref x] H (TiesTold H ts) := fun H1 e Q q E => ⟨x, n, ts, rfl, h.mono e, hk, fun v H2 e2 hv => q v H2 e2 (by
  obtain ⟨r, ys, us, q1, q2, q3⟩ := hv
  exact ⟨r, ys, us, q1, fresh_back e q2, q3⟩)⟩
theorem spv_Web_size {H : Hp} {x : Addr} {n : Nat} {ts : List Tie} (h : WebAt K H x n ts) : SpV (sp_Web_size K) [.ref x] H (.int (n : Int)) := fun H1 e Q q E => ⟨x, n, ts, rfl, h.mono e, q⟩
/-- the weight: told where there is no tie -/
def sp_Web_weight (K : PySem.W.Frag) : Sp := fun vs H Q _ => ∃ (x : Addr) (n : Nat) (ts : List Tie) (a b : Nat), vs = [.ref x, .int (a : Int), .int (b : Int)] ∧ WebAt K H x n ts ∧ RV1 ((valV (tabOf ts) (kk a b)).getD .non) H Q
theorem ok_Web_weight (T : Txt w K mg) : Ok P w K mg base CX0 1 ("Web", some "weight") ["self", "a", "b"] (sp_Web_weight K) := by
  refine ok0 T.f_Web_weight sc_Web_weight (fun vs H Q E h => by obtain ⟨_, _, _, _, _, rfl, _⟩ := h; rfl) (fun _ _ _ _ _ _ us hl => match us, hl with | [_, _, _], _ => rfl) fun f cdv A outer s H vs Q E hr h => ?_
  have nd := sc_Web_weight.nd
  have hu := hu_of hr
  refine ⟨_, (pss_one (ps_ret (pe_dget1 hu (pe_fld (pv 0) rfl) (pe_tup (pa_cons (pv 1) (pa_cons (pv 2) pa_nil))) ⟨rfl, rfl, rfl, rfl⟩))), ?_⟩
  try dsimp only [cxOf, L2.Cx.nox, L2.Cx.blk]
  obtain ⟨x, n, ts, a, b, rfl, ⟨dx, t, e, rows, h1, h2, h3, h4, h5⟩, hq⟩ := h
  refine s_ret (ev_dget1U (o := valV (tabOf ts) (kk a b)) (xs := [.int (a : Int), .int (b : Int)]) (ev_fld (ev_var rfl) h1 T.k_Web T.na_Web_table rfl) (fun H1 e1 => Or.inr ⟨_, .inl (e1 _ _ h2)⟩) (eu_tup (ea_cons (ev_var rfl) (ea_cons (ev_var rfl) ea_nil)) (by simp)) (dg_t (.inl h2) rfl)) ?_
  exact fun H' e' => hq H' e'
/-- the neighbours, sorted -/
def SortOf (us : List Nat) (r : List Nat) : Prop := r.Perm us ∧ r.Pairwise (· ≤ ·)
def NatsAt (H : Hp) (Φ : List Nat → Prop) (v : V) (H' : Hp) : Prop := ∃ (p : Addr) (r : List Nat), v = .ref p ∧ H p = none ∧ H' p = some (.lst (r.map fun b : Nat => V.int (b : Int))) ∧ Φ r
theorem NatsAt.back {H H1 : Hp} {Φ : List Nat → Prop} {v : V} {H' : Hp} (e : Ex H H1) (h : NatsAt H1 Φ v H') : NatsAt H Φ v H' := let ⟨p, r, a, b, c⟩ := h; ⟨p, r, a, fresh_back e b, c⟩
theorem rcp_sortN {H : Hp} {p : Addr} {us : List Nat} (h : SqL K H p (us.map fun b : Nat => V.int (b : Int))) : RCP (rSortedI K) [.ref p] H (NatsAt H (SortOf us)) := fun H1 e1 Q k => by
  refine ⟨p, us.map fun b : Nat => (b : Int), rfl, by rw [List.map_map]; exact ex_l e1 h, fun ns r hp hs hn => ?_⟩
  have nn : ∀ z ∈ ns, 0 ≤ z := fun z hz => by
    obtain ⟨b, _, rfl⟩ := List.mem_map.mp (hp.mem_iff.mp hz)
    omega
  have e : (ns.map Int.toNat).map (fun b : Nat => V.int (b : Int)) = ns.map V.int := by
    rw [List.map_map]
    refine List.map_congr_left fun z hz => ?_
    show V.int ((z.toNat : Nat) : Int) = V.int z
    rw [Int.toNat_of_nonneg (nn z hz)]
  refine k (.ref r) _ (Ex.new hn) ⟨r, ns.map Int.toNat, rfl, fresh_back e1 hn, by rw [upd_same, e], ?_, ?_⟩
  · have := hp.map Int.toNat
    rw [List.map_map] at this
    refine this.trans (List.Perm.of_eq ?_)
    refine (List.map_congr_left fun z _ => ?_).trans (List.map_id _)
    exact Int.toNat_natCast z
  · rw [List.pairwise_map]
    refine hs.imp fun {a b} hab => ?_
    omega
def sp_Web_tied (K : PySem.W.Frag) : Sp := fun vs H Q _ => ∃ (x : Addr) (n : Nat) (ts : List Tie) (a : Nat), vs = [.ref x, .int (a : Int)] ∧ WebAt K H x n ts ∧ a < n ∧ ∀ v H', Ex H H' → NatsAt H (SortOf (endsAt ts a)) v H' → Q v H'
theorem ok_Web_tied (T : Txt w K mg) : Ok P w K mg base CX0 1 ("Web", some "tied") ["self", "a"] (sp_Web_tied K) := by
  refine ok0 T.f_Web_tied sc_Web_tied (fun vs H Q E h => by obtain ⟨_, _, _, _, rfl, _⟩ := h; rfl) (fun _ _ _ _ _ _ us hl => match us, hl with | [_, _], _ => rfl) fun f cdv A outer s H vs Q E hr h => ?_
  have nd := sc_Web_tied.nd
  have hu := hu_of hr
  refine ⟨_, (pss_one (ps_ret (pe_callB cr_sortedI (by rfl) T.n_sorted (by decide +kernel) (pa_cons (pe_ix ix_list (pe_fld (pv 0) rfl) (pv 1) (fun _ _ => rfl)) pa_nil)))), ?_⟩
  try dsimp only [cxOf, L2.Cx.nox, L2.Cx.blk]
  obtain ⟨x, n, ts, a, rfl, ⟨dx, t, e, rows, h1, h2, h3, h4, h5⟩, ha, hq⟩ := h
  have hra : rows[a]? = some (rows[a]'(by omega)) := List.getElem?_eq_getElem _
  generalize rows[a]'(by omega) = r at hra
  refine s_retP (Φ := NatsAt H (SortOf (endsAt ts a))) (ep_cb (ea_cons (ev_op (ev_fld (ev_var rfl) h1 T.k_Web T.na_Web_ends rfl) (ev_var rfl) (rv_ixLn (sq_of h3) (by rw [List.getElem?_map, hra]; rfl))) ea_nil) (rcp_sortN (sq_of (h5 a r hra)))) ?_
  exact fun v H1 e1 hv => hq v H1 e1 hv
theorem spp_Web_tied {H : Hp} {x : Addr} {n a : Nat} {ts : List Tie} (h : WebAt K H x n ts) (hk : a < n) : SpP (sp_Web_tied K) [.ref x, .int (a : Int)] H (NatsAt H (SortOf (endsAt ts a))) := fun H1 e Q q E => ⟨x, n, ts, a, rfl, h.mono e, hk, fun v H2 e2 hv => q v H2 e2 (hv.back e)⟩
end
end KD
set_option maxHeartbeats 2000000
/-! a web without ties: nothing is paired -/
namespace KD
open PySem PySem.Spec PyProof.Rows L2 Evl
section
variable {P : Program} {w : World} {K : PySem.W.Frag} {mg : Str → Option Value} {base : Heap}
def natsV (r : List Nat) : List V := r.map fun b : Nat => V.int (b : Int)
def sp_left (K : PySem.W.Frag) : Sp := fun vs H Q _ => ∃ (x p : Addr) (n : Nat), vs = [.ref x, .ref p] ∧ n ≤ 24 ∧ WebAt K H x n [] ∧ H p = some (.lst []) ∧ RetL (natsV (List.range n)) H Q
theorem ok_left (T : Txt w K mg) : Ok P w K mg base CX0 2 ("left", none) ["web", "pairs"] (sp_left K) := by
  have c_Web_size := ok_Web_size (P := P) (base := base) T
  refine ok0 T.f_left sc_left (fun vs H Q E h => by obtain ⟨_, _, _, rfl, _⟩ := h; rfl) (fun _ _ _ _ _ _ us hl => match us, hl with | [_, _], _ => rfl) fun f cdv A outer s H vs Q E hr h => ?_
  have nd := sc_left.nd
  have hu := hu_of hr
  refine ⟨_, (pss_cons (ps_set (i := 2) nd rfl (Or.inr rfl) pe_dnewK)
 (pss_cons (ps_for PassesOwn.never rfl (pi_list (pv 1)) (pg_tup rfl (pgs_cons (pg_name (i := 3) nd rfl (Or.inl rfl)) (pgs_cons (pg_name (i := 4) nd rfl (Or.inl rfl)) pgs_nil))) (pss_cons (ps_dput hu (pv 2) (pv 3) pe_bl rfl)
 (pss_one (ps_dput hu (pv 2) (pv 4) pe_bl rfl))))
 (pss_one (ps_ret (pe_lc (own := [("a", 3)]) (g := gName 3) rfl nd (pi_range1 (by rfl) T.n_range (pa_cons (pm0 T.k_Web T.m_Web_size c_Web_size hr (by decide) (pv 0)) pa_nil)) (blkOk_by (N := ["web", "pairs", "used", "a", "b"]) (own := [("a", 3)]) (sc := defScope s_left) (by decide +kernel)) (fun _ _ _ _ _ => (pg_name (i := 3) nd rfl (Or.inl rfl))) (fun _ _ _ _ _ => (pts_one (pt_cmp (pc_dnotin hu (pv 3) (pv 2))))) (fun _ _ _ _ _ => (pv 3))))))), ?_⟩
  try dsimp only [cxOf, L2.Cx.nox, L2.Cx.blk]
  obtain ⟨x, p, n, rfl, hn, hw, hp, hq⟩ := h
  refine q_asgP ep_newK fun v H1 e1 hv => ?_
  obtain ⟨d, rfl, d0, d1⟩ := hv
  refine q_forL (xs := []) (ev_var rfl) (sq_of (e1 _ _ hp)) (fun i σ' H' => i = 0 ∧ σ' = [some (.ref x), some (.ref p), some (.ref d), none, none] ∧ Ex H H' ∧ H' d = some (.dK [])) (fun H2 e2 => ⟨rfl, rfl, e1.trans e2, e2 _ _ d1⟩) (fun i σ' H' _ pv => sq_of (pv.2.2.1 _ _ hp)) (fun i v σ' H' hv pv => absurd hv (by simp)) fun σ' H' pv => ?_
  obtain ⟨_, rfl, pe, pd⟩ := pv
  have g := el_lcR (σ := [some (.ref x), some (.ref p), some (.ref d), none, none]) (H := H') (j := 3) (vs := [3]) (k := n) (fun _ => true) (fun i => .int (i : Int)) (ta := tCons (tM (He.ga K "Web") "size" (sp_Web_size K) E0 (tVar 0) tNil) tNil) (t := tB (tDNotIn (tVar 3) (tVar 2))) (te := tVar 3) ?h (by omega) (fun _ => rfl) (fun i H1 e1 hi => ?ht) (fun i H1 e1 hi _ => ev_var rfl)
  case h =>
    obtain ⟨dx, t, e, rows, h1, h2⟩ := hw.mono pe
    exact ea_cons (ev_tM (ev_var rfl) h1 rfl ea_nil (spv_Web_size (hw.mono pe))) ea_nil
  case ht => exact et_B (ev_dnin (ev_var rfl) (ev_var rfl) (dg_k (k := .inl (i : Int)) (kvs := []) (.inl (e1 _ _ pd))))
  rw [filter_yes] at g
  exact s_retL g fun p2 H2 hp2 e2 h2 => hq p2 H2 (fresh_back pe hp2) (pe.trans e2) h2
theorem spl_left {H : Hp} {x p : Addr} {n : Nat} (hn : n ≤ 24) (hw : WebAt K H x n []) (hp : H p = some (.lst [])) : SpL (sp_left K) [.ref x, .ref p] H (natsV (List.range n)) := fun H1 e Q q E => ⟨x, p, n, rfl, hn, hw.mono e, e _ _ hp, q⟩
def sp_partner (K : PySem.W.Frag) : Sp := fun vs H Q _ => ∃ (p : Addr) (v : V), vs = [.ref p, v] ∧ H p = some (.lst []) ∧ RV1 .non H Q
theorem ok_partner (T : Txt w K mg) : Ok P w K mg base CX0 1 ("partner", none) ["pairs", "a"] (sp_partner K) := by
  refine ok0 T.f_partner sc_partner (fun vs H Q E h => by obtain ⟨_, _, rfl, _⟩ := h; rfl) (fun _ _ _ _ _ _ us hl => match us, hl with | [_, _], _ => rfl) fun f cdv A outer s H vs Q E hr h => ?_
  have nd := sc_partner.nd
  have hu := hu_of hr
  refine ⟨_, (pss_cons (ps_for PassesOwn.never rfl (pi_list (pv 0)) (pg_tup rfl (pgs_cons (pg_name (i := 2) nd rfl (Or.inl rfl)) (pgs_cons (pg_name (i := 3) nd rfl (Or.inl rfl)) pgs_nil))) (pss_cons (ps_if (pt_cmpR op_eq (pv 2) (pv 1) (nomark _)) (pss_one (ps_ret (pv 3))) pss_nil)
 (pss_one (ps_if (pt_cmpR op_eq (pv 3) (pv 1) (nomark _)) (pss_one (ps_ret (pv 2))) pss_nil))))
 (pss_one (ps_ret pe_non))), ?_⟩
  try dsimp only [cxOf, L2.Cx.nox, L2.Cx.blk]
  obtain ⟨p, v, rfl, hp, hq⟩ := h
  refine q_forL (xs := []) (ev_var rfl) (sq_of hp) (fun i σ' H' => Ex H H') (fun H2 e2 => e2) (fun i σ' H' _ pv => sq_of (pv _ _ hp)) (fun i v σ' H' hv pv => absurd hv (by simp)) fun σ' H' pv => ?_
  refine s_ret (v := .non) ev_c ?_
  exact fun H2 e2 => hq _ (pv.trans e2)
theorem spv_partner {H : Hp} {p : Addr} {v : V} (hp : H p = some (.lst [])) : SpV (sp_partner K) [.ref p, v] H .non := fun H1 e Q q E => ⟨p, v, rfl, e _ _ hp, q⟩
def sp_grown (K : PySem.W.Frag) : Sp := fun vs H Q _ => ∃ (x p : Addr) (n : Nat), vs = [.ref x, .ref p] ∧ n ≤ 24 ∧ WebAt K H x n [] ∧ H p = some (.lst []) ∧ ∀ (r z : Addr) H', Ex H H' → H' r = some (.tup [.non, .non, .ref z]) → Q (.ref r) H'
theorem ok_grown (T : Txt w K mg) : Ok P w K mg base CX0 3 ("grown", none) ["web", "pairs"] (sp_grown K) := by
  have c_left := ok_left (P := P) (base := base) T
  have c_partner := ok_partner (P := P) (base := base) T
  have c_Web_tied := ok_Web_tied (P := P) (base := base) T
  refine ok0 T.f_grown sc_grown (fun vs H Q E h => by obtain ⟨_, _, _, rfl, _⟩ := h; rfl) (fun _ _ _ _ _ _ us hl => match us, hl with | [_, _], _ => rfl) fun f cdv A outer s H vs Q E hr h => ?_
  have nd := sc_grown.nd
  have hu := hu_of hr
  refine ⟨_, (pss_cons (ps_set (i := 2) nd rfl (Or.inl rfl) pe_dnewK)
 (pss_cons (ps_set (i := 3) nd rfl (Or.inl rfl) (pc c_left hr (by decide) T.g_left (pa_cons (pv 0) (pa_cons (pv 1) pa_nil))))
 (pss_cons (ps_for PassesOwn.never rfl (pi_list (pc c_left hr (by decide) T.g_left (pa_cons (pv 0) (pa_cons (pv 1) pa_nil)))) (pg_name (i := 4) nd rfl (Or.inl rfl)) (pss_one (ps_dput hu (pv 2) (pv 4) (pe_lst (pa_cons (pv 4) pa_nil)) rfl)))
 (pss_cons (ps_set (i := 5) nd rfl (Or.inl rfl) pe_int)
 (pss_cons (ps_while PassesOwn.never (pt_cmpR op_lt (pv 5) (pe_callB call_len_seq (by rfl) T.n_len (by decide +kernel) (pa_cons (pv 3) pa_nil)) (nomark _)) (pss_cons (ps_set (i := 4) nd rfl (Or.inl rfl) (pe_ix ix_list (pv 3) (pv 5) (fun _ _ => rfl)))
 (pss_cons (ps_for PassesOwn.never rfl (pi_list (pm T.k_Web T.m_Web_tied c_Web_tied hr (by decide) (pv 0) (pa_cons (pv 4) pa_nil))) (pg_name (i := 6) nd rfl (Or.inl rfl)) (pss_one ps_never))
 (pss_one (ps_aug (i := 5) nd rfl (Or.inl rfl) pe_int ip_add)))))
 (pss_one (ps_ret (pe_tup (pa_cons pe_non (pa_cons pe_non (pa_cons (pv 3) pa_nil))))))))))), ?_⟩
  try dsimp only [cxOf, L2.Cx.nox, L2.Cx.blk]
  obtain ⟨x, p, n, rfl, hn, hw, hp, hq⟩ := h
  refine q_asgP ep_newK fun v H1 e1 hv => ?_
  obtain ⟨d, rfl, d0, d1⟩ := hv
  refine q_asgL (el_tC (ea_cons (ev_var rfl) (ea_cons (ev_var rfl) ea_nil)) (spl_left hn (hw.mono e1) (e1 _ _ hp))) fun z H2 z0 e2 hz => ?_
  have e12 := e1.trans e2
  have zd : z ≠ d := ne_of hz (e2 _ _ d1) (by intro z; cases z)
  have z0' := fresh_back e1 z0
  refine q_forNLn (xs := natsV (List.range n)) (el_tC (ea_cons (ev_var rfl) (ea_cons (ev_var rfl) ea_nil)) (spl_left hn (hw.mono e12) (e12 _ _ hp))) (fun q i σ' H' => (∃ a, σ' = [some (.ref x), some (.ref p), some (.ref d), some (.ref z), a, none, none, none]) ∧ Ex H H' ∧ H' q = some (.lst (natsV (List.range n))) ∧ H' z = some (.lst (natsV (List.range n))) ∧ ∃ kvs, H' d = some (.dK kvs) ∧ kvs.length ≤ i) (fun q H3 q0 e3 h3 => ⟨⟨none, rfl⟩, e12.trans e3, h3, e3 _ _ hz, [], e3 _ _ (e2 _ _ d1), Nat.le_refl _⟩) (fun q i σ' H' _ pv => sq_of pv.2.2.1) (fun q i v σ' H' hv pv => ?hs) fun q σ' H' pv => ?_
  case hs =>
    obtain ⟨⟨a0, rfl⟩, pe, pq, pz, kvs, pd, pl⟩ := pv
    have hi : i < n := by
      have := (List.getElem?_eq_some_iff.mp hv).1
      unfold natsV at this
      rw [List.length_map, List.length_range] at this
      exact this
    obtain ⟨j, rfl⟩ : ∃ j : Nat, v = .int (j : Int) := by
      unfold natsV at hv
      rw [List.getElem?_map] at hv
      obtain ⟨j, _, e⟩ := Option.map_eq_some_iff.mp hv
      exact ⟨j, e.symm⟩
    refine s_dputKP (k := .inl (j : Int)) (kvs := kvs) (EvL.p (el_lst (ea_cons (ev_var rfl) ea_nil) (by simp))) (fun _ _ => ev_var rfl) (fun _ _ => ev_var rfl) rfl pd (by omega) fun v H3 e3 => ?_
    have nd' : ∀ {b : Addr} {o : List V}, H' b = some (.lst o) → (upd H3 d (.dK (putK kvs (.inl (j : Int)) v))) b = some (.lst o) := fun hb => by
      rw [upd_ne (ne_of hb pd (by intro z; cases z))]
      exact e3 _ _ hb
    refine ⟨⟨_, rfl⟩, Ex.mut (pe.trans e3) d0, nd' pq, nd' pz, _, upd_same, ?_⟩
    have := putK_le kvs (.inl (j : Int)) v
    omega
  obtain ⟨⟨a0, rfl⟩, pe, pq, pz, kvs, pd, pl⟩ := pv
  refine q_asg (v := .int 0) ev_c fun H4 e4 => ?_
  have e4' := pe.trans e4
  have hz4 := e4 _ _ pz
  refine q_while (fun m σ' H' => ∃ (k : Nat) (a b c : Option V), σ' = [some (.ref x), some (.ref p), some (.ref d), some (.ref z), a, some (.int (k : Int)), b, c] ∧ m = n - k ∧ k ≤ n ∧ Ex H4 H') n ⟨0, a0, none, none, rfl, rfl, Nat.zero_le _, Ex.refl _⟩ fun m σ' H' hW => ?_
  obtain ⟨k, a, b, c, rfl, rfl, hk, e5⟩ := hW
  have hz5 := e5 _ _ hz4
  have lenz : (natsV (List.range n)).length = n := by
    unfold natsV
    rw [List.length_map, List.length_range]
  refine ⟨decide ((k : Int) < ((natsV (List.range n)).length : Int)), et_test (ev_op (ev_var rfl) (ev_cb (ea_cons (ev_var rfl) ea_nil) (rc_len (sq_of hz5))) rv_I0), fun hb H6 e6 => ?_, fun hb H6 e6 => ?_⟩
  · have hb := of_decide_eq_true hb
    rw [lenz] at hb
    have hkn : k < n := by omega
    refine ⟨fun σ' H' => ∃ (a b c : Option V), σ' = [some (.ref x), some (.ref p), some (.ref d), some (.ref z), a, some (.int ((k + 1 : Nat) : Int)), b, c] ∧ Ex H4 H', fun σ2 H2 h2 => ?_, ?_⟩
    · obtain ⟨a', b', c', rfl, e'⟩ := h2
      exact ⟨n - (k + 1), by omega, k + 1, a', b', c', rfl, rfl, by omega, e'⟩
    refine q_asg (v := .int (k : Int)) (ev_op (ev_var rfl) (ev_var rfl) (rv_ixLn (sq_of (e6 _ _ hz5)) ?_)) fun H7 e7 => ?_
    · unfold natsV
      rw [List.getElem?_map, List.getElem?_range hkn]
      rfl
    have e47 := (e5.trans e6).trans e7
    refine q_for0 ?_ fun H8 e8 => ?_
    · have hw7 := hw.mono (e4'.trans e47)
      have hw8 := hw7
      obtain ⟨dx, t, e, rows, h1, h2⟩ := hw7
      refine EvP.imp (ep_tM (ev_var rfl) h1 rfl (ea_cons (ev_var rfl) ea_nil) (spp_Web_tied hw8 hkn)) fun v H9 e9 hv => ?_
      obtain ⟨q, r, rfl, _, hq', hr⟩ := hv
      have : r = [] := hr.1.eq_nil
      rw [this] at hq'
      exact ⟨q, rfl, hq'⟩
    · refine s_aug (a := (k : Int)) (b := 1) rfl ev_c fun H9 e9 => ?_
      exact ⟨_, _, _, rfl, (e47.trans e8).trans e9⟩
  · refine s_retU (xs := [.non, .non, .ref z]) (eu_tup (ea_cons ev_c (ea_cons ev_c (ea_cons (ev_var rfl) ea_nil))) (by simp)) fun r H7 r0 e7 h7 => ?_
    exact hq r z H7 ((e4'.trans (e5.trans e6)).trans e7) h7
end
end KD
set_option maxHeartbeats 2000000
/-! better .. kinds of a web without ties -/
namespace KD
open PySem PySem.Spec PyProof.Rows L2 Evl
section
variable {P : Program} {w : World} {K : PySem.W.Frag} {mg : Str → Option Value} {base : Heap}
def sp_better (K : PySem.W.Frag) : Sp := fun vs H Q _ => ∃ (x p : Addr) (n : Nat), vs = [.ref x, .ref p] ∧ n ≤ 24 ∧ WebAt K H x n [] ∧ H p = some (.lst []) ∧ RV1 .non H Q
theorem ok_better (T : Txt w K mg) : Ok P w K mg base CX0 4 ("better", none) ["web", "pairs"] (sp_better K) := by
  have c_grown := ok_grown (P := P) (base := base) T
  refine ok0 T.f_better sc_better (fun vs H Q E h => by obtain ⟨_, _, _, rfl, _⟩ := h; rfl) (fun _ _ _ _ _ _ us hl => match us, hl with | [_, _], _ => rfl) fun f cdv A outer s H vs Q E hr h => ?_
  have nd := sc_better.nd
  have hu := hu_of hr
  refine ⟨_, (pss_cons (ps_asg (pc c_grown hr (by decide) T.g_grown (pa_cons (pv 0) (pa_cons (pv 1) pa_nil))) (pg_tup rfl (pgs_cons (pg_name (i := 2) nd rfl (Or.inl rfl)) (pgs_cons (pg_name (i := 3) nd rfl (Or.inl rfl)) (pgs_cons (pg_name (i := 4) nd rfl (Or.inl rfl)) pgs_nil)))))
 (pss_cons (ps_if (pt_cmpR op_isN (pv 2) pe_non (nomark _)) (pss_one (ps_ret pe_non)) pss_nil)
 (pss_cons ps_never
 (pss_cons ps_never
 (pss_cons ps_never
 (pss_cons ps_never
 (pss_one ps_never))))))), ?_⟩
  try dsimp only [cxOf, L2.Cx.nox, L2.Cx.blk]
  obtain ⟨x, p, n, rfl, hn, hw, hp, hq⟩ := h
  refine q_asgTP (Φ := fun v H1 => ∃ r z, v = .ref r ∧ H1 r = some (.tup [.non, .non, .ref z])) (ep_tC (ea_cons (ev_var rfl) (ea_cons (ev_var rfl) ea_nil)) fun H1 e1 Q1 k E1 => ⟨x, p, n, rfl, hn, hw.mono e1, e1 _ _ hp, fun r z H2 e2 h2 => k _ _ e2 ⟨r, z, rfl, h2⟩⟩) fun v H1 e1 hv => ?_
  obtain ⟨r, z, rfl, hr1⟩ := hv
  refine ⟨r, _, rfl, st_of hr1, rfl, .non, _, rfl, .non, _, rfl, .ref z, _, rfl, rfl, ?_⟩
  refine q_when (b := true) (et_is (et_test (ev_op (ev_var rfl) ev_c rv_isN)) rfl) (fun _ H2 e2 => ?_) fun hb => ?_
  · refine s_ret (v := .non) ev_c ?_
    exact fun H3 e3 => hq _ ((e1.trans e2).trans e3)
  · cases hb
theorem spv_better {H : Hp} {x p : Addr} {n : Nat} (hn : n ≤ 24) (hw : WebAt K H x n []) (hp : H p = some (.lst [])) : SpV (sp_better K) [.ref x, .ref p] H .non := fun H1 e Q q E => ⟨x, p, n, rfl, hn, hw.mono e, e _ _ hp, q⟩
def sp_most (K : PySem.W.Frag) : Sp := fun vs H Q _ => ∃ (x : Addr) (n : Nat), vs = [.ref x] ∧ n ≤ 24 ∧ WebAt K H x n [] ∧ RetL [] H Q
theorem ok_most (T : Txt w K mg) : Ok P w K mg base CX0 5 ("most", none) ["web"] (sp_most K) := by
  have c_better := ok_better (P := P) (base := base) T
  refine ok0 T.f_most sc_most (fun vs H Q E h => by obtain ⟨_, _, rfl, _⟩ := h; rfl) (fun _ _ _ _ _ _ us hl => match us, hl with | [_], _ => rfl) fun f cdv A outer s H vs Q E hr h => ?_
  have nd := sc_most.nd
  have hu := hu_of hr
  refine ⟨_, (pss_cons (ps_set (i := 1) nd rfl (Or.inl rfl) (pe_lst pa_nil))
 (pss_cons (ps_set (i := 2) nd rfl (Or.inl rfl) (pc c_better hr (by decide) T.g_better (pa_cons (pv 0) (pa_cons (pv 1) pa_nil))))
 (pss_cons (ps_while PassesOwn.never (pt_cmpR op_notN (pv 2) pe_non (nomark _)) (pss_cons ps_never
 (pss_one ps_never)))
 (pss_one (ps_ret (pv 1)))))), ?_⟩
  try dsimp only [cxOf, L2.Cx.nox, L2.Cx.blk]
  obtain ⟨x, n, rfl, hn, hw, hq⟩ := h
  refine q_asgL (el_lst ea_nil (by simp)) fun p H1 p0 e1 hp => ?_
  refine q_asg (v := .non) (ev_tC (ea_cons (ev_var rfl) (ea_cons (ev_var rfl) ea_nil)) (spv_better hn (hw.mono e1) hp)) fun H2 e2 => ?_
  refine q_while (fun m σ' H' => σ' = [some (.ref x), some (.ref p), some .non] ∧ Ex H2 H') 0 ⟨rfl, Ex.refl _⟩ fun m σ' H' hW => ?_
  obtain ⟨rfl, e3⟩ := hW
  refine ⟨false, et_is (et_test (ev_op (ev_var rfl) ev_c rv_notN)) rfl, fun hb => (by cases hb), fun _ H4 e4 => ?_⟩
  refine s_ret (v := .ref p) (ev_var rfl) ?_
  exact fun H5 e5 => hq p H5 p0 ((((e1.trans e2).trans e3).trans e4).trans e5) (e5 _ _ (e4 _ _ (e3 _ _ (e2 _ _ hp))))
theorem spl_most {H : Hp} {x : Addr} {n : Nat} (hn : n ≤ 24) (hw : WebAt K H x n []) : SpL (sp_most K) [.ref x] H [] := fun H1 e Q q E => ⟨x, n, rfl, hn, hw.mono e, q⟩
def sp_spared_from (K : PySem.W.Frag) : Sp := fun vs H Q _ => ∃ (x p : Addr) (n : Nat) (v : V), vs = [.ref x, .ref p, v] ∧ WebAt K H x n [] ∧ H p = some (.lst []) ∧ RV1 (.ref p) H Q
theorem ok_spared_from (T : Txt w K mg) : Ok P w K mg base CX0 2 ("spared_from", none) ["web", "pairs", "a"] (sp_spared_from K) := by
  have c_partner := ok_partner (P := P) (base := base) T
  refine ok0 T.f_spared_from sc_spared_from (fun vs H Q E h => by obtain ⟨_, _, _, _, rfl, _⟩ := h; rfl) (fun _ _ _ _ _ _ us hl => match us, hl with | [_, _, _], _ => rfl) fun f cdv A outer s H vs Q E hr h => ?_
  have nd := sc_spared_from.nd
  have hu := hu_of hr
  refine ⟨_, (pss_cons (ps_if (pt_cmpR op_isN (pc c_partner hr (by decide) T.g_partner (pa_cons (pv 1) (pa_cons (pv 2) pa_nil))) pe_non (nomark _)) (pss_one (ps_ret (pv 1))) pss_nil)
 (pss_cons ps_never
 (pss_cons ps_never
 (pss_cons ps_never
 (pss_one ps_never))))), ?_⟩
  try dsimp only [cxOf, L2.Cx.nox, L2.Cx.blk]
  obtain ⟨x, p, n, v, rfl, hw, hp, hq⟩ := h
  refine q_when (b := true) (et_is (et_test (ev_op (ev_tC (ea_cons (ev_var rfl) (ea_cons (ev_var rfl) ea_nil)) (spv_partner hp)) ev_c rv_isN)) rfl) (fun _ H2 e2 => ?_) fun hb => ?_
  · refine s_ret (v := .ref p) (ev_var rfl) ?_
    exact fun H3 e3 => hq _ (e2.trans e3)
  · cases hb
theorem spv_spared {H : Hp} {x p : Addr} {n : Nat} {v : V} (hw : WebAt K H x n []) (hp : H p = some (.lst [])) : SpV (sp_spared_from K) [.ref x, .ref p, v] H (.ref p) := fun H1 e Q q E => ⟨x, p, n, v, rfl, hw.mono e, e _ _ hp, q⟩
def sp_kinds (K : PySem.W.Frag) : Sp := fun vs H Q _ => ∃ (x : Addr) (n : Nat), vs = [.ref x] ∧ n ≤ 24 ∧ WebAt K H x n [] ∧ ∀ (r a b c : Addr) H', Ex H H' → H' r = some (.tup [.ref a, .ref b, .ref c]) → H' b = some (.lst []) → Q (.ref r) H'
theorem ok_kinds (T : Txt w K mg) : Ok P w K mg base CX0 6 ("kinds", none) ["web"] (sp_kinds K) := by
  have c_most := ok_most (P := P) (base := base) T
  have c_spared_from := ok_spared_from (P := P) (base := base) T
  have c_Web_size := ok_Web_size (P := P) (base := base) T
  refine ok0 T.f_kinds sc_kinds (fun vs H Q E h => by obtain ⟨_, _, rfl, _⟩ := h; rfl) (fun _ _ _ _ _ _ us hl => match us, hl with | [_], _ => rfl) fun f cdv A outer s H vs Q E hr h => ?_
  have nd := sc_kinds.nd
  have hu := hu_of hr
  refine ⟨_, (pss_cons (ps_set (i := 1) nd rfl (Or.inr rfl) (pc c_most hr (by decide) T.g_most (pa_cons (pv 0) pa_nil)))
 (pss_cons (ps_set (i := 2) nd rfl (Or.inr rfl) (pe_lc (own := [("a", 5)]) (g := gName 5) rfl nd (pi_range1 (by rfl) T.n_range (pa_cons (pm0 T.k_Web T.m_Web_size c_Web_size hr (by decide) (pv 0)) pa_nil)) (blkOk_by (N := ["web", "pairs", "spare", "beside", "rest", "a", "b"]) (own := [("a", 5)]) (sc := defScope s_kinds) (by decide +kernel)) (fun _ _ _ _ _ => (pg_name (i := 5) nd rfl (Or.inl rfl))) (fun _ _ _ _ _ => (pts_one (pt_cmpR op_notN (pc c_spared_from hr (by decide) T.g_spared_from (pa_cons (pv 0) (pa_cons (pv 1) (pa_cons (pv 5) pa_nil)))) pe_non (nomark _)))) (fun _ _ _ _ _ => (pv 5))))
 (pss_cons (ps_set (i := 3) nd rfl (Or.inl rfl) (pe_lst pa_nil))
 (pss_cons (ps_set (i := 4) nd rfl (Or.inl rfl) (pe_lst pa_nil))
 (pss_cons (ps_for PassesOwn.never rfl (pi_range1 (by rfl) T.n_range (pa_cons (pm0 T.k_Web T.m_Web_size c_Web_size hr (by decide) (pv 0)) pa_nil)) (pg_name (i := 5) nd rfl (Or.inl rfl)) (pss_cons (ps_if (pt_cmpR op_in_seq (pv 5) (pv 2) rfl) (pss_one ps_continue) pss_nil)
 (pss_one ps_never)))
 (pss_one (ps_ret (pe_tup (pa_cons (pv 2) (pa_cons (pv 3) (pa_cons (pv 4) pa_nil))))))))))), ?_⟩
  try dsimp only [cxOf, L2.Cx.nox, L2.Cx.blk]
  obtain ⟨x, n, rfl, hn, hw, hq⟩ := h
  refine q_asgL (el_tC (ea_cons (ev_var rfl) ea_nil) (spl_most hn hw)) fun p H1 p0 e1 hp => ?_
  have hsz : ∀ {σ : L2.St} {H' : Hp} {i : Nat}, Ex H1 H' → σ[0]? = some (some (.ref x)) → EvA (tCons (tM (He.ga K "Web") "size" (sp_Web_size K) E0 (tVar 0) tNil) tNil) σ H' [.int (n : Int)] := fun e hs => by
    have hw2 := hw.mono (e1.trans e)
    have hw3 := hw2
    obtain ⟨dx, t, e', rows, h1, h2⟩ := hw2
    exact ea_cons (ev_tM (ev_var hs) h1 rfl ea_nil (spv_Web_size hw3)) ea_nil
  refine q_asgL (xs := natsV (List.range n)) ?t1 fun sp H2 s0 e2 hs => ?_
  case t1 =>
    have g := el_lcR (σ := (L2.start ["web", "pairs", "spare", "beside", "rest", "a", "b"] [V.ref x]).set 1 (some (.ref p))) (H := H1) (j := 5) (vs := [5]) (k := n) (fun _ => true) (fun i => .int (i : Int)) (ta := tCons (tM (He.ga K "Web") "size" (sp_Web_size K) E0 (tVar 0) tNil) tNil)
      (t := tTest (tOp (fun x y H Q => y = V.non ∧ Q (V.bl (!decide (x = V.non))) H) (tC (sp_spared_from K) E0 (tCons (tVar 0) (tCons (tVar 1) (tCons (tVar 5) tNil)))) (L2.tC V.non))) (te := tVar 5) (hsz (i := 0) (Ex.refl _) rfl) (by omega) (fun _ => rfl) (fun i H3 e3 hi => et_is (et_test (ev_op (ev_tC (ea_cons (ev_var rfl) (ea_cons (ev_var rfl) (ea_cons (ev_var rfl) ea_nil))) (spv_spared (hw.mono (e1.trans e3)) (e3 _ _ hp))) ev_c rv_notN)) rfl) (fun i H3 e3 hi _ => ev_var rfl)
    rw [filter_yes] at g
    exact g
  refine q_asgL (el_lst ea_nil (by simp)) fun b H3 b0 e3 hb => ?_
  refine q_asgL (el_lst ea_nil (by simp)) fun c H4 c0 e4 hc => ?_
  have e24 := e3.trans e4
  refine q_forR1 (n := (n : Int)) (hsz (i := 0) (e2.trans e24) rfl) (by omega) (fun i σ' H' => (∃ a, σ' = [some (.ref x), some (.ref p), some (.ref sp), some (.ref b), some (.ref c), a, none]) ∧ Ex H4 H') (fun H5 e5 => ⟨⟨none, rfl⟩, e5⟩) (fun i σ' H' hi pv => ?hs) fun σ' H' pv => ?_
  case hs =>
    obtain ⟨⟨a0, rfl⟩, e5⟩ := pv
    have hin : inV (.int (i : Int)) (natsV (List.range n)) = true := by
      unfold inV natsV
      rw [List.any_map, List.any_eq_true]
      exact ⟨i, List.mem_range.mpr (by omega), by simp [eqV]⟩
    refine q_when (b := true) (et_is (et_test (ev_op (ev_var rfl) (ev_var rfl) (rv_isL (sq_of (e5 _ _ (e24 _ _ hs))) rfl ?_))) hin) (fun _ H6 e6 => ?_) fun hb => ?_
    · unfold natsV
      rw [List.all_map, List.all_eq_true]
      exact fun _ _ => rfl
    · exact ⟨⟨_, rfl⟩, e5.trans e6⟩
    · cases hb
  obtain ⟨⟨a0, rfl⟩, e5⟩ := pv
  refine s_retU (xs := [.ref sp, .ref b, .ref c]) (eu_tup (ea_cons (ev_var rfl) (ea_cons (ev_var rfl) (ea_cons (ev_var rfl) ea_nil))) (by simp)) fun r H6 r0 e6 h6 => ?_
  exact hq r sp b c H6 ((((e1.trans e2).trans e24).trans e5).trans e6) h6 (e6 _ _ (e5 _ _ (e4 _ _ hb)))
end
end KD
set_option maxHeartbeats 2000000
/-! wanted, where one name takes all twenty-four -/
namespace KD
open PySem PySem.Spec PyProof.Rows L2 Evl
section
variable {K : PySem.W.Frag} {σ : L2.St} {H : Hp} {ta tb te : TE} {y : V}
theorem ep_op1 {r : R2} {Φ Ψ : V → Hp → Prop} (h : EvP ta σ H Φ) (hb : ∀ H1, Ex H H1 → Ev tb σ H1 y) (hr : ∀ v H1, Ex H H1 → Φ v H1 → ∀ H2, Ex H1 H2 → ∃ z, RV r v y H2 z ∧ ∀ H3, Ex H2 H3 → Ψ z H3) : EvP (tOp r ta tb) σ H Ψ := fun H1 e Q q =>
  h H1 e _ fun v H2 e2 hv => hb H2 (e.trans e2) H2 (Ex.refl _) _ fun H3 e3 => by
    obtain ⟨z, h1, h2⟩ := hr v H2 (e.trans e2) hv H3 e3
    exact h1 H3 (Ex.refl _) Q fun H4 e4 => q z H4 ((e2.trans e3).trans e4) (h2 H4 e4)
/-- a comprehension over nothing -/
theorem el_lc0 {g : TG} {t : TT} {tl : TE} {vs : List Nat} (h : EvP te σ H fun v H1 => ∃ p, v = .ref p ∧ H1 p = some (.lst [])) : EvL (tLc (iList K te) g t tl vs) σ H [] := fun H1 e Q q =>
  h H1 e _ fun v H2 e2 ⟨p, ev, hp⟩ => ⟨p, ev, ⟨[], sq_of hp⟩, fun Dl hD => lc_list (xs := []) (fun i H' => Ex H2 H' ∧ H' Dl = some (.lst [])) ⟨Ex.new hD, upd_same⟩ (fun i H' _ pv => sq_of (pv.1 _ _ hp)) (fun i x H' hx => absurd hx (by simp)) fun H' pv => q Dl H' (fresh_back e2 hD) (e2.trans pv.1) pv.2⟩
theorem ev_size {n : Nat} {x : Addr} {ts : List Tie} (ho : Ev te σ H (.ref x)) (hw : WebAt K H x n ts) : Ev (tM (He.ga K "Web") "size" (sp_Web_size K) E0 te tNil) σ H (.int (n : Int)) := by
  have hw2 := hw
  obtain ⟨dx, t, e, rows, h1, h2⟩ := hw2
  exact ev_tM ho h1 rfl ea_nil (spv_Web_size hw)
theorem ev_weight {n a b : Nat} {x : Addr} {ts : List Tie} (ho : Ev te σ H (.ref x)) (ha : Ev ta σ H (.int (a : Int))) (hb : Ev tb σ H (.int (b : Int))) (hw : WebAt K H x n ts) : Ev (tM (He.ga K "Web") "weight" (sp_Web_weight K) E0 te (tCons ta (tCons tb tNil))) σ H ((valV (tabOf ts) (kk a b)).getD .non) := by
  have hw2 := hw
  obtain ⟨dx, t, e, rows, h1, h2⟩ := hw2
  exact ev_tM ho h1 rfl (ea_cons ha (ea_cons hb ea_nil)) fun H1 e1 Q q E => ⟨x, n, ts, a, b, rfl, hw.mono e1, q⟩
theorem ep_tupPV {Φ : V → Hp → Prop} (h : EvP ta σ H Φ) (hm : ∀ v H1 H2, Φ v H1 → Ex H1 H2 → Φ v H2) (hb : ∀ H1, Ex H H1 → Ev tb σ H1 y) : EvP (tTup (tCons ta (tCons tb tNil))) σ H fun v H1 => ∃ r z, v = .ref r ∧ H1 r = some (.tup [z, y]) ∧ Φ z H1 := fun H1 e Q q =>
  h H1 e _ fun v H2 e2 hv => hb H2 (e.trans e2) H2 (Ex.refl _) _ fun H3 e3 => ⟨by show 2 ≤ sizeLine; decide, fun r hr => q _ _ ((e2.trans e3).trans (Ex.new hr)) ⟨r, v, rfl, upd_same, hm v _ _ hv (e3.trans (Ex.new hr))⟩⟩
theorem ep_tupVP {Φ : V → Hp → Prop} (h : Ev ta σ H y) (hb : ∀ H1, Ex H H1 → EvP tb σ H1 Φ) (hm : ∀ v H1 H2, Φ v H1 → Ex H1 H2 → Φ v H2) : EvP (tTup (tCons ta (tCons tb tNil))) σ H fun v H1 => ∃ r z, v = .ref r ∧ H1 r = some (.tup [y, z]) ∧ Φ z H1 := fun H1 e Q q =>
  h H1 e _ fun H2 e2 => hb H2 (e.trans e2) H2 (Ex.refl _) _ fun v H3 e3 hv => ⟨by show 2 ≤ sizeLine; decide, fun r hr => q _ _ ((e2.trans e3).trans (Ex.new hr)) ⟨r, v, rfl, upd_same, hm v _ _ hv (Ex.new hr)⟩⟩
theorem ep_sortSet0 {P : Program} {w : World} (h : EvL te σ H []) : EvP (tCB (rSortedT K P w) (tCons (tCB (rSetOfT K P w) (tCons te tNil)) tNil)) σ H fun v H1 => ∃ p, v = .ref p ∧ H1 p = some (.lst []) := fun H1 e Q k =>
  h H1 e _ fun q H5 q0 e5 hq5 => ⟨q, [], rfl, sq_of hq5, (fun p h => absurd h List.not_mem_nil), by decide, fun a L ha hL _ => by
    have hL0 : L = [] := by
      cases L with
      | nil => rfl
      | cons z r => exact absurd (hL z (List.mem_cons_self ..)) List.not_mem_nil
    subst hL0
    refine ⟨a, [], 1, 1, rfl, upd_same, (fun p h => absurd h List.not_mem_nil), by decide, (fun p h => absurd h List.not_mem_nil), fun L' p' hp' _ _ _ hn' => ?_⟩
    have hL1 : L' = [] := hp'.eq_nil
    subst hL1
    exact k _ _ (e5.trans ((Ex.new (o := SetTO P w a []) ha).trans (Ex.new (o := .lst []) hn'))) ⟨p', rfl, upd_same⟩⟩
/-- a new web -/
theorem ep_mkWeb {n : Nat} {l : Addr} {xs : List V} {ts : List Tie} {t : TA} (h : EvA t σ H [.int (n : Int), .ref l]) (hn : n ≤ 24) (hl : H l = some (.lst xs)) (hr : TieRows H xs ts) (hk : TiesOk n ts) : EvP (tMk (He.ga K "Web") (sp_Web_init K) E0 t) σ H fun v H' => ∃ x, v = .ref x ∧ WebAt K H' x n ts := fun H1 e1 Q q =>
  h H1 e1 _ fun H2 e2 x dx hx hdx hne => by
    have ex : Ex H2 (upd (upd H2 dx (.own x)) x (.ins (He.ga K "Web") dx [])) := (Ex.new hdx).trans (Ex.new (by rw [upd_ne (Ne.symm hne)]; exact hx))
    refine ⟨x, dx, l, n, xs, ts, rfl, hn, upd_same, ex _ _ (e2 _ _ (e1 _ _ hl)), hr.mono ((e1.trans e2).trans ex), hk, fun H' fr hw => ⟨rfl, q _ H' (e2.trans fun b o hb => fr b o (ex _ _ hb) (ne_of_none hb hx)) ⟨x, rfl, hw⟩⟩⟩
end
section
variable {P : Program} {w : World} {K : PySem.W.Frag} {mg : Str → Option Value} {base : Heap}
/-- all for the first name -/
def nums (n : Nat) : List Int := 24 :: List.replicate (n - 1) 0
def sp_copied (K : PySem.W.Frag) : Sp := fun vs H Q _ => ∃ (x l : Addr) (n : Nat) (ts : List Tie), vs = [.ref x, .ref l] ∧ 1 ≤ n ∧ n ≤ 24 ∧ WebAt K H x n ts ∧ TiesOk n ts ∧ SqL K H l ((nums n).map V.int) ∧
  ∀ (r y o : Addr) H', Ex H H' → H' r = some (.tup [.ref y, .ref o]) → WebAt K H' y 24 [] → H' o = some (.lst (natsV (List.replicate 24 0))) → Q (.ref r) H'
def owned (i : Nat) : List Nat := if i = 0 then [] else List.replicate 24 0
theorem nums_at {n i : Nat} (h : i < n) : (nums n)[i]? = some (if i = 0 then 24 else 0) := by
  cases i with
  | zero => rfl
  | succ j =>
    show (List.replicate (n - 1) (0 : Int))[j]? = _
    rw [List.getElem?_replicate, if_pos (by omega)]
    rfl
theorem self_none {n : Nat} {ts : List Tie} (h : TiesOk n ts) (a : Nat) : valV (tabOf ts) (kk a a) = none := valV_none' fun p hp e => by
  obtain ⟨t, ht, q⟩ := tab_mem hp
  have := (h.lt t ht).1
  rcases q with rfl | rfl
  · obtain ⟨e1, e2⟩ := kk_inj e
    omega
  · obtain ⟨e1, e2⟩ := kk_inj e
    omega
theorem ok_copied (T : Txt w K mg) : Ok P w K mg base CX0 3 ("copied", none) ["web", "numbers"] (sp_copied K) := by
  have c_Web_size := ok_Web_size (P := P) (base := base) T
  have c_Web_weight := ok_Web_weight (P := P) (base := base) T
  have c_Web_init := ok_Web_init (P := P) (base := base) T
  refine ok0 T.f_copied sc_copied (fun vs H Q E h => by obtain ⟨_, _, _, _, rfl, _⟩ := h; rfl) (fun _ _ _ _ _ _ us hl => match us, hl with | [_, _], _ => rfl) fun f cdv A outer s H vs Q E hr h => ?_
  have nd := sc_copied.nd
  have hu := hu_of hr
  refine ⟨_, (pss_cons (ps_set (i := 2) nd rfl (Or.inl rfl) (pe_lst pa_nil))
 (pss_cons (ps_for PassesOwn.never rfl (pi_range1 (by rfl) T.n_range (pa_cons (pm0 T.k_Web T.m_Web_size c_Web_size hr (by decide) (pv 0)) pa_nil)) (pg_name (i := 3) nd rfl (Or.inl rfl)) (pss_one (ps_set (i := 2) nd rfl (Or.inl rfl) (pe_op op_cat (pv 2) (pe_op op_rep (pe_lst (pa_cons (pv 3) pa_nil)) (pe_ix ix_list (pv 1) (pv 3) (fun _ _ => rfl)))))))
 (pss_cons (ps_set (i := 4) nd rfl (Or.inl rfl) (pe_lst pa_nil))
 (pss_cons (ps_for PassesOwn.never rfl (pi_range1 (by rfl) T.n_range (pa_cons (pe_callB call_len_seq (by rfl) T.n_len (by decide +kernel) (pa_cons (pv 2) pa_nil)) pa_nil)) (pg_name (i := 5) nd rfl (Or.inl rfl)) (pss_one (ps_for PassesOwn.never rfl (pi_range1 (by rfl) T.n_range (pa_cons (pv 5) pa_nil)) (pg_name (i := 6) nd rfl (Or.inl rfl)) (pss_one (ps_if (pt_cmpR op_notN (pm T.k_Web T.m_Web_weight c_Web_weight hr (by decide) (pv 0) (pa_cons (pe_ix ix_list (pv 2) (pv 6) (fun _ _ => rfl)) (pa_cons (pe_ix ix_list (pv 2) (pv 5) (fun _ _ => rfl)) pa_nil))) pe_non (nomark _)) (pss_one ps_never) pss_nil)))))
 (pss_one (ps_ret (pe_tup (pa_cons (pcMk T.mk_Web T.g_Web c_Web_init hr (by decide) (pa_cons (pe_callB call_len_seq (by rfl) T.n_len (by decide +kernel) (pa_cons (pv 2) pa_nil)) (pa_cons (pv 4) pa_nil))) (pa_cons (pv 2) pa_nil))))))))), ?_⟩
  try dsimp only [cxOf, L2.Cx.nox, L2.Cx.blk]
  obtain ⟨x, l, n, ts, rfl, hn1, hn, hw, hk, hl, hq⟩ := h
  refine q_asgL (el_lst ea_nil (by simp)) fun o0 H1 o00 e1 ho0 => ?_
  refine q_forR1 (n := (n : Int)) (ea_cons (ev_size (ev_var rfl) (hw.mono e1)) ea_nil) (by omega) (fun i σ' H' => (∃ o a, σ' = [some (.ref x), some (.ref l), some (.ref o), a, none, none, none] ∧ H' o = some (.lst (natsV (owned i)))) ∧ Ex H H') (fun H2 e2 => ⟨⟨o0, none, rfl, e2 _ _ ho0⟩, e1.trans e2⟩) (fun i σ' H' hi pv => ?hs1) fun σ' H' pv => ?_
  case hs1 =>
    obtain ⟨⟨o, a0, rfl, ho⟩, e2⟩ := pv
    have hin : i < n := by omega
    refine s_asgL (xs := natsV (owned (i + 1))) ?_ fun p H3 p0 e3 hp => ⟨⟨p, _, rfl, hp⟩, e2.trans e3⟩
    have hix : ((nums n).map V.int)[i]? = some (.int (if i = 0 then 24 else 0)) := by
      rw [List.getElem?_map, nums_at hin]
      rfl
    have g := el_catL (l := o) (xs := natsV (owned i)) (ta := tVar 2) (σ := [some (.ref x), some (.ref l), some (.ref o), some (.int (i : Int)), none, none, none]) (ev_var rfl) (el_rep (xs := [.int (i : Int)]) (ta := tLst (tCons (tVar 3) tNil)) (tb := tOp (rIxL K) (tVar 1) (tVar 3)) (el_lst (ea_cons (ev_var rfl) ea_nil) (by simp)) (ev_op (ev_var rfl) (ev_var rfl) (rv_ixLn (ex_l e2 hl) hix)) (by split <;> omega) (by split <;> exact Nat.le_trans (by simp) (by decide : 24 ≤ sizeLine))) ho (by
      refine Nat.le_trans (m := 48) ?_ (by decide)
      unfold natsV owned
      split <;> simp)
    have e : natsV (owned i) ++ (List.replicate (if i = 0 then (24 : Int) else 0).toNat [V.int (i : Int)]).flatten = natsV (owned (i + 1)) := by
      by_cases h0 : i = 0
      · subst h0
        rfl
      · unfold owned
        rw [if_neg h0, if_neg h0, if_neg (by omega)]
        show natsV _ ++ [] = _
        rw [List.append_nil]
    rw [e] at g
    exact g
  obtain ⟨⟨o, a0, rfl, ho⟩, e2⟩ := pv
  have hown : owned (n : Int).toNat = List.replicate 24 0 := by
    unfold owned
    rw [if_neg (by omega)]
  rw [hown] at ho
  refine q_asgL (el_lst ea_nil (by simp)) fun tl H3 tl0 e3 htl => ?_
  have ho3 := e3 _ _ ho
  have len24 : (natsV (List.replicate 24 0)).length = 24 := by decide
  have at24 : ∀ j : Nat, j < 24 → (natsV (List.replicate 24 0))[j]? = some (.int ((0 : Nat) : Int)) := fun j hj => by
    unfold natsV
    rw [List.getElem?_map, List.getElem?_replicate, if_pos hj]
    rfl
  refine q_forR1 (n := 24) (ea_cons (ev_is (ev_cb (ea_cons (ev_var rfl) ea_nil) (rc_len (sq_of ho3))) (by rw [len24]; rfl)) ea_nil) (by omega) (fun i σ' H' => (∃ b c, σ' = [some (.ref x), some (.ref l), some (.ref o), a0, some (.ref tl), b, c]) ∧ Ex H3 H') (fun H4 e4 => ⟨⟨none, none, rfl⟩, e4⟩) (fun i σ' H' hi pv => ?hs2) fun σ' H' pv => ?_
  case hs2 =>
    obtain ⟨⟨b0, c0, rfl⟩, e4⟩ := pv
    refine s_forR1 (n := (i : Int)) (ea_cons (ev_var rfl) ea_nil) (by omega) (fun j σ' H' => (∃ c, σ' = [some (.ref x), some (.ref l), some (.ref o), a0, some (.ref tl), some (.int (i : Int)), c]) ∧ Ex H3 H') (fun H5 e5 => ⟨⟨c0, rfl⟩, e4.trans e5⟩) (fun j σ' H' hj pv => ?hs3) fun σ' H' pv => ?_
    case hs3 =>
      obtain ⟨⟨c1, rfl⟩, e5⟩ := pv
      refine s_when (b := false) (et_is (et_test (ev_op (ev_weight (ev_var rfl) (ev_op (ev_var rfl) (ev_var rfl) (rv_ixLn (sq_of (e5 _ _ ho3)) (at24 j (by omega)))) (ev_op (ev_var rfl) (ev_var rfl) (rv_ixLn (sq_of (e5 _ _ ho3)) (at24 i (by omega)))) (hw.mono ((e2.trans e3).trans e5))) ev_c rv_notN)) ?_) (fun hb => ?_) fun _ H6 e6 => ?_
      · rw [self_none hk]
        rfl
      · cases hb
      · exact ⟨⟨_, rfl⟩, e5.trans e6⟩
    · obtain ⟨⟨c1, rfl⟩, e5⟩ := pv
      exact ⟨⟨_, _, rfl⟩, e5⟩
  obtain ⟨⟨b0, c0, rfl⟩, e4⟩ := pv
  have ho4 := e4 _ _ ho3
  refine s_retP (ep_tupPV (Φ := fun v H' => ∃ x, v = .ref x ∧ WebAt K H' x 24 []) (y := .ref o) (ep_mkWeb (n := 24) (l := tl) (xs := []) (ts := []) (ea_cons (ev_is (ev_cb (ea_cons (ev_var rfl) ea_nil) (rc_len (sq_of ho4))) (by rw [len24])) (ea_cons (ev_var rfl) ea_nil)) (Nat.le_refl _) (e4 _ _ htl) ⟨rfl, fun i v t h => by simp at h⟩ ⟨fun t h => absurd h List.not_mem_nil, List.nodup_nil, Nat.zero_le _⟩) (fun v H1 H2 ⟨y, h1, h2⟩ e => ⟨y, h1, h2.mono e⟩) fun _ _ => ev_var rfl) fun v H5 e5 hv => ?_
  obtain ⟨r, z, rfl, hr, y, rfl, hy⟩ := hv
  exact hq r y o H5 (((e2.trans e3).trans e4).trans e5) hr hy (e5 _ _ ho4)
/-! ### the words told -/
def sp_field (K : PySem.W.Frag) : Sp := fun vs H Q _ => ∃ (p : Addr), vs = [.ref p] ∧ H p = some (.lst []) ∧ RV1 (.str "-") H Q
theorem ok_field (T : Txt w K mg) : Ok P w K mg base CX0 1 ("field", none) ["words"] (sp_field K) := by
  refine ok0 T.f_field sc_field (fun vs H Q E h => by obtain ⟨_, rfl, _⟩ := h; rfl) (fun _ _ _ _ _ _ us hl => match us, hl with | [_], _ => rfl) fun f cdv A outer s H vs Q E hr h => ?_
  have nd := sc_field.nd
  have hu := hu_of hr
  have hu64 := hr.units
  refine ⟨_, (pss_cons (ps_if (pt_cmpR (op_eqD hu64) (pv 0) (pe_lst pa_nil) (nomark _)) (pss_one (ps_ret pe_str)) pss_nil)
 (pss_one (ps_ret (pe_join pe_str (pv 0))))), ?_⟩
  try dsimp only [cxOf, L2.Cx.nox, L2.Cx.blk]
  obtain ⟨p, rfl, hp, hq⟩ := h
  refine q_when (b := true) (et_test (ev_opL (xs := []) (x := .ref p) (ev_var rfl) (el_lst ea_nil (by simp)) fun q H1 hq1 e1 => fun H2 e2 Q2 k2 => ⟨.list [], .list [], .lst (sq_of ((e1.trans e2) _ _ hp)) .nil, .lst (sq_of (e2 _ _ hq1)) .nil, rfl, rfl, k2 _ (Ex.refl _)⟩)) (fun _ H2 e2 => ?_) fun hb => ?_
  · refine s_ret (v := .str "-") ev_c ?_
    exact fun H3 e3 => hq _ (e2.trans e3)
  · cases hb
def sp_points_told (K : PySem.W.Frag) : Sp := fun vs H Q _ => ∃ (l p : Addr), vs = [.ref l, .ref p] ∧ H p = some (.lst []) ∧ RV1 (.str "-") H Q
theorem ok_points_told (T : Txt w K mg) : Ok P w K mg base CX0 2 ("points_told", none) ["names", "points"] (sp_points_told K) := by
  have c_field := ok_field (P := P) (base := base) T
  refine ok0 T.f_points_told sc_points_told (fun vs H Q E h => by obtain ⟨_, _, rfl, _⟩ := h; rfl) (fun _ _ _ _ _ _ us hl => match us, hl with | [_, _], _ => rfl) fun f cdv A outer s H vs Q E hr h => ?_
  have nd := sc_points_told.nd
  have hu := hu_of hr
  refine ⟨_, (pss_one (ps_ret (pc c_field hr (by decide) T.g_field (pa_cons (pe_lc (own := [("a", 2)]) (g := gName 2) rfl nd (pi_list (pv 1)) (blkOk_by (N := ["names", "points", "a"]) (own := [("a", 2)]) (sc := defScope s_points_told) (by decide +kernel)) (fun _ _ _ _ _ => (pg_name (i := 2) nd rfl (Or.inl rfl))) (fun _ _ _ _ _ => pts_nil) (fun _ _ _ _ _ => (pe_ix (ix_listK (K := K)) (pv 0) (pv 2) (fun _ _ => rfl)))) pa_nil)))), ?_⟩
  try dsimp only [cxOf, L2.Cx.nox, L2.Cx.blk]
  obtain ⟨l, p, rfl, hp, hq⟩ := h
  refine s_ret (v := .str "-") (ev_tCL (xs := []) (el_lc0 (Ev.p (v := .ref p) (ev_var rfl) fun H1 e1 => ⟨p, rfl, e1 _ _ hp⟩)) ea_nil fun q H1 e1 hq1 => fun H2 e2 Q2 k2 E2 => ⟨q, rfl, e2 _ _ hq1, k2⟩) ?_
  exact fun H1 e1 => hq _ e1
def sp_wanted (K : PySem.W.Frag) : Sp := fun vs H Q _ => ∃ (x l : Addr) (n : Nat) (ts : List Tie), vs = [.ref x, .ref l] ∧ 1 ≤ n ∧ n ≤ 24 ∧ WebAt K H x n ts ∧ TiesOk n ts ∧ SqL K H l ((nums n).map V.int) ∧
  ∀ (r o : Addr) H', Ex H H' → H' r = some (.tup [.str "none", .ref o]) → H' o = some (.lst []) → Q (.ref r) H'
theorem nums_sum (n : Nat) : (nums n).sum = 24 := by
  unfold nums
  rw [List.sum_cons]
  have : (List.replicate (n - 1) (0 : Int)).sum = 0 := by
    generalize n - 1 = k
    induction k with
    | zero => rfl
    | succ k ih =>
      rw [List.replicate_succ, List.sum_cons, ih]
      rfl
  rw [this]
  rfl
theorem ok_wanted (T : Txt w K mg) : Ok P w K mg base CX0 7 ("wanted", none) ["web", "numbers"] (sp_wanted K) := by
  have c_copied := ok_copied (P := P) (base := base) T
  have c_most := ok_most (P := P) (base := base) T
  have c_kinds := ok_kinds (P := P) (base := base) T
  obtain ⟨tL, m_MOST_WANTED_wanted⟩ := T.c_MOST_WANTED_wanted
  refine ok0 T.f_wanted sc_wanted (fun vs H Q E h => by obtain ⟨_, _, _, _, rfl, _⟩ := h; rfl) (fun _ _ _ _ _ _ us hl => match us, hl with | [_, _], _ => rfl) fun f cdv A outer s H vs Q E hr h => ?_
  have nd := sc_wanted.nd
  have hu := hu_of hr
  have hu64 := hr.units
  refine ⟨_, (pss_cons (ps_if (pt_cmpR op_gt (pe_callB (cr_sum rfl) (by rfl) T.n_sum (by decide +kernel) (pa_cons (pv 1) pa_nil)) (pe_glob (v := .int 24) rfl m_MOST_WANTED_wanted ⟨_, rfl⟩) (nomark _)) (pss_one ps_never) pss_nil)
 (pss_cons (ps_asg (pc c_copied hr (by decide) T.g_copied (pa_cons (pv 0) (pa_cons (pv 1) pa_nil))) (pg_tup rfl (pgs_cons (pg_name (i := 2) nd rfl (Or.inl rfl)) (pgs_cons (pg_name (i := 3) nd rfl (Or.inr rfl)) pgs_nil))))
 (pss_cons (ps_set (i := 4) nd rfl (Or.inl rfl) (pc c_most hr (by decide) T.g_most (pa_cons (pv 2) pa_nil)))
 (pss_cons (ps_if (pt_cmpR op_lt (pe_op op_mul pe_int (pe_callB call_len_seq (by rfl) T.n_len (by decide +kernel) (pa_cons (pv 4) pa_nil))) (pe_callB call_len_seq (by rfl) T.n_len (by decide +kernel) (pa_cons (pv 3) pa_nil)) (nomark _)) (pss_one (ps_ret (pe_tup (pa_cons pe_str (pa_cons (pe_callB (cr_sortedT rfl) (by rfl) T.n_sorted (by decide +kernel) (pa_cons (pe_callTy (cr_setOfT rfl hu64) (by rfl) T.n_set (by decide +kernel) (pa_cons (pe_lc (own := [("i", 6)]) (g := gName 6) rfl nd (pi_list (pe_ix ix_tup (pc c_kinds hr (by decide) T.g_kinds (pa_cons (pv 2) pa_nil)) pe_int (fun _ _ => rfl))) (blkOk_by (N := ["web", "numbers", "small", "owners", "pairs", "found", "i", "j", "ends"]) (own := [("i", 6)]) (sc := defScope s_wanted) (by decide +kernel)) (fun _ _ _ _ _ => (pg_name (i := 6) nd rfl (Or.inl rfl))) (fun _ _ _ _ _ => pts_nil) (fun _ _ _ _ _ => (pe_ix (ix_listK (K := K)) (pv 3) (pv 6) (fun _ _ => rfl)))) pa_nil)) pa_nil)) pa_nil))))) pss_nil)
 (pss_cons ps_never
 (pss_cons ps_never
 (pss_one ps_never))))))), ?_⟩
  try dsimp only [cxOf, L2.Cx.nox, L2.Cx.blk]
  obtain ⟨x, l, n, ts, rfl, hn1, hn, hw, hk, hl, hq⟩ := h
  refine q_when (b := false) (et_is (et_test (ev_op (ev_cb (ea_cons (ev_var rfl) ea_nil) (rc_sum hl)) ev_c rv_I0)) (by rw [nums_sum]; rfl)) (fun hb => by cases hb) fun _ H1 e1 => ?_
  refine q_asgTP (Φ := fun v H' => ∃ r y o, v = .ref r ∧ H' r = some (.tup [.ref y, .ref o]) ∧ WebAt K H' y 24 [] ∧ H' o = some (.lst (natsV (List.replicate 24 0)))) (ep_tC (ea_cons (ev_var rfl) (ea_cons (ev_var rfl) ea_nil)) fun H2 e2 Q1 k E1 => ⟨x, l, n, ts, rfl, hn1, hn, hw.mono (e1.trans e2), hk, ex_l (e1.trans e2) hl, fun r y o H3 e3 h1 h2 h3 => k _ _ e3 ⟨r, y, o, rfl, h1, h2, h3⟩⟩) fun v H2 e2 hv => ?_
  obtain ⟨r0, y, o, rfl, hr0, hy, ho⟩ := hv
  refine ⟨r0, _, rfl, st_of hr0, rfl, .ref y, _, rfl, .ref o, _, rfl, rfl, ?_⟩
  refine q_asgL (el_tC (ea_cons (ev_var rfl) ea_nil) (spl_most (by omega) hy)) fun p H3 p0 e3 hp => ?_
  have ho3 := e3 _ _ ho
  refine q_when (b := true) (et_is (et_test (ev_op (ev_op ev_c (ev_cb (ea_cons (ev_var rfl) ea_nil) (rc_len (sq_of hp))) (rv_R (.inl ⟨by decide, by decide⟩))) (ev_cb (ea_cons (ev_var rfl) ea_nil) (rc_len (sq_of ho3))) rv_I0)) ?_) (fun _ H4 e4 => ?_) fun hb => by cases hb
  · have : (natsV (List.replicate 24 0)).length = 24 := by decide
    rw [this]
    rfl
  have hk1 : EvP (tOp (rIxT K) (tC (sp_kinds K) E0 (tCons (tVar 2) tNil)) (L2.tC (V.int 1))) [some (.ref x), some (.ref l), some (.ref y), some (.ref o), some (.ref p), none, none, none, none] H4 (fun v H5 => ∃ q, v = .ref q ∧ H5 q = some (.lst [])) := by
    refine ep_op1 (Φ := fun v H' => ∃ r a b c, v = .ref r ∧ H' r = some (.tup [.ref a, .ref b, .ref c]) ∧ H' b = some (.lst [])) (ep_tC (ea_cons (ev_var rfl) ea_nil) fun H5 e5 Q1 k E1 => ⟨y, 24, rfl, by omega, hy.mono ((e3.trans e4).trans e5), fun r a b c H6 e6 h1 h2 => k _ _ e6 ⟨r, a, b, c, rfl, h1, h2⟩⟩) (fun _ _ => ev_c) fun v H5 e5 hv H6 e6 => ?_
    obtain ⟨r, a, b, c, rfl, h1, h2⟩ := hv
    exact ⟨.ref b, rv_ixT (st_of (e6 _ _ h1)) (atI_nat (j := 1) rfl), fun H7 e7 => ⟨b, rfl, e7 _ _ (e6 _ _ h2)⟩⟩
  refine s_retP (ep_tupVP (Φ := fun v H' => ∃ q, v = .ref q ∧ H' q = some (.lst [])) (y := .str "none") ev_c (fun H5 e5 => ep_sortSet0 (el_lc0 (hk1.mono e5))) fun v H1 H2 ⟨q, h1, h2⟩ e => ⟨q, h1, e _ _ h2⟩) fun v H5 e5 hv => ?_
  obtain ⟨r, z, rfl, hr, q, rfl, hq2⟩ := hv
  exact hq r q _ ((((e1.trans e2).trans e3).trans e4).trans e5) hr hq2
def sp_wanted_told (K : PySem.W.Frag) : Sp := fun vs H Q _ => ∃ (x l z : Addr) (n : Nat) (ts : List Tie), vs = [.ref z, .ref x, .ref l] ∧ 1 ≤ n ∧ n ≤ 24 ∧ WebAt K H x n ts ∧ TiesOk n ts ∧ SqL K H l ((nums n).map V.int) ∧ RV1 (.str "none; -") H Q
theorem ok_wanted_told (T : Txt w K mg) : Ok P w K mg base CX0 8 ("wanted_told", none) ["names", "web", "numbers"] (sp_wanted_told K) := by
  have c_wanted := ok_wanted (P := P) (base := base) T
  have c_points_told := ok_points_told (P := P) (base := base) T
  refine ok0 T.f_wanted_told sc_wanted_told (fun vs H Q E h => by obtain ⟨_, _, _, _, _, rfl, _⟩ := h; rfl) (fun _ _ _ _ _ _ us hl => match us, hl with | [_, _, _], _ => rfl) fun f cdv A outer s H vs Q E hr h => ?_
  have nd := sc_wanted_told.nd
  have hu := hu_of hr
  refine ⟨_, (pss_cons (ps_set (i := 3) nd rfl (Or.inl rfl) (pc c_wanted hr (by decide) T.g_wanted (pa_cons (pv 1) (pa_cons (pv 2) pa_nil))))
 (pss_cons (ps_if (pt_cmpR op_eq (pe_ix ix_tup (pv 3) pe_int (fun _ _ => rfl)) pe_str (nomark _)) (pss_one (ps_ret (pe_op op_add_str pe_str (pc c_points_told hr (by decide) T.g_points_told (pa_cons (pv 0) (pa_cons (pe_ix ix_tup (pv 3) pe_int (fun _ _ => rfl)) pa_nil)))))) pss_nil)
 (pss_one ps_never))), ?_⟩
  try dsimp only [cxOf, L2.Cx.nox, L2.Cx.blk]
  obtain ⟨x, l, z, n, ts, rfl, hn1, hn, hw, hk, hl, hq⟩ := h
  refine q_asgP (Φ := fun v H' => ∃ r o, v = .ref r ∧ H' r = some (.tup [.str "none", .ref o]) ∧ H' o = some (.lst [])) (ep_tC (ea_cons (ev_var rfl) (ea_cons (ev_var rfl) ea_nil)) fun H2 e2 Q1 k E1 => ⟨x, l, n, ts, rfl, hn1, hn, hw.mono e2, hk, ex_l e2 hl, fun r o H3 e3 h1 h2 => k _ _ e3 ⟨r, o, rfl, h1, h2⟩⟩) fun v H1 e1 hv => ?_
  obtain ⟨r, o, rfl, hr1, ho⟩ := hv
  refine q_when (b := true) (et_is (et_test (ev_op (ev_op (ev_var rfl) ev_c (rv_ixT (st_of hr1) (atI_nat (j := 0) rfl))) ev_c rv_eqS)) rfl) (fun _ H2 e2 => ?_) fun hb => by cases hb
  refine s_ret (v := .str "none; -") (ev_is (ev_op ev_c (ev_tC (ea_cons (ev_var rfl) (ea_cons (ev_op (ev_var rfl) ev_c (rv_ixT (st_of (e2 _ _ hr1)) (atI_nat (j := 1) rfl))) ea_nil)) fun H3 e3 Q1 k E1 => ⟨z, o, rfl, e3 _ _ (e2 _ _ ho), k⟩) (rv_addS (by decide))) (by decide +kernel)) ?_
  exact fun H3 e3 => hq _ ((e1.trans e2).trans e3)
end
end KD
set_option maxHeartbeats 4000000
/-! own rules 6: min with a default, list.count(True), list.remove(text) -/
namespace KD
open PySem PySem.Spec PyProof.Rows L2 Evl
open PySem.W (HoldAll Holds minOf Datum min_list_datum_default)
open PySem.SeqAt (list_removeAt)
/-- min(xs, default=d) of ints -/
def rMinD (K : PySem.W.Frag) : List V → List V → Hp → VK → Prop := fun vs zs H Q => ∃ (a : Addr) (ns : List Int) (d : Int), vs = [.ref a] ∧ zs = [.int d] ∧ SqL K H a (ns.map V.int) ∧ ∀ m : Int, (ns = [] → m = d) → (ns ≠ [] → m ∈ ns ∧ ∀ n ∈ ns, m ≤ n) → Q (.int m) H
theorem holds_int {h : Heap} : ∀ {vs : List Value} {ns : List Int}, Vals (ns.map V.int) vs → HoldAll h vs ns
  | _, [], .nil => ⟨[], .nil⟩
  | _, n :: ns, .cons r t => by
    obtain ⟨k, rfl⟩ := r
    obtain ⟨as, ra⟩ := holds_int (h := h) t
    exact ⟨[] ++ as, .cons (.int n k) ra⟩
theorem holds_val {h : Heap} {v : Value} {n : Int} (x : Holds h v n) : ∃ t, v = .int n t := by
  obtain ⟨as, r⟩ := x
  have r : Reads h v (.int n) as := r
  cases r with
  | int i t => exact ⟨t, rfl⟩
theorem minOf_ok (x : Int) : ∀ (xs : List Int), minOf x xs ∈ x :: xs ∧ ∀ y ∈ x :: xs, minOf x xs ≤ y := fun xs => by
  induction xs generalizing x with
  | nil => exact ⟨by simp [minOf], fun y hy => by rw [List.mem_singleton] at hy; rw [hy]; exact Int.le_refl _⟩
  | cons z r ih =>
    have e : minOf x (z :: r) = minOf (if decide (z < x) = true then z else x) r := rfl
    rw [e]
    obtain ⟨h1, h2⟩ := ih (if decide (z < x) = true then z else x)
    have h3 := h2 _ (List.mem_cons_self ..)
    by_cases hz : z < x
    · rw [if_pos (decide_eq_true hz)] at h1 h2 h3 ⊢
      refine ⟨List.mem_cons_of_mem _ h1, fun y hy => ?_⟩
      rcases List.mem_cons.mp hy with rfl | hy
      · omega
      · exact h2 y hy
    · rw [if_neg (by simpa using hz)] at h1 h2 h3 ⊢
      refine ⟨?_, fun y hy => ?_⟩
      · rcases List.mem_cons.mp h1 with h1 | h1
        · rw [h1]
          exact List.mem_cons_self ..
        · exact List.mem_cons_of_mem _ (List.mem_cons_of_mem _ h1)
      · rcases List.mem_cons.mp hy with rfl | hy
        · exact h3
        · rcases List.mem_cons.mp hy with rfl | hy
          · omega
          · exact h2 y (List.mem_cons_of_mem _ hy)
theorem cr_minD {X : Cx} (hc : X.calm = true) (hu : X.A.units + 64 < cLine) : CallRK X (.builtin "min") [Str.ofString "default"] (rMinD X.K) := by
  intro pins s σ H vs zs us ws Q I r rz h
  obtain ⟨a, ns, d, rfl, rfl, hs, q⟩ := h
  rw [Vals.ref1 r]
  obtain ⟨w1, rfl, t1, rfl⟩ := vals1 rz
  obtain ⟨its, rv, hl, hz⟩ := I.list hs
  have hA : HoldAll s.heap its.toArray.toList ns := by simpa using holds_int rv
  refine min_list_datum_default (I.ok.hd hc) hl.isList hA ?_ (fun e h' tk kp => ?_) fun y ys i v h' tk e hv hh kp => ?_
  · have : Datum.depth Int ≤ 1 := by decide
    omega
  · exact ⟨.int d, H, I.kept (t' := tk) kp, ⟨_, rfl⟩, q d (fun _ => rfl) fun z => absurd e z⟩
  · obtain ⟨t, rfl⟩ := holds_val hh
    obtain ⟨h1, h2⟩ := minOf_ok y ys
    rw [← e] at h1 h2
    exact ⟨.int (minOf y ys), H, I.kept (t' := tk) kp, ⟨_, rfl⟩, q _ (fun z => by rw [z] at e; cases e) fun _ => ⟨h1, h2⟩⟩
theorem pe_minD {X : Cx} {K : PySem.W.Frag} {e d : Expr} {p kp pos : Pos} {te td : TE} (hK : X.K = K) (hu : X.A.units + 64 < cLine) (he : PE X e te) (hd : PE X d td) (hm : X.mg "min" = none) (hc : X.calm = true := by rfl) (hg : Gl X "min" := by rfl)
    (ha : starEach [e] X.env = (false, eval e X.env) :: starEach [] X.env := by rfl) (hb : backTo pos (starEach [e] X.env) = (false, eval e X.env) :: backTo pos (starEach [] X.env) := by rfl) (hpl : (backTo pos (starEach [e] X.env)).any (·.1) = false := by rfl) :
    PE X (.Call (.Name "min" p) [e] [⟨some "default", d, kp⟩] pos) (tCKw (rMinD K) (tCons te tNil) (tCons td tNil)) := by
  subst hK
  exact pe_callBK (cr_minD hc hu) hg hm (by decide +kernel) (pa_cons he pa_nil ha) (pk_cons hd pk_nil) (by decide) (by decide) hb hpl rfl rfl rfl
/-- xs.count(True) -/
def rCntB (K : PySem.W.Frag) : V → List V → Hp → VK → Prop := fun x xs H Q => ∃ (p : Addr) (bs : List Bool), x = .ref p ∧ xs = [.bl true] ∧ SqL K H p (bs.map V.bl) ∧ Q (.int (bs.count true : Nat)) H
theorem reads_bools {h : Heap} : ∀ {vs : List Value} {bs : List Bool}, Vals (bs.map V.bl) vs → ∃ as, ReadsAll h vs (bs.map PyData.bool) as
  | _, [], .nil => ⟨[], .nil⟩
  | _, b :: bs, .cons r t => by
    cases r
    obtain ⟨as, ra⟩ := reads_bools (h := h) t
    exact ⟨[] ++ as, .cons (.bool b) ra⟩
theorem cnt_bools : ∀ bs : List Bool, countIn (.bool true) (bs.map PyData.bool) = ((bs.count true : Nat) : Int)
  | [] => rfl
  | b :: bs => by
    rw [List.map_cons, countIn, cnt_bools bs]
    cases b
    · simp [same]
    · simp [same]
      omega
theorem mt_countB {X : Cx} : MtR X "list.count" (rCntB X.K) := by
  intro pins s σ H x xs v us Q I rx rxs h
  obtain ⟨p, bs, rfl, rfl, hs, q⟩ := h
  cases rx
  obtain ⟨u, rfl, ru⟩ := rxs.one
  obtain rfl : u = Value.bool true := ru
  obtain ⟨its, rv, hl, hlen⟩ := I.list hs
  obtain ⟨as, ra⟩ := reads_bools (h := s.heap) rv
  refine count_list_bools hl.isList ra (by simp [List.all_eq_true, Shape.has]) ?_
  rw [cnt_bools]
  exact ⟨.int _, H, I.tok _, ⟨_, rfl⟩, q⟩
/-- xs.remove(text), there -/
def rRemS : V → List V → Hp → VK → Prop := fun x xs H Q => ∃ (l : Addr) (ss : List Str) (k : Str) (j : Nat), x = .ref l ∧ xs = [.str k] ∧ H l = some (.lst (ss.map V.str)) ∧ ss[j]? = some k ∧ (∀ m : Nat, m < j → ss[m]? ≠ some k) ∧ Q .non (upd H l (.lst ((ss.eraseIdx j).map V.str)))
theorem strs_of : ∀ {vs : List Value} {ss : List Str}, Vals (ss.map V.str) vs → StrsAre vs ss
  | _, [], .nil => .nil
  | _, z :: ss, .cons r t => by
    obtain ⟨k, rfl⟩ := r
    exact .cons z k (strs_of t)
theorem strs_get : ∀ {vs : List Value} {ss : List Str}, StrsAre vs ss → ∀ {j : Nat} {z : Str}, ss[j]? = some z → ∃ t, vs[j]? = some (.str z t)
  | _, _, .nil, j, z, h => by simp at h
  | _, _, .cons n t hr, 0, z, h => ⟨t, by rw [← Option.some.inj h]; rfl⟩
  | _, _, .cons n t hr, j + 1, z, h => strs_get hr (j := j) h
theorem erase_mapS : ∀ (ss : List Str) (j : Nat), (ss.map V.str).eraseIdx j = (ss.eraseIdx j).map V.str
  | [], j => by simp
  | z :: ss, 0 => rfl
  | z :: ss, j + 1 => by
    rw [List.map_cons, List.eraseIdx_cons_succ, List.eraseIdx_cons_succ, List.map_cons, erase_mapS ss j]
theorem mt_removeS {X : Cx} : MtM X "list.remove" rRemS := by
  intro pins s σ H x xs v us Q I rx rxs h
  obtain ⟨l, ss, k, j, rfl, rfl, hH, hj, hno, q⟩ := h
  cases rx
  obtain ⟨u, rfl, ru⟩ := rxs.one
  obtain ⟨t, rfl⟩ := ru
  obtain ⟨z, its, n, r, hl, e⟩ := I.lstM hH
  have hi : StrsAre its ss := strs_of r
  rw [List.length_map] at hl z
  have hjn : j < ss.length := (List.getElem?_eq_some_iff.mp hj).1
  have hjl : j < its.toArray.size := by rw [List.size_toArray]; omega
  have at_ : ∀ (m : Nat) (hm : m < its.toArray.size) (y : Str), ss[m]? = some y → isStrOf k its.toArray[m] = (y == k) := fun m hm y hy => by
    obtain ⟨tm, hmt⟩ := strs_get hi hy
    obtain ⟨g1, g2⟩ := List.getElem?_eq_some_iff.mp hmt
    have e1 : its.toArray[m] = .str y tm := by simpa using g2
    rw [e1]
    rfl
  refine call_meets PySem.F.slot_list_remove ⟨_, e, rfl⟩ PySem.F.entry_list_remove (PySem.F.args_list_remove_2 _ _)
    (list_removeAt l its.toArray n _ _ (.str k t) (isStrOf k) j hjl ?_ ?_ (by rw [List.size_toArray]; omega)) ⟨e, fun y hy => (eq_isStrOf k t hi y (by simpa using hy)).at _ _, ?_⟩
  · rw [at_ j hjl k hj]
    exact beq_self_eq_true k
  · intro m hm hmj
    have hmn : m < ss.length := by omega
    rw [at_ m hm _ (List.getElem?_eq_getElem hmn)]
    exact beq_eq_false_iff_ne.mpr fun e2 => hno m hmj (by rw [List.getElem?_eq_getElem hmn, e2])
  · have rr := r.eraseIdx j
    rw [erase_mapS] at rr
    refine ⟨.non, _, I.lset (its' := its.eraseIdx j) (t' := s.toks) hH e ?_ rr ?_, rfl, q⟩
    · rw [List.eraseIdxIfInBounds_toArray]
    · rw [List.length_map, List.length_eraseIdx]
      split <;> omega
end KD
set_option maxHeartbeats 2000000
/-! the parts of a web -/
namespace KD
open PySem PySem.Spec PyProof.Rows L2 Evl
def Adj (ts : List Tie) (a b : Nat) : Prop := ∃ t ∈ ts, (t.1 = a ∧ t.2.1 = b) ∨ (t.2.1 = a ∧ t.1 = b)
theorem Adj.symm {ts : List Tie} {a b : Nat} (h : Adj ts a b) : Adj ts b a := let ⟨t, ht, e⟩ := h; ⟨t, ht, e.elim (fun z => Or.inr ⟨z.2, z.1⟩) (fun z => Or.inl ⟨z.2, z.1⟩)⟩
inductive Conn (ts : List Tie) (a : Nat) : Nat → Prop
  | refl : Conn ts a a
  | step {b c : Nat} : Conn ts a b → Adj ts b c → Conn ts a c
theorem Conn.trans {ts : List Tie} {a b c : Nat} (h : Conn ts a b) (k : Conn ts b c) : Conn ts a c := by
  induction k with
  | refl => exact h
  | step _ e ih => exact ih.step e
theorem Conn.symm {ts : List Tie} {a b : Nat} (h : Conn ts a b) : Conn ts b a := by
  induction h with
  | refl => exact .refl
  | step _ e ih => exact (Conn.step .refl e.symm).trans ih
theorem mem_ends {ts : List Tie} {a b : Nat} : b ∈ endsAt ts a ↔ Adj ts a b := by
  unfold endsAt Adj
  rw [List.mem_flatMap]
  constructor
  · rintro ⟨t, ht, h⟩
    refine ⟨t, ht, ?_⟩
    rcases List.mem_append.mp h with h | h
    · split at h
      · rename_i e
        rw [List.mem_singleton] at h
        exact Or.inl ⟨e, h.symm⟩
      · cases h
    · split at h
      · rename_i e
        rw [List.mem_singleton] at h
        exact Or.inr ⟨e, h.symm⟩
      · cases h
  · rintro ⟨t, ht, h⟩
    refine ⟨t, ht, List.mem_append.mpr ?_⟩
    rcases h with ⟨e1, e2⟩ | ⟨e1, e2⟩
    · exact Or.inl (by rw [if_pos e1, e2]; exact List.mem_singleton_self _)
    · exact Or.inr (by rw [if_pos e1, e2]; exact List.mem_singleton_self _)
theorem adj_lt {n : Nat} {ts : List Tie} (h : TiesOk n ts) {a b : Nat} (k : Adj ts a b) : a < n ∧ b < n ∧ a ≠ b := by
  obtain ⟨t, ht, e⟩ := k
  have := h.lt t ht
  rcases e with ⟨rfl, rfl⟩ | ⟨rfl, rfl⟩
  · omega
  · omega
theorem nodup_le {α : Type} [DecidableEq α] : ∀ {l m : List α}, l.Nodup → (∀ x ∈ l, x ∈ m) → l.length ≤ m.length
  | [], m, _, _ => Nat.zero_le _
  | a :: r, m, h, k => by
    obtain ⟨h1, h2⟩ := List.nodup_cons.mp h
    have := nodup_le (l := r) (m := m.erase a) h2 fun x hx => (List.mem_erase_of_ne fun e => h1 (by rw [← e]; exact hx)).mpr (k x (List.mem_cons_of_mem _ hx))
    rw [List.length_erase_of_mem (k a (List.mem_cons_self ..))] at this
    have h3 := List.length_pos_of_mem (k a (List.mem_cons_self ..))
    rw [List.length_cons]
    omega
theorem nodup_lt {l : List Nat} {n : Nat} (h : l.Nodup) (k : ∀ x ∈ l, x < n) : l.length ≤ n := by
  have := nodup_le h fun x hx => List.mem_range.mpr (k x hx)
  rw [List.length_range] at this
  exact this
def Seen (kvs : List (Key × V)) (l : List Nat) : Prop := ∀ b : Nat, (valV kvs (.inl (b : Int))).isSome = decide (b ∈ l)
theorem Seen.put {kvs : List (Key × V)} {l : List Nat} (h : Seen kvs l) (a : Nat) (v : V) : Seen (putK kvs (.inl (a : Int)) v) (l ++ [a]) := fun b => by
  rw [valV_put]
  by_cases e : b = a
  · subst e
    rw [if_pos rfl]
    simp
  · rw [if_neg (fun z => e (by injection z with z; omega)), h b]
    simp [e]
section
variable {P : Program} {w : World} {K : PySem.W.Frag} {mg : Str → Option Value} {base : Heap}
theorem WebAt.fr {H H' : Hp} {x d : Addr} {n : Nat} {ts : List Tie} {kvs : List (Key × V)} (h : WebAt K H x n ts) (hd : H d = some (.dK kvs)) (f : FrX d H H') : WebAt K H' x n ts := by
  obtain ⟨dx, t, e', rows, h1, h2, h3, h4, h5⟩ := h
  exact ⟨dx, t, e', rows, f _ _ h1 (ne_of h1 hd (by intro z; cases z)), f _ _ h2 (ne_of h2 hd (by intro z; cases z)), f _ _ h3 (ne_of h3 hd (by intro z; cases z)), h4, fun k r hk => f _ _ (h5 k r hk) (ne_of (h5 k r hk) hd (by intro z; cases z))⟩
theorem dp_nats {H : Hp} {p : Addr} {l : List Nat} (h : SqL K H p (natsV l)) : Dp K H (.ref p) (.list (l.map fun b : Nat => PyData.int (b : Int))) := by
  refine .lst h ?_
  unfold natsV
  clear h
  induction l with
  | nil => exact .nil
  | cons a r ih => exact .cons (.int _) ih
theorem lay_nats : ∀ l : List Nat, PyData.canLayAll0 (l.map fun b : Nat => PyData.int (b : Int)) = true ∧ PyData.depthAll (l.map fun b : Nat => PyData.int (b : Int)) = 0
  | [] => ⟨rfl, rfl⟩
  | a :: r => by
    obtain ⟨h1, h2⟩ := lay_nats r
    refine ⟨?_, ?_⟩
    · rw [List.map_cons, PyData.canLayAll0, h1]
      rfl
    · rw [List.map_cons, PyData.depthAll, h2]
      rfl
theorem shaped_nats (l : List Nat) : SeqAt.shaped (.list (l.map fun b : Nat => PyData.int (b : Int))) = true := by
  obtain ⟨h1, h2⟩ := lay_nats l
  unfold SeqAt.shaped
  rw [PyData.canLay0, PyData.depth, h1, h2]
  rfl
theorem eqv_nats (l : List Nat) : PyData.eqv (.list (l.map fun b : Nat => PyData.int (b : Int))) (.list []) = decide (l = []) := by
  cases l with
  | nil => rfl
  | cons a r => rfl
structure Part (n : Nat) (ts : List Tie) (s : Nat) (old F : List Nat) : Prop where
  nd : F.Nodup
  at_ : ∀ x ∈ F, x < n ∧ x ∉ old ∧ Conn ts s x
  st : s ∈ F
  cl : ∀ x ∈ F, ∀ y, Adj ts x y → y ∈ F
def sp_reached (K : PySem.W.Frag) : Sp := fun vs H Q _ => ∃ (x d : Addr) (n s : Nat) (ts : List Tie) (kvs : List (Key × V)) (old : List Nat), vs = [.ref x, .int (s : Int), .ref d] ∧ n ≤ 24 ∧ WebAt K H x n ts ∧ TiesOk n ts ∧ s < n ∧ H d = some (.dK kvs) ∧ Seen kvs old ∧ s ∉ old ∧ (∀ a ∈ old, ∀ b, Adj ts a b → b ∈ old) ∧ kvs.length ≤ 1000 ∧
  ∀ (p : Addr) (kvs' : List (Key × V)) (F : List Nat) (H' : Hp), FrX d H H' → H p = none → H' p = some (.lst (natsV F)) → H' d = some (.dK kvs') → Seen kvs' (old ++ F) → kvs'.length ≤ kvs.length + F.length → Part n ts s old F → Q (.ref p) H'
theorem ok_reached (T : Txt w K mg) : Ok P w K mg base CX0 2 ("reached", none) ["web", "start", "seen"] (sp_reached K) := by
  have c_Web_tied := ok_Web_tied (P := P) (base := base) T
  refine ok0 T.f_reached sc_reached (fun vs H Q E h => by obtain ⟨_, _, _, _, _, _, _, rfl, _⟩ := h; rfl) (fun _ _ _ _ _ _ us hl => match us, hl with | [_, _, _], _ => rfl) fun f cdv A outer s H vs Q E hr h => ?_
  have nd := sc_reached.nd
  have hu := hu_of hr
  have hu64 := hr.units
  refine ⟨_, (pss_cons (ps_set (i := 3) nd rfl (Or.inl rfl) (pe_lst (pa_cons (pv 1) pa_nil)))
 (pss_cons (ps_dput hu (pv 2) (pv 1) pe_bl rfl)
 (pss_cons (ps_set (i := 4) nd rfl (Or.inl rfl) (pe_lst (pa_cons (pv 1) pa_nil)))
 (pss_cons (ps_while PassesOwn.never (pt_cmpR (op_neD hu64) (pv 4) (pe_lst pa_nil) (nomark _)) (pss_one (ps_for PassesOwn.never rfl (pi_list (pm T.k_Web T.m_Web_tied c_Web_tied hr (by decide) (pv 0) (pa_cons (pe_bm0 PySem.F.plainAttrs_list PySem.F.slot_list_pop PySem.F.type_list_pop mt_pop (pv 4)) pa_nil))) (pg_name (i := 5) nd rfl (Or.inl rfl)) (pss_one (ps_if (pt_cmp (pc_dnotin hu (pv 5) (pv 2))) (pss_cons (ps_dput hu (pv 2) (pv 5) pe_bl rfl)
 (pss_cons (ps_expr (pe_bm PySem.F.plainAttrs_list PySem.F.slot_list_append PySem.F.type_list_append mt_append (pv 3) (pa_cons (pv 5) pa_nil)))
 (pss_one (ps_expr (pe_bm PySem.F.plainAttrs_list PySem.F.slot_list_append PySem.F.type_list_append mt_append (pv 4) (pa_cons (pv 5) pa_nil)))))) pss_nil)))))
 (pss_one (ps_ret (pv 3))))))), ?_⟩
  try dsimp only [cxOf, L2.Cx.nox, L2.Cx.blk]
  obtain ⟨x, d, n, s, ts, kvs, old, rfl, hn, hw, hk, hs, hd, hse, hso, hoc, hkl, hq⟩ := h
  refine q_asgL (xs := natsV [s]) (el_lst (ea_cons (ev_var rfl) ea_nil) (by show 1 ≤ 100000; decide)) fun fo H1 f0 e1 hf => ?_
  refine q_dputK (k := .inl (s : Int)) (kvs := kvs) (v := .bl true) ev_c (ev_var rfl) (ev_var rfl) rfl (e1 _ _ hd) (by omega) fun H2 e2 => ?_
  have fd : fo ≠ d := fun q => by
    rw [q, hd] at f0
    cases f0
  have fr2 : FrX d H (upd H2 d (.dK (putK kvs (.inl (s : Int)) (.bl true)))) := fun b o hb hne => by
    rw [upd_ne hne]
    exact e2 _ _ (e1 _ _ hb)
  have f2 : (upd H2 d (.dK (putK kvs (.inl (s : Int)) (.bl true)))) fo = some (.lst (natsV [s])) := by
    rw [upd_ne fd]
    exact e2 _ _ hf
  have d2 : (upd H2 d (.dK (putK kvs (.inl (s : Int)) (.bl true)))) d = some (.dK (putK kvs (.inl (s : Int)) (.bl true))) := upd_same
  generalize upd H2 d (.dK (putK kvs (.inl (s : Int)) (.bl true))) = H3 at fr2 f2 d2 ⊢
  refine q_asgL (xs := natsV [s]) (el_lst (ea_cons (ev_var rfl) ea_nil) (by show 1 ≤ 100000; decide)) fun wt H4 w0 e4 hwt => ?_
  have wtd : wt ≠ d := fun q => by
    rw [q, d2] at w0
    cases w0
  have wtf : wt ≠ fo := fun q => by
    rw [q, f2] at w0
    cases w0
  have w0' : H wt = none := by
    cases ho : H wt with
    | none => rfl
    | some o =>
      rw [fr2 wt o ho wtd] at w0
      cases w0
  refine q_while (fun m σ' H' => ∃ (F Wt : List Nat) (ks : List (Key × V)) (b0 : Option V), σ' = [some (.ref x), some (.int (s : Int)), some (.ref d), some (.ref fo), some (.ref wt), b0] ∧ FrX d H H' ∧ H' fo = some (.lst (natsV F)) ∧ H' wt = some (.lst (natsV Wt)) ∧ H' d = some (.dK ks) ∧ Seen ks (old ++ F) ∧ ks.length ≤ kvs.length + F.length ∧
    F.Nodup ∧ (∀ x ∈ F, x < n ∧ x ∉ old ∧ Conn ts s x) ∧ s ∈ F ∧ (∀ x ∈ Wt, x ∈ F) ∧ (∀ x ∈ F, x ∉ Wt → ∀ y, Adj ts x y → y ∈ F) ∧ Wt.length ≤ F.length ∧ m = (n - F.length) + Wt.length) (n - 1 + 1) ⟨[s], [s], _, none, rfl, fun b o hb hne => e4 _ _ (fr2 b o hb hne), e4 _ _ f2, hwt, e4 _ _ d2, hse.put s _, putK_le _ _ _, by simp, fun y hy => ?_, List.mem_singleton_self _, fun y hy => hy, fun y hy hn' => absurd hy hn', Nat.le_refl _, rfl⟩ fun m σ' H' hW => ?_
  · rw [List.mem_singleton] at hy
    subst hy
    exact ⟨hs, hso, .refl⟩
  obtain ⟨F, Wt, ks, b0, rfl, fr, hF, hWt, hD, hse', hlen, hnd, hat, hst, hsub, hcl, hWF, rfl⟩ := hW
  have hFn := nodup_lt hnd fun y hy => (hat y hy).1
  refine ⟨!decide (Wt = []), et_test (ev_opL (xs := []) (x := .ref wt) (ev_var rfl) (el_lst ea_nil (by simp)) fun q H5 hq5 e5 => fun H6 e6 Q6 k6 => ⟨_, .list [], dp_nats (sq_of ((e5.trans e6) _ _ hWt)), .lst (sq_of (e6 _ _ hq5)) .nil, shaped_nats Wt, rfl, by rw [eqv_nats]; exact k6 _ (Ex.refl _)⟩), fun hb H5 e5 => ?_, fun hb H5 e5 => ?_⟩
  · have hne : Wt ≠ [] := by
      intro z
      rw [z] at hb
      cases hb
    obtain ⟨V0, p, rfl⟩ : ∃ V0 p, Wt = V0 ++ [p] := ⟨Wt.dropLast, Wt.getLast hne, (List.dropLast_concat_getLast hne).symm⟩
    have eF : Ex H' H5 := e5
    have hwx := hw.fr hd (fun b o hb hne => e5 _ _ (fr b o hb hne))
    have hW5 := e5 _ _ hWt
    have hF5 := e5 _ _ hF
    have hD5 := e5 _ _ hD
    have fr5 : FrX d H H5 := fun b o hb hne => e5 _ _ (fr b o hb hne)
    have hpF : p ∈ F := hsub p (List.mem_append_right _ (List.mem_singleton_self _))
    obtain ⟨hpn, hpo, hpc⟩ := hat p hpF
    -- the pop, then the neighbours
    have hlast : (natsV (V0 ++ [p]))[(natsV (V0 ++ [p])).length - 1]? = some (.int (p : Int)) := by
      unfold natsV
      rw [List.map_append, List.length_append]
      show ((V0.map fun b : Nat => V.int (b : Int)) ++ [V.int (p : Int)])[(V0.map fun b : Nat => V.int (b : Int)).length + 1 - 1]? = _
      rw [Nat.add_sub_cancel, List.getElem?_append_right (Nat.le_refl _), Nat.sub_self]
      rfl
    have hdrop : (natsV (V0 ++ [p])).dropLast = natsV V0 := by
      unfold natsV
      rw [List.map_append]
      exact List.dropLast_concat
    refine ⟨fun σ2 H2 => ∃ (F2 W2 : List Nat) (ks2 : List (Key × V)) (b2 : Option V), σ2 = [some (.ref x), some (.int (s : Int)), some (.ref d), some (.ref fo), some (.ref wt), b2] ∧ FrX d H H2 ∧ H2 fo = some (.lst (natsV F2)) ∧ H2 wt = some (.lst (natsV W2)) ∧ H2 d = some (.dK ks2) ∧ Seen ks2 (old ++ F2) ∧ ks2.length ≤ kvs.length + F2.length ∧
      F2.Nodup ∧ (∀ x ∈ F2, x < n ∧ x ∉ old ∧ Conn ts s x) ∧ s ∈ F2 ∧ (∀ x ∈ W2, x ∈ F2) ∧ (∀ x ∈ F2, x ∉ W2 → ∀ y, Adj ts x y → y ∈ F2) ∧ W2.length ≤ F2.length ∧ (n - F.length) + (V0 ++ [p]).length = (n - F2.length) + W2.length + 1, fun σ2 H2 h2 => ?_, ?_⟩
    · obtain ⟨F2, W2, ks2, b2, r1, r2, r3, r4, r5, r6, r7, r8, r9, r10, r11, r12, r17, r13⟩ := h2
      exact ⟨_, by omega, F2, W2, ks2, b2, r1, r2, r3, r4, r5, r6, r7, r8, r9, r10, r11, r12, r17, rfl⟩
    obtain ⟨dx, t, e', rows, i1, i2⟩ := id hwx
    have pop_fr : ∀ b o, H b = some o → (upd H5 wt (.lst (natsV V0))) b = if b = d then (upd H5 wt (.lst (natsV V0))) d else some o := fun b o hb => by
      by_cases hbd : b = d
      · rw [if_pos hbd, hbd]
      · rw [if_neg hbd, upd_ne (ne_of_none hb w0')]
        exact fr5 b o hb hbd
    have fr6 : FrX d H (upd H5 wt (.lst (natsV V0))) := fun b o hb hne => by
      rw [upd_ne (ne_of_none hb w0')]
      exact fr5 b o hb hne
    have hw6 := hw.fr hd fr6
    have hF6 : (upd H5 wt (.lst (natsV V0))) fo = some (.lst (natsV F)) := by
      rw [upd_ne (Ne.symm wtf)]
      exact hF5
    have hD6 : (upd H5 wt (.lst (natsV V0))) d = some (.dK ks) := by
      rw [upd_ne (Ne.symm wtd)]
      exact hD5
    have hW6 : (upd H5 wt (.lst (natsV V0))) wt = some (.lst (natsV V0)) := upd_same
    refine ⟨.ref x, rfl, x, dx, _, rfl, i1, rfl, .ref wt, rfl, Or.inl ⟨rfl, _, sq_of hW5⟩, wt, _, .int (p : Int), rfl, rfl, hW5, hlast, ?_⟩
    rw [hdrop]
    generalize upd H5 wt (.lst (natsV V0)) = H6 at fr6 hw6 hF6 hD6 hW6 ⊢
    refine spp_Web_tied hw6 hpn H6 (Ex.refl _) _ (fun v H7 e7 hv => ?_) E0
    obtain ⟨q, r, rfl, q0, hq7, hr⟩ := hv
    refine ⟨q, rfl, ⟨_, sq_of hq7⟩, ?_⟩
    have q0d : q ≠ d := fun z => by
      rw [z, hD6] at q0
      cases q0
    have qf : q ≠ fo := fun z => by
      rw [z, hF6] at q0
      cases q0
    have qw : q ≠ wt := fun z => by
      rw [z, hW6] at q0
      cases q0
    refine for_list (xs := natsV r) (fun i σ2 H2 => ∃ (F2 W2 : List Nat) (ks2 : List (Key × V)) (b2 : Option V), σ2 = [some (.ref x), some (.int (s : Int)), some (.ref d), some (.ref fo), some (.ref wt), b2] ∧ FrX d H H2 ∧ H2 q = some (.lst (natsV r)) ∧ H2 fo = some (.lst (natsV F2)) ∧ H2 wt = some (.lst (natsV W2)) ∧ H2 d = some (.dK ks2) ∧ Seen ks2 (old ++ F2) ∧ ks2.length ≤ kvs.length + F2.length ∧
      F2.Nodup ∧ (∀ x ∈ F2, x < n ∧ x ∉ old ∧ Conn ts s x) ∧ s ∈ F2 ∧ p ∈ F2 ∧ (∀ x ∈ W2, x ∈ F2) ∧ (∀ x ∈ F2, x ∉ W2 → x ≠ p → ∀ y, Adj ts x y → y ∈ F2) ∧ (∀ y ∈ r.take i, y ∈ F2) ∧ W2.length ≤ F2.length ∧ (n - F.length) + (V0 ++ [p]).length = (n - F2.length) + W2.length + 1) ⟨F, V0, ks, b0, rfl, fun b o hb hne => e7 _ _ (fr6 b o hb hne), hq7, e7 _ _ hF6, e7 _ _ hW6, e7 _ _ hD6, hse', hlen, hnd, hat, hst, hpF, fun y hy => hsub y (List.mem_append_left _ hy), fun y hy hn' hp y2 ha => hcl y hy (fun z => ?_) y2 ha, fun y hy => absurd hy (by simp), by rw [List.length_append] at hWF; omega, by rw [List.length_append]; rfl⟩ (fun i σ2 H2 _ pv => ?_) (fun i v σ2 H2 hv pv => ?_) fun σ2 H2 pv => ?_
    · rcases List.mem_append.mp z with z | z
      · exact hn' z
      · exact hp (List.mem_singleton.mp z)
    · obtain ⟨_, _, _, _, _, _, r3, _⟩ := pv
      exact sq_of r3
    · obtain ⟨F2, W2, ks2, b2, rfl, r2, r3, r4, r5, r6, r7, r8, r9, r10, r11, r12, r13, r14, r15, r17, r16⟩ := pv
      obtain ⟨y, hy, rfl⟩ : ∃ y, r[i]? = some y ∧ v = .int (y : Int) := by
        unfold natsV at hv
        rw [List.getElem?_map] at hv
        obtain ⟨y, h1, h2⟩ := Option.map_eq_some_iff.mp hv
        exact ⟨y, h1, h2.symm⟩
      have hadj : Adj ts p y := mem_ends.mp (hr.1.mem_iff.mp (List.mem_of_getElem? hy))
      have hyn := (adj_lt hk hadj).2.1
      have hyo : y ∉ old := fun z => hpo (hoc y z p hadj.symm)
      have hF2n := nodup_lt r9 fun y hy => (r10 y hy).1
      show tIfS _ _ _ _ ([some (.ref x), some (.int (s : Int)), some (.ref d), some (.ref fo), some (.ref wt), b2].set 5 (some (.int (y : Int)))) H2
      refine s_when (b := !decide (y ∈ F2)) (et_is (et_B (ev_dnin (ev_var rfl) (ev_var rfl) (dg_k (k := .inl (y : Int)) (.inl r6)))) ?_) (fun hb H8 e8 => ?_) fun hb H8 e8 => ?_
      · rw [r7 y]
        congr 1
        exact decide_eq_decide.mpr ⟨fun z => (List.mem_append.mp z).resolve_left hyo, fun z => List.mem_append_right _ z⟩
      · have hyF : y ∉ F2 := by
          rw [Bool.not_eq_true'] at hb
          exact of_decide_eq_false hb
        have nd2 : (F2 ++ [y]).Nodup := nd_snoc r9 hyF
        have len2 : (F2 ++ [y]).length ≤ n := nodup_lt nd2 fun z hz => by
          rcases List.mem_append.mp hz with hz | hz
          · exact (r10 z hz).1
          · rw [List.mem_singleton.mp hz]
            exact hyn
        rw [List.length_append] at len2
        have len2 : F2.length + 1 ≤ n := len2
        refine q_dputK (k := .inl (y : Int)) (kvs := ks2) (v := .bl true) ev_c (ev_var rfl) (ev_var rfl) rfl (e8 _ _ r6) (by omega) fun H9 e9 => ?_
        have up9 : ∀ {b : Addr} {o : List V}, H2 b = some (.lst o) → (upd H9 d (.dK (putK ks2 (.inl (y : Int)) (.bl true)))) b = some (.lst o) := fun hb => by
          rw [upd_ne (ne_of hb r6 (by intro z; cases z))]
          exact e9 _ _ (e8 _ _ hb)
        have q9 := up9 r3
        have f9 := up9 r4
        have w9 := up9 r5
        have d9 : (upd H9 d (.dK (putK ks2 (.inl (y : Int)) (.bl true)))) d = some (.dK (putK ks2 (.inl (y : Int)) (.bl true))) := upd_same
        have fr9 : FrX d H (upd H9 d (.dK (putK ks2 (.inl (y : Int)) (.bl true)))) := fun b o hb hne => by
          rw [upd_ne hne]
          exact e9 _ _ (e8 _ _ (r2 b o hb hne))
        generalize upd H9 d (.dK (putK ks2 (.inl (y : Int)) (.bl true))) = G1 at q9 f9 w9 d9 fr9 ⊢
        refine q_app (l := fo) (v := .int (y : Int)) f9 (ev_var rfl) (ev_var rfl) (by unfold natsV; rw [List.length_map]; omega) fun G2 e10 => ?_
        have up11 : ∀ {b : Addr} {o : HO}, b ≠ fo → G1 b = some o → (upd G2 fo (.lst (natsV F2 ++ [.int (y : Int)]))) b = some o := fun hne hb => by
          rw [upd_ne hne]
          exact e10 _ _ hb
        have q11 := up11 qf q9
        have w11 := up11 wtf w9
        have d11 := up11 (Ne.symm fd) d9
        have f11 : (upd G2 fo (.lst (natsV F2 ++ [.int (y : Int)]))) fo = some (.lst (natsV (F2 ++ [y]))) := by
          rw [upd_same]
          unfold natsV
          rw [List.map_append]
          rfl
        have fr11 : FrX d H (upd G2 fo (.lst (natsV F2 ++ [.int (y : Int)]))) := fun b o hb hne => up11 (ne_of_none hb f0) (fr9 b o hb hne)
        generalize upd G2 fo (.lst (natsV F2 ++ [.int (y : Int)])) = G3 at q11 w11 d11 f11 fr11 ⊢
        have W2n : W2.length ≤ 100 := by
          omega
        refine s_app (l := wt) (v := .int (y : Int)) w11 (ev_var rfl) (ev_var rfl) (by unfold natsV; rw [List.length_map]; omega) fun G4 e12 => ?_
        have up13 : ∀ {b : Addr} {o : HO}, b ≠ wt → G3 b = some o → (upd G4 wt (.lst (natsV W2 ++ [.int (y : Int)]))) b = some o := fun hne hb => by
          rw [upd_ne hne]
          exact e12 _ _ hb
        refine ⟨F2 ++ [y], W2 ++ [y], _, _, rfl, fun b o hb hne => up13 (ne_of_none hb w0') (fr11 b o hb hne), up13 qw q11, up13 (Ne.symm wtf) f11, ?_, up13 (Ne.symm wtd) d11, ?_, ?_, nd2, ?_, List.mem_append_left _ r11, List.mem_append_left _ r12, ?_, ?_, ?_, ?_, ?_⟩
        · rw [upd_same]
          unfold natsV
          rw [List.map_append]
          rfl
        · rw [← List.append_assoc]
          exact r7.put y _
        · have := putK_le ks2 (.inl (y : Int)) (.bl true)
          rw [List.length_append]
          show _ ≤ _ + (_ + 1)
          omega
        · intro z hz
          rcases List.mem_append.mp hz with hz | hz
          · exact r10 z hz
          · rw [List.mem_singleton.mp hz]
            exact ⟨hyn, hyo, hpc.step hadj⟩
        · intro z hz
          rcases List.mem_append.mp hz with hz | hz
          · exact List.mem_append_left _ (r13 z hz)
          · exact List.mem_append_right _ hz
        · intro z hz hzw hzp y2 ha
          rcases List.mem_append.mp hz with hz | hz
          · exact List.mem_append_left _ (r14 z hz (fun q => hzw (List.mem_append_left _ q)) hzp y2 ha)
          · exact absurd (List.mem_append_right W2 hz) hzw
        · rw [take_snoc hy]
          intro z hz
          rcases List.mem_append.mp hz with hz | hz
          · exact List.mem_append_left _ (r15 z hz)
          · exact List.mem_append_right _ hz
        · simp only [List.length_append, List.length_cons, List.length_nil]
          omega
        · simp only [List.length_append, List.length_cons, List.length_nil] at r16 ⊢
          omega
      · have hyF : y ∈ F2 := by
          rw [Bool.not_eq_false'] at hb
          exact of_decide_eq_true hb
        refine ⟨F2, W2, ks2, _, rfl, fun b o hb hne => e8 _ _ (r2 b o hb hne), e8 _ _ r3, e8 _ _ r4, e8 _ _ r5, e8 _ _ r6, r7, r8, r9, r10, r11, r12, r13, r14, ?_, r17, r16⟩
        rw [take_snoc hy]
        intro z hz
        rcases List.mem_append.mp hz with hz | hz
        · exact r15 z hz
        · rw [List.mem_singleton.mp hz]
          exact hyF
    · obtain ⟨F2, W2, ks2, b2, rfl, r2, r3, r4, r5, r6, r7, r8, r9, r10, r11, r12, r13, r14, r15, r17, r16⟩ := pv
      refine ⟨F2, W2, ks2, b2, rfl, r2, r4, r5, r6, r7, r8, r9, r10, r11, r13, fun z hz hzw y2 ha => ?_, r17, r16⟩
      by_cases hzp : z = p
      · subst hzp
        refine r15 y2 ?_
        have : (natsV r).length = r.length := by
          unfold natsV
          exact List.length_map _
        rw [this, List.take_length]
        exact hr.1.mem_iff.mpr (mem_ends.mpr ha)
      · exact r14 z hz hzw hzp y2 ha
  · have hW0 : Wt = [] := by
      rw [Bool.not_eq_false'] at hb
      exact of_decide_eq_true hb
    subst hW0
    refine s_ret (v := .ref fo) (ev_var rfl) fun H6 e6 => ?_
    have e56 := e5.trans e6
    exact hq fo ks F H6 (fun b o hb hne => e56 _ _ (fr b o hb hne)) f0 (e56 _ _ hF) (e56 _ _ hD) hse' hlen ⟨hnd, hat, hst, fun y hy => hcl y hy List.not_mem_nil⟩
end
end KD
set_option maxHeartbeats 2000000
/-! parts; a walk refused -/
namespace KD
open PySem PySem.Spec PyProof.Rows L2 Evl
section
variable {K : PySem.W.Frag} {σ : L2.St} {H : Hp} {tl te : TE} {t : TT}
/-- a comprehension over a list of which more is said -/
theorem ep_lcG {β : Type} {Γ : β → List V → Hp → Prop} {j : Nat} {vs : List Nat} (f : β → List V → Nat → Bool) (v : β → List V → Nat → V) (h : EvP tl σ H fun w H1 => ∃ b a xs, w = .ref a ∧ H1 a = some (.lst xs) ∧ Γ b xs H1)
    (hz : ∀ b xs H1, Γ b xs H1 → xs.length ≤ 40000) (hm : ∀ b xs H1 H2, Γ b xs H1 → Ex H1 H2 → Γ b xs H2) (hw : ∀ x, wipe ((wipe σ vs).set j (some x)) vs = wipe σ vs)
    (ht : ∀ b xs H1, Γ b xs H1 → ∀ (i : Nat) (x : V), xs[i]? = some x → EvT t ((wipe σ vs).set j (some x)) H1 (f b xs i)) (he : ∀ b xs H1, Γ b xs H1 → ∀ (i : Nat) (x : V), xs[i]? = some x → f b xs i = true → Ev te ((wipe σ vs).set j (some x)) H1 (v b xs i)) :
    EvP (tLc (iList K tl) (gName j) t te vs) σ H fun w H1 => ∃ b Dl xs, w = .ref Dl ∧ H Dl = none ∧ H1 Dl = some (.lst (given xs.length (f b xs) (v b xs))) ∧ Γ b xs H1 := fun H1 e1 Q k => h H1 e1 _ fun w H2 e2 hv => by
  obtain ⟨b, a, xs, rfl, ha, hg⟩ := hv
  have g := el_lcL (K := K) (σ := σ) (H := H2) (tl := fun _ H Q => Q (.ref a) H) (j := j) (vs := vs) (t := t) (te := te) (f b xs) (v b xs) (fun H3 e3 Q q => q H3 (Ex.refl _)) (sq_of ha) (hz b xs H2 hg) hw (fun i x H3 e3 hx => ht b xs H3 (hm b xs H2 H3 hg e3) i x hx) (fun i x H3 e3 hx hf => he b xs H3 (hm b xs H2 H3 hg e3) i x hx hf)
  exact g H2 (Ex.refl _) Q fun p H3 hp e3 h3 => k _ H3 (e2.trans e3) ⟨b, p, xs, rfl, fresh_back (e1.trans e2) hp, h3, hm b xs H2 H3 hg e3⟩
def EvTP (tt : TT) (σ : L2.St) (H : Hp) (Φ : Bool → Hp → Prop) : Prop := ∀ H1, Ex H H1 → ∀ Q : Bool → Hp → Prop, (∀ b H2, Ex H1 H2 → Φ b H2 → Q b H2) → tt σ H1 Q
theorem et_ltP {ta : TE} {c : Int} {Φ : Int → Hp → Prop} (h : EvP ta σ H fun v H1 => ∃ m, v = .int m ∧ Φ m H1) : EvTP (tTest (tOp (rI0 fun i j => V.bl (decide (i < j))) ta (L2.tC (V.int c)))) σ H fun b H1 => ∃ m, b = decide (m < c) ∧ Φ m H1 := fun H1 e1 Q k =>
  h H1 e1 _ fun v H2 e2 ⟨m, ev, hm⟩ => ⟨m, c, ev, rfl, _, rfl, k _ H2 e2 ⟨m, rfl, hm⟩⟩
theorem ep_minD {d : Int} {Γ : List Int → Hp → Prop} (h : EvP te σ H fun v H1 => ∃ ns p, v = .ref p ∧ H1 p = some (.lst (ns.map V.int)) ∧ Γ ns H1) : EvP (tCKw (rMinD K) (tCons te tNil) (tCons (L2.tC (V.int d)) tNil)) σ H fun v H1 => ∃ m, v = .int m ∧ ∃ ns, Γ ns H1 ∧ (ns = [] → m = d) ∧ (ns ≠ [] → m ∈ ns ∧ ∀ n ∈ ns, m ≤ n) := fun H1 e1 Q k =>
  h H1 e1 _ fun v H2 e2 ⟨ns, p, ev, hp, hg⟩ => ⟨p, ns, d, by rw [ev], rfl, sq_of hp, fun m h0 h1 => k _ H2 e2 ⟨m, rfl, ns, hg, h0, h1⟩⟩
theorem q_whenP {D : Ends} {tu tz : TS} {Φ : Bool → Hp → Prop} (h : EvTP t σ H Φ) (k : ∀ b H1, Ex H H1 → Φ b H1 → if b = true then tu { D with nx := tz D } σ H1 else tz D σ H1) : tSeq (tIfS t tu tNext) tz D σ H := h H (Ex.refl H) _ fun b H1 e1 hb => k b H1 e1 hb
end
section
variable {P : Program} {w : World} {K : PySem.W.Frag} {mg : Str → Option Value} {base : Heap}
structure PartsOk (n : Nat) (ts : List Tie) (ps : List (List Nat)) : Prop where
  conn : ∀ p ∈ ps, ∀ x ∈ p, ∀ y ∈ p, Conn ts x y
  cl : ∀ p ∈ ps, ∀ x ∈ p, ∀ y, Adj ts x y → y ∈ p
  nd : ∀ p ∈ ps, p.Nodup
  cover : ∀ a, a < n → ∃ p ∈ ps, a ∈ p
  few : ps.length ≤ n
def RefLists (H : Hp) (refs : List Addr) (ps : List (List Nat)) : Prop := refs.length = ps.length ∧ ∀ (j : Nat) (r : Addr) (p : List Nat), refs[j]? = some r → ps[j]? = some p → H r = some (.lst (natsV p))
def PartsAt (n : Nat) (ts : List Tie) (v : V) (H : Hp) : Prop := ∃ (q : Addr) (refs : List Addr) (ps : List (List Nat)), v = .ref q ∧ H q = some (.lst (refs.map V.ref)) ∧ RefLists H refs ps ∧ PartsOk n ts ps
def sp_parts (K : PySem.W.Frag) : Sp := fun vs H Q _ => ∃ (x o : Addr) (n : Nat) (ts : List Tie), vs = [.ref x, .ref o] ∧ n ≤ 24 ∧ WebAt K H x n ts ∧ TiesOk n ts ∧ H o = some (.lst []) ∧ ∀ v H', Ex H H' → PartsAt n ts v H' → Q v H'
theorem ok_parts (T : Txt w K mg) : Ok P w K mg base CX0 3 ("parts", none) ["web", "out"] (sp_parts K) := by
  have c_reached := ok_reached (P := P) (base := base) T
  have c_Web_size := ok_Web_size (P := P) (base := base) T
  refine ok0 T.f_parts sc_parts (fun vs H Q E h => by obtain ⟨_, _, _, _, rfl, _⟩ := h; rfl) (fun _ _ _ _ _ _ us hl => match us, hl with | [_, _], _ => rfl) fun f cdv A outer s H vs Q E hr h => ?_
  have nd := sc_parts.nd
  have hu := hu_of hr
  have hu64 := hr.units
  refine ⟨_, (pss_cons (ps_set (i := 2) nd rfl (Or.inl rfl) pe_dnewK)
 (pss_cons (ps_for PassesOwn.never rfl (pi_list (pv 1)) (pg_name (i := 3) nd rfl (Or.inl rfl)) (pss_one (ps_dput hu (pv 2) (pv 3) pe_bl rfl)))
 (pss_cons (ps_set (i := 4) nd rfl (Or.inl rfl) (pe_lst pa_nil))
 (pss_cons (ps_for PassesOwn.never rfl (pi_range1 (by rfl) T.n_range (pa_cons (pm0 T.k_Web T.m_Web_size c_Web_size hr (by decide) (pv 0)) pa_nil)) (pg_name (i := 3) nd rfl (Or.inl rfl)) (pss_one (ps_if (pt_cmp (pc_dnotin hu (pv 3) (pv 2))) (pss_one (ps_expr (pe_bm PySem.F.plainAttrs_list PySem.F.slot_list_append PySem.F.type_list_append mt_append (pv 4) (pa_cons (pe_callB cr_sortedI (by rfl) T.n_sorted (by decide +kernel) (pa_cons (pc c_reached hr (by decide) T.g_reached (pa_cons (pv 0) (pa_cons (pv 3) (pa_cons (pv 2) pa_nil)))) pa_nil)) pa_nil)))) pss_nil)))
 (pss_one (ps_ret (pv 4))))))), ?_⟩
  try dsimp only [cxOf, L2.Cx.nox, L2.Cx.blk]
  obtain ⟨x, o, n, ts, rfl, hn, hw, hk, ho, hq⟩ := h
  refine q_asgP ep_newK fun v H1 e1 hv => ?_
  obtain ⟨d, rfl, d0, d1⟩ := hv
  refine q_forLn (xs := []) (ev_var rfl) (sq_of (e1 _ _ ho)) (fun i σ' H' => σ' = [some (.ref x), some (.ref o), some (.ref d), none, none] ∧ Ex H1 H') (fun H2 e2 => ⟨rfl, e2⟩) (fun i σ' H' _ pv => sq_of (pv.2 _ _ (e1 _ _ ho))) (fun i v σ' H' hv pv => absurd hv (by simp)) fun σ' H' pv => ?_
  obtain ⟨rfl, e2⟩ := pv
  refine q_asgL (el_lst ea_nil (by simp)) fun fo H3 f0 e3 hf => ?_
  have e13 := e1.trans (e2.trans e3)
  have hd3 := e3 _ _ (e2 _ _ d1)
  have f0' : H fo = none := fresh_back (e1.trans e2) f0
  have fd : fo ≠ d := ne_of hf hd3 (by intro z; cases z)
  refine q_forR1 (n := (n : Int)) (ea_cons (ev_size (ev_var rfl) (hw.mono e13)) ea_nil) (by omega) (fun i σ' H' => ∃ (a : Option V) (old : List Nat) (ks : List (Key × V)) (refs : List Addr) (ps : List (List Nat)), σ' = [some (.ref x), some (.ref o), some (.ref d), a, some (.ref fo)] ∧ Ex H H' ∧ H' d = some (.dK ks) ∧ Seen ks old ∧ ks.length ≤ old.length ∧ old.Nodup ∧ (∀ a ∈ old, a < n) ∧ (∀ a ∈ old, ∀ b, Adj ts a b → b ∈ old) ∧
    H' fo = some (.lst (refs.map V.ref)) ∧ RefLists H' refs ps ∧ (∀ r ∈ refs, r ≠ d ∧ r ≠ fo) ∧ (∀ p ∈ ps, ∀ x ∈ p, ∀ y ∈ p, Conn ts x y) ∧ (∀ p ∈ ps, ∀ x ∈ p, ∀ y, Adj ts x y → y ∈ p) ∧ (∀ p ∈ ps, p.Nodup) ∧ (∀ a, a < i → a ∈ old) ∧ (∀ a ∈ old, ∃ p ∈ ps, a ∈ p) ∧ ps.length ≤ i)
    (fun H4 e4 => ⟨none, [], [], [], [], rfl, e13.trans e4, e4 _ _ hd3, fun b => rfl, Nat.le_refl _, List.nodup_nil, fun a h => absurd h List.not_mem_nil, fun a h => absurd h List.not_mem_nil, e4 _ _ hf, ⟨rfl, fun j r p h => by simp at h⟩, fun r h => absurd h List.not_mem_nil, fun p h => absurd h List.not_mem_nil, fun p h => absurd h List.not_mem_nil, fun p h => absurd h List.not_mem_nil, fun a h => absurd h (Nat.not_lt_zero _), fun a h => absurd h List.not_mem_nil, Nat.le_refl _⟩) (fun i σ' H' hi pv => ?hs) fun σ' H' pv => ?_
  case hs =>
    obtain ⟨a0, old, ks, refs, ps, rfl, r1, r2, r3, r4, r5, r6, r7, r8, r9, r10, r11, r12, r13, r14, r15, r16⟩ := pv
    have hin : i < n := by omega
    have oldn := nodup_lt r5 r6
    refine s_when (b := !decide (i ∈ old)) (et_is (et_B (ev_dnin (ev_var rfl) (ev_var rfl) (dg_k (k := .inl (i : Int)) (.inl r2)))) (by rw [r3 i])) (fun hb H5 e5 => ?_) fun hb H5 e5 => ?_
    · have hio : i ∉ old := by
        rw [Bool.not_eq_true'] at hb
        exact of_decide_eq_false hb
      have d5 := e5 _ _ r2
      have f5 := e5 _ _ r8
      refine ⟨.ref fo, rfl, Or.inl ⟨rfl, _, sq_of f5⟩, .ref x, rfl, .int (i : Int), rfl, .ref d, rfl, ?_⟩
      refine ⟨x, d, n, i, ts, ks, old, rfl, hn, hw.mono (r1.trans e5), hk, hin, d5, r3, hio, r7, by omega, fun p ks' F H6 fr p0 hp hd hse hlen hpart => ?_⟩
      have e56 : ∀ b o, H5 b = some o → b ≠ d → H6 b = some o := fr
      have pd : p ≠ d := fun z => by
        rw [z, d5] at p0
        cases p0
      dsimp only [tNil]
      refine rcp_sortN (sq_of hp) H6 (Ex.refl _) _ fun v H7 e7 hv => ?_
      obtain ⟨q, l, rfl, q0, hql, hperm, _⟩ := hv
      have f7 : H7 fo = some (.lst (refs.map V.ref)) := e7 _ _ (e56 _ _ f5 fd)
      have qd : q ≠ d := fun z => by
        rw [z, hd] at q0
        cases q0
      have qf : q ≠ fo := fun z => by
        rw [z, e56 _ _ f5 fd] at q0
        cases q0
      have q05 : H5 q = none := by
        cases hq5 : H5 q with
        | none => rfl
        | some o =>
          rw [e56 q o hq5 qd] at q0
          cases q0
      have memF : ∀ y, y ∈ l ↔ y ∈ F := fun y => hperm.mem_iff
      have rlen : refs.length ≤ 24 := by
        rw [r9.1]
        omega
      refine ⟨fo, refs.map V.ref, .ref q, rfl, rfl, f7, sz_lt (by rw [List.length_map]; omega), ?_⟩
      have up : ∀ {b : Addr} {o : HO}, b ≠ fo → H7 b = some o → (upd H7 fo (.lst (refs.map V.ref ++ [.ref q]))) b = some o := fun hne hb => by
        rw [upd_ne hne]
        exact hb
      have dn : ∀ {b : Addr} {o : HO}, H b = some o → b ≠ d := fun hb => ne_of_none hb d0
      have ndF : (old ++ F).Nodup := by
        rw [List.nodup_append]
        exact ⟨r5, hpart.nd, fun a ha b hb e => (hpart.at_ b hb).2.1 (e ▸ ha)⟩
      refine ⟨_, old ++ F, ks', refs ++ [q], ps ++ [l], rfl, fun b o hb => up (ne_of_none hb f0') (e7 _ _ (e56 _ _ (e5 _ _ (r1 _ _ hb)) (dn hb))), up (Ne.symm fd) (e7 _ _ hd), hse, by rw [List.length_append]; omega, ndF, ?_, ?_, ?_, ?_, ?_, ?_, ?_, ?_, ?_, ?_, ?_⟩
      · intro a ha
        rcases List.mem_append.mp ha with ha | ha
        · exact r6 a ha
        · exact (hpart.at_ a ha).1
      · intro a ha b hab
        rcases List.mem_append.mp ha with ha | ha
        · exact List.mem_append_left _ (r7 a ha b hab)
        · exact List.mem_append_right _ (hpart.cl a ha b hab)
      · rw [upd_same, List.map_append]
        rfl
      · refine ⟨by rw [List.length_append, List.length_append, r9.1]; rfl, fun j r p' hr hp' => ?_⟩
        by_cases hj : j < refs.length
        · rw [List.getElem?_append_left hj] at hr
          rw [List.getElem?_append_left (by rw [← r9.1]; exact hj)] at hp'
          have hm := r10 r (List.mem_of_getElem? hr)
          exact up hm.2 (e7 _ _ (e56 _ _ (e5 _ _ (r9.2 j r p' hr hp')) hm.1))
        · have hj2 : j = refs.length := by
            have := (List.getElem?_eq_some_iff.mp hr).1
            rw [List.length_append] at this
            simp at this
            omega
          subst hj2
          rw [List.getElem?_append_right (Nat.le_refl _), Nat.sub_self] at hr
          rw [List.getElem?_append_right (by rw [r9.1]; exact Nat.le_refl _), r9.1, Nat.sub_self] at hp'
          cases hr
          cases hp'
          exact up qf hql
      · intro r hr
        rcases List.mem_append.mp hr with hr | hr
        · exact r10 r hr
        · rw [List.mem_singleton.mp hr]
          exact ⟨qd, qf⟩
      · intro p' hp' y hy z hz
        rcases List.mem_append.mp hp' with hp' | hp'
        · exact r11 p' hp' y hy z hz
        · rw [List.mem_singleton.mp hp'] at hy hz
          exact ((hpart.at_ y ((memF y).mp hy)).2.2).symm.trans (hpart.at_ z ((memF z).mp hz)).2.2
      · intro p' hp' y hy z hz
        rcases List.mem_append.mp hp' with hp' | hp'
        · exact r12 p' hp' y hy z hz
        · rw [List.mem_singleton.mp hp'] at hy ⊢
          exact (memF z).mpr (hpart.cl y ((memF y).mp hy) z hz)
      · intro p' hp'
        rcases List.mem_append.mp hp' with hp' | hp'
        · exact r13 p' hp'
        · rw [List.mem_singleton.mp hp']
          exact hperm.nodup_iff.mpr hpart.nd
      · intro a ha
        by_cases hai : a = i
        · subst hai
          exact List.mem_append_right _ hpart.st
        · exact List.mem_append_left _ (r14 a (by omega))
      · intro a ha
        rcases List.mem_append.mp ha with ha | ha
        · obtain ⟨p', h1, h2⟩ := r15 a ha
          exact ⟨p', List.mem_append_left _ h1, h2⟩
        · exact ⟨l, List.mem_append_right _ (List.mem_singleton_self _), (memF a).mpr ha⟩
      · rw [List.length_append]
        show ps.length + 1 ≤ i + 1
        omega
    · have hio : i ∈ old := by
        rw [Bool.not_eq_false'] at hb
        exact of_decide_eq_true hb
      refine ⟨_, old, ks, refs, ps, rfl, r1.trans e5, e5 _ _ r2, r3, r4, r5, r6, r7, e5 _ _ r8, ⟨r9.1, fun j r p h1 h2 => e5 _ _ (r9.2 j r p h1 h2)⟩, r10, r11, r12, r13, fun a ha => ?_, r15, by omega⟩
      by_cases hai : a = i
      · subst hai
        exact hio
      · exact r14 a (by omega)
  obtain ⟨a0, old, ks, refs, ps, rfl, r1, r2, r3, r4, r5, r6, r7, r8, r9, r10, r11, r12, r13, r14, r15, r16⟩ := pv
  refine s_ret (v := .ref fo) (ev_var rfl) fun H5 e5 => ?_
  exact hq _ H5 (r1.trans e5) ⟨fo, refs, ps, rfl, e5 _ _ r8, ⟨r9.1, fun j r p h1 h2 => e5 _ _ (r9.2 j r p h1 h2)⟩, r11, r12, r13, fun a ha => r15 a (r14 a (by omega)), by omega⟩
def sp_refuse_unfit (K : PySem.W.Frag) : Sp := fun vs H Q E => ∃ (x : Addr) (n home : Nat) (ts : List Tie), vs = [.ref x, .int (home : Int)] ∧ n ≤ 24 ∧ WebAt K H x n ts ∧ TiesOk n ts ∧ ((∃ t ∈ ts, t.2.2 < 0) → ∀ H', Ex H H' → E (.ref (He.ga K "BelowNought")) none H') ∧
  ((¬ ∃ t ∈ ts, t.2.2 < 0) → (∃ t ∈ ts, ¬ Conn ts home t.1) ∧ ∀ H', Ex H H' → E (.ref (He.ga K "Apart")) none H')
theorem inV_nats (a : Nat) (l : List Nat) : inV (.int (a : Int)) (natsV l) = decide (a ∈ l) := by
  unfold inV natsV
  rw [List.any_map]
  by_cases h : a ∈ l
  · rw [decide_eq_true h, List.any_eq_true]
    exact ⟨a, h, by simp [eqV]⟩
  · rw [decide_eq_false h, List.any_eq_false]
    intro b hb e
    have : (b : Int) = (a : Int) := by simpa [eqV] using e
    exact h (by rw [show a = b by omega]; exact hb)
theorem flat_nats (l : List Nat) : (natsV l).all flatV = true := by
  unfold natsV
  rw [List.all_map, List.all_eq_true]
  exact fun _ _ => rfl
theorem given_yesAll (n : Nat) (v : Nat → V) : given n (fun _ => true) v = (List.range n).map v := by
  unfold given
  rw [filter_yes]
theorem given_get {n : Nat} {v : Nat → V} {xs : List V} (hl : xs.length = n) (h : ∀ i, i < n → xs[i]? = some (v i)) : (List.range n).map v = xs := by
  refine List.ext_getElem? fun i => ?_
  rw [List.getElem?_map]
  by_cases hi : i < n
  · rw [List.getElem?_range hi, h i hi]
    rfl
  · rw [List.getElem?_eq_none (by rw [List.length_range]; omega), List.getElem?_eq_none (by omega)]
    rfl
theorem conn_self {n : Nat} {ts : List Tie} (h : TiesOk n ts) {home : Nat} {p : List Nat} (hn : p.Nodup) (hc : ∀ x ∈ p, ∀ y ∈ p, Conn ts x y) (hh : home ∈ p) (hl : 1 < p.length) : True := True.intro
theorem ok_refuse_unfit (T : Txt w K mg) : Ok P w K mg base (L2.CX P w) 4 ("refuse_unfit", none) ["web", "home"] (sp_refuse_unfit K) := by
  have c_parts := ok_parts (P := P) (base := base) T
  have c_Web_ties := ok_Web_ties (P := P) (base := base) T
  refine okX T.f_refuse_unfit sc_refuse_unfit (fun vs H Q E h => by obtain ⟨_, _, _, _, rfl, _⟩ := h; rfl) (fun _ _ _ _ _ _ us hl => match us, hl with | [_, _], _ => rfl) fun f cdv A outer s H vs Q E hr h => ?_
  have nd := sc_refuse_unfit.nd
  have hu := hu_of hr
  have hu64 := hr.units
  refine ⟨_, (pss_cons (ps_if (pt_cmpR op_lt (pe_minD rfl hu64 (pe_lc (own := [("tie", 4)]) (g := gName 4) rfl nd (pi_list (pm0 T.k_Web T.m_Web_ties c_Web_ties hr (by decide) (pv 0))) (blkOk_by (N := ["web", "home", "tied", "part", "tie"]) (own := [("tie", 4)]) (sc := defScope s_refuse_unfit) (by decide +kernel)) (fun _ _ _ _ _ => (pg_name (i := 4) nd rfl (Or.inl rfl))) (fun _ _ _ _ _ => pts_nil) (fun _ _ _ _ _ => (pe_ix (ix_tupK (K := K)) (pv 4) pe_int (fun _ _ => rfl)))) pe_int T.n_min) pe_int (nomark _)) (pss_one (ps_raise rfl (takes_of rfl rfl rfl rfl) (pmk_own PySem.F.excBase_ValueError T.x_BelowNought T.g_BelowNought T.p_BelowNought (raises_own T.b_BelowNought T.t_BelowNought) rfl))) pss_nil)
 (pss_cons (ps_setLc (i := 2) (own := [("part", 3)]) (g := gName 3) rfl nd rfl rfl (sw_true rfl rfl rfl (by decide +kernel)) (pi_list (pc c_parts hr (by decide) T.g_parts (pa_cons (pv 0) (pa_cons (pe_lst pa_nil) pa_nil)))) (blkOk_by (N := ["web", "home", "tied", "part", "tie"]) (own := [("part", 3)]) (sc := defScope s_refuse_unfit) (by decide +kernel)) (fun _ _ _ _ _ => (pg_name (i := 3) nd rfl (Or.inl rfl))) (fun _ _ _ _ _ => (pts_one (pt_cmpR op_gt (pe_callB (call_len_seqK (K := K)) (by rfl) T.n_len (by decide +kernel) (pa_cons (pv 3) pa_nil)) pe_int (nomark _)))) (fun _ _ _ _ _ => (pv 3)))
 (pss_one (ps_if (PW.pt (pw_or (pt_cmpR op_gt (pe_callB call_len_seq (by rfl) T.n_len (by decide +kernel) (pa_cons (pv 2) pa_nil)) pe_int (nomark _)) (pw_or1 (PW.pt (pw_and (pt_cmpR (op_neD hu64) (pv 2) (pe_lst pa_nil) (nomark _)) (pw_and1 (pt_cmpR op_notIn_seq (pv 1) (pe_ix ix_list (pv 2) pe_int (fun _ _ => rfl)) rfl))))))) (pss_one (ps_raise rfl (takes_of rfl rfl rfl rfl) (pmk_own PySem.F.excBase_ValueError T.x_Apart T.g_Apart T.p_Apart (raises_own T.b_Apart T.t_Apart) rfl))) pss_nil)))), ?_⟩
  try dsimp only [cxOf, L2.Cx.nox, L2.Cx.blk]
  obtain ⟨x, n, home, ts, rfl, hn, hw, hk, hneg, hap⟩ := h
  have hw' := hw
  obtain ⟨dx, tt, te, rows, i1, i2⟩ := hw'
  have hlist : EvP (tLc (iList K (tM (He.ga K "Web") "ties" (sp_Web_ties K) E0 (tVar 0) tNil)) (gName 4) tYes (tOp (rIxT K) (tVar 4) (L2.tC (V.int 2))) [4]) (L2.start ["web", "home", "tied", "part", "tie"] [V.ref x, V.int (home : Int)]) H fun v H1 => ∃ (ns : List Int) (p : Addr), v = .ref p ∧ H1 p = some (.lst (ns.map V.int)) ∧ ∃ us : List Tie, us.Perm ts ∧ ns = us.map (·.2.2) := by
    refine EvP.imp (ep_lcG (t := tYes) (te := tOp (rIxT K) (tVar 4) (L2.tC (V.int 2))) (j := 4) (vs := [4]) (tl := tM (He.ga K "Web") "ties" (sp_Web_ties K) E0 (tVar 0) tNil) (σ := L2.start ["web", "home", "tied", "part", "tie"] [V.ref x, V.int (home : Int)]) (H := H) (β := List Tie) (Γ := fun us xs H' => us.Perm ts ∧ TieRows H' xs us) (fun _ _ _ => true) (fun us _ i => .int ((us.map (·.2.2)).getD i 0)) (EvP.imp (ep_tM (ev_var rfl) i1 rfl ea_nil (spp_Web_ties hw hk)) fun v H1 e1 hv => ?h1) (fun us xs H1 hg => ?h2) (fun us xs H1 H2 hg e => ⟨hg.1, hg.2.mono e⟩) (fun _ => rfl) (fun us xs H1 hg i x hx => fun H2 e2 Q q => q H2 (Ex.refl _)) (fun us xs H1 hg i x hx _ => ?h3)) fun v H1 e1 hv => ?h5
    case h1 =>
      obtain ⟨r, ys, us, rfl, _, h1, h2, _, h3⟩ := hv
      exact ⟨us, r, ys, rfl, h1, h2, h3⟩
    case h2 =>
      rw [hg.2.1, hg.1.length_eq]
      have := hk.few
      omega
    case h3 =>
      obtain ⟨hi, _⟩ := List.getElem?_eq_some_iff.mp hx
      have hti : us[i]? = some (us[i]'(by rw [← hg.2.1]; exact hi)) := List.getElem?_eq_getElem _
      obtain ⟨q, rfl, hq⟩ := hg.2.2 i x _ hx hti
      refine ev_op (ev_var rfl) ev_c (rv_ixT (st_of hq) (atI_nat (j := 2) ?_))
      show some (V.int _) = _
      congr 2
      rw [List.getD_eq_getElem?_getD, List.getElem?_map, hti]
      rfl
    case h5 =>
      obtain ⟨us, Dl, xs, rfl, _, hDl, hperm, hrow⟩ := hv
      rw [given_yesAll, given_get (xs := (us.map (·.2.2)).map V.int) (by rw [List.length_map, List.length_map, hrow.1]) fun i hi => by
        rw [List.getElem?_map, List.getElem?_map, List.getD_eq_getElem?_getD, List.getElem?_map, List.getElem?_eq_getElem (by rw [← hrow.1]; exact hi)]
        rfl] at hDl
      exact ⟨us.map (·.2.2), Dl, rfl, hDl, us, hperm, rfl⟩
  refine q_whenP (et_ltP (ep_minD hlist)) fun b H1 e1 hb => ?_
  obtain ⟨m, rfl, ns, ⟨us, hperm, rfl⟩, hm0, hm1⟩ := hb
  by_cases hex : ∃ t ∈ ts, t.2.2 < 0
  · obtain ⟨t, ht, hlt⟩ := hex
    have htu : t.2.2 ∈ us.map (·.2.2) := List.mem_map.mpr ⟨t, hperm.mem_iff.mpr ht, rfl⟩
    have hm := (hm1 (List.ne_nil_of_mem htu)).2 _ htu
    rw [decide_eq_true (by omega)]
    simp only [if_true]
    exact hneg ⟨t, ht, hlt⟩ H1 e1
  have hm : ¬ m < 0 := by
    by_cases h0 : us.map (·.2.2) = []
    · rw [hm0 h0]
      decide
    · obtain ⟨hmem, _⟩ := hm1 h0
      obtain ⟨t, ht, rfl⟩ := List.mem_map.mp hmem
      exact fun z => hex ⟨t, hperm.mem_iff.mp ht, z⟩
  rw [decide_eq_false hm]
  simp only [Bool.false_eq_true, if_false]
  obtain ⟨⟨t0, ht0, hno⟩, hE⟩ := hap hex
  have hw1 := hw.mono e1
  -- the parts with a tie
  refine q_asgP (Φ := fun v H2 => ∃ (b : List Addr × List (List Nat)) (D2 : Addr) (xs : List V), v = .ref D2 ∧ H1 D2 = none ∧ H2 D2 = some (.lst (given xs.length (fun i => decide (1 < ((b.2[i]?).getD []).length)) (fun i => (xs[i]?).getD .non))) ∧ (xs = b.1.map V.ref ∧ RefLists H2 b.1 b.2 ∧ PartsOk n ts b.2)) ?h4 fun v H2 e2 hv => ?_
  case h4 =>
    refine ep_lcG (β := List Addr × List (List Nat)) (Γ := fun b xs H' => xs = b.1.map V.ref ∧ RefLists H' b.1 b.2 ∧ PartsOk n ts b.2) (fun b _ i => decide (1 < ((b.2[i]?).getD []).length)) (fun _ xs i => (xs[i]?).getD .non) ?p1 (fun b xs H3 hg => ?p2) (fun b xs H3 H4 hg e => ⟨hg.1, ⟨hg.2.1.1, fun j r p h1 h2 => e _ _ (hg.2.1.2 j r p h1 h2)⟩, hg.2.2⟩) (fun _ => rfl) (fun b xs H3 hg i x hx => ?p3) (fun b xs H3 hg i x hx _ => ?p4)
    case p1 =>
      intro H3 e3 Q3 k3
      refine ⟨.ref x, rfl, ⟨Nat.zero_le _, fun o ho => ?_⟩⟩
      refine ⟨x, o, n, ts, rfl, hn, hw1.mono (e3.trans (Ex.new ho)), hk, upd_same, fun v H4 e4 hv => ?_⟩
      obtain ⟨q, refs, ps, rfl, h1, h2, h3⟩ := hv
      exact k3 _ H4 ((Ex.new ho).trans e4) ⟨(refs, ps), q, _, rfl, h1, rfl, h2, h3⟩
    case p2 =>
      rw [hg.1, List.length_map, hg.2.1.1]
      have := hg.2.2.few
      omega
    case p3 =>
      obtain ⟨rfl, hrl, hpo⟩ := hg
      rw [List.getElem?_map] at hx
      obtain ⟨r, hr1, rfl⟩ := Option.map_eq_some_iff.mp hx
      obtain ⟨hi, _⟩ := List.getElem?_eq_some_iff.mp hr1
      have hpi : b.2[i]? = some (b.2[i]'(by rw [← hrl.1]; exact hi)) := List.getElem?_eq_getElem _
      have hl := hrl.2 i r _ hr1 hpi
      refine et_is (et_test (ev_op (ev_cb (ea_cons (ev_var rfl) ea_nil) (rc_lenQ (sq_of hl))) ev_c rv_I0)) ?_
      rw [hpi]
      unfold natsV
      rw [List.length_map]
      exact decide_eq_decide.mpr (by show (1 : Int) < _ ↔ _; simp only [Option.getD_some]; omega)
    case p4 =>
      rw [hx]
      exact ev_var rfl
  obtain ⟨⟨refs, ps⟩, D2, xs, rfl, _, hD2, rfl, hrl, hpo⟩ := hv
  have hrl : RefLists H2 refs ps := hrl
  have hpo : PartsOk n ts ps := hpo
  rw [List.length_map] at hD2
  obtain ⟨p0, hp0, ht0p⟩ := hpo.cover t0.1 (by have := hk.lt t0 ht0; omega)
  have ht1p : t0.2.1 ∈ p0 := hpo.cl p0 hp0 t0.1 ht0p _ ⟨t0, ht0, Or.inl ⟨rfl, rfl⟩⟩
  have hpl : 1 < p0.length := by
    have hne := (adj_lt hk ⟨t0, ht0, Or.inl ⟨rfl, rfl⟩⟩).2.2
    cases hp : p0 with
    | nil =>
      rw [hp] at ht0p
      cases ht0p
    | cons a r =>
      cases r with
      | nil =>
        rw [hp] at ht0p ht1p
        rw [List.mem_singleton] at ht0p ht1p
        exact absurd (ht0p.trans ht1p.symm) hne
      | cons b r => simp
  obtain ⟨i0, hi0, ei0⟩ := List.getElem_of_mem hp0
  have hpi0 : ps[i0]? = some p0 := by rw [List.getElem?_eq_getElem hi0, ei0]
  have hir : i0 < refs.length := by rw [hrl.1]; exact hi0
  have homep : home ∉ p0 := fun z => hno (hpo.conn p0 hp0 home z t0.1 ht0p)
  generalize hL : (List.range refs.length).filter (fun i => decide (1 < ((ps[i]?).getD []).length)) = L at hD2
  have hD2' : H2 D2 = some (.lst (L.map fun i => ((refs.map V.ref)[i]?).getD .non)) := by
    rw [← hL]
    exact hD2
  have hi0L : i0 ∈ L := by
    rw [← hL]
    refine List.mem_filter.mpr ⟨List.mem_range.mpr hir, ?_⟩
    rw [hpi0]
    exact decide_eq_true hpl
  have hLpos : 0 < L.length := List.length_pos_of_mem hi0L
  refine s_if (b := true) (et_is (et_or (et_test (ev_op (ev_cb (ea_cons (ev_var rfl) ea_nil) (rc_len (sq_of hD2'))) ev_c rv_I0)) (b := true) fun hb => ?_) (Bool.or_true _)) (fun _ H3 e3 => ?_) fun hb => by cases hb
  · have hL1 : L.length = 1 := by
      have := of_decide_eq_false hb
      rw [List.length_map] at this
      omega
    have hLe : L = [i0] := by
      obtain ⟨y, rfl⟩ := List.length_eq_one_iff.mp hL1
      rw [List.mem_singleton] at hi0L
      rw [hi0L]
    have hr0 : refs[i0]? = some refs[i0] := List.getElem?_eq_getElem hir
    generalize refs[i0] = r0 at hr0
    have hl0 := hrl.2 i0 r0 p0 hr0 hpi0
    have hD3 : H2 D2 = some (.lst [.ref r0]) := by
      rw [hD2', hLe]
      show some (HO.lst [((refs.map V.ref)[i0]?).getD .non]) = _
      rw [List.getElem?_map, hr0]
      rfl
    refine et_is (et_and (a := true) (b := true) (et_test (ev_opL (xs := []) (x := .ref D2) (ev_var rfl) (el_lst ea_nil (by simp)) fun q H5 hq5 e5 => fun H6 e6 Q6 k6 => ⟨.list [.list (p0.map fun b : Nat => PyData.int (b : Int))], .list [], .lst (sq_of ((e5.trans e6) _ _ hD3)) (.cons (dp_nats (sq_of ((e5.trans e6) _ _ hl0))) .nil), .lst (sq_of (e6 _ _ hq5)) .nil, ?_, rfl, k6 _ (Ex.refl _)⟩)) fun _ => ?_) rfl
    · obtain ⟨h1, h2⟩ := lay_nats p0
      unfold SeqAt.shaped
      rw [PyData.canLay0, PyData.depth, PyData.canLayAll0, PyData.depthAll, PyData.canLay0, PyData.depth, h1, h2]
      rfl
    · refine et_is (et_test (ev_op (ev_var rfl) (ev_op (ev_var rfl) ev_c (rv_ixLn (j := 0) (sq_of hD3) rfl)) (rv_niL (sq_of hl0) rfl (flat_nats p0)))) ?_
      rw [inV_nats, decide_eq_false homep]
      rfl
  · exact hE H3 ((e1.trans e2).trans e3)
/-- a def with one default that every call writes -/
theorem okXd {p : Str × Option Str} {x qual : Str} {st : Stmt} {N ps : List Str} {k : Nat} {sp : Sp} {dv : V} (hF : ∃ fd, FunD K x qual (defArgs st) (defBody st) (defScope st) [dv] [] (He.fAd K p) fd) (S : FnScope N ps (defScope st)) (len : ∀ vs H Q E, sp vs H Q E → vs.length = ps.length)
    (hb : ∀ (D : Addr) (kV doc pm : Value) (an : Option Addr) (cdv ct : Value) (us its : List Value), us.length = ps.length → its.length = 1 → ∃ k, bindArgs (PySem.W.fnOf x qual (defArgs st) (defBody st) (defScope st) (.ref D) kV doc pm an cdv ct) ⟨us, []⟩ = seqItems? (.ref D) >>= k ∧ k (some its.toArray) = pure (ps.zip (us ++ its.drop 1)))
    (body : ∀ (f : Addr) (cdv : Value) (A : Around) (outer : List Env) (s : Shared) (H : Hp) (vs : List V) (Q : VK) (E : XK), Room k (A.deeper (envOfC qual (defScope st) s.heap.objs.size f cdv)) → sp vs H Q E →
      ∃ t, PSs (cxOf (L2.CX P w) P w K mg base N qual (defScope st) f cdv A outer s H E) (defBody st) t ∧ t { nx := fun _ H' => Q .non H', rt := Q } (start N vs) H) : Ok P w K mg base (L2.CX P w) (k + 1) p ps sp := by
  obtain ⟨fd, F⟩ := hF
  obtain ⟨ds, hd, b⟩ := F.binds1 (ps := ps) ps.length 1 (by simp) (by simp) hb
  have : ds = [] := by
    cases hd
    rfl
  subst this
  exact ⟨fd, F.ok S len fun cdv A outer s H vs Q E hr h => body _ cdv A outer s H vs Q E hr h, b, F.kp⟩
theorem ok_walk (T : Txt w K mg) : Ok P w K mg base (L2.CX P w) 5 ("walk", none) ["web", "home"] (sp_refuse_unfit K) := by
  have c_refuse_unfit := ok_refuse_unfit (P := P) (base := base) T
  refine okXd T.f_walk sc_walk (fun vs H Q E h => by obtain ⟨_, _, _, _, rfl, _⟩ := h; rfl) (fun _ _ _ _ _ _ _ us its hl hi => match us, its, hl, hi with | [_, _], [_], _, _ => ⟨_, rfl, rfl⟩) fun f cdv A outer s H vs Q E hr h => ?_
  have nd := sc_walk.nd
  have hu := hu_of hr
  refine ⟨_, (pss_cons (ps_expr (pxc c_refuse_unfit hr (by decide) T.g_refuse_unfit (takes_of rfl rfl rfl rfl) (pa_cons (pv 0) (pa_cons (pv 1) pa_nil))))
 (pss_cons ps_never
 (pss_cons ps_never
 (pss_cons ps_never
 (pss_cons ps_never
 (pss_one ps_never)))))), ?_⟩
  try dsimp only [cxOf, L2.Cx.nox, L2.Cx.blk]
  obtain ⟨x, n, home, ts, rfl, hn, hw, hk, hneg, hap⟩ := h
  exact ⟨.ref x, rfl, .int (home : Int), rfl, x, n, home, ts, rfl, hn, hw, hk, hneg, hap⟩
def sp_walk_told (K : PySem.W.Frag) : Sp := fun vs H Q E => ∃ (l x : Addr) (n home : Nat) (ts : List Tie), vs = [.ref l, .ref x, .int (home : Int)] ∧ n ≤ 24 ∧ WebAt K H x n ts ∧ TiesOk n ts ∧ ((∃ t ∈ ts, t.2.2 < 0) → ∀ H', Ex H H' → E (.ref (He.ga K "BelowNought")) none H') ∧
  ((¬ ∃ t ∈ ts, t.2.2 < 0) → (∃ t ∈ ts, ¬ Conn ts home t.1) ∧ ∀ H', Ex H H' → E (.ref (He.ga K "Apart")) none H')
theorem ok_walk_told (T : Txt w K mg) : Ok P w K mg base (L2.CX P w) 6 ("walk_told", none) ["names", "web", "home"] (sp_walk_told K) := by
  have c_walk := ok_walk (P := P) (base := base) T
  refine okX T.f_walk_told sc_walk_told (fun vs H Q E h => by obtain ⟨_, _, _, _, _, rfl, _⟩ := h; rfl) (fun _ _ _ _ _ _ us hl => match us, hl with | [_, _, _], _ => rfl) fun f cdv A outer s H vs Q E hr h => ?_
  have nd := sc_walk_told.nd
  have hu := hu_of hr
  refine ⟨_, (pss_cons (ps_asg (pxc c_walk hr (by decide) T.g_walk (takes_of rfl rfl rfl rfl) (pa_cons (pv 1) (pa_cons (pv 2) pa_nil))) (pg_tup rfl (pgs_cons (pg_name (i := 3) nd rfl (Or.inl rfl)) (pgs_cons (pg_name (i := 4) nd rfl (Or.inl rfl)) (pgs_cons (pg_name (i := 5) nd rfl (Or.inl rfl)) pgs_nil)))))
 (pss_cons ps_never
 (pss_cons ps_never
 (pss_cons ps_never
 (pss_one ps_never))))), ?_⟩
  try dsimp only [cxOf, L2.Cx.nox, L2.Cx.blk]
  obtain ⟨l, x, n, home, ts, rfl, hn, hw, hk, hneg, hap⟩ := h
  exact ⟨.ref x, rfl, .int (home : Int), rfl, x, n, home, ts, rfl, hn, hw, hk, hneg, hap⟩
end
end KD
set_option maxHeartbeats 2000000
/-! numbers as texts -/
namespace KD
open PySem PySem.Spec PyProof.Rows L2 TL
def numS (z : Int) : Str := Str.ofString (toString z)
theorem neg_str (m : Nat) : (toString (Int.negSucc m) : String) = "-" ++ toString ((m + 1 : Nat) : Int) := rfl
theorem tl_numS_pos (n : Nat) : tl (numS (n : Int)) = numL n := tl_num n
theorem tl_numS_neg (m : Nat) : tl (numS (Int.negSucc m)) = 45 :: numL (m + 1) := by
  unfold numS
  rw [neg_str, tl_ofString, String.toList_append, List.map_append, ← tl_num (m + 1), tl_ofString]
  rfl
theorem numS_len {z : Int} (h : z.natAbs < 10 ^ 60) : (numS z).length ≤ 61 := by
  cases z with
  | ofNat n =>
    have h1 : (numL n).length ≤ 60 := numL_len (by decide) h
    have h2 : (numS (Int.ofNat n)).length = (numL n).length := by
      rw [len_tl]
      exact congrArg List.length (tl_numS_pos n)
    omega
  | negSucc m =>
    have h1 : (numL (m + 1)).length ≤ 60 := numL_len (by decide) h
    have h2 : (numS (Int.negSucc m)).length = (numL (m + 1)).length + 1 := by
      rw [len_tl, tl_numS_neg]
      rfl
    omega
theorem log_num {z : Int} (h : z.natAbs < 10 ^ 60) : z.natAbs.log2 < 1920 := by
  have := PySem.Flt.log2_lt_of (k := 200) (n := z.natAbs) (by decide) (Nat.lt_of_lt_of_le h (by decide))
  omega
theorem numS_int {z : Int} (h : z.natAbs < 10 ^ 60) : PySem.intText? (numS z) = some z := by
  cases z with
  | ofNat n =>
    have h1 : (numL n).length ≤ 60 := numL_len (by decide) h
    exact int_num (by omega)
  | negSucc m =>
    have h1 : (numL (m + 1)).length ≤ 60 := numL_len (by decide) h
    have := intText_neg (x := numS (Int.negSucc m)) (cs := numL (m + 1)) (tl_numS_neg m) (numL_digits (m + 1)) (numL_ne (m + 1)) (Nat.le_trans (numS_len h) (by decide))
    rw [this, numL_val]
    rfl
end KD
set_option maxHeartbeats 2000000
/-! the desk: made, names looked at, shown -/
namespace KD
open PySem PySem.Spec PyProof.Rows L2 Evl
section
variable {K : PySem.W.Frag} {σ : L2.St} {H : Hp} {te : TE} {g : TG} {tu tz : TS} {D : Ends}
/-- a loop over a list of which more is said -/
theorem s_forP {β : Type} {Γ : β → Addr → List V → Hp → Prop} (h : EvP te σ H fun w H1 => ∃ b a xs, w = .ref a ∧ H1 a = some (.lst xs) ∧ Γ b a xs H1)
    (k : ∀ b a xs H1, Ex H H1 → H1 a = some (.lst xs) → Γ b a xs H1 → ∃ Pv : Nat → L2.St → Hp → Prop, Pv 0 σ H1 ∧ (∀ i σ' H', i ≤ xs.length → Pv i σ' H' → SqL K H' a xs) ∧ (∀ i x σ' H', xs[i]? = some x → Pv i σ' H' → g x σ' H' fun σ2 H2 => tu { D with nx := Pv (i + 1), ct := Pv (i + 1), bk := D.nx } σ2 H2) ∧ ∀ σ' H', Pv xs.length σ' H' → D.nx σ' H') :
    tFor (iList K te) g tu D σ H := h H (Ex.refl H) _ fun w H1 e1 ⟨b, a, xs, ew, ha, hg⟩ => by
  obtain ⟨Pv, h0, hl, hs, hd⟩ := k b a xs H1 e1 ha hg
  exact ⟨a, ew, ⟨xs, sq_of ha⟩, for_list Pv h0 hl hs hd⟩
theorem q_forP {β : Type} {Γ : β → Addr → List V → Hp → Prop} (h : EvP te σ H fun w H1 => ∃ b a xs, w = .ref a ∧ H1 a = some (.lst xs) ∧ Γ b a xs H1)
    (k : ∀ b a xs H1, Ex H H1 → H1 a = some (.lst xs) → Γ b a xs H1 → ∃ Pv : Nat → L2.St → Hp → Prop, Pv 0 σ H1 ∧ (∀ i σ' H', i ≤ xs.length → Pv i σ' H' → SqL K H' a xs) ∧ (∀ i x σ' H', xs[i]? = some x → Pv i σ' H' → g x σ' H' fun σ2 H2 => tu { D with nx := Pv (i + 1), ct := Pv (i + 1), bk := tz D } σ2 H2) ∧ ∀ σ' H', Pv xs.length σ' H' → tz D σ' H') :
    tSeq (tFor (iList K te) g tu) tz D σ H := s_forP (D := { D with nx := tz D }) h k
end
section
variable {P : Program} {w : World} {K : PySem.W.Frag} {mg : Str → Option Value} {base : Heap}
def strsV (ss : List Str) : List V := ss.map V.str
theorem inV_strs (a : Str) (l : List Str) : inV (.str a) (strsV l) = decide (a ∈ l) := by
  unfold inV strsV
  rw [List.any_map]
  by_cases h : a ∈ l
  · rw [decide_eq_true h, List.any_eq_true]
    exact ⟨a, h, by simp [eqV]⟩
  · rw [decide_eq_false h, List.any_eq_false]
    intro b hb e
    have : b = a := by simpa [eqV] using e
    exact h (this ▸ hb)
theorem flat_strs (l : List Str) : (strsV l).all flatV = true := by
  unfold strsV
  rw [List.all_map, List.all_eq_true]
  exact fun _ _ => rfl
theorem strs_at' {l : List Str} {i : Nat} {z : Str} (h : l[i]? = some z) : (strsV l)[i]? = some (.str z) := by
  unfold strsV
  rw [List.getElem?_map, h]
  rfl
theorem strs_len (l : List Str) : (strsV l).length = l.length := List.length_map _
def DeskAt (K : PySem.W.Frag) (H : Hp) (x nl tl : Addr) (names : List Str) (D : List Tie) : Prop := ∃ dx : Addr, H x = some (.ins (He.ga K "Desk") dx [("named", .ref nl), ("table", .ref tl)]) ∧ H nl = some (.lst (strsV names)) ∧ H tl = some (.dT (rowsK D))
theorem DeskAt.mono {H H' : Hp} {x nl tl : Addr} {names : List Str} {D : List Tie} (e : Ex H H') (h : DeskAt K H x nl tl names D) : DeskAt K H' x nl tl names D := let ⟨dx, a, b, c⟩ := h; ⟨dx, e _ _ a, e _ _ b, e _ _ c⟩
def sp_Desk_init (K : PySem.W.Frag) : Sp := fun vs H Q _ => ∃ (x dx : Addr), vs = [.ref x] ∧ H x = some (.ins (He.ga K "Desk") dx []) ∧ ∀ (nl tl : Addr) H', FrX x H H' → H nl = none → H tl = none → DeskAt K H' x nl tl [] [] → Q .non H'
theorem ok_Desk_init (T : Txt w K mg) : Ok P w K mg base CX0 1 ("Desk", some "__init__") ["self"] (sp_Desk_init K) := by
  refine ok0 T.f_Desk_init sc_Desk_init (fun vs H Q E h => by obtain ⟨_, _, rfl, _⟩ := h; rfl) (fun _ _ _ _ _ _ us hl => match us, hl with | [_], _ => rfl) fun f cdv A outer s H vs Q E hr h => ?_
  have nd := sc_Desk_init.nd
  have hu := hu_of hr
  refine ⟨_, (pss_cons (ps_fld (pv 0) (pe_lst pa_nil) rfl)
 (pss_one (ps_fld (pv 0) pe_dnewT rfl))), ?_⟩
  try dsimp only [cxOf, L2.Cx.nox, L2.Cx.blk]
  obtain ⟨x, dx, rfl, hx, hq⟩ := h
  refine q_fldP (EvL.p (el_lst (vs := []) ea_nil (by simp))) (fun H1 e1 => ev_var rfl) hx T.k_Desk T.na_Desk_named (by simp) (fun v H1 H2 ⟨p, a, b, c⟩ e => ⟨p, a, b, e _ _ c⟩) fun v H1 e1 hv => ?_
  obtain ⟨nl, rfl, n0, hn⟩ := hv
  have nx : nl ≠ x := fun q => by
    rw [q, hx] at n0
    cases n0
  have x2 : (upd H1 x (.ins (He.ga K "Desk") dx (putF "named" (.ref nl) []))) x = some (.ins (He.ga K "Desk") dx [("named", .ref nl)]) := upd_same
  have n2 : (upd H1 x (.ins (He.ga K "Desk") dx (putF "named" (.ref nl) []))) nl = some (.lst []) := by
    rw [upd_ne nx]
    exact hn
  have f2 : FrX x H (upd H1 x (.ins (He.ga K "Desk") dx (putF "named" (.ref nl) []))) := fun b o hb hne => by
    rw [upd_ne hne]
    exact e1 _ _ hb
  generalize upd H1 x (.ins (He.ga K "Desk") dx (putF "named" (.ref nl) [])) = H2 at x2 n2 f2 ⊢
  refine q_fldP (tz := tNext) (D := { nx := fun _ H' => Q .non H', rt := Q }) ep_newT (fun H3 e3 => ev_var rfl) x2 T.k_Desk T.na_Desk_table (by simp) (fun v H3 H4 ⟨p, a, b, c⟩ e => ⟨p, a, b, e _ _ c⟩) fun v H3 e3 hv => ?_
  obtain ⟨tl, rfl, t0, ht⟩ := hv
  have tx : tl ≠ x := fun q => by
    rw [q, x2] at t0
    cases t0
  have t0' : H tl = none := by
    cases ho : H tl with
    | none => rfl
    | some o =>
      rw [f2 tl o ho tx] at t0
      cases t0
  refine hq nl tl _ (fun b o hb hne => ?_) n0 t0' ⟨dx, upd_same, ?_, ?_⟩
  · rw [upd_ne hne]
    exact e3 _ _ (f2 b o hb hne)
  · rw [upd_ne nx]
    exact e3 _ _ n2
  · rw [upd_ne tx]
    exact ht
/-! ### the names looked at -/
def lookOne (names : List Str) (w0 : Str) (k : Nat) (z : Str) : Option Str :=
  if isName z = true then
    (if ((decide (w0 = "point") || (decide (w0 = "rename") && decide ((k : Int) = 2))) && decide (z ∈ names)) = true then some "Taken"
     else if (!(decide (w0 = "point") || (decide (w0 = "rename") && decide ((k : Int) = 2))) && !decide (z ∈ names)) = true then some "NoName" else none) else none
def lookRes (names : List Str) (w0 : Str) : Nat → List Str → Option Str
  | _, [] => none
  | k, z :: r => match lookOne names w0 k z with
    | some e => some e
    | none => lookRes names w0 (k + 1) r
def sp_Desk_look_at_names (K : PySem.W.Frag) : Sp := fun vs H Q E => ∃ (x nl tl wl : Addr) (names ws : List Str) (D : List Tie), vs = [.ref x, .ref wl] ∧ DeskAt K H x nl tl names D ∧ SqL K H wl (strsV ws) ∧ ws ≠ [] ∧ ws.length ≤ 100 ∧ (∀ z ∈ ws, z.length ≤ 100) ∧
  (lookRes names (ws.headD "") 1 ws.tail = none → RV1 .non H Q) ∧ ∀ e, lookRes names (ws.headD "") 1 ws.tail = some e → ∀ H', Ex H H' → E (.ref (He.ga K e)) none H'
theorem ok_Desk_look_at_names (T : Txt w K mg) : Ok P w K mg base (L2.CX P w) 2 ("Desk", some "look_at_names") ["self", "words"] (sp_Desk_look_at_names K) := by
  have c_is_name := ok_is_name (P := P) (base := base) T
  refine okX T.f_Desk_look_at_names sc_Desk_look_at_names (fun vs H Q E h => by obtain ⟨_, _, _, _, _, _, _, rfl, _⟩ := h; rfl) (fun _ _ _ _ _ _ us hl => match us, hl with | [_, _], _ => rfl) fun f cdv A outer s H vs Q E hr h => ?_
  have nd := sc_Desk_look_at_names.nd
  have hu := hu_of hr
  refine ⟨_, (pss_one (ps_for PassesOwn.leaving rfl (pi_range2 (by rfl) T.n_range (pa_cons pe_int (pa_cons (pe_callB call_len_seq (by rfl) T.n_len (by decide +kernel) (pa_cons (pv 1) pa_nil)) pa_nil))) (pg_name (i := 2) nd rfl (Or.inl rfl)) (pss_one (ps_if (pt_val (pc c_is_name hr (by decide) T.g_is_name (pa_cons (pe_ix ix_list (pv 1) (pv 2) (fun _ _ => rfl)) pa_nil))) (pss_cons (ps_set (i := 3) nd rfl (Or.inl rfl) (pe_or (pe_cmpR op_eq (pe_ix ix_list (pv 1) pe_int (fun _ _ => rfl)) pe_str (nomark _)) (pe_one (pe_and (pe_cmpR op_eq (pe_ix ix_list (pv 1) pe_int (fun _ _ => rfl)) pe_str (nomark _)) (pe_one (pe_cmpR op_eq (pv 2) pe_int (nomark _)))))))
 (pss_cons (ps_if (PW.pt (pw_and (pt_val (pv 3)) (pw_and1 (pt_cmpR op_in_seq (pe_ix ix_list (pv 1) (pv 2) (fun _ _ => rfl)) (pe_fld (pv 0) rfl) rfl)))) (pss_one (ps_raise rfl (takes_of rfl rfl rfl rfl) (pmk_own PySem.F.excBase_ValueError T.x_Taken T.g_Taken T.p_Taken (raises_own T.b_Taken T.t_Taken) rfl))) pss_nil)
 (pss_one (ps_if (PW.pt (pw_and (pt_not (pt_val (pv 3))) (pw_and1 (pt_cmpR op_notIn_seq (pe_ix ix_list (pv 1) (pv 2) (fun _ _ => rfl)) (pe_fld (pv 0) rfl) rfl)))) (pss_one (ps_raise rfl (takes_of rfl rfl rfl rfl) (pmk_own PySem.F.excBase_ValueError T.x_NoName T.g_NoName T.p_NoName (raises_own T.b_NoName T.t_NoName) rfl))) pss_nil)))) pss_nil)))), ?_⟩
  try dsimp only [cxOf, L2.Cx.nox, L2.Cx.blk]
  obtain ⟨x, nl, tl, wl, names, ws, D, rfl, hd, hwl, hne, hfew, hsh, hq, hE⟩ := h
  obtain ⟨dx, i1, i2, i3⟩ := hd
  have hwp : 0 < ws.length := List.length_pos_iff.mpr hne
  refine s_forR2 (lo := 1) (n := ((strsV ws).length : Int)) (ea_cons ev_c (ea_cons (ev_cb (ea_cons (ev_var rfl) ea_nil) (rc_len hwl)) ea_nil)) (by rw [strs_len]; omega) (fun i σ' H' => (∃ a b, σ' = [some (.ref x), some (.ref wl), a, b]) ∧ Ex H H' ∧ lookRes names (ws.headD "") 1 ws.tail = lookRes names (ws.headD "") (1 + i) (ws.tail.drop i)) (fun H1 e1 => ⟨⟨none, none, rfl⟩, e1, rfl⟩) (fun i σ' H' hi pv => ?hs) fun σ' H' pv => ?_
  case hs =>
    obtain ⟨⟨a0, b0, rfl⟩, pe, pl⟩ := pv
    rw [strs_len] at hi
    have hin : 1 + i < ws.length := by omega
    have hz : ws[1 + i]? = some ws[1 + i] := List.getElem?_eq_getElem hin
    generalize ws[1 + i] = z at hz
    have hzt : ws.tail[i]? = some z := by
      rw [List.getElem?_tail, Nat.add_comm]
      exact hz
    have hdr : ws.tail.drop i = z :: ws.tail.drop (i + 1) := by
      obtain ⟨h1, h2⟩ := List.getElem?_eq_some_iff.mp hzt
      rw [← h2]
      exact List.drop_eq_getElem_cons h1
    rw [hdr] at pl
    have pl : lookRes names (ws.headD "") 1 ws.tail = match lookOne names (ws.headD "") (1 + i) z with | some e => some e | none => lookRes names (ws.headD "") (1 + i + 1) (ws.tail.drop (i + 1)) := pl
    have ei : (1 : Int) + (i : Int) = ((1 + i : Nat) : Int) := by omega
    rw [ei]
    have hzl : z.length ≤ 20000 := Nat.le_trans (hsh z (List.mem_of_getElem? hz)) (by decide)
    have wh := ex_l pe hwl
    refine s_when (b := isName z) (et_B (ev_tC (ea_cons (ev_op (ev_var rfl) (ev_var rfl) (rv_ixLn wh (strs_at' hz))) ea_nil) (spv_is_name hzl))) (fun hb H1 e1 => ?_) fun hb H1 e1 => ?_
    · have wh1 := ex_l e1 wh
      refine q_asg (v := .bl (decide (ws.headD "" = "point") || (decide (ws.headD "" = "rename") && decide (((1 + i : Nat) : Int) = 2)))) (ev_orV (ev_op (ev_head (ev_var rfl) wh1 hne) ev_c rv_eqS) fun _ => ev_andV (ev_op (ev_head (ev_var rfl) wh1 hne) ev_c rv_eqS) fun _ => ev_op (ev_var rfl) ev_c rv_eqI) fun H2 e2 => ?_
      have e02 := pe.trans (e1.trans e2)
      have fldn : ∀ {σ : L2.St} {H3 : Hp}, Ex H H3 → σ[0]? = some (some (.ref x)) → Ev (tFld K (tVar 0) "named") σ H3 (.ref nl) := fun e hs => ev_fld (ev_var hs) (e _ _ i1) T.k_Desk T.na_Desk_named rfl
      have wh2 := ex_l e2 wh1
      refine q_when (b := (decide (ws.headD "" = "point") || (decide (ws.headD "" = "rename") && decide (((1 + i : Nat) : Int) = 2))) && decide (z ∈ names)) (et_and (et_B (ev_var rfl)) fun _ => et_is (et_test (ev_op (ev_op (ev_var rfl) (ev_var rfl) (rv_ixLn wh2 (strs_at' hz))) (fldn e02 rfl) (rv_isL (sq_of (e02 _ _ i2)) rfl (flat_strs names)))) (inV_strs z names)) (fun hc H3 e3 => ?_) fun hc H3 e3 => ?_
      · refine hE "Taken" ?_ _ (e02.trans e3)
        rw [pl]
        unfold lookOne
        rw [if_pos hb, if_pos hc]
      · have e03 := e02.trans e3
        refine s_when (b := !(decide (ws.headD "" = "point") || (decide (ws.headD "" = "rename") && decide (((1 + i : Nat) : Int) = 2))) && !decide (z ∈ names)) (et_and (et_not (et_B (ev_var rfl))) fun _ => et_is (et_test (ev_op (ev_op (ev_var rfl) (ev_var rfl) (rv_ixLn (ex_l e3 wh2) (strs_at' hz))) (fldn e03 rfl) (rv_niL (sq_of (e03 _ _ i2)) rfl (flat_strs names)))) (congrArg (fun b => !b) (inV_strs z names))) (fun hd H4 e4 => ?_) fun hd H4 e4 => ?_
        · refine hE "NoName" ?_ _ (e03.trans e4)
          rw [pl]
          unfold lookOne
          rw [if_pos hb, if_neg (by rw [hc]; decide), if_pos hd]
        · refine ⟨⟨_, _, rfl⟩, e03.trans e4, ?_⟩
          rw [pl]
          unfold lookOne
          rw [if_pos hb, if_neg (by rw [hc]; decide), if_neg (by rw [hd]; decide)]
          rfl
    · refine ⟨⟨_, _, rfl⟩, pe.trans e1, ?_⟩
      rw [pl]
      unfold lookOne
      rw [if_neg (by rw [hb]; decide)]
      rfl
  obtain ⟨_, pe, pl⟩ := pv
  rw [strs_len, List.drop_of_length_le (by rw [List.length_tail]; omega)] at pl
  exact hq pl _ pe
/-! ### shown -/
def nameAt (names : List Str) (i : Nat) : Str := names.getD i Str.empty
def tieT (names : List Str) (t : Tie) : Str := ((nameAt names t.1 ++ "-") ++ nameAt names t.2.1 ++ " ") ++ numS t.2.2
def showT (names : List Str) (us : List Tie) : Str := Txt.join ", " (names ++ us.map (tieT names))
structure DeskOk (names : List Str) (D : List Tie) : Prop where
  nd : names.Nodup
  few : names.length ≤ 12
  short : ∀ z ∈ names, z.length ≤ 8
  ties : TiesOk names.length D
  num : ∀ t ∈ D, t.2.2.natAbs < 10 ^ 60
def sp_shown (K : PySem.W.Frag) : Sp := fun vs H Q _ => ∃ (nl x : Addr) (names : List Str) (D : List Tie), vs = [.ref nl, .ref x] ∧ H nl = some (.lst (strsV names)) ∧ WebAt K H x names.length D ∧ DeskOk names D ∧ ∀ us, us.Perm D → Srt3 us → RV1 (.str (showT names us)) H Q
theorem name_some {names : List Str} {i : Nat} (h : i < names.length) : names[i]? = some (nameAt names i) := by
  unfold nameAt
  rw [List.getD_eq_getElem?_getD, List.getElem?_eq_getElem h]
  rfl
theorem name_len {names : List Str} (h : ∀ z ∈ names, z.length ≤ 8) {i : Nat} (hi : i < names.length) : (nameAt names i).length ≤ 8 := h _ (List.mem_of_getElem? (name_some hi))
theorem len_app (a b : Str) : (a ++ b).length = a.length + b.length := by
  show (a ++ b).cps.size = _
  rw [Str.cps_append, Array.size_append]
  rfl
theorem tieT_len {names : List Str} {D : List Tie} (h : DeskOk names D) {t : Tie} (ht : t ∈ D) : (tieT names t).length ≤ 79 := by
  have h1 := h.ties.lt t ht
  have h2 := name_len h.short (i := t.1) (by omega)
  have h3 := name_len h.short (i := t.2.1) (by omega)
  have h4 := numS_len (h.num t ht)
  unfold tieT
  rw [len_app, len_app, len_app, len_app]
  have h5 : ("-" : Str).length = 1 := by decide
  have h6 : (" " : Str).length = 1 := by decide
  rw [h5, h6]
  omega
theorem sum_le (l : List Str) (k : Nat) (h : ∀ z ∈ l, z.length ≤ k) : (l.map (·.length)).sum ≤ l.length * k := by
  induction l with
  | nil => simp
  | cons a r ih =>
    rw [List.map_cons, List.sum_cons, List.length_cons, Nat.add_mul, Nat.one_mul]
    have h1 := h a (List.mem_cons_self ..)
    have h2 := ih fun z hz => h z (List.mem_cons_of_mem _ hz)
    omega
theorem ok_shown (T : Txt w K mg) : Ok P w K mg base CX0 2 ("shown", none) ["names", "web"] (sp_shown K) := by
  have c_Web_ties := ok_Web_ties (P := P) (base := base) T
  refine ok0 T.f_shown sc_shown (fun vs H Q E h => by obtain ⟨_, _, _, _, rfl, _⟩ := h; rfl) (fun _ _ _ _ _ _ us hl => match us, hl with | [_, _], _ => rfl) fun f cdv A outer s H vs Q E hr h => ?_
  have nd := sc_shown.nd
  have hu := hu_of hr
  refine ⟨_, (pss_cons (ps_set (i := 2) nd rfl (Or.inl rfl) (pe_callTy call_list_of (by rfl) T.n_list (by decide +kernel) (pa_cons (pv 0) pa_nil)))
 (pss_cons (ps_for PassesOwn.never rfl (pi_list (pm0 T.k_Web T.m_Web_ties c_Web_ties hr (by decide) (pv 1))) (pg_tup rfl (pgs_cons (pg_name (i := 3) nd rfl (Or.inl rfl)) (pgs_cons (pg_name (i := 4) nd rfl (Or.inl rfl)) (pgs_cons (pg_name (i := 5) nd rfl (Or.inl rfl)) pgs_nil)))) (pss_one (ps_expr (pe_bm PySem.F.plainAttrs_list PySem.F.slot_list_append PySem.F.type_list_append mt_append (pv 2) (pa_cons (pe_op op_add_str (pe_op op_add_str (pe_op op_add_str (pe_op op_add_str (pe_ix ix_list (pv 0) (pv 3) (fun _ _ => rfl)) pe_str) (pe_ix ix_list (pv 0) (pv 4) (fun _ _ => rfl))) pe_str) (pe_callTy call_str_int (by rfl) T.n_str (by decide +kernel) (pa_cons (pv 5) pa_nil))) pa_nil)))))
 (pss_one (ps_ret (pe_join pe_str (pv 2)))))), ?_⟩
  try dsimp only [cxOf, L2.Cx.nox, L2.Cx.blk]
  obtain ⟨nl, x, names, D, rfl, hn, hw, hok, hq⟩ := h
  refine q_asgL (xs := strsV names) (el_cb (ea_cons (ev_var rfl) ea_nil) (rcl_list (sq_of hn))) fun th H1 t0 e1 ht => ?_
  have hw1 := hw.mono e1
  obtain ⟨dx, tt, te, rows, i1, i2⟩ := hw1
  refine q_forP (β := List Tie) (Γ := fun us a xs H' => H1 a = none ∧ us.Perm D ∧ Srt3 us ∧ TieRows H' xs us) (EvP.imp (ep_tM (ev_var rfl) i1 rfl ea_nil (spp_Web_ties (hw.mono e1) hok.ties)) fun v H2 e2 hv => ?hi) fun us a xs H2 e2 ha hg => ?_
  case hi =>
    obtain ⟨r, ys, us, rfl, h0, h1, h2, h3, h4⟩ := hv
    exact ⟨us, r, ys, rfl, h1, h0, h2, h3, h4⟩
  obtain ⟨ha0, hp, hsrt, hrow⟩ := hg
  have at0 : a ≠ th := fun q => by
    rw [q, ht] at ha0
    cases ha0
  refine ⟨fun i σ' H' => (∃ p q r, σ' = [some (.ref nl), some (.ref x), some (.ref th), p, q, r]) ∧ Ex H H' ∧ H' a = some (.lst xs) ∧ TieRows H' xs us ∧ H' th = some (.lst (strsV (names ++ (us.take i).map (tieT names)))), ⟨⟨none, none, none, rfl⟩, e1.trans e2, ha, hrow, by rw [List.take_zero, List.map_nil, List.append_nil]; exact e2 _ _ ht⟩, fun i σ' H' _ pv => sq_of pv.2.2.1, fun i v σ' H' hv pv => ?_, fun σ' H' pv => ?_⟩
  · obtain ⟨⟨p, q, r, rfl⟩, pe, pa, pr, pt⟩ := pv
    obtain ⟨hi, _⟩ := List.getElem?_eq_some_iff.mp hv
    have hti : us[i]? = some (us[i]'(by rw [← hrow.1]; exact hi)) := List.getElem?_eq_getElem _
    generalize us[i]'(by rw [← hrow.1]; exact hi) = t at hti
    have htD : t ∈ D := hp.mem_iff.mp (List.mem_of_getElem? hti)
    obtain ⟨q, rfl, hqt⟩ := pr.2 i v t hv hti
    have hlt := hok.ties.lt t htD
    have hn' := pe _ _ hn
    refine g_triple (by rfl) (st_of hqt) ?_
    have len1 := name_len hok.short (i := t.1) (by omega)
    have len2 := name_len hok.short (i := t.2.1) (by omega)
    have len3 := numS_len (hok.num t htD)
    have l1 : ("-" : Str).length = 1 := by decide
    have l2 : (" " : Str).length = 1 := by decide
    have big : (1000 : Nat) ≤ sizeLine := by decide
    refine s_app (l := th) (v := .str (tieT names t)) pt (ev_var rfl) (ev_op (ev_op (ev_op (ev_op (ev_op (ev_var rfl) (ev_var rfl) (rv_ixLn (sq_of hn') (strs_at' (name_some (by omega))))) ev_c (rv_addS ?_)) (ev_op (ev_var rfl) (ev_var rfl) (rv_ixLn (sq_of hn') (strs_at' (name_some (by omega))))) (rv_addS ?_)) ev_c (rv_addS ?_)) (ev_cb (ea_cons (ev_var rfl) ea_nil) (rc_str (log_num (hok.num t htD)))) (rv_addS ?_)) ?_ fun H3 e3 => ?_
    · rw [l1]
      omega
    · rw [len_app, l1]
      omega
    · rw [len_app, len_app, l1, l2]
      omega
    · show _ + (numS t.2.2).length ≤ _
      rw [len_app, len_app, len_app, l1, l2]
      omega
    · rw [strs_len, List.length_append, List.length_map, List.length_take]
      have := hok.few
      have := hok.ties.few
      have := hp.length_eq
      omega
    have up : ∀ {b : Addr} {o : HO}, b ≠ th → H' b = some o → (upd H3 th (.lst (strsV (names ++ (us.take i).map (tieT names)) ++ [.str (tieT names t)]))) b = some o := fun hne hb => by
      rw [upd_ne hne]
      exact e3 _ _ hb
    refine ⟨⟨_, _, _, rfl⟩, fun b o hb => up (ne_of_none hb t0) (pe _ _ hb), up at0 pa, ⟨pr.1, fun j v t' h1 h2 => ?_⟩, ?_⟩
    · obtain ⟨q', h3, h4⟩ := pr.2 j v t' h1 h2
      exact ⟨q', h3, up (ne_of h4 pt (by intro z; cases z)) h4⟩
    · rw [upd_same, take_snoc hti]
      simp only [strsV, List.map_append, List.append_assoc]
      rfl
  · obtain ⟨⟨p, q, r, rfl⟩, pe, pa, pr, pt⟩ := pv
    rw [hrow.1, List.take_length] at pt
    refine s_ret (v := .str (showT names us)) (ev_tM1 ev_c (ev_var rfl) (rm_join (sq_of pt) ?_)) ?_
    · have h1 := sum_le (names ++ us.map (tieT names)) 79 fun z hz => by
        rcases List.mem_append.mp hz with hz | hz
        · exact Nat.le_trans (hok.short z hz) (by decide)
        · obtain ⟨t, ht, rfl⟩ := List.mem_map.mp hz
          exact tieT_len hok (hp.mem_iff.mp ht)
      rw [List.length_append, List.length_map] at h1 ⊢
      have h2 : (", " : Str).length = 2 := by decide
      rw [h2]
      have := hok.few
      have := hok.ties.few
      have := hp.length_eq
      omega
    · exact fun H3 e3 => hq us hp hsrt _ (pe.trans e3)
end
end KD
set_option maxHeartbeats 2000000
/-! the desk changed -/
namespace KD
open PySem PySem.Spec PyProof.Rows L2 Evl
def idx : List Str → Str → Nat
  | [], _ => 0
  | a :: r, z => if a = z then 0 else idx r z + 1
theorem idx_get : ∀ {l : List Str} {z : Str}, z ∈ l → l[idx l z]? = some z
  | [], z, h => by cases h
  | a :: r, z, h => by
    unfold idx
    by_cases e : a = z
    · rw [if_pos e, e]
      rfl
    · rw [if_neg e]
      exact idx_get (l := r) ((List.mem_cons.mp h).resolve_left fun q => e q.symm)
theorem idx_first : ∀ {l : List Str} {z : Str} {m : Nat}, m < idx l z → l[m]? ≠ some z
  | [], z, m, h => by cases h
  | a :: r, z, m, h => by
    unfold idx at h
    by_cases e : a = z
    · rw [if_pos e] at h
      cases h
    · rw [if_neg e] at h
      cases m with
      | zero => exact fun q => e (Option.some.inj q)
      | succ m => exact idx_first (l := r) (m := m) (by omega)
theorem idx_lt {l : List Str} {z : Str} (h : z ∈ l) : idx l z < l.length := (List.getElem?_eq_some_iff.mp (idx_get h)).1
theorem idx_inj {l : List Str} {y z : Str} (h : y ∈ l) (k : z ∈ l) (e : idx l y = idx l z) : y = z := by
  have := idx_get h
  rw [e, idx_get k] at this
  exact (Option.some.inj this).symm
def shiftT (i : Nat) (t : Tie) : Tie := (t.1 - (if i < t.1 then 1 else 0), t.2.1 - (if i < t.2.1 then 1 else 0), t.2.2)
def keepT (i : Nat) (t : Tie) : Bool := !decide (t.1 = i) && !decide (t.2.1 = i)
def goneT (i : Nat) (D : List Tie) : List Tie := (D.filter (keepT i)).map (shiftT i)
def putT (D : List Tie) (a b : Nat) (h : Int) : List Tie :=
  if (D.any fun t => decide (t.1 = a ∧ t.2.1 = b)) = true then D.map (fun t => if t.1 = a ∧ t.2.1 = b then (a, b, h) else t) else D ++ [(a, b, h)]
def dropT (D : List Tie) (a b : Nat) : List Tie := D.filter fun t => !decide (t.1 = a ∧ t.2.1 = b)
def hasT (D : List Tie) (a b : Nat) : Bool := D.any fun t => decide (t.1 = a ∧ t.2.1 = b)
theorem kk_eq {a b c d : Nat} : kk a b = kk c d ↔ (a = c ∧ b = d) := ⟨kk_inj, fun h => by rw [h.1, h.2]⟩
theorem rowsK_put (D : List Tie) (a b : Nat) (h : Int) : rowsK (putT D a b h) = putK (rowsK D) (kk a b) (.int h) := by
  unfold putT putK rowsK
  rw [List.any_map]
  have e : (D.any ((fun kv : List Key × V => decide (kv.1 = kk a b)) ∘ fun t : Tie => (kk t.1 t.2.1, V.int t.2.2))) = D.any fun t => decide (t.1 = a ∧ t.2.1 = b) := by
    congr 1
    funext t
    exact decide_eq_decide.mpr kk_eq
  rw [e]
  split
  · rw [List.map_map, List.map_map]
    refine List.map_congr_left fun t _ => ?_
    by_cases q : t.1 = a ∧ t.2.1 = b
    · have e1 : (fun t : Tie => if t.1 = a ∧ t.2.1 = b then (a, b, h) else t) t = (a, b, h) := if_pos q
      have e2 : (fun kv : List Key × V => if kv.1 = kk a b then (kv.1, V.int h) else kv) (kk t.1 t.2.1, V.int t.2.2) = (kk t.1 t.2.1, V.int h) := if_pos (kk_eq.mpr q)
      show (kk ((fun t : Tie => if t.1 = a ∧ t.2.1 = b then (a, b, h) else t) t).1 _, _) = (fun kv : List Key × V => if kv.1 = kk a b then (kv.1, V.int h) else kv) (kk t.1 t.2.1, V.int t.2.2)
      rw [e2, e1, kk_eq.mpr q]
    · have e1 : (fun t : Tie => if t.1 = a ∧ t.2.1 = b then (a, b, h) else t) t = t := if_neg q
      have e2 : (fun kv : List Key × V => if kv.1 = kk a b then (kv.1, V.int h) else kv) (kk t.1 t.2.1, V.int t.2.2) = (kk t.1 t.2.1, V.int t.2.2) := if_neg fun z => q (kk_eq.mp z)
      show (kk ((fun t : Tie => if t.1 = a ∧ t.2.1 = b then (a, b, h) else t) t).1 _, _) = (fun kv : List Key × V => if kv.1 = kk a b then (kv.1, V.int h) else kv) (kk t.1 t.2.1, V.int t.2.2)
      rw [e2, e1]
  · rw [List.map_append]
    rfl
theorem rowsK_drop (D : List Tie) (a b : Nat) : rowsK (dropT D a b) = dropK (rowsK D) (kk a b) := by
  unfold dropT dropK rowsK
  rw [List.filter_map]
  congr 1
  refine List.filter_congr fun t _ => ?_
  show (!decide (t.1 = a ∧ t.2.1 = b)) = decide (kk t.1 t.2.1 ≠ kk a b)
  by_cases q : t.1 = a ∧ t.2.1 = b
  · rw [decide_eq_true q, decide_eq_false (fun z => z (kk_eq.mpr q))]
    rfl
  · have e1 : decide (kk t.1 t.2.1 ≠ kk a b) = true := decide_eq_true fun z => q (kk_eq.mp z)
    rw [decide_eq_false q, e1]
    rfl
theorem rowsK_has (D : List Tie) (a b : Nat) : (valV (rowsK D) (kk a b)).isSome = hasT D a b := by
  rw [← valV_any]
  unfold rowsK hasT
  rw [List.any_map]
  congr 1
  funext t
  exact decide_eq_decide.mpr kk_eq
section
variable {P : Program} {w : World} {K : PySem.W.Frag} {mg : Str → Option Value} {base : Heap}
theorem ev_index {σ : L2.St} {H : Hp} {te tx : TE} {nl : Addr} {names : List Str} {z : Str} (ho : Ev te σ H (.ref nl)) (hn : H nl = some (.lst (strsV names))) (hx : Ev tx σ H (.str z)) (hz : z ∈ names) : Ev (tBM K "list" (rIndex K) te (tCons tx tNil)) σ H (.int (idx names z : Nat)) :=
  ev_tBM ho (tyL (sq_of hn)) (ea_cons hx ea_nil) (rm_index (sq_of hn) rfl (flat_strs names) (strs_at' (idx_get hz)) (by simp [eqV]) fun m z' hm hz' => by
    unfold strsV at hz'
    rw [List.getElem?_map] at hz'
    obtain ⟨y, hy, rfl⟩ := Option.map_eq_some_iff.mp hz'
    have : y ≠ z := fun q => idx_first hm (q ▸ hy)
    simpa [eqV] using this)
/-- all but the desk and its list stand as before -/
def FrD (x nl : Addr) (H H' : Hp) : Prop := ∀ b o, H b = some o → b ≠ x → b ≠ nl → H' b = some o
def sp_Desk_go (K : PySem.W.Frag) : Sp := fun vs H Q _ => ∃ (x nl tl : Addr) (names : List Str) (D : List Tie) (i : Nat), vs = [.ref x, .int (i : Int)] ∧ DeskAt K H x nl tl names D ∧ i < names.length ∧ names.length ≤ 100 ∧ TiesOk names.length D ∧
  ∀ (tl' : Addr) H', FrD x nl H H' → H tl' = none → DeskAt K H' x nl tl' (names.eraseIdx i) (goneT i D) → Q .non H'
theorem shift_inj {i : Nat} {t u : Tie} (h1 : keepT i t = true) (h2 : keepT i u = true) (e1 : (shiftT i t).1 = (shiftT i u).1) (e2 : (shiftT i t).2.1 = (shiftT i u).2.1) : t.1 = u.1 ∧ t.2.1 = u.2.1 := by
  unfold keepT at h1 h2
  simp only [Bool.and_eq_true, Bool.not_eq_true', decide_eq_false_iff_not] at h1 h2
  unfold shiftT at e1 e2
  simp only at e1 e2
  constructor
  · split at e1 <;> split at e1 <;> omega
  · split at e2 <;> split at e2 <;> omega
theorem ok_Desk_go (T : Txt w K mg) : Ok P w K mg base CX0 2 ("Desk", some "go") ["self", "gone"] (sp_Desk_go K) := by
  refine ok0 T.f_Desk_go sc_Desk_go (fun vs H Q E h => by obtain ⟨_, _, _, _, _, _, rfl, _⟩ := h; rfl) (fun _ _ _ _ _ _ us hl => match us, hl with | [_, _], _ => rfl) fun f cdv A outer s H vs Q E hr h => ?_
  have nd := sc_Desk_go.nd
  have hu := hu_of hr
  refine ⟨_, (pss_cons (ps_expr (pe_bm PySem.F.plainAttrs_list PySem.F.slot_list_pop PySem.F.type_list_pop mt_popAt (pe_fld (pv 0) rfl) (pa_cons (pv 1) pa_nil)))
 (pss_cons (ps_set (i := 2) nd rfl (Or.inl rfl) pe_dnewT)
 (pss_cons (ps_lock (ps_for PassesOwn.never rfl (pi_itemsT (pe_fld (pv 0) rfl)) (pg_tup rfl (pgs_cons (pg_tup rfl (pgs_cons (pg_name (i := 3) nd rfl (Or.inl rfl)) (pgs_cons (pg_name (i := 4) nd rfl (Or.inl rfl)) pgs_nil))) (pgs_cons (pg_name (i := 5) nd rfl (Or.inl rfl)) pgs_nil))) (pss_one (ps_if (PW.pt (pw_and (pt_cmpR op_ne (pv 3) (pv 1) (nomark _)) (pw_and1 (pt_cmpR op_ne (pv 4) (pv 1) (nomark _))))) (pss_one (ps_dput hu (pv 2) (pe_tup (pa_cons (pe_op op_sub (pv 3) (pe_callTy call_int1 (by rfl) T.n_int (by decide +kernel) (pa_cons (pe_cmpR op_gt (pv 3) (pv 1) (nomark _)) pa_nil))) (pa_cons (pe_op op_sub (pv 4) (pe_callTy call_int1 (by rfl) T.n_int (by decide +kernel) (pa_cons (pe_cmpR op_gt (pv 4) (pv 1) (nomark _)) pa_nil))) pa_nil))) (pv 5) rfl)) pss_nil))))
 (pss_one (ps_fld (pv 0) (pv 2) rfl))))), ?_⟩
  try dsimp only [cxOf, L2.Cx.nox, L2.Cx.blk]
  obtain ⟨x, nl, tl, names, D, i, rfl, ⟨dx, hx, hn, ht⟩, hi, hnl, hk, hq⟩ := h
  have nx : nl ≠ x := ne_of hn hx (by intro z; cases z)
  have tx : tl ≠ x := ne_of ht hx (by intro z; cases z)
  have nt : nl ≠ tl := ne_of hn ht (by intro z; cases z)
  have hseq : seqIndex? (i : Int) (strsV names).length = some i := by
    rw [strs_len, seqIndex_of (by omega) (by omega)]
    rfl
  refine ⟨.ref x, rfl, x, _, dx, _, .ref nl, rfl, hx, T.k_Desk, T.na_Desk_named, rfl, Or.inl ⟨rfl, _, sq_of hn⟩, .int (i : Int), rfl, nl, strsV names, (i : Int), i, .str (nameAt names i), rfl, rfl, hn, by omega, by omega, hseq, strs_at' (name_some hi), ?_⟩
  have n1 : (upd H nl (.lst ((strsV names).eraseIdx i))) nl = some (.lst (strsV (names.eraseIdx i))) := by
    rw [upd_same]
    unfold strsV
    rw [erase_mapS]
  have x1 : (upd H nl (.lst ((strsV names).eraseIdx i))) x = some (.ins (He.ga K "Desk") dx [("named", .ref nl), ("table", .ref tl)]) := by
    rw [upd_ne (Ne.symm nx)]
    exact hx
  have t1 : (upd H nl (.lst ((strsV names).eraseIdx i))) tl = some (.dT (rowsK D)) := by
    rw [upd_ne (Ne.symm nt)]
    exact ht
  have f1 : FrD x nl H (upd H nl (.lst ((strsV names).eraseIdx i))) := fun b o hb h1 h2 => by
    rw [upd_ne h2]
    exact hb
  generalize upd H nl (.lst ((strsV names).eraseIdx i)) = H1 at n1 x1 t1 f1 ⊢
  refine q_asgP ep_newT fun v H2 e2 hv => ?_
  obtain ⟨bd, rfl, b0, hb2⟩ := hv
  have bt : bd ≠ tl := fun q => by
    rw [q, t1] at b0
    cases b0
  have bx : bd ≠ x := fun q => by
    rw [q, x1] at b0
    cases b0
  have bn : bd ≠ nl := fun q => by
    rw [q, n1] at b0
    cases b0
  have b0' : H bd = none := by
    cases ho : H bd with
    | none => rfl
    | some o =>
      rw [f1 bd o ho bx bn] at b0
      cases b0
  have t2 := e2 _ _ t1
  refine q_lock t2 trivial fun od => ?_
  have xl : (upd H2 tl (.frz od (.dT (rowsK D)))) x = some (.ins (He.ga K "Desk") dx [("named", .ref nl), ("table", .ref tl)]) := by
    rw [upd_ne (Ne.symm tx)]
    exact e2 _ _ x1
  have hit : EvI (iItemsT (tFld K (tVar 0) "table")) ((L2.start ["self", "gone", "behind", "a", "b", "heavy"] [V.ref x, V.int (i : Int)]).set 2 (some (.ref bd))) (upd H2 tl (.frz od (.dT (rowsK D)))) (ItiT tl od (rowsK D)) := fun H3 e3 R k =>
    ev_fld (ev_var rfl) (e3 _ _ xl) T.k_Desk T.na_Desk_table rfl H3 (Ex.refl _) _ fun H4 e4 => ⟨tl, od, rowsK D, rfl, e4 _ _ (e3 _ _ upd_same), k H4 e4⟩
  have rl : (rowsK D).length = D.length := List.length_map _
  refine s_forW walk_itemsT hit (fun k σ' H' => (∃ a b c, σ' = [some (.ref x), some (.int (i : Int)), some (.ref bd), a, b, c]) ∧ (∀ b o, (upd H2 tl (.frz od (.dT (rowsK D)))) b = some o → b ≠ bd → H' b = some o) ∧ H' tl = some (.frz od (.dT (rowsK D))) ∧ H' bd = some (.dT (rowsK (goneT i (D.take k))))) (fun H3 e3 => ⟨⟨none, none, none, rfl⟩, fun b o hb _ => e3 _ _ hb, e3 _ _ upd_same, e3 _ _ (by rw [upd_ne bt]; exact hb2)⟩) (fun k σ' H' _ pv => pv.2.2.1) (fun k v σ' H3 H4 hk' pv yv => ?hs) fun σ' H' pv => ?_
  case hs =>
    obtain ⟨⟨a0, b1, c0, rfl⟩, p1, p2, p3⟩ := pv
    obtain ⟨T1, q, k0, v0, hkv, rfl, hq1, hT, rfl⟩ := yv
    have hkD : k < D.length := by omega
    have hDk : D[k]? = some D[k] := List.getElem?_eq_getElem hkD
    generalize D[k] = t at hDk
    have hrow : (rowsK D)[k]? = some (kk t.1 t.2.1, .int t.2.2) := by
      unfold rowsK
      rw [List.getElem?_map, hDk]
      rfl
    obtain ⟨rfl, rfl⟩ := Prod.mk.inj (Option.some.inj (hkv.symm.trans hrow))
    have eN : Ex H3 (upd H3 T1 (.tup [.ref q, .int t.2.2])) := Ex.new hT
    have hq2 := eN _ _ hq1
    refine ⟨T1, _, rfl, st_of upd_same, rfl, .ref q, _, rfl, q, _, rfl, st_of hq2, rfl, .int (t.1 : Int), _, rfl, .int (t.2.1 : Int), _, rfl, rfl, .int t.2.2, _, rfl, rfl, ?_⟩
    have htake : goneT i (D.take (k + 1)) = if keepT i t = true then goneT i (D.take k) ++ [shiftT i t] else goneT i (D.take k) := by
      unfold goneT
      rw [take_snoc hDk, List.filter_append, List.map_append, List.filter_cons]
      by_cases hkp : keepT i t = true
      · rw [if_pos hkp, if_pos hkp]
        rfl
      · rw [if_neg hkp, if_neg hkp]
        exact List.append_nil _
    refine s_when (b := keepT i t) (et_and (et_test (ev_op (ev_var rfl) (ev_var rfl) ?_)) fun _ => et_test (ev_op (ev_var rfl) (ev_var rfl) ?_)) (fun hb H5 e5 => ?_) fun hb H5 e5 => ?_
    · have : decide (t.1 = i) = decide ((t.1 : Int) = (i : Int)) := decide_eq_decide.mpr (by omega)
      rw [this]
      exact rv_neI
    · have : decide (t.2.1 = i) = decide ((t.2.1 : Int) = (i : Int)) := decide_eq_decide.mpr (by omega)
      rw [this]
      exact rv_neI
    · have hbd5 := e5 _ _ (eN _ _ p3)
      have hk2 := hb
      unfold keepT at hk2
      simp only [Bool.and_eq_true, Bool.not_eq_true', decide_eq_false_iff_not] at hk2
      have sh : ∀ a : Nat, a ≠ i → (a : Int) - (if decide ((i : Int) < (a : Int)) = true then (1 : Int) else 0) = ((a - (if i < a then 1 else 0) : Nat) : Int) := fun a ha => by
        by_cases h : i < a
        · rw [if_pos h, if_pos (decide_eq_true (by omega))]
          omega
        · rw [if_neg h, if_neg (by simp; omega)]
          omega
      refine s_dputU (k := kk (shiftT i t).1 (shiftT i t).2.1) (xs := [.int (((shiftT i t).1 : Nat) : Int), .int (((shiftT i t).2.1 : Nat) : Int)]) (ev_var rfl) (ev_var rfl) (eu_tup (ea_cons (ev_is (ev_op (ev_var rfl) (ev_cb (ea_cons (ev_op (ev_var rfl) (ev_var rfl) rv_I0) ea_nil) rc_intB) rv_I0) (congrArg V.int (sh t.1 hk2.1))) (ea_cons (ev_is (ev_op (ev_var rfl) (ev_cb (ea_cons (ev_op (ev_var rfl) (ev_var rfl) rv_I0) ea_nil) rc_intB) rv_I0) (congrArg V.int (sh t.2.1 hk2.2))) ea_nil)) (by simp)) rfl hbd5 ?_ fun H6 e6 => ?_
      · have h1 : (rowsK (goneT i (D.take k))).length ≤ 1000 := by
          unfold rowsK goneT
          rw [List.length_map, List.length_map]
          have h2 := List.length_filter_le (keepT i) (D.take k)
          have h3 := List.length_take_le' k D
          have := hk.few
          omega
        omega
      · have hnew : valV (rowsK (goneT i (D.take k))) (kk (shiftT i t).1 (shiftT i t).2.1) = none := by
          refine valV_none' fun p hp e => ?_
          unfold rowsK at hp
          obtain ⟨u', hu', rfl⟩ := List.mem_map.mp hp
          unfold goneT at hu'
          obtain ⟨u, hu, rfl⟩ := List.mem_map.mp hu'
          obtain ⟨hu1, hu2⟩ := List.mem_filter.mp hu
          obtain ⟨e1, e2⟩ := kk_inj e
          obtain ⟨g1, g2⟩ := shift_inj hu2 hb e1 e2
          obtain ⟨j, hj, eu⟩ := List.mem_take_iff_getElem.mp hu1
          have h1 : (D.map fun t => (t.1, t.2.1))[j]? = some (u.1, u.2.1) := by
            rw [List.getElem?_map, List.getElem?_eq_getElem (by omega), eu]
            rfl
          have h2 : (D.map fun t => (t.1, t.2.1))[k]? = some (u.1, u.2.1) := by
            rw [List.getElem?_map, hDk, g1, g2]
            rfl
          have := nd_ix hk.nd h1 h2
          omega
        rw [putK_new _ hnew]
        refine ⟨⟨_, _, _, rfl⟩, fun b o hb' hne => ?_, ?_, ?_⟩
        · rw [upd_ne hne]
          exact e6 _ _ (e5 _ _ (eN _ _ (p1 b o hb' hne)))
        · rw [upd_ne (Ne.symm bt)]
          exact e6 _ _ (e5 _ _ (eN _ _ p2))
        · rw [upd_same, htake, if_pos hb]
          unfold rowsK
          rw [List.map_append]
          rfl
    · refine ⟨⟨_, _, _, rfl⟩, fun b o hb' hne => e5 _ _ (eN _ _ (p1 b o hb' hne)), e5 _ _ (eN _ _ p2), ?_⟩
      rw [htake, if_neg (by rw [hb]; decide)]
      exact e5 _ _ (eN _ _ p3)
  obtain ⟨⟨a0, b1, c0, rfl⟩, p1, p2, p3⟩ := pv
  rw [rl, List.take_length] at p3
  refine ⟨p2, ?_⟩
  have fr : ∀ b o, H2 b = some o → b ≠ bd → (upd H' tl (.dT (rowsK D))) b = some o := fun b o hb hne => by
    by_cases hbt : b = tl
    · rw [hbt, upd_same]
      rw [hbt, t2] at hb
      exact hb
    · rw [upd_ne hbt]
      exact p1 b o (by rw [upd_ne hbt]; exact hb) hne
  have x3 := fr _ _ (e2 _ _ x1) (Ne.symm bx)
  have n3 := fr _ _ (e2 _ _ n1) (Ne.symm bn)
  have b3 : (upd H' tl (.dT (rowsK D))) bd = some (.dT (rowsK (goneT i D))) := by
    rw [upd_ne bt]
    exact p3
  have f3 : FrD x nl H (upd H' tl (.dT (rowsK D))) := fun b o hb h1 h2 => fr b o (e2 _ _ (f1 b o hb h1 h2)) (ne_of_none hb b0')
  generalize upd H' tl (.dT (rowsK D)) = H9 at x3 n3 b3 f3 ⊢
  refine s_fld (D := { nx := fun _ H' => Q .non H', rt := Q }) (v := .ref bd) (ev_var rfl) (ev_var rfl) x3 T.k_Desk T.na_Desk_table (by simp) fun H10 e10 => ?_
  refine hq bd _ (fun b o hb h1 h2 => ?_) b0' ⟨dx, upd_same, ?_, ?_⟩
  · rw [upd_ne h1]
    exact e10 _ _ (f3 b o hb h1 h2)
  · rw [upd_ne nx]
    exact e10 _ _ n3
  · rw [upd_ne bx]
    exact e10 _ _ b3
theorem spp_go {H : Hp} {x nl tl : Addr} {names : List Str} {D : List Tie} {i : Nat} (h : DeskAt K H x nl tl names D) (hi : i < names.length) (hn : names.length ≤ 100) (hk : TiesOk names.length D) : True := True.intro
inductive ChgR (names : List Str) (D : List Tie) : List Str → Sum Str (List Str × List Tie) → Prop
  | many {z : Str} : 12 ≤ names.length → ChgR names D ["point", z] (.inl "TooMany")
  | point {z : Str} : names.length < 12 → ChgR names D ["point", z] (.inr (names ++ [z], D))
  | rename {y z : Str} : y ∈ names → ChgR names D ["rename", y, z] (.inr (names.set (idx names y) z, D))
  | gone {y : Str} : y ∈ names → ChgR names D ["gone", y] (.inr (names.eraseIdx (idx names y), goneT (idx names y) D))
  | bad {v y z : Str} {r : List Str} : (v = "tie" ∨ v = "untie") → y ∈ names → z ∈ names → idx names y = idx names z → ChgR names D (v :: y :: z :: r) (.inl "BadTie")
  | tie {y z s : Str} {h : Int} : y ∈ names → z ∈ names → idx names y ≠ idx names z → PySem.intText? s = some h → ChgR names D ["tie", y, z, s] (.inr (names, putT D (min (idx names y) (idx names z)) (max (idx names y) (idx names z)) h))
  | untie {y z : Str} : y ∈ names → z ∈ names → idx names y ≠ idx names z → hasT D (min (idx names y) (idx names z)) (max (idx names y) (idx names z)) = true → ChgR names D ["untie", y, z] (.inr (names, dropT D (min (idx names y) (idx names z)) (max (idx names y) (idx names z))))
  | none {y z : Str} : y ∈ names → z ∈ names → idx names y ≠ idx names z → hasT D (min (idx names y) (idx names z)) (max (idx names y) (idx names z)) = false → ChgR names D ["untie", y, z] (.inl "NoTie")
/-- what is promised of a change -/
def ChgEnd (K : PySem.W.Frag) (H : Hp) (x nl tl : Addr) (r : Sum Str (List Str × List Tie)) (v : V) (Q : VK) (E : XK) : Prop := match r with
  | .inl e => ∀ H', Ex H H' → E (.ref (He.ga K e)) none H'
  | .inr p => ∀ (tl' : Addr) H', (∀ b o, H b = some o → b ≠ x → b ≠ nl → b ≠ tl → H' b = some o) → (tl' = tl ∨ H tl' = none) → DeskAt K H' x nl tl' p.1 p.2 → Q v H'
def sp_Desk_change (K : PySem.W.Frag) : Sp := fun vs H Q E => ∃ (x nl tl wl : Addr) (names ws : List Str) (D : List Tie) (r : Sum Str (List Str × List Tie)), vs = [.ref x, .ref wl] ∧ DeskAt K H x nl tl names D ∧ names.length ≤ 12 ∧ TiesOk names.length D ∧ H wl = some (.lst (strsV ws)) ∧ wl ≠ nl ∧ (∀ z ∈ ws, z.length ≤ 100) ∧
  ChgR names D ws r ∧ ChgEnd K H x nl tl r .non Q E
theorem sort2 {i j : Nat} {r : List Nat} (h : SortOf [i, j] r) : r = [min i j, max i j] := by
  obtain ⟨hp, hs⟩ := h
  have hl := hp.length_eq
  match r, hl with
  | [a, b], _ =>
    have hab : a ≤ b := by
      rw [List.pairwise_cons] at hs
      exact hs.1 b (List.mem_singleton_self _)
    have ha : a ∈ [i, j] := hp.mem_iff.mp (by simp)
    have hb : b ∈ [i, j] := hp.mem_iff.mp (by simp)
    have hi : i ∈ [a, b] := hp.mem_iff.mpr (by simp)
    have hj : j ∈ [a, b] := hp.mem_iff.mpr (by simp)
    simp only [List.mem_cons, List.not_mem_nil, or_false] at ha hb hi hj
    have h1 : a = min i j := by omega
    have h2 : b = max i j := by omega
    rw [h1, h2]
theorem q_asgLP {σ : L2.St} {H : Hp} {te : TE} {Φ : V → Hp → Prop} {n : Nat} {tg : TGs} {D : Ends} {tz : TS} (h : EvP te σ H Φ) (k : ∀ v H1, Ex H H1 → Φ v H1 → ∃ a xs, v = .ref a ∧ SqL K H1 a xs ∧ xs.length = n ∧ tg xs σ H1 (tz D)) : tSeq (tAsg te (gLst K n tg)) tz D σ H := h H (Ex.refl H) _ fun v H1 e1 hv => k v H1 e1 hv
theorem s_popT {σ : L2.St} {H : Hp} {te tx : TE} {D : Ends} {d : Addr} {kvs : List (List Key × V)} {k : List Key} {v : V} {xs : List V} (ho : Ev te σ H (.ref d)) (hd : H d = some (.dT kvs)) (hk : EvU tx σ H xs) (hx : xs = k.map kV) (hv : valV kvs k = some v) (kont : ∀ H1, Ex H H1 → D.nx σ (upd H1 d (.dT (dropK kvs k)))) :
    tDrop (tBM K "dict" rPopT1 te (tCons tx tNil)) D σ H := ho H (Ex.refl _) _ fun H1 e1 => ⟨.inr (.inr (.inl ⟨rfl, .inr ⟨_, e1 _ _ hd⟩⟩)), hk H1 e1 _ fun p H2 p0 e2 hp => ⟨d, kvs, k, p, v, rfl, rfl, (e1.trans e2) _ _ hd, hp.trans (by rw [hx]), hv, kont H2 (e1.trans e2)⟩⟩
theorem min_max_lt {n i j : Nat} (hi : i < n) (hj : j < n) (h : i ≠ j) : min i j < max i j ∧ max i j < n := by omega
theorem ok_Desk_change (T : Txt w K mg) : Ok P w K mg base (L2.CX P w) 4 ("Desk", some "change") ["self", "words"] (sp_Desk_change K) := by
  obtain ⟨tL, m_MOST_HERE⟩ := T.c_MOST_HERE
  have c_Desk_go := ok_Desk_go (P := P) (base := base) T
  refine okX T.f_Desk_change sc_Desk_change (fun vs H Q E h => by obtain ⟨_, _, _, _, _, _, _, _, rfl, _⟩ := h; rfl) (fun _ _ _ _ _ _ us hl => match us, hl with | [_, _], _ => rfl) fun f cdv A outer s H vs Q E hr h => ?_
  have nd := sc_Desk_change.nd
  have hu := hu_of hr
  refine ⟨_, (pss_one (ps_if (pt_cmpR op_eq (pe_ix ix_list (pv 1) pe_int (fun _ _ => rfl)) pe_str (nomark _)) (pss_cons (ps_if (pt_cmpR op_ge (pe_callB call_len_seq (by rfl) T.n_len (by decide +kernel) (pa_cons (pe_fld (pv 0) rfl) pa_nil)) (pe_glob (v := .int 12) rfl m_MOST_HERE ⟨_, rfl⟩) (nomark _)) (pss_one (ps_raise rfl (takes_of rfl rfl rfl rfl) (pmk_own PySem.F.excBase_ValueError T.x_TooMany T.g_TooMany T.p_TooMany (raises_own T.b_TooMany T.t_TooMany) rfl))) pss_nil)
 (pss_one (ps_expr (pe_bm PySem.F.plainAttrs_list PySem.F.slot_list_append PySem.F.type_list_append mt_append (pe_fld (pv 0) rfl) (pa_cons (pe_ix ix_list (pv 1) pe_int (fun _ _ => rfl)) pa_nil))))) (pss_one (ps_if (pt_cmpR op_eq (pe_ix ix_list (pv 1) pe_int (fun _ _ => rfl)) pe_str (nomark _)) (pss_one (ps_asg (pe_ix ix_list (pv 1) pe_int (fun _ _ => rfl)) (pg_sub (pe_fld (pv 0) rfl) (pe_bm PySem.F.plainAttrs_list PySem.F.slot_list_index PySem.F.type_list_index mt_index (pe_fld (pv 0) rfl) (pa_cons (pe_ix ix_list (pv 1) pe_int (fun _ _ => rfl)) pa_nil)) set_list))) (pss_one (ps_if (pt_cmpR op_eq (pe_ix ix_list (pv 1) pe_int (fun _ _ => rfl)) pe_str (nomark _)) (pss_one (ps_expr (pm T.k_Desk T.m_Desk_go c_Desk_go hr (by decide) (pv 0) (pa_cons (pe_bm PySem.F.plainAttrs_list PySem.F.slot_list_index PySem.F.type_list_index mt_index (pe_fld (pv 0) rfl) (pa_cons (pe_ix ix_list (pv 1) pe_int (fun _ _ => rfl)) pa_nil)) pa_nil)))) (pss_cons (ps_asg (pe_callB cr_sortedI (by rfl) T.n_sorted (by decide +kernel) (pa_cons (pe_lst (pa_cons (pe_bm PySem.F.plainAttrs_list PySem.F.slot_list_index PySem.F.type_list_index mt_index (pe_fld (pv 0) rfl) (pa_cons (pe_ix ix_list (pv 1) pe_int (fun _ _ => rfl)) pa_nil)) (pa_cons (pe_bm PySem.F.plainAttrs_list PySem.F.slot_list_index PySem.F.type_list_index mt_index (pe_fld (pv 0) rfl) (pa_cons (pe_ix ix_list (pv 1) pe_int (fun _ _ => rfl)) pa_nil)) pa_nil))) pa_nil)) (pg_lst rfl (pgs_cons (pg_name (i := 2) nd rfl (Or.inl rfl)) (pgs_cons (pg_name (i := 3) nd rfl (Or.inl rfl)) pgs_nil))))
 (pss_cons (ps_if (pt_cmpR op_eq (pv 2) (pv 3) (nomark _)) (pss_one (ps_raise rfl (takes_of rfl rfl rfl rfl) (pmk_own PySem.F.excBase_ValueError T.x_BadTie T.g_BadTie T.p_BadTie (raises_own T.b_BadTie T.t_BadTie) rfl))) pss_nil)
 (pss_one (ps_if (pt_cmpR op_eq (pe_ix ix_list (pv 1) pe_int (fun _ _ => rfl)) pe_str (nomark _)) (pss_one (ps_dput hu (pe_fld (pv 0) rfl) (pe_tup (pa_cons (pv 2) (pa_cons (pv 3) pa_nil))) (pe_callTy call_int_str (by rfl) T.n_int (by decide +kernel) (pa_cons (pe_ix ix_list (pv 1) pe_int (fun _ _ => rfl)) pa_nil)) rfl)) (pss_one (ps_if (pt_cmp (pc_din hu (pe_tup (pa_cons (pv 2) (pa_cons (pv 3) pa_nil))) (pe_fld (pv 0) rfl))) (pss_one (ps_expr (pe_bm PySem.F.plainAttrs_dict PySem.F.slot_dict_pop PySem.F.type_dict_pop (mt_popT1 hu) (pe_fld (pv 0) rfl) (pa_cons (pe_tup (pa_cons (pv 2) (pa_cons (pv 3) pa_nil))) pa_nil)))) (pss_one (ps_raise rfl (takes_of rfl rfl rfl rfl) (pmk_own PySem.F.excBase_ValueError T.x_NoTie T.g_NoTie T.p_NoTie (raises_own T.b_NoTie T.t_NoTie) rfl))))))))))))))), ?_⟩
  try dsimp only [cxOf, L2.Cx.nox, L2.Cx.blk]
  obtain ⟨x, nl, tl, wl, names, ws, D, r, rfl, ⟨dx, hx, hn, ht⟩, hnl, hk, hwl, hwn, hws, hR, hend⟩ := h
  have nx : nl ≠ x := ne_of hn hx (by intro z; cases z)
  have tx : tl ≠ x := ne_of ht hx (by intro z; cases z)
  have nt : nl ≠ tl := ne_of hn ht (by intro z; cases z)
  have wx : wl ≠ x := ne_of hwl hx (by intro z; cases z)
  have wt : wl ≠ tl := ne_of hwl ht (by intro z; cases z)
  have fldn : ∀ {σ : L2.St} {H1 : Hp}, Ex H H1 → σ[0]? = some (some (.ref x)) → Ev (tFld K (tVar 0) "named") σ H1 (.ref nl) := fun e hs => ev_fld (ev_var hs) (e _ _ hx) T.k_Desk T.na_Desk_named rfl
  have fldt : ∀ {σ : L2.St} {H1 : Hp}, Ex H H1 → σ[0]? = some (some (.ref x)) → Ev (tFld K (tVar 0) "table") σ H1 (.ref tl) := fun e hs => ev_fld (ev_var hs) (e _ _ hx) T.k_Desk T.na_Desk_table rfl
  have wat : ∀ {σ : L2.St} {H1 : Hp} {j : Nat} {z : Str}, Ex H H1 → σ[1]? = some (some (.ref wl)) → ws[j]? = some z → Ev (tOp (rIxL K) (tVar 1) (L2.tC (.int (j : Int)))) σ H1 (.str z) := fun e hs hz => ev_op (ev_var hs) ev_c (rv_ixLn (sq_of (e _ _ hwl)) (strs_at' hz))
  have frame : ∀ {H1 : Hp} {o' : HO}, Ex H H1 → ∀ b o, H b = some o → b ≠ x → b ≠ nl → b ≠ tl → (upd H1 tl o') b = some o := fun e b o hb _ _ h3 => by
    rw [upd_ne h3]
    exact e _ _ hb
  have big : ∀ {r : List Str} {v y z : Str}, (v = "tie" ∨ v = "untie") → y ∈ names → z ∈ names → ws = v :: y :: z :: r → ∀ {H3 : Hp} {D' : Ends} {tz : TS}, Ex H H3 → (∀ H4, Ex H3 H4 → tz D' [some (.ref x), some (.ref wl), some (.int ((min (idx names y) (idx names z) : Nat) : Int)), some (.int ((max (idx names y) (idx names z) : Nat) : Int))] H4) →
      tSeq (tAsg (tCB (rSortedI K) (tCons (tLst (tCons (tBM K "list" (rIndex K) (tFld K (tVar 0) "named") (tCons (tOp (rIxL K) (tVar 1) (L2.tC (V.int 1))) tNil)) (tCons (tBM K "list" (rIndex K) (tFld K (tVar 0) "named") (tCons (tOp (rIxL K) (tVar 1) (L2.tC (V.int 2))) tNil)) tNil))) tNil)) (gLst K 2 (gCons (gName 2) (gCons (gName 3) gNil)))) tz D' [some (.ref x), some (.ref wl), none, none] H3 := by
    intro r v y z hv hy hz hws2 H3 D' tz e3 k
    refine q_asgLP (Φ := NatsAt H3 (SortOf [idx names _, idx names _])) (ep_cbL (xs := natsV [idx names _, idx names _]) (el_lst (ea_cons (ev_index (fldn e3 rfl) (e3 _ _ hn) (wat (j := 1) e3 rfl (by rw [hws2]; rfl)) hy) (ea_cons (ev_index (fldn e3 rfl) (e3 _ _ hn) (wat (j := 2) e3 rfl (by rw [hws2]; rfl)) hz) ea_nil)) (by show 2 ≤ 100000; decide)) fun p H4 e4 h4 => (rcp_sortN (sq_of h4)).imp fun v H5 hv => hv.back e4) fun v H4 e4 hv => ?_
    obtain ⟨p, r, rfl, _, hp, hs⟩ := hv
    rw [sort2 hs] at hp
    exact ⟨p, _, rfl, sq_of hp, rfl, _, _, rfl, _, _, rfl, rfl, k H4 e4⟩
  have tst : ∀ {σ : L2.St} {H1 : Hp} {z c : Str} {b : Bool}, Ex H H1 → σ[1]? = some (some (.ref wl)) → ws[0]? = some z → decide (z = c) = b → EvT (tTest (tOp rEq (tOp (rIxL K) (tVar 1) (L2.tC (.int 0))) (L2.tC (.str c)))) σ H1 b := fun e hs hz hb => et_is (et_test (ev_op (wat (j := 0) e hs hz) ev_c rv_eqS)) hb
  have nlen : ∀ {σ : L2.St} {H1 : Hp}, Ex H H1 → σ[0]? = some (some (.ref x)) → EvT (tTest (tOp (rI0 fun i j => V.bl (decide (j ≤ i))) (tCB (fun xs H Q => ∃ p ys, xs = [V.ref p] ∧ (SqL K H p ys ∨ SqT K H p ys) ∧ Q (V.int ys.length) H) (tCons (tFld K (tVar 0) "named") tNil)) (L2.tC (V.int 12)))) σ H1 (decide (12 ≤ names.length)) := fun e hs => et_is (et_test (ev_op (ev_cb (ea_cons (fldn e hs) ea_nil) (rc_len (sq_of (e _ _ hn)))) ev_c rv_I0)) (by rw [strs_len]; exact decide_eq_decide.mpr (by omega))
  cases hR with
  | many h12 =>
    refine s_if (b := true) (tst (Ex.refl _) rfl rfl (by decide +kernel)) (fun _ H1 e1 => ?_) fun hb => by cases hb
    refine q_when (b := true) (et_is (nlen e1 rfl) (decide_eq_true h12)) (fun _ H2 e2 => ?_) fun hb => by cases hb
    exact hend _ (e1.trans e2)
  | point h12 =>
    refine s_if (b := true) (tst (Ex.refl _) rfl rfl (by decide +kernel)) (fun _ H1 e1 => ?_) fun hb => by cases hb
    refine q_when (b := false) (et_is (nlen e1 rfl) (decide_eq_false (by omega))) (fun hb => by cases hb) fun _ H2 e2 => ?_
    have e12 := e1.trans e2
    refine s_app (l := nl) (e12 _ _ hn) (fldn e12 rfl) (wat (j := 1) e12 rfl rfl) (by rw [strs_len]; omega) fun H3 e3 => ?_
    have e13 := e12.trans e3
    refine hend tl _ (fun b o hb h1 h2 h3 => ?_) (.inl rfl) ⟨dx, ?_, ?_, ?_⟩
    · rw [upd_ne h2]
      exact e13 _ _ hb
    · rw [upd_ne (Ne.symm nx)]
      exact e13 _ _ hx
    · rw [upd_same]
      unfold strsV
      rw [List.map_append]
      rfl
    · rw [upd_ne (Ne.symm nt)]
      exact e13 _ _ ht
  | rename hy =>
    refine s_if (b := false) (tst (Ex.refl _) rfl rfl (by decide +kernel)) (fun hb => by cases hb) fun _ H1 e1 => ?_
    refine s_if (b := true) (tst e1 rfl rfl (by decide +kernel)) (fun _ H2 e2 => ?_) fun hb => by cases hb
    have e12 := e1.trans e2
    refine s_setL (l := nl) (j := idx names _) (e12 _ _ hn) (wat (j := 2) e12 rfl rfl) (fldn e12 rfl) (ev_index (fldn e12 rfl) (e12 _ _ hn) (wat (j := 1) e12 rfl rfl) hy) (by rw [strs_len]; exact idx_lt hy) fun H3 e3 => ?_
    have e13 := e12.trans e3
    refine hend tl _ (fun b o hb h1 h2 h3 => ?_) (.inl rfl) ⟨dx, ?_, ?_, ?_⟩
    · rw [upd_ne h2]
      exact e13 _ _ hb
    · rw [upd_ne (Ne.symm nx)]
      exact e13 _ _ hx
    · rw [upd_same]
      unfold strsV
      rw [List.map_set]
    · rw [upd_ne (Ne.symm nt)]
      exact e13 _ _ ht
  | gone hy =>
    refine s_if (b := false) (tst (Ex.refl _) rfl rfl (by decide +kernel)) (fun hb => by cases hb) fun _ H1 e1 => ?_
    refine s_if (b := false) (tst e1 rfl rfl (by decide +kernel)) (fun hb => by cases hb) fun _ H2 e2 => ?_
    have e12 := e1.trans e2
    refine s_if (b := true) (tst e12 rfl rfl (by decide +kernel)) (fun _ H3 e3 => ?_) fun hb => by cases hb
    have e13 := e12.trans e3
    refine ⟨.ref x, rfl, x, dx, _, rfl, e13 _ _ hx, rfl, ?_⟩
    refine ev_index (fldn e13 rfl) (e13 _ _ hn) (wat (j := 1) e13 rfl rfl) hy H3 (Ex.refl _) _ fun H4 e4 => ?_
    have e14 := e13.trans e4
    refine ⟨x, nl, tl, names, D, _, rfl, ⟨dx, e14 _ _ hx, e14 _ _ hn, e14 _ _ ht⟩, idx_lt hy, by omega, hk, fun tl' H' fr t0 hd => ?_⟩
    refine hend tl' H' (fun b o hb h1 h2 h3 => fr b o (e14 _ _ hb) h1 h2) (.inr ?_) hd
    exact fresh_back e14 t0
  | @bad v y z r hv hy hz he =>
    have h1 : decide (v = ("point" : Str)) = false := by rcases hv with rfl | rfl <;> decide +kernel
    have h2 : decide (v = ("rename" : Str)) = false := by rcases hv with rfl | rfl <;> decide +kernel
    have h3 : decide (v = ("gone" : Str)) = false := by rcases hv with rfl | rfl <;> decide +kernel
    refine s_if (b := false) (tst (Ex.refl _) rfl rfl h1) (fun hb => by cases hb) fun _ H1 e1 => ?_
    refine s_if (b := false) (tst e1 rfl rfl h2) (fun hb => by cases hb) fun _ H2 e2 => ?_
    have e12 := e1.trans e2
    refine s_if (b := false) (tst e12 rfl rfl h3) (fun hb => by cases hb) fun _ H3 e3 => ?_
    have e13 := e12.trans e3
    refine big hv hy hz rfl e13 fun H4 e4 => ?_
    refine q_when (b := true) (et_is (et_test (ev_op (ev_var rfl) (ev_var rfl) rv_eqI)) (decide_eq_true (by rw [he]; omega))) (fun _ H5 e5 => ?_) fun hb => by cases hb
    exact hend _ ((e13.trans e4).trans e5)
  | tie hy hz hne hs =>
    refine s_if (b := false) (tst (Ex.refl _) rfl rfl (by decide +kernel)) (fun hb => by cases hb) fun _ H1 e1 => ?_
    refine s_if (b := false) (tst e1 rfl rfl (by decide +kernel)) (fun hb => by cases hb) fun _ H2 e2 => ?_
    have e12 := e1.trans e2
    refine s_if (b := false) (tst e12 rfl rfl (by decide +kernel)) (fun hb => by cases hb) fun _ H3 e3 => ?_
    have e13 := e12.trans e3
    refine big (.inl rfl) hy hz rfl e13 fun H4 e4 => ?_
    have hlt := min_max_lt (idx_lt hy) (idx_lt hz) hne
    refine q_when (b := false) (et_is (et_test (ev_op (ev_var rfl) (ev_var rfl) rv_eqI)) (decide_eq_false (by omega))) (fun hb => by cases hb) fun _ H5 e5 => ?_
    have e15 := (e13.trans e4).trans e5
    refine s_if (b := true) (tst e15 rfl rfl (by decide +kernel)) (fun _ H6 e6 => ?_) fun hb => by cases hb
    have e16 := e15.trans e6
    refine s_dputU (k := kk _ _) (xs := [.int ((min (idx names _) (idx names _) : Nat) : Int), .int ((max (idx names _) (idx names _) : Nat) : Int)]) (ev_cb (ea_cons (wat (j := 3) e16 rfl rfl) ea_nil) (rc_intS hs (Nat.le_trans (hws _ (by simp)) (by decide)))) (fldt e16 rfl) (eu_tup (ea_cons (ev_var rfl) (ea_cons (ev_var rfl) ea_nil)) (by simp)) rfl (e16 _ _ ht) ?_ fun H7 e7 => ?_
    · unfold rowsK
      rw [List.length_map]
      have := hk.few
      omega
    have e17 := e16.trans e7
    refine hend tl _ (frame e17) (.inl rfl) ⟨dx, ?_, ?_, ?_⟩
    · rw [upd_ne (Ne.symm tx)]
      exact e17 _ _ hx
    · rw [upd_ne nt]
      exact e17 _ _ hn
    · rw [upd_same, ← rowsK_put]
  | untie hy hz hne hh =>
    refine s_if (b := false) (tst (Ex.refl _) rfl rfl (by decide +kernel)) (fun hb => by cases hb) fun _ H1 e1 => ?_
    refine s_if (b := false) (tst e1 rfl rfl (by decide +kernel)) (fun hb => by cases hb) fun _ H2 e2 => ?_
    have e12 := e1.trans e2
    refine s_if (b := false) (tst e12 rfl rfl (by decide +kernel)) (fun hb => by cases hb) fun _ H3 e3 => ?_
    have e13 := e12.trans e3
    refine big (.inr rfl) hy hz rfl e13 fun H4 e4 => ?_
    have hlt := min_max_lt (idx_lt hy) (idx_lt hz) hne
    refine q_when (b := false) (et_is (et_test (ev_op (ev_var rfl) (ev_var rfl) rv_eqI)) (decide_eq_false (by omega))) (fun hb => by cases hb) fun _ H5 e5 => ?_
    have e15 := (e13.trans e4).trans e5
    refine s_if (b := false) (tst e15 rfl rfl (by decide +kernel)) (fun hb => by cases hb) fun _ H6 e6 => ?_
    have e16 := e15.trans e6
    refine s_if (b := true) (et_is (et_B (ev_dinU (xs := [.int ((min (idx names _) (idx names _) : Nat) : Int), .int ((max (idx names _) (idx names _) : Nat) : Int)]) (eu_tup (ea_cons (ev_var rfl) (ea_cons (ev_var rfl) ea_nil)) (by simp)) (fldt e16 rfl) (dg_t (k := kk _ _) (.inl (e16 _ _ ht)) rfl))) (by rw [rowsK_has]; exact hh)) (fun _ H7 e7 => ?_) fun hb => by cases hb
    have e17 := e16.trans e7
    have hsome : ∃ v, valV (rowsK D) (kk (min (idx names _) (idx names _)) (max (idx names _) (idx names _))) = some v := Option.isSome_iff_exists.mp (by rw [rowsK_has]; exact hh)
    obtain ⟨v0, hv0⟩ := hsome
    refine s_popT (xs := [.int ((min (idx names _) (idx names _) : Nat) : Int), .int ((max (idx names _) (idx names _) : Nat) : Int)]) (fldt e17 rfl) (e17 _ _ ht) (eu_tup (ea_cons (ev_var rfl) (ea_cons (ev_var rfl) ea_nil)) (by simp)) rfl hv0 fun H9 e9 => ?_
    have e19 := e17.trans e9
    refine hend tl _ (frame e19) (.inl rfl) ⟨dx, ?_, ?_, ?_⟩
    · rw [upd_ne (Ne.symm tx)]
      exact e19 _ _ hx
    · rw [upd_ne nt]
      exact e19 _ _ hn
    · rw [upd_same, ← rowsK_drop]
  | none hy hz hne hh =>
    refine s_if (b := false) (tst (Ex.refl _) rfl rfl (by decide +kernel)) (fun hb => by cases hb) fun _ H1 e1 => ?_
    refine s_if (b := false) (tst e1 rfl rfl (by decide +kernel)) (fun hb => by cases hb) fun _ H2 e2 => ?_
    have e12 := e1.trans e2
    refine s_if (b := false) (tst e12 rfl rfl (by decide +kernel)) (fun hb => by cases hb) fun _ H3 e3 => ?_
    have e13 := e12.trans e3
    refine big (.inr rfl) hy hz rfl e13 fun H4 e4 => ?_
    have hlt := min_max_lt (idx_lt hy) (idx_lt hz) hne
    refine q_when (b := false) (et_is (et_test (ev_op (ev_var rfl) (ev_var rfl) rv_eqI)) (decide_eq_false (by omega))) (fun hb => by cases hb) fun _ H5 e5 => ?_
    have e15 := (e13.trans e4).trans e5
    refine s_if (b := false) (tst e15 rfl rfl (by decide +kernel)) (fun hb => by cases hb) fun _ H6 e6 => ?_
    have e16 := e15.trans e6
    refine s_if (b := false) (et_is (et_B (ev_dinU (xs := [.int ((min (idx names _) (idx names _) : Nat) : Int), .int ((max (idx names _) (idx names _) : Nat) : Int)]) (eu_tup (ea_cons (ev_var rfl) (ea_cons (ev_var rfl) ea_nil)) (by simp)) (fldt e16 rfl) (dg_t (k := kk _ _) (.inl (e16 _ _ ht)) rfl))) (by rw [rowsK_has]; exact hh)) (fun hb => by cases hb) fun _ H7 e7 => ?_
    exact hend _ (e16.trans e7)
end
end KD
set_option maxHeartbeats 4000000
/-! own rules 7: len(set(xs)) of ints and of texts, some of them twice -/
namespace KD
open PySem PySem.Spec PyProof.Rows L2 Evl
/-- the texts met so far, each once -/
def addOnce (m : List Str) (z : Str) : List Str := if m.any (· == z) = true then m else m ++ [z]
def onceS (ys : List Str) : List Str := ys.foldl addOnce []
theorem once_snoc (ys : List Str) (z : Str) : onceS (ys ++ [z]) = addOnce (onceS ys) z := by
  unfold onceS
  rw [List.foldl_append]
  rfl
theorem addOnce_len (m : List Str) (z : Str) : (addOnce m z).length = if m.any (· == z) then m.length else m.length + 1 := by
  unfold addOnce
  split <;> simp
theorem addOnce_any (m : List Str) (z k : Str) : (addOnce m z).any (· == k) = (m.any (· == k) || decide (k = z)) := by
  unfold addOnce
  by_cases e : k = z
  · subst e
    by_cases h : m.any (· == k) = true
    · rw [if_pos h, h]
      simp
    · rw [if_neg h, List.any_append]
      simp
  · have hb : (z == k) = false := beq_eq_false_iff_ne.mpr fun q => e q.symm
    split
    · simp [e]
    · rw [List.any_append]
      simp [hb, e]
theorem once_le (ys : List Str) : (onceS ys).length ≤ ys.length := by
  have h : ∀ (l m : List Str), (l.foldl addOnce m).length ≤ m.length + l.length := by
    intro l
    induction l with
    | nil => exact fun m => Nat.le_refl _
    | cons a r ih =>
      intro m
      have h1 := ih (addOnce m a)
      have h2 := addOnce_len m a
      rw [List.foldl_cons, List.length_cons]
      split at h2 <;> omega
  have := h ys []
  unfold onceS
  simpa using this
section
variable {prog : Program} {w : World} {A : Around} {R : Result → Shared → Prop} {It : Addr} {fps wrs : List Addr} {G : Array GenState → Array GenState → Prop} {num : Nat} {Pr : Nat → Value → Prop} {Stt : Nat → Shared → Prop}
theorem loopT (wk : WalksS prog w A.in1 It fps wrs G num Pr Stt) (set0 : Addr) (nof : set0 ∉ fps) (ys : List Str) (hlen : ys.length = num) (hroom : num + 1 < scanBound) (vals : ∀ j u, Pr j u → ∃ t, u = .str (ys.getD j Str.empty) t) :
    ∀ (left j : Nat) (z : Shared), num - j = left → j ≤ num → Stt j z → z.heap.SetOf (PySem.strKind prog w) set0 (fun q => (onceS (ys.take j)).any (· == q)) (onceS (ys.take j)).length →
      (∀ y, Moved (set0 :: wrs) G z y → y.heap.SetOf (PySem.strKind prog w) set0 (fun q => (onceS (ys.take num)).any (· == q)) (onceS (ys.take num)).length → R (.ok (.ret .none)) y) →
      codeAny (model prog w) A (.builtin "set.update.loop" ⟨[.ref set0, .ref It], []⟩) R z := by
  have now : set0 ∉ wrs := fun h => nof (wk.sub _ h)
  have more : ∀ b ∈ wrs, b ∈ set0 :: wrs := fun b h => List.mem_cons_of_mem _ h
  intro left
  induction left with
  | zero =>
    intro j z e0 le0 st0 so done
    obtain rfl : j = num := by omega
    refine codeAny_builtin PyProof.Rows.F.entry_set_update_loop (by
      rw [Around.under_plainId PyProof.Rows.F.plain_set_update_loop _]
      show wpAny _ A.in1 (pyNext (.ref It) >>= _) _ _ z
      refine wpAny_bind (wk.done z _ _ st0 fun y mv => ?_)
      show wpAny _ A.in1 (ret Value.none) _ _ y
      obtain ⟨o, es, ep, t, ho, rest⟩ := so
      exact wpAny_pure (done y (mv.mono more) ⟨o, es, ep, t, mv.heap set0 _ now ho, rest⟩))
  | succ left ih =>
    intro j z e0 le0 st0 so done
    have lt0 : j < num := by omega
    refine codeAny_builtin PyProof.Rows.F.entry_set_update_loop (by
      rw [Around.under_plainId PyProof.Rows.F.plain_set_update_loop _]
      show wpAny _ A.in1 (pyNext (.ref It) >>= _) _ _ z
      refine wpAny_bind (wk.item j z _ _ lt0 st0 fun u y pu st1 mv => ?_)
      obtain ⟨t, rfl⟩ := vals j u pu
      have so1 : y.heap.SetOf (PySem.strKind prog w) set0 (fun q => (onceS (ys.take j)).any (· == q)) (onceS (ys.take j)).length := by
        obtain ⟨o, es, ep, tt, ho, rest⟩ := so
        exact ⟨o, es, ep, tt, mv.heap set0 _ now ho, rest⟩
      show wpAny _ A.in1 (holding [Value.str (ys.getD j Str.empty) t] (setAdd set0 (.str (ys.getD j Str.empty) t)) >>= _) _ _ y
      refine wpAny_bind (wpAny_holding (by
        unfold setAdd
        refine wpAny_holding (wpAny_bind ((PySem.strKind prog w).pyHash (k := ys.getD j Str.empty) (strKind_is _ _ _ _) ?_))
        have few := once_le (ys.take j)
        rw [List.length_take] at few
        refine wpAny_setAddHashed_of (knd := PySem.strKind prog w) (s := { y with toks := y.toks + 1 }) (strKind_is _ _ _ _) rfl so1 (by omega) fun g sb so2 => ?_
        have tk : ys.take (j + 1) = ys.take j ++ [ys.getD j Str.empty] := by
          rw [List.take_add_one, List.getD_eq_getElem?_getD, List.getElem?_eq_getElem (by omega)]
          rfl
        have so3 : g.SetOf (PySem.strKind prog w) set0 (fun q => (onceS (ys.take (j + 1))).any (· == q)) (onceS (ys.take (j + 1))).length :=
          SetOf_congr so2 (fun q => by rw [tk, once_snoc, addOnce_any]) (by rw [tk, once_snoc, addOnce_len])
        refine wpAny_pure ⟨plainId_quiet PyProof.Rows.F.plain_set_update_loop _, ih (j + 1) _ (by omega) lt0 (wk.frame _ y _ _ st1 (Nat.le_succ _) fun b hb o e => ?_) so3 fun x mx sx => ?_⟩
        · exact (sb.2 b (fun h : b = set0 => nof (h ▸ hb))).trans e
        · refine done x (Moved.trans wk.gtrans ((mv.mono more).then_heap (Nat.le_succ _) fun b o hb e => ?_) mx) sx
          exact (sb.2 b (fun h : b = set0 => hb (h ▸ List.mem_cons_self))).trans e)))
end
section
variable {prog : Program} {w : World} {A : Around} {E : Value → Shared → Prop} {s : Shared}
abbrev setObj0 (led : Bool) : Obj := { cls := .type "set", dict := none, data := .set #[] 0 (.fresh 0 0 led) }
/-- set(l), l a list of texts -/
theorem call_set_texts {l : Addr} {its : Array Value} {ys : List Str} {Q : Value → Shared → Prop} (calm : A.handled = none) (hlst : s.heap.IsList l its) (htx : PyProof.Rows.StrsAre its.toList ys) (hroom : its.size + 1 < scanBound)
    (fin : ∀ (g : Heap) (tk : Nat), g.SetOf (PySem.strKind prog w) s.heap.objs.size (fun q => (onceS ys).any (· == q)) (onceS ys).length → (∀ b o, b < s.heap.objs.size → s.heap.get? b = some o → g.get? b = some o) → Q (.ref s.heap.objs.size) { s with heap := g, toks := tk }) :
    wpAny (model prog w) A (call (.type "set") [.ref l]) Q E s := by
  obtain ⟨cM, tM, mroM⟩ := PySem.F.called_set.mro
  have f1 := PySem.F.called_set.made
  have f2 := PySem.F.called_set.sub
  have f3 := PySem.F.called_set.notType
  have f4 := PySem.F.called_set.canCreate
  have f5 := PySem.F.typeCall_set_1 (.ref l)
  have hlen : ys.length = its.size := by rw [← StrsAre.len_eq htx, Array.length_toList]
  refine wpAny_call (codeAny_of_tree (by
    show wpAny _ _ (callAny (.type "set") _) _ _ _
    refine wpAny_pure ⟨Code.quiet_builtin _ (by decide +kernel), codeAny_builtin PySem.F.entry_type_call ?_⟩
    rw [Around.under_plain (weight_type_call_type "set" [.ref l] []) rfl]
    repeat (any_goals (first | assumption | wp_step))
    refine codeAny_mono (code_set_new_1 (.ref l) (E := E) (Q₁ := fun ob sh => ∃ led : Bool, ob = .ref s.heap.objs.size ∧ sh = { s with heap := s.heap.push (setObj0 led) }) fun led => ⟨led, rfl, rfl⟩) fun res sh hres => ?_
    cases res with
    | error e => exact hres
    | ok fl =>
      cases fl with
      | ret ob =>
        obtain ⟨led, rfl, rfl⟩ := hres
        have got : (s.heap.push (setObj0 led)).get? s.heap.objs.size = some (setObj0 led) := Heap.get?_push_size _ rfl
        have isS : Shared.TypeIs { s with heap := s.heap.push (setObj0 led) } (.ref s.heap.objs.size) "set" := ⟨_, got, rfl⟩
        have f6 := PySem.F.called_set.init.lookup
        have f7 := PySem.F.called_set.init.bind (.ref s.heap.objs.size)
        repeat (any_goals (first | assumption | wp_step))
        refine codeAny_mono (codeAny_call_builtin (R := wants (fun r s₂ => r = .none ∧ ∃ g tk, s₂ = { s with heap := g, toks := tk } ∧ g.SetOf (PySem.strKind prog w) s.heap.objs.size (fun q => (onceS ys).any (· == q)) (onceS ys).length ∧ (∀ b o, b < s.heap.objs.size → s.heap.get? b = some o → g.get? b = some o)) E)
          PySem.F.called_set.init.plain PySem.F.entry_set_init (check_set_init_1 isS ?_)) fun res2 sh2 hres2 => ?_
        · obtain ⟨ol, hol, hcl, nl, hdl⟩ := hlst
          obtain ⟨oc, od, oz, osl⟩ := ol
          simp only at hcl hdl
          subst hcl
          subst hdl
          have hol2 : (s.heap.push (setObj0 led)).get? l = some { cls := .type "list", dict := od, data := .seq its nl, slots := osl } := Heap.get?_push_of_some _ hol
          have f8 := PySem.F.sub_list_set
          have f9 := PySem.F.sub_list_frozenset
          have f10 : (Value.type "list" == Value.type "dict") = false := by decide
          have isL : (s.heap.push (setObj0 led)).IsList l its := ⟨_, hol2, rfl, nl, rfl⟩
          unfold Builtin.«set.__init__» noKeywords Builtin.Frozenset.updateFrom
          generalize hit : pyIter = walkIt
          wp_walk
          subst hit
          refine wpAny_pyIter_list isL (wpAny_bind (wpAny_runValue ?_))
          have lts : l < s.heap.objs.size := Heap.lt_size hol
          have c3 : A.in1.in1.in1.handled = none := by simp [calm]
          have szP : (s.heap.push (setObj0 led)).objs.size = s.heap.objs.size + 1 := Heap.size_push _ _
          have ne1 : l ≠ (s.heap.push (setObj0 led)).objs.size := szP ▸ Nat.ne_of_lt (Nat.lt_succ_of_lt lts)
          have ne2 : s.heap.objs.size ∉ [(s.heap.push (setObj0 led)).objs.size, l] := by
            rw [szP]
            simp only [List.mem_cons, List.not_mem_nil, or_false, not_or]
            exact ⟨Nat.ne_of_lt (Nat.lt_succ_self _), Nat.ne_of_gt lts⟩
          refine loopT ((Walks.list c3 _ l ne1 its).toS) s.heap.objs.size ne2 ys hlen (by omega) (fun j u hu => SS.strs_at htx j u (by rw [Array.getElem?_toList]; exact hu)) (its.size - 0) 0 _ (by omega) (Nat.zero_le _) ⟨⟨_, Heap.get?_push_size _ rfl, rfl, rfl⟩, (isL.push _)⟩ ?h0 ?h1
          case h0 =>
            have got2 : ((s.heap.push (setObj0 led)).push { cls := .type "list_iterator", data := .fields #[.ref l, .int 0 0] }).get? s.heap.objs.size = some (setObj0 led) := Heap.get?_push_of_some _ got
            exact PyProof.Rows.SetOf_congr ((PyProof.Rows.setObjOf_fresh (knd := PySem.strKind prog w) led).setOf got2 (by unfold scanBound; omega)) (fun _ => rfl) rfl
          case h1 =>
            intro y mv sy
            rw [← hlen, List.take_length] at sy
            obtain ⟨g, gn, dr, tk, os⟩ := y
            obtain rfl : gn = s.gens := mv.gens
            obtain rfl : dr = s.drawn := mv.drawn
            obtain rfl : os = s.os := mv.os
            show wpAny _ _ _ _ _ _
            refine wpAny_pure ?_
            show wpAny _ _ (ret Value.none) _ _ _
            refine wpAny_pure ⟨rfl, g, tk, rfl, sy, fun b o hb e => mv.heap b o ?_ (Heap.get?_push_of_some _ (Heap.get?_push_of_some _ e))⟩
            rw [szP]
            simp only [List.mem_cons, List.not_mem_nil, or_false, not_or]
            exact ⟨Nat.ne_of_lt hb, Nat.ne_of_lt (Nat.lt_succ_of_lt hb)⟩
        · cases res2 with
          | error e => exact hres2
          | ok fl2 =>
            cases fl2 with
            | ret r =>
              obtain ⟨rfl, g, tk, rfl, sy, keep⟩ := hres2
              repeat (any_goals (first | assumption | wp_step))
              exact fin _ _ sy keep
            | _ => exact hres2.elim
      | _ => exact hres.elim))
end
/-- len(set(xs)) of texts, of ints -/
def tLenSetT (K : PySem.W.Frag) (ta : TE) : TE := fun σ H Q => ta σ H fun x H1 => ∃ (l : Addr) (ys : List Str), x = .ref l ∧ SqL K H1 l (ys.map V.str) ∧ ys.length ≤ 1000 ∧ Q (.int ((onceS ys).length : Nat)) H1
theorem txts_of : ∀ {vs : List Value} {ss : List Str}, Vals (ss.map V.str) vs → StrsAre vs ss
  | _, [], .nil => .nil
  | _, z :: ss, .cons r t => by
    obtain ⟨k, rfl⟩ := r
    exact .cons z k (txts_of t)
theorem pe_lenSetT {X : Cx} {a : Expr} {ta : TE} {p p2 q pos : Pos} (ha : PE X a ta) (hm : X.mg "len" = none) (hm2 : X.mg "set" = none) (hc : X.calm = true := by rfl) (hg : Gl X "len" := by rfl) (hg2 : Gl X "set" := by rfl)
    (na : starEach [a] X.env = (false, eval a X.env) :: starEach [] X.env := by rfl) : PE X (.Call (.Name "len" p) [.Call (.Name "set" p2) [a] [] q] [] pos) (tLenSetT X.K ta) := by
  refine ⟨fun pins s σ H Q I h => Call_ (ld_blt I hg hm PySem.boot_len (PyProof.Rows.callWith_builtin1 (PyProof.Rows.args_cons (Call_ (ld_blt I hg2 hm2 PyProof.Rows.boot_set ?_)) rfl) rfl rfl))⟩
  refine PyProof.Rows.callWith_type1 (PyProof.Rows.args_cons (thn (ha.run pins s σ H _ I h) fun v s1 hh => PyProof.Rows.args_nil ?_) na) na rfl
  obtain ⟨x, H1, I1, r1, l, ys, rfl, hq, hl, k⟩ := hh
  cases r1
  obtain ⟨its, r, pl, hz⟩ := I1.list hq
  have hlen : its.toArray.size = ys.length := by rw [List.size_toArray, ← r.length, List.length_map]
  refine call_set_texts (I1.ok.hd hc) pl.isList (by simpa using txts_of r) (by rw [hlen]; unfold scanBound; omega) fun g tk hS hk => PyProof.Rows.args_nil ?_
  obtain ⟨o, es, ep, t, ho, hex, hd, _, _, _, hf, hn⟩ := hS
  have few := once_le ys
  have I2 : Inv X pins σ H1 { s1 with heap := g, toks := tk } := I1.kept fun b o e => hk b o (Heap.lt_size e) e
  exact call_len_set ho hex hd hf (by rw [hn]; omega) ⟨.int (onceS ys).length, H1, I2.tok _, ⟨_, by rw [hn]⟩, k⟩
def onceI (ns : List Int) : List Int := PyProof.Rows.firstMet (fun i => ns.getD i 0) ns.length
def tLenSetN (K : PySem.W.Frag) (ta : TE) : TE := fun σ H Q => ta σ H fun x H1 => ∃ (l : Addr) (ns : List Int), x = .ref l ∧ SqL K H1 l (ns.map V.int) ∧ ns.length ≤ 1000 ∧ Q (.int ((onceI ns).length : Nat)) H1
theorem pe_lenSetN {X : Cx} {a : Expr} {ta : TE} {p p2 q pos : Pos} (ha : PE X a ta) (hm : X.mg "len" = none) (hm2 : X.mg "set" = none) (hc : X.calm = true := by rfl) (hg : Gl X "len" := by rfl) (hg2 : Gl X "set" := by rfl)
    (na : starEach [a] X.env = (false, eval a X.env) :: starEach [] X.env := by rfl) : PE X (.Call (.Name "len" p) [.Call (.Name "set" p2) [a] [] q] [] pos) (tLenSetN X.K ta) := by
  refine ⟨fun pins s σ H Q I h => Call_ (ld_blt I hg hm PySem.boot_len (PyProof.Rows.callWith_builtin1 (PyProof.Rows.args_cons (Call_ (ld_blt I hg2 hm2 PyProof.Rows.boot_set ?_)) rfl) rfl rfl))⟩
  refine PyProof.Rows.callWith_type1 (PyProof.Rows.args_cons (thn (ha.run pins s σ H _ I h) fun v s1 hh => PyProof.Rows.args_nil ?_) na) na rfl
  obtain ⟨x, H1, I1, r1, l, ns, rfl, hq, hl, k⟩ := hh
  cases r1
  obtain ⟨its, r, pl, hz⟩ := I1.list hq
  have hlen : its.toArray.size = ns.length := by rw [List.size_toArray, ← r.length, List.length_map]
  refine call_set_list (I1.ok.hd hc) pl.isList (by simpa using RZ.intsAre_vals r) (by rw [hlen]; unfold scanBound; omega) fun g tk hS hk => PyProof.Rows.args_nil ?_
  rw [hlen] at hS
  obtain ⟨o, es, ep, t, ho, hex, hd, _, _, _, hf, hn⟩ := hS
  have few := firstMet_length_le (fun i => ns.getD i 0) ns.length
  have I2 : Inv X pins σ H1 { s1 with heap := g, toks := tk } := I1.kept fun b o e => hk b o (Heap.lt_size e) e
  exact call_len_set ho hex hd hf (by rw [hn]; omega) ⟨.int (onceI ns).length, H1, I2.tok _, ⟨_, by rw [hn]; rfl⟩, k⟩
end KD
set_option maxHeartbeats 2000000
/-! the desk asked -/
namespace KD
open PySem PySem.Spec PyProof.Rows L2 Evl
section
variable {X : Cx} {K : PySem.W.Frag} {o e : Expr} {es : List Expr} {to : TE} {t : TA} {name : Str} {apos cpos : Pos} {ty id : String} {r : V → List V → Hp → VK → Prop}
theorem pe_bmK (pa : PlainAttrs ty) (slot : Slot ty name id) (hty : typeOf (.builtin id) = pure (.type "method_descriptor")) (hm : MtR X id r) (ho : PE X o to) (ha : PA X (e :: es) t) (hK : X.K = K := by rfl)
    (hb : attributeBase o name X.env (eval o X.env) = eval o X.env := by rfl)
    (hf : ((backTo cpos (starEach (e :: es) X.env)).all (fun x => !x.1) && (backToKw cpos (keywordEach [] X.env)).all (fun x => x.1.isSome) && decide ((e :: es).length + ([] : List Keyword).length + (if ([] : List Keyword).isEmpty then 0 else 1) < 30)) = true := by rfl)
    (hl : (apos.endLine == cpos.line) = true := by rfl) (hs : starEach (e :: es) X.env = (false, eval e X.env) :: starEach es X.env := by rfl) (hp : (backTo cpos (starEach es X.env)).any (·.1) = false := by rfl) :
    PE X (.Call (.Attribute o name apos) (e :: es) [] cpos) (tBM K ty r to t) := hK ▸ pe_bm pa slot hty hm ho ha hb hf hl hs hp
end
section
variable {K : PySem.W.Frag} {σ : L2.St} {H : Hp} {ta tb te : TE}
theorem ep_mkWebP {n : Nat} {ts : List Tie} (ha : Ev ta σ H (.int (n : Int))) (hb : EvP tb σ H fun v H2 => ∃ (l : Addr) (xs : List V), v = .ref l ∧ H2 l = some (.lst xs) ∧ TieRows H2 xs ts) (hn : n ≤ 24) (hk : TiesOk n ts) : EvP (tMk (He.ga K "Web") (sp_Web_init K) E0 (tCons ta (tCons tb tNil))) σ H fun v H' => ∃ x, v = .ref x ∧ WebAt K H' x n ts := fun H1 e1 Q q =>
  ha H1 e1 _ fun H2 e2 => hb H2 (e1.trans e2) _ fun v H3 e3 ⟨l, xs, ev, hl, hr⟩ => by
    subst ev
    intro x dx hx hdx hne
    have ex : Ex H3 (upd (upd H3 dx (.own x)) x (.ins (He.ga K "Web") dx [])) := (Ex.new hdx).trans (Ex.new (by rw [upd_ne (Ne.symm hne)]; exact hx))
    refine ⟨x, dx, l, n, xs, ts, rfl, hn, upd_same, ex _ _ hl, hr.mono ex, hk, fun H' fr hw => ⟨rfl, q _ H' ((e2.trans e3).trans fun b o hb => fr b o (ex _ _ hb) (ne_of_none hb hx)) ⟨x, rfl, hw⟩⟩⟩
end
section
variable {P : Program} {w : World} {K : PySem.W.Frag} {mg : Str → Option Value} {base : Heap}
inductive AskR (names : List Str) (D : List Tie) : List Str → Str → Prop
  | below {z : Str} : z ∈ names → (∃ t ∈ D, t.2.2 < 0) → AskR names D ["walk", z] "BelowNought"
  | apart {z : Str} : z ∈ names → (¬ ∃ t ∈ D, t.2.2 < 0) → (∃ t ∈ D, ¬ Conn D (idx names z) t.1) → AskR names D ["walk", z] "Apart"
  | odd {zs : List Str} : (∀ z ∈ zs, z ∈ names) → (onceI (zs.map fun z => (idx names z : Int))).length < zs.length → AskR names D ("odd" :: zs) "BadTie"
def sp_Desk_asked (K : PySem.W.Frag) : Sp := fun vs H Q E => ∃ (x nl tl wl y : Addr) (names ws : List Str) (D : List Tie) (e : Str), vs = [.ref x, .ref wl, .ref y] ∧ DeskAt K H x nl tl names D ∧ DeskOk names D ∧ H wl = some (.lst (strsV ws)) ∧ ws.length ≤ 100 ∧ WebAt K H y names.length D ∧ AskR names D ws e ∧ ∀ H', Ex H H' → E (.ref (He.ga K e)) none H'
theorem ok_Desk_asked (T : Txt w K mg) : Ok P w K mg base (L2.CX P w) 7 ("Desk", some "asked") ["self", "words", "web"] (sp_Desk_asked K) := by
  have c_walk_told := ok_walk_told (P := P) (base := base) T
  refine okX T.f_Desk_asked sc_Desk_asked (fun vs H Q E h => by obtain ⟨_, _, _, _, _, _, _, _, _, rfl, _⟩ := h; rfl) (fun _ _ _ _ _ _ us hl => match us, hl with | [_, _, _], _ => rfl) fun f cdv A outer s H vs Q E hr h => ?_
  have nd := sc_Desk_asked.nd
  have hu := hu_of hr
  refine ⟨_, (pss_cons (ps_setLc (i := 3) (own := [("word", 4)]) (g := gName 4) rfl nd rfl rfl (sw_true rfl rfl rfl (by decide +kernel)) (pi_list (pe_slice sl_list (pv 1) (po_some pe_int) po_none)) (blkOk_by (N := ["self", "words", "web", "numbers", "word"]) (own := [("word", 4)]) (sc := defScope s_Desk_asked) (by decide +kernel)) (fun _ _ _ _ _ => (pg_name (i := 4) nd rfl (Or.inl rfl))) (fun _ _ _ _ _ => pts_nil) (fun _ _ _ _ _ => (pe_bmK (K := K) PySem.F.plainAttrs_list PySem.F.slot_list_index PySem.F.type_list_index (mt_indexK (K := K)) (pe_fldK (K := K) (pv 0)) (pa_cons (pv 4) pa_nil))))
 (pss_cons (ps_if (pt_cmpR op_eq (pe_ix ix_list (pv 1) pe_int (fun _ _ => rfl)) pe_str (nomark _)) (pss_one ps_never) pss_nil)
 (pss_cons (ps_if (pt_cmpR op_eq (pe_ix ix_list (pv 1) pe_int (fun _ _ => rfl)) pe_str (nomark _)) (pss_one ps_never) pss_nil)
 (pss_cons (ps_if (pt_cmpR op_eq (pe_ix ix_list (pv 1) pe_int (fun _ _ => rfl)) pe_str (nomark _)) (pss_one ps_never) pss_nil)
 (pss_cons (ps_if (pt_cmpR op_eq (pe_ix ix_list (pv 1) pe_int (fun _ _ => rfl)) pe_str (nomark _)) (pss_one ps_never) pss_nil)
 (pss_cons (ps_if (pt_cmpR op_eq (pe_ix ix_list (pv 1) pe_int (fun _ _ => rfl)) pe_str (nomark _)) (pss_one (ps_ret (pxc c_walk_told hr (by decide) T.g_walk_told (takes_of rfl rfl rfl rfl) (pa_cons (pe_fld (pv 0) rfl) (pa_cons (pv 2) (pa_cons (pe_ix ix_list (pv 3) pe_int (fun _ _ => rfl)) pa_nil)))))) pss_nil)
 (pss_cons (ps_if (pt_cmpR op_lt (pe_lenSetN (pv 3) T.n_len T.n_set) (pe_callB call_len_seq (by rfl) T.n_len (by decide +kernel) (pa_cons (pv 3) pa_nil)) (nomark _)) (pss_one (ps_raise rfl (takes_of rfl rfl rfl rfl) (pmk_own PySem.F.excBase_ValueError T.x_BadTie T.g_BadTie T.p_BadTie (raises_own T.b_BadTie T.t_BadTie) rfl))) pss_nil)
 (pss_one ps_never)))))))), ?_⟩
  try dsimp only [cxOf, L2.Cx.nox, L2.Cx.blk]
  obtain ⟨x, nl, tl, wl, y, names, ws, D, er, rfl, ⟨dx, hx, hn, ht⟩, hok, hwl, hfew, hw, hA, hE⟩ := h
  have hin : ∀ z ∈ ws.tail, z ∈ names := by
    cases hA with
    | below h1 _ => exact fun z hz => by rw [List.mem_singleton.mp hz]; exact h1
    | apart h1 _ _ => exact fun z hz => by rw [List.mem_singleton.mp hz]; exact h1
    | odd h1 _ => exact h1
  have wat : ∀ {σ : L2.St} {H1 : Hp} {z : Str}, Ex H H1 → σ[1]? = some (some (.ref wl)) → ws[0]? = some z → Ev (tOp (rIxL K) (tVar 1) (L2.tC (.int 0))) σ H1 (.str z) := fun e hs hz => ev_op (ev_var hs) ev_c (rv_ixLn (j := 0) (sq_of (e _ _ hwl)) (strs_at' hz))
  have tst : ∀ {σ : L2.St} {H1 : Hp} {z c : Str} {b : Bool}, Ex H H1 → σ[1]? = some (some (.ref wl)) → ws[0]? = some z → decide (z = c) = b → EvT (tTest (tOp rEq (tOp (rIxL K) (tVar 1) (L2.tC (.int 0))) (L2.tC (.str c)))) σ H1 b := fun e hs hz hb => et_is (et_test (ev_op (wat e hs hz) ev_c rv_eqS)) hb
  have hnum : EvL (tLc (iList K (tSl (rSlL K) (tVar 1) (tPart (L2.tC (V.int 1))) tNoPart)) (gName 4) tYes (tBM K "list" (rIndex K) (tFld K (tVar 0) "named") (tCons (tVar 4) tNil)) [4]) (L2.start ["self", "words", "web", "numbers", "word"] [V.ref x, V.ref wl, V.ref y]) H (natsV (ws.tail.map (idx names))) := by
    have hsl : EvL (tSl (rSlL K) (tVar 1) (tPart (L2.tC (V.int 1))) tNoPart) (L2.start ["self", "words", "web", "numbers", "word"] [V.ref x, V.ref wl, V.ref y]) H (ws.tail.map V.str) := by
      have g := el_sl (K := K) (te := tVar 1) (tl := tPart (L2.tC (V.int 1))) (th := tNoPart) (σ := L2.start ["self", "words", "web", "numbers", "word"] [V.ref x, V.ref wl, V.ref y]) (lo := some 1) (hi := none) (ev_var rfl) (eo_some ev_c) eo_none (sq_of hwl)
      rw [show (1 : Int) = ((1 : Nat) : Int) from rfl, cutV_from] at g
      unfold strsV at g
      rw [← List.map_drop, List.drop_one] at g
      exact g
    have g := el_lcAL (K := K) (σ := L2.start ["self", "words", "web", "numbers", "word"] [V.ref x, V.ref wl, V.ref y]) (H := H) (j := 4) (vs := [4]) (t := tYes) (te := tBM K "list" (rIndex K) (tFld K (tVar 0) "named") (tCons (tVar 4) tNil)) ws.tail V.str (fun _ => true) (fun z => .int ((idx names z : Nat) : Int)) hsl (by rw [List.length_tail]; omega) (fun _ => rfl) (fun i z H1 e1 hz => fun H2 e2 Q q => q H2 (Ex.refl _)) (fun i z H1 e1 hz _ => ev_index (ev_fld (ev_var rfl) (e1 _ _ hx) T.k_Desk T.na_Desk_named rfl) (e1 _ _ hn) (ev_var rfl) (hin z (List.mem_of_getElem? hz)))
    rw [filter_yes] at g
    unfold natsV
    rw [List.map_map]
    exact g
  refine q_asgL hnum fun np H1 np0 e1 hnp => ?_
  have hw1 := hw.mono e1
  cases hA with
  | @below z hz hneg =>
    refine q_when (b := false) (tst e1 rfl rfl (by decide +kernel)) (fun hb => by cases hb) fun _ H2 e2 => ?_
    have e02 := e1.trans e2
    refine q_when (b := false) (tst e02 rfl rfl (by decide +kernel)) (fun hb => by cases hb) fun _ H3 e3 => ?_
    have e03 := e02.trans e3
    refine q_when (b := false) (tst e03 rfl rfl (by decide +kernel)) (fun hb => by cases hb) fun _ H4 e4 => ?_
    have e04 := e03.trans e4
    refine q_when (b := false) (tst e04 rfl rfl (by decide +kernel)) (fun hb => by cases hb) fun _ H5 e5 => ?_
    have e05 := e04.trans e5
    refine q_when (b := true) (tst e05 rfl rfl (by decide +kernel)) (fun _ H6 e6 => ?_) fun hb => by cases hb
    have e06 := e05.trans e6
    refine ⟨.ref x, rfl, x, _, dx, _, .ref nl, rfl, e06 _ _ hx, T.k_Desk, T.na_Desk_named, rfl, .ref y, rfl, .ref np, rfl, np, _, 0, .int ((idx names z : Nat) : Int), rfl, rfl, sq_of ((((e2.trans e3).trans e4).trans (e5.trans e6)) _ _ hnp), atI_nat (j := 0) rfl, ?_⟩
    exact ⟨nl, y, names.length, idx names z, D, rfl, by have := hok.few; omega, hw.mono e06, hok.ties, fun _ H' e' => hE _ (e06.trans e'), fun h => absurd hneg h⟩
  | @apart z hz hnn hap =>
    refine q_when (b := false) (tst e1 rfl rfl (by decide +kernel)) (fun hb => by cases hb) fun _ H2 e2 => ?_
    have e02 := e1.trans e2
    refine q_when (b := false) (tst e02 rfl rfl (by decide +kernel)) (fun hb => by cases hb) fun _ H3 e3 => ?_
    have e03 := e02.trans e3
    refine q_when (b := false) (tst e03 rfl rfl (by decide +kernel)) (fun hb => by cases hb) fun _ H4 e4 => ?_
    have e04 := e03.trans e4
    refine q_when (b := false) (tst e04 rfl rfl (by decide +kernel)) (fun hb => by cases hb) fun _ H5 e5 => ?_
    have e05 := e04.trans e5
    refine q_when (b := true) (tst e05 rfl rfl (by decide +kernel)) (fun _ H6 e6 => ?_) fun hb => by cases hb
    have e06 := e05.trans e6
    refine ⟨.ref x, rfl, x, _, dx, _, .ref nl, rfl, e06 _ _ hx, T.k_Desk, T.na_Desk_named, rfl, .ref y, rfl, .ref np, rfl, np, _, 0, .int ((idx names z : Nat) : Int), rfl, rfl, sq_of ((((e2.trans e3).trans e4).trans (e5.trans e6)) _ _ hnp), atI_nat (j := 0) rfl, ?_⟩
    exact ⟨nl, y, names.length, idx names z, D, rfl, by have := hok.few; omega, hw.mono e06, hok.ties, fun h => absurd h hnn, fun _ => ⟨hap, fun H' e' => hE _ (e06.trans e')⟩⟩
  | @odd zs hz hdup =>
    refine q_when (b := false) (tst e1 rfl rfl (by decide +kernel)) (fun hb => by cases hb) fun _ H2 e2 => ?_
    have e02 := e1.trans e2
    refine q_when (b := false) (tst e02 rfl rfl (by decide +kernel)) (fun hb => by cases hb) fun _ H3 e3 => ?_
    have e03 := e02.trans e3
    refine q_when (b := false) (tst e03 rfl rfl (by decide +kernel)) (fun hb => by cases hb) fun _ H4 e4 => ?_
    have e04 := e03.trans e4
    refine q_when (b := false) (tst e04 rfl rfl (by decide +kernel)) (fun hb => by cases hb) fun _ H5 e5 => ?_
    have e05 := e04.trans e5
    refine q_when (b := false) (tst e05 rfl rfl (by decide +kernel)) (fun hb => by cases hb) fun _ H6 e6 => ?_
    have e06 := e05.trans e6
    have hnp6 := (((e2.trans e3).trans e4).trans (e5.trans e6)) _ _ hnp
    have hnz : natsV ((("odd" : Str) :: zs).tail.map (idx names)) = (zs.map fun z => (idx names z : Int)).map V.int := by
      unfold natsV
      rw [List.map_map, List.map_map]
      rfl
    rw [hnz] at hnp6
    refine q_when (b := true) (et_is (et_test (ev_op (z := .bl (decide (((onceI (zs.map fun z => (idx names z : Int))).length : Int) < (((zs.map fun z => (idx names z : Int)).map V.int).length : Int)))) (x := .int ((onceI (zs.map fun z => (idx names z : Int))).length : Nat)) ?_ (ev_cb (ea_cons (ev_var rfl) ea_nil) (rc_len (sq_of hnp6))) rv_I0)) ?_) (fun _ H7 e7 => ?_) fun hb => by cases hb
    · exact fun H7 e7 Q7 k7 => ⟨.ref np, rfl, np, _, rfl, sq_of (e7 _ _ hnp6), by rw [List.length_map]; exact Nat.le_trans (Nat.le_of_succ_le hfew) (by decide), k7 _ (Ex.refl _)⟩
    · rw [List.length_map, List.length_map]
      exact decide_eq_true (by omega)
    · exact hE _ (e06.trans e7)
end
end KD
set_option maxHeartbeats 2000000
/-! the desk told a row -/
namespace KD
open PySem PySem.Spec PyProof.Rows L2 Evl
section
variable {P : Program} {w : World} {K : PySem.W.Frag} {mg : Str → Option Value} {base : Heap}
inductive SOut
  | no (e : Str)
  | did (names : List Str) (D : List Tie)
  | shown
  | txt (t : Str)
def Pass (names ws : List Str) : Prop := okWords ws names.length = true ∧ lookRes names (ws.headD "") 1 ws.tail = none
def chgOut : Sum Str (List Str × List Tie) → SOut
  | .inl e => .no e
  | .inr p => .did p.1 p.2
inductive SayR (names : List Str) (D : List Tie) : List Str → SOut → Prop
  | bad {ws : List Str} : okWords ws names.length = false → SayR names D ws (.no "BadRow")
  | look {ws : List Str} {e : Str} : okWords ws names.length = true → lookRes names (ws.headD "") 1 ws.tail = some e → SayR names D ws (.no e)
  | chg {ws : List Str} {r : Sum Str (List Str × List Tie)} : Pass names ws → ChgR names D ws r → SayR names D ws (chgOut r)
  | web : SayR names D ["web"] .shown
  | many {zs : List Str} {ns : List Int} : Pass names ("wanted" :: zs) → zs.map PySem.intText? = ns.map some → 24 < ns.sum → SayR names D ("wanted" :: zs) (.no "TooMany")
  | w24 : names ≠ [] → Pass names ("wanted" :: "24" :: List.replicate (names.length - 1) "0") → SayR names D ("wanted" :: "24" :: List.replicate (names.length - 1) "0") (.txt "none; -")
  | ask {ws : List Str} {e : Str} : Pass names ws → AskR names D ws e → SayR names D ws (.no e)
def orDash (t : Str) : Str := if (((t.length : Nat) : Int) != 0) = true then t else "-"
def SayEnd (K : PySem.W.Frag) (H : Hp) (x nl tl : Addr) (names : List Str) (D : List Tie) (Q : VK) (E : XK) : SOut → Prop
  | .no e => ∀ H', Ex H H' → E (.ref (He.ga K e)) none H'
  | .did n D' => ∀ (tl' : Addr) H', (∀ b o, H b = some o → b ≠ x → b ≠ nl → b ≠ tl → H' b = some o) → (tl' = tl ∨ H tl' = none) → DeskAt K H' x nl tl' n D' → Q (.str "ok") H'
  | .shown => ∀ us, us.Perm D → Srt3 us → RV1 (.str (orDash (showT names us))) H Q
  | .txt t => RV1 (.str t) H Q
def sp_Desk_say (K : PySem.W.Frag) : Sp := fun vs H Q E => ∃ (x nl tl : Addr) (names ws : List Str) (D : List Tie) (row : Str) (o : SOut), vs = [.ref x, .str row] ∧ DeskAt K H x nl tl names D ∧ DeskOk names D ∧ RowOk row ws ∧ SayR names D ws o ∧ SayEnd K H x nl tl names D Q E o
theorem chg_head {names : List Str} {D : List Tie} {ws : List Str} {r : Sum Str (List Str × List Tie)} (h : ChgR names D ws r) : ws.headD "" ∈ (["point", "tie", "untie", "gone", "rename"] : List Str) := by
  cases h with
  | bad hv =>
    rcases hv with rfl | rfl
    · simp
    · simp
  | _ => simp
theorem pass_web (names : List Str) : Pass names ["web"] := ⟨by
  have h1 : shapeOf (["web"] : List Str) names.length = some "" := by
    unfold shapeOf
    rw [if_neg (by decide +kernel), if_neg (by decide +kernel)]
    decide +kernel
  unfold okWords
  rw [h1]
  rfl, rfl⟩
theorem say_cases {names : List Str} {D : List Tie} {ws : List Str} {o : SOut} (h : SayR names D ws o) : (okWords ws names.length = false ∧ o = .no "BadRow") ∨ (okWords ws names.length = true ∧ ((∃ e, lookRes names (ws.headD "") 1 ws.tail = some e ∧ o = .no e) ∨ lookRes names (ws.headD "") 1 ws.tail = none)) := by
  cases h with
  | bad h => exact .inl ⟨h, rfl⟩
  | look h k => exact .inr ⟨h, .inl ⟨_, k, rfl⟩⟩
  | chg h _ => exact .inr ⟨h.1, .inr h.2⟩
  | web => exact .inr ⟨(pass_web names).1, .inr (pass_web names).2⟩
  | many h _ _ => exact .inr ⟨h.1, .inr h.2⟩
  | w24 _ h => exact .inr ⟨h.1, .inr h.2⟩
  | ask h _ => exact .inr ⟨h.1, .inr h.2⟩
theorem join_le (s : Str) (ps : List Str) : (Txt.join s ps).length ≤ (ps.map (·.length)).sum + ps.length * s.length := by
  rw [TL.len_tl, TL.join_eq, TL.tl_join]
  have : ∀ qs : List Str, (TL.joinL (TL.tl s) (qs.map TL.tl)).length ≤ (qs.map (·.length)).sum + qs.length * s.length := by
    intro qs
    induction qs with
    | nil => exact Nat.zero_le _
    | cons a r ih =>
      cases r with
      | nil =>
        show (TL.tl a).length ≤ ([a.length] : List Nat).sum + 1 * s.length
        have : ([a.length] : List Nat).sum = a.length := by simp
        have h1 := TL.len_tl a
        omega
      | cons b t =>
        show (TL.tl a ++ (TL.tl s ++ TL.joinL (TL.tl s) ((b :: t).map TL.tl))).length ≤ (a.length + ((b :: t).map (·.length)).sum) + ((b :: t).length + 1) * s.length
        rw [List.length_append, List.length_append, Nat.add_mul, Nat.one_mul]
        have h1 := TL.len_tl a
        have h2 := TL.len_tl s
        omega
  exact this ps
theorem showT_len {names : List Str} {D : List Tie} (h : DeskOk names D) {us : List Tie} (hp : us.Perm D) : (showT names us).length ≤ sizeLine := by
  have h1 := sum_le (names ++ us.map (tieT names)) 79 fun z hz => by
    rcases List.mem_append.mp hz with hz | hz
    · exact Nat.le_trans (h.short z hz) (by decide)
    · obtain ⟨t, ht, rfl⟩ := List.mem_map.mp hz
      exact tieT_len h (hp.mem_iff.mp ht)
  have h2 := join_le ", " (names ++ us.map (tieT names))
  rw [List.length_append, List.length_map] at h1 h2
  have h3 : (", " : Str).length = 2 := by decide
  rw [h3] at h2
  have := h.few
  have := h.ties.few
  have := hp.length_eq
  have : (200000 : Nat) ≤ sizeLine := by decide
  show (Txt.join ", " (names ++ us.map (tieT names))).length ≤ _
  omega
theorem s_retShown {σ : L2.St} {H : Hp} {ta tb : TE} {Dd : Ends} {nl y : Addr} {names : List Str} {D0 : List Tie} (ha : Ev ta σ H (.ref nl)) (hb : Ev tb σ H (.ref y)) (hn : H nl = some (.lst (strsV names))) (hy : WebAt K H y names.length D0) (hok : DeskOk names D0)
    (k : ∀ us, us.Perm D0 → Srt3 us → ∀ H1, Ex H H1 → Dd.rt (.str (orDash (showT names us))) H1) : tRet (tOrT K (tC (sp_shown K) E0 (tCons ta (tCons tb tNil))) (L2.tC (.str "-"))) Dd σ H :=
  ha H (Ex.refl _) _ fun H1 e1 => hb H1 e1 _ fun H2 e2 => ⟨nl, y, names, D0, rfl, (e1.trans e2) _ _ hn, hy.mono (e1.trans e2), hok, fun us hp hs H3 e3 => by
    have k := k us hp hs H3 ((e1.trans e2).trans e3)
    refine ⟨((showT names us).length : Int) != 0, ⟨showT_len hok hp, rfl⟩, ?_⟩
    unfold orDash at k
    split
    · rename_i h
      rw [if_pos h] at k
      exact k
    · rename_i h
      rw [if_neg h] at k
      exact k⟩
/-- the ints that the words tell -/
theorem el_ints {σ : L2.St} {H : Hp} {tl : TE} {j : Nat} {vs : List Nat} {zs : List Str} {ns : List Int} (h : EvL tl σ H (zs.map V.str)) (hz : zs.length ≤ 1000) (hl : ∀ z ∈ zs, z.length ≤ 640) (hn : zs.map PySem.intText? = ns.map some) (hw : ∀ x, wipe ((wipe σ vs).set j (some x)) vs = wipe σ vs) (hj : ∀ x : V, ((wipe σ vs).set j (some x))[j]? = some (some x)) :
    EvL (tLc (iList K tl) (gName j) tYes (tCB (fun xs H Q => ∃ a n, xs = [V.str a] ∧ PySem.intText? a = some n ∧ a.length ≤ 640 ∧ Q (V.int n) H) (tCons (tVar j) tNil)) vs) σ H (ns.map V.int) := by
  have ev : ∀ z ∈ zs, PySem.intText? z = some ((PySem.intText? z).getD 0) := fun z hz => by
    obtain ⟨i, hi, e⟩ := List.getElem_of_mem hz
    have h1 : (zs.map PySem.intText?)[i]? = some (PySem.intText? z) := by rw [List.getElem?_map, List.getElem?_eq_getElem hi, e]; rfl
    rw [hn, List.getElem?_map] at h1
    obtain ⟨n, _, e2⟩ := Option.map_eq_some_iff.mp h1
    rw [← e2]
    rfl
  have g := el_lcAL (K := K) (σ := σ) (H := H) (j := j) (vs := vs) (t := tYes) (te := tCB (fun xs H Q => ∃ a n, xs = [V.str a] ∧ PySem.intText? a = some n ∧ a.length ≤ 640 ∧ Q (V.int n) H) (tCons (tVar j) tNil)) zs V.str (fun _ => true) (fun z => .int ((PySem.intText? z).getD 0)) h (by omega) hw (fun i z H1 e1 hz => fun H2 e2 Q q => q H2 (Ex.refl _)) (fun i z H1 e1 hz _ => ev_cb (ea_cons (ev_var (hj _)) ea_nil) (rc_intS (ev z (List.mem_of_getElem? hz)) (hl z (List.mem_of_getElem? hz))))
  rw [filter_yes] at g
  have e : zs.map (fun z => V.int ((PySem.intText? z).getD 0)) = ns.map V.int := by
    have h1 : (zs.map PySem.intText?).map (fun o => V.int (o.getD 0)) = (ns.map some).map (fun o => V.int (o.getD 0)) := by rw [hn]
    rw [List.map_map, List.map_map] at h1
    exact h1
  rw [e] at g
  exact g
theorem filter_yesB {α : Type} (xs : List α) : xs.filter (fun _ => true) = xs := filter_yes xs
theorem ok_Desk_say (T : Txt w K mg) : Ok P w K mg base (L2.CX P w) 10 ("Desk", some "say") ["self", "row"] (sp_Desk_say K) := by
  have c_words_of := ok_words_of (P := P) (base := base) T
  have c_Desk_look_at_names := ok_Desk_look_at_names (P := P) (base := base) T
  have c_Desk_change := ok_Desk_change (P := P) (base := base) T
  have c_Web_init := ok_Web_init (P := P) (base := base) T
  have c_shown := ok_shown (P := P) (base := base) T
  have c_wanted_told := ok_wanted_told (P := P) (base := base) T
  have c_Desk_asked := ok_Desk_asked (P := P) (base := base) T
  obtain ⟨tL, m_MOST_WANTED_desk⟩ := T.c_MOST_WANTED_desk
  refine okX T.f_Desk_say sc_Desk_say (fun vs H Q E h => by obtain ⟨_, _, _, _, _, _, _, _, rfl, _⟩ := h; rfl) (fun _ _ _ _ _ _ us hl => match us, hl with | [_, _], _ => rfl) fun f cdv A outer s H vs Q E hr h => ?_
  have nd := sc_Desk_say.nd
  have hu := hu_of hr
  refine ⟨_, (pss_cons (ps_set (i := 2) nd rfl (Or.inl rfl) (pxc c_words_of hr (by decide) T.g_words_of (takes_of rfl rfl rfl rfl) (pa_cons (pv 1) (pa_cons (pe_callB call_len_seq (by rfl) T.n_len (by decide +kernel) (pa_cons (pe_fld (pv 0) rfl) pa_nil)) pa_nil))))
 (pss_cons (ps_expr (pxm T.k_Desk T.m_Desk_look_at_names c_Desk_look_at_names hr (by decide) (takes_of rfl rfl rfl rfl) (pv 0) (pa_cons (pv 2) pa_nil)))
 (pss_cons (ps_if (pt_cmpR op_in_seq (pe_ix ix_list (pv 2) pe_int (fun _ _ => rfl)) (pe_lst (pa_cons pe_str (pa_cons pe_str (pa_cons pe_str (pa_cons pe_str (pa_cons pe_str pa_nil)))))) rfl) (pss_cons (ps_expr (pxm T.k_Desk T.m_Desk_change c_Desk_change hr (by decide) (takes_of rfl rfl rfl rfl) (pv 0) (pa_cons (pv 2) pa_nil)))
 (pss_one (ps_ret pe_str))) pss_nil)
 (pss_cons (ps_set (i := 3) nd rfl (Or.inl rfl) (pcMk T.mk_Web T.g_Web c_Web_init hr (by decide) (pa_cons (pe_callB call_len_seq (by rfl) T.n_len (by decide +kernel) (pa_cons (pe_fld (pv 0) rfl) pa_nil)) (pa_cons (pe_lock (pe_lc (own := [("a", 5), ("b", 6), ("heavy", 7)]) (g := gTup K 2 (gCons (gTup K 2 (gCons (gName 5) (gCons (gName 6) gNil))) (gCons (gName 7) gNil))) rfl nd (pi_itemsT (pe_fld (pv 0) rfl)) (blkOk_by (N := ["self", "row", "words", "web", "numbers", "a", "b", "heavy", "word"]) (own := [("a", 5), ("b", 6), ("heavy", 7)]) (sc := defScope s_Desk_say) (by decide +kernel)) (fun _ _ _ _ _ => (pg_tup rfl (pgs_cons (pg_tup rfl (pgs_cons (pg_name (i := 5) nd rfl (Or.inl rfl)) (pgs_cons (pg_name (i := 6) nd rfl (Or.inl rfl)) pgs_nil))) (pgs_cons (pg_name (i := 7) nd rfl (Or.inl rfl)) pgs_nil)))) (fun _ _ _ _ _ => pts_nil) (fun _ _ _ _ _ => (pe_tup (pa_cons (pv 5) (pa_cons (pv 6) (pa_cons (pv 7) pa_nil))))))) pa_nil))))
 (pss_cons (ps_if (pt_cmpR op_eq (pe_ix ix_list (pv 2) pe_int (fun _ _ => rfl)) pe_str (nomark _)) (pss_one (ps_ret (pe_orT (pc c_shown hr (by decide) T.g_shown (pa_cons (pe_fld (pv 0) rfl) (pa_cons (pv 3) pa_nil))) (pe_one pe_str)))) pss_nil)
 (pss_cons (ps_if (pt_cmpR op_eq (pe_ix ix_list (pv 2) pe_int (fun _ _ => rfl)) pe_str (nomark _)) (pss_cons (ps_setLc (i := 4) (own := [("word", 8)]) (g := gName 8) rfl nd rfl rfl (sw_true rfl rfl rfl (by decide +kernel)) (pi_list (pe_slice sl_list (pv 2) (po_some pe_int) po_none)) (blkOk_by (N := ["self", "row", "words", "web", "numbers", "a", "b", "heavy", "word"]) (own := [("word", 8)]) (sc := defScope s_Desk_say) (by decide +kernel)) (fun _ _ _ _ _ => (pg_name (i := 8) nd rfl (Or.inl rfl))) (fun _ _ _ _ _ => pts_nil) (fun _ _ _ _ _ => (pe_callTy call_int_str (by rfl) T.n_int (by decide +kernel) (pa_cons (pv 8) pa_nil))))
 (pss_cons (ps_if (pt_cmpR op_gt (pe_callB (cr_sum rfl) (by rfl) T.n_sum (by decide +kernel) (pa_cons (pv 4) pa_nil)) (pe_glob (v := .int 24) rfl m_MOST_WANTED_desk ⟨_, rfl⟩) (nomark _)) (pss_one (ps_raise rfl (takes_of rfl rfl rfl rfl) (pmk_own PySem.F.excBase_ValueError T.x_TooMany T.g_TooMany T.p_TooMany (raises_own T.b_TooMany T.t_TooMany) rfl))) pss_nil)
 (pss_one (ps_ret (pc c_wanted_told hr (by decide) T.g_wanted_told (pa_cons (pe_fld (pv 0) rfl) (pa_cons (pv 3) (pa_cons (pv 4) pa_nil)))))))) pss_nil)
 (pss_one (ps_ret (pxm T.k_Desk T.m_Desk_asked c_Desk_asked hr (by decide) (takes_of rfl rfl rfl rfl) (pv 0) (pa_cons (pv 2) (pa_cons (pv 3) pa_nil))))))))))), ?_⟩
  try dsimp only [cxOf, L2.Cx.nox, L2.Cx.blk]
  obtain ⟨x, nl, tl, names, ws, D, row, o, rfl, ⟨dx, hx, hn, ht⟩, hok, hrow, hR, hend⟩ := h
  have fldn : ∀ {σ : L2.St} {H1 : Hp}, Ex H H1 → σ[0]? = some (some (.ref x)) → Ev (tFld K (tVar 0) "named") σ H1 (.ref nl) := fun e hs => ev_fld (ev_var hs) (e _ _ hx) T.k_Desk T.na_Desk_named rfl
  refine ⟨.str row, rfl, .ref x, rfl, x, _, dx, _, .ref nl, rfl, hx, T.k_Desk, T.na_Desk_named, rfl, nl, strsV names, rfl, .inl (sq_of hn), ?_⟩
  refine ⟨row, ws, names.length, by rw [strs_len], hrow, by have := hok.few; omega, fun hyes => ?_, fun hno => ?_⟩
  rotate_left
  · intro H' e'
    rcases say_cases hR with ⟨_, rfl⟩ | ⟨h, _⟩
    · exact hend H' e'
    · rw [hno] at h
      cases h
  intro wl H1 wl0 e1 hwl
  have wn : wl ≠ nl := fun q => by
    rw [q, hn] at wl0
    cases wl0
  have hne := hrow.ne
  show tSeq _ _ _ ((L2.start ["self", "row", "words", "web", "numbers", "a", "b", "heavy", "word"] [V.ref x, V.str row]).set 2 (some (.ref wl))) H1
  refine ⟨.ref x, rfl, x, dx, _, rfl, e1 _ _ hx, rfl, .ref wl, rfl, x, nl, tl, wl, names, ws, D, rfl, ⟨dx, e1 _ _ hx, e1 _ _ hn, e1 _ _ ht⟩, sq_of hwl, hne, hrow.few, hrow.short, fun hlook => ?_, fun e he H' e' => ?_⟩
  rotate_left
  · rcases say_cases hR with ⟨h, _⟩ | ⟨_, ⟨e2, h, rfl⟩ | h⟩
    · rw [hyes] at h
      cases h
    · rw [he] at h
      cases h
      exact hend H' (e1.trans e')
    · rw [he] at h
      cases h
  intro H2 e2
  have e02 := e1.trans e2
  have hwl2 := e2 _ _ hwl
  have whd : ∀ {σ : L2.St} {H3 : Hp}, Ex H2 H3 → σ[2]? = some (some (.ref wl)) → Ev (tOp (rIxL K) (tVar 2) (L2.tC (.int 0))) σ H3 (.str (ws.headD "")) := fun e hs => ev_head (ev_var hs) (sq_of (e _ _ hwl2)) hne
  have tst : ∀ {σ : L2.St} {H3 : Hp} {c : Str} {b : Bool}, Ex H2 H3 → σ[2]? = some (some (.ref wl)) → decide (ws.headD "" = c) = b → EvT (tTest (tOp rEq (tOp (rIxL K) (tVar 2) (L2.tC (.int 0))) (L2.tC (.str c)))) σ H3 b := fun e hs hb => et_is (et_test (ev_op (whd e hs) ev_c rv_eqS)) hb
  refine q_when (b := decide (ws.headD "" ∈ (["point", "tie", "untie", "gone", "rename"] : List Str))) (et_is (et_test (ev_opL (xs := strsV ["point", "tie", "untie", "gone", "rename"]) (whd (Ex.refl _) rfl) (el_lst (ea_cons ev_c (ea_cons ev_c (ea_cons ev_c (ea_cons ev_c (ea_cons ev_c ea_nil))))) (by show 5 ≤ 100000; decide)) fun p H3 hp e3 => rv_isL (sq_of hp) rfl (flat_strs _))) (inV_strs _ _)) (fun hb H3 e3 => ?hchg) fun hb H3 e3 => ?hoth
  case hchg =>
    have e03 := e02.trans e3
    have hchg : ∃ r, ChgR names D ws r ∧ o = chgOut r := by
      have hb := of_decide_eq_true hb
      cases hR with
      | bad h => rw [hyes] at h; cases h
      | look _ h => rw [hlook] at h; cases h
      | chg _ h => exact ⟨_, h, rfl⟩
      | web => exact absurd hb (by decide +kernel)
      | many _ _ _ => exact absurd hb (by show ("wanted" : Str) ∉ _; decide +kernel)
      | w24 _ _ => exact absurd hb (by show ("wanted" : Str) ∉ _; decide +kernel)
      | ask _ h =>
        cases h with
        | below _ _ => exact absurd hb (by show ("walk" : Str) ∉ _; decide +kernel)
        | apart _ _ _ => exact absurd hb (by show ("walk" : Str) ∉ _; decide +kernel)
        | odd _ _ => exact absurd hb (by show ("odd" : Str) ∉ _; decide +kernel)
    obtain ⟨r, hcr, rfl⟩ := hchg
    refine ⟨.ref x, rfl, x, dx, _, rfl, e03 _ _ hx, rfl, .ref wl, rfl, x, nl, tl, wl, names, ws, D, r, rfl, ⟨dx, e03 _ _ hx, e03 _ _ hn, e03 _ _ ht⟩, hok.few, hok.ties, e3 _ _ hwl2, wn, hrow.short, hcr, ?_⟩
    cases r with
    | inl e => exact fun H' e' => hend H' (e03.trans e')
    | inr p =>
      intro tl' H' fr htl hd
      refine hend tl' H' (fun b o hb h1 h2 h3 => fr b o (e03 _ _ hb) h1 h2 h3) ?_ hd
      rcases htl with h | h
      · exact .inl h
      · exact .inr (fresh_back e03 h)
  case hoth =>
    have hb := of_decide_eq_false hb
    have e03 := e02.trans e3
    have hnd : names.length ≤ 24 := by have := hok.few; omega
    have ht3 := e03 _ _ ht
    have xt : ∀ {G : Hp} {od : Obj} {u : HO}, Ex H3 G → (upd G tl (.frz od u)) x = some (.ins (He.ga K "Desk") dx [("named", .ref nl), ("table", .ref tl)]) := fun e => by
      rw [upd_ne (ne_of hx ht (by intro z; cases z))]
      exact e _ _ (e03 _ _ hx)
    have hDl : D.length ≤ 4000 := by have := hok.ties.few; omega
    have hrows : EvP (tLockE (tLc (iItemsT (tFld K (tVar 0) "table")) (gTup K 2 (gCons (gTup K 2 (gCons (gName 5) (gCons (gName 6) gNil))) (gCons (gName 7) gNil))) tYes (tTup (tCons (tVar 5) (tCons (tVar 6) (tCons (tVar 7) tNil)))) [5, 6, 7])) ((L2.start ["self", "row", "words", "web", "numbers", "a", "b", "heavy", "word"] [V.ref x, V.str row]).set 2 (some (.ref wl))) H3 (fun v H2 => ∃ (l : Addr) (xs : List V), v = .ref l ∧ H2 l = some (.lst xs) ∧ TieRows H2 xs D) := by
      refine EvP.imp (ep_lcItems D (fun _ => true) ht3 hDl (fun G od e => ev_fld (ev_var rfl) (xt e) T.k_Desk T.na_Desk_table rfl) fun p q T1 G hq2 hT R k => ?_) fun v G e hv => ?_
      · refine ⟨T1, _, rfl, st_of hT, rfl, .ref q, _, rfl, q, _, rfl, st_of hq2, rfl, .int (p.1 : Int), _, rfl, .int (p.2.1 : Int), _, rfl, rfl, .int p.2.2, _, rfl, rfl, ?_⟩
        exact k _ rfl (fun G2 e2 Q q => q G2 (Ex.refl _)) (eu_tup (ea_cons (ev_var rfl) (ea_cons (ev_var rfl) (ea_cons (ev_var rfl) ea_nil))) (Nat.le_of_lt_succ (by show 3 < 100001; decide)))
      · obtain ⟨l, xs, rfl, _, h1, h2⟩ := hv
        rw [filter_yes] at h2
        exact ⟨l, xs, rfl, h1, h2⟩
    refine q_asgP (ep_mkWebP (n := names.length) (ts := D) (ev_is (ev_cb (ea_cons (fldn e03 rfl) ea_nil) (rc_len (sq_of (e03 _ _ hn)))) (by rw [strs_len])) hrows hnd hok.ties) fun v H4 e4 hv => ?_
    obtain ⟨y, rfl, hy⟩ := hv
    have e04 := e03.trans e4
    have e24 := e3.trans e4
    have hslice : ∀ {H5 : Hp} {σ : L2.St}, Ex H4 H5 → σ[2]? = some (some (.ref wl)) → EvL (tSl (rSlL K) (tVar 2) (tPart (L2.tC (V.int 1))) tNoPart) σ H5 (ws.tail.map V.str) := fun e hs => by
      have g := el_sl (K := K) (te := tVar 2) (tl := tPart (L2.tC (V.int 1))) (th := tNoPart) (lo := some 1) (hi := none) (ev_var hs) (eo_some ev_c) eo_none (sq_of ((e24.trans e) _ _ hwl2))
      rw [show (1 : Int) = ((1 : Nat) : Int) from rfl, cutV_from] at g
      rw [← List.map_drop, List.drop_one] at g
      exact g
    have short640 : ∀ z ∈ ws.tail, z.length ≤ 640 := fun z hz => Nat.le_trans (hrow.short z (List.mem_of_mem_tail hz)) (by decide)
    cases hR with
    | bad h => rw [hyes] at h; cases h
    | look _ h => rw [hlook] at h; cases h
    | chg _ h => exact absurd (chg_head h) hb
    | web =>
      refine q_when (b := true) (tst e24 rfl (by decide +kernel)) (fun _ H5 e5 => ?_) fun hb => by cases hb
      have e05 := e04.trans e5
      refine s_retShown (nl := nl) (y := y) (names := names) (D0 := D) (fldn e05 rfl) (ev_var rfl) (e05 _ _ hn) (hy.mono e5) hok fun us hp hs H6 e6 => ?_
      exact hend us hp hs _ (e05.trans e6)
    | @many zs ns hp hns hsum =>
      refine q_when (b := false) (tst e24 rfl (by show decide (("wanted" : Str) = _) = false; decide +kernel)) (fun hb => by cases hb) fun _ H5 e5 => ?_
      refine q_when (b := true) (tst (e24.trans e5) rfl (by show decide (("wanted" : Str) = _) = true; decide +kernel)) (fun _ H6 e6 => ?_) fun hb => by cases hb
      refine q_asgL (xs := ns.map V.int) (el_ints (hslice (e5.trans e6) rfl) (by have := hrow.few; rw [List.length_tail]; omega) short640 hns (fun _ => rfl) (fun _ => rfl)) fun np H7 np0 e7 hnp => ?_
      refine q_when (b := true) (et_is (et_test (ev_op (ev_cb (ea_cons (ev_var rfl) ea_nil) (rc_sum (sq_of hnp))) ev_c rv_I0)) (decide_eq_true hsum)) (fun _ H8 e8 => ?_) fun hb => by cases hb
      exact hend _ ((((e04.trans e5).trans e6).trans e7).trans e8)
    | w24 hnn hp =>
      refine q_when (b := false) (tst e24 rfl (by show decide (("wanted" : Str) = _) = false; decide +kernel)) (fun hb => by cases hb) fun _ H5 e5 => ?_
      refine q_when (b := true) (tst (e24.trans e5) rfl (by show decide (("wanted" : Str) = _) = true; decide +kernel)) (fun _ H6 e6 => ?_) fun hb => by cases hb
      have hns : (("24" : Str) :: List.replicate (names.length - 1) ("0" : Str)).map PySem.intText? = (nums names.length).map some := by
        unfold nums
        rw [List.map_cons, List.map_cons, List.map_replicate, List.map_replicate]
        have h1 : PySem.intText? ("24" : Str) = some 24 := by decide +kernel
        have h2 : PySem.intText? ("0" : Str) = some 0 := by decide +kernel
        rw [h1, h2]
      refine q_asgL (xs := (nums names.length).map V.int) (el_ints (hslice (e5.trans e6) rfl) (by have := hrow.few; rw [List.length_tail]; omega) short640 hns (fun _ => rfl) (fun _ => rfl)) fun np H7 np0 e7 hnp => ?_
      refine q_when (b := false) (et_is (et_test (ev_op (ev_cb (ea_cons (ev_var rfl) ea_nil) (rc_sum (sq_of hnp))) ev_c rv_I0)) (by rw [nums_sum]; rfl)) (fun hb => by cases hb) fun _ H8 e8 => ?_
      have e08 := (((e04.trans e5).trans e6).trans e7).trans e8
      refine s_ret (v := .str "none; -") (ev_tC (ea_cons (fldn e08 rfl) (ea_cons (ev_var rfl) (ea_cons (ev_var rfl) ea_nil))) fun H9 e9 Q9 k9 E9 => ⟨y, np, nl, names.length, D, rfl, List.length_pos_iff.mpr hnn, hnd, hy.mono ((((e5.trans e6).trans e7).trans e8).trans e9), hok.ties, sq_of (e9 _ _ (e8 _ _ hnp)), k9⟩) ?_
      exact fun H9 e9 => hend _ (e08.trans e9)
    | @ask _ er hp hA =>
      have h1 : decide (ws.headD "" = ("web" : Str)) = false ∧ decide (ws.headD "" = ("wanted" : Str)) = false := by
        cases hA with
        | below _ _ => exact ⟨by show decide (("walk" : Str) = _) = false; decide +kernel, by show decide (("walk" : Str) = _) = false; decide +kernel⟩
        | apart _ _ _ => exact ⟨by show decide (("walk" : Str) = _) = false; decide +kernel, by show decide (("walk" : Str) = _) = false; decide +kernel⟩
        | odd _ _ => exact ⟨by show decide (("odd" : Str) = _) = false; decide +kernel, by show decide (("odd" : Str) = _) = false; decide +kernel⟩
      refine q_when (b := false) (tst e24 rfl h1.1) (fun hb => by cases hb) fun _ H5 e5 => ?_
      refine q_when (b := false) (tst (e24.trans e5) rfl h1.2) (fun hb => by cases hb) fun _ H6 e6 => ?_
      have e06 := (e04.trans e5).trans e6
      exact ⟨.ref x, rfl, x, dx, _, rfl, e06 _ _ hx, rfl, .ref wl, rfl, .ref y, rfl, x, nl, tl, wl, y, names, ws, D, er, rfl, ⟨dx, e06 _ _ hx, e06 _ _ hn, e06 _ _ ht⟩, hok, ((e24.trans e5).trans e6) _ _ hwl2, hrow.few, hy.mono (e5.trans e6), hA, fun H' e' => hend H' (e06.trans e')⟩
end
end KD
set_option maxHeartbeats 2000000
/-! law's cells -/
namespace KD
open PySem PySem.Spec PyProof.Rows L2 Evl
section
variable {P : Program} {w : World} {K : PySem.W.Frag} {mg : Str → Option Value} {base : Heap}
def cellAt (xs : List Int) (k : Nat) : Int := (xs[k]?).getD 0
def sp_l_cell_at (K : PySem.W.Frag) : Sp := fun vs H Q _ => ∃ (a : Addr) (xs : List Int) (k : Nat), vs = [.ref a, .int k] ∧ SqL K H a (xs.map V.int) ∧ xs.length ≤ 1000 ∧ RV1 (.int (cellAt xs k)) H Q
theorem ok_l_cell_at (T : Txt w K mg) : Ok P w K mg base CX0 1 ("_law_cell_at", none) ["_law_script", "_law_k"] (sp_l_cell_at K) := by
  refine ok0 T.f_l_cell_at sc_l_cell_at (fun vs H Q E h => by obtain ⟨_, _, _, rfl, _⟩ := h; rfl) (fun _ _ _ _ _ _ us hl => match us, hl with | [_, _], _ => rfl) fun f cdv A outer s H vs Q E hr h => ?_
  have nd := sc_l_cell_at.nd
  refine ⟨_, (pss_cons (ps_if (pt_cmpR op_lt (pv 1) (pe_callB call_len_seq (by rfl) T.n_len (by decide +kernel) (pa_cons (pv 0) pa_nil)) (nomark _)) (pss_one (ps_ret (pe_ix ix_list (pv 0) (pv 1) (fun _ _ => rfl)))) pss_nil)
 (pss_one (ps_ret pe_int))), ?_⟩
  try dsimp only [cxOf, L2.Cx.nox, L2.Cx.blk]
  obtain ⟨a, xs, k, rfl, hx, hn, hq⟩ := h
  refine q_when (by (repeat' first | with_reducible exact ev_c | with_reducible exact ev_var rfl | with_reducible exact ea_nil | with_reducible exact rv_I0 | with_reducible exact rv_eqS | with_reducible exact rv_neS | with_reducible exact rv_eqI | with_reducible exact rv_neI | with_reducible exact rv_eq rfl | with_reducible exact rv_ne rfl | with_reducible exact ru_neg | with_reducible exact rc_len (by assumption) | with_reducible exact rc_lenS (by assumption) | with_reducible exact rc_min2 | with_reducible exact rc_max2 | with_reducible exact rc_intB | with_reducible exact rv_sign | with_reducible exact rm_starts | with_reducible exact eo_none | with_reducible exact rv_addS (by assumption) | with_reducible apply ea_cons | with_reducible apply ev_op | with_reducible apply ev_un | with_reducible apply rv_R | with_reducible apply et_test | with_reducible apply et_B | with_reducible apply et_not | with_reducible apply ev_notV | with_reducible apply ev_cb | with_reducible apply eo_some | with_reducible apply ev_tM1 | with_reducible apply et_and | with_reducible apply et_or | with_reducible apply ev_andV | with_reducible apply ev_orV | with_reducible apply ev_slS | with_reducible refine ev_fld ?_ (by assumption) (by assumption) (by assumption) rfl)) (fun hb H1 e1 => ?_) (fun hb H1 e1 => ?_)
  · have hb := of_decide_eq_true hb
    rw [List.length_map] at hb
    have hk : k < xs.length := by omega
    have hx1 := ex_l e1 hx
    refine s_ret (v := .int (cellAt xs k)) (ev_op (ev_var rfl) (ev_var rfl) (rv_ixLn hx1 ?_)) fun H2 e2 => hq _ (e1.trans e2)
    unfold cellAt
    simp [List.getElem?_eq_getElem hk]
  · have hb := of_decide_eq_false hb
    rw [List.length_map] at hb
    have e : cellAt xs k = 0 := by
      unfold cellAt
      rw [List.getElem?_eq_none (by omega)]
      rfl
    rw [e] at hq
    refine s_ret (v := .int 0) ev_c ?_
    exact fun H2 e2 => hq _ (e1.trans e2)
def mixed (c f : Int) : Int := ((c + f.fmod 97) * f).fmod 2147483647
def sp_l_mixed : Sp := fun vs H Q _ => ∃ c f : Int, vs = [.int c, .int f] ∧ f.natAbs < 2 ^ 40 ∧ RV1 (.int (mixed c f)) H Q
theorem mixed_lt (c f : Int) : 0 ≤ mixed c f ∧ mixed c f < 2147483647 := ⟨Int.fmod_nonneg_of_pos _ (by decide), Int.fmod_lt_of_pos _ (by decide)⟩
theorem ok_l_mixed (T : Txt w K mg) : Ok P w K mg base CX0 1 ("_law_mixed", none) ["_law_cell", "_law_factor"] sp_l_mixed := by
  refine ok0 T.f_l_mixed sc_l_mixed (fun vs H Q E h => by obtain ⟨_, _, rfl, _⟩ := h; rfl) (fun _ _ _ _ _ _ us hl => match us, hl with | [_, _], _ => rfl) fun f cdv A outer s H vs Q E hr h => ?_
  have nd := sc_l_mixed.nd
  refine ⟨_, (pss_one (ps_ret (pe_op op_modN (pe_op op_mul (pe_op op_add (pv 0) (pe_op op_modN (pv 1) pe_int)) (pv 1)) pe_int))), ?_⟩
  try dsimp only [cxOf, L2.Cx.nox, L2.Cx.blk]
  obtain ⟨c, f, rfl, hf, hq⟩ := h
  refine s_ret (v := .int (((c + f.fmod 97) * f).fmod 2147483647)) ?t fun H1 e1 => hq _ e1
  case t =>
    (repeat' first | with_reducible exact ev_c | with_reducible exact ev_var rfl | with_reducible exact ea_nil | with_reducible exact rv_I0 | with_reducible exact rv_eqS | with_reducible exact rv_neS | with_reducible exact rv_eqI | with_reducible exact rv_neI | with_reducible exact rv_eq rfl | with_reducible exact rv_ne rfl | with_reducible exact ru_neg | with_reducible exact rc_len (by assumption) | with_reducible exact rc_lenS (by assumption) | with_reducible exact rc_min2 | with_reducible exact rc_max2 | with_reducible exact rc_intB | with_reducible exact rv_sign | with_reducible exact rm_starts | with_reducible exact eo_none | with_reducible exact rv_addS (by assumption) | with_reducible apply ea_cons | with_reducible apply ev_op | with_reducible apply ev_un | with_reducible apply rv_R | with_reducible apply et_test | with_reducible apply et_B | with_reducible apply et_not | with_reducible apply ev_notV | with_reducible apply ev_cb | with_reducible apply eo_some | with_reducible apply ev_tM1 | with_reducible apply et_and | with_reducible apply et_or | with_reducible apply ev_andV | with_reducible apply ev_orV | with_reducible apply ev_slS | with_reducible refine ev_fld ?_ (by assumption) (by assumption) (by assumption) rfl)
    · decide
    · exact .inr ⟨by omega, by omega⟩
    · decide
end
end KD
set_option maxHeartbeats 2000000
/-! the law's pool, numbers, names -/
namespace KD
open PySem PySem.Spec PyProof.Rows L2 Evl
section
variable {P : Program} {w : World} {K : PySem.W.Frag} {mg : Str → Option Value} {base : Heap}
theorem spv_mixed {c f : Int} {H : Hp} (hf : f.natAbs < 2 ^ 40) : SpV sp_l_mixed [.int c, .int f] H (.int (mixed c f)) := fun H1 e Q q E => ⟨c, f, rfl, hf, q⟩
/-- a number's text -/
def sp_l_number : Sp := fun vs H Q _ => ∃ c : Int, vs = [.int c] ∧ ∀ h : Int, h.natAbs < 10 ^ 60 → RV1 (.str (numS h)) H Q
theorem ok_l_number (T : Txt w K mg) : Ok P w K mg base CX0 1 ("_law_number", none) ["_law_cell"] sp_l_number := by
  refine ok0 T.f_l_number sc_l_number (fun vs H Q E h => by obtain ⟨_, rfl, _⟩ := h; rfl) (fun _ _ _ _ _ _ us hl => match us, hl with | [_], _ => rfl) fun f cdv A outer s H vs Q E hr h => ?_
  have nd := sc_l_number.nd
  refine ⟨_, (pss_cons (ps_if (pt_cmpR op_eq (pe_op op_modN (pv 0) pe_int) pe_int (nomark _)) (pss_one (ps_ret (pe_callTy call_str_int (by rfl) T.n_str (by decide +kernel) (pa_cons (pe_op op_sub (pe_op op_modN (pe_op op_fdivN (pv 0) pe_int) (pe_op op_sub (pe_op op_mul pe_int (pe_op op_pow pe_int pe_int)) pe_int)) (pe_op op_sub (pe_op op_pow pe_int pe_int) pe_int)) pa_nil)))) pss_nil)
 (pss_one (ps_ret (pe_callTy call_str_int (by rfl) T.n_str (by decide +kernel) (pa_cons (pe_op op_sub (pe_op op_modN (pe_op op_fdivN (pv 0) pe_int) pe_int) pe_int) pa_nil))))), ?_⟩
  try dsimp only [cxOf, L2.Cx.nox, L2.Cx.blk]
  obtain ⟨c, rfl, hq⟩ := h
  have d3 : (3 : Int) ≠ 0 ∧ (3 : Int).natAbs < 1073741824 := ⟨by decide, by decide⟩
  refine q_when (by (repeat' first | with_reducible exact ev_c | with_reducible exact ev_var rfl | with_reducible exact ea_nil | with_reducible exact rv_I0 | with_reducible exact rv_eqS | with_reducible exact rv_neS | with_reducible exact rv_eqI | with_reducible exact rv_neI | with_reducible exact rv_eq rfl | with_reducible exact rv_ne rfl | with_reducible exact ru_neg | with_reducible exact rc_len (by assumption) | with_reducible exact rc_lenS (by assumption) | with_reducible exact rc_min2 | with_reducible exact rc_max2 | with_reducible exact rc_intB | with_reducible exact rv_sign | with_reducible exact rm_starts | with_reducible exact eo_none | with_reducible exact rv_addS (by assumption) | with_reducible apply ea_cons | with_reducible apply ev_op | with_reducible apply ev_un | with_reducible apply rv_R | with_reducible apply et_test | with_reducible apply et_B | with_reducible apply et_not | with_reducible apply ev_notV | with_reducible apply ev_cb | with_reducible apply eo_some | with_reducible apply ev_tM1 | with_reducible apply et_and | with_reducible apply et_or | with_reducible apply ev_andV | with_reducible apply ev_orV | with_reducible apply ev_slS | with_reducible refine ev_fld ?_ (by assumption) (by assumption) (by assumption) rfl); · decide) (fun hb H1 e1 => ?_) (fun hb H1 e1 => ?_)
  · have b1 := Int.fmod_nonneg_of_pos (c.fdiv 3) (b := 2 * 10 ^ 60 - 1) (by decide)
    have b2 := Int.fmod_lt_of_pos (c.fdiv 3) (b := 2 * 10 ^ 60 - 1) (by decide)
    have hh : ((c.fdiv 3).fmod (2 * 10 ^ 60 - 1) - (10 ^ 60 - 1)).natAbs < 10 ^ 60 := by omega
    have p10 : CPow 10 60 := ⟨by decide, by decide, by decide⟩
    refine s_ret (v := .str (numS ((c.fdiv 3).fmod (2 * 10 ^ 60 - 1) - (10 ^ 60 - 1)))) (ev_cb (ea_cons (ev_op (ev_op (ev_op (ev_var rfl) ev_c (rv_R d3)) (ev_op (ev_op ev_c (ev_op ev_c ev_c (rv_R p10)) (rv_R (.inl ⟨by decide, by decide⟩))) ev_c rv_I0) (rv_R (by decide))) (ev_op (ev_op ev_c ev_c (rv_R p10)) ev_c rv_I0) rv_I0) ea_nil) (rc_str (log_num hh))) ?_
    exact fun H2 e2 => hq _ hh _ (e1.trans e2)
  · have b1 := Int.fmod_nonneg_of_pos (c.fdiv 3) (b := 9) (by decide)
    have b2 := Int.fmod_lt_of_pos (c.fdiv 3) (b := 9) (by decide)
    have hh : ((c.fdiv 3).fmod 9 - 2).natAbs < 10 ^ 60 := by omega
    refine s_ret (v := .str (numS ((c.fdiv 3).fmod 9 - 2))) (ev_cb (ea_cons (ev_op (ev_op (ev_op (ev_var rfl) ev_c (rv_R d3)) ev_c (rv_R (by decide))) ev_c rv_I0) ea_nil) (rc_str (log_num hh))) ?_
    exact fun H2 e2 => hq _ hh _ (e1.trans e2)
theorem dp_strs {H : Hp} {p : Addr} {l : List Str} (h : SqL K H p (strsV l)) : Dp K H (.ref p) (.list (l.map PyData.str)) := by
  refine .lst h ?_
  unfold strsV
  clear h
  induction l with
  | nil => exact .nil
  | cons a r ih => exact .cons (.str _) ih
theorem eqv_strs (l : List Str) : PyData.eqv (.list (l.map PyData.str)) (.list []) = decide (l = []) := by
  cases l with
  | nil => rfl
  | cons a r => rfl
theorem lay_strs : ∀ {l : List Str}, (∀ z ∈ l, PyData.strOk z = true) → PyData.canLayAll0 (l.map PyData.str) = true ∧ PyData.depthAll (l.map PyData.str) = 0
  | [], _ => ⟨rfl, rfl⟩
  | a :: r, h => by
    obtain ⟨h1, h2⟩ := lay_strs (l := r) fun z hz => h z (List.mem_cons_of_mem _ hz)
    refine ⟨?_, ?_⟩
    · rw [List.map_cons, PyData.canLayAll0, h1, PyData.canLay0, h a (List.mem_cons_self ..)]
      rfl
    · rw [List.map_cons, PyData.depthAll, h2]
      rfl
theorem strOk_name {z : Str} (h : isName z = true) : PyData.strOk z = true := by
  unfold isName at h
  rw [Bool.and_eq_true] at h
  unfold PyData.strOk
  rw [← Array.all_toList]
  refine List.all_eq_true.2 fun c hc => ?_
  have h1 := of_decide_eq_true (List.all_eq_true.1 h.2 c hc)
  have h2 : ∀ c ∈ lets.cps.toList, c < 0x110000 := by decide +kernel
  exact decide_eq_true (h2 c h1)
theorem shaped_strs {l : List Str} (h : ∀ z ∈ l, PyData.strOk z = true) : SeqAt.shaped (.list (l.map PyData.str)) = true := by
  obtain ⟨h1, h2⟩ := lay_strs h
  unfold SeqAt.shaped
  simp [PyData.canLay0, PyData.depth, h1, h2]
theorem rv_neNil {H : Hp} {p q : Addr} {l : List Str} (h : SqL K H p (strsV l)) (hl : ∀ z ∈ l, isName z = true) (hq : H q = some (.lst [])) : RV (rNeD K) (.ref p) (.ref q) H (.bl (!decide (l = []))) := fun H1 e Q k =>
  ⟨_, .list [], dp_strs (ex_l e h), .lst (sq_of (e _ _ hq)) .nil, shaped_strs fun z hz => strOk_name (hl z hz), rfl, by rw [eqv_strs]; exact k _ (Ex.refl _)⟩
theorem rv_eqNil {H : Hp} {p q : Addr} {l : List Str} (h : SqL K H p (strsV l)) (hl : ∀ z ∈ l, isName z = true) (hq : H q = some (.lst [])) : RV (rEqD K) (.ref p) (.ref q) H (.bl (decide (l = []))) := fun H1 e Q k =>
  ⟨_, .list [], dp_strs (ex_l e h), .lst (sq_of (e _ _ hq)) .nil, shaped_strs fun z hz => strOk_name (hl z hz), rfl, by rw [eqv_strs]; exact k _ (Ex.refl _)⟩
theorem ev_neNil {te : TE} {σ : L2.St} {H : Hp} {p : Addr} {l : List Str} (ha : Ev te σ H (.ref p)) (h : SqL K H p (strsV l)) (hl : ∀ z ∈ l, isName z = true) : Ev (tOp (rNeD K) te (tLst tNil)) σ H (.bl (!decide (l = []))) :=
  ev_opL (xs := []) ha (el_lst ea_nil (by simp)) fun q H1 hq e => rv_neNil (ex_l e h) hl hq
theorem ev_eqNil {te : TE} {σ : L2.St} {H : Hp} {p : Addr} {l : List Str} (ha : Ev te σ H (.ref p)) (h : SqL K H p (strsV l)) (hl : ∀ z ∈ l, isName z = true) : Ev (tOp (rEqD K) te (tLst tNil)) σ H (.bl (decide (l = []))) :=
  ev_opL (xs := []) ha (el_lst ea_nil (by simp)) fun q H1 hq e => rv_eqNil (ex_l e h) hl hq
theorem len_strs (l : List Str) : (strsV l).length = l.length := List.length_map ..
/-- an index in range -/
theorem fmod_nat {h : Int} {n : Nat} (hn : 0 < n) : ∃ k : Nat, k < n ∧ h.fmod (n : Int) = (k : Int) := by
  have h1 := Int.fmod_nonneg_of_pos h (b := (n : Int)) (by omega)
  have h2 := Int.fmod_lt_of_pos h (b := (n : Int)) (by omega)
  exact ⟨(h.fmod n).toNat, by omega, by omega⟩
/-- one of the names, or one of the pool -/
def sp_l_named (K : PySem.W.Frag) : Sp := fun vs H Q _ => ∃ (a b : Addr) (ns ps : List Str) (h : Int), vs = [.ref a, .ref b, .int h] ∧ SqL K H a (strsV ns) ∧ SqL K H b (strsV ps) ∧ (∀ z ∈ ns, isName z = true) ∧ ns.length ≤ 1000 ∧ 0 < ps.length ∧ ps.length ≤ 1000 ∧ h.natAbs < 2 ^ 60 ∧ ∀ z, z ∈ ns ∨ z ∈ ps → RV1 (.str z) H Q
theorem ok_l_named (T : Txt w K mg) : Ok P w K mg base CX0 1 ("_law_named", none) ["_law_names", "_law_pool_here", "_law_number_here"] (sp_l_named K) := by
  refine ok0 T.f_l_named sc_l_named (fun vs H Q E h => by obtain ⟨_, _, _, _, _, rfl, _⟩ := h; rfl) (fun _ _ _ _ _ _ us hl => match us, hl with | [_, _, _], _ => rfl) fun f cdv A outer s H vs Q E hr h => ?_
  have nd := sc_l_named.nd
  have hu64 := hr.units
  refine ⟨_, (pss_cons (ps_if (PW.pt (pw_and (pt_cmpR op_gt (pe_op op_modN (pv 2) pe_int) pe_int (nomark _)) (pw_and1 (pt_cmpR (op_neD hu64) (pv 0) (pe_lst pa_nil) (nomark _))))) (pss_one (ps_ret (pe_ix ix_list (pv 0) (pe_op op_modN (pe_op op_fdivN (pv 2) pe_int) (pe_callB call_len_seq (by rfl) T.n_len (by decide +kernel) (pa_cons (pv 0) pa_nil))) (fun _ _ => rfl)))) pss_nil)
 (pss_one (ps_ret (pe_ix ix_list (pv 1) (pe_op op_modN (pe_op op_fdivN (pv 2) pe_int) (pe_callB call_len_seq (by rfl) T.n_len (by decide +kernel) (pa_cons (pv 1) pa_nil))) (fun _ _ => rfl))))), ?_⟩
  try dsimp only [cxOf, L2.Cx.nox, L2.Cx.blk]
  obtain ⟨a, b, ns, ps, h, rfl, ha, hb, hns, hnl, hp0, hpl, hh, hq⟩ := h
  have d5 : (5 : Int) ≠ 0 ∧ (5 : Int).natAbs < 1073741824 := ⟨by decide, by decide⟩
  have key : ∀ (l : List Str) (p : Addr) (H1 : Hp), Ex H H1 → SqL K H1 p (strsV l) → 0 < l.length → ∃ z, z ∈ l ∧ RV (rIxL K) (.ref p) (.int ((h.fdiv 5).fmod (l.length : Int))) H1 (.str z) := fun l p H1 e1 hp hl => by
    obtain ⟨k, hk, e⟩ := fmod_nat (h := h.fdiv 5) hl
    refine ⟨l[k], List.getElem_mem .., ?_⟩
    rw [e]
    exact rv_ixLn hp (strs_at' (List.getElem?_eq_getElem hk))
  refine q_when (b := decide (0 < h.fmod 5) && !decide (ns = [])) ?t (fun hb1 H1 e1 => ?_) (fun hb1 H1 e1 => ?_)
  case t =>
    refine et_and (et_test (ev_op (ev_op (ev_var rfl) ev_c (rv_R (by decide))) ev_c ?_)) fun _ => et_test (ev_neNil (ev_var rfl) ha hns)
    exact rv_I0
  · rw [Bool.and_eq_true] at hb1
    have hn0 : 0 < ns.length := List.length_pos_iff.2 (by simpa using hb1.2)
    obtain ⟨z, hz, hv⟩ := key ns a H1 e1 (ex_l e1 ha) hn0
    have dn : (ns.length : Int) ≠ 0 ∧ (ns.length : Int).natAbs < 1073741824 := ⟨by omega, by omega⟩
    refine s_ret (v := .str z) (ev_op (ev_var rfl) (ev_op (ev_op (ev_var rfl) ev_c (rv_R d5)) (ev_is (ev_cb (ea_cons (ev_var rfl) ea_nil) (rc_len (ex_l e1 ha))) (by rw [len_strs])) (rv_R dn.1)) hv) fun H2 e2 => hq z (.inl hz) _ (e1.trans e2)
  · obtain ⟨z, hz, hv⟩ := key ps b H1 e1 (ex_l e1 hb) hp0
    have dn : (ps.length : Int) ≠ 0 ∧ (ps.length : Int).natAbs < 1073741824 := ⟨by omega, by omega⟩
    refine s_ret (v := .str z) (ev_op (ev_var rfl) (ev_op (ev_op (ev_var rfl) ev_c (rv_R d5)) (ev_is (ev_cb (ea_cons (ev_var rfl) ea_nil) (rc_len (ex_l e1 hb))) (by rw [len_strs])) (rv_R dn.1)) hv) fun H2 e2 => hq z (.inr hz) _ (e1.trans e2)
def formsW : List Str := [" 01", " +1", " -0", " 00", " 1.0"]
theorem forms_le : ∀ z ∈ formsW, z.length ≤ 4 := by decide +kernel
/-- the form row -/
def sp_l_form (K : PySem.W.Frag) : Sp := fun vs H Q _ => ∃ (a : Addr) (ns : List Str) (h : Int), vs = [.ref a, .int h] ∧ SqL K H a (strsV ns) ∧ ns.length ≤ 1000 ∧ h.natAbs < 2 ^ 60 ∧ ∀ z ∈ formsW, RV1 (.str ("wanted" ++ repS z (max 1 ns.length))) H Q
theorem ok_l_form (T : Txt w K mg) : Ok P w K mg base CX0 1 ("_law_form", none) ["_law_names", "_law_number_here"] (sp_l_form K) := by
  refine ok0 T.f_l_form sc_l_form (fun vs H Q E h => by obtain ⟨_, _, _, rfl, _⟩ := h; rfl) (fun _ _ _ _ _ _ us hl => match us, hl with | [_, _], _ => rfl) fun f cdv A outer s H vs Q E hr h => ?_
  have nd := sc_l_form.nd
  refine ⟨_, (pss_cons (ps_set (i := 2) nd rfl (Or.inl rfl) (pe_callB (call_max2 rfl) (by rfl) T.n_max (by decide +kernel) (pa_cons pe_int (pa_cons (pe_callB call_len_seq (by rfl) T.n_len (by decide +kernel) (pa_cons (pv 0) pa_nil)) pa_nil))))
 (pss_one (ps_ret (pe_op op_add_str pe_str (pe_op op_mulstr (pe_ix ix_list (pe_lst (pa_cons pe_str (pa_cons pe_str (pa_cons pe_str (pa_cons pe_str (pa_cons pe_str pa_nil)))))) (pe_op op_modN (pv 1) pe_int) (fun _ _ => rfl)) (pv 2)))))), ?_⟩
  try dsimp only [cxOf, L2.Cx.nox, L2.Cx.blk]
  obtain ⟨a, ns, h, rfl, ha, hnl, hh, hq⟩ := h
  refine q_asg (v := .int ((max 1 ns.length : Nat) : Int)) ?t fun H1 e1 => ?_
  case t =>
    refine ev_is (ev_cb (ea_cons ev_c (ea_cons (ev_is (ev_cb (ea_cons (ev_var rfl) ea_nil) (rc_len ha)) (by rw [len_strs])) ea_nil)) rc_max2) (congrArg V.int ?_)
    split <;> omega
  obtain ⟨k, hk, e⟩ := fmod_nat (h := h) (n := 5) (by decide)
  have hk' : k < formsW.length := hk
  have fk : formsW[k].length ≤ 4 := forms_le _ (List.getElem_mem hk')
  refine s_ret (v := .str ("wanted" ++ repS formsW[k] (max 1 ns.length))) ?_ fun H2 e2 => hq _ (List.getElem_mem hk') _ (e1.trans e2)
  refine ev_op ev_c (ev_op (ev_opL1 (xs := strsV formsW) (y := .int (k : Int)) (el_lst (ea_cons ev_c (ea_cons ev_c (ea_cons ev_c (ea_cons ev_c (ea_cons ev_c ea_nil))))) (by decide)) (fun H2 e2 => ev_is (ev_op (ev_var rfl) ev_c (rv_R (by decide))) (congrArg V.int e)) fun p H2 hp e2 => rv_ixLn (sq_of hp) (strs_at' (List.getElem?_eq_getElem hk'))) (ev_var rfl) (rv_mulS (z := formsW[k]) (n := ((max 1 ns.length : Nat) : Int)) (by omega) ?_)) ?_
  · exact fk
  · refine rv_addS ?_
    rw [show (((max 1 ns.length : Nat) : Int)).toNat = max 1 ns.length from Int.toNat_natCast _, repS_len]
    have : max 1 ns.length * formsW[k].length ≤ 1000 * 4 := Nat.mul_le_mul (by omega) fk
    have : ("wanted" : Str).length = 6 := rfl
    unfold sizeLine
    omega
end
end KD
set_option maxHeartbeats 2000000
/-! the law's broken rows and questions -/
namespace KD
open PySem PySem.Spec PyProof.Rows L2 Evl
section
variable {P : Program} {w : World} {K : PySem.W.Frag} {mg : Str → Option Value} {base : Heap}
/-- a text with a bound -/
structure EvS (te : TE) (σ : L2.St) (H : Hp) (z : Str) (n : Nat) : Prop where
  ev : Ev te σ H (.str z)
  le : z.length ≤ n
section
variable {te ta tb : TE} {σ : L2.St} {H : Hp}
theorem el_is {xs ys : List V} (h : EvL te σ H xs) (e : xs = ys) : EvL te σ H ys := by subst e; exact h
theorem ea_S {z : Str} {n : Nat} {tl : TA} {vs : List V} (h : EvS te σ H z n) (h2 : EvA tl σ H vs) : EvA (tCons te tl) σ H (.str z :: vs) := ea_cons h.ev h2
theorem es_c {z : Str} (h : z.length ≤ 20) : EvS (L2.tC (.str z)) σ H z 20 := ⟨ev_c, h⟩
theorem es_v {i : Nat} {z : Str} (h : σ[i]? = some (some (.str z))) (hz : z.length ≤ 8) : EvS (tVar i) σ H z 8 := ⟨ev_var h, hz⟩
theorem es_cat {a b : Str} {n m : Nat} (h1 : EvS ta σ H a n) (h2 : EvS tb σ H b m) (hn : n + m ≤ 1000) : EvS (tOp (fun x y H Q => ∃ i j, x = V.str i ∧ y = V.str j ∧ i.length + j.length ≤ sizeLine ∧ Q (V.str (i ++ j)) H) ta tb) σ H (a ++ b) (n + m) := by
  have l1 := h1.le
  have l2 := h2.le
  refine ⟨ev_op h1.ev h2.ev (rv_addS ?_), ?_⟩
  · unfold sizeLine
    omega
  · rw [len_app]
    omega
theorem es_rep {z : Str} {j : Int} {k : Nat} (h : Ev te σ H (.int j)) (hj : j.toNat = k) (h1 : j.natAbs ≤ 100) (hk : k ≤ 100) (hz : z.length ≤ 4) : EvS (tOp rMulS (L2.tC (.str z)) te) σ H (repS z k) 400 := by
  subst hj
  refine ⟨ev_op ev_c h (rv_mulS (by omega) hz), ?_⟩
  rw [repS_len]
  exact Nat.mul_le_mul hk hz
theorem es_tail {i : Nat} {z : Str} (h : σ[i]? = some (some (.str z))) (hz : z.length ≤ 8) : EvS (tSl rSlS (tVar i) (tPart (L2.tC (.int 1))) tNoPart) σ H (cutS z (some 1) none) 8 :=
  ⟨ev_slS (ev_var h) (eo_some ev_c) eo_none (by unfold sizeLine; omega), Nat.le_trans (cutS_length ..) hz⟩
end
theorem strsV_app (a b : List Str) : strsV a ++ strsV b = strsV (a ++ b) := List.map_append.symm
def brk0 (one other : Str) : List Str := [("" : Str), (" " : Str), ("point" : Str), (((("point " : Str) ++ one) ++ (" " : Str)) ++ other), ((("point " : Str) ++ one) ++ ("1" : Str)), ("point" : Str), (("points " : Str) ++ one)]
def brk1 (one other : Str) : List Str := [(((("tie " : Str) ++ one) ++ (" " : Str)) ++ other), ((((("tie " : Str) ++ one) ++ (" " : Str)) ++ other) ++ (" 01" : Str)), ((((("tie " : Str) ++ one) ++ ("  " : Str)) ++ other) ++ (" 3" : Str))]
def brk2 (one other : Str) : List Str := [((((("tie " : Str) ++ one) ++ (" " : Str)) ++ other) ++ (" -0" : Str)), (("untie " : Str) ++ one), ("gone" : Str), (("rename " : Str) ++ one), ("web " : Str), (" web" : Str)]
def brk3 (one other : Str) : List Str := [(("most " : Str) ++ one), (("Point " : Str) ++ one), ("walk" : Str), (((("walk " : Str) ++ one) ++ (" " : Str)) ++ other), ("odd " : Str), ("point abcdefghi" : Str)]
def brk4 (one other : Str) : List Str := [("wanted a" : Str), ("spare 1" : Str), ("heaviest-" : Str), ((((("tie " : Str) ++ one) ++ (" " : Str)) ++ other) ++ (" +1" : Str)), (((("tie 1 " : Str) ++ one) ++ (" " : Str)) ++ other)]
def brk5 (one other : Str) : List Str := [(("walk A" : Str) ++ (cutS one (some 1) none)), ((("odd " : Str) ++ one) ++ (" b1" : Str)), ("gone A" : Str), ((("rename " : Str) ++ one) ++ (" B" : Str)), (("rename b1 " : Str) ++ other)]
def brk6 (one other : Str) : List Str := [((("untie " : Str) ++ one) ++ (" a1" : Str)), (("untie B " : Str) ++ other), (((((("tie " : Str) ++ one) ++ (" " : Str)) ++ other) ++ (" " : Str)) ++ (repS "1" 61))]
def brk7 (one other : Str) : List Str := [(((("gone " : Str) ++ one) ++ (" " : Str)) ++ other), (((((("untie " : Str) ++ one) ++ (" " : Str)) ++ other) ++ (" " : Str)) ++ one), (("heaviest " : Str) ++ one)]
def brk8 (one other : Str) : List Str := [(((((("rename " : Str) ++ one) ++ (" " : Str)) ++ other) ++ (" " : Str)) ++ one), ((((("tie " : Str) ++ one) ++ (" " : Str)) ++ other) ++ (" 3 4" : Str)), (("paired " : Str) ++ one)]
def brokenW (one other : Str) : List Str := ((((((((brk0 one other ++ brk1 one other) ++ brk2 one other) ++ brk3 one other) ++ brk4 one other) ++ brk5 one other) ++ brk6 one other) ++ brk7 one other) ++ brk8 one other)
theorem len_broken (one other : Str) : (brokenW one other).length = 41 := rfl
def sp_l_broken : Sp := fun vs H Q _ => ∃ (one other : Str) (h : Int), vs = [.str one, .str other, .int h] ∧ one.length ≤ 8 ∧ other.length ≤ 8 ∧ h.natAbs < 2 ^ 60 ∧ ∀ z ∈ brokenW one other, RV1 (.str z) H Q
theorem ok_l_broken (T : Txt w K mg) : Ok P w K mg base CX0 1 ("_law_broken", none) ["_law_one", "_law_other", "_law_number_here"] sp_l_broken := by
  refine ok0 T.f_l_broken sc_l_broken (fun vs H Q E h => by obtain ⟨_, _, _, rfl, _⟩ := h; rfl) (fun _ _ _ _ _ _ us hl => match us, hl with | [_, _, _], _ => rfl) fun f cdv A outer s H vs Q E hr h => ?_
  have nd := sc_l_broken.nd
  refine ⟨_, (pss_cons (ps_set (i := 3) nd rfl (Or.inl rfl) (pe_lst (pa_cons pe_str (pa_cons pe_str (pa_cons pe_str (pa_cons (pe_op op_add_str (pe_op op_add_str (pe_op op_add_str pe_str (pv 0)) pe_str) (pv 1)) (pa_cons (pe_op op_add_str (pe_op op_add_str pe_str (pv 0)) pe_str) (pa_cons pe_str (pa_cons (pe_op op_add_str pe_str (pv 0)) pa_nil)))))))))
 (pss_cons (ps_set (i := 3) nd rfl (Or.inl rfl) (pe_op op_cat (pv 3) (pe_lst (pa_cons (pe_op op_add_str (pe_op op_add_str (pe_op op_add_str pe_str (pv 0)) pe_str) (pv 1)) (pa_cons (pe_op op_add_str (pe_op op_add_str (pe_op op_add_str (pe_op op_add_str pe_str (pv 0)) pe_str) (pv 1)) pe_str) (pa_cons (pe_op op_add_str (pe_op op_add_str (pe_op op_add_str (pe_op op_add_str pe_str (pv 0)) pe_str) (pv 1)) pe_str) pa_nil))))))
 (pss_cons (ps_set (i := 3) nd rfl (Or.inl rfl) (pe_op op_cat (pv 3) (pe_lst (pa_cons (pe_op op_add_str (pe_op op_add_str (pe_op op_add_str (pe_op op_add_str pe_str (pv 0)) pe_str) (pv 1)) pe_str) (pa_cons (pe_op op_add_str pe_str (pv 0)) (pa_cons pe_str (pa_cons (pe_op op_add_str pe_str (pv 0)) (pa_cons pe_str (pa_cons pe_str pa_nil)))))))))
 (pss_cons (ps_set (i := 3) nd rfl (Or.inl rfl) (pe_op op_cat (pv 3) (pe_lst (pa_cons (pe_op op_add_str pe_str (pv 0)) (pa_cons (pe_op op_add_str pe_str (pv 0)) (pa_cons pe_str (pa_cons (pe_op op_add_str (pe_op op_add_str (pe_op op_add_str pe_str (pv 0)) pe_str) (pv 1)) (pa_cons pe_str (pa_cons pe_str pa_nil)))))))))
 (pss_cons (ps_set (i := 3) nd rfl (Or.inl rfl) (pe_op op_cat (pv 3) (pe_lst (pa_cons pe_str (pa_cons pe_str (pa_cons pe_str (pa_cons (pe_op op_add_str (pe_op op_add_str (pe_op op_add_str (pe_op op_add_str pe_str (pv 0)) pe_str) (pv 1)) pe_str) (pa_cons (pe_op op_add_str (pe_op op_add_str (pe_op op_add_str pe_str (pv 0)) pe_str) (pv 1)) pa_nil))))))))
 (pss_cons (ps_set (i := 3) nd rfl (Or.inl rfl) (pe_op op_cat (pv 3) (pe_lst (pa_cons (pe_op op_add_str pe_str (pe_slice sl_str (pv 0) (po_some pe_int) po_none)) (pa_cons (pe_op op_add_str (pe_op op_add_str pe_str (pv 0)) pe_str) (pa_cons pe_str (pa_cons (pe_op op_add_str (pe_op op_add_str pe_str (pv 0)) pe_str) (pa_cons (pe_op op_add_str pe_str (pv 1)) pa_nil))))))))
 (pss_cons (ps_set (i := 3) nd rfl (Or.inl rfl) (pe_op op_cat (pv 3) (pe_lst (pa_cons (pe_op op_add_str (pe_op op_add_str pe_str (pv 0)) pe_str) (pa_cons (pe_op op_add_str pe_str (pv 1)) (pa_cons (pe_op op_add_str (pe_op op_add_str (pe_op op_add_str (pe_op op_add_str (pe_op op_add_str pe_str (pv 0)) pe_str) (pv 1)) pe_str) (pe_op op_mulstr pe_str pe_int)) pa_nil))))))
 (pss_cons (ps_set (i := 3) nd rfl (Or.inl rfl) (pe_op op_cat (pv 3) (pe_lst (pa_cons (pe_op op_add_str (pe_op op_add_str (pe_op op_add_str pe_str (pv 0)) pe_str) (pv 1)) (pa_cons (pe_op op_add_str (pe_op op_add_str (pe_op op_add_str (pe_op op_add_str (pe_op op_add_str pe_str (pv 0)) pe_str) (pv 1)) pe_str) (pv 0)) (pa_cons (pe_op op_add_str pe_str (pv 0)) pa_nil))))))
 (pss_cons (ps_set (i := 3) nd rfl (Or.inl rfl) (pe_op op_cat (pv 3) (pe_lst (pa_cons (pe_op op_add_str (pe_op op_add_str (pe_op op_add_str (pe_op op_add_str (pe_op op_add_str pe_str (pv 0)) pe_str) (pv 1)) pe_str) (pv 0)) (pa_cons (pe_op op_add_str (pe_op op_add_str (pe_op op_add_str (pe_op op_add_str pe_str (pv 0)) pe_str) (pv 1)) pe_str) (pa_cons (pe_op op_add_str pe_str (pv 0)) pa_nil))))))
 (pss_one (ps_ret (pe_ix ix_list (pv 3) (pe_op op_modN (pv 2) pe_int) (fun _ _ => rfl))))))))))))), ?_⟩
  try dsimp only [cxOf, L2.Cx.nox, L2.Cx.blk]
  obtain ⟨one, other, h, rfl, ho, hu, hh, hq⟩ := h
  refine q_asgL (xs := strsV (brk0 one other)) (el_lst (by dsimp only [brk0, strsV, List.map]; repeat' (first | exact ea_nil | apply ea_S | apply es_cat | exact es_c (by decide +kernel) | exact es_v rfl ho | exact es_v rfl hu | exact es_tail rfl ho | exact es_rep ev_c rfl (by decide) (by decide) (by decide +kernel) | decide)) (Nat.le_of_ble_eq_true rfl)) fun p0 H0 _ e0 hp0 => ?_
  refine q_asgL (xs := strsV ((brk0 one other) ++ brk1 one other)) (el_is (el_catL (ev_var rfl) (el_lst (vs := strsV (brk1 one other)) (by dsimp only [brk1, strsV, List.map]; repeat' (first | exact ea_nil | apply ea_S | apply es_cat | exact es_c (by decide +kernel) | exact es_v rfl ho | exact es_v rfl hu | exact es_tail rfl ho | exact es_rep ev_c rfl (by decide) (by decide) (by decide +kernel) | decide)) (Nat.le_of_ble_eq_true rfl)) hp0 (Nat.le_of_ble_eq_true rfl)) (strsV_app ..)) fun p1 H1 _ e1 hp1 => ?_
  refine q_asgL (xs := strsV (((brk0 one other) ++ brk1 one other) ++ brk2 one other)) (el_is (el_catL (ev_var rfl) (el_lst (vs := strsV (brk2 one other)) (by dsimp only [brk2, strsV, List.map]; repeat' (first | exact ea_nil | apply ea_S | apply es_cat | exact es_c (by decide +kernel) | exact es_v rfl ho | exact es_v rfl hu | exact es_tail rfl ho | exact es_rep ev_c rfl (by decide) (by decide) (by decide +kernel) | decide)) (Nat.le_of_ble_eq_true rfl)) hp1 (Nat.le_of_ble_eq_true rfl)) (strsV_app ..)) fun p2 H2 _ e2 hp2 => ?_
  refine q_asgL (xs := strsV ((((brk0 one other) ++ brk1 one other) ++ brk2 one other) ++ brk3 one other)) (el_is (el_catL (ev_var rfl) (el_lst (vs := strsV (brk3 one other)) (by dsimp only [brk3, strsV, List.map]; repeat' (first | exact ea_nil | apply ea_S | apply es_cat | exact es_c (by decide +kernel) | exact es_v rfl ho | exact es_v rfl hu | exact es_tail rfl ho | exact es_rep ev_c rfl (by decide) (by decide) (by decide +kernel) | decide)) (Nat.le_of_ble_eq_true rfl)) hp2 (Nat.le_of_ble_eq_true rfl)) (strsV_app ..)) fun p3 H3 _ e3 hp3 => ?_
  refine q_asgL (xs := strsV (((((brk0 one other) ++ brk1 one other) ++ brk2 one other) ++ brk3 one other) ++ brk4 one other)) (el_is (el_catL (ev_var rfl) (el_lst (vs := strsV (brk4 one other)) (by dsimp only [brk4, strsV, List.map]; repeat' (first | exact ea_nil | apply ea_S | apply es_cat | exact es_c (by decide +kernel) | exact es_v rfl ho | exact es_v rfl hu | exact es_tail rfl ho | exact es_rep ev_c rfl (by decide) (by decide) (by decide +kernel) | decide)) (Nat.le_of_ble_eq_true rfl)) hp3 (Nat.le_of_ble_eq_true rfl)) (strsV_app ..)) fun p4 H4 _ e4 hp4 => ?_
  refine q_asgL (xs := strsV ((((((brk0 one other) ++ brk1 one other) ++ brk2 one other) ++ brk3 one other) ++ brk4 one other) ++ brk5 one other)) (el_is (el_catL (ev_var rfl) (el_lst (vs := strsV (brk5 one other)) (by dsimp only [brk5, strsV, List.map]; repeat' (first | exact ea_nil | apply ea_S | apply es_cat | exact es_c (by decide +kernel) | exact es_v rfl ho | exact es_v rfl hu | exact es_tail rfl ho | exact es_rep ev_c rfl (by decide) (by decide) (by decide +kernel) | decide)) (Nat.le_of_ble_eq_true rfl)) hp4 (Nat.le_of_ble_eq_true rfl)) (strsV_app ..)) fun p5 H5 _ e5 hp5 => ?_
  refine q_asgL (xs := strsV (((((((brk0 one other) ++ brk1 one other) ++ brk2 one other) ++ brk3 one other) ++ brk4 one other) ++ brk5 one other) ++ brk6 one other)) (el_is (el_catL (ev_var rfl) (el_lst (vs := strsV (brk6 one other)) (by dsimp only [brk6, strsV, List.map]; repeat' (first | exact ea_nil | apply ea_S | apply es_cat | exact es_c (by decide +kernel) | exact es_v rfl ho | exact es_v rfl hu | exact es_tail rfl ho | exact es_rep ev_c rfl (by decide) (by decide) (by decide +kernel) | decide)) (Nat.le_of_ble_eq_true rfl)) hp5 (Nat.le_of_ble_eq_true rfl)) (strsV_app ..)) fun p6 H6 _ e6 hp6 => ?_
  refine q_asgL (xs := strsV ((((((((brk0 one other) ++ brk1 one other) ++ brk2 one other) ++ brk3 one other) ++ brk4 one other) ++ brk5 one other) ++ brk6 one other) ++ brk7 one other)) (el_is (el_catL (ev_var rfl) (el_lst (vs := strsV (brk7 one other)) (by dsimp only [brk7, strsV, List.map]; repeat' (first | exact ea_nil | apply ea_S | apply es_cat | exact es_c (by decide +kernel) | exact es_v rfl ho | exact es_v rfl hu | exact es_tail rfl ho | exact es_rep ev_c rfl (by decide) (by decide) (by decide +kernel) | decide)) (Nat.le_of_ble_eq_true rfl)) hp6 (Nat.le_of_ble_eq_true rfl)) (strsV_app ..)) fun p7 H7 _ e7 hp7 => ?_
  refine q_asgL (xs := strsV (((((((((brk0 one other) ++ brk1 one other) ++ brk2 one other) ++ brk3 one other) ++ brk4 one other) ++ brk5 one other) ++ brk6 one other) ++ brk7 one other) ++ brk8 one other)) (el_is (el_catL (ev_var rfl) (el_lst (vs := strsV (brk8 one other)) (by dsimp only [brk8, strsV, List.map]; repeat' (first | exact ea_nil | apply ea_S | apply es_cat | exact es_c (by decide +kernel) | exact es_v rfl ho | exact es_v rfl hu | exact es_tail rfl ho | exact es_rep ev_c rfl (by decide) (by decide) (by decide +kernel) | decide)) (Nat.le_of_ble_eq_true rfl)) hp7 (Nat.le_of_ble_eq_true rfl)) (strsV_app ..)) fun p8 H8 _ e8 hp8 => ?_
  obtain ⟨k, hk, e⟩ := fmod_nat (h := h) (n := 41) (by decide)
  have hk' : k < (brokenW one other).length := hk
  refine s_ret (v := .str (brokenW one other)[k]) (ev_op (ev_var rfl) (ev_is (ev_op (ev_var rfl) ev_c (rv_R (by decide))) (congrArg V.int e)) (rv_ixLn (sq_of hp8) (strs_at' (List.getElem?_eq_getElem hk')))) fun H9 e9 => hq _ (List.getElem_mem hk') _ (((((((((e0.trans e1).trans e2).trans e3).trans e4).trans e5).trans e6).trans e7).trans e8).trans e9)
end
end KD
set_option maxHeartbeats 2000000
/-! the law's questions -/
namespace KD
open PySem PySem.Spec PyProof.Rows L2 Evl
section
variable {P : Program} {w : World} {K : PySem.W.Frag} {mg : Str → Option Value} {base : Heap}
def que0 (one other : Str) (n : Nat) : List Str := [(("walk " : Str) ++ one), (((("odd " : Str) ++ one) ++ (" " : Str)) ++ one), (("wanted" : Str) ++ (repS " 1" (n + 1))), (("wanted" : Str) ++ (repS " 25" n))]
def que1 (one other : Str) (n : Nat) : List Str := [((("wanted" : Str) ++ (repS " 1" (n - 1))) ++ (" -1" : Str)), ((("odd " : Str) ++ one) ++ (" zzzzzzzz" : Str)), (("walk " : Str) ++ one)]
def que2 (one other : Str) (n : Nat) : List Str := [(("wanted" : Str) ++ (repS " 1" (n - 1))), (((((("odd " : Str) ++ one) ++ (" " : Str)) ++ other) ++ (" " : Str)) ++ one)]
def questW (one other : Str) (n : Nat) : List Str := ((que0 one other n ++ que1 one other n) ++ que2 one other n)
def sp_l_question (K : PySem.W.Frag) : Sp := fun vs H Q _ => ∃ (a : Addr) (ns : List Str) (one other : Str) (h : Int), vs = [.ref a, .str one, .str other, .int h] ∧ SqL K H a (strsV ns) ∧ ns.length ≤ 50 ∧ one.length ≤ 8 ∧ other.length ≤ 8 ∧ h.natAbs < 2 ^ 60 ∧ ∀ z ∈ questW one other ns.length, RV1 (.str z) H Q
theorem ok_l_question (T : Txt w K mg) : Ok P w K mg base CX0 1 ("_law_question", none) ["_law_names", "_law_one", "_law_other", "_law_number_here"] (sp_l_question K) := by
  refine ok0 T.f_l_question sc_l_question (fun vs H Q E h => by obtain ⟨_, _, _, _, _, rfl, _⟩ := h; rfl) (fun _ _ _ _ _ _ us hl => match us, hl with | [_, _, _, _], _ => rfl) fun f cdv A outer s H vs Q E hr h => ?_
  have nd := sc_l_question.nd
  refine ⟨_, (pss_cons (ps_set (i := 4) nd rfl (Or.inl rfl) (pe_callB call_len_seq (by rfl) T.n_len (by decide +kernel) (pa_cons (pv 0) pa_nil)))
 (pss_cons (ps_set (i := 5) nd rfl (Or.inl rfl) (pe_lst (pa_cons (pe_op op_add_str pe_str (pv 1)) (pa_cons (pe_op op_add_str (pe_op op_add_str (pe_op op_add_str pe_str (pv 1)) pe_str) (pv 1)) (pa_cons (pe_op op_add_str pe_str (pe_op op_mulstr pe_str (pe_op op_add (pv 4) pe_int))) (pa_cons (pe_op op_add_str pe_str (pe_op op_mulstr pe_str (pv 4))) pa_nil))))))
 (pss_cons (ps_set (i := 5) nd rfl (Or.inl rfl) (pe_op op_cat (pv 5) (pe_lst (pa_cons (pe_op op_add_str (pe_op op_add_str pe_str (pe_op op_mulstr pe_str (pe_op op_sub (pv 4) pe_int))) pe_str) (pa_cons (pe_op op_add_str (pe_op op_add_str pe_str (pv 1)) pe_str) (pa_cons (pe_op op_add_str pe_str (pv 1)) pa_nil))))))
 (pss_cons (ps_set (i := 5) nd rfl (Or.inl rfl) (pe_op op_cat (pv 5) (pe_lst (pa_cons (pe_op op_add_str pe_str (pe_op op_mulstr pe_str (pe_op op_sub (pv 4) pe_int))) (pa_cons (pe_op op_add_str (pe_op op_add_str (pe_op op_add_str (pe_op op_add_str (pe_op op_add_str pe_str (pv 1)) pe_str) (pv 2)) pe_str) (pv 1)) pa_nil)))))
 (pss_one (ps_ret (pe_ix ix_list (pv 5) (pe_op op_modN (pv 3) pe_int) (fun _ _ => rfl)))))))), ?_⟩
  try dsimp only [cxOf, L2.Cx.nox, L2.Cx.blk]
  obtain ⟨a, ns, one, other, h, rfl, ha, hn, ho, hu, hh, hq⟩ := h
  generalize hN : ns.length = n at hn hq
  refine q_asg (v := .int (n : Int)) (ev_is (ev_cb (ea_cons (ev_var rfl) ea_nil) (rc_len ha)) (by rw [len_strs, hN])) fun Hx ex => ?_
  refine q_asgL (xs := strsV (que0 one other n)) (el_lst (by dsimp only [que0, strsV, List.map]; repeat' (first | exact ea_nil | apply ea_S | apply es_cat | exact es_c (by decide +kernel) | exact es_v rfl ho | exact es_v rfl hu | exact es_rep (ev_op (ev_var rfl) ev_c rv_I0) (by omega) (by omega) (by omega) (by decide +kernel) | exact es_rep (ev_var rfl) (by omega) (by omega) (by omega) (by decide +kernel) | decide)) (Nat.le_of_ble_eq_true rfl)) fun p0 H0 _ e0 hp0 => ?_
  refine q_asgL (xs := strsV ((que0 one other n) ++ que1 one other n)) (el_is (el_catL (ev_var rfl) (el_lst (vs := strsV (que1 one other n)) (by dsimp only [que1, strsV, List.map]; repeat' (first | exact ea_nil | apply ea_S | apply es_cat | exact es_c (by decide +kernel) | exact es_v rfl ho | exact es_v rfl hu | exact es_rep (ev_op (ev_var rfl) ev_c rv_I0) (by omega) (by omega) (by omega) (by decide +kernel) | exact es_rep (ev_var rfl) (by omega) (by omega) (by omega) (by decide +kernel) | decide)) (Nat.le_of_ble_eq_true rfl)) hp0 (Nat.le_of_ble_eq_true rfl)) (strsV_app ..)) fun p1 H1 _ e1 hp1 => ?_
  refine q_asgL (xs := strsV (((que0 one other n) ++ que1 one other n) ++ que2 one other n)) (el_is (el_catL (ev_var rfl) (el_lst (vs := strsV (que2 one other n)) (by dsimp only [que2, strsV, List.map]; repeat' (first | exact ea_nil | apply ea_S | apply es_cat | exact es_c (by decide +kernel) | exact es_v rfl ho | exact es_v rfl hu | exact es_rep (ev_op (ev_var rfl) ev_c rv_I0) (by omega) (by omega) (by omega) (by decide +kernel) | exact es_rep (ev_var rfl) (by omega) (by omega) (by omega) (by decide +kernel) | decide)) (Nat.le_of_ble_eq_true rfl)) hp1 (Nat.le_of_ble_eq_true rfl)) (strsV_app ..)) fun p2 H2 _ e2 hp2 => ?_
  obtain ⟨k, hk, e⟩ := fmod_nat (h := h) (n := 9) (by decide)
  have hk' : k < (questW one other n).length := hk
  refine s_ret (v := .str (questW one other n)[k]) (ev_op (ev_var rfl) (ev_is (ev_op (ev_var rfl) ev_c (rv_R (by decide))) (congrArg V.int e)) (rv_ixLn (sq_of hp2) (strs_at' (List.getElem?_eq_getElem hk')))) fun H9 e9 => hq _ (List.getElem_mem hk') _ ((((ex.trans e0).trans e1).trans e2).trans e9)
end
end KD
set_option maxHeartbeats 2000000
/-! the law's rows -/
namespace KD
open PySem PySem.Spec PyProof.Rows L2 Evl
section
variable {P : Program} {w : World} {K : PySem.W.Frag} {mg : Str → Option Value} {base : Heap}
theorem ep_op2 {r : R2} {ta tb : TE} {σ : L2.St} {H : Hp} {x : V} {Φ Ψ : V → Hp → Prop} (ha : Ev ta σ H x) (hb : EvP tb σ H Φ) (hr : ∀ v H1, Ex H H1 → Φ v H1 → ∃ z, RV r x v H1 z ∧ ∀ H2, Ex H1 H2 → Ψ z H2) : EvP (tOp r ta tb) σ H Ψ := fun H1 e Q q =>
  ha H1 e _ fun H2 e2 => hb H2 (e.trans e2) _ fun v H3 e3 hv => by
    obtain ⟨z, h1, h2⟩ := hr v H3 ((e.trans e2).trans e3) hv
    exact h1 H3 (Ex.refl _) _ fun H4 e4 => q z H4 ((e2.trans e3).trans e4) (h2 H4 e4)
inductive RowR (ns ps : List Str) : Bool → Str → Prop
  | point {f : Str} : f ∈ ps → RowR ns ps false ("point " ++ f)
  | tie {y z : Str} {h : Int} : y ∈ ns ∨ y ∈ ps → z ∈ ns ∨ z ∈ ps → h.natAbs < 10 ^ 60 → RowR ns ps false ("tie " ++ y ++ " " ++ z ++ " " ++ numS h)
  | untie {y z : Str} : y ∈ ns ∨ y ∈ ps → z ∈ ns ∨ z ∈ ps → RowR ns ps false ("untie " ++ y ++ " " ++ z)
  | gone {y : Str} : y ∈ ns ∨ y ∈ ps → RowR ns ps false ("gone " ++ y)
  | rename {y f : Str} : y ∈ ns ∨ y ∈ ps → f ∈ ps → RowR ns ps false ("rename " ++ y ++ " " ++ f)
  | form {z : Str} : z ∈ formsW → RowR ns ps true ("wanted" ++ repS z (max 1 ns.length))
  | broken {y z x : Str} : y ∈ ns ∨ y ∈ ps → z ∈ ns ∨ z ∈ ps → x ∈ brokenW y z → RowR ns ps true x
  | quest {y z x : Str} : y ∈ ns ∨ y ∈ ps → z ∈ ns ∨ z ∈ ps → x ∈ questW y z ns.length → RowR ns ps false x
def wayOf (c : Int) : Int := ((mixed c 1103515245).fdiv 16).fmod 18
structure LawNames (ns ps : List Str) : Prop where
  nm : ∀ z ∈ ns, isName z = true
  nl : ns.length ≤ 50
  pm : ∀ z ∈ ps, isName z = true
  p0 : 0 < ps.length
  pl : ps.length ≤ 1000
theorem LawNames.le {ns ps : List Str} (h : LawNames ns ps) {z : Str} (hz : z ∈ ns ∨ z ∈ ps) : z.length ≤ 8 := by
  have h1 : isName z = true := hz.elim (h.nm z) (h.pm z)
  unfold isName at h1
  simp only [Bool.and_eq_true, decide_eq_true_eq] at h1
  omega
def sp_l_row (K : PySem.W.Frag) : Sp := fun vs H Q _ => ∃ (a b : Addr) (ns ps : List Str) (c : Int), vs = [.ref a, .ref b, .int c] ∧ SqL K H a (strsV ns) ∧ SqL K H b (strsV ps) ∧ LawNames ns ps ∧ ∀ z, RowR ns ps (decide (wayOf c = 15)) z → RV1 (.str z) H Q
theorem ok_l_row (T : Txt w K mg) : Ok P w K mg base CX0 2 ("_law_row", none) ["_law_names", "_law_pool_here", "_law_cell"] (sp_l_row K) := by
  have c_l_mixed := ok_l_mixed (P := P) (base := base) T
  have c_l_named := ok_l_named (P := P) (base := base) T
  have c_l_number := ok_l_number (P := P) (base := base) T
  have c_l_form := ok_l_form (P := P) (base := base) T
  have c_l_broken := ok_l_broken (P := P) (base := base) T
  have c_l_question := ok_l_question (P := P) (base := base) T
  refine ok0 T.f_l_row sc_l_row (fun vs H Q E h => by obtain ⟨_, _, _, _, _, rfl, _⟩ := h; rfl) (fun _ _ _ _ _ _ us hl => match us, hl with | [_, _, _], _ => rfl) fun f cdv A outer s H vs Q E hr h => ?_
  have nd := sc_l_row.nd
  refine ⟨_, (pss_cons (ps_set (i := 3) nd rfl (Or.inl rfl) (pc c_l_mixed hr (by decide) T.g_l_mixed (pa_cons (pv 2) (pa_cons pe_int pa_nil))))
 (pss_cons (ps_set (i := 4) nd rfl (Or.inl rfl) (pc c_l_named hr (by decide) T.g_l_named (pa_cons (pv 0) (pa_cons (pv 1) (pa_cons (pe_op op_fdivN (pc c_l_mixed hr (by decide) T.g_l_mixed (pa_cons (pv 2) (pa_cons pe_int pa_nil))) pe_int) pa_nil)))))
 (pss_cons (ps_set (i := 5) nd rfl (Or.inl rfl) (pc c_l_named hr (by decide) T.g_l_named (pa_cons (pv 0) (pa_cons (pv 1) (pa_cons (pe_op op_fdivN (pc c_l_mixed hr (by decide) T.g_l_mixed (pa_cons (pv 2) (pa_cons pe_int pa_nil))) pe_int) pa_nil)))))
 (pss_cons (ps_set (i := 6) nd rfl (Or.inl rfl) (pe_ix ix_list (pv 1) (pe_op op_modN (pe_op op_fdivN (pc c_l_mixed hr (by decide) T.g_l_mixed (pa_cons (pv 2) (pa_cons pe_int pa_nil))) pe_int) (pe_callB call_len_seq (by rfl) T.n_len (by decide +kernel) (pa_cons (pv 1) pa_nil))) (fun _ _ => rfl)))
 (pss_cons (ps_set (i := 7) nd rfl (Or.inl rfl) (pe_op op_modN (pe_op op_fdivN (pv 3) pe_int) pe_int))
 (pss_cons (ps_if (pt_cmpR op_lt (pv 7) pe_int (nomark _)) (pss_one (ps_ret (pe_op op_add_str pe_str (pv 6)))) pss_nil)
 (pss_cons (ps_if (pt_cmpR op_lt (pv 7) pe_int (nomark _)) (pss_one (ps_ret (pe_op op_add_str (pe_op op_add_str (pe_op op_add_str (pe_op op_add_str (pe_op op_add_str pe_str (pv 4)) pe_str) (pv 5)) pe_str) (pc c_l_number hr (by decide) T.g_l_number (pa_cons (pv 2) pa_nil))))) pss_nil)
 (pss_cons (ps_if (pt_cmpR op_eq (pv 7) pe_int (nomark _)) (pss_one (ps_ret (pe_op op_add_str (pe_op op_add_str (pe_op op_add_str pe_str (pv 4)) pe_str) (pv 5)))) pss_nil)
 (pss_cons (ps_if (pt_cmpR op_eq (pv 7) pe_int (nomark _)) (pss_one (ps_ret (pe_op op_add_str pe_str (pv 4)))) pss_nil)
 (pss_cons (ps_if (pt_cmpR op_lt (pv 7) pe_int (nomark _)) (pss_one (ps_ret (pe_op op_add_str (pe_op op_add_str (pe_op op_add_str pe_str (pv 4)) pe_str) (pv 6)))) pss_nil)
 (pss_cons (ps_if (PW.pt (pw_and (pt_cmpR op_eq (pv 7) pe_int (nomark _)) (pw_and1 (pt_cmpR op_eq (pe_op op_modN (pe_op op_fdivN (pv 3) pe_int) pe_int) pe_int (nomark _))))) (pss_one (ps_ret (pc c_l_form hr (by decide) T.g_l_form (pa_cons (pv 0) (pa_cons (pe_op op_fdivN (pv 3) pe_int) pa_nil))))) pss_nil)
 (pss_cons (ps_if (pt_cmpR op_eq (pv 7) pe_int (nomark _)) (pss_one (ps_ret (pc c_l_broken hr (by decide) T.g_l_broken (pa_cons (pv 4) (pa_cons (pv 5) (pa_cons (pe_op op_fdivN (pv 3) pe_int) pa_nil)))))) pss_nil)
 (pss_one (ps_ret (pc c_l_question hr (by decide) T.g_l_question (pa_cons (pv 0) (pa_cons (pv 4) (pa_cons (pv 5) (pa_cons (pe_op op_fdivN (pv 3) pe_int) pa_nil))))))))))))))))))), ?_⟩
  try dsimp only [cxOf, L2.Cx.nox, L2.Cx.blk]
  obtain ⟨a, b, ns, ps, c, rfl, ha, hb, hl, hq⟩ := h
  have d8 : (8 : Int) ≠ 0 ∧ (8 : Int).natAbs < 1073741824 := ⟨by decide, by decide⟩
  have d288 : (288 : Int) ≠ 0 ∧ (288 : Int).natAbs < 1073741824 := ⟨by decide, by decide⟩
  have d2304 : (2304 : Int) ≠ 0 ∧ (2304 : Int).natAbs < 1073741824 := ⟨by decide, by decide⟩
  have d16 : (16 : Int) ≠ 0 ∧ (16 : Int).natAbs < 1073741824 := ⟨by decide, by decide⟩
  have mb := fun f => mixed_lt c f
  have b8 : ∀ f, ((mixed c f).fdiv 8).natAbs < 2 ^ 60 := fun f => by
    have := mb f
    have h1 : 0 ≤ (mixed c f).fdiv 8 := Int.fdiv_nonneg this.1 (by decide)
    have h2 : (mixed c f).fdiv 8 ≤ mixed c f := by
      rw [Int.fdiv_eq_ediv_of_nonneg _ (by decide)]
      omega
    omega
  have bX : ∀ d : Int, 0 < d → ((mixed c 1103515245).fdiv d).natAbs < 2 ^ 60 := fun d hd => by
    have := mb 1103515245
    have h1 : 0 ≤ (mixed c 1103515245).fdiv d := Int.fdiv_nonneg this.1 (by omega)
    have h2 : (mixed c 1103515245).fdiv d ≤ mixed c 1103515245 := by
      rw [Int.fdiv_eq_ediv_of_nonneg _ (by omega)]
      exact Int.ediv_le_self _ this.1
    omega
  have nmd : ∀ (σ : L2.St) (H1 : Hp) (i : Nat) (te : TE) (h : Int) , Ex H H1 → h.natAbs < 2 ^ 60 → SpP (sp_l_named K) [.ref a, .ref b, .int h] H1 (fun v _ => ∃ z, v = .str z ∧ (z ∈ ns ∨ z ∈ ps)) := fun σ H1 i te h e1 hh H2 e2 Q q E => ⟨a, b, ns, ps, h, rfl, ex_l (e1.trans e2) ha, ex_l (e1.trans e2) hb, hl.nm, by have := hl.nl; omega, hl.p0, hl.pl, hh, fun z hz H3 e3 => q _ H3 e3 ⟨z, rfl, hz⟩⟩
  refine q_asg (v := .int (mixed c 1103515245)) (ev_tC (ea_cons (ev_var rfl) (ea_cons ev_c ea_nil)) (spv_mixed (by decide))) fun H1 e1 => ?_
  refine q_asgP (ep_tC (ea_cons (ev_var rfl) (ea_cons (ev_var rfl) (ea_cons (ev_op (ev_tC (ea_cons (ev_var rfl) (ea_cons ev_c ea_nil)) (spv_mixed (by decide))) ev_c (rv_R d8)) ea_nil))) (nmd [] H1 0 (tVar 0) _ e1 (b8 _))) fun v H2 e2 hv => ?_
  obtain ⟨y, rfl, hy⟩ := hv
  refine q_asgP (ep_tC (ea_cons (ev_var rfl) (ea_cons (ev_var rfl) (ea_cons (ev_op (ev_tC (ea_cons (ev_var rfl) (ea_cons ev_c ea_nil)) (spv_mixed (by decide))) ev_c (rv_R d8)) ea_nil))) (nmd [] H2 0 (tVar 0) _ (e1.trans e2) (b8 _))) fun v H3 e3 hv => ?_
  obtain ⟨z, rfl, hz⟩ := hv
  have e13 := (e1.trans e2).trans e3
  have dn : (ps.length : Int) ≠ 0 := by have := hl.p0; omega
  obtain ⟨k, hk, ek⟩ := fmod_nat (h := (mixed c 630360016).fdiv 8) hl.p0
  refine q_asg (v := .str ps[k]) (ev_op (ev_var rfl) (ev_is (ev_op (ev_op (ev_tC (ea_cons (ev_var rfl) (ea_cons ev_c ea_nil)) (spv_mixed (by decide))) ev_c (rv_R d8)) (ev_is (ev_cb (ea_cons (ev_var rfl) ea_nil) (rc_len (ex_l e13 hb))) (by rw [len_strs])) (rv_R dn)) (congrArg V.int ek)) (rv_ixLn (ex_l e13 hb) (strs_at' (List.getElem?_eq_getElem hk)))) fun H4 e4 => ?_
  have hf : ps[k] ∈ ps := List.getElem_mem ..
  generalize ps[k] = f at hf ⊢
  have e14 := e13.trans e4
  refine q_asg (v := .int (wayOf c)) (ev_op (ev_op (ev_var rfl) ev_c (rv_R d16)) ev_c (rv_R (by decide))) fun H5 e5 => ?_
  have e15 := e14.trans e5
  have ly := hl.le hy
  have lz := hl.le hz
  have lf := hl.le (.inr hf)
  generalize hw : wayOf c = wy at hq ⊢
  refine q_when (b := decide (wy < 5)) (et_test (ev_op (ev_var rfl) ev_c rv_I0)) (fun h1 H6 e6 => ?_) (fun h1 H6 e6 => ?_)
  · have n15 : decide (wy = 15) = false := by
      have := of_decide_eq_true h1
      exact decide_eq_false (by omega)
    rw [n15] at hq
    exact s_ret (v := .str ("point " ++ f)) (by apply EvS.ev; repeat' (first | apply es_cat | exact es_c (by decide +kernel) | exact es_v rfl ly | exact es_v rfl lz | exact es_v rfl lf | decide)) fun H7 e7 => hq _ (.point hf) _ ((e15.trans e6).trans e7)
  have e16 := e15.trans e6
  refine q_when (b := decide (wy < 11)) (et_test (ev_op (ev_var rfl) ev_c rv_I0)) (fun h2 H7 e7 => ?_) (fun h2 H7 e7 => ?_)
  · have n15 : decide (wy = 15) = false := by
      have := of_decide_eq_true h2
      exact decide_eq_false (by omega)
    rw [n15] at hq
    have hm : SpP sp_l_number [.int c] H7 (fun v _ => ∃ h : Int, v = .str (numS h) ∧ h.natAbs < 10 ^ 60) := fun H8 e8 Q q E => ⟨c, rfl, fun h hh H9 e9 => q _ H9 e9 ⟨h, rfl, hh⟩⟩
    refine s_retP (Φ := fun v _ => ∃ h : Int, v = .str ("tie " ++ y ++ " " ++ z ++ " " ++ numS h) ∧ h.natAbs < 10 ^ 60) (ep_op2 (x := .str ("tie " ++ y ++ " " ++ z ++ " ")) (by apply EvS.ev; repeat' (first | apply es_cat | exact es_c (by decide +kernel) | exact es_v rfl ly | exact es_v rfl lz | exact es_v rfl lf | decide)) (ep_tC (ea_cons (ev_var rfl) ea_nil) hm) fun v H8 e8 hv => ?_) fun v H8 e8 hv => ?_
    · obtain ⟨h, rfl, hh⟩ := hv
      refine ⟨_, rv_addS ?_, fun H9 e9 => ⟨h, rfl, hh⟩⟩
      have := numS_len hh
      rw [len_app, len_app, len_app, len_app]
      have : ("tie " : Str).length = 4 := rfl
      have : (" " : Str).length = 1 := rfl
      unfold sizeLine
      omega
    · obtain ⟨h, rfl, hh⟩ := hv
      exact hq _ (.tie hy hz hh) _ ((e16.trans e7).trans e8)
  have e17 := e16.trans e7
  refine q_when (b := decide (wy = 11)) (et_test (ev_op (ev_var rfl) ev_c rv_eqI)) (fun h3 H8 e8 => ?_) (fun h3 H8 e8 => ?_)
  · have n15 : decide (wy = 15) = false := by
      have := of_decide_eq_true h3
      exact decide_eq_false (by omega)
    rw [n15] at hq
    exact s_ret (v := .str ("untie " ++ y ++ " " ++ z)) (by apply EvS.ev; repeat' (first | apply es_cat | exact es_c (by decide +kernel) | exact es_v rfl ly | exact es_v rfl lz | exact es_v rfl lf | decide)) fun H9 e9 => hq _ (.untie hy hz) _ ((e17.trans e8).trans e9)
  have e18 := e17.trans e8
  refine q_when (b := decide (wy = 12)) (et_test (ev_op (ev_var rfl) ev_c rv_eqI)) (fun h4 H9 e9 => ?_) (fun h4 H9 e9 => ?_)
  · have n15 : decide (wy = 15) = false := by
      have := of_decide_eq_true h4
      exact decide_eq_false (by omega)
    rw [n15] at hq
    exact s_ret (v := .str ("gone " ++ y)) (by apply EvS.ev; repeat' (first | apply es_cat | exact es_c (by decide +kernel) | exact es_v rfl ly | exact es_v rfl lz | exact es_v rfl lf | decide)) fun H10 e10 => hq _ (.gone hy) _ ((e18.trans e9).trans e10)
  have e19 := e18.trans e9
  refine q_when (b := decide (wy < 15)) (et_test (ev_op (ev_var rfl) ev_c rv_I0)) (fun h5 H10 e10 => ?_) (fun h5 H10 e10 => ?_)
  · have n15 : decide (wy = 15) = false := by
      have := of_decide_eq_true h5
      exact decide_eq_false (by omega)
    rw [n15] at hq
    exact s_ret (v := .str ("rename " ++ y ++ " " ++ f)) (by apply EvS.ev; repeat' (first | apply es_cat | exact es_c (by decide +kernel) | exact es_v rfl ly | exact es_v rfl lz | exact es_v rfl lf | decide)) fun H11 e11 => hq _ (.rename hy hf) _ ((e19.trans e10).trans e11)
  have e20 := e19.trans e10
  have l20 : ns.length ≤ 1000 := by have := hl.nl; omega
  refine q_when (b := decide (wy = 15) && decide ((((mixed c 1103515245).fdiv 288).fmod 8) = 0)) (et_and (et_test (ev_op (ev_var rfl) ev_c rv_eqI)) fun _ => et_test (ev_op (ev_op (ev_op (ev_var rfl) ev_c (rv_R d288)) ev_c (rv_R (by decide))) ev_c rv_eqI)) (fun h6 H11 e11 => ?_) (fun h6 H11 e11 => ?_)
  · rw [Bool.and_eq_true] at h6
    rw [h6.1] at hq
    have hm : SpP (sp_l_form K) [.ref a, .int ((mixed c 1103515245).fdiv 2304)] H11 (fun v _ => ∃ x, v = .str ("wanted" ++ repS x (max 1 ns.length)) ∧ x ∈ formsW) := fun H12 e12 Q q E => ⟨a, ns, _, rfl, ex_l ((e20.trans e11).trans e12) ha, l20, bX _ (by decide), fun x hx H13 e13 => q _ H13 e13 ⟨x, rfl, hx⟩⟩
    refine s_retP (ep_tC (ea_cons (ev_var rfl) (ea_cons (ev_op (ev_var rfl) ev_c (rv_R d2304)) ea_nil)) hm) fun v H12 e12 hv => ?_
    obtain ⟨x, rfl, hx⟩ := hv
    exact hq _ (.form hx) _ ((e20.trans e11).trans e12)
  have e21 := e20.trans e11
  refine q_when (b := decide (wy = 15)) (et_test (ev_op (ev_var rfl) ev_c rv_eqI)) (fun h7 H12 e12 => ?_) (fun h7 H12 e12 => ?_)
  · rw [h7] at hq
    have hm : SpP sp_l_broken [.str y, .str z, .int ((mixed c 1103515245).fdiv 288)] H12 (fun v _ => ∃ x, v = .str x ∧ x ∈ brokenW y z) := fun H13 e13 Q q E => ⟨y, z, _, rfl, ly, lz, bX _ (by decide), fun x hx H14 e14 => q _ H14 e14 ⟨x, rfl, hx⟩⟩
    refine s_retP (ep_tC (ea_cons (ev_var rfl) (ea_cons (ev_var rfl) (ea_cons (ev_op (ev_var rfl) ev_c (rv_R d288)) ea_nil))) hm) fun v H13 e13 hv => ?_
    obtain ⟨x, rfl, hx⟩ := hv
    exact hq _ (.broken hy hz hx) _ ((e21.trans e12).trans e13)
  · rw [h7] at hq
    have e22 := e21.trans e12
    have hm : SpP (sp_l_question K) [.ref a, .str y, .str z, .int ((mixed c 1103515245).fdiv 288)] H12 (fun v _ => ∃ x, v = .str x ∧ x ∈ questW y z ns.length) := fun H13 e13 Q q E => ⟨a, ns, y, z, _, rfl, ex_l (e22.trans e13) ha, hl.nl, ly, lz, bX _ (by decide), fun x hx H14 e14 => q _ H14 e14 ⟨x, rfl, hx⟩⟩
    refine s_retP (ep_tC (ea_cons (ev_var rfl) (ea_cons (ev_var rfl) (ea_cons (ev_var rfl) (ea_cons (ev_op (ev_var rfl) ev_c (rv_R d288)) ea_nil)))) hm) fun v H13 e13 hv => ?_
    obtain ⟨x, rfl, hx⟩ := hv
    exact hq _ (.quest hy hz hx) _ (e22.trans e13)
end
end KD
set_option maxHeartbeats 2000000
/-! the law's pool -/
namespace KD
open PySem PySem.Spec PyProof.Rows L2 Evl TL
section
variable {P : Program} {w : World} {K : PySem.W.Frag} {mg : Str → Option Value} {base : Heap}
theorem mul_ok {i j : Int} (hi : i.natAbs < 1000) (hj : j.natAbs < 1000) : CMul i j := by
  left
  omega
/-- lower letters only -/
def Low (z : Str) : Prop := ∀ c ∈ z.cps.toList, c ∈ lets.cps.toList
theorem low_app {a b : Str} (ha : Low a) (hb : Low b) : Low (a ++ b) := fun c hc => by
  have h : c ∈ tl (a ++ b) := hc
  rw [tl_append] at h
  exact (List.mem_append.mp h).elim (ha c) (hb c)
theorem low_cut {a : Str} (ha : Low a) (lo hi : Option Int) : Low (cutS a lo hi) := fun c hc => by
  have h : c ∈ (a.cps.toList.drop (HT.sIx a.length 0 lo)).take (HT.sIx a.length a.length hi - HT.sIx a.length 0 lo) := hc
  exact ha c (List.mem_of_mem_drop (List.mem_of_mem_take h))
theorem isName_iff {z : Str} : isName z = true ↔ (1 ≤ z.length ∧ z.length ≤ 8) ∧ Low z := by
  unfold isName Low
  rw [Bool.and_eq_true, Bool.and_eq_true, List.all_eq_true]
  simp only [decide_eq_true_eq]
  constructor
  · rintro ⟨⟨h1, h2⟩, h3⟩
    exact ⟨⟨by omega, by omega⟩, h3⟩
  · rintro ⟨⟨h1, h2⟩, h3⟩
    exact ⟨⟨by omega, by omega⟩, h3⟩
structure PoolOk (ps : List Str) : Prop where
  pm : ∀ z ∈ ps, isName z = true
  p2 : 2 ≤ ps.length
  pl : ps.length ≤ 20
def sp_l_pool : Sp := fun vs H Q _ => ∃ (n : Int) (m : Nat), vs = [.int n, .int (m : Int)] ∧ 0 ≤ n ∧ n < 2147483647 ∧ 2 ≤ m ∧ m ≤ 20 ∧ ∀ (p : Addr) (ps : List Str) (H' : Hp), H p = none → Ex H H' → H' p = some (.lst (strsV ps)) → PoolOk ps → Q (.ref p) H'
theorem ok_l_pool (T : Txt w K mg) : Ok P w K mg base CX0 2 ("_law_pool", none) ["_law_number_here", "_law_many"] sp_l_pool := by
  have c_l_mixed := ok_l_mixed (P := P) (base := base) T
  refine ok0 T.f_l_pool sc_l_pool (fun vs H Q E h => by obtain ⟨_, _, rfl, _⟩ := h; rfl) (fun _ _ _ _ _ _ us hl => match us, hl with | [_, _], _ => rfl) fun f cdv A outer s H vs Q E hr h => ?_
  have nd := sc_l_pool.nd
  refine ⟨_, (pss_cons (ps_set (i := 2) nd rfl (Or.inl rfl) pe_str)
 (pss_cons (ps_set (i := 3) nd rfl (Or.inl rfl) (pe_lst (pa_cons pe_str (pa_cons pe_str pa_nil))))
 (pss_cons (ps_for PassesOwn.never rfl (pi_range1 (by rfl) T.n_range (pa_cons (pe_op op_mul pe_int (pv 1)) pa_nil)) (pg_name (i := 4) nd rfl (Or.inl rfl)) (pss_cons (ps_set (i := 0) nd rfl (Or.inl rfl) (pc c_l_mixed hr (by decide) T.g_l_mixed (pa_cons (pe_op op_add (pv 0) (pe_op op_mul (pv 4) (pv 4))) (pa_cons pe_int pa_nil))))
 (pss_cons (ps_set (i := 5) nd rfl (Or.inl rfl) (pe_ix ix_list (pv 3) (pe_op op_modN (pe_op op_fdivN (pv 0) pe_int) (pe_callB call_len_seq (by rfl) T.n_len (by decide +kernel) (pa_cons (pv 3) pa_nil))) (fun _ _ => rfl)))
 (pss_cons (ps_set (i := 6) nd rfl (Or.inl rfl) (pe_op op_modN (pe_op op_fdivN (pv 0) pe_int) (pe_callB call_len_str (by rfl) T.n_len (by decide +kernel) (pa_cons (pv 5) pa_nil))))
 (pss_cons (ps_set (i := 7) nd rfl (Or.inl rfl) (pe_ix ix_str (pv 2) (pe_op op_modN (pe_op op_fdivN (pv 0) pe_int) pe_int) (fun _ _ => rfl)))
 (pss_cons (ps_set (i := 5) nd rfl (Or.inl rfl) (pe_ix ix_list (pe_lst (pa_cons (pe_op op_add_str (pv 5) (pv 7)) (pa_cons (pe_op op_add_str (pe_op op_add_str (pe_slice sl_str (pv 5) po_none (po_some (pv 6))) (pv 7)) (pe_slice sl_str (pv 5) (po_some (pe_op op_add (pv 6) pe_int)) po_none)) (pa_cons (pe_op op_add_str (pv 7) (pv 5)) pa_nil)))) (pe_op op_modN (pv 0) pe_int) (fun _ _ => rfl)))
 (pss_one (ps_if (PW.pt (pw_and (pt_cmpR op_lt (pe_callB call_len_str (by rfl) T.n_len (by decide +kernel) (pa_cons (pv 5) pa_nil)) pe_int (nomark _)) (pw_and (pt_cmpR op_notIn_seq (pv 5) (pv 3) rfl) (pw_and1 (pt_cmpR op_lt (pe_callB call_len_seq (by rfl) T.n_len (by decide +kernel) (pa_cons (pv 3) pa_nil)) (pv 1) (nomark _)))))) (pss_one (ps_expr (pe_bm PySem.F.plainAttrs_list PySem.F.slot_list_append PySem.F.type_list_append mt_append (pv 3) (pa_cons (pv 5) pa_nil)))) pss_nil))))))))
 (pss_one (ps_ret (pv 3)))))), ?_⟩
  try dsimp only [cxOf, L2.Cx.nox, L2.Cx.blk]
  obtain ⟨n, m, rfl, n0, n1, m2, ml, hq⟩ := h
  refine q_asg (v := .str lets) ev_c fun Ha ea => ?_
  refine q_asgL (xs := strsV ["ab", "a"]) (el_lst (ea_cons ev_c (ea_cons ev_c ea_nil)) (Nat.le_of_ble_eq_true rfl)) fun th H1 t0 e1 ht => ?_
  have t0 : H th = none := fresh_back ea t0
  refine q_forR1 (n := 6 * (m : Int)) (ea_cons (ev_op ev_c (ev_var rfl) (rv_R (i := 6) (j := (m : Int)) (mul_ok (by decide) (by omega)))) ea_nil) (by omega) (fun i σ' H' => (∃ (x : Int) (k q r s : Option V), σ' = [some (.int x), some (.int (m : Int)), some (.str lets), some (.ref th), k, q, r, s] ∧ 0 ≤ x ∧ x < 2147483647) ∧ Ex H H' ∧ ∃ ps, H' th = some (.lst (strsV ps)) ∧ PoolOk ps) (fun H2 e2 => ⟨⟨n, none, none, none, none, rfl, n0, n1⟩, (ea.trans e1).trans e2, ["ab", "a"], e2 _ _ ht, by decide +kernel, by decide, by decide⟩) (fun i σ' H' hi pv => ?_) (fun σ' H' pv => ?_)
  · obtain ⟨⟨x, k0, q0, r0, s0, rfl, x0, x1⟩, pe, ps, pt, pk⟩ := pv
    have hii : (i : Int) * (i : Int) ≤ 200 * 200 := Int.mul_le_mul (by omega) (by omega) (by omega) (by omega)
    have hi0 : 0 ≤ (i : Int) * (i : Int) := Int.mul_nonneg (by omega) (by omega)
    have d16 : (16 : Int) ≠ 0 ∧ (16 : Int).natAbs < 1073741824 := ⟨by decide, by decide⟩
    have d128 : (128 : Int) ≠ 0 ∧ (128 : Int).natAbs < 1073741824 := ⟨by decide, by decide⟩
    have d2048 : (2048 : Int) ≠ 0 ∧ (2048 : Int).natAbs < 1073741824 := ⟨by decide, by decide⟩
    refine q_asg (v := .int (mixed (x + (i : Int) * (i : Int)) 630360016)) (ev_tC (ea_cons (ev_op (ev_var rfl) (ev_op (ev_var rfl) (ev_var rfl) (rv_R (i := (i : Int)) (j := (i : Int)) (mul_ok (by omega) (by omega)))) rv_I0) (ea_cons ev_c ea_nil)) (spv_mixed (by decide))) fun H2 e2 => ?_
    obtain ⟨y0, y1⟩ := mixed_lt (x + (i : Int) * (i : Int)) 630360016
    generalize mixed (x + (i : Int) * (i : Int)) 630360016 = y at y0 y1 ⊢
    have pt2 := e2 _ _ pt
    obtain ⟨k, hk, ek⟩ := fmod_nat (h := y.fdiv 16) (n := ps.length) (by have := pk.p2; omega)
    have dn : (ps.length : Int) ≠ 0 := by have := pk.p2; omega
    refine q_asg (v := .str ps[k]) (ev_op (ev_var rfl) (ev_is (ev_op (ev_op (ev_var rfl) ev_c (rv_R d16)) (ev_is (ev_cb (ea_cons (ev_var rfl) ea_nil) (rc_len (sq_of pt2))) (by rw [len_strs])) (rv_R dn)) (congrArg V.int ek)) (rv_ixLn (sq_of pt2) (strs_at' (List.getElem?_eq_getElem hk)))) fun H3 e3 => ?_
    obtain ⟨⟨w1, w8⟩, wl⟩ := isName_iff.mp (pk.pm ps[k] (List.getElem_mem ..))
    generalize ps[k] = wd at w1 w8 wl ⊢
    obtain ⟨a, ha, ea'⟩ := fmod_nat (h := y.fdiv 128) (n := wd.length) (by omega)
    have dw : (wd.length : Int) ≠ 0 := by omega
    have wz : wd.length ≤ sizeLine := Nat.le_trans w8 (by decide)
    refine q_asg (v := .int (a : Int)) (ev_is (ev_op (ev_op (ev_var rfl) ev_c (rv_R d128)) (ev_cb (ea_cons (ev_var rfl) ea_nil) (rc_lenS wz)) (rv_R dw)) (congrArg V.int ea')) fun H4 e4 => ?_
    obtain ⟨b, hb, eb⟩ := fmod_nat (h := y.fdiv 2048) (n := 26) (by decide)
    have hb' : b < lets.cps.toList.length := hb
    refine q_asg (v := .str ⟨#[lets.cps.toList[b]]⟩) (ev_op (ev_var rfl) (ev_is (ev_op (ev_op (ev_var rfl) ev_c (rv_R d2048)) ev_c (rv_R (by decide))) (congrArg V.int eb)) (rv_ixS (by decide) (atI_nat (List.getElem?_eq_getElem hb')))) fun H5 e5 => ?_
    have ll : Low ⟨#[lets.cps.toList[b]]⟩ := fun c hc => by
      have : c = lets.cps.toList[b] := by simpa using hc
      rw [this]
      exact List.getElem_mem ..
    have l1 : (⟨#[lets.cps.toList[b]]⟩ : Str).length = 1 := rfl
    generalize (⟨#[lets.cps.toList[b]]⟩ : Str) = lt at ll l1 ⊢
    have pt5 := e5 _ _ (e4 _ _ (e3 _ _ pt2))
    have lc1 := cutS_length wd none (some (a : Int))
    have lc2 := cutS_length wd (some ((a : Int) + 1)) none
    have big : (1000 : Nat) ≤ sizeLine := by decide
    obtain ⟨j, hj, ej⟩ := fmod_nat (h := y) (n := 3) (by decide)
    let us : List Str := [wd ++ lt, cutS wd none (some (a : Int)) ++ lt ++ cutS wd (some ((a : Int) + 1)) none, lt ++ wd]
    have hj' : j < us.length := hj
    have hu : ∀ u ∈ us, Low u ∧ 1 ≤ u.length ∧ u.length ≤ 30 := fun u hu => by
      have hu : u ∈ [wd ++ lt, cutS wd none (some (a : Int)) ++ lt ++ cutS wd (some ((a : Int) + 1)) none, lt ++ wd] := hu
      simp only [List.mem_cons, List.not_mem_nil, or_false] at hu
      rcases hu with rfl | rfl | rfl
      · exact ⟨low_app wl ll, by rw [len_app]; omega, by rw [len_app]; omega⟩
      · exact ⟨low_app (low_app (low_cut wl _ _) ll) (low_cut wl _ _), by rw [len_app, len_app]; omega, by rw [len_app, len_app]; omega⟩
      · exact ⟨low_app ll wl, by rw [len_app]; omega, by rw [len_app]; omega⟩
    refine q_asg (v := .str us[j]) (ev_opL1 (xs := strsV us) (y := .int (j : Int)) (el_lst (ea_cons (ev_op (ev_var rfl) (ev_var rfl) (rv_addS (by omega))) (ea_cons (ev_op (ev_op (ev_slS (ev_var rfl) eo_none (eo_some (ev_var rfl)) wz) (ev_var rfl) (rv_addS (by omega))) (ev_slS (ev_var rfl) (eo_some (ev_op (ev_var rfl) ev_c rv_I0)) eo_none wz) (rv_addS (by rw [len_app]; omega))) (ea_cons (ev_op (ev_var rfl) (ev_var rfl) (rv_addS (by omega))) ea_nil))) (Nat.le_of_ble_eq_true rfl)) (fun H6 e6 => ev_is (ev_op (ev_var rfl) ev_c (rv_R (by decide))) (congrArg V.int ej)) fun p H6 hp e6 => rv_ixLn (sq_of hp) (strs_at' (List.getElem?_eq_getElem hj'))) fun H6 e6 => ?_
    obtain ⟨ul, u1, u30⟩ := hu us[j] (List.getElem_mem hj')
    generalize us[j] = u at ul u1 u30 ⊢
    have pt6 := e6 _ _ pt5
    have pe6 : Ex H H6 := ((((pe.trans e2).trans e3).trans e4).trans e5).trans e6
    refine s_when (b := decide ((u.length : Int) < 9) && (!decide (u ∈ ps) && decide ((ps.length : Int) < (m : Int)))) (et_and (et_test (ev_op (ev_cb (ea_cons (ev_var rfl) ea_nil) (rc_lenS (by omega))) ev_c rv_I0)) fun _ => et_and (et_test (ev_is (ev_op (ev_var rfl) (ev_var rfl) (rv_inL (neg := true) (sq_of pt6) rfl (flat_strs _))) (by rw [inV_strs]; rfl))) fun _ => et_test (ev_op (ev_is (ev_cb (ea_cons (ev_var rfl) ea_nil) (rc_len (sq_of pt6))) (by rw [len_strs])) (ev_var rfl) rv_I0)) (fun hb7 H7 e7 => ?_) (fun hb7 H7 e7 => ?_)
    · simp only [Bool.and_eq_true, decide_eq_true_eq] at hb7
      refine s_app (l := th) (v := .str u) (e7 _ _ pt6) (ev_var rfl) (ev_var rfl) (by rw [len_strs]; have := pk.pl; omega) fun H8 e8 => ?_
      refine ⟨⟨y, _, _, _, _, rfl, y0, y1⟩, fun b o hb => ?_, ps ++ [u], ?_, ?_⟩
      · rw [upd_ne (ne_of_none hb t0)]
        exact e8 _ _ (e7 _ _ (pe6 _ _ hb))
      · rw [upd_same]
        unfold strsV
        rw [List.map_append]
        rfl
      · refine ⟨fun z hz => ?_, ?_, ?_⟩
        · rcases List.mem_append.mp hz with hz | hz
          · exact pk.pm z hz
          · rw [List.mem_singleton.mp hz]
            exact isName_iff.mpr ⟨⟨u1, by omega⟩, ul⟩
        · rw [List.length_append]
          have := pk.p2
          omega
        · rw [List.length_append, List.length_singleton]
          omega
    · exact ⟨⟨y, _, _, _, _, rfl, y0, y1⟩, pe6.trans e7, ps, e7 _ _ pt6, pk⟩
  · obtain ⟨⟨x, k0, q0, r0, s0, rfl, x0, x1⟩, pe, ps, pt, pk⟩ := pv
    exact s_ret (v := .ref th) (ev_var rfl) fun H2 e2 => hq th ps H2 t0 (pe.trans e2) (e2 _ _ pt) pk
end
end KD
set_option maxHeartbeats 2000000
/-! what the law holds due for a change -/
namespace KD
open PySem PySem.Spec PyProof.Rows L2 Evl
section
variable {P : Program} {w : World} {K : PySem.W.Frag} {mg : Str → Option Value} {base : Heap}
/-- the law's ties: two names and a weight -/
abbrev LTie := Str × Str × Int
def ks (a b : Str) : List Key := [.inr a, .inr b]
def lawT (L : List LTie) : List (List Key × V) := L.map fun t => (ks t.1 t.2.1, .int t.2.2)
def hasL (L : List LTie) (a b : Str) : Bool := (valV (lawT L) (ks a b)).isSome
def dueOf (ns : List Str) (L : List LTie) (w0 w1 w2 : Str) : Str :=
  if w0 = "point" then (if ns.length = 12 then (if w1 ∈ ns then "taken" else "many") else if w1 ∈ ns then "taken" else "ok")
  else if w0 = "rename" then (if w1 ∈ ns then (if w2 ∈ ns then "taken" else "ok") else "name")
  else if !decide (w1 ∈ ns) || (!decide (w0 = "gone") && !decide (w2 ∈ ns)) then "name"
  else if !decide (w0 = "gone") && decide (w1 = w2) then "bad"
  else if decide (w0 = "untie") && (!hasL L w1 w2 && !hasL L w2 w1) then "none" else "ok"
section
variable {te ta tb : TE} {σ : L2.St} {H : Hp}
theorem ev_wd {b : Addr} {ws : List Str} {z : Str} (j : Nat) {i : Int} (h : Ev te σ H (.ref b)) (hb : SqL K H b (strsV ws)) (hz : ws[j]? = some z) (e : i = (j : Int)) : Ev (tOp (rIxL K) te (L2.tC (.int i))) σ H (.str z) := by
  subst e
  exact ev_op h ev_c (rv_ixLn hb (strs_at' hz))
theorem ev_inS {a : Addr} {ns : List Str} {z : Str} (h : Ev te σ H (.str z)) (ho : Ev ta σ H (.ref a)) (hn : SqL K H a (strsV ns)) : Ev (tOp (rIn K false) te ta) σ H (.bl (decide (z ∈ ns))) :=
  ev_is (ev_op h ho (rv_inL (neg := false) hn rfl (flat_strs _))) (by rw [inV_strs]; rfl)
theorem ev_ninS {a : Addr} {ns : List Str} {z : Str} (h : Ev te σ H (.str z)) (ho : Ev ta σ H (.ref a)) (hn : SqL K H a (strsV ns)) : Ev (tOp (rIn K true) te ta) σ H (.bl (!decide (z ∈ ns))) :=
  ev_is (ev_op h ho (rv_inL (neg := true) hn rfl (flat_strs _))) (by rw [inV_strs]; rfl)
end
def sp_l_due (K : PySem.W.Frag) : Sp := fun vs H Q _ => ∃ (a d b : Addr) (ns : List Str) (L : List LTie) (w0 w1 : Str) (rest : List Str), vs = [.ref a, .ref d, .ref b] ∧ SqL K H a (strsV ns) ∧ H d = some (.dT (lawT L)) ∧ SqL K H b (strsV (w0 :: w1 :: rest)) ∧ (w0 = "point" ∨ w0 = "gone" ∨ rest ≠ []) ∧ RV1 (.str (dueOf ns L w0 w1 (rest.headD ""))) H Q
theorem ok_l_due (T : Txt w K mg) : Ok P w K mg base CX0 1 ("_law_due", none) ["_law_names", "_law_table", "_law_words"] (sp_l_due K) := by
  refine ok0 T.f_l_due sc_l_due (fun vs H Q E h => by obtain ⟨_, _, _, _, _, _, _, _, rfl, _⟩ := h; rfl) (fun _ _ _ _ _ _ us hl => match us, hl with | [_, _, _], _ => rfl) fun f cdv A outer s H vs Q E hr h => ?_
  have nd := sc_l_due.nd
  have hu := hu_of hr
  refine ⟨_, (pss_cons (ps_if (pt_cmpR op_eq (pe_ix ix_list (pv 2) pe_int (fun _ _ => rfl)) pe_str (nomark _)) (pss_one (ps_ret (pe_ix ix_list (pe_lst (pa_cons pe_str (pa_cons pe_str (pa_cons pe_str (pa_cons pe_str pa_nil))))) (pe_op op_add (pe_callTy call_int1 (by rfl) T.n_int (by decide +kernel) (pa_cons (pe_cmpR op_in_seq (pe_ix ix_list (pv 2) pe_int (fun _ _ => rfl)) (pv 0) rfl) pa_nil)) (pe_op op_mul pe_int (pe_callTy call_int1 (by rfl) T.n_int (by decide +kernel) (pa_cons (pe_cmpR op_eq (pe_callB call_len_seq (by rfl) T.n_len (by decide +kernel) (pa_cons (pv 0) pa_nil)) pe_int (nomark _)) pa_nil)))) (fun _ _ => rfl)))) pss_nil)
 (pss_cons (ps_if (pt_cmpR op_eq (pe_ix ix_list (pv 2) pe_int (fun _ _ => rfl)) pe_str (nomark _)) (pss_cons (ps_if (pt_cmpR op_notIn_seq (pe_ix ix_list (pv 2) pe_int (fun _ _ => rfl)) (pv 0) rfl) (pss_one (ps_ret pe_str)) pss_nil)
 (pss_one (ps_ret (pe_ix ix_list (pe_lst (pa_cons pe_str (pa_cons pe_str pa_nil))) (pe_callTy call_int1 (by rfl) T.n_int (by decide +kernel) (pa_cons (pe_cmpR op_in_seq (pe_ix ix_list (pv 2) pe_int (fun _ _ => rfl)) (pv 0) rfl) pa_nil)) (fun _ _ => rfl))))) pss_nil)
 (pss_cons (ps_if (PW.pt (pw_or (pt_cmpR op_notIn_seq (pe_ix ix_list (pv 2) pe_int (fun _ _ => rfl)) (pv 0) rfl) (pw_or1 (PW.pt (pw_and (pt_cmpR op_ne (pe_ix ix_list (pv 2) pe_int (fun _ _ => rfl)) pe_str (nomark _)) (pw_and1 (pt_cmpR op_notIn_seq (pe_ix ix_list (pv 2) pe_int (fun _ _ => rfl)) (pv 0) rfl))))))) (pss_one (ps_ret pe_str)) pss_nil)
 (pss_cons (ps_if (PW.pt (pw_and (pt_cmpR op_ne (pe_ix ix_list (pv 2) pe_int (fun _ _ => rfl)) pe_str (nomark _)) (pw_and1 (pt_cmpR op_eq (pe_ix ix_list (pv 2) pe_int (fun _ _ => rfl)) (pe_ix ix_list (pv 2) pe_int (fun _ _ => rfl)) (nomark _))))) (pss_one (ps_ret pe_str)) pss_nil)
 (pss_cons (ps_if (PW.pt (pw_and (pt_cmpR op_eq (pe_ix ix_list (pv 2) pe_int (fun _ _ => rfl)) pe_str (nomark _)) (pw_and (pt_cmp (pc_dnotin hu (pe_tup (pa_cons (pe_ix ix_list (pv 2) pe_int (fun _ _ => rfl)) (pa_cons (pe_ix ix_list (pv 2) pe_int (fun _ _ => rfl)) pa_nil))) (pv 1))) (pw_and1 (pt_cmp (pc_dnotin hu (pe_tup (pa_cons (pe_ix ix_list (pv 2) pe_int (fun _ _ => rfl)) (pa_cons (pe_ix ix_list (pv 2) pe_int (fun _ _ => rfl)) pa_nil))) (pv 1))))))) (pss_one (ps_ret pe_str)) pss_nil)
 (pss_one (ps_ret pe_str))))))), ?_⟩
  try dsimp only [cxOf, L2.Cx.nox, L2.Cx.blk]
  obtain ⟨a, d, b, ns, L, w0, w1, rest, rfl, ha, hd, hb, hw, hq⟩ := h
  refine q_when (b := decide (w0 = "point")) (et_test (ev_op (ev_wd 0 (ev_var rfl) hb rfl rfl) ev_c rv_eqS)) (fun hb1 H1 e1 => ?_) (fun hb1 H1 e1 => ?_)
  · have h0 := of_decide_eq_true hb1
    have ha1 := ex_l e1 ha
    have hb2 := ex_l e1 hb
    let us : List Str := ["ok", "taken", "many", "taken"]
    let j : Nat := (if w1 ∈ ns then 1 else 0) + 2 * (if ns.length = 12 then 1 else 0)
    have hj : us[j]? = some (dueOf ns L w0 w1 (rest.headD "")) := by
      unfold dueOf
      rw [if_pos h0]
      by_cases c1 : w1 ∈ ns <;> by_cases c2 : ns.length = 12 <;> simp only [us, j, if_pos, if_neg, c1, c2, if_true, if_false] <;> rfl
    have hz : ((if decide (w1 ∈ ns) = true then 1 else 0) + 2 * (if decide (((strsV ns).length : Int) = 12) = true then 1 else 0) : Int) = (j : Int) := by
      rw [len_strs]
      by_cases c1 : w1 ∈ ns <;> by_cases c2 : ns.length = 12
      · simp [j, c1, c2]
      · have : ¬ (ns.length : Int) = 12 := by omega
        simp [j, c1, c2, this]
      · simp [j, c1, c2]
      · have : ¬ (ns.length : Int) = 12 := by omega
        simp [j, c1, c2, this]
    refine s_ret (v := .str (dueOf ns L w0 w1 (rest.headD ""))) (ev_opL1 (xs := strsV us) (y := .int (j : Int)) (el_lst (ea_cons ev_c (ea_cons ev_c (ea_cons ev_c (ea_cons ev_c ea_nil)))) (Nat.le_of_ble_eq_true rfl)) (fun H2 e2 => ev_is (ev_op (ev_cb (ea_cons (ev_inS (ev_wd 1 (ev_var rfl) (ex_l e2 hb2) rfl rfl) (ev_var rfl) (ex_l e2 ha1)) ea_nil) rc_intB) (ev_op ev_c (ev_cb (ea_cons (ev_op (ev_cb (ea_cons (ev_var rfl) ea_nil) (rc_len (ex_l e2 ha1))) ev_c rv_eqI) ea_nil) rc_intB) (rv_R (.inl ⟨by decide, by decide⟩))) rv_I0) (congrArg V.int hz)) fun p H2 hp e2 => rv_ixLn (sq_of hp) (strs_at' hj)) fun H2 e2 => hq _ (e1.trans e2)
  have n0 := of_decide_eq_false hb1
  have ha1 := ex_l e1 ha
  have hb1' := ex_l e1 hb
  have hd1 := e1 _ _ hd
  refine q_when (b := decide (w0 = "rename")) (et_test (ev_op (ev_wd 0 (ev_var rfl) hb1' rfl rfl) ev_c rv_eqS)) (fun hb2 H2 e2 => ?_) (fun hb2 H2 e2 => ?_)
  · have h2 := of_decide_eq_true hb2
    have hne : rest ≠ [] := by
      rcases hw with h | h | h
      · exact absurd h n0
      · rw [h2] at h
        exact absurd h (by decide)
      · exact h
    obtain ⟨w2, r, rfl⟩ := List.exists_cons_of_ne_nil hne
    have ha2 := ex_l e2 ha1
    have hb3 := ex_l e2 hb1'
    refine q_when (b := !decide (w1 ∈ ns)) (et_test (ev_ninS (ev_wd 1 (ev_var rfl) hb3 rfl rfl) (ev_var rfl) ha2)) (fun hc H3 e3 => ?_) (fun hc H3 e3 => ?_)
    · have : dueOf ns L w0 w1 ((w2 :: r).headD "") = "name" := by
        unfold dueOf
        rw [if_neg n0, if_pos h2, if_neg (by simpa using hc)]
      rw [this] at hq
      exact s_ret (v := .str "name") ev_c fun H4 e4 => hq _ (((e1.trans e2).trans e3).trans e4)
    · let us : List Str := ["ok", "taken"]
      let j : Nat := if w2 ∈ ns then 1 else 0
      have hj : us[j]? = some (dueOf ns L w0 w1 ((w2 :: r).headD "")) := by
        unfold dueOf
        rw [if_neg n0, if_pos h2, if_pos (by simpa using hc)]
        by_cases c1 : w2 ∈ ns <;> simp only [us, j, List.headD_cons, c1, if_true, if_false] <;> rfl
      have hz : (if decide (w2 ∈ ns) = true then 1 else 0 : Int) = (j : Int) := by
        by_cases c1 : w2 ∈ ns <;> simp [j, c1]
      exact s_ret (v := .str (dueOf ns L w0 w1 ((w2 :: r).headD ""))) (ev_opL1 (xs := strsV us) (y := .int (j : Int)) (el_lst (ea_cons ev_c (ea_cons ev_c ea_nil)) (Nat.le_of_ble_eq_true rfl)) (fun H4 e4 => ev_is (ev_cb (ea_cons (ev_inS (ev_wd 2 (ev_var rfl) (ex_l (e3.trans e4) hb3) rfl rfl) (ev_var rfl) (ex_l (e3.trans e4) ha2)) ea_nil) rc_intB) (congrArg V.int hz)) fun p H4 hp e4 => rv_ixLn (sq_of hp) (strs_at' hj)) fun H4 e4 => hq _ (((e1.trans e2).trans e3).trans e4)
  have n2 := of_decide_eq_false hb2
  have ha2 := ex_l e2 ha1
  have hb2' := ex_l e2 hb1'
  have hd2 := e2 _ _ hd1
  have e12 := e1.trans e2
  have w2at : ∀ {H3 : Hp} {te : TE} {σ : L2.St}, (!decide (w0 = "gone")) = true → Ex H2 H3 → Ev te σ H3 (.ref b) → Ev (tOp (rIxL K) te (L2.tC (.int 2))) σ H3 (.str (rest.headD "")) := fun hg e3 hv => by
    have hne : rest ≠ [] := by
      rcases hw with h | h | h
      · exact absurd h n0
      · rw [h] at hg
        exact absurd hg (by decide)
      · exact h
    obtain ⟨w2, r, rfl⟩ := List.exists_cons_of_ne_nil hne
    exact ev_wd 2 hv (ex_l e3 hb2') rfl rfl
  generalize hr2 : rest.headD "" = w2 at hq w2at
  unfold dueOf at hq
  rw [if_neg n0, if_neg n2] at hq
  have ne0 : ∀ {H3 : Hp}, Ex H2 H3 → Ev _ _ H3 (.bl (!decide (w0 = "gone"))) := fun e3 => ev_op (ev_wd 0 (ev_var (i := 2) (σ := L2.start ["_law_names", "_law_table", "_law_words"] [.ref a, .ref d, .ref b]) rfl) (ex_l e3 hb2') rfl rfl) ev_c rv_neS
  refine q_when (b := !decide (w1 ∈ ns) || (!decide (w0 = "gone") && !decide (w2 ∈ ns))) (et_or (et_test (ev_ninS (ev_wd 1 (ev_var rfl) hb2' rfl rfl) (ev_var rfl) ha2)) fun _ => et_and (et_test (ne0 (Ex.refl _))) fun hg => et_test (ev_ninS (w2at hg (Ex.refl _) (ev_var rfl)) (ev_var rfl) ha2)) (fun hb3 H3 e3 => ?_) (fun hb3 H3 e3 => ?_)
  · rw [if_pos hb3] at hq
    exact s_ret (v := .str "name") ev_c fun H4 e4 => hq _ ((e12.trans e3).trans e4)
  rw [if_neg (by rw [hb3]; decide)] at hq
  have e13 := e12.trans e3
  refine q_when (b := !decide (w0 = "gone") && decide (w1 = w2)) (et_and (et_test (ne0 e3)) fun hg => et_test (ev_op (ev_wd 1 (ev_var rfl) (ex_l e3 hb2') rfl rfl) (w2at hg e3 (ev_var rfl)) rv_eqS)) (fun hb4 H4 e4 => ?_) (fun hb4 H4 e4 => ?_)
  · rw [if_pos hb4] at hq
    exact s_ret (v := .str "bad") ev_c fun H5 e5 => hq _ ((e13.trans e4).trans e5)
  rw [if_neg (by rw [hb4]; decide)] at hq
  have e34 := e3.trans e4
  have e14 := e13.trans e4
  have ung : decide (w0 = "untie") = true → (!decide (w0 = "gone")) = true := fun h => by
    rw [of_decide_eq_true h]
    decide
  have rd : Rd H4 d (.dT (lawT L)) := .inl (e34 _ _ hd2)
  refine q_when (b := decide (w0 = "untie") && (!hasL L w1 w2 && !hasL L w2 w1)) (et_and (et_test (ev_op (ev_wd 0 (ev_var rfl) (ex_l e34 hb2') rfl rfl) ev_c rv_eqS)) fun hu => et_and (et_test (ev_dninU (eu_tup (ea_cons (ev_wd 1 (ev_var rfl) (ex_l e34 hb2') rfl rfl) (ea_cons (w2at (ung hu) e34 (ev_var rfl)) ea_nil)) (Nat.le_of_ble_eq_true rfl)) (ev_var rfl) (dg_t (k := ks w1 w2) rd rfl))) fun _ => et_test (ev_dninU (eu_tup (ea_cons (w2at (ung hu) e34 (ev_var rfl)) (ea_cons (ev_wd 1 (ev_var rfl) (ex_l e34 hb2') rfl rfl) ea_nil)) (Nat.le_of_ble_eq_true rfl)) (ev_var rfl) (dg_t (k := ks w2 w1) rd rfl))) (fun hb5 H5 e5 => ?_) (fun hb5 H5 e5 => ?_)
  · rw [if_pos hb5] at hq
    exact s_ret (v := .str "none") ev_c fun H6 e6 => hq _ ((e14.trans e5).trans e6)
  rw [if_neg (by rw [hb5]; decide)] at hq
  exact s_ret (v := .str "ok") ev_c fun H6 e6 => hq _ ((e14.trans e5).trans e6)
end
end KD
set_option maxHeartbeats 2000000
/-! the law's table told -/
namespace KD
open PySem PySem.Spec PyProof.Rows L2 Evl
section
variable {P : Program} {w : World} {K : PySem.W.Frag} {mg : Str → Option Value} {base : Heap}
theorem ei_keysT {σ : L2.St} {H : Hp} {td : TE} {d : Addr} {od : Obj} {kvs : List (List Key × V)} (h : Ev td σ H (.ref d)) (hd : H d = some (.frz od (.dT kvs))) : EvI (iKeys td) σ H (Itkt d od kvs) := fun H1 e R q =>
  h H1 e _ fun H2 e2 => ⟨d, od, rfl, .inr ⟨kvs, e2 _ _ (e _ _ hd), q H2 e2⟩⟩
theorem law_at {L : List LTie} {i : Nat} {k : List Key} {v : V} (h : (lawT L)[i]? = some (k, v)) : ∃ t, L[i]? = some t ∧ k = ks t.1 t.2.1 ∧ v = .int t.2.2 := by
  unfold lawT at h
  rw [List.getElem?_map] at h
  cases ht : L[i]? with
  | none =>
    rw [ht] at h
    cases h
  | some t =>
    rw [ht] at h
    obtain ⟨rfl, rfl⟩ := Prod.mk.inj (Option.some.inj h)
    exact ⟨t, rfl, rfl, rfl⟩
/-- a law's tie as a desk's tie -/
def tieI (ns : List Str) (t : LTie) : Tie := (min (idx ns t.1) (idx ns t.2.1), max (idx ns t.1) (idx ns t.2.1), t.2.2)
structure LawOk (ns : List Str) (L : List LTie) : Prop where
  nm : ∀ z ∈ ns, isName z = true
  nl : ns.length ≤ 12
  few : L.length ≤ 200
  mem : ∀ t ∈ L, t.1 ∈ ns ∧ t.2.1 ∈ ns
  num : ∀ t ∈ L, t.2.2.natAbs < 10 ^ 60
  nd : (L.map fun t => ks t.1 t.2.1).Nodup
theorem val_at : ∀ {L : List LTie} {i : Nat} {t : LTie}, (L.map fun t => ks t.1 t.2.1).Nodup → L[i]? = some t → valV (lawT L) (ks t.1 t.2.1) = some (.int t.2.2)
  | u :: r, 0, t, _, h => by
    cases Option.some.inj h
    unfold valV lawT
    simp
  | u :: r, i + 1, t, hn, h => by
    have hn' : (ks u.1 u.2.1 :: r.map fun t => ks t.1 t.2.1).Nodup := hn
    obtain ⟨h1, h2⟩ := List.nodup_cons.mp hn'
    have hi := val_at (L := r) h2 (i := i) h
    have ne : ks u.1 u.2.1 ≠ ks t.1 t.2.1 := fun q => h1 (by
      rw [q]
      exact List.mem_map.mpr ⟨t, List.mem_of_getElem? h, rfl⟩)
    unfold valV lawT at hi ⊢
    rw [List.map_cons, List.find?_cons_of_neg (by simpa using ne)]
    exact hi
theorem dg_tv {H : Hp} {a : Addr} {kvs : List (List Key × V)} {k : List Key} {xs : List V} {v : V} (h : Rd H a (.dT kvs)) (hx : xs = k.map kV) (hv : valV kvs k = some v) : ∀ p H1, Ex H H1 → H1 p = some (.tup xs) → DGet H1 a (.ref p) (some v) := fun p H1 e hp => hv ▸ dg_t h hx p H1 e hp
theorem ep_catP {σ : L2.St} {H : Hp} {ta tb : TE} {l : Addr} {xs : List V} {β : Type} {q : β → List V} {Φ : β → Prop} (ha : Ev ta σ H (.ref l)) (hb : EvP tb σ H fun v H1 => ∃ p us, v = .ref p ∧ H p = none ∧ H1 p = some (.lst (q us)) ∧ Φ us) (h1 : H l = some (.lst xs)) (hz : ∀ us, Φ us → xs.length + (q us).length ≤ sizeLine) :
    EvP (tOp rCat ta tb) σ H fun v H1 => ∃ p us, v = .ref p ∧ H1 p = some (.lst (xs ++ q us)) ∧ Φ us := fun H1 e Q k =>
  ha H1 e _ fun H2 e2 => hb H2 (e.trans e2) _ fun v H3 e3 ⟨b, us, ev, _, hb3, hu⟩ => ⟨l, b, xs, q us, rfl, ev, ((e.trans e2).trans e3) l _ h1, hb3, hz us hu, fun p hp => k _ _ ((e2.trans e3).trans (Ex.new hp)) ⟨p, us, rfl, upd_same, hu⟩⟩
theorem ep_tM1 {σ : L2.St} {H : Hp} {te tx : TE} {rm : V → List V → Hp → VK → Prop} {a : Str} {Φ Ψ : V → Hp → Prop} (ho : Ev te σ H (.str a)) (h : EvP tx σ H Φ) (hm : ∀ y H1, Ex H H1 → Φ y H1 → ∃ z, RM rm (.str a) [y] H1 z ∧ ∀ H2, Ex H1 H2 → Ψ z H2) : EvP (tM1 rm te tx) σ H Ψ := fun H1 e Q q =>
  ho H1 e _ fun H2 e2 => ⟨⟨a, rfl⟩, h H2 (e.trans e2) _ fun y H3 e3 hy => by
    obtain ⟨z, h1, h2⟩ := hm y H3 ((e.trans e2).trans e3) hy
    exact h1 H3 (Ex.refl _) Q fun H4 e4 => q z H4 ((e2.trans e3).trans e4) (h2 H4 e4)⟩
theorem ep_lcTies {σ : L2.St} {H : Hp} {tl te : TE} {i j l : Nat} {vs : List Nat} {Φ : List Tie → Prop} (q : Tie → V) (h : EvP tl σ H fun v H1 => ∃ a ys us, v = .ref a ∧ H1 a = some (.lst ys) ∧ TieRows H1 ys us ∧ Φ us)
    (hz : ∀ us, Φ us → us.length ≤ 4000) (hw : ∀ x y z, wipe ((((wipe σ vs).set i x).set j y).set l z) vs = wipe σ vs)
    (he : ∀ us, Φ us → ∀ t ∈ us, ∀ H1, Ex H H1 → Ev te ((((wipe σ vs).set i (some (.int (t.1 : Int)))).set j (some (.int (t.2.1 : Int)))).set l (some (.int t.2.2))) H1 (q t)) :
    EvP (tLc (iList K tl) (gTup K 3 (gCons (gName i) (gCons (gName j) (gCons (gName l) gNil)))) tYes te vs) σ H fun v H1 => ∃ p us, v = .ref p ∧ H p = none ∧ H1 p = some (.lst (us.map q)) ∧ Φ us := fun H0 e0 Q k => h H0 e0 _ fun v H1 e1 ⟨a, ys, us, ev, ha, hr, hp⟩ => ⟨a, ev, ⟨ys, sq_of ha⟩, fun Dl hD => by
  refine lc_it walk_list (fun i H' => Ex H1 H' ∧ H' Dl = some (.lst ((us.take i).map q))) ⟨Ex.new hD, by rw [upd_same]; rfl⟩ (fun i H' _ pv => ex_l pv.1 (sq_of ha)) (fun n x H2 H3 hn pv yv => ?_) fun H' pv => k _ H' (e1.trans pv.1) ⟨Dl, us, rfl, fresh_back (e0.trans e1) hD, by rw [pv.2, hr.1, List.take_length], hp⟩
  obtain ⟨rfl, hx⟩ := yv
  have hn' : n < us.length := by rw [← hr.1]; exact hn
  have hut : us[n]? = some us[n] := List.getElem?_eq_getElem hn'
  have hm : us[n] ∈ us := List.getElem_mem ..
  generalize us[n] = t at hut hm
  obtain ⟨T, rfl, hT⟩ := hr.2 n x t hx hut
  refine g_triple (by rfl) (st_of (pv.1 _ _ hT)) ⟨hw _ _ _, ?_⟩
  have len : ((us.take n).map q).length < sizeLine := by
    rw [List.length_map, List.length_take]
    refine sz_lt ?_
    have := hz us hp
    omega
  show te _ _ _
  refine he us hp t hm _ ((e0.trans e1).trans pv.1) _ (Ex.refl _) _ fun H5 e5 => ⟨_, e5 Dl _ pv.2, len, Ex.mut (pv.1.trans e5) hD, ?_⟩
  rw [upd_same, take_snoc hut, List.map_append]
  rfl⟩
def sp_l_web (K : PySem.W.Frag) : Sp := fun vs H Q _ => ∃ (a d : Addr) (ns : List Str) (L : List LTie), vs = [.ref a, .ref d] ∧ H a = some (.lst (strsV ns)) ∧ H d = some (.dT (lawT L)) ∧ LawOk ns L ∧ ∀ us : List Tie, us.Perm (L.map (tieI ns)) → Srt3 us → RV1 (.str (if ns = [] then "-" else showT ns us)) H Q
theorem ok_l_web (T : Txt w K mg) : Ok P w K mg base CX0 1 ("_law_web", none) ["_law_names", "_law_table"] (sp_l_web K) := by
  refine ok0 T.f_l_web sc_l_web (fun vs H Q E h => by obtain ⟨_, _, _, _, rfl, _⟩ := h; rfl) (fun _ _ _ _ _ _ us hl => match us, hl with | [_, _], _ => rfl) fun f cdv A outer s H vs Q E hr h => ?_
  have nd := sc_l_web.nd
  have hu := hu_of hr
  have hu64 := hr.units
  refine ⟨_, (pss_cons (ps_set (i := 2) nd rfl (Or.inl rfl) (pe_lst pa_nil))
 (pss_cons (ps_lock (ps_for PassesOwn.never rfl (pi_keys (pv 1)) (pg_tup rfl (pgs_cons (pg_name (i := 3) nd rfl (Or.inl rfl)) (pgs_cons (pg_name (i := 4) nd rfl (Or.inl rfl)) pgs_nil))) (pss_cons (ps_asg (pe_callB cr_sortedI (by rfl) T.n_sorted (by decide +kernel) (pa_cons (pe_lst (pa_cons (pe_bm PySem.F.plainAttrs_list PySem.F.slot_list_index PySem.F.type_list_index mt_index (pv 0) (pa_cons (pv 3) pa_nil)) (pa_cons (pe_bm PySem.F.plainAttrs_list PySem.F.slot_list_index PySem.F.type_list_index mt_index (pv 0) (pa_cons (pv 4) pa_nil)) pa_nil))) pa_nil)) (pg_lst rfl (pgs_cons (pg_name (i := 5) nd rfl (Or.inl rfl)) (pgs_cons (pg_name (i := 6) nd rfl (Or.inl rfl)) pgs_nil))))
 (pss_one (ps_expr (pe_bm PySem.F.plainAttrs_list PySem.F.slot_list_append PySem.F.type_list_append mt_append (pv 2) (pa_cons (pe_tup (pa_cons (pv 5) (pa_cons (pv 6) (pa_cons (pe_dget hu (pv 1) (pe_tup (pa_cons (pv 3) (pa_cons (pv 4) pa_nil))) (fun _ _ => rfl)) pa_nil)))) pa_nil)))))))
 (pss_cons (ps_if (pt_cmpR (op_eqD hu64) (pv 0) (pe_lst pa_nil) (nomark _)) (pss_one (ps_ret pe_str)) pss_nil)
 (pss_one (ps_ret (pe_join pe_str (pe_op op_cat (pv 0) (pe_lc (own := [("_law_a", 5), ("_law_b", 6), ("_law_heavy", 7)]) (g := gTup K 3 (gCons (gName 5) (gCons (gName 6) (gCons (gName 7) gNil)))) rfl nd (pi_list (pe_callB (cr_sort3 (K := K)) (by rfl) T.n_sorted (by decide +kernel) (pa_cons (pv 2) pa_nil))) (blkOk_by (N := ["_law_names", "_law_table", "_law_rows", "_law_one", "_law_other", "_law_a", "_law_b", "_law_heavy"]) (own := [("_law_a", 5), ("_law_b", 6), ("_law_heavy", 7)]) (sc := defScope s_l_web) (by decide +kernel)) (fun _ _ _ _ _ => (pg_tup rfl (pgs_cons (pg_name (i := 5) nd rfl (Or.inl rfl)) (pgs_cons (pg_name (i := 6) nd rfl (Or.inl rfl)) (pgs_cons (pg_name (i := 7) nd rfl (Or.inl rfl)) pgs_nil))))) (fun _ _ _ _ _ => pts_nil) (fun _ _ _ _ _ => (pe_op op_add_str (pe_op op_add_str (pe_op op_add_str (pe_op op_add_str (pe_ix (ix_listK (K := K)) (pv 0) (pv 5) (fun _ _ => rfl)) pe_str) (pe_ix (ix_listK (K := K)) (pv 0) (pv 6) (fun _ _ => rfl))) pe_str) (pe_callTy call_str_int (by rfl) T.n_str (by decide +kernel) (pa_cons (pv 7) pa_nil)))))))))))), ?_⟩
  try dsimp only [cxOf, L2.Cx.nox, L2.Cx.blk]
  obtain ⟨a, d, ns, L, rfl, ha, hd, hk, hq⟩ := h
  refine q_asgL (xs := []) (el_lst ea_nil (by simp)) fun ro H1 r0 e1 hro => ?_
  have ra : ro ≠ a := fun q => by
    rw [q, ha] at r0
    cases r0
  have rdd : ro ≠ d := fun q => by
    rw [q, hd] at r0
    cases r0
  have ad : a ≠ d := ne_of ha hd (by intro z; cases z)
  refine q_lock (e1 _ _ hd) trivial fun od => ?_
  have rl : (lawT L).length = L.length := List.length_map _
  refine s_forW walk_keysT (ei_keysT (ev_var rfl) upd_same) (fun k σ' H' => (∃ p q r s t, σ' = [some (.ref a), some (.ref d), some (.ref ro), p, q, r, s, t]) ∧ (∀ b o, (upd H1 d (.frz od (.dT (lawT L)))) b = some o → b ≠ ro → H' b = some o) ∧ H' d = some (.frz od (.dT (lawT L))) ∧ ∃ ys, H' ro = some (.lst ys) ∧ TieRows H' ys ((L.take k).map (tieI ns))) (fun H3 e3 => ⟨⟨none, none, none, none, none, rfl⟩, fun b o hb _ => e3 _ _ hb, e3 _ _ upd_same, [], e3 _ _ (by rw [upd_ne rdd]; exact hro), rfl, fun i v t h1 _ => by simp at h1⟩) (fun k σ' H' _ pv => pv.2.2.1) (fun k v σ' H3 H4 hk' pv yv => ?hs) fun σ' H' pv => ?_
  case hs =>
    obtain ⟨⟨p, q, r, s, t, rfl⟩, p1, p2, ys, p3, p4⟩ := pv
    obtain ⟨rfl, k0, v0, q0, hkv, rfl, hq0⟩ := yv
    obtain ⟨tt, hLk, rfl, rfl⟩ := law_at hkv
    obtain ⟨m1, m2⟩ := hk.mem tt (List.mem_of_getElem? hLk)
    have pa : H4 a = some (.lst (strsV ns)) := p1 a _ (by rw [upd_ne ad]; exact e1 _ _ ha) (Ne.symm ra)
    refine g_pair (by rfl) hq0 ?_
    refine q_asgLP (Φ := NatsAt H4 (SortOf [idx ns tt.1, idx ns tt.2.1])) (ep_cbL (xs := natsV [idx ns tt.1, idx ns tt.2.1]) (el_lst (ea_cons (ev_index (ev_var rfl) pa (ev_var rfl) m1) (ea_cons (ev_index (ev_var rfl) pa (ev_var rfl) m2) ea_nil)) (by show 2 ≤ 100000; decide)) fun p H4 e4 h4 => (rcp_sortN (sq_of h4)).imp fun v H5 hv => hv.back e4) fun v H5 e5 hv => ?_
    obtain ⟨pp, rr, rfl, _, hp, hs⟩ := hv
    rw [sort2 hs] at hp
    refine ⟨pp, _, rfl, sq_of hp, rfl, _, _, rfl, _, _, rfl, rfl, ?_⟩
    have rd : Rd H5 d (.dT (lawT L)) := .inr ⟨od, e5 _ _ p2⟩
    refine s_appU (l := ro) (ys := tieV (tieI ns tt)) (e5 _ _ p3) (ev_var rfl) (eu_tup (ea_cons (ev_var rfl) (ea_cons (ev_var rfl) (ea_cons (ev_dgetU (ev_var rfl) (eu_tup (ea_cons (ev_var rfl) (ea_cons (ev_var rfl) ea_nil)) (Nat.le_of_ble_eq_true rfl)) (dg_tv rd rfl (val_at hk.nd hLk))) ea_nil))) (Nat.le_of_ble_eq_true rfl)) ?_ fun p6 H6 h60 e6 h6 => ?_
    · rw [p4.1, List.length_map, List.length_take]
      have := hk.few
      omega
    · have up : ∀ {b : Addr} {o : HO}, b ≠ ro → H4 b = some o → (upd H6 ro (.lst (ys ++ [.ref p6]))) b = some o := fun hne hb => by
        rw [upd_ne hne]
        exact e6 _ _ (e5 _ _ hb)
      refine ⟨⟨_, _, _, _, _, rfl⟩, fun b o hb hne => up hne (p1 b o hb hne), up (Ne.symm rdd) p2, ys ++ [.ref p6], upd_same, ?_⟩
      rw [take_snoc hLk, List.map_append]
      refine ⟨by rw [List.length_append, List.length_append, p4.1]; rfl, fun i v t h1 h2 => ?_⟩
      by_cases hi : i < ys.length
      · rw [List.getElem?_append_left hi] at h1
        rw [List.getElem?_append_left (by rw [← p4.1]; exact hi)] at h2
        obtain ⟨q', h3, h4⟩ := p4.2 i v t h1 h2
        exact ⟨q', h3, up (ne_of h4 p3 (by intro z; cases z)) h4⟩
      · rw [List.getElem?_append_right (by omega)] at h1
        rw [List.getElem?_append_right (by rw [← p4.1]; omega), ← p4.1] at h2
        have hz : i - ys.length = 0 := by
          have := (List.getElem?_eq_some_iff.mp h1).1
          simp at this
          omega
        rw [hz] at h1 h2
        cases Option.some.inj h1
        cases Option.some.inj h2
        refine ⟨p6, rfl, ?_⟩
        rw [upd_ne (ne_of h6 (e6 _ _ (e5 _ _ p3)) (by intro z; cases z))]
        exact h6
  obtain ⟨⟨p, q, r, s, t, rfl⟩, p1, p2, ys, p3, p4⟩ := pv
  rw [rl, List.take_length] at p4
  refine ⟨p2, ?_⟩
  have fr : ∀ b o, H1 b = some o → b ≠ ro → (upd H' d (.dT (lawT L))) b = some o := fun b o hb hne => by
    by_cases hbt : b = d
    · rw [hbt, upd_same]
      rw [hbt, e1 _ _ hd] at hb
      exact hb
    · rw [upd_ne hbt]
      exact p1 b o (by rw [upd_ne hbt]; exact hb) hne
  have eH : Ex H (upd H' d (.dT (lawT L))) := fun b o hb => fr b o (e1 _ _ hb) (ne_of_none hb r0)
  have pr : (upd H' d (.dT (lawT L))) ro = some (.lst ys) := by
    rw [upd_ne rdd]
    exact p3
  have prr : TieRows (upd H' d (.dT (lawT L))) ys (L.map (tieI ns)) := ⟨p4.1, fun i v t h1 h2 => by
    obtain ⟨q', h3, h4⟩ := p4.2 i v t h1 h2
    refine ⟨q', h3, ?_⟩
    rw [upd_ne (ne_of h4 p2 (by intro z; cases z))]
    exact h4⟩
  generalize upd H' d (.dT (lawT L)) = H9 at eH pr prr fr ⊢
  have ha9 := eH _ _ ha
  refine q_when (b := decide (ns = [])) (et_test (ev_eqNil (ev_var rfl) (sq_of ha9) hk.nm)) (fun hb H5 e5 => ?_) (fun hb H5 e5 => ?_)
  · have hb := of_decide_eq_true hb
    have hl0 : L = [] := by
      cases L with
      | nil => rfl
      | cons t r =>
        have := (hk.mem t (List.mem_cons_self ..)).1
        rw [hb] at this
        cases this
    have h := hq [] (by rw [hl0]; exact .nil) List.Pairwise.nil
    rw [if_pos hb] at h
    exact s_ret (v := .str "-") ev_c fun H6 e6 => h _ ((eH.trans e5).trans e6)
  have hb := of_decide_eq_false hb
  have hn5 := e5 _ _ ha9
  have lt := hk.mem
  let Φ : List Tie → Prop := fun us => us.Perm (L.map (tieI ns)) ∧ Srt3 us
  have tin : ∀ us, Φ us → ∀ t ∈ us, t.1 < ns.length ∧ t.2.1 < ns.length ∧ t.2.2.natAbs < 10 ^ 60 := fun us hu t ht => by
    obtain ⟨u, hu1, rfl⟩ := List.mem_map.mp (hu.1.mem_iff.mp ht)
    obtain ⟨m1, m2⟩ := hk.mem u hu1
    have h1 := idx_lt m1
    have h2 := idx_lt m2
    refine ⟨?_, ?_, hk.num u hu1⟩
    · show min (idx ns u.1) (idx ns u.2.1) < _
      omega
    · show max (idx ns u.1) (idx ns u.2.1) < _
      omega
  have ulen : ∀ us, Φ us → us.length ≤ 200 := fun us hu => by
    have := hu.1.length_eq
    have := hk.few
    rw [List.length_map] at *
    omega
  have shn : ∀ z ∈ ns, z.length ≤ 8 := fun z hz => (isName_iff.mp (hk.nm z hz)).1.2
  have n1 : ("-" : Str).length = 1 := by decide
  have n2 : (" " : Str).length = 1 := by decide
  have big : (1000 : Nat) ≤ sizeLine := by decide
  have tl79 : ∀ us, Φ us → ∀ t ∈ us, (tieT ns t).length ≤ 79 := fun us hu t ht => by
    obtain ⟨a1, a2, a3⟩ := tin us hu t ht
    have g1 := name_len shn a1
    have g2 := name_len shn a2
    have g3 := numS_len a3
    unfold tieT
    rw [len_app, len_app, len_app, len_app, n1, n2]
    omega
  refine s_retP (Φ := fun v _ => ∃ us, v = .str (showT ns us) ∧ Φ us) (ep_tM1 ev_c (ep_catP (β := List Tie) (q := fun us => us.map fun t => V.str (tieT ns t)) (Φ := Φ) (ev_var rfl) (ep_lcTies (Φ := Φ) (fun t => .str (tieT ns t)) (ep_cb (ea_cons (ev_var rfl) ea_nil) (RCP.imp (rcp_sort3 (sq_of (e5 _ _ pr)) (prr.mono e5)) fun v H6 hv => ?c1)) (fun us hu => by have := ulen us hu; omega) (fun _ _ _ => rfl) fun us hu t ht H6 e6 => ?c2) hn5 fun us hu => ?c3) fun y H6 e6 hy => ?c4) fun v H6 e6 hv => ?c5
  case c1 =>
    obtain ⟨r1, ys1, us, rfl, _, g1, g2, g3, g4⟩ := hv
    exact ⟨r1, ys1, us, rfl, g1, g4, g2, g3⟩
  case c2 =>
    obtain ⟨a1, a2, a3⟩ := tin us hu t ht
    have g1 := name_len shn a1
    have g2 := name_len shn a2
    have g3 := numS_len a3
    have hn6 := e6 _ _ hn5
    refine ev_op (ev_op (ev_op (ev_op (ev_op (ev_var rfl) (ev_var rfl) (rv_ixLn (sq_of hn6) (strs_at' (name_some a1)))) ev_c (rv_addS ?_)) (ev_op (ev_var rfl) (ev_var rfl) (rv_ixLn (sq_of hn6) (strs_at' (name_some a2)))) (rv_addS ?_)) ev_c (rv_addS ?_)) (ev_cb (ea_cons (ev_var rfl) ea_nil) (rc_str (log_num a3))) (rv_addS ?_)
    · rw [n1]
      omega
    · rw [len_app, n1]
      omega
    · rw [len_app, len_app, n1, n2]
      omega
    · show _ + (numS t.2.2).length ≤ _
      rw [len_app, len_app, len_app, n1, n2]
      omega
  case c3 =>
    rw [strs_len, List.length_map]
    have := ulen us hu
    have := hk.nl
    omega
  case c4 =>
    obtain ⟨pz, us, rfl, hz, hu⟩ := hy
    refine ⟨.str (showT ns us), rm_join (ys := ns ++ us.map (tieT ns)) (sq_of ?_) ?_, fun H7 e7 => ⟨us, rfl, hu⟩⟩
    · rw [hz]
      unfold strsV
      rw [List.map_append, List.map_map]
      rfl
    · have h1 := sum_le (ns ++ us.map (tieT ns)) 79 fun z hz => by
        rcases List.mem_append.mp hz with hz | hz
        · exact Nat.le_trans (shn z hz) (by decide)
        · obtain ⟨t, ht, rfl⟩ := List.mem_map.mp hz
          exact tl79 us hu t ht
      rw [List.length_append, List.length_map] at h1 ⊢
      have h2 : (", " : Str).length = 2 := by decide
      rw [h2]
      have := hk.nl
      have := ulen us hu
      omega
  case c5 =>
    obtain ⟨us, rfl, hu⟩ := hv
    have h := hq us hu.1 hu.2
    rw [if_neg hb] at h
    exact h _ ((eH.trans e5).trans e6)
end
end KD
set_option maxHeartbeats 2000000
/-! what the law holds due for a walk -/
namespace KD
open PySem PySem.Spec PyProof.Rows L2 Evl
section
variable {P : Program} {w : World} {K : PySem.W.Frag} {mg : Str → Option Value} {base : Heap}
def endsL (L : List LTie) : List Str := L.flatMap fun t => [t.1, t.2.1]
theorem endsL_mem {ns : List Str} {L : List LTie} (h : ∀ t ∈ L, t.1 ∈ ns ∧ t.2.1 ∈ ns) {z : Str} (hz : z ∈ endsL L) : z ∈ ns := by
  obtain ⟨t, ht, hz⟩ := List.mem_flatMap.mp hz
  simp only [List.mem_cons, List.not_mem_nil, or_false] at hz
  rcases hz with rfl | rfl
  · exact (h t ht).1
  · exact (h t ht).2
theorem endsL_len (L : List LTie) : (endsL L).length = 2 * L.length := by
  induction L with
  | nil => rfl
  | cons t r ih =>
    show (t.1 :: t.2.1 :: endsL r).length = _
    rw [List.length_cons, List.length_cons, ih, List.length_cons]
    omega
theorem endsL_snoc (L : List LTie) (t : LTie) : endsL (L ++ [t]) = endsL L ++ [t.1, t.2.1] := by
  unfold endsL
  rw [List.flatMap_append]
  rfl
inductive WalkD (ns : List Str) (L : List LTie) (home : Str) : Str → Prop
  | name : home ∉ ns → WalkD ns L home "name"
  | below {t : LTie} : home ∈ ns → t ∈ L → t.2.2 < 0 → WalkD ns L home "below"
  | apart {S : List Str} : home ∈ ns → (∀ t ∈ L, 0 ≤ t.2.2) → L ≠ [] → home ∈ S → (∀ t ∈ L, t.1 ∈ S ↔ t.2.1 ∈ S) → (home ∉ endsL L ∨ ∃ z ∈ endsL L, z ∉ S) → WalkD ns L home "apart"
  | told : WalkD ns L home "told"
theorem q_whenG {σ : L2.St} {H : Hp} {t : TT} {tu tz : TS} {D : Ends} {b : Bool} (Γ : Hp → Prop) (h : EvT t σ H b) (h1 : b = true → ∀ H1, Ex H H1 → (∀ H2, Γ H2 → tz D σ H2) → tu { D with nx := tz D } σ H1) (h2 : b = false → ∀ H1, Ex H H1 → Γ H1) (k : ∀ H1, Γ H1 → tz D σ H1) : tSeq (tIfS t tu tNext) tz D σ H := q_when h (fun hb H1 e1 => h1 hb H1 e1 k) (fun hb H1 e1 => k H1 (h2 hb H1 e1))
/-- the list grown so far -/
structure Grow (H0 : Hp) (rh : Addr) (ns S : List Str) (Hm : Hp) (S' : List Str) : Prop where
  fr : ∀ b o, H0 b = some o → b ≠ rh → Hm b = some o
  at_ : Hm rh = some (.lst (strsV S'))
  pre : ∀ (j : Nat) (z : Str), S[j]? = some z → S'[j]? = some z
  nd : S'.Nodup
  sub : ∀ z ∈ S', z ∈ ns
theorem Grow.mono {H0 Hm H7 : Hp} {rh : Addr} {ns S S' : List Str} (g : Grow H0 rh ns S Hm S') (e : Ex Hm H7) : Grow H0 rh ns S H7 S' := ⟨fun b o h1 h2 => e _ _ (g.fr b o h1 h2), e _ _ g.at_, g.pre, g.nd, g.sub⟩
theorem Grow.add {H0 Hm H7 : Hp} {rh : Addr} {ns S S' : List Str} {z : Str} (g : Grow H0 rh ns S Hm S') (e : Ex Hm H7) (hz : z ∈ ns) (hn : z ∉ S') : Grow H0 rh ns S (upd H7 rh (.lst (strsV S' ++ [.str z]))) (S' ++ [z]) := by
  refine ⟨fun b o h1 h2 => ?_, ?_, fun j y hj => ?_, ?_, fun y hy => ?_⟩
  · rw [upd_ne h2]
    exact e _ _ (g.fr b o h1 h2)
  · rw [upd_same]
    unfold strsV
    rw [List.map_append]
    rfl
  · have h := g.pre j y hj
    rw [List.getElem?_append_left (List.getElem?_eq_some_iff.mp h).1]
    exact h
  · rw [List.nodup_append]
    refine ⟨g.nd, by simp, fun a ha b hb => ?_⟩
    rw [List.mem_singleton.mp hb]
    rintro rfl
    exact hn ha
  · rcases List.mem_append.mp hy with h | h
    · exact g.sub y h
    · rw [List.mem_singleton.mp h]
      exact hz
def sp_l_walk_due (K : PySem.W.Frag) : Sp := fun vs H Q _ => ∃ (a d : Addr) (ns : List Str) (L : List LTie) (home : Str), vs = [.ref a, .ref d, .str home] ∧ H a = some (.lst (strsV ns)) ∧ H d = some (.dT (lawT L)) ∧ LawOk ns L ∧ ∀ v, WalkD ns L home v → RV1 (.str v) H Q
theorem ok_l_walk_due (T : Txt w K mg) : Ok P w K mg base CX0 1 ("_law_walk_due", none) ["_law_names", "_law_table", "_law_home"] (sp_l_walk_due K) := by
  refine ok0 T.f_l_walk_due sc_l_walk_due (fun vs H Q E h => by obtain ⟨_, _, _, _, _, rfl, _⟩ := h; rfl) (fun _ _ _ _ _ _ us hl => match us, hl with | [_, _, _], _ => rfl) fun f cdv A outer s H vs Q E hr h => ?_
  have nd := sc_l_walk_due.nd
  have hu := hu_of hr
  have hu64 := hr.units
  refine ⟨_, (pss_cons (ps_if (pt_cmpR op_notIn_seq (pv 2) (pv 0) rfl) (pss_one (ps_ret pe_str)) pss_nil)
 (pss_cons (ps_set (i := 3) nd rfl (Or.inl rfl) (pe_lst pa_nil))
 (pss_cons (ps_lock (ps_for PassesOwn.never rfl (pi_keys (pv 1)) (pg_tup rfl (pgs_cons (pg_name (i := 4) nd rfl (Or.inl rfl)) (pgs_cons (pg_name (i := 5) nd rfl (Or.inl rfl)) pgs_nil))) (pss_cons (ps_if (pt_cmpR op_lt (pe_dget hu (pv 1) (pe_tup (pa_cons (pv 4) (pa_cons (pv 5) pa_nil))) (fun _ _ => rfl)) pe_int (nomark _)) (pss_one (ps_ret pe_str)) pss_nil)
 (pss_one (ps_set (i := 3) nd rfl (Or.inl rfl) (pe_op op_cat (pv 3) (pe_lst (pa_cons (pv 4) (pa_cons (pv 5) pa_nil)))))))))
 (pss_cons (ps_set (i := 6) nd rfl (Or.inr rfl) (pe_lst (pa_cons (pv 2) pa_nil)))
 (pss_cons (ps_for PassesOwn.never rfl (pi_range1 (by rfl) T.n_range (pa_cons (pe_callB call_len_seq (by rfl) T.n_len (by decide +kernel) (pa_cons (pv 0) pa_nil)) pa_nil)) (pg_name (i := 7) nd rfl (Or.inl rfl)) (pss_one (ps_if (pt_cmpR op_lt (pv 7) (pe_callB call_len_seq (by rfl) T.n_len (by decide +kernel) (pa_cons (pv 6) pa_nil)) (nomark _)) (pss_one (ps_lock (ps_for PassesOwn.never rfl (pi_keys (pv 1)) (pg_tup rfl (pgs_cons (pg_name (i := 4) nd rfl (Or.inl rfl)) (pgs_cons (pg_name (i := 5) nd rfl (Or.inl rfl)) pgs_nil))) (pss_cons (ps_if (PW.pt (pw_and (pt_cmpR op_eq (pv 4) (pe_ix ix_list (pv 6) (pv 7) (fun _ _ => rfl)) (nomark _)) (pw_and1 (pt_cmpR op_notIn_seq (pv 5) (pv 6) rfl)))) (pss_one (ps_expr (pe_bm PySem.F.plainAttrs_list PySem.F.slot_list_append PySem.F.type_list_append mt_append (pv 6) (pa_cons (pv 5) pa_nil)))) pss_nil)
 (pss_one (ps_if (PW.pt (pw_and (pt_cmpR op_eq (pv 5) (pe_ix ix_list (pv 6) (pv 7) (fun _ _ => rfl)) (nomark _)) (pw_and1 (pt_cmpR op_notIn_seq (pv 4) (pv 6) rfl)))) (pss_one (ps_expr (pe_bm PySem.F.plainAttrs_list PySem.F.slot_list_append PySem.F.type_list_append mt_append (pv 6) (pa_cons (pv 4) pa_nil)))) pss_nil)))))) pss_nil)))
 (pss_cons (ps_if (PW.pt (pw_and (pt_cmpR (op_neD hu64) (pv 3) (pe_lst pa_nil) (nomark _)) (pw_and1 (PW.pt (pw_or (pt_cmpR op_notIn_seq (pv 2) (pv 3) rfl) (pw_or1 (pt_not (pt_val (pe_callB (cr_all rfl) (by rfl) T.n_all (by decide +kernel) (pa_cons (pe_lc (own := [("_law_word", 8)]) (g := gName 8) rfl nd (pi_list (pv 3)) (blkOk_by (N := ["_law_names", "_law_table", "_law_home", "_law_ends", "_law_one", "_law_other", "_law_row_here", "_law_k", "_law_word"]) (own := [("_law_word", 8)]) (sc := defScope s_l_walk_due) (by decide +kernel)) (fun _ _ _ _ _ => (pg_name (i := 8) nd rfl (Or.inl rfl))) (fun _ _ _ _ _ => pts_nil) (fun _ _ _ _ _ => (pe_cmpR (op_in_seqK (K := K)) (pv 8) (pv 6) rfl))) pa_nil)))))))))) (pss_one (ps_ret pe_str)) pss_nil)
 (pss_one (ps_ret pe_str)))))))), ?_⟩
  try dsimp only [cxOf, L2.Cx.nox, L2.Cx.blk]
  obtain ⟨a, d, ns, L, home, rfl, ha, hd, hk, hq⟩ := h
  have ad : a ≠ d := ne_of ha hd (by intro z; cases z)
  refine q_when (b := !decide (home ∈ ns)) (et_test (ev_ninS (ev_var rfl) (ev_var rfl) (sq_of ha))) (fun hb H1 e1 => ?_) (fun hb H1 e1 => ?_)
  · exact s_ret (v := .str "name") ev_c fun H2 e2 => hq _ (.name (by simpa using hb)) _ (e1.trans e2)
  have hin : home ∈ ns := by simpa using hb
  refine q_asgL (xs := strsV []) (el_lst ea_nil (Nat.le_of_ble_eq_true rfl)) fun en H2 r0 e2 hen => ?_
  have e12 := e1.trans e2
  have rl : (lawT L).length = L.length := List.length_map _
  refine q_lock (e12 _ _ hd) trivial fun od => ?_
  have enn : en ≠ d := fun q => by
    rw [q, e1 _ _ hd] at r0
    cases r0
  refine s_forW walk_keysT (ei_keysT (ev_var rfl) upd_same) (fun k σ' H' => (∃ p q en, σ' = [some (.ref a), some (.ref d), some (.str home), some (.ref en), p, q, none, none, none] ∧ H' en = some (.lst (strsV (endsL (L.take k))))) ∧ Ex (upd H2 d (.frz od (.dT (lawT L)))) H' ∧ ∀ t ∈ L.take k, 0 ≤ t.2.2) (fun H3 e3 => ⟨⟨none, none, en, rfl, e3 _ _ (by rw [upd_ne enn]; exact hen)⟩, e3, fun t ht => by simp at ht⟩) (fun k σ' H' _ pv => pv.2.1 _ _ upd_same) (fun k v σ' H3 H4 hk' pv yv => ?hs) fun σ' H' pv => ?_
  case hs =>
    obtain ⟨⟨p, q, en', rfl, p3⟩, p1, p2⟩ := pv
    obtain ⟨rfl, k0, v0, q0, hkv, rfl, hq0⟩ := yv
    obtain ⟨tt, hLk, rfl, rfl⟩ := law_at hkv
    have hdf : H4 d = some (.frz od (.dT (lawT L))) := p1 _ _ upd_same
    refine g_pair (by rfl) hq0 ?_
    have rd : Rd H4 d (.dT (lawT L)) := .inr ⟨od, hdf⟩
    refine q_when (b := decide (tt.2.2 < 0)) (et_test (ev_op (ev_dgetU (ev_var rfl) (eu_tup (ea_cons (ev_var rfl) (ea_cons (ev_var rfl) ea_nil)) (Nat.le_of_ble_eq_true rfl)) (dg_tv rd rfl (val_at hk.nd hLk))) ev_c rv_I0)) (fun hb H5 e5 => ?_) (fun hb H5 e5 => ?_)
    · refine s_ret (v := .str "below") ev_c fun H6 e6 => ⟨e6 _ _ (e5 _ _ hdf), hq _ (.below hin (List.mem_of_getElem? hLk) (of_decide_eq_true hb)) _ (e12.trans (ex_unlock (e12 _ _ hd) ((p1.trans e5).trans e6)))⟩
    · refine s_asgL (xs := strsV (endsL (L.take k) ++ [tt.1, tt.2.1])) (el_is (el_catL (ev_var rfl) (el_lst (vs := strsV [tt.1, tt.2.1]) (ea_cons (ev_var rfl) (ea_cons (ev_var rfl) ea_nil)) (Nat.le_of_ble_eq_true rfl)) (e5 _ _ p3) ?_) (strsV_app ..)) fun p6 H6 h60 e6 h6 => ?_
      · rw [strs_len, endsL_len, List.length_take]
        have := hk.few
        show _ + 2 ≤ _
        have : (1000 : Nat) ≤ sizeLine := by decide
        omega
      · refine ⟨⟨_, _, p6, rfl, ?_⟩, (p1.trans e5).trans e6, ?_⟩
        · rw [take_snoc hLk, endsL_snoc]
          exact h6
        · intro t ht
          rw [take_snoc hLk] at ht
          rcases List.mem_append.mp ht with ht | ht
          · exact p2 t ht
          · rw [List.mem_singleton.mp ht]
            have := of_decide_eq_false hb
            omega
  obtain ⟨⟨p, q, en', rfl, p3⟩, p1, p2⟩ := pv
  rw [rl, List.take_length] at p3 p2
  have hdf : H' d = some (.frz od (.dT (lawT L))) := p1 _ _ upd_same
  refine ⟨hdf, ?_⟩
  have eH : Ex H2 (upd H' d (.dT (lawT L))) := ex_unlock (e12 _ _ hd) p1
  have hen' : (upd H' d (.dT (lawT L))) en' = some (.lst (strsV (endsL L))) := by
    rw [upd_ne (ne_of p3 hdf (by intro z; cases z))]
    exact p3
  have e09 := e12.trans eH
  generalize upd H' d (.dT (lawT L)) = H9 at eH hen' e09 ⊢
  clear p1 p3 hdf
  have ha9 := e09 _ _ ha
  have hd9 := e09 _ _ hd
  refine q_asgL (xs := strsV [home]) (el_lst (ea_cons (ev_var rfl) ea_nil) (Nat.le_of_ble_eq_true rfl)) fun rh H5 h0 e5 hrh => ?_
  have ra : rh ≠ a := fun q => by
    rw [q, ha9] at h0
    cases h0
  have rd' : rh ≠ d := fun q => by
    rw [q, hd9] at h0
    cases h0
  have re : rh ≠ en' := fun q => by
    rw [q, hen'] at h0
    cases h0
  have ml := hk.nl
  refine q_forR1 (n := (ns.length : Int)) (ea_cons (ev_is (ev_cb (ea_cons (ev_var rfl) ea_nil) (rc_len (sq_of (e5 _ _ ha9)))) (by rw [len_strs])) ea_nil) (by omega) (fun i σ' H' => (∃ p q k, σ' = [some (.ref a), some (.ref d), some (.str home), some (.ref en'), p, q, some (.ref rh), k, none]) ∧ Ex H9 H' ∧ ∃ S, H' rh = some (.lst (strsV S)) ∧ S.Nodup ∧ (∀ z ∈ S, z ∈ ns) ∧ home ∈ S ∧ ∀ (j : Nat) (y : Str), j < i → S[j]? = some y → ∀ t ∈ L, (t.1 = y → t.2.1 ∈ S) ∧ (t.2.1 = y → t.1 ∈ S)) (fun H6 e6 => ⟨⟨_, _, none, rfl⟩, e5.trans e6, [home], e6 _ _ hrh, by simp, by simpa using hin, by simp, fun j y hj => by omega⟩) (fun i σ' H' hi pv => ?l2) fun σ' H' pv => ?_
  case l2 =>
    obtain ⟨⟨p, q, k, rfl⟩, p1, S, p2, p3, p4, p5, p6⟩ := pv
    have sl : S.length ≤ ns.length := nodup_le p3 p4
    refine s_when (b := decide ((i : Int) < (S.length : Int))) (et_test (ev_op (ev_var rfl) (ev_is (ev_cb (ea_cons (ev_var rfl) ea_nil) (rc_len (sq_of p2))) (by rw [len_strs])) rv_I0)) (fun hbi H6 e6 => ?_) (fun hbi H6 e6 => ?_)
    · have hi' : i < S.length := by
        have := of_decide_eq_true hbi
        omega
      have hSi : S[i]? = some S[i] := List.getElem?_eq_getElem hi'
      generalize S[i] = y at hSi
      have hd6 := e6 _ _ (p1 _ _ hd9)
      have rhd : rh ≠ d := rd'
      refine s_lock hd6 trivial fun od2 => ?_
      refine s_forW walk_keysT (ei_keysT (ev_var rfl) upd_same) (fun m σ' Hm => (∃ p q, σ' = [some (.ref a), some (.ref d), some (.str home), some (.ref en'), p, q, some (.ref rh), some (.int (i : Int)), none]) ∧ ∃ S', Grow (upd H6 d (.frz od2 (.dT (lawT L)))) rh ns S Hm S' ∧ ∀ t ∈ L.take m, (t.1 = y → t.2.1 ∈ S') ∧ (t.2.1 = y → t.1 ∈ S')) (fun H7 e7 => ⟨⟨_, _, rfl⟩, S, ⟨fun b o h1 _ => e7 _ _ h1, e7 _ _ (by rw [upd_ne rhd]; exact e6 _ _ p2), fun _ _ h => h, p3, p4⟩, fun t ht => by simp at ht⟩) (fun m σ' Hm _ pv => ?g1) (fun m v σ' H7 H8 hm pv yv => ?l3) fun σ' Hm pv => ?_
      case g1 =>
        obtain ⟨_, S', g, _⟩ := pv
        exact g.fr d _ upd_same (Ne.symm rhd)
      case l3 =>
        obtain ⟨⟨p', q', rfl⟩, S', g, gc⟩ := pv
        obtain ⟨rfl, k0, v0, q0, hkv, rfl, hq0⟩ := yv
        obtain ⟨tt, hLk, rfl, rfl⟩ := law_at hkv
        obtain ⟨m1, m2⟩ := hk.mem tt (List.mem_of_getElem? hLk)
        refine g_pair (by rfl) hq0 ?_
        refine q_whenG (b := decide (tt.1 = y) && !decide (tt.2.1 ∈ S')) (fun Hx => ∃ S'', Grow (upd H6 d (.frz od2 (.dT (lawT L)))) rh ns S Hx S'' ∧ (∀ t ∈ L.take m, (t.1 = y → t.2.1 ∈ S'') ∧ (t.2.1 = y → t.1 ∈ S'')) ∧ (tt.1 = y → tt.2.1 ∈ S'')) (et_and (et_test (ev_op (ev_var rfl) (ev_op (ev_var rfl) (ev_var rfl) (rv_ixLn (sq_of g.at_) (strs_at' (g.pre i y hSi)))) rv_eqS)) fun _ => et_test (ev_ninS (ev_var rfl) (ev_var rfl) (sq_of g.at_))) (fun hb H9 e9 kk => ?_) (fun hb H9 e9 => ?_) fun Hx hx => ?_
        · rw [Bool.and_eq_true] at hb
          have hn : tt.2.1 ∉ S' := by simpa using hb.2
          refine s_app (l := rh) (v := .str tt.2.1) (e9 _ _ g.at_) (ev_var rfl) (ev_var rfl) (by rw [strs_len]; have := nodup_le g.nd g.sub; omega) fun H10 e10 => kk _ ⟨S' ++ [tt.2.1], g.add (e9.trans e10) m2 hn, fun t ht => ?_, fun _ => by simp⟩
          exact ⟨fun h => List.mem_append_left _ ((gc t ht).1 h), fun h => List.mem_append_left _ ((gc t ht).2 h)⟩
        · refine ⟨S', g.mono e9, gc, fun h => ?_⟩
          rw [Bool.and_eq_false_iff] at hb
          rcases hb with hb | hb
          · exact absurd h (of_decide_eq_false hb)
          · simpa using hb
        · obtain ⟨S1, g1, c1, d1⟩ := hx
          refine s_when (b := decide (tt.2.1 = y) && !decide (tt.1 ∈ S1)) (et_and (et_test (ev_op (ev_var rfl) (ev_op (ev_var rfl) (ev_var rfl) (rv_ixLn (sq_of g1.at_) (strs_at' (g1.pre i y hSi)))) rv_eqS)) fun _ => et_test (ev_ninS (ev_var rfl) (ev_var rfl) (sq_of g1.at_))) (fun hb H9 e9 => ?_) (fun hb H9 e9 => ?_)
          · rw [Bool.and_eq_true] at hb
            have hn : tt.1 ∉ S1 := by simpa using hb.2
            refine s_app (l := rh) (v := .str tt.1) (e9 _ _ g1.at_) (ev_var rfl) (ev_var rfl) (by rw [strs_len]; have := nodup_le g1.nd g1.sub; omega) fun H10 e10 => ⟨⟨_, _, rfl⟩, S1 ++ [tt.1], g1.add (e9.trans e10) m1 hn, fun t ht => ?_⟩
            rw [take_snoc hLk] at ht
            rcases List.mem_append.mp ht with ht | ht
            · exact ⟨fun h => List.mem_append_left _ ((c1 t ht).1 h), fun h => List.mem_append_left _ ((c1 t ht).2 h)⟩
            · rw [List.mem_singleton.mp ht]
              exact ⟨fun h => List.mem_append_left _ (d1 h), fun _ => by simp⟩
          · refine ⟨⟨_, _, rfl⟩, S1, g1.mono e9, fun t ht => ?_⟩
            rw [take_snoc hLk] at ht
            rcases List.mem_append.mp ht with ht | ht
            · exact c1 t ht
            · rw [List.mem_singleton.mp ht]
              refine ⟨d1, fun h => ?_⟩
              rw [Bool.and_eq_false_iff] at hb
              rcases hb with hb | hb
              · exact absurd h (of_decide_eq_false hb)
              · simpa using hb
      · obtain ⟨⟨p', q', rfl⟩, S', g, gc⟩ := pv
        rw [rl, List.take_length] at gc
        refine ⟨g.fr d _ upd_same (Ne.symm rhd), ⟨_, _, _, rfl⟩, fun b o hb => ?_, S', ?_, g.nd, g.sub, ?_, fun j z hj hz t ht => ?_⟩
        · by_cases hbd : b = d
          · rw [hbd, upd_same]
            rw [hbd, hd9] at hb
            exact hb
          · rw [upd_ne hbd]
            exact g.fr b o (by rw [upd_ne hbd]; exact e6 _ _ (p1 _ _ hb)) (ne_of_none hb h0)
        · rw [upd_ne rhd]
          exact g.at_
        · obtain ⟨j, hj, e⟩ := List.getElem_of_mem p5
          exact List.mem_of_getElem? (g.pre j home (by rw [List.getElem?_eq_getElem hj, e]))
        · have hjS : j < S.length := by omega
          have e1 : S[j]? = some S[j] := List.getElem?_eq_getElem hjS
          have e2 : S[j] = z := Option.some.inj ((g.pre j _ e1).symm.trans hz)
          rw [e2] at e1
          by_cases hji : j = i
          · have : z = y := Option.some.inj (e1.symm.trans (hji ▸ hSi))
            rw [this]
            exact gc t ht
          · have hc := p6 j z (by omega) e1 t ht
            have sub : ∀ x ∈ S, x ∈ S' := fun x hx => by
              obtain ⟨j', hj', e'⟩ := List.getElem_of_mem hx
              exact List.mem_of_getElem? (g.pre j' x (by rw [List.getElem?_eq_getElem hj', e']))
            exact ⟨fun h => sub _ (hc.1 h), fun h => sub _ (hc.2 h)⟩
    · refine ⟨⟨_, _, _, rfl⟩, p1.trans e6, S, e6 _ _ p2, p3, p4, p5, fun j z hj hz t ht => ?_⟩
      have hjS := (List.getElem?_eq_some_iff.mp hz).1
      have := of_decide_eq_false hbi
      exact p6 j z (by omega) hz t ht
  obtain ⟨⟨p, q, k, rfl⟩, p1, S, p2, p3, p4, p5, p6⟩ := pv
  have p6 : ∀ t ∈ L, t.1 ∈ S ↔ t.2.1 ∈ S := fun t ht => by
    have hS : S.length ≤ ns.length := nodup_le p3 p4
    refine ⟨fun h => ?_, fun h => ?_⟩
    · obtain ⟨j, hj, e⟩ := List.getElem_of_mem h
      exact (p6 j t.1 (by omega) (by rw [List.getElem?_eq_getElem hj, e]) t ht).1 rfl
    · obtain ⟨j, hj, e⟩ := List.getElem_of_mem h
      exact (p6 j t.2.1 (by omega) (by rw [List.getElem?_eq_getElem hj, e]) t ht).2 rfl
  have en9 := p1 _ _ hen'
  have hme : ∀ z ∈ endsL L, isName z = true := fun z hz => hk.nm z (endsL_mem hk.mem hz)
  have len : (endsL L).length ≤ 40000 := by
    rw [endsL_len]
    have := hk.few
    omega
  refine q_when (b := !decide (endsL L = []) && (!decide (home ∈ endsL L) || !(((endsL L).map fun z => decide (z ∈ S)).all id))) (et_and (et_test (ev_neNil (ev_var rfl) (sq_of en9) hme)) fun _ => et_or (et_test (ev_ninS (ev_var rfl) (ev_var rfl) (sq_of en9))) fun _ => et_not (et_B (ev_cbL (xs := (((endsL L).map fun z => decide (z ∈ S)).map V.bl)) (el_is (el_lcA (endsL L) V.str (fun _ => true) (fun z => .bl (decide (z ∈ S))) (ev_var rfl) (sq_of en9) len (fun _ => rfl) (fun _ _ _ _ _ H7 e7 Q k => k H7 (Ex.refl _)) fun i z H7 e7 hz _ => ev_inS (ev_var rfl) (ev_var rfl) (sq_of (e7 _ _ p2))) (by rw [filter_yes, List.map_map]; rfl)) fun p H7 e7 h7 => rc_all (sq_of h7)))) (fun hb6 H6 e6 => ?_) (fun hb6 H6 e6 => ?_)
  · refine s_ret (v := .str "apart") ev_c fun H7 e7 => hq _ (.apart (S := S) hin ‹_› ?_ p5 p6 ?_) _ (((e09.trans p1).trans e6).trans e7)
    · rintro rfl
      simp [endsL] at hb6
    · rw [Bool.and_eq_true, Bool.or_eq_true] at hb6
      rcases hb6.2 with h | h
      · exact .inl (by simpa using h)
      · refine .inr ?_
        simpa using h
  · exact s_ret (v := .str "told") ev_c fun H7 e7 => hq _ .told _ (((e09.trans p1).trans e6).trans e7)
end
end KD
set_option maxHeartbeats 2000000
/-! what the law holds due for a question -/
namespace KD
open PySem PySem.Spec PyProof.Rows L2 Evl
section
variable {P : Program} {w : World} {K : PySem.W.Frag} {mg : Str → Option Value} {base : Heap}
inductive QuestD (ns : List Str) (L : List LTie) : List Str → Str → Prop
  | walk {h v : Str} {r : List Str} : WalkD ns L h v → QuestD ns L ("walk" :: h :: r) v
  | oddName {zs : List Str} {z : Str} : z ∈ zs → z ∉ ns → QuestD ns L ("odd" :: zs) "name"
  | oddBad {zs : List Str} : (∀ z ∈ zs, z ∈ ns) → (onceS zs).length < zs.length → QuestD ns L ("odd" :: zs) "bad"
  | oddTold {zs : List Str} : QuestD ns L ("odd" :: zs) "told"
  | row {zs : List Str} : (zs.length ≠ ns.length ∨ ("-1" : Str) ∈ ("wanted" : Str) :: zs) → QuestD ns L ("wanted" :: zs) "row"
  | many {zs : List Str} {is : List Int} : zs.length = ns.length → ("-1" : Str) ∉ ("wanted" : Str) :: zs → zs.map PySem.intText? = is.map some → 24 < is.sum → QuestD ns L ("wanted" :: zs) "many"
  | told {zs : List Str} : QuestD ns L ("wanted" :: zs) "told"
inductive QuestOk : List Str → Prop
  | walk {h : Str} {r : List Str} : QuestOk ("walk" :: h :: r)
  | odd {zs : List Str} : QuestOk ("odd" :: zs)
  | wanted {zs : List Str} {is : List Int} : zs.map PySem.intText? = is.map some → (∀ z ∈ zs, z.length ≤ 640) → QuestOk ("wanted" :: zs)
def sp_l_question_due (K : PySem.W.Frag) : Sp := fun vs H Q _ => ∃ (a d b : Addr) (ns : List Str) (L : List LTie) (ws : List Str), vs = [.ref a, .ref d, .ref b] ∧ H a = some (.lst (strsV ns)) ∧ H d = some (.dT (lawT L)) ∧ H b = some (.lst (strsV ws)) ∧ LawOk ns L ∧ QuestOk ws ∧ ws.length ≤ 100 ∧ ∀ v, QuestD ns L ws v → RV1 (.str v) H Q
theorem ok_l_question_due (T : Txt w K mg) : Ok P w K mg base CX0 2 ("_law_question_due", none) ["_law_names", "_law_table", "_law_words"] (sp_l_question_due K) := by
  have c_l_walk_due := ok_l_walk_due (P := P) (base := base) T
  refine ok0 T.f_l_question_due sc_l_question_due (fun vs H Q E h => by obtain ⟨_, _, _, _, _, _, rfl, _⟩ := h; rfl) (fun _ _ _ _ _ _ us hl => match us, hl with | [_, _, _], _ => rfl) fun f cdv A outer s H vs Q E hr h => ?_
  have nd := sc_l_question_due.nd
  have hu := hu_of hr
  refine ⟨_, (pss_cons (ps_if (pt_cmpR op_eq (pe_ix ix_list (pv 2) pe_int (fun _ _ => rfl)) pe_str (nomark _)) (pss_one (ps_ret (pc c_l_walk_due hr (by decide) T.g_l_walk_due (pa_cons (pv 0) (pa_cons (pv 1) (pa_cons (pe_ix ix_list (pv 2) pe_int (fun _ _ => rfl)) pa_nil)))))) pss_nil)
 (pss_cons (ps_if (pt_cmpR op_eq (pe_ix ix_list (pv 2) pe_int (fun _ _ => rfl)) pe_str (nomark _)) (pss_cons (ps_for PassesOwn.never rfl (pi_list (pe_slice sl_list (pv 2) (po_some pe_int) po_none)) (pg_name (i := 3) nd rfl (Or.inl rfl)) (pss_one (ps_if (pt_cmpR op_notIn_seq (pv 3) (pv 0) rfl) (pss_one (ps_ret pe_str)) pss_nil)))
 (pss_one (ps_ret (pe_ix ix_list (pe_lst (pa_cons pe_str (pa_cons pe_str pa_nil))) (pe_callTy call_int1 (by rfl) T.n_int (by decide +kernel) (pa_cons (pe_cmpR op_lt (pe_lenSetT (pe_slice sl_list (pv 2) (po_some pe_int) po_none) T.n_len T.n_set) (pe_op op_sub (pe_callB call_len_seq (by rfl) T.n_len (by decide +kernel) (pa_cons (pv 2) pa_nil)) pe_int) (nomark _)) pa_nil)) (fun _ _ => rfl))))) pss_nil)
 (pss_cons (ps_if (PW.pt (pw_or (pt_cmpR op_ne (pe_callB call_len_seq (by rfl) T.n_len (by decide +kernel) (pa_cons (pv 2) pa_nil)) (pe_op op_add (pe_callB call_len_seq (by rfl) T.n_len (by decide +kernel) (pa_cons (pv 0) pa_nil)) pe_int) (nomark _)) (pw_or1 (pt_cmpR op_in_seq pe_str (pv 2) rfl)))) (pss_one (ps_ret pe_str)) pss_nil)
 (pss_cons (ps_if (pt_cmpR op_gt (pe_callB (cr_sum rfl) (by rfl) T.n_sum (by decide +kernel) (pa_cons (pe_lc (own := [("_law_word", 3)]) (g := gName 3) rfl nd (pi_list (pe_slice sl_list (pv 2) (po_some pe_int) po_none)) (blkOk_by (N := ["_law_names", "_law_table", "_law_words", "_law_word"]) (own := [("_law_word", 3)]) (sc := defScope s_l_question_due) (by decide +kernel)) (fun _ _ _ _ _ => (pg_name (i := 3) nd rfl (Or.inl rfl))) (fun _ _ _ _ _ => pts_nil) (fun _ _ _ _ _ => (pe_callTy call_int_str (by rfl) T.n_int (by decide +kernel) (pa_cons (pv 3) pa_nil)))) pa_nil)) pe_int (nomark _)) (pss_one (ps_ret pe_str)) pss_nil)
 (pss_one (ps_ret pe_str)))))), ?_⟩
  try dsimp only [cxOf, L2.Cx.nox, L2.Cx.blk]
  obtain ⟨a, d, b, ns, L, ws, rfl, ha, hd, hb, hk, hw, hwl, hq⟩ := h
  have hslice : ∀ {H5 : Hp} {σ : L2.St} {w0 : Str} {zs : List Str}, ws = w0 :: zs → Ex H H5 → σ[2]? = some (some (.ref b)) → EvL (tSl (rSlL K) (tVar 2) (tPart (L2.tC (V.int 1))) tNoPart) σ H5 (strsV zs) := fun hws e hs => by
    have g := el_sl (K := K) (lo := some ((1 : Nat) : Int)) (hi := none) (ev_var hs) (eo_some ev_c) eo_none (sq_of (e _ _ hb))
    rw [cutV_from, hws] at g
    exact g
  cases hw with
  | @walk h r =>
    refine q_when (b := true) (et_is (et_test (ev_op (ev_wd 0 (ev_var rfl) (sq_of hb) rfl rfl) ev_c rv_eqS)) (by decide +kernel)) (fun _ H1 e1 => ?_) (fun hf => by cases hf)
    have hm : SpP (sp_l_walk_due K) [.ref a, .ref d, .str h] H1 (fun v _ => ∃ x, v = .str x ∧ WalkD ns L h x) := fun H2 e2 Q q E => ⟨a, d, ns, L, h, rfl, (e1.trans e2) _ _ ha, (e1.trans e2) _ _ hd, hk, fun v hv H3 e3 => q _ H3 e3 ⟨v, rfl, hv⟩⟩
    refine s_retP (ep_tC (ea_cons (ev_var rfl) (ea_cons (ev_var rfl) (ea_cons (ev_wd 1 (ev_var rfl) (sq_of (e1 _ _ hb)) rfl rfl) ea_nil))) hm) fun v H2 e2 hv => ?_
    obtain ⟨x, rfl, hx⟩ := hv
    exact hq _ (.walk hx) _ (e1.trans e2)
  | @odd zs =>
    refine q_when (b := false) (et_is (et_test (ev_op (ev_wd 0 (ev_var rfl) (sq_of hb) rfl rfl) ev_c rv_eqS)) (by decide +kernel)) (fun hf => by cases hf) (fun _ H1 e1 => ?_)
    refine q_when (b := true) (et_is (et_test (ev_op (ev_wd 0 (ev_var rfl) (sq_of (e1 _ _ hb)) rfl rfl) ev_c rv_eqS)) (by decide +kernel)) (fun _ H2 e2 => ?_) (fun hf => by cases hf)
    have e12 := e1.trans e2
    have zl : zs.length ≤ 1000 := by
      rw [List.length_cons] at hwl
      omega
    refine q_forNLn (xs := strsV zs) (hslice rfl e12 rfl) (fun p i σ' H' => (∃ q, σ' = [some (.ref a), some (.ref d), some (.ref b), q]) ∧ Ex H2 H' ∧ H' p = some (.lst (strsV zs)) ∧ ∀ z ∈ zs.take i, z ∈ ns) (fun p H3 _ e3 h3 => ⟨⟨none, rfl⟩, e3, h3, fun z hz => by simp at hz⟩) (fun p i σ' H' _ pv => sq_of pv.2.2.1) (fun p i x σ' H' hx pv => ?lo) fun p σ' H' pv => ?_
    case lo =>
      obtain ⟨⟨q, rfl⟩, pe, pp, pz⟩ := pv
      unfold strsV at hx
      rw [List.getElem?_map] at hx
      obtain ⟨z, hz, rfl⟩ := Option.map_eq_some_iff.mp hx
      refine s_when (b := !decide (z ∈ ns)) (et_test (ev_ninS (ev_var rfl) (ev_var rfl) (sq_of (pe _ _ (e12 _ _ ha))))) (fun hc H4 e4 => ?_) (fun hc H4 e4 => ?_)
      · exact s_ret (v := .str "name") ev_c fun H5 e5 => hq _ (.oddName (List.mem_of_getElem? hz) (by simpa using hc)) _ (((e12.trans pe).trans e4).trans e5)
      · refine ⟨⟨_, rfl⟩, pe.trans e4, e4 _ _ pp, fun y hy => ?_⟩
        rw [take_snoc hz] at hy
        rcases List.mem_append.mp hy with h | h
        · exact pz y h
        · rw [List.mem_singleton.mp h]
          simpa using hc
    · obtain ⟨⟨q, rfl⟩, pe, pp, pz⟩ := pv
      rw [strs_len, List.take_length] at pz
      have e13 := e12.trans pe
      let us : List Str := ["told", "bad"]
      let j : Nat := if (onceS zs).length < zs.length then 1 else 0
      have hj : ∃ v, us[j]? = some v ∧ QuestD ns L ("odd" :: zs) v := by
        by_cases c1 : (onceS zs).length < zs.length
        · exact ⟨"bad", by simp [us, j, c1], .oddBad pz c1⟩
        · exact ⟨"told", by simp [us, j, c1], .oddTold⟩
      obtain ⟨v, hv, hd⟩ := hj
      have hz : (if decide (((onceS zs).length : Int) < ((zs.length : Int) + 1) - 1) = true then 1 else 0 : Int) = (j : Int) := by
        by_cases c1 : (onceS zs).length < zs.length
        · have : ((onceS zs).length : Int) < ((zs.length : Int) + 1) - 1 := by omega
          simp only [j, c1, this, decide_true, if_true]
          rfl
        · have : ¬ ((onceS zs).length : Int) < ((zs.length : Int) + 1) - 1 := by omega
          simp only [j, c1, this, decide_false, if_false]
          rfl
      refine s_ret (v := .str v) (ev_opL1 (xs := strsV us) (y := .int (j : Int)) (el_lst (ea_cons ev_c (ea_cons ev_c ea_nil)) (Nat.le_of_ble_eq_true rfl)) (fun H4 e4 => ev_is (ev_cb (ea_cons (ev_op (x := .int ((onceS zs).length : Nat)) (fun H5 e5 Q k => hslice rfl ((e13.trans e4).trans e5) rfl H5 (Ex.refl _) _ fun p6 H6 _ e6 h6 => ⟨p6, zs, rfl, sq_of h6, zl, k H6 e6⟩) (ev_op (ev_is (ev_cb (ea_cons (ev_var rfl) ea_nil) (rc_len (sq_of ((e13.trans e4) _ _ hb)))) (by rw [len_strs]; rfl)) ev_c rv_I0) rv_I0) ea_nil) rc_intB) (congrArg V.int hz)) fun p H4 hp e4 => rv_ixLn (sq_of hp) (strs_at' hv)) fun H4 e4 => hq _ hd _ (e13.trans e4)
  | @wanted zs is his hzl =>
    refine q_when (b := false) (et_is (et_test (ev_op (ev_wd 0 (ev_var rfl) (sq_of hb) rfl rfl) ev_c rv_eqS)) (by decide +kernel)) (fun hf => by cases hf) (fun _ H1 e1 => ?_)
    refine q_when (b := false) (et_is (et_test (ev_op (ev_wd 0 (ev_var rfl) (sq_of (e1 _ _ hb)) rfl rfl) ev_c rv_eqS)) (by decide +kernel)) (fun hf => by cases hf) (fun _ H2 e2 => ?_)
    have e12 := e1.trans e2
    have ha2 := e12 _ _ ha
    have hb2 := e12 _ _ hb
    refine q_when (b := !decide ((zs.length : Int) + 1 = (ns.length : Int) + 1) || decide (("-1" : Str) ∈ ("wanted" : Str) :: zs)) (et_or (et_test (ev_op (ev_is (ev_cb (ea_cons (ev_var rfl) ea_nil) (rc_len (sq_of hb2))) (by rw [len_strs]; rfl)) (ev_op (ev_is (ev_cb (ea_cons (ev_var rfl) ea_nil) (rc_len (sq_of ha2))) (by rw [len_strs])) ev_c rv_I0) rv_neI)) fun _ => et_test (ev_inS ev_c (ev_var rfl) (sq_of hb2))) (fun hc H3 e3 => ?_) (fun hc H3 e3 => ?_)
    · refine s_ret (v := .str "row") ev_c fun H4 e4 => hq _ (.row ?_) _ ((e12.trans e3).trans e4)
      rw [Bool.or_eq_true] at hc
      rcases hc with hc | hc
      · left
        intro q
        simp [q] at hc
      · exact .inr (of_decide_eq_true hc)
    · rw [Bool.or_eq_false_iff] at hc
      have c1 : zs.length = ns.length := by
        have := hc.1
        simp only [Bool.not_eq_false', decide_eq_true_eq] at this
        omega
      have c2 := of_decide_eq_false hc.2
      have e13 := e12.trans e3
      refine q_when (b := decide (24 < is.sum)) (et_test (ev_op (ev_cbL (xs := is.map V.int) (el_ints (zs := zs) (hslice rfl e13 rfl) (by rw [List.length_cons] at hwl; omega) hzl his (fun _ => rfl) (fun _ => rfl)) fun p H7 e7 h7 => rc_sum (sq_of h7)) ev_c rv_I0)) (fun h H4 e4 => ?_) (fun h H4 e4 => ?_)
      · exact s_ret (v := .str "many") ev_c fun H5 e5 => hq _ (.many c1 c2 his (of_decide_eq_true h)) _ ((e13.trans e4).trans e5)
      · exact s_ret (v := .str "told") ev_c fun H5 e5 => hq _ .told _ ((e13.trans e4).trans e5)
end
end KD
set_option maxHeartbeats 2000000
/-! what the law holds behind a change: the promise, and lists of texts compared -/
namespace KD
open PySem PySem.Spec PyProof.Rows L2 Evl
section
def offT (y z : Str) (t : LTie) : Bool := !(decide (t.1 = y) && decide (t.2.1 = z)) && !(decide (t.1 = z) && decide (t.2.1 = y))
def apartT (y : Str) (t : LTie) : Bool := !decide (t.1 = y) && !decide (t.2.1 = y)
def renS (y z x : Str) : Str := if x = y then z else x
def renT (y z : Str) (t : LTie) : LTie := (renS y z t.1, renS y z t.2.1, t.2.2)
inductive DoneR (ns : List Str) (L : List LTie) : List Str → List Str → List LTie → Prop
  | point {f : Str} : DoneR ns L ["point", f] (ns ++ [f]) L
  | gone {y : Str} : y ∈ ns → DoneR ns L ["gone", y] (ns.eraseIdx (idx ns y)) (L.filter (apartT y))
  | rename {y z : Str} : y ∈ ns → z ∉ ns → DoneR ns L ["rename", y, z] (ns.set (idx ns y) z) (L.map (renT y z))
  | tie {y z x : Str} {h : Int} : y ∈ ns → z ∈ ns → PySem.intText? x = some h → DoneR ns L ["tie", y, z, x] ns (L.filter (offT y z) ++ [(y, z, h)])
  | untie {y z : Str} : y ∈ ns → z ∈ ns → DoneR ns L ["untie", y, z] ns (L.filter (offT y z))
theorem eqv_strs2 : ∀ (l m : List Str), PyData.eqv (.list (l.map PyData.str)) (.list (m.map PyData.str)) = decide (l = m)
  | [], [] => rfl
  | [], b :: m => rfl
  | a :: l, [] => rfl
  | a :: l, b :: m => by
    have ih := eqv_strs2 l m
    simp only [List.map_cons, PyData.eqv] at ih ⊢
    rw [PyData.eqvAll, ih, PyData.eqv]
    by_cases h1 : a = b
    · by_cases h2 : l = m <;> simp [h1, h2]
    · simp [h1]
theorem lt_tri : ∀ (a b : List Nat), ltCps a b = false → ltCps b a = false → a = b
  | [], [], _, _ => rfl
  | [], b :: r, h, _ => by simp [ltCps] at h
  | a :: l, [], _, h => by simp [ltCps] at h
  | a :: l, b :: r, h, k => by
    unfold ltCps at h k
    by_cases h1 : a < b
    · simp [h1] at h
    · by_cases h2 : b < a
      · simp [h2] at k
      · have e : a = b := by omega
        subst e
        simp at h k
        rw [lt_tri l r h k]
theorem perm2 {ys : List Str} {a b : Str} (h : ys.Perm [a, b]) : ys = [a, b] ∨ ys = [b, a] := by
  have hl := h.length_eq
  match ys, hl with
  | [x, y], _ =>
    have h1 : x = a ∨ x = b := by
      have := h.mem_iff (a := x)
      simpa using this
    rcases h1 with rfl | rfl
    · have := (List.perm_cons x).mp h
      rw [List.singleton_perm_singleton.mp this]
      exact .inl rfl
    · have h2 : [x, y].Perm [x, a] := h.trans (List.Perm.swap ..)
      have := (List.perm_cons x).mp h2
      rw [List.singleton_perm_singleton.mp this]
      exact .inr rfl
theorem sorted2 {a b c d : Str} {ys zs : List Str} (h1 : ys.Perm [a, b]) (s1 : sortedS ys = true) (h2 : zs.Perm [c, d]) (s2 : sortedS zs = true) : (ys = zs) ↔ ((a = c ∧ b = d) ∨ (a = d ∧ b = c)) := by
  have key : ∀ {x y : Str}, sortedS [x, y] = true → sortedS [y, x] = true → x = y := fun {x y} p q => by
    simp [sortedS, risingS] at p q
    have := lt_tri _ _ q p
    cases x
    cases y
    exact congrArg Str.mk (Array.toList_inj.mp this)
  constructor
  · intro e
    subst e
    have := h1.symm.trans h2
    rcases perm2 this with e | e
    · left
      simpa using e
    · right
      simpa using e
  · rintro (⟨rfl, rfl⟩ | ⟨rfl, rfl⟩)
    · rcases perm2 h1 with rfl | rfl <;> rcases perm2 h2 with rfl | rfl
      · rfl
      · rw [key s1 s2]
      · rw [key s1 s2]
      · rfl
    · rcases perm2 h1 with rfl | rfl <;> rcases perm2 h2 with rfl | rfl
      · rw [key s1 s2]
      · rfl
      · rfl
      · rw [key s1 s2]
def pairOf (w0 w1 w2 : Str) (t : LTie) : Str × Str := if w0 = "rename" then (renS w1 w2 t.1, renS w1 w2 t.2.1) else (t.1, t.2.1)
def keptB (w0 w1 w2 : Str) (t : LTie) : Bool := !(decide (w0 = "gone") && (decide (w1 = (pairOf w0 w1 w2 t).1) || decide (w1 = (pairOf w0 w1 w2 t).2))) && !((decide (w0 = "tie") || decide (w0 = "untie")) && decide (((pairOf w0 w1 w2 t).1 = w1 ∧ (pairOf w0 w1 w2 t).2 = w2) ∨ ((pairOf w0 w1 w2 t).1 = w2 ∧ (pairOf w0 w1 w2 t).2 = w1)))
def loopL (w0 w1 w2 : Str) (L : List LTie) : List LTie := (L.filter (keptB w0 w1 w2)).map fun t => ((pairOf w0 w1 w2 t).1, (pairOf w0 w1 w2 t).2, t.2.2)
theorem loop_point {w1 w2 : Str} {L : List LTie} : loopL "point" w1 w2 L = L := by
  have hp : ∀ t, pairOf "point" w1 w2 t = (t.1, t.2.1) := fun t => if_neg (by decide +kernel)
  have hk : ∀ t, keptB "point" w1 w2 t = true := fun t => by
    unfold keptB
    have h1 : decide (("point" : Str) = "gone") = false := by decide +kernel
    have h2 : decide (("point" : Str) = "tie") = false := by decide +kernel
    have h3 : decide (("point" : Str) = "untie") = false := by decide +kernel
    rw [h1, h2, h3]
    simp
  unfold loopL
  rw [List.filter_eq_self.mpr fun t _ => hk t]
  simp only [hp]
  exact List.map_id' L
theorem loop_gone {w1 w2 : Str} {L : List LTie} : loopL "gone" w1 w2 L = L.filter (apartT w1) := by
  have hp : ∀ t, pairOf "gone" w1 w2 t = (t.1, t.2.1) := fun t => if_neg (by decide +kernel)
  have hk : ∀ t, keptB "gone" w1 w2 t = apartT w1 t := fun t => by
    unfold keptB apartT
    have h1 : decide (("gone" : Str) = "gone") = true := by decide +kernel
    have h2 : decide (("gone" : Str) = "tie") = false := by decide +kernel
    have h3 : decide (("gone" : Str) = "untie") = false := by decide +kernel
    rw [h1, h2, h3, hp]
    simp [eq_comm]
  unfold loopL
  rw [show keptB "gone" w1 w2 = apartT w1 from funext hk]
  simp only [hp]
  exact List.map_id' _
theorem loop_rename {w1 w2 : Str} {L : List LTie} : loopL "rename" w1 w2 L = L.map (renT w1 w2) := by
  have hp : ∀ t, pairOf "rename" w1 w2 t = (renS w1 w2 t.1, renS w1 w2 t.2.1) := fun t => if_pos rfl
  have hk : ∀ t, keptB "rename" w1 w2 t = true := fun t => by
    unfold keptB
    have h1 : decide (("rename" : Str) = "gone") = false := by decide +kernel
    have h2 : decide (("rename" : Str) = "tie") = false := by decide +kernel
    have h3 : decide (("rename" : Str) = "untie") = false := by decide +kernel
    rw [h1, h2, h3]
    simp
  unfold loopL
  rw [List.filter_eq_self.mpr fun t _ => hk t]
  simp only [hp]
  rfl
theorem loop_tie {w1 w2 : Str} {L : List LTie} {v : Str} (hv : v = "tie" ∨ v = "untie") : loopL v w1 w2 L = L.filter (offT w1 w2) := by
  have hr : ¬ v = "rename" := by
    rcases hv with rfl | rfl <;> decide +kernel
  have hg : decide (v = "gone") = false := by
    rcases hv with rfl | rfl <;> decide +kernel
  have ht : (decide (v = "tie") || decide (v = "untie")) = true := by
    rcases hv with rfl | rfl <;> decide +kernel
  have hp : ∀ t, pairOf v w1 w2 t = (t.1, t.2.1) := fun t => if_neg hr
  have hk : ∀ t, keptB v w1 w2 t = offT w1 w2 t := fun t => by
    unfold keptB offT
    rw [hg, ht, hp]
    simp
  unfold loopL
  rw [show keptB v w1 w2 = offT w1 w2 from funext hk]
  simp only [hp]
  exact List.map_id' _
def lkey (t : LTie) : List Key := ks t.1 t.2.1
theorem loop_app (w0 w1 w2 : Str) (L M : List LTie) : loopL w0 w1 w2 (L ++ M) = loopL w0 w1 w2 L ++ loopL w0 w1 w2 M := by
  unfold loopL
  rw [List.filter_append, List.map_append]
theorem loop_one {w0 w1 w2 : Str} {t : LTie} : loopL w0 w1 w2 [t] = if keptB w0 w1 w2 t = true then [((pairOf w0 w1 w2 t).1, (pairOf w0 w1 w2 t).2, t.2.2)] else [] := by
  unfold loopL
  rw [List.filter_cons]
  split <;> rfl
theorem ks_inj {a b c d : Str} (h : ks a b = ks c d) : a = c ∧ b = d := by
  unfold ks at h
  simpa using h
theorem renS_inj {ns : List Str} {y z a b : Str} (hz : z ∉ ns) (ha : a ∈ ns) (hb : b ∈ ns) (e : renS y z a = renS y z b) : a = b := by
  unfold renS at e
  split at e
  · rename_i h1
    split at e
    · rename_i h2
      rw [h1, h2]
    · exact absurd (e ▸ hb) hz
  · split at e
    · exact absurd (e ▸ ha) hz
    · exact e
theorem loop_nd {ns : List Str} {L : List LTie} {w0 w1 w2 : Str} (hm : ∀ t ∈ L, t.1 ∈ ns ∧ t.2.1 ∈ ns) (hn : (L.map fun t => ks t.1 t.2.1).Nodup) (hw : w0 = "rename" → w2 ∉ ns) : ((loopL w0 w1 w2 L).map lkey).Nodup := by
  unfold loopL
  rw [List.map_map]
  unfold List.Nodup at hn ⊢
  rw [List.pairwise_map] at hn ⊢
  refine (hn.filter _).imp_of_mem ?_
  intro a b ha hb h e
  obtain ⟨a1, a2⟩ := hm a (List.mem_filter.mp ha).1
  obtain ⟨b1, b2⟩ := hm b (List.mem_filter.mp hb).1
  have e : ks (pairOf w0 w1 w2 a).1 (pairOf w0 w1 w2 a).2 = ks (pairOf w0 w1 w2 b).1 (pairOf w0 w1 w2 b).2 := e
  obtain ⟨e1, e2⟩ := ks_inj e
  unfold pairOf at e1 e2
  by_cases c : w0 = "rename"
  · rw [if_pos c, if_pos c] at e1 e2
    exact h (by rw [renS_inj (hw c) a1 b1 e1, renS_inj (hw c) a2 b2 e2])
  · rw [if_neg c, if_neg c] at e1 e2
    exact h (by rw [show a.1 = b.1 from e1, show a.2.1 = b.2.1 from e2])
theorem cutV_13 {a b c : Str} {r : List Str} : cutV (strsV (a :: b :: c :: r)) (some ((1 : Nat) : Int)) (some ((3 : Nat) : Int)) = strsV [b, c] := by
  unfold cutV
  rw [HT.sIx_nat, HT.sIx_nat, strs_len]
  have h1 : min 1 (a :: b :: c :: r).length = 1 := by
    simp only [List.length_cons]
    omega
  have h3 : min 3 (a :: b :: c :: r).length = 3 := by
    simp only [List.length_cons]
    omega
  rw [h1, h3]
  rfl
theorem loop_new {w0 w1 w2 : Str} {L : List LTie} {k : Nat} {t : LTie} (hn : ((loopL w0 w1 w2 L).map lkey).Nodup) (ht : L[k]? = some t) (hk : keptB w0 w1 w2 t = true) : valV (lawT (loopL w0 w1 w2 (L.take k))) (ks (pairOf w0 w1 w2 t).1 (pairOf w0 w1 w2 t).2) = none := by
  have e : L = L.take k ++ [t] ++ L.drop (k + 1) := by
    rw [← take_snoc ht, List.take_append_drop]
  rw [e, loop_app, loop_app, loop_one, if_pos hk, List.map_append, List.map_append] at hn
  have h1 := (List.nodup_append.mp hn).1
  have h2 := (List.nodup_append.mp h1).2.2
  refine valV_none' fun p hp q => ?_
  unfold lawT at hp
  obtain ⟨u, hu, rfl⟩ := List.mem_map.mp hp
  exact h2 _ (List.mem_map.mpr ⟨u, hu, rfl⟩) _ (List.mem_singleton.mpr rfl) q
end
section
variable {K : PySem.W.Frag} {σ : L2.St} {H : Hp}
theorem ep_sortS {ta : TE} {xs : List Str} (h : EvP ta σ H fun v H1 => ∃ p, v = .ref p ∧ H1 p = some (.lst (strsV xs))) (hl : xs.length < 64) : EvP (tCB (rSortedS K) (tCons ta tNil)) σ H fun v H1 => ∃ p ys, v = .ref p ∧ H1 p = some (.lst (strsV ys)) ∧ ys.Perm xs ∧ sortedS ys = true := fun H1 e1 Q k => h H1 e1 _ fun v H2 e2 ⟨p, ev, hp⟩ =>
  ⟨p, xs, by rw [ev], sq_of hp, hl, fun ys p1 hys sys h1 => k _ _ (e2.trans (Ex.new h1)) ⟨p1, ys, rfl, upd_same, hys, sys⟩⟩
theorem ev_sort2eq {ta tb : TE} {p : Addr} {x y z u : Str} (ha : Ev ta σ H (.ref p)) (hp : H p = some (.lst (strsV [x, y]))) (hb : EvL tb σ H (strsV [z, u])) (hx : PyData.strOk x = true) (hy : PyData.strOk y = true) (hz : PyData.strOk z = true) (hu : PyData.strOk u = true) :
    Ev (tOp (rEqD K) (tCB (rSortedS K) (tCons ta tNil)) (tCB (rSortedS K) (tCons tb tNil))) σ H (.bl (decide ((x = z ∧ y = u) ∨ (x = u ∧ y = z)))) := fun H1 e1 Q q => by
  have ok2 : ∀ {a b : Str} {l : List Str}, PyData.strOk a = true → PyData.strOk b = true → l.Perm [a, b] → ∀ c ∈ l, PyData.strOk c = true := fun h1 h2 hp c hc => by
    have := hp.mem_iff.mp hc
    simp only [List.mem_cons, List.not_mem_nil, or_false] at this
    rcases this with rfl | rfl <;> assumption
  have pa : EvP (tCB (rSortedS K) (tCons ta tNil)) σ H _ := ep_sortS (xs := [x, y]) (Ev.p ha fun H2 e2 => ⟨p, rfl, e2 _ _ hp⟩) (by show 2 < 64; decide)
  have pb : EvP (tCB (rSortedS K) (tCons tb tNil)) σ H _ := ep_sortS (xs := [z, u]) (EvP.imp (EvL.p hb) fun v H2 e2 ⟨p, ev, _, h⟩ => ⟨p, ev, h⟩) (by show 2 < 64; decide)
  refine pa H1 e1 _ fun v H2 e2 ⟨p1, ys, ev, h1, g1, g2⟩ => pb H2 (e1.trans e2) _ fun v' H3 e3 ⟨p2, zs, ev', h2, g3, g4⟩ => ?_
  subst ev ev'
  refine ⟨_, _, dp_strs (sq_of (e3 _ _ h1)), dp_strs (sq_of h2), shaped_strs (ok2 hx hy g1), shaped_strs (ok2 hz hu g3), ?_⟩
  rw [eqv_strs2, decide_eq_decide.mpr (sorted2 g1 g2 g3 g4)]
  exact q _ (e2.trans e3)
end
end KD
set_option maxHeartbeats 2000000
/-! plain: the law's rows as words; broken rows are refused -/
namespace KD
open PySem PySem.Spec PyProof.Rows L2 Evl
def noB (z : Str) : Prop := 32 ∉ TL.tl z
instance (z : Str) : Decidable (noB z) := inferInstanceAs (Decidable (¬ _))
theorem joinL_cons : ∀ (l : List (List Nat)) (a : List Nat), TL.joinL [32] (a :: l) = a ++ (l.map fun p => 32 :: p).flatten
  | [], a => by simp [TL.joinL]
  | b :: l, a => by
    show a ++ ([32] ++ TL.joinL [32] (b :: l)) = _
    rw [joinL_cons l b]
    simp
theorem row_ok {row : Str} {ws : List Str} (hne : ws ≠ []) (e : TL.tl row = TL.tl (ws.headD "") ++ ((ws.tail.map fun z => 32 :: TL.tl z).flatten)) (hb : ∀ z ∈ ws, noB z) (few : ws.length ≤ 100) (short : ∀ z ∈ ws, z.length ≤ 100) : RowOk row ws := by
  obtain ⟨a, r, rfl⟩ := List.exists_cons_of_ne_nil hne
  have t1 : TL.tl (" " : Str) = [32] := by decide +kernel
  have er : row = Txt.join " " (a :: r) := TL.ext_tl (by
    rw [e, TL.join_eq, TL.tl_join, t1, List.map_cons, joinL_cons, List.map_map]
    rfl)
  have hs : Txt.split row " " = a :: r := by
    rw [er]
    exact TL.split_join (s := 32) (S := []) t1 (by decide +kernel) (by simp) fun p hp => hb p hp
  refine ⟨hs, hne, few, short, ?_⟩
  have h1 := join_le " " (a :: r)
  have h2 := sum_le (a :: r) 100 short
  have h3 : (" " : Str).length = 1 := by decide
  rw [er]
  rw [h3] at h1
  have : (a :: r).length * 100 ≤ 100 * 100 := Nat.mul_le_mul few (Nat.le_refl _)
  omega
theorem nb_nil : noB ("" : Str) := by decide +kernel
theorem nb_app {a b : Str} (h : noB a) (k : noB b) : noB (a ++ b) := fun q => by
  rw [TL.tl_append] at q
  exact (List.mem_append.mp q).elim h k
theorem nb_low {z : Str} (h : Low z) : noB z := fun q => absurd (h 32 q) (by decide +kernel)
theorem nb_name {z : Str} (h : isName z = true) : noB z := nb_low (isName_iff.mp h).2
theorem low_cut1 {z : Str} (h : Low z) : Low (cutS z (some 1) none) := low_cut h _ _
theorem nb_cut {z : Str} (h : noB z) : noB (cutS z (some 1) none) := fun q => by
  unfold cutS at q
  exact h (by first | exact List.mem_of_mem_drop (List.mem_of_mem_take q) | exact List.mem_of_mem_drop q)
theorem len_name {z : Str} (h : isName z = true) : z.length ≤ 100 := by
  have := (isName_iff.mp h).1
  omega
theorem len_cut {z : Str} (h : isName z = true) : (("A" : Str) ++ cutS z (some 1) none).length ≤ 100 := by
  have h1 := (isName_iff.mp h).1
  have h2 := cutS_length z (some 1) none
  have h3 : ("A" : Str).length = 1 := by decide
  rw [len_app, h3]
  omega
theorem len_cat {z : Str} (h : isName z = true) : (z ++ ("1" : Str)).length ≤ 100 := by
  have h1 := (isName_iff.mp h).1
  have h3 : ("1" : Str).length = 1 := by decide
  rw [len_app, h3]
  omega
theorem len_cat2 {z : Str} (h : isName z = true) : (cutS z (some 1) none).length ≤ 100 := by
  have h1 := (isName_iff.mp h).1
  have h2 := cutS_length z (some 1) none
  omega
theorem ok_none {w0 : Str} {zs : List Str} {n : Nat} (h1 : w0 ≠ "wanted") (h2 : w0 ≠ "odd") (h3 : shOf w0 = none) : okWords (w0 :: zs) n = false := by
  have : shapeOf (w0 :: zs) n = none := by
    show (if w0 = "wanted" then _ else if w0 = "odd" then _ else shOf w0) = none
    rw [if_neg h1, if_neg h2, h3]
  unfold okWords
  rw [this]
theorem ok_sh {w0 sh : Str} {zs : List Str} {n : Nat} (h1 : w0 ≠ "wanted") (h2 : w0 ≠ "odd") (h3 : shOf w0 = some sh) : okWords (w0 :: zs) n = (decide (sh.length = zs.length) && fitAll zs sh.cps.toList) := by
  have : shapeOf (w0 :: zs) n = some sh := by
    show (if w0 = "wanted" then _ else if w0 = "odd" then _ else shOf w0) = some sh
    rw [if_neg h1, if_neg h2, h3]
  unfold okWords
  rw [this]
  rfl
theorem ok_len {w0 sh : Str} {zs : List Str} {n k : Nat} (h1 : w0 ≠ "wanted") (h2 : w0 ≠ "odd") (h3 : shOf w0 = some sh) (hk : zs.length = k) (h : sh.length ≠ k) : okWords (w0 :: zs) n = false := by
  rw [ok_sh h1 h2 h3, hk, decide_eq_false h]
  rfl
theorem ok_fit {w0 sh z : Str} {zs : List Str} {n i c : Nat} (h1 : w0 ≠ "wanted") (h2 : w0 ≠ "odd") (h3 : shOf w0 = some sh) (hz : zs[i]? = some z) (hc : sh.cps.toList[i]? = some c) (h : fitsSh z ⟨#[c]⟩ = false) : okWords (w0 :: zs) n = false := by
  rw [ok_sh h1 h2 h3, fitAll_not hz hc h]
  exact Bool.and_false _
theorem rep_get {g : Str} {c k i : Nat} (hg : g.cps.toList = [c]) (hi : i < k) : (repS g k).cps.toList[i]? = some c := by
  unfold repS
  rw [hg]
  have : (List.replicate k [c]).flatten = List.replicate k c := by
    induction k with
    | zero => rfl
    | succ k ih =>
      cases k with
      | zero => rfl
      | succ m =>
        rw [List.replicate_succ, List.flatten_cons, List.replicate_succ (n := m + 1)]
        by_cases hm : i < m + 1
        · rw [ih hm]
          rfl
        · rw [show (List.replicate (m + 1) [c]).flatten = List.replicate (m + 1) c from by clear ih hi hm; induction m with | zero => rfl | succ m im => rw [List.replicate_succ, List.flatten_cons, im]; rfl]
          rfl
  rw [List.toList_toArray, this, List.getElem?_replicate, if_pos hi]
theorem ok_odd {zs : List Str} {n : Nat} : okWords ("odd" :: zs) n = fitAll zs (repS "n" zs.length).cps.toList := by
  have : shapeOf (("odd" : Str) :: zs) n = some (repS "n" zs.length) := by
    show (if ("odd" : Str) = "wanted" then _ else if ("odd" : Str) = "odd" then _ else shOf "odd") = _
    rw [if_neg (by decide +kernel), if_pos rfl]
    rfl
  unfold okWords
  rw [this]
  show (decide ((repS "n" zs.length).length = zs.length) && _) = _
  rw [repS_len, decide_eq_true (by show zs.length * 1 = zs.length; omega)]
  rfl
theorem fits_n {z : Str} : fitsSh z ⟨#[110]⟩ = isName z := if_pos (by decide +kernel)
theorem ok_odd_bad {zs : List Str} {n i : Nat} {z : Str} (hz : zs[i]? = some z) (h : fitsSh z ⟨#[110]⟩ = false) : okWords ("odd" :: zs) n = false := by
  rw [ok_odd]
  exact fitAll_not hz (rep_get (c := 110) (by decide +kernel) (List.getElem?_eq_some_iff.mp hz).1) h
theorem ok_odd_fine {zs : List Str} {n : Nat} (h : ∀ z ∈ zs, isName z = true) : okWords ("odd" :: zs) n = true := by
  rw [ok_odd]
  refine fitAll_of fun i z c hz hc => ?_
  have hi := (List.getElem?_eq_some_iff.mp hz).1
  rw [rep_get (c := 110) (by decide +kernel) hi] at hc
  cases hc
  rw [fits_n]
  exact h z (List.mem_of_getElem? hz)
def fitsF (z : Str) : Bool := isNum z && !Txt.startswith z "-"
theorem fits_f {z : Str} : fitsSh z ⟨#[102]⟩ = fitsF z := by
  unfold fitsSh fitsF
  rw [if_neg (by decide +kernel), decide_eq_false (by decide +kernel)]
  rfl
theorem okw_wanted {zs : List Str} {n : Nat} : okWords ("wanted" :: zs) n = (decide (n = zs.length) && fitAll zs (repS "f" n).cps.toList) := by
  have : shapeOf (("wanted" : Str) :: zs) n = some (repS "f" n) := if_pos rfl
  unfold okWords
  rw [this]
  show (decide ((repS "f" n).length = zs.length) && _) = _
  rw [repS_len, show n * ("f" : Str).length = n from Nat.mul_one n]
  rfl
theorem ok_wanted_len {zs : List Str} {n : Nat} (h : n ≠ zs.length) : okWords ("wanted" :: zs) n = false := by
  rw [okw_wanted, decide_eq_false h]
  rfl
theorem ok_wanted_bad {zs : List Str} {n : Nat} {z : Str} (hz : z ∈ zs) (h : fitsF z = false) : okWords ("wanted" :: zs) n = false := by
  by_cases hn : n = zs.length
  · obtain ⟨i, hi, e⟩ := List.getElem_of_mem hz
    rw [okw_wanted, fitAll_not (i := i) (z := z) (c := 102) (by rw [List.getElem?_eq_getElem hi, e]) (rep_get (by decide +kernel) (by omega)) (by rw [fits_f]; exact h)]
    exact Bool.and_false _
  · exact ok_wanted_len hn
theorem ok_wanted_fine {zs : List Str} {n : Nat} (hn : n = zs.length) (h : ∀ z ∈ zs, fitsF z = true) : okWords ("wanted" :: zs) n = true := by
  rw [okw_wanted, decide_eq_true hn]
  show fitAll _ _ = true
  refine fitAll_of fun i z c hz hc => ?_
  have hi := (List.getElem?_eq_some_iff.mp hz).1
  rw [rep_get (c := 102) (by decide +kernel) (by omega)] at hc
  cases hc
  rw [fits_f]
  exact h z (List.mem_of_getElem? hz)
theorem fit_bad {z : Str} {c : Nat} (h : c ∈ TL.tl z) (hc : c ∉ lets.cps.toList) : fitsSh z ⟨#[110]⟩ = false := by
  rw [fits_n]
  cases hn : isName z with
  | false => rfl
  | true => exact absurd ((isName_iff.mp hn).2 c h) hc
def BadW (n : Nat) (row : Str) : Prop := ∃ ws, RowOk row ws ∧ okWords ws n = false
def FormW (n : Nat) (row : Str) : Prop := ∃ ws, RowOk row ws ∧ okWords ws n = false
theorem tc0 : TL.tl ("" : Str) = [] := by decide +kernel
theorem tc1 : TL.tl (" " : Str) = [32] := by decide +kernel
theorem tc2 : TL.tl ("  " : Str) = [32, 32] := by decide +kernel
theorem tc3 : TL.tl (" +1" : Str) = [32, 43, 49] := by decide +kernel
theorem tc4 : TL.tl (" -0" : Str) = [32, 45, 48] := by decide +kernel
theorem tc5 : TL.tl (" -1" : Str) = [32, 45, 49] := by decide +kernel
theorem tc6 : TL.tl (" 0" : Str) = [32, 48] := by decide +kernel
theorem tc7 : TL.tl (" 00" : Str) = [32, 48, 48] := by decide +kernel
theorem tc8 : TL.tl (" 01" : Str) = [32, 48, 49] := by decide +kernel
theorem tc9 : TL.tl (" 1" : Str) = [32, 49] := by decide +kernel
theorem tc10 : TL.tl (" 1.0" : Str) = [32, 49, 46, 48] := by decide +kernel
theorem tc11 : TL.tl (" 25" : Str) = [32, 50, 53] := by decide +kernel
theorem tc12 : TL.tl (" 3" : Str) = [32, 51] := by decide +kernel
theorem tc13 : TL.tl (" 3 4" : Str) = [32, 51, 32, 52] := by decide +kernel
theorem tc14 : TL.tl (" B" : Str) = [32, 66] := by decide +kernel
theorem tc15 : TL.tl (" a1" : Str) = [32, 97, 49] := by decide +kernel
theorem tc16 : TL.tl (" b1" : Str) = [32, 98, 49] := by decide +kernel
theorem tc17 : TL.tl (" web" : Str) = [32, 119, 101, 98] := by decide +kernel
theorem tc18 : TL.tl (" zzzzzzzz" : Str) = [32, 122, 122, 122, 122, 122, 122, 122, 122] := by decide +kernel
theorem tc19 : TL.tl ("+1" : Str) = [43, 49] := by decide +kernel
theorem tc20 : TL.tl ("-0" : Str) = [45, 48] := by decide +kernel
theorem tc21 : TL.tl ("-1" : Str) = [45, 49] := by decide +kernel
theorem tc22 : TL.tl ("0" : Str) = [48] := by decide +kernel
theorem tc23 : TL.tl ("00" : Str) = [48, 48] := by decide +kernel
theorem tc24 : TL.tl ("01" : Str) = [48, 49] := by decide +kernel
theorem tc25 : TL.tl ("1" : Str) = [49] := by decide +kernel
theorem tc26 : TL.tl ("1.0" : Str) = [49, 46, 48] := by decide +kernel
theorem tc27 : TL.tl ("24" : Str) = [50, 52] := by decide +kernel
theorem tc28 : TL.tl ("25" : Str) = [50, 53] := by decide +kernel
theorem tc29 : TL.tl ("3" : Str) = [51] := by decide +kernel
theorem tc30 : TL.tl ("4" : Str) = [52] := by decide +kernel
theorem tc31 : TL.tl ("A" : Str) = [65] := by decide +kernel
theorem tc32 : TL.tl ("B" : Str) = [66] := by decide +kernel
theorem tc33 : TL.tl ("Point" : Str) = [80, 111, 105, 110, 116] := by decide +kernel
theorem tc34 : TL.tl ("Point " : Str) = [80, 111, 105, 110, 116, 32] := by decide +kernel
theorem tc35 : TL.tl ("a" : Str) = [97] := by decide +kernel
theorem tc36 : TL.tl ("a1" : Str) = [97, 49] := by decide +kernel
theorem tc37 : TL.tl ("abcdefghi" : Str) = [97, 98, 99, 100, 101, 102, 103, 104, 105] := by decide +kernel
theorem tc38 : TL.tl ("b1" : Str) = [98, 49] := by decide +kernel
theorem tc39 : TL.tl ("gone" : Str) = [103, 111, 110, 101] := by decide +kernel
theorem tc40 : TL.tl ("gone " : Str) = [103, 111, 110, 101, 32] := by decide +kernel
theorem tc41 : TL.tl ("gone A" : Str) = [103, 111, 110, 101, 32, 65] := by decide +kernel
theorem tc42 : TL.tl ("heaviest" : Str) = [104, 101, 97, 118, 105, 101, 115, 116] := by decide +kernel
theorem tc43 : TL.tl ("heaviest " : Str) = [104, 101, 97, 118, 105, 101, 115, 116, 32] := by decide +kernel
theorem tc44 : TL.tl ("heaviest-" : Str) = [104, 101, 97, 118, 105, 101, 115, 116, 45] := by decide +kernel
theorem tc45 : TL.tl ("most" : Str) = [109, 111, 115, 116] := by decide +kernel
theorem tc46 : TL.tl ("most " : Str) = [109, 111, 115, 116, 32] := by decide +kernel
theorem tc47 : TL.tl ("odd" : Str) = [111, 100, 100] := by decide +kernel
theorem tc48 : TL.tl ("odd " : Str) = [111, 100, 100, 32] := by decide +kernel
theorem tc49 : TL.tl ("paired" : Str) = [112, 97, 105, 114, 101, 100] := by decide +kernel
theorem tc50 : TL.tl ("paired " : Str) = [112, 97, 105, 114, 101, 100, 32] := by decide +kernel
theorem tc51 : TL.tl ("point" : Str) = [112, 111, 105, 110, 116] := by decide +kernel
theorem tc52 : TL.tl ("point " : Str) = [112, 111, 105, 110, 116, 32] := by decide +kernel
theorem tc53 : TL.tl ("point abcdefghi" : Str) = [112, 111, 105, 110, 116, 32, 97, 98, 99, 100, 101, 102, 103, 104, 105] := by decide +kernel
theorem tc54 : TL.tl ("points" : Str) = [112, 111, 105, 110, 116, 115] := by decide +kernel
theorem tc55 : TL.tl ("points " : Str) = [112, 111, 105, 110, 116, 115, 32] := by decide +kernel
theorem tc56 : TL.tl ("rename" : Str) = [114, 101, 110, 97, 109, 101] := by decide +kernel
theorem tc57 : TL.tl ("rename " : Str) = [114, 101, 110, 97, 109, 101, 32] := by decide +kernel
theorem tc58 : TL.tl ("rename b1 " : Str) = [114, 101, 110, 97, 109, 101, 32, 98, 49, 32] := by decide +kernel
theorem tc59 : TL.tl ("spare" : Str) = [115, 112, 97, 114, 101] := by decide +kernel
theorem tc60 : TL.tl ("spare 1" : Str) = [115, 112, 97, 114, 101, 32, 49] := by decide +kernel
theorem tc61 : TL.tl ("tie" : Str) = [116, 105, 101] := by decide +kernel
theorem tc62 : TL.tl ("tie " : Str) = [116, 105, 101, 32] := by decide +kernel
theorem tc63 : TL.tl ("tie 1 " : Str) = [116, 105, 101, 32, 49, 32] := by decide +kernel
theorem tc64 : TL.tl ("untie" : Str) = [117, 110, 116, 105, 101] := by decide +kernel
theorem tc65 : TL.tl ("untie " : Str) = [117, 110, 116, 105, 101, 32] := by decide +kernel
theorem tc66 : TL.tl ("untie B " : Str) = [117, 110, 116, 105, 101, 32, 66, 32] := by decide +kernel
theorem tc67 : TL.tl ("walk" : Str) = [119, 97, 108, 107] := by decide +kernel
theorem tc68 : TL.tl ("walk " : Str) = [119, 97, 108, 107, 32] := by decide +kernel
theorem tc69 : TL.tl ("walk A" : Str) = [119, 97, 108, 107, 32, 65] := by decide +kernel
theorem tc70 : TL.tl ("wanted" : Str) = [119, 97, 110, 116, 101, 100] := by decide +kernel
theorem tc71 : TL.tl ("wanted 24" : Str) = [119, 97, 110, 116, 101, 100, 32, 50, 52] := by decide +kernel
theorem tc72 : TL.tl ("wanted 25" : Str) = [119, 97, 110, 116, 101, 100, 32, 50, 53] := by decide +kernel
theorem tc73 : TL.tl ("wanted a" : Str) = [119, 97, 110, 116, 101, 100, 32, 97] := by decide +kernel
theorem tc74 : TL.tl ("web" : Str) = [119, 101, 98] := by decide +kernel
theorem tc75 : TL.tl ("web " : Str) = [119, 101, 98, 32] := by decide +kernel
theorem tc76 : TL.tl ("zzzzzzzz" : Str) = [122, 122, 122, 122, 122, 122, 122, 122] := by decide +kernel
theorem brk0_0 {one other : Str} (hone : isName one = true) (hother : isName other = true) (n : Nat) : BadW n ("" : Str) :=
  ⟨[("" : Str)], row_ok (List.cons_ne_nil _ _) (by simp only [TL.tl_append, List.headD_cons, List.tail_cons, List.map_cons, List.map_nil, List.flatten_cons, List.flatten_nil, List.append_assoc, List.cons_append, List.nil_append, List.append_nil, tc0]) (by intro q hq; simp only [List.mem_cons, List.not_mem_nil, or_false] at hq; rcases hq with rfl <;> first | exact nb_nil) (Nat.le_of_ble_eq_true rfl) (by intro q hq; simp only [List.mem_cons, List.not_mem_nil, or_false] at hq; rcases hq with rfl <;> first | exact len_name hone | exact len_name hother | exact Nat.le_of_ble_eq_true rfl | exact len_cut hone | exact len_cat hone | exact len_cat2 hone), ok_none (by decide +kernel) (by decide +kernel) (by decide +kernel)⟩
theorem brk0_1 {one other : Str} (hone : isName one = true) (hother : isName other = true) (n : Nat) : BadW n (" " : Str) :=
  ⟨[("" : Str), ("" : Str)], row_ok (List.cons_ne_nil _ _) (by simp only [TL.tl_append, List.headD_cons, List.tail_cons, List.map_cons, List.map_nil, List.flatten_cons, List.flatten_nil, List.append_assoc, List.cons_append, List.nil_append, List.append_nil, tc0, tc1]) (by intro q hq; simp only [List.mem_cons, List.not_mem_nil, or_false] at hq; rcases hq with rfl | rfl <;> first | exact nb_nil) (Nat.le_of_ble_eq_true rfl) (by intro q hq; simp only [List.mem_cons, List.not_mem_nil, or_false] at hq; rcases hq with rfl | rfl <;> first | exact len_name hone | exact len_name hother | exact Nat.le_of_ble_eq_true rfl | exact len_cut hone | exact len_cat hone | exact len_cat2 hone), ok_none (by decide +kernel) (by decide +kernel) (by decide +kernel)⟩
theorem brk0_2 {one other : Str} (hone : isName one = true) (hother : isName other = true) (n : Nat) : BadW n ("point" : Str) :=
  ⟨[("point" : Str)], row_ok (List.cons_ne_nil _ _) (by simp only [TL.tl_append, List.headD_cons, List.tail_cons, List.map_cons, List.map_nil, List.flatten_cons, List.flatten_nil, List.append_assoc, List.cons_append, List.nil_append, List.append_nil, tc0, tc51]) (by intro q hq; simp only [List.mem_cons, List.not_mem_nil, or_false] at hq; rcases hq with rfl <;> first | exact (by decide +kernel)) (Nat.le_of_ble_eq_true rfl) (by intro q hq; simp only [List.mem_cons, List.not_mem_nil, or_false] at hq; rcases hq with rfl <;> first | exact len_name hone | exact len_name hother | exact Nat.le_of_ble_eq_true rfl | exact len_cut hone | exact len_cat hone | exact len_cat2 hone), ok_len (sh := "n") (by decide +kernel) (by decide +kernel) (by decide +kernel) (k := 0) rfl (by decide +kernel)⟩
theorem brk0_3 {one other : Str} (hone : isName one = true) (hother : isName other = true) (n : Nat) : BadW n (((("point " : Str) ++ one) ++ (" " : Str)) ++ other) :=
  ⟨[("point" : Str), one, other], row_ok (List.cons_ne_nil _ _) (by simp only [TL.tl_append, List.headD_cons, List.tail_cons, List.map_cons, List.map_nil, List.flatten_cons, List.flatten_nil, List.append_assoc, List.cons_append, List.nil_append, List.append_nil, tc0, tc1, tc51, tc52]) (by intro q hq; simp only [List.mem_cons, List.not_mem_nil, or_false] at hq; rcases hq with rfl | rfl | rfl <;> first | exact (by decide +kernel) | exact (nb_name hone) | exact (nb_name hother)) (Nat.le_of_ble_eq_true rfl) (by intro q hq; simp only [List.mem_cons, List.not_mem_nil, or_false] at hq; rcases hq with rfl | rfl | rfl <;> first | exact len_name hone | exact len_name hother | exact Nat.le_of_ble_eq_true rfl | exact len_cut hone | exact len_cat hone | exact len_cat2 hone), ok_len (sh := "n") (by decide +kernel) (by decide +kernel) (by decide +kernel) (k := 2) rfl (by decide +kernel)⟩
theorem brk0_4 {one other : Str} (hone : isName one = true) (hother : isName other = true) (n : Nat) : BadW n ((("point " : Str) ++ one) ++ ("1" : Str)) :=
  ⟨[("point" : Str), (one ++ ("1" : Str))], row_ok (List.cons_ne_nil _ _) (by simp only [TL.tl_append, List.headD_cons, List.tail_cons, List.map_cons, List.map_nil, List.flatten_cons, List.flatten_nil, List.append_assoc, List.cons_append, List.nil_append, List.append_nil, tc0, tc25, tc51, tc52]) (by intro q hq; simp only [List.mem_cons, List.not_mem_nil, or_false] at hq; rcases hq with rfl | rfl <;> first | exact (by decide +kernel) | exact (nb_app (nb_name hone) (by decide +kernel))) (Nat.le_of_ble_eq_true rfl) (by intro q hq; simp only [List.mem_cons, List.not_mem_nil, or_false] at hq; rcases hq with rfl | rfl <;> first | exact len_name hone | exact len_name hother | exact Nat.le_of_ble_eq_true rfl | exact len_cut hone | exact len_cat hone | exact len_cat2 hone), ok_fit (sh := "n") (by decide +kernel) (by decide +kernel) (by decide +kernel) (i := 0) (c := 110) rfl (by decide +kernel) (fit_bad (c := 49) (by rw [TL.tl_append]; exact List.mem_append_right _ (by decide +kernel)) (by decide +kernel))⟩
theorem brk0_5 {one other : Str} (hone : isName one = true) (hother : isName other = true) (n : Nat) : BadW n ("point" : Str) :=
  ⟨[("point" : Str)], row_ok (List.cons_ne_nil _ _) (by simp only [TL.tl_append, List.headD_cons, List.tail_cons, List.map_cons, List.map_nil, List.flatten_cons, List.flatten_nil, List.append_assoc, List.cons_append, List.nil_append, List.append_nil, tc0, tc51]) (by intro q hq; simp only [List.mem_cons, List.not_mem_nil, or_false] at hq; rcases hq with rfl <;> first | exact (by decide +kernel)) (Nat.le_of_ble_eq_true rfl) (by intro q hq; simp only [List.mem_cons, List.not_mem_nil, or_false] at hq; rcases hq with rfl <;> first | exact len_name hone | exact len_name hother | exact Nat.le_of_ble_eq_true rfl | exact len_cut hone | exact len_cat hone | exact len_cat2 hone), ok_len (sh := "n") (by decide +kernel) (by decide +kernel) (by decide +kernel) (k := 0) rfl (by decide +kernel)⟩
theorem brk0_6 {one other : Str} (hone : isName one = true) (hother : isName other = true) (n : Nat) : BadW n (("points " : Str) ++ one) :=
  ⟨[("points" : Str), one], row_ok (List.cons_ne_nil _ _) (by simp only [TL.tl_append, List.headD_cons, List.tail_cons, List.map_cons, List.map_nil, List.flatten_cons, List.flatten_nil, List.append_assoc, List.cons_append, List.nil_append, List.append_nil, tc0, tc54, tc55]) (by intro q hq; simp only [List.mem_cons, List.not_mem_nil, or_false] at hq; rcases hq with rfl | rfl <;> first | exact (by decide +kernel) | exact (nb_name hone)) (Nat.le_of_ble_eq_true rfl) (by intro q hq; simp only [List.mem_cons, List.not_mem_nil, or_false] at hq; rcases hq with rfl | rfl <;> first | exact len_name hone | exact len_name hother | exact Nat.le_of_ble_eq_true rfl | exact len_cut hone | exact len_cat hone | exact len_cat2 hone), ok_none (by decide +kernel) (by decide +kernel) (by decide +kernel)⟩
theorem brk0_all {one other : Str} (hone : isName one = true) (hother : isName other = true) (n : Nat) : ∀ x ∈ brk0 one other, BadW n x := by
  intro x hx
  unfold brk0 at hx
  simp only [List.mem_cons, List.not_mem_nil, or_false] at hx
  rcases hx with rfl | rfl | rfl | rfl | rfl | rfl | rfl
  · exact brk0_0 hone hother n
  · exact brk0_1 hone hother n
  · exact brk0_2 hone hother n
  · exact brk0_3 hone hother n
  · exact brk0_4 hone hother n
  · exact brk0_5 hone hother n
  · exact brk0_6 hone hother n
theorem brk1_0 {one other : Str} (hone : isName one = true) (hother : isName other = true) (n : Nat) : BadW n (((("tie " : Str) ++ one) ++ (" " : Str)) ++ other) :=
  ⟨[("tie" : Str), one, other], row_ok (List.cons_ne_nil _ _) (by simp only [TL.tl_append, List.headD_cons, List.tail_cons, List.map_cons, List.map_nil, List.flatten_cons, List.flatten_nil, List.append_assoc, List.cons_append, List.nil_append, List.append_nil, tc0, tc1, tc61, tc62]) (by intro q hq; simp only [List.mem_cons, List.not_mem_nil, or_false] at hq; rcases hq with rfl | rfl | rfl <;> first | exact (by decide +kernel) | exact (nb_name hone) | exact (nb_name hother)) (Nat.le_of_ble_eq_true rfl) (by intro q hq; simp only [List.mem_cons, List.not_mem_nil, or_false] at hq; rcases hq with rfl | rfl | rfl <;> first | exact len_name hone | exact len_name hother | exact Nat.le_of_ble_eq_true rfl | exact len_cut hone | exact len_cat hone | exact len_cat2 hone), ok_len (sh := "nnw") (by decide +kernel) (by decide +kernel) (by decide +kernel) (k := 2) rfl (by decide +kernel)⟩
theorem brk1_1 {one other : Str} (hone : isName one = true) (hother : isName other = true) (n : Nat) : BadW n ((((("tie " : Str) ++ one) ++ (" " : Str)) ++ other) ++ (" 01" : Str)) :=
  ⟨[("tie" : Str), one, other, ("01" : Str)], row_ok (List.cons_ne_nil _ _) (by simp only [TL.tl_append, List.headD_cons, List.tail_cons, List.map_cons, List.map_nil, List.flatten_cons, List.flatten_nil, List.append_assoc, List.cons_append, List.nil_append, List.append_nil, tc0, tc1, tc8, tc24, tc61, tc62]) (by intro q hq; simp only [List.mem_cons, List.not_mem_nil, or_false] at hq; rcases hq with rfl | rfl | rfl | rfl <;> first | exact (by decide +kernel) | exact (nb_name hone) | exact (nb_name hother)) (Nat.le_of_ble_eq_true rfl) (by intro q hq; simp only [List.mem_cons, List.not_mem_nil, or_false] at hq; rcases hq with rfl | rfl | rfl | rfl <;> first | exact len_name hone | exact len_name hother | exact Nat.le_of_ble_eq_true rfl | exact len_cut hone | exact len_cat hone | exact len_cat2 hone), ok_fit (sh := "nnw") (by decide +kernel) (by decide +kernel) (by decide +kernel) (i := 2) (c := 119) rfl (by decide +kernel) (by decide +kernel)⟩
theorem brk1_2 {one other : Str} (hone : isName one = true) (hother : isName other = true) (n : Nat) : BadW n ((((("tie " : Str) ++ one) ++ ("  " : Str)) ++ other) ++ (" 3" : Str)) :=
  ⟨[("tie" : Str), one, ("" : Str), other, ("3" : Str)], row_ok (List.cons_ne_nil _ _) (by simp only [TL.tl_append, List.headD_cons, List.tail_cons, List.map_cons, List.map_nil, List.flatten_cons, List.flatten_nil, List.append_assoc, List.cons_append, List.nil_append, List.append_nil, tc0, tc2, tc12, tc29, tc61, tc62]) (by intro q hq; simp only [List.mem_cons, List.not_mem_nil, or_false] at hq; rcases hq with rfl | rfl | rfl | rfl | rfl <;> first | exact (by decide +kernel) | exact (nb_name hone) | exact nb_nil | exact (nb_name hother)) (Nat.le_of_ble_eq_true rfl) (by intro q hq; simp only [List.mem_cons, List.not_mem_nil, or_false] at hq; rcases hq with rfl | rfl | rfl | rfl | rfl <;> first | exact len_name hone | exact len_name hother | exact Nat.le_of_ble_eq_true rfl | exact len_cut hone | exact len_cat hone | exact len_cat2 hone), ok_len (sh := "nnw") (by decide +kernel) (by decide +kernel) (by decide +kernel) (k := 4) rfl (by decide +kernel)⟩
theorem brk1_all {one other : Str} (hone : isName one = true) (hother : isName other = true) (n : Nat) : ∀ x ∈ brk1 one other, BadW n x := by
  intro x hx
  unfold brk1 at hx
  simp only [List.mem_cons, List.not_mem_nil, or_false] at hx
  rcases hx with rfl | rfl | rfl
  · exact brk1_0 hone hother n
  · exact brk1_1 hone hother n
  · exact brk1_2 hone hother n
theorem brk2_0 {one other : Str} (hone : isName one = true) (hother : isName other = true) (n : Nat) : BadW n ((((("tie " : Str) ++ one) ++ (" " : Str)) ++ other) ++ (" -0" : Str)) :=
  ⟨[("tie" : Str), one, other, ("-0" : Str)], row_ok (List.cons_ne_nil _ _) (by simp only [TL.tl_append, List.headD_cons, List.tail_cons, List.map_cons, List.map_nil, List.flatten_cons, List.flatten_nil, List.append_assoc, List.cons_append, List.nil_append, List.append_nil, tc0, tc1, tc4, tc20, tc61, tc62]) (by intro q hq; simp only [List.mem_cons, List.not_mem_nil, or_false] at hq; rcases hq with rfl | rfl | rfl | rfl <;> first | exact (by decide +kernel) | exact (nb_name hone) | exact (nb_name hother)) (Nat.le_of_ble_eq_true rfl) (by intro q hq; simp only [List.mem_cons, List.not_mem_nil, or_false] at hq; rcases hq with rfl | rfl | rfl | rfl <;> first | exact len_name hone | exact len_name hother | exact Nat.le_of_ble_eq_true rfl | exact len_cut hone | exact len_cat hone | exact len_cat2 hone), ok_fit (sh := "nnw") (by decide +kernel) (by decide +kernel) (by decide +kernel) (i := 2) (c := 119) rfl (by decide +kernel) (by decide +kernel)⟩
theorem brk2_1 {one other : Str} (hone : isName one = true) (hother : isName other = true) (n : Nat) : BadW n (("untie " : Str) ++ one) :=
  ⟨[("untie" : Str), one], row_ok (List.cons_ne_nil _ _) (by simp only [TL.tl_append, List.headD_cons, List.tail_cons, List.map_cons, List.map_nil, List.flatten_cons, List.flatten_nil, List.append_assoc, List.cons_append, List.nil_append, List.append_nil, tc0, tc64, tc65]) (by intro q hq; simp only [List.mem_cons, List.not_mem_nil, or_false] at hq; rcases hq with rfl | rfl <;> first | exact (by decide +kernel) | exact (nb_name hone)) (Nat.le_of_ble_eq_true rfl) (by intro q hq; simp only [List.mem_cons, List.not_mem_nil, or_false] at hq; rcases hq with rfl | rfl <;> first | exact len_name hone | exact len_name hother | exact Nat.le_of_ble_eq_true rfl | exact len_cut hone | exact len_cat hone | exact len_cat2 hone), ok_len (sh := "nn") (by decide +kernel) (by decide +kernel) (by decide +kernel) (k := 1) rfl (by decide +kernel)⟩
theorem brk2_2 {one other : Str} (hone : isName one = true) (hother : isName other = true) (n : Nat) : BadW n ("gone" : Str) :=
  ⟨[("gone" : Str)], row_ok (List.cons_ne_nil _ _) (by simp only [TL.tl_append, List.headD_cons, List.tail_cons, List.map_cons, List.map_nil, List.flatten_cons, List.flatten_nil, List.append_assoc, List.cons_append, List.nil_append, List.append_nil, tc0, tc39]) (by intro q hq; simp only [List.mem_cons, List.not_mem_nil, or_false] at hq; rcases hq with rfl <;> first | exact (by decide +kernel)) (Nat.le_of_ble_eq_true rfl) (by intro q hq; simp only [List.mem_cons, List.not_mem_nil, or_false] at hq; rcases hq with rfl <;> first | exact len_name hone | exact len_name hother | exact Nat.le_of_ble_eq_true rfl | exact len_cut hone | exact len_cat hone | exact len_cat2 hone), ok_len (sh := "n") (by decide +kernel) (by decide +kernel) (by decide +kernel) (k := 0) rfl (by decide +kernel)⟩
theorem brk2_3 {one other : Str} (hone : isName one = true) (hother : isName other = true) (n : Nat) : BadW n (("rename " : Str) ++ one) :=
  ⟨[("rename" : Str), one], row_ok (List.cons_ne_nil _ _) (by simp only [TL.tl_append, List.headD_cons, List.tail_cons, List.map_cons, List.map_nil, List.flatten_cons, List.flatten_nil, List.append_assoc, List.cons_append, List.nil_append, List.append_nil, tc0, tc56, tc57]) (by intro q hq; simp only [List.mem_cons, List.not_mem_nil, or_false] at hq; rcases hq with rfl | rfl <;> first | exact (by decide +kernel) | exact (nb_name hone)) (Nat.le_of_ble_eq_true rfl) (by intro q hq; simp only [List.mem_cons, List.not_mem_nil, or_false] at hq; rcases hq with rfl | rfl <;> first | exact len_name hone | exact len_name hother | exact Nat.le_of_ble_eq_true rfl | exact len_cut hone | exact len_cat hone | exact len_cat2 hone), ok_len (sh := "nn") (by decide +kernel) (by decide +kernel) (by decide +kernel) (k := 1) rfl (by decide +kernel)⟩
theorem brk2_4 {one other : Str} (hone : isName one = true) (hother : isName other = true) (n : Nat) : BadW n ("web " : Str) :=
  ⟨[("web" : Str), ("" : Str)], row_ok (List.cons_ne_nil _ _) (by simp only [TL.tl_append, List.headD_cons, List.tail_cons, List.map_cons, List.map_nil, List.flatten_cons, List.flatten_nil, List.append_assoc, List.cons_append, List.nil_append, List.append_nil, tc0, tc74, tc75]) (by intro q hq; simp only [List.mem_cons, List.not_mem_nil, or_false] at hq; rcases hq with rfl | rfl <;> first | exact (by decide +kernel) | exact nb_nil) (Nat.le_of_ble_eq_true rfl) (by intro q hq; simp only [List.mem_cons, List.not_mem_nil, or_false] at hq; rcases hq with rfl | rfl <;> first | exact len_name hone | exact len_name hother | exact Nat.le_of_ble_eq_true rfl | exact len_cut hone | exact len_cat hone | exact len_cat2 hone), ok_len (sh := "") (by decide +kernel) (by decide +kernel) (by decide +kernel) (k := 1) rfl (by decide +kernel)⟩
theorem brk2_5 {one other : Str} (hone : isName one = true) (hother : isName other = true) (n : Nat) : BadW n (" web" : Str) :=
  ⟨[("" : Str), ("web" : Str)], row_ok (List.cons_ne_nil _ _) (by simp only [TL.tl_append, List.headD_cons, List.tail_cons, List.map_cons, List.map_nil, List.flatten_cons, List.flatten_nil, List.append_assoc, List.cons_append, List.nil_append, List.append_nil, tc0, tc17, tc74]) (by intro q hq; simp only [List.mem_cons, List.not_mem_nil, or_false] at hq; rcases hq with rfl | rfl <;> first | exact nb_nil | exact (by decide +kernel)) (Nat.le_of_ble_eq_true rfl) (by intro q hq; simp only [List.mem_cons, List.not_mem_nil, or_false] at hq; rcases hq with rfl | rfl <;> first | exact len_name hone | exact len_name hother | exact Nat.le_of_ble_eq_true rfl | exact len_cut hone | exact len_cat hone | exact len_cat2 hone), ok_none (by decide +kernel) (by decide +kernel) (by decide +kernel)⟩
theorem brk2_all {one other : Str} (hone : isName one = true) (hother : isName other = true) (n : Nat) : ∀ x ∈ brk2 one other, BadW n x := by
  intro x hx
  unfold brk2 at hx
  simp only [List.mem_cons, List.not_mem_nil, or_false] at hx
  rcases hx with rfl | rfl | rfl | rfl | rfl | rfl
  · exact brk2_0 hone hother n
  · exact brk2_1 hone hother n
  · exact brk2_2 hone hother n
  · exact brk2_3 hone hother n
  · exact brk2_4 hone hother n
  · exact brk2_5 hone hother n
theorem brk3_0 {one other : Str} (hone : isName one = true) (hother : isName other = true) (n : Nat) : BadW n (("most " : Str) ++ one) :=
  ⟨[("most" : Str), one], row_ok (List.cons_ne_nil _ _) (by simp only [TL.tl_append, List.headD_cons, List.tail_cons, List.map_cons, List.map_nil, List.flatten_cons, List.flatten_nil, List.append_assoc, List.cons_append, List.nil_append, List.append_nil, tc0, tc45, tc46]) (by intro q hq; simp only [List.mem_cons, List.not_mem_nil, or_false] at hq; rcases hq with rfl | rfl <;> first | exact (by decide +kernel) | exact (nb_name hone)) (Nat.le_of_ble_eq_true rfl) (by intro q hq; simp only [List.mem_cons, List.not_mem_nil, or_false] at hq; rcases hq with rfl | rfl <;> first | exact len_name hone | exact len_name hother | exact Nat.le_of_ble_eq_true rfl | exact len_cut hone | exact len_cat hone | exact len_cat2 hone), ok_len (sh := "") (by decide +kernel) (by decide +kernel) (by decide +kernel) (k := 1) rfl (by decide +kernel)⟩
theorem brk3_1 {one other : Str} (hone : isName one = true) (hother : isName other = true) (n : Nat) : BadW n (("Point " : Str) ++ one) :=
  ⟨[("Point" : Str), one], row_ok (List.cons_ne_nil _ _) (by simp only [TL.tl_append, List.headD_cons, List.tail_cons, List.map_cons, List.map_nil, List.flatten_cons, List.flatten_nil, List.append_assoc, List.cons_append, List.nil_append, List.append_nil, tc0, tc33, tc34]) (by intro q hq; simp only [List.mem_cons, List.not_mem_nil, or_false] at hq; rcases hq with rfl | rfl <;> first | exact (by decide +kernel) | exact (nb_name hone)) (Nat.le_of_ble_eq_true rfl) (by intro q hq; simp only [List.mem_cons, List.not_mem_nil, or_false] at hq; rcases hq with rfl | rfl <;> first | exact len_name hone | exact len_name hother | exact Nat.le_of_ble_eq_true rfl | exact len_cut hone | exact len_cat hone | exact len_cat2 hone), ok_none (by decide +kernel) (by decide +kernel) (by decide +kernel)⟩
theorem brk3_2 {one other : Str} (hone : isName one = true) (hother : isName other = true) (n : Nat) : BadW n ("walk" : Str) :=
  ⟨[("walk" : Str)], row_ok (List.cons_ne_nil _ _) (by simp only [TL.tl_append, List.headD_cons, List.tail_cons, List.map_cons, List.map_nil, List.flatten_cons, List.flatten_nil, List.append_assoc, List.cons_append, List.nil_append, List.append_nil, tc0, tc67]) (by intro q hq; simp only [List.mem_cons, List.not_mem_nil, or_false] at hq; rcases hq with rfl <;> first | exact (by decide +kernel)) (Nat.le_of_ble_eq_true rfl) (by intro q hq; simp only [List.mem_cons, List.not_mem_nil, or_false] at hq; rcases hq with rfl <;> first | exact len_name hone | exact len_name hother | exact Nat.le_of_ble_eq_true rfl | exact len_cut hone | exact len_cat hone | exact len_cat2 hone), ok_len (sh := "n") (by decide +kernel) (by decide +kernel) (by decide +kernel) (k := 0) rfl (by decide +kernel)⟩
theorem brk3_3 {one other : Str} (hone : isName one = true) (hother : isName other = true) (n : Nat) : BadW n (((("walk " : Str) ++ one) ++ (" " : Str)) ++ other) :=
  ⟨[("walk" : Str), one, other], row_ok (List.cons_ne_nil _ _) (by simp only [TL.tl_append, List.headD_cons, List.tail_cons, List.map_cons, List.map_nil, List.flatten_cons, List.flatten_nil, List.append_assoc, List.cons_append, List.nil_append, List.append_nil, tc0, tc1, tc67, tc68]) (by intro q hq; simp only [List.mem_cons, List.not_mem_nil, or_false] at hq; rcases hq with rfl | rfl | rfl <;> first | exact (by decide +kernel) | exact (nb_name hone) | exact (nb_name hother)) (Nat.le_of_ble_eq_true rfl) (by intro q hq; simp only [List.mem_cons, List.not_mem_nil, or_false] at hq; rcases hq with rfl | rfl | rfl <;> first | exact len_name hone | exact len_name hother | exact Nat.le_of_ble_eq_true rfl | exact len_cut hone | exact len_cat hone | exact len_cat2 hone), ok_len (sh := "n") (by decide +kernel) (by decide +kernel) (by decide +kernel) (k := 2) rfl (by decide +kernel)⟩
theorem brk3_4 {one other : Str} (hone : isName one = true) (hother : isName other = true) (n : Nat) : BadW n ("odd " : Str) :=
  ⟨[("odd" : Str), ("" : Str)], row_ok (List.cons_ne_nil _ _) (by simp only [TL.tl_append, List.headD_cons, List.tail_cons, List.map_cons, List.map_nil, List.flatten_cons, List.flatten_nil, List.append_assoc, List.cons_append, List.nil_append, List.append_nil, tc0, tc47, tc48]) (by intro q hq; simp only [List.mem_cons, List.not_mem_nil, or_false] at hq; rcases hq with rfl | rfl <;> first | exact (by decide +kernel) | exact nb_nil) (Nat.le_of_ble_eq_true rfl) (by intro q hq; simp only [List.mem_cons, List.not_mem_nil, or_false] at hq; rcases hq with rfl | rfl <;> first | exact len_name hone | exact len_name hother | exact Nat.le_of_ble_eq_true rfl | exact len_cut hone | exact len_cat hone | exact len_cat2 hone), ok_odd_bad (i := 0) rfl (by decide +kernel)⟩
theorem brk3_5 {one other : Str} (hone : isName one = true) (hother : isName other = true) (n : Nat) : BadW n ("point abcdefghi" : Str) :=
  ⟨[("point" : Str), ("abcdefghi" : Str)], row_ok (List.cons_ne_nil _ _) (by simp only [TL.tl_append, List.headD_cons, List.tail_cons, List.map_cons, List.map_nil, List.flatten_cons, List.flatten_nil, List.append_assoc, List.cons_append, List.nil_append, List.append_nil, tc0, tc37, tc51, tc53]) (by intro q hq; simp only [List.mem_cons, List.not_mem_nil, or_false] at hq; rcases hq with rfl | rfl <;> first | exact (by decide +kernel)) (Nat.le_of_ble_eq_true rfl) (by intro q hq; simp only [List.mem_cons, List.not_mem_nil, or_false] at hq; rcases hq with rfl | rfl <;> first | exact len_name hone | exact len_name hother | exact Nat.le_of_ble_eq_true rfl | exact len_cut hone | exact len_cat hone | exact len_cat2 hone), ok_fit (sh := "n") (by decide +kernel) (by decide +kernel) (by decide +kernel) (i := 0) (c := 110) rfl (by decide +kernel) (by decide +kernel)⟩
theorem brk3_all {one other : Str} (hone : isName one = true) (hother : isName other = true) (n : Nat) : ∀ x ∈ brk3 one other, BadW n x := by
  intro x hx
  unfold brk3 at hx
  simp only [List.mem_cons, List.not_mem_nil, or_false] at hx
  rcases hx with rfl | rfl | rfl | rfl | rfl | rfl
  · exact brk3_0 hone hother n
  · exact brk3_1 hone hother n
  · exact brk3_2 hone hother n
  · exact brk3_3 hone hother n
  · exact brk3_4 hone hother n
  · exact brk3_5 hone hother n
theorem brk4_0 {one other : Str} (hone : isName one = true) (hother : isName other = true) (n : Nat) : BadW n ("wanted a" : Str) :=
  ⟨[("wanted" : Str), ("a" : Str)], row_ok (List.cons_ne_nil _ _) (by simp only [TL.tl_append, List.headD_cons, List.tail_cons, List.map_cons, List.map_nil, List.flatten_cons, List.flatten_nil, List.append_assoc, List.cons_append, List.nil_append, List.append_nil, tc0, tc35, tc70, tc73]) (by intro q hq; simp only [List.mem_cons, List.not_mem_nil, or_false] at hq; rcases hq with rfl | rfl <;> first | exact (by decide +kernel)) (Nat.le_of_ble_eq_true rfl) (by intro q hq; simp only [List.mem_cons, List.not_mem_nil, or_false] at hq; rcases hq with rfl | rfl <;> first | exact len_name hone | exact len_name hother | exact Nat.le_of_ble_eq_true rfl | exact len_cut hone | exact len_cat hone | exact len_cat2 hone), ok_wanted_bad (List.mem_singleton.mpr rfl) (by decide +kernel)⟩
theorem brk4_1 {one other : Str} (hone : isName one = true) (hother : isName other = true) (n : Nat) : BadW n ("spare 1" : Str) :=
  ⟨[("spare" : Str), ("1" : Str)], row_ok (List.cons_ne_nil _ _) (by simp only [TL.tl_append, List.headD_cons, List.tail_cons, List.map_cons, List.map_nil, List.flatten_cons, List.flatten_nil, List.append_assoc, List.cons_append, List.nil_append, List.append_nil, tc0, tc25, tc59, tc60]) (by intro q hq; simp only [List.mem_cons, List.not_mem_nil, or_false] at hq; rcases hq with rfl | rfl <;> first | exact (by decide +kernel)) (Nat.le_of_ble_eq_true rfl) (by intro q hq; simp only [List.mem_cons, List.not_mem_nil, or_false] at hq; rcases hq with rfl | rfl <;> first | exact len_name hone | exact len_name hother | exact Nat.le_of_ble_eq_true rfl | exact len_cut hone | exact len_cat hone | exact len_cat2 hone), ok_len (sh := "") (by decide +kernel) (by decide +kernel) (by decide +kernel) (k := 1) rfl (by decide +kernel)⟩
theorem brk4_2 {one other : Str} (hone : isName one = true) (hother : isName other = true) (n : Nat) : BadW n ("heaviest-" : Str) :=
  ⟨[("heaviest-" : Str)], row_ok (List.cons_ne_nil _ _) (by simp only [TL.tl_append, List.headD_cons, List.tail_cons, List.map_cons, List.map_nil, List.flatten_cons, List.flatten_nil, List.append_assoc, List.cons_append, List.nil_append, List.append_nil, tc0, tc44]) (by intro q hq; simp only [List.mem_cons, List.not_mem_nil, or_false] at hq; rcases hq with rfl <;> first | exact (by decide +kernel)) (Nat.le_of_ble_eq_true rfl) (by intro q hq; simp only [List.mem_cons, List.not_mem_nil, or_false] at hq; rcases hq with rfl <;> first | exact len_name hone | exact len_name hother | exact Nat.le_of_ble_eq_true rfl | exact len_cut hone | exact len_cat hone | exact len_cat2 hone), ok_none (by decide +kernel) (by decide +kernel) (by decide +kernel)⟩
theorem brk4_3 {one other : Str} (hone : isName one = true) (hother : isName other = true) (n : Nat) : BadW n ((((("tie " : Str) ++ one) ++ (" " : Str)) ++ other) ++ (" +1" : Str)) :=
  ⟨[("tie" : Str), one, other, ("+1" : Str)], row_ok (List.cons_ne_nil _ _) (by simp only [TL.tl_append, List.headD_cons, List.tail_cons, List.map_cons, List.map_nil, List.flatten_cons, List.flatten_nil, List.append_assoc, List.cons_append, List.nil_append, List.append_nil, tc0, tc1, tc3, tc19, tc61, tc62]) (by intro q hq; simp only [List.mem_cons, List.not_mem_nil, or_false] at hq; rcases hq with rfl | rfl | rfl | rfl <;> first | exact (by decide +kernel) | exact (nb_name hone) | exact (nb_name hother)) (Nat.le_of_ble_eq_true rfl) (by intro q hq; simp only [List.mem_cons, List.not_mem_nil, or_false] at hq; rcases hq with rfl | rfl | rfl | rfl <;> first | exact len_name hone | exact len_name hother | exact Nat.le_of_ble_eq_true rfl | exact len_cut hone | exact len_cat hone | exact len_cat2 hone), ok_fit (sh := "nnw") (by decide +kernel) (by decide +kernel) (by decide +kernel) (i := 2) (c := 119) rfl (by decide +kernel) (by decide +kernel)⟩
theorem brk4_4 {one other : Str} (hone : isName one = true) (hother : isName other = true) (n : Nat) : BadW n (((("tie 1 " : Str) ++ one) ++ (" " : Str)) ++ other) :=
  ⟨[("tie" : Str), ("1" : Str), one, other], row_ok (List.cons_ne_nil _ _) (by simp only [TL.tl_append, List.headD_cons, List.tail_cons, List.map_cons, List.map_nil, List.flatten_cons, List.flatten_nil, List.append_assoc, List.cons_append, List.nil_append, List.append_nil, tc0, tc1, tc25, tc61, tc63]) (by intro q hq; simp only [List.mem_cons, List.not_mem_nil, or_false] at hq; rcases hq with rfl | rfl | rfl | rfl <;> first | exact (by decide +kernel) | exact (nb_name hone) | exact (nb_name hother)) (Nat.le_of_ble_eq_true rfl) (by intro q hq; simp only [List.mem_cons, List.not_mem_nil, or_false] at hq; rcases hq with rfl | rfl | rfl | rfl <;> first | exact len_name hone | exact len_name hother | exact Nat.le_of_ble_eq_true rfl | exact len_cut hone | exact len_cat hone | exact len_cat2 hone), ok_fit (sh := "nnw") (by decide +kernel) (by decide +kernel) (by decide +kernel) (i := 0) (c := 110) rfl (by decide +kernel) (by decide +kernel)⟩
theorem brk4_all {one other : Str} (hone : isName one = true) (hother : isName other = true) (n : Nat) : ∀ x ∈ brk4 one other, BadW n x := by
  intro x hx
  unfold brk4 at hx
  simp only [List.mem_cons, List.not_mem_nil, or_false] at hx
  rcases hx with rfl | rfl | rfl | rfl | rfl
  · exact brk4_0 hone hother n
  · exact brk4_1 hone hother n
  · exact brk4_2 hone hother n
  · exact brk4_3 hone hother n
  · exact brk4_4 hone hother n
theorem brk5_0 {one other : Str} (hone : isName one = true) (hother : isName other = true) (n : Nat) : BadW n (("walk A" : Str) ++ (cutS one (some 1) none)) :=
  ⟨[("walk" : Str), (("A" : Str) ++ (cutS one (some 1) none))], row_ok (List.cons_ne_nil _ _) (by simp only [TL.tl_append, List.headD_cons, List.tail_cons, List.map_cons, List.map_nil, List.flatten_cons, List.flatten_nil, List.append_assoc, List.cons_append, List.nil_append, List.append_nil, tc0, tc31, tc67, tc69]) (by intro q hq; simp only [List.mem_cons, List.not_mem_nil, or_false] at hq; rcases hq with rfl | rfl <;> first | exact (by decide +kernel) | exact (nb_app (by decide +kernel) (nb_cut (nb_name hone)))) (Nat.le_of_ble_eq_true rfl) (by intro q hq; simp only [List.mem_cons, List.not_mem_nil, or_false] at hq; rcases hq with rfl | rfl <;> first | exact len_name hone | exact len_name hother | exact Nat.le_of_ble_eq_true rfl | exact len_cut hone | exact len_cat hone | exact len_cat2 hone), ok_fit (sh := "n") (by decide +kernel) (by decide +kernel) (by decide +kernel) (i := 0) (c := 110) rfl (by decide +kernel) (fit_bad (c := 65) (by rw [TL.tl_append]; exact List.mem_append_left _ (by decide +kernel)) (by decide +kernel))⟩
theorem brk5_1 {one other : Str} (hone : isName one = true) (hother : isName other = true) (n : Nat) : BadW n ((("odd " : Str) ++ one) ++ (" b1" : Str)) :=
  ⟨[("odd" : Str), one, ("b1" : Str)], row_ok (List.cons_ne_nil _ _) (by simp only [TL.tl_append, List.headD_cons, List.tail_cons, List.map_cons, List.map_nil, List.flatten_cons, List.flatten_nil, List.append_assoc, List.cons_append, List.nil_append, List.append_nil, tc0, tc16, tc38, tc47, tc48]) (by intro q hq; simp only [List.mem_cons, List.not_mem_nil, or_false] at hq; rcases hq with rfl | rfl | rfl <;> first | exact (by decide +kernel) | exact (nb_name hone)) (Nat.le_of_ble_eq_true rfl) (by intro q hq; simp only [List.mem_cons, List.not_mem_nil, or_false] at hq; rcases hq with rfl | rfl | rfl <;> first | exact len_name hone | exact len_name hother | exact Nat.le_of_ble_eq_true rfl | exact len_cut hone | exact len_cat hone | exact len_cat2 hone), ok_odd_bad (i := 1) rfl (by decide +kernel)⟩
theorem brk5_2 {one other : Str} (hone : isName one = true) (hother : isName other = true) (n : Nat) : BadW n ("gone A" : Str) :=
  ⟨[("gone" : Str), ("A" : Str)], row_ok (List.cons_ne_nil _ _) (by simp only [TL.tl_append, List.headD_cons, List.tail_cons, List.map_cons, List.map_nil, List.flatten_cons, List.flatten_nil, List.append_assoc, List.cons_append, List.nil_append, List.append_nil, tc0, tc31, tc39, tc41]) (by intro q hq; simp only [List.mem_cons, List.not_mem_nil, or_false] at hq; rcases hq with rfl | rfl <;> first | exact (by decide +kernel)) (Nat.le_of_ble_eq_true rfl) (by intro q hq; simp only [List.mem_cons, List.not_mem_nil, or_false] at hq; rcases hq with rfl | rfl <;> first | exact len_name hone | exact len_name hother | exact Nat.le_of_ble_eq_true rfl | exact len_cut hone | exact len_cat hone | exact len_cat2 hone), ok_fit (sh := "n") (by decide +kernel) (by decide +kernel) (by decide +kernel) (i := 0) (c := 110) rfl (by decide +kernel) (by decide +kernel)⟩
theorem brk5_3 {one other : Str} (hone : isName one = true) (hother : isName other = true) (n : Nat) : BadW n ((("rename " : Str) ++ one) ++ (" B" : Str)) :=
  ⟨[("rename" : Str), one, ("B" : Str)], row_ok (List.cons_ne_nil _ _) (by simp only [TL.tl_append, List.headD_cons, List.tail_cons, List.map_cons, List.map_nil, List.flatten_cons, List.flatten_nil, List.append_assoc, List.cons_append, List.nil_append, List.append_nil, tc0, tc14, tc32, tc56, tc57]) (by intro q hq; simp only [List.mem_cons, List.not_mem_nil, or_false] at hq; rcases hq with rfl | rfl | rfl <;> first | exact (by decide +kernel) | exact (nb_name hone)) (Nat.le_of_ble_eq_true rfl) (by intro q hq; simp only [List.mem_cons, List.not_mem_nil, or_false] at hq; rcases hq with rfl | rfl | rfl <;> first | exact len_name hone | exact len_name hother | exact Nat.le_of_ble_eq_true rfl | exact len_cut hone | exact len_cat hone | exact len_cat2 hone), ok_fit (sh := "nn") (by decide +kernel) (by decide +kernel) (by decide +kernel) (i := 1) (c := 110) rfl (by decide +kernel) (by decide +kernel)⟩
theorem brk5_4 {one other : Str} (hone : isName one = true) (hother : isName other = true) (n : Nat) : BadW n (("rename b1 " : Str) ++ other) :=
  ⟨[("rename" : Str), ("b1" : Str), other], row_ok (List.cons_ne_nil _ _) (by simp only [TL.tl_append, List.headD_cons, List.tail_cons, List.map_cons, List.map_nil, List.flatten_cons, List.flatten_nil, List.append_assoc, List.cons_append, List.nil_append, List.append_nil, tc0, tc38, tc56, tc58]) (by intro q hq; simp only [List.mem_cons, List.not_mem_nil, or_false] at hq; rcases hq with rfl | rfl | rfl <;> first | exact (by decide +kernel) | exact (nb_name hother)) (Nat.le_of_ble_eq_true rfl) (by intro q hq; simp only [List.mem_cons, List.not_mem_nil, or_false] at hq; rcases hq with rfl | rfl | rfl <;> first | exact len_name hone | exact len_name hother | exact Nat.le_of_ble_eq_true rfl | exact len_cut hone | exact len_cat hone | exact len_cat2 hone), ok_fit (sh := "nn") (by decide +kernel) (by decide +kernel) (by decide +kernel) (i := 0) (c := 110) rfl (by decide +kernel) (by decide +kernel)⟩
theorem brk5_all {one other : Str} (hone : isName one = true) (hother : isName other = true) (n : Nat) : ∀ x ∈ brk5 one other, BadW n x := by
  intro x hx
  unfold brk5 at hx
  simp only [List.mem_cons, List.not_mem_nil, or_false] at hx
  rcases hx with rfl | rfl | rfl | rfl | rfl
  · exact brk5_0 hone hother n
  · exact brk5_1 hone hother n
  · exact brk5_2 hone hother n
  · exact brk5_3 hone hother n
  · exact brk5_4 hone hother n
theorem brk6_0 {one other : Str} (hone : isName one = true) (hother : isName other = true) (n : Nat) : BadW n ((("untie " : Str) ++ one) ++ (" a1" : Str)) :=
  ⟨[("untie" : Str), one, ("a1" : Str)], row_ok (List.cons_ne_nil _ _) (by simp only [TL.tl_append, List.headD_cons, List.tail_cons, List.map_cons, List.map_nil, List.flatten_cons, List.flatten_nil, List.append_assoc, List.cons_append, List.nil_append, List.append_nil, tc0, tc15, tc36, tc64, tc65]) (by intro q hq; simp only [List.mem_cons, List.not_mem_nil, or_false] at hq; rcases hq with rfl | rfl | rfl <;> first | exact (by decide +kernel) | exact (nb_name hone)) (Nat.le_of_ble_eq_true rfl) (by intro q hq; simp only [List.mem_cons, List.not_mem_nil, or_false] at hq; rcases hq with rfl | rfl | rfl <;> first | exact len_name hone | exact len_name hother | exact Nat.le_of_ble_eq_true rfl | exact len_cut hone | exact len_cat hone | exact len_cat2 hone), ok_fit (sh := "nn") (by decide +kernel) (by decide +kernel) (by decide +kernel) (i := 1) (c := 110) rfl (by decide +kernel) (by decide +kernel)⟩
theorem brk6_1 {one other : Str} (hone : isName one = true) (hother : isName other = true) (n : Nat) : BadW n (("untie B " : Str) ++ other) :=
  ⟨[("untie" : Str), ("B" : Str), other], row_ok (List.cons_ne_nil _ _) (by simp only [TL.tl_append, List.headD_cons, List.tail_cons, List.map_cons, List.map_nil, List.flatten_cons, List.flatten_nil, List.append_assoc, List.cons_append, List.nil_append, List.append_nil, tc0, tc32, tc64, tc66]) (by intro q hq; simp only [List.mem_cons, List.not_mem_nil, or_false] at hq; rcases hq with rfl | rfl | rfl <;> first | exact (by decide +kernel) | exact (nb_name hother)) (Nat.le_of_ble_eq_true rfl) (by intro q hq; simp only [List.mem_cons, List.not_mem_nil, or_false] at hq; rcases hq with rfl | rfl | rfl <;> first | exact len_name hone | exact len_name hother | exact Nat.le_of_ble_eq_true rfl | exact len_cut hone | exact len_cat hone | exact len_cat2 hone), ok_fit (sh := "nn") (by decide +kernel) (by decide +kernel) (by decide +kernel) (i := 0) (c := 110) rfl (by decide +kernel) (by decide +kernel)⟩
theorem brk6_2 {one other : Str} (hone : isName one = true) (hother : isName other = true) (n : Nat) : BadW n (((((("tie " : Str) ++ one) ++ (" " : Str)) ++ other) ++ (" " : Str)) ++ (repS "1" 61)) :=
  ⟨[("tie" : Str), one, other, (repS "1" 61)], row_ok (List.cons_ne_nil _ _) (by simp only [TL.tl_append, List.headD_cons, List.tail_cons, List.map_cons, List.map_nil, List.flatten_cons, List.flatten_nil, List.append_assoc, List.cons_append, List.nil_append, List.append_nil, tc0, tc1, tc61, tc62]) (by intro q hq; simp only [List.mem_cons, List.not_mem_nil, or_false] at hq; rcases hq with rfl | rfl | rfl | rfl <;> first | exact (by decide +kernel) | exact (nb_name hone) | exact (nb_name hother)) (Nat.le_of_ble_eq_true rfl) (by intro q hq; simp only [List.mem_cons, List.not_mem_nil, or_false] at hq; rcases hq with rfl | rfl | rfl | rfl <;> first | exact len_name hone | exact len_name hother | exact Nat.le_of_ble_eq_true rfl | exact len_cut hone | exact len_cat hone | exact len_cat2 hone), ok_fit (sh := "nnw") (by decide +kernel) (by decide +kernel) (by decide +kernel) (i := 2) (c := 119) rfl (by decide +kernel) (by decide +kernel)⟩
theorem brk6_all {one other : Str} (hone : isName one = true) (hother : isName other = true) (n : Nat) : ∀ x ∈ brk6 one other, BadW n x := by
  intro x hx
  unfold brk6 at hx
  simp only [List.mem_cons, List.not_mem_nil, or_false] at hx
  rcases hx with rfl | rfl | rfl
  · exact brk6_0 hone hother n
  · exact brk6_1 hone hother n
  · exact brk6_2 hone hother n
theorem brk7_0 {one other : Str} (hone : isName one = true) (hother : isName other = true) (n : Nat) : BadW n (((("gone " : Str) ++ one) ++ (" " : Str)) ++ other) :=
  ⟨[("gone" : Str), one, other], row_ok (List.cons_ne_nil _ _) (by simp only [TL.tl_append, List.headD_cons, List.tail_cons, List.map_cons, List.map_nil, List.flatten_cons, List.flatten_nil, List.append_assoc, List.cons_append, List.nil_append, List.append_nil, tc0, tc1, tc39, tc40]) (by intro q hq; simp only [List.mem_cons, List.not_mem_nil, or_false] at hq; rcases hq with rfl | rfl | rfl <;> first | exact (by decide +kernel) | exact (nb_name hone) | exact (nb_name hother)) (Nat.le_of_ble_eq_true rfl) (by intro q hq; simp only [List.mem_cons, List.not_mem_nil, or_false] at hq; rcases hq with rfl | rfl | rfl <;> first | exact len_name hone | exact len_name hother | exact Nat.le_of_ble_eq_true rfl | exact len_cut hone | exact len_cat hone | exact len_cat2 hone), ok_len (sh := "n") (by decide +kernel) (by decide +kernel) (by decide +kernel) (k := 2) rfl (by decide +kernel)⟩
theorem brk7_1 {one other : Str} (hone : isName one = true) (hother : isName other = true) (n : Nat) : BadW n (((((("untie " : Str) ++ one) ++ (" " : Str)) ++ other) ++ (" " : Str)) ++ one) :=
  ⟨[("untie" : Str), one, other, one], row_ok (List.cons_ne_nil _ _) (by simp only [TL.tl_append, List.headD_cons, List.tail_cons, List.map_cons, List.map_nil, List.flatten_cons, List.flatten_nil, List.append_assoc, List.cons_append, List.nil_append, List.append_nil, tc0, tc1, tc64, tc65]) (by intro q hq; simp only [List.mem_cons, List.not_mem_nil, or_false] at hq; rcases hq with rfl | rfl | rfl | rfl <;> first | exact (by decide +kernel) | exact (nb_name hone) | exact (nb_name hother)) (Nat.le_of_ble_eq_true rfl) (by intro q hq; simp only [List.mem_cons, List.not_mem_nil, or_false] at hq; rcases hq with rfl | rfl | rfl | rfl <;> first | exact len_name hone | exact len_name hother | exact Nat.le_of_ble_eq_true rfl | exact len_cut hone | exact len_cat hone | exact len_cat2 hone), ok_len (sh := "nn") (by decide +kernel) (by decide +kernel) (by decide +kernel) (k := 3) rfl (by decide +kernel)⟩
theorem brk7_2 {one other : Str} (hone : isName one = true) (hother : isName other = true) (n : Nat) : BadW n (("heaviest " : Str) ++ one) :=
  ⟨[("heaviest" : Str), one], row_ok (List.cons_ne_nil _ _) (by simp only [TL.tl_append, List.headD_cons, List.tail_cons, List.map_cons, List.map_nil, List.flatten_cons, List.flatten_nil, List.append_assoc, List.cons_append, List.nil_append, List.append_nil, tc0, tc42, tc43]) (by intro q hq; simp only [List.mem_cons, List.not_mem_nil, or_false] at hq; rcases hq with rfl | rfl <;> first | exact (by decide +kernel) | exact (nb_name hone)) (Nat.le_of_ble_eq_true rfl) (by intro q hq; simp only [List.mem_cons, List.not_mem_nil, or_false] at hq; rcases hq with rfl | rfl <;> first | exact len_name hone | exact len_name hother | exact Nat.le_of_ble_eq_true rfl | exact len_cut hone | exact len_cat hone | exact len_cat2 hone), ok_len (sh := "") (by decide +kernel) (by decide +kernel) (by decide +kernel) (k := 1) rfl (by decide +kernel)⟩
theorem brk7_all {one other : Str} (hone : isName one = true) (hother : isName other = true) (n : Nat) : ∀ x ∈ brk7 one other, BadW n x := by
  intro x hx
  unfold brk7 at hx
  simp only [List.mem_cons, List.not_mem_nil, or_false] at hx
  rcases hx with rfl | rfl | rfl
  · exact brk7_0 hone hother n
  · exact brk7_1 hone hother n
  · exact brk7_2 hone hother n
theorem brk8_0 {one other : Str} (hone : isName one = true) (hother : isName other = true) (n : Nat) : BadW n (((((("rename " : Str) ++ one) ++ (" " : Str)) ++ other) ++ (" " : Str)) ++ one) :=
  ⟨[("rename" : Str), one, other, one], row_ok (List.cons_ne_nil _ _) (by simp only [TL.tl_append, List.headD_cons, List.tail_cons, List.map_cons, List.map_nil, List.flatten_cons, List.flatten_nil, List.append_assoc, List.cons_append, List.nil_append, List.append_nil, tc0, tc1, tc56, tc57]) (by intro q hq; simp only [List.mem_cons, List.not_mem_nil, or_false] at hq; rcases hq with rfl | rfl | rfl | rfl <;> first | exact (by decide +kernel) | exact (nb_name hone) | exact (nb_name hother)) (Nat.le_of_ble_eq_true rfl) (by intro q hq; simp only [List.mem_cons, List.not_mem_nil, or_false] at hq; rcases hq with rfl | rfl | rfl | rfl <;> first | exact len_name hone | exact len_name hother | exact Nat.le_of_ble_eq_true rfl | exact len_cut hone | exact len_cat hone | exact len_cat2 hone), ok_len (sh := "nn") (by decide +kernel) (by decide +kernel) (by decide +kernel) (k := 3) rfl (by decide +kernel)⟩
theorem brk8_1 {one other : Str} (hone : isName one = true) (hother : isName other = true) (n : Nat) : BadW n ((((("tie " : Str) ++ one) ++ (" " : Str)) ++ other) ++ (" 3 4" : Str)) :=
  ⟨[("tie" : Str), one, other, ("3" : Str), ("4" : Str)], row_ok (List.cons_ne_nil _ _) (by simp only [TL.tl_append, List.headD_cons, List.tail_cons, List.map_cons, List.map_nil, List.flatten_cons, List.flatten_nil, List.append_assoc, List.cons_append, List.nil_append, List.append_nil, tc0, tc1, tc13, tc29, tc30, tc61, tc62]) (by intro q hq; simp only [List.mem_cons, List.not_mem_nil, or_false] at hq; rcases hq with rfl | rfl | rfl | rfl | rfl <;> first | exact (by decide +kernel) | exact (nb_name hone) | exact (nb_name hother)) (Nat.le_of_ble_eq_true rfl) (by intro q hq; simp only [List.mem_cons, List.not_mem_nil, or_false] at hq; rcases hq with rfl | rfl | rfl | rfl | rfl <;> first | exact len_name hone | exact len_name hother | exact Nat.le_of_ble_eq_true rfl | exact len_cut hone | exact len_cat hone | exact len_cat2 hone), ok_len (sh := "nnw") (by decide +kernel) (by decide +kernel) (by decide +kernel) (k := 4) rfl (by decide +kernel)⟩
theorem brk8_2 {one other : Str} (hone : isName one = true) (hother : isName other = true) (n : Nat) : BadW n (("paired " : Str) ++ one) :=
  ⟨[("paired" : Str), one], row_ok (List.cons_ne_nil _ _) (by simp only [TL.tl_append, List.headD_cons, List.tail_cons, List.map_cons, List.map_nil, List.flatten_cons, List.flatten_nil, List.append_assoc, List.cons_append, List.nil_append, List.append_nil, tc0, tc49, tc50]) (by intro q hq; simp only [List.mem_cons, List.not_mem_nil, or_false] at hq; rcases hq with rfl | rfl <;> first | exact (by decide +kernel) | exact (nb_name hone)) (Nat.le_of_ble_eq_true rfl) (by intro q hq; simp only [List.mem_cons, List.not_mem_nil, or_false] at hq; rcases hq with rfl | rfl <;> first | exact len_name hone | exact len_name hother | exact Nat.le_of_ble_eq_true rfl | exact len_cut hone | exact len_cat hone | exact len_cat2 hone), ok_len (sh := "") (by decide +kernel) (by decide +kernel) (by decide +kernel) (k := 1) rfl (by decide +kernel)⟩
theorem brk8_all {one other : Str} (hone : isName one = true) (hother : isName other = true) (n : Nat) : ∀ x ∈ brk8 one other, BadW n x := by
  intro x hx
  unfold brk8 at hx
  simp only [List.mem_cons, List.not_mem_nil, or_false] at hx
  rcases hx with rfl | rfl | rfl
  · exact brk8_0 hone hother n
  · exact brk8_1 hone hother n
  · exact brk8_2 hone hother n
theorem broken_bad {one other : Str} (hone : isName one = true) (hother : isName other = true) (n : Nat) : ∀ x ∈ brokenW one other, BadW n x := by
  intro x hx
  unfold brokenW at hx
  simp only [List.mem_append] at hx
  rcases hx with (((((((hx | hx) | hx) | hx) | hx) | hx) | hx) | hx) | hx
  · exact brk0_all hone hother n x hx
  · exact brk1_all hone hother n x hx
  · exact brk2_all hone hother n x hx
  · exact brk3_all hone hother n x hx
  · exact brk4_all hone hother n x hx
  · exact brk5_all hone hother n x hx
  · exact brk6_all hone hother n x hx
  · exact brk7_all hone hother n x hx
  · exact brk8_all hone hother n x hx
theorem tl_rep (z : Str) (k : Nat) : TL.tl (repS z k) = (List.replicate k (TL.tl z)).flatten := rfl
theorem want_row {x : Str} {k : Nat} {rest : List Str} {sp : Str} {row : Str} (hsp : TL.tl sp = 32 :: TL.tl x) (hx : noB x) (hl : x.length ≤ 100) (hk : k + rest.length ≤ 90) (hr : ∀ z ∈ rest, noB z ∧ z.length ≤ 100)
    (e : TL.tl row = TL.tl ("wanted" : Str) ++ ((List.replicate k (TL.tl sp)).flatten ++ (rest.map fun z => 32 :: TL.tl z).flatten)) : RowOk row ("wanted" :: (List.replicate k x ++ rest)) := by
  refine row_ok (by simp) ?_ (fun z hz => ?_) ?_ fun z hz => ?_
  · rw [e, hsp]
    show _ = TL.tl ("wanted" : Str) ++ _
    rw [List.tail_cons, List.map_append, List.flatten_append, List.map_replicate]
  · rcases List.mem_cons.mp hz with rfl | hz
    · decide +kernel
    · rcases List.mem_append.mp hz with hz | hz
      · rw [(List.mem_replicate.mp hz).2]
        exact hx
      · exact (hr z hz).1
  · rw [List.length_cons, List.length_append, List.length_replicate]
    omega
  · rcases List.mem_cons.mp hz with rfl | hz
    · decide +kernel
    · rcases List.mem_append.mp hz with hz | hz
      · rw [(List.mem_replicate.mp hz).2]
        exact hl
      · exact (hr z hz).2
theorem form_bad {z : Str} {n : Nat} (hn : n ≤ 50) (hz : z ∈ formsW) : BadW n ("wanted" ++ repS z (max 1 n)) := by
  have key : ∀ x : Str, TL.tl z = 32 :: TL.tl x → noB x → x.length ≤ 100 → fitsF x = false → BadW n ("wanted" ++ repS z (max 1 n)) := fun x h1 h2 h3 h4 => by
    refine ⟨_, want_row (k := max 1 n) (rest := []) h1 h2 h3 (by simp; omega) (by simp) (by rw [TL.tl_append, tl_rep]; simp), ok_wanted_bad (z := x) ?_ h4⟩
    rw [List.append_nil, List.mem_replicate]
    exact ⟨by omega, rfl⟩
  unfold formsW at hz
  simp only [List.mem_cons, List.not_mem_nil, or_false] at hz
  rcases hz with rfl | rfl | rfl | rfl | rfl
  · exact key "01" (by decide +kernel) (by decide +kernel) (by decide +kernel) (by decide +kernel)
  · exact key "+1" (by decide +kernel) (by decide +kernel) (by decide +kernel) (by decide +kernel)
  · exact key "-0" (by decide +kernel) (by decide +kernel) (by decide +kernel) (by decide +kernel)
  · exact key "00" (by decide +kernel) (by decide +kernel) (by decide +kernel) (by decide +kernel)
  · exact key "1.0" (by decide +kernel) (by decide +kernel) (by decide +kernel) (by decide +kernel)
end KD
set_option maxHeartbeats 2000000
/-! plain: the law's state and the desk's, change by change -/
namespace KD
open PySem PySem.Spec PyProof.Rows L2 Evl
def sameT (a b : LTie) : Prop := (a.1 = b.1 ∧ a.2.1 = b.2.1) ∨ (a.1 = b.2.1 ∧ a.2.1 = b.1)
structure Inv (ns : List Str) (L : List LTie) (D : List Tie) : Prop where
  nd : ns.Nodup
  nm : ∀ z ∈ ns, isName z = true
  nl : ns.length ≤ 12
  few : L.length ≤ 200
  mem : ∀ t ∈ L, t.1 ∈ ns ∧ t.2.1 ∈ ns
  ne : ∀ t ∈ L, t.1 ≠ t.2.1
  num : ∀ t ∈ L, t.2.2.natAbs < 10 ^ 60
  kd : L.Pairwise fun a b => ¬ sameT a b
  perm : D.Perm (L.map (tieI ns))
theorem tieI_same {ns : List Str} {a b : LTie} (ha : a.1 ∈ ns ∧ a.2.1 ∈ ns) (hb : b.1 ∈ ns ∧ b.2.1 ∈ ns) : ((tieI ns a).1 = (tieI ns b).1 ∧ (tieI ns a).2.1 = (tieI ns b).2.1) ↔ sameT a b := by
  have i1 := fun e => idx_inj ha.1 hb.1 e
  have i2 := fun e => idx_inj ha.2 hb.2 e
  have i3 := fun e => idx_inj ha.1 hb.2 e
  have i4 := fun e => idx_inj ha.2 hb.1 e
  show (min (idx ns a.1) (idx ns a.2.1) = min (idx ns b.1) (idx ns b.2.1) ∧ max (idx ns a.1) (idx ns a.2.1) = max (idx ns b.1) (idx ns b.2.1)) ↔ _
  constructor
  · rintro ⟨h1, h2⟩
    have : (idx ns a.1 = idx ns b.1 ∧ idx ns a.2.1 = idx ns b.2.1) ∨ (idx ns a.1 = idx ns b.2.1 ∧ idx ns a.2.1 = idx ns b.1) := by omega
    rcases this with ⟨h1, h2⟩ | ⟨h1, h2⟩
    · exact .inl ⟨i1 h1, i2 h2⟩
    · exact .inr ⟨i3 h1, i4 h2⟩
  · rintro (⟨h1, h2⟩ | ⟨h1, h2⟩)
    · rw [h1, h2]
      exact ⟨rfl, rfl⟩
    · rw [h1, h2]
      constructor <;> omega
section
variable {ns : List Str} {L : List LTie} {D : List Tie}
theorem Inv.in' (I : Inv ns L D) {t : Tie} (h : t ∈ D) : ∃ u ∈ L, t = tieI ns u := by
  obtain ⟨u, hu, e⟩ := List.mem_map.mp (I.perm.mem_iff.mp h)
  exact ⟨u, hu, e.symm⟩
theorem Inv.law (I : Inv ns L D) : LawOk ns L := by
  refine ⟨I.nm, I.nl, I.few, I.mem, I.num, ?_⟩
  unfold List.Nodup
  rw [List.pairwise_map]
  refine I.kd.imp fun {a b} h e => h ?_
  exact .inl (ks_inj e)
theorem Inv.desk (I : Inv ns L D) : DeskOk ns D := by
  refine ⟨I.nd, I.nl, fun z hz => (isName_iff.mp (I.nm z hz)).1.2, ⟨fun t ht => ?_, ?_, ?_⟩, fun t ht => ?_⟩
  · obtain ⟨u, hu, rfl⟩ := I.in' ht
    obtain ⟨m1, m2⟩ := I.mem u hu
    have h1 := idx_lt m1
    have h2 := idx_lt m2
    have h3 : idx ns u.1 ≠ idx ns u.2.1 := fun e => I.ne u hu (idx_inj m1 m2 e)
    show min (idx ns u.1) (idx ns u.2.1) < max (idx ns u.1) (idx ns u.2.1) ∧ max (idx ns u.1) (idx ns u.2.1) < _
    omega
  · refine ((I.perm.map fun t : Tie => (t.1, t.2.1)).nodup_iff).mpr ?_
    rw [List.map_map]
    unfold List.Nodup
    rw [List.pairwise_map]
    refine I.kd.imp_of_mem fun {a b} ha hb h e => h ?_
    obtain ⟨e1, e2⟩ := Prod.mk.inj e
    exact (tieI_same (I.mem a ha) (I.mem b hb)).mp ⟨e1, e2⟩
  · have := I.perm.length_eq
    rw [List.length_map] at this
    have := I.few
    omega
  · obtain ⟨u, hu, rfl⟩ := I.in' ht
    exact I.num u hu
theorem inv_nil : Inv [] [] [] := ⟨List.nodup_nil, by simp, by simp, by simp, by simp, by simp, by simp, .nil, .nil⟩
/-! ### a point more -/
theorem idx_app : ∀ {ns : List Str} {x f : Str}, x ∈ ns → idx (ns ++ [f]) x = idx ns x
  | [], x, f, h => by cases h
  | a :: r, x, f, h => by
    show idx (a :: (r ++ [f])) x = _
    unfold idx
    by_cases e : a = x
    · rw [if_pos e, if_pos e]
    · rw [if_neg e, if_neg e, idx_app ((List.mem_cons.mp h).resolve_left fun q => e q.symm)]
theorem inv_point (I : Inv ns L D) {f : Str} (hf : isName f = true) (hn : f ∉ ns) (hl : ns.length < 12) : Inv (ns ++ [f]) L D := by
  refine ⟨?_, fun z hz => ?_, ?_, I.few, fun t ht => ?_, I.ne, I.num, I.kd, ?_⟩
  · rw [List.nodup_append]
    refine ⟨I.nd, by simp, fun a ha b hb => ?_⟩
    rw [List.mem_singleton.mp hb]
    rintro rfl
    exact hn ha
  · rcases List.mem_append.mp hz with h | h
    · exact I.nm z h
    · rw [List.mem_singleton.mp h]
      exact hf
  · rw [List.length_append, List.length_singleton]
    omega
  · obtain ⟨m1, m2⟩ := I.mem t ht
    exact ⟨List.mem_append_left _ m1, List.mem_append_left _ m2⟩
  · have : L.map (tieI (ns ++ [f])) = L.map (tieI ns) := List.map_congr_left fun t ht => by
      obtain ⟨m1, m2⟩ := I.mem t ht
      unfold tieI
      rw [idx_app m1, idx_app m2]
    rw [this]
    exact I.perm
/-! ### renamed -/
theorem idx_set : ∀ {ns : List Str} {x y z : Str}, x ∈ ns → z ∉ ns → idx (ns.set (idx ns y) z) (renS y z x) = idx ns x
  | [], x, y, z, h, _ => by cases h
  | a :: r, x, y, z, h, hz => by
    have za : z ≠ a := fun q => hz (q ▸ List.mem_cons_self ..)
    have zr : z ∉ r := fun q => hz (List.mem_cons_of_mem _ q)
    by_cases e : a = y
    · have h0 : idx (a :: r) y = 0 := if_pos e
      rw [h0, List.set_cons_zero]
      by_cases ex : x = y
      · have : renS y z x = z := if_pos ex
        rw [this, ex, h0]
        exact if_pos rfl
      · have : renS y z x = x := if_neg ex
        rw [this]
        have ax : ¬ a = x := fun q => ex (q ▸ e)
        have zx : ¬ z = x := fun q => hz (q ▸ h)
        show (if z = x then 0 else idx r x + 1) = if a = x then 0 else idx r x + 1
        rw [if_neg ax, if_neg zx]
    · have h1 : idx (a :: r) y = idx r y + 1 := if_neg e
      rw [h1, List.set_cons_succ]
      by_cases ax : a = x
      · have : renS y z x = a := by
          rw [← ax]
          exact if_neg e
        rw [this, ← ax]
        show (if a = a then 0 else _) = if a = a then 0 else _
        rw [if_pos rfl, if_pos rfl]
      · have hr : x ∈ r := (List.mem_cons.mp h).resolve_left fun q => ax q.symm
        have ne : ¬ a = renS y z x := by
          unfold renS
          split
          · exact fun q => za q.symm
          · exact ax
        show (if a = renS y z x then 0 else idx (r.set (idx r y) z) (renS y z x) + 1) = if a = x then 0 else idx r x + 1
        rw [if_neg ne, if_neg ax, idx_set hr zr]
theorem mem_set' {ns : List Str} {x y z : Str} (h : x ∈ ns) (hz : z ∉ ns) (hy : y ∈ ns) : renS y z x ∈ ns.set (idx ns y) z := by
  have hx := idx_get h
  refine List.mem_of_getElem? (i := idx ns x) ?_
  rw [List.getElem?_set]
  by_cases e : idx ns y = idx ns x
  · rw [if_pos e, if_pos (idx_lt hy)]
    have : x = y := idx_inj h hy e.symm
    rw [show renS y z x = z from if_pos this]
  · rw [if_neg e, hx]
    have : ¬ x = y := fun q => e (q ▸ rfl)
    rw [show renS y z x = x from if_neg this]
theorem nodup_set : ∀ {ns : List Str} {i : Nat} {z : Str}, ns.Nodup → z ∉ ns → (ns.set i z).Nodup
  | [], i, z, _, _ => List.nodup_nil
  | a :: r, 0, z, h, hz => by
    rw [List.set_cons_zero]
    exact List.nodup_cons.mpr ⟨fun q => hz (List.mem_cons_of_mem _ q), (List.nodup_cons.mp h).2⟩
  | a :: r, i + 1, z, h, hz => by
    rw [List.set_cons_succ]
    obtain ⟨h1, h2⟩ := List.nodup_cons.mp h
    refine List.nodup_cons.mpr ⟨fun q => ?_, nodup_set h2 fun q => hz (List.mem_cons_of_mem _ q)⟩
    rcases List.mem_or_eq_of_mem_set q with q | q
    · exact h1 q
    · exact hz (q ▸ List.mem_cons_self ..)
theorem inv_rename (I : Inv ns L D) {y z : Str} (hy : y ∈ ns) (hn : isName z = true) (hz : z ∉ ns) : Inv (ns.set (idx ns y) z) (L.map (renT y z)) D := by
  refine ⟨nodup_set I.nd hz, fun x hx => ?_, by rw [List.length_set]; exact I.nl, by rw [List.length_map]; exact I.few, fun t ht => ?_, fun t ht => ?_, fun t ht => ?_, ?_, ?_⟩
  · rcases List.mem_or_eq_of_mem_set hx with q | q
    · exact I.nm x q
    · rw [q]
      exact hn
  · obtain ⟨u, hu, rfl⟩ := List.mem_map.mp ht
    obtain ⟨m1, m2⟩ := I.mem u hu
    exact ⟨mem_set' m1 hz hy, mem_set' m2 hz hy⟩
  · obtain ⟨u, hu, rfl⟩ := List.mem_map.mp ht
    obtain ⟨m1, m2⟩ := I.mem u hu
    exact fun e => I.ne u hu (renS_inj hz m1 m2 e)
  · obtain ⟨u, hu, rfl⟩ := List.mem_map.mp ht
    exact I.num u hu
  · rw [List.pairwise_map]
    refine I.kd.imp_of_mem fun {a b} ha hb h e => h ?_
    obtain ⟨a1, a2⟩ := I.mem a ha
    obtain ⟨b1, b2⟩ := I.mem b hb
    rcases e with ⟨e1, e2⟩ | ⟨e1, e2⟩
    · exact .inl ⟨renS_inj hz a1 b1 e1, renS_inj hz a2 b2 e2⟩
    · exact .inr ⟨renS_inj hz a1 b2 e1, renS_inj hz a2 b1 e2⟩
  · rw [List.map_map]
    have : L.map (tieI (ns.set (idx ns y) z) ∘ renT y z) = L.map (tieI ns) := List.map_congr_left fun t ht => by
      obtain ⟨m1, m2⟩ := I.mem t ht
      show (min (idx _ (renS y z t.1)) (idx _ (renS y z t.2.1)), max (idx _ (renS y z t.1)) (idx _ (renS y z t.2.1)), t.2.2) = _
      rw [idx_set m1 hz, idx_set m2 hz]
      rfl
    rw [this]
    exact I.perm
/-! ### gone -/
theorem idx_erase : ∀ {ns : List Str} {x y : Str}, x ∈ ns → x ≠ y → idx (ns.eraseIdx (idx ns y)) x = idx ns x - (if idx ns y < idx ns x then 1 else 0)
  | [], x, y, h, _ => by cases h
  | a :: r, x, y, h, hxy => by
    by_cases e : a = y
    · have h0 : idx (a :: r) y = 0 := if_pos e
      have ax : ¬ a = x := fun q => hxy (q.symm.trans e)
      have h1 : idx (a :: r) x = idx r x + 1 := if_neg ax
      rw [h0, h1, if_pos (by omega)]
      rfl
    · have h1 : idx (a :: r) y = idx r y + 1 := if_neg e
      rw [h1, List.eraseIdx_cons_succ]
      by_cases ax : a = x
      · have h2 : idx (a :: r) x = 0 := if_pos ax
        have h3 : idx (a :: r.eraseIdx (idx r y)) x = 0 := if_pos ax
        rw [h2, h3]
        simp
      · have h2 : idx (a :: r) x = idx r x + 1 := if_neg ax
        have h3 : idx (a :: r.eraseIdx (idx r y)) x = idx (r.eraseIdx (idx r y)) x + 1 := if_neg ax
        have hr : x ∈ r := (List.mem_cons.mp h).resolve_left fun q => ax q.symm
        rw [h2, h3, idx_erase hr hxy]
        by_cases c : idx r y < idx r x
        · rw [if_pos c, if_pos (by omega)]
          omega
        · rw [if_neg c, if_neg (by omega)]
          omega
theorem mem_erase' : ∀ {ns : List Str} {x y : Str}, x ∈ ns → x ≠ y → x ∈ ns.eraseIdx (idx ns y)
  | [], x, y, h, _ => by cases h
  | a :: r, x, y, h, hxy => by
    by_cases e : a = y
    · have h0 : idx (a :: r) y = 0 := if_pos e
      rw [h0]
      show x ∈ r
      exact (List.mem_cons.mp h).resolve_left fun q => hxy (q.trans e)
    · have h1 : idx (a :: r) y = idx r y + 1 := if_neg e
      rw [h1, List.eraseIdx_cons_succ]
      rcases List.mem_cons.mp h with q | q
      · rw [q]
        exact List.mem_cons_self ..
      · exact List.mem_cons_of_mem _ (mem_erase' q hxy)
theorem Inv.filter (I : Inv ns L D) (p : LTie → Bool) : (∀ t ∈ L.filter p, t.1 ∈ ns ∧ t.2.1 ∈ ns) ∧ (∀ t ∈ L.filter p, t.1 ≠ t.2.1) ∧ (∀ t ∈ L.filter p, t.2.2.natAbs < 10 ^ 60) ∧ (L.filter p).Pairwise (fun a b => ¬ sameT a b) ∧ (L.filter p).length ≤ L.length :=
  ⟨fun t ht => I.mem t (List.mem_filter.mp ht).1, fun t ht => I.ne t (List.mem_filter.mp ht).1, fun t ht => I.num t (List.mem_filter.mp ht).1, I.kd.filter _, List.length_filter_le _ _⟩
theorem inv_gone (I : Inv ns L D) {y : Str} (hy : y ∈ ns) : Inv (ns.eraseIdx (idx ns y)) (L.filter (apartT y)) (goneT (idx ns y) D) := by
  obtain ⟨f1, f2, f3, f4, f5⟩ := I.filter (apartT y)
  have sub := List.eraseIdx_sublist (l := ns) (k := idx ns y)
  have ap : ∀ t ∈ L.filter (apartT y), t.1 ≠ y ∧ t.2.1 ≠ y := fun t ht => by
    have := (List.mem_filter.mp ht).2
    unfold apartT at this
    simpa using this
  refine ⟨I.nd.sublist sub, fun z hz => I.nm z (sub.subset hz), Nat.le_trans sub.length_le I.nl, Nat.le_trans f5 I.few, fun t ht => ?_, f2, f3, f4, ?_⟩
  · obtain ⟨m1, m2⟩ := f1 t ht
    obtain ⟨a1, a2⟩ := ap t ht
    exact ⟨mem_erase' m1 a1, mem_erase' m2 a2⟩
  · unfold goneT
    refine ((I.perm.filter _).map _).trans ?_
    rw [List.filter_map, List.map_map]
    have e1 : L.filter (keepT (idx ns y) ∘ tieI ns) = L.filter (apartT y) := List.filter_congr fun t ht => by
      obtain ⟨m1, m2⟩ := I.mem t ht
      show (!decide (min (idx ns t.1) (idx ns t.2.1) = idx ns y) && !decide (max (idx ns t.1) (idx ns t.2.1) = idx ns y)) = (!decide (t.1 = y) && !decide (t.2.1 = y))
      have j1 : idx ns t.1 = idx ns y ↔ t.1 = y := ⟨fun e => idx_inj m1 hy e, fun e => by rw [e]⟩
      have j2 : idx ns t.2.1 = idx ns y ↔ t.2.1 = y := ⟨fun e => idx_inj m2 hy e, fun e => by rw [e]⟩
      by_cases c1 : t.1 = y
      · have d1 := j1.mpr c1
        rw [decide_eq_true c1]
        by_cases h : idx ns t.1 ≤ idx ns t.2.1
        · rw [decide_eq_true (show min (idx ns t.1) (idx ns t.2.1) = idx ns y by omega)]
          rfl
        · rw [decide_eq_true (show max (idx ns t.1) (idx ns t.2.1) = idx ns y by omega), Bool.not_true, Bool.and_false, Bool.false_and]
      · have d1 : ¬ idx ns t.1 = idx ns y := fun q => c1 (j1.mp q)
        rw [decide_eq_false c1]
        by_cases c2 : t.2.1 = y
        · have d2 := j2.mpr c2
          rw [decide_eq_true c2]
          by_cases h : idx ns t.2.1 ≤ idx ns t.1
          · rw [decide_eq_true (show min (idx ns t.1) (idx ns t.2.1) = idx ns y by omega)]
            rfl
          · rw [decide_eq_true (show max (idx ns t.1) (idx ns t.2.1) = idx ns y by omega), Bool.not_true, Bool.and_false, Bool.and_false]
        · have d2 : ¬ idx ns t.2.1 = idx ns y := fun q => c2 (j2.mp q)
          rw [decide_eq_false c2, decide_eq_false (show ¬ min (idx ns t.1) (idx ns t.2.1) = idx ns y by omega), decide_eq_false (show ¬ max (idx ns t.1) (idx ns t.2.1) = idx ns y by omega)]
    rw [e1]
    refine List.Perm.of_eq (List.map_congr_left fun t ht => ?_)
    obtain ⟨m1, m2⟩ := f1 t ht
    obtain ⟨a1, a2⟩ := ap t ht
    have d1 : idx ns t.1 ≠ idx ns y := fun q => a1 (idx_inj m1 hy q)
    have d2 : idx ns t.2.1 ≠ idx ns y := fun q => a2 (idx_inj m2 hy q)
    show (min (idx ns t.1) (idx ns t.2.1) - (if idx ns y < min (idx ns t.1) (idx ns t.2.1) then 1 else 0), max (idx ns t.1) (idx ns t.2.1) - (if idx ns y < max (idx ns t.1) (idx ns t.2.1) then 1 else 0), t.2.2) = (min (idx _ t.1) (idx _ t.2.1), max (idx _ t.1) (idx _ t.2.1), t.2.2)
    rw [idx_erase m1 a1, idx_erase m2 a2]
    congr 1
    · split <;> split <;> split <;> omega
    · congr 1
      split <;> split <;> split <;> omega
/-! ### tied, untied -/
theorem put_perm : ∀ {D : List Tie} {a b : Nat} {h : Int}, (D.map fun t => (t.1, t.2.1)).Nodup → (putT D a b h).Perm (dropT D a b ++ [(a, b, h)])
  | [], a, b, h, _ => .refl _
  | t :: r, a, b, h, hn => by
    have hn : ((t.1, t.2.1) :: r.map fun t => (t.1, t.2.1)).Nodup := hn
    obtain ⟨h1, h2⟩ := List.nodup_cons.mp hn
    by_cases e : t.1 = a ∧ t.2.1 = b
    · have hr : ∀ u ∈ r, ¬ (u.1 = a ∧ u.2.1 = b) := fun u hu q => h1 (by
        rw [e.1, e.2]
        exact List.mem_map.mpr ⟨u, hu, by rw [q.1, q.2]⟩)
      have p1 : putT (t :: r) a b h = (a, b, h) :: r := by
        unfold putT
        rw [if_pos (by rw [List.any_cons, decide_eq_true e, Bool.true_or]), List.map_cons, if_pos e]
        congr 1
        exact (List.map_congr_left fun u hu => if_neg (hr u hu)).trans (List.map_id _)
      have p2 : dropT (t :: r) a b = r := by
        unfold dropT
        rw [List.filter_cons, if_neg (by rw [decide_eq_true e]; decide)]
        exact List.filter_eq_self.mpr fun u hu => by rw [decide_eq_false (hr u hu)]; rfl
      rw [p1, p2]
      exact (List.perm_append_singleton _ _).symm
    · have p1 : putT (t :: r) a b h = t :: putT r a b h := by
        unfold putT
        rw [List.any_cons, decide_eq_false e, Bool.false_or]
        split
        · rw [List.map_cons, if_neg e]
        · rfl
      have p2 : dropT (t :: r) a b = t :: dropT r a b := by
        unfold dropT
        rw [List.filter_cons, if_pos (by rw [decide_eq_false e]; rfl)]
      rw [p1, p2]
      exact (put_perm h2).cons t
theorem key_off {ns : List Str} {t : LTie} {y z : Str} (ht : t.1 ∈ ns ∧ t.2.1 ∈ ns) (hy : y ∈ ns) (hz : z ∈ ns) :
    decide ((tieI ns t).1 = min (idx ns y) (idx ns z) ∧ (tieI ns t).2.1 = max (idx ns y) (idx ns z)) = !offT y z t := by
  have h := tieI_same (a := t) (b := (y, z, 0)) ht ⟨hy, hz⟩
  have h : ((tieI ns t).1 = min (idx ns y) (idx ns z) ∧ (tieI ns t).2.1 = max (idx ns y) (idx ns z)) ↔ ((t.1 = y ∧ t.2.1 = z) ∨ (t.1 = z ∧ t.2.1 = y)) := h
  unfold offT
  by_cases c : (t.1 = y ∧ t.2.1 = z) ∨ (t.1 = z ∧ t.2.1 = y)
  · rw [decide_eq_true (h.mpr c)]
    rcases c with ⟨c1, c2⟩ | ⟨c1, c2⟩ <;> simp [c1, c2]
  · rw [decide_eq_false fun q => c (h.mp q), ← Bool.decide_and, ← Bool.decide_and, decide_eq_false fun q => c (.inl q), decide_eq_false fun q => c (.inr q)]
    rfl
theorem drop_map (I : Inv ns L D) {y z : Str} (hy : y ∈ ns) (hz : z ∈ ns) : (dropT D (min (idx ns y) (idx ns z)) (max (idx ns y) (idx ns z))).Perm ((L.filter (offT y z)).map (tieI ns)) := by
  unfold dropT
  refine (I.perm.filter _).trans ?_
  rw [List.filter_map]
  have : L.filter ((fun t => !decide (t.1 = min (idx ns y) (idx ns z) ∧ t.2.1 = max (idx ns y) (idx ns z))) ∘ tieI ns) = L.filter (offT y z) := List.filter_congr fun t ht => by
    show (!decide ((tieI ns t).1 = _ ∧ (tieI ns t).2.1 = _)) = _
    rw [key_off (I.mem t ht) hy hz, Bool.not_not]
  rw [this]
theorem inv_untie (I : Inv ns L D) {y z : Str} (hy : y ∈ ns) (hz : z ∈ ns) : Inv ns (L.filter (offT y z)) (dropT D (min (idx ns y) (idx ns z)) (max (idx ns y) (idx ns z))) := by
  obtain ⟨f1, f2, f3, f4, f5⟩ := I.filter (offT y z)
  exact ⟨I.nd, I.nm, I.nl, Nat.le_trans f5 I.few, f1, f2, f3, f4, drop_map I hy hz⟩
theorem inv_tie (I : Inv ns L D) {y z : Str} {h : Int} (hy : y ∈ ns) (hz : z ∈ ns) (hyz : y ≠ z) (hh : h.natAbs < 10 ^ 60) (hl : L.length < 200) : Inv ns (L.filter (offT y z) ++ [(y, z, h)]) (putT D (min (idx ns y) (idx ns z)) (max (idx ns y) (idx ns z)) h) := by
  obtain ⟨f1, f2, f3, f4, f5⟩ := I.filter (offT y z)
  refine ⟨I.nd, I.nm, I.nl, by rw [List.length_append, List.length_singleton]; omega, fun t ht => ?_, fun t ht => ?_, fun t ht => ?_, ?_, ?_⟩
  · rcases List.mem_append.mp ht with ht | ht
    · exact f1 t ht
    · rw [List.mem_singleton.mp ht]
      exact ⟨hy, hz⟩
  · rcases List.mem_append.mp ht with ht | ht
    · exact f2 t ht
    · rw [List.mem_singleton.mp ht]
      exact hyz
  · rcases List.mem_append.mp ht with ht | ht
    · exact f3 t ht
    · rw [List.mem_singleton.mp ht]
      exact hh
  · rw [List.pairwise_append]
    refine ⟨f4, List.pairwise_singleton _ _, fun a ha b hb q => ?_⟩
    rw [List.mem_singleton.mp hb] at q
    have := (List.mem_filter.mp ha).2
    unfold offT at this
    rcases q with ⟨q1, q2⟩ | ⟨q1, q2⟩
    · rw [q1, q2] at this
      simp at this
    · rw [q1, q2] at this
      simp at this
  · refine (put_perm I.desk.ties.nd).trans ?_
    rw [List.map_append]
    exact (drop_map I hy hz).append_right _
theorem has_eq (I : Inv ns L D) {y z : Str} (hy : y ∈ ns) (hz : z ∈ ns) : hasT D (min (idx ns y) (idx ns z)) (max (idx ns y) (idx ns z)) = (hasL L y z || hasL L z y) := by
  have h1 : ∀ a b : Str, hasL L a b = L.any fun t => decide (t.1 = a ∧ t.2.1 = b) := fun a b => by
    unfold hasL
    rw [← valV_any]
    unfold lawT
    rw [List.any_map]
    congr 1
    funext t
    exact decide_eq_decide.mpr ⟨fun e => ks_inj e, fun e => by show ks t.1 t.2.1 = _; rw [e.1, e.2]⟩
  have h2 : hasT D (min (idx ns y) (idx ns z)) (max (idx ns y) (idx ns z)) = (L.map (tieI ns)).any fun t => decide (t.1 = min (idx ns y) (idx ns z) ∧ t.2.1 = max (idx ns y) (idx ns z)) := by
    unfold hasT
    rw [Bool.eq_iff_iff, List.any_eq_true, List.any_eq_true]
    exact ⟨fun ⟨x, hx, e⟩ => ⟨x, I.perm.mem_iff.mp hx, e⟩, fun ⟨x, hx, e⟩ => ⟨x, I.perm.mem_iff.mpr hx, e⟩⟩
  rw [h2, h1, h1, List.any_map, Bool.eq_iff_iff, Bool.or_eq_true, List.any_eq_true, List.any_eq_true, List.any_eq_true]
  constructor
  · rintro ⟨t, ht, e⟩
    have e : decide ((tieI ns t).1 = _ ∧ (tieI ns t).2.1 = _) = true := e
    rw [key_off (I.mem t ht) hy hz] at e
    unfold offT at e
    by_cases c : t.1 = y ∧ t.2.1 = z
    · exact .inl ⟨t, ht, decide_eq_true c⟩
    · refine .inr ⟨t, ht, decide_eq_true ?_⟩
      by_cases c2 : t.1 = z ∧ t.2.1 = y
      · exact c2
      · exfalso
        simp only [← Bool.decide_and, decide_eq_false c, decide_eq_false c2] at e
        cases e
  · rintro (⟨t, ht, e⟩ | ⟨t, ht, e⟩)
    · refine ⟨t, ht, ?_⟩
      obtain ⟨e1, e2⟩ := of_decide_eq_true e
      show decide ((tieI ns t).1 = _ ∧ (tieI ns t).2.1 = _) = true
      rw [key_off (I.mem t ht) hy hz]
      unfold offT
      simp [e1, e2]
    · refine ⟨t, ht, ?_⟩
      obtain ⟨e1, e2⟩ := of_decide_eq_true e
      show decide ((tieI ns t).1 = _ ∧ (tieI ns t).2.1 = _) = true
      rw [key_off (I.mem t ht) hy hz]
      unfold offT
      simp [e1, e2]
end
end KD
set_option maxHeartbeats 2000000
/-! plain: numbers as words; what the desk says to a row that is well formed -/
namespace KD
open PySem PySem.Spec PyProof.Rows L2 Evl
theorem starts_iff (x : Str) : Txt.startswith x "-" = true ↔ TL.pre [45] (TL.tl x) = true := by
  have t1 : TL.tl ("-" : Str) = [45] := by decide +kernel
  have h := TL.at_iff (x := x) (y := "-") (by rw [t1]; simp) 0
  rw [t1, List.drop_zero] at h
  rw [← h]
  unfold Txt.startswith
  rw [Bool.and_eq_true, decide_eq_true_iff]
  exact Iff.rfl
theorem starts_pos {x : Str} {c : Nat} {r : List Nat} (h : TL.tl x = c :: r) (hc : c ≠ 45) : Txt.startswith x "-" = false := by
  cases hs : Txt.startswith x "-" with
  | false => rfl
  | true =>
    have := (starts_iff x).mp hs
    rw [h] at this
    have this : ([c] == [45]) = true := this
    exact absurd (by simpa using this) hc
theorem starts_neg {x : Str} {r : List Nat} (h : TL.tl x = 45 :: r) : Txt.startswith x "-" = true := by
  rw [starts_iff, h]
  rfl
theorem numL_head : ∀ {n : Nat}, n ≠ 0 → ∃ c r, TL.numL n = c :: r ∧ c ≠ 48 := by
  intro n
  induction n using Nat.strongRecOn with
  | _ n ih =>
    intro h0
    by_cases h : n < 10
    · exact ⟨48 + n, [], TL.numL_lt h, by omega⟩
    · obtain ⟨c, r, e, hc⟩ := ih (n / 10) (by omega) (by omega)
      exact ⟨c, r ++ [48 + n % 10], by rw [TL.numL_step (by omega), e]; rfl, hc⟩
theorem tl_cut1 (z : Str) : TL.tl (cutS z (some 1) none) = (TL.tl z).drop 1 := by
  show (z.cps.toList.drop (HT.sIx z.length 0 (some ((1 : Nat) : Int)))).take _ = _
  have hl : z.length = z.cps.toList.length := Array.length_toList.symm
  rw [HT.sIx_nat, HT.sIx_none, hl]
  show ((TL.tl z).drop (min 1 (TL.tl z).length)).take ((TL.tl z).length - min 1 (TL.tl z).length) = _
  cases TL.tl z with
  | nil => rfl
  | cons c r =>
    rw [List.length_cons, Nat.min_eq_left (by omega)]
    show r.take (r.length + 1 - 1) = r
    rw [Nat.add_sub_cancel, List.take_length]
theorem isNum_of {z F : Str} {n : Nat} (hF : figures z = F) (ht : TL.tl F = TL.numL n) (hn : n < 10 ^ 60) (h0 : n = 0 → z = "0") : isNum z = true := by
  unfold isNum
  rw [hF]
  have ne : F ≠ "" := fun q => TL.numL_ne n (by rw [← ht, q]; decide +kernel)
  have hl : F.length ≤ 60 := by
    rw [TL.len_tl, ht]
    exact TL.numL_len (by decide) hn
  have dig : ∀ c : Nat, 48 ≤ c → c ≤ 57 → c ∈ figs.cps.toList := by
    intro c h1 h2
    have : ∀ d : Nat, d < 10 → 48 + d ∈ figs.cps.toList := by decide +kernel
    have := this (c - 48) (by omega)
    rwa [show 48 + (c - 48) = c by omega] at this
  have all : (F.cps.toList.all fun c => decide (c ∈ figs.cps.toList)) = true := by
    rw [List.all_eq_true]
    intro c hc
    have hc : c ∈ TL.tl F := hc
    rw [ht] at hc
    obtain ⟨h1, h2⟩ := TL.numL_digits n c hc
    exact decide_eq_true (dig c h1 h2)
  rw [if_neg]
  · by_cases hz : n = 0
    · rw [decide_eq_true (h0 hz)]
      exact Bool.or_true _
    · obtain ⟨c, r, e, hc⟩ := numL_head hz
      have h1 : headC F = c := by
        unfold headC
        show ((TL.tl F)[0]?).getD 0 = c
        rw [ht, e]
        rfl
      rw [h1, decide_eq_false]
      · rfl
      · intro q
        have := congrArg TL.tl q
        have t0 : TL.tl ("0" : Str) = [48] := by decide +kernel
        rw [t0] at this
        have : [c] = [48] := this
        exact hc (List.cons.inj this).1
  · rw [all, decide_eq_false ne, decide_eq_false (by omega)]
    decide
theorem isNum_num {h : Int} (hh : h.natAbs < 10 ^ 60) : isNum (numS h) = true := by
  cases h with
  | ofNat n =>
    have ht : TL.tl (numS (Int.ofNat n)) = TL.numL n := tl_numS_pos n
    have hs : Txt.startswith (numS (Int.ofNat n)) "-" = false := by
      cases hd : TL.numL n with
      | nil => exact absurd hd (TL.numL_ne n)
      | cons c r =>
        refine starts_pos (ht.trans hd) ?_
        have := TL.numL_digits n c (by rw [hd]; exact List.mem_cons_self ..)
        omega
    refine isNum_of (F := numS (Int.ofNat n)) ?_ ht hh fun q => ?_
    · unfold figures
      rw [hs]
      rfl
    · rw [q]
      decide +kernel
  | negSucc m =>
    have ht : TL.tl (numS (Int.negSucc m)) = 45 :: TL.numL (m + 1) := tl_numS_neg m
    refine isNum_of (n := m + 1) (F := cutS (numS (Int.negSucc m)) (some 1) none) ?_ ?_ hh fun q => by omega
    · unfold figures
      rw [if_pos (starts_neg ht)]
    · rw [tl_cut1, ht]
      rfl
theorem num_chars {h : Int} : ∃ c r, TL.tl (numS h) = c :: r ∧ c ≤ 57 ∧ ∀ x ∈ TL.tl (numS h), x ≠ 32 := by
  have dig : ∀ n : Nat, ∃ c r, TL.numL n = c :: r ∧ c ≤ 57 ∧ ∀ x ∈ TL.numL n, x ≠ 32 := fun n => by
    cases hd : TL.numL n with
    | nil => exact absurd hd (TL.numL_ne n)
    | cons c r =>
      have := TL.numL_digits n c (by rw [hd]; exact List.mem_cons_self ..)
      refine ⟨c, r, rfl, this.2, fun x hx => ?_⟩
      have := TL.numL_digits n x (by rw [hd]; exact hx)
      omega
  cases h with
  | ofNat n =>
    have ht : TL.tl (numS (Int.ofNat n)) = TL.numL n := tl_numS_pos n
    rw [ht]
    exact dig n
  | negSucc m =>
    have ht : TL.tl (numS (Int.negSucc m)) = 45 :: TL.numL (m + 1) := tl_numS_neg m
    rw [ht]
    obtain ⟨c, r, _, _, h3⟩ := dig (m + 1)
    refine ⟨45, _, rfl, by decide, fun x hx => ?_⟩
    rcases List.mem_cons.mp hx with q | q
    · rw [q]
      decide
    · exact h3 x q
theorem num_noname {h : Int} : isName (numS h) = false := by
  cases hn : isName (numS h) with
  | false => rfl
  | true =>
    obtain ⟨c, r, e, hc, _⟩ := num_chars (h := h)
    have h1 : c ∈ lets.cps.toList := (isName_iff.mp hn).2 c (by show c ∈ TL.tl _; rw [e]; exact List.mem_cons_self ..)
    have : ∀ c ∈ lets.cps.toList, 57 < c := by decide +kernel
    have := this c h1
    omega
theorem num_noB {h : Int} : noB (numS h) := fun q => by
  obtain ⟨c, r, e, _, h3⟩ := num_chars (h := h)
  exact h3 32 q rfl
/-! ### the names looked at -/
theorem look_skip {ns : List Str} {w0 z : Str} {k : Nat} (h : isName z = false) : lookOne ns w0 k z = none := by
  unfold lookOne
  rw [if_neg (by rw [h]; decide)]
def freshB (w0 : Str) (k : Nat) : Bool := decide (w0 = "point") || (decide (w0 = "rename") && decide ((k : Int) = 2))
theorem look_one {ns : List Str} {w0 z : Str} {k : Nat} (h : isName z = true) : lookOne ns w0 k z = if freshB w0 k = true then (if z ∈ ns then some ("Taken" : Str) else none) else (if z ∈ ns then none else some ("NoName" : Str)) := by
  unfold lookOne
  rw [if_pos h]
  show (if (freshB w0 k && decide (z ∈ ns)) = true then _ else if (!freshB w0 k && !decide (z ∈ ns)) = true then _ else _) = _
  by_cases hz : z ∈ ns
  · cases freshB w0 k <;> simp [hz]
  · cases freshB w0 k <;> simp [hz]
theorem look_cons {ns : List Str} {w0 z : Str} {k : Nat} {r : List Str} : lookRes ns w0 k (z :: r) = match lookOne ns w0 k z with | some e => some e | none => lookRes ns w0 (k + 1) r := rfl
theorem look_old {ns : List Str} {w0 : Str} (hf : ∀ k, freshB w0 k = false) : ∀ {zs : List Str} {k : Nat}, (∀ z ∈ zs, isName z = true) → lookRes ns w0 k zs = if ∀ z ∈ zs, z ∈ ns then none else some ("NoName" : Str)
  | [], k, _ => by rw [if_pos (by simp)]; rfl
  | z :: r, k, h => by
    rw [look_cons, look_one (h z (List.mem_cons_self ..)), if_neg (by rw [hf]; decide)]
    by_cases hz : z ∈ ns
    · rw [if_pos hz]
      show lookRes ns w0 (k + 1) r = _
      rw [look_old hf fun y hy => h y (List.mem_cons_of_mem _ hy)]
      by_cases hr : ∀ y ∈ r, y ∈ ns
      · rw [if_pos hr, if_pos (by simpa using ⟨hz, hr⟩)]
      · rw [if_neg hr, if_neg fun q => hr fun y hy => q y (List.mem_cons_of_mem _ hy)]
    · rw [if_neg hz, if_neg fun q => hz (q z (List.mem_cons_self ..))]
end KD
set_option maxHeartbeats 2000000
/-! what the law does for a change -/
namespace KD
open PySem PySem.Spec PyProof.Rows L2 Evl
section
variable {P : Program} {w : World} {K : PySem.W.Frag} {mg : Str → Option Value} {base : Heap}
theorem s_rem {σ : L2.St} {H : Hp} {ta te : TE} {D : Ends} {l : Addr} {ss : List Str} {k : Str} {j : Nat} (hl : H l = some (.lst (strsV ss))) (ha : Ev ta σ H (.ref l)) (h : Ev te σ H (.str k)) (hj : ss[j]? = some k) (hno : ∀ m : Nat, m < j → ss[m]? ≠ some k) (kk : ∀ H1, Ex H H1 → D.nx σ (upd H1 l (.lst (strsV (ss.eraseIdx j))))) :
    tDrop (tBM K "list" rRemS ta (tCons te tNil)) D σ H := ha H (Ex.refl H) _ fun H1 e1 => ⟨Or.inl ⟨rfl, _, sq_of (e1 l _ hl)⟩, h H1 e1 _ fun H2 e2 => ⟨l, ss, k, j, rfl, rfl, e2 l _ (e1 l _ hl), hj, hno, kk H2 (e1.trans e2)⟩⟩
theorem q_whenS {σ : L2.St} {H : Hp} {t : TT} {tu tz : TS} {D : Ends} {b : Bool} (Γ : L2.St → Hp → Prop) (h : EvT t σ H b) (h1 : b = true → ∀ H1, Ex H H1 → (∀ σ2 H2, Γ σ2 H2 → tz D σ2 H2) → tu { D with nx := tz D } σ H1) (h2 : b = false → ∀ H1, Ex H H1 → Γ σ H1) (k : ∀ σ2 H2, Γ σ2 H2 → tz D σ2 H2) : tSeq (tIfS t tu tNext) tz D σ H := q_when h (fun hb H1 e1 => h1 hb H1 e1 k) (fun hb H1 e1 => k σ H1 (h2 hb H1 e1))
def sp_l_done (K : PySem.W.Frag) : Sp := fun vs H Q _ => ∃ (a d b : Addr) (ns ns' : List Str) (L L' : List LTie) (ws : List Str), vs = [.ref a, .ref d, .ref b] ∧ H a = some (.lst (strsV ns)) ∧ H d = some (.dT (lawT L)) ∧ H b = some (.lst (strsV ws)) ∧ LawOk ns L ∧ (∀ z ∈ ws, z.length ≤ 640) ∧ DoneR ns L ws ns' L' ∧
  ∀ (p n d' : Addr) (H' : Hp), Ex H H' → H n = none → H d' = none → H' p = some (.tup [.ref n, .ref d']) → H' n = some (.lst (strsV ns')) → H' d' = some (.dT (lawT L')) → Q (.ref p) H'
theorem ok_l_done (T : Txt w K mg) : Ok P w K mg base CX0 1 ("_law_done", none) ["_law_names", "_law_table", "_law_words"] (sp_l_done K) := by
  refine ok0 T.f_l_done sc_l_done (fun vs H Q E h => by obtain ⟨_, _, _, _, _, _, _, _, rfl, _⟩ := h; rfl) (fun _ _ _ _ _ _ us hl => match us, hl with | [_, _, _], _ => rfl) fun f cdv A outer s H vs Q E hr h => ?_
  have nd := sc_l_done.nd
  have hu := hu_of hr
  have hu64 := hr.units
  refine ⟨_, (pss_cons (ps_set (i := 3) nd rfl (Or.inl rfl) (pe_callTy call_list_of (by rfl) T.n_list (by decide +kernel) (pa_cons (pv 0) pa_nil)))
 (pss_cons (ps_if (pt_cmpR op_eq (pe_ix ix_list (pv 2) pe_int (fun _ _ => rfl)) pe_str (nomark _)) (pss_one (ps_expr (pe_bm PySem.F.plainAttrs_list PySem.F.slot_list_append PySem.F.type_list_append mt_append (pv 3) (pa_cons (pe_ix ix_list (pv 2) pe_int (fun _ _ => rfl)) pa_nil)))) pss_nil)
 (pss_cons (ps_if (pt_cmpR op_eq (pe_ix ix_list (pv 2) pe_int (fun _ _ => rfl)) pe_str (nomark _)) (pss_one (ps_expr (pe_bm PySem.F.plainAttrs_list PySem.F.slot_list_remove PySem.F.type_list_remove mt_removeS (pv 3) (pa_cons (pe_ix ix_list (pv 2) pe_int (fun _ _ => rfl)) pa_nil)))) pss_nil)
 (pss_cons (ps_if (pt_cmpR op_eq (pe_ix ix_list (pv 2) pe_int (fun _ _ => rfl)) pe_str (nomark _)) (pss_one (ps_asg (pe_ix ix_list (pv 2) pe_int (fun _ _ => rfl)) (pg_sub (pv 3) (pe_bm PySem.F.plainAttrs_list PySem.F.slot_list_index PySem.F.type_list_index mt_index (pv 3) (pa_cons (pe_ix ix_list (pv 2) pe_int (fun _ _ => rfl)) pa_nil)) set_list))) pss_nil)
 (pss_cons (ps_set (i := 4) nd rfl (Or.inl rfl) pe_dnewT)
 (pss_cons (ps_lock (ps_for PassesOwn.never rfl (pi_keys (pv 1)) (pg_tup rfl (pgs_cons (pg_name (i := 5) nd rfl (Or.inl rfl)) (pgs_cons (pg_name (i := 6) nd rfl (Or.inl rfl)) pgs_nil))) (pss_cons (ps_set (i := 7) nd rfl (Or.inl rfl) (pe_lst (pa_cons (pv 5) (pa_cons (pv 6) pa_nil))))
 (pss_cons (ps_if (pt_cmpR op_eq (pe_ix ix_list (pv 2) pe_int (fun _ _ => rfl)) pe_str (nomark _)) (pss_one (ps_setLc (i := 7) (own := [("_law_word", 9)]) (g := gName 9) rfl nd rfl rfl (sw_true rfl rfl rfl (by decide +kernel)) (pi_list (pv 7)) (blkOk_by (N := ["_law_names", "_law_table", "_law_words", "_law_behind", "_law_found", "_law_one", "_law_other", "_law_pair", "_law_gone", "_law_word"]) (own := [("_law_word", 9)]) (sc := defScope s_l_done) (by decide +kernel)) (fun _ _ _ _ _ => (pg_name (i := 9) nd rfl (Or.inl rfl))) (fun _ _ _ _ _ => pts_nil) (fun _ _ _ _ _ => (pe_ix (ix_listK (K := K)) (pe_lst (pa_cons (pv 9) (pa_cons (pe_ix (ix_listK (K := K)) (pv 2) pe_int (fun _ _ => rfl)) pa_nil))) (pe_callTy call_int1 (by rfl) T.n_int (by decide +kernel) (pa_cons (pe_cmpR op_eq (pv 9) (pe_ix (ix_listK (K := K)) (pv 2) pe_int (fun _ _ => rfl)) (nomark _)) pa_nil)) (fun _ _ => rfl))))) pss_nil)
 (pss_cons (ps_set (i := 8) nd rfl (Or.inl rfl) (pe_and (pe_cmpR op_eq (pe_ix ix_list (pv 2) pe_int (fun _ _ => rfl)) pe_str (nomark _)) (pe_one (pe_cmpR op_in_seq (pe_ix ix_list (pv 2) pe_int (fun _ _ => rfl)) (pv 7) rfl))))
 (pss_one (ps_if (PW.pt (pw_and (pt_not (pt_val (pv 8))) (pw_and1 (pt_not (PW.pt (pw_and (pt_cmpR op_in_seq (pe_ix ix_list (pv 2) pe_int (fun _ _ => rfl)) (pe_lst (pa_cons pe_str (pa_cons pe_str pa_nil))) rfl) (pw_and1 (pt_cmpR (op_eqD hu64) (pe_callB cr_sortedS (by rfl) T.n_sorted (by decide +kernel) (pa_cons (pv 7) pa_nil)) (pe_callB cr_sortedS (by rfl) T.n_sorted (by decide +kernel) (pa_cons (pe_slice sl_list (pv 2) (po_some pe_int) (po_some pe_int)) pa_nil)) (nomark _))))))))) (pss_one (ps_dput hu (pv 4) (pe_tup (pa_cons (pe_ix ix_list (pv 7) pe_int (fun _ _ => rfl)) (pa_cons (pe_ix ix_list (pv 7) pe_int (fun _ _ => rfl)) pa_nil))) (pe_dget hu (pv 1) (pe_tup (pa_cons (pv 5) (pa_cons (pv 6) pa_nil))) (fun _ _ => rfl)) rfl)) pss_nil)))))))
 (pss_cons (ps_if (pt_cmpR op_eq (pe_ix ix_list (pv 2) pe_int (fun _ _ => rfl)) pe_str (nomark _)) (pss_one (ps_dput hu (pv 4) (pe_tup (pa_cons (pe_ix ix_list (pv 2) pe_int (fun _ _ => rfl)) (pa_cons (pe_ix ix_list (pv 2) pe_int (fun _ _ => rfl)) pa_nil))) (pe_callTy call_int_str (by rfl) T.n_int (by decide +kernel) (pa_cons (pe_ix ix_list (pv 2) pe_int (fun _ _ => rfl)) pa_nil)) rfl)) pss_nil)
 (pss_one (ps_ret (pe_tup (pa_cons (pv 3) (pa_cons (pv 4) pa_nil)))))))))))), ?_⟩
  try dsimp only [cxOf, L2.Cx.nox, L2.Cx.blk]
  obtain ⟨a, d, b, ns, ns', L, L', ws, rfl, ha, hd, hb, hk, hsh, hR, hq⟩ := h
  refine q_asgL (xs := strsV ns) (el_cb (ea_cons (ev_var rfl) ea_nil) (rcl_list (sq_of ha))) fun n H1 n0 e1 hn => ?_
  obtain ⟨w0, w1, rest, rfl⟩ : ∃ w0 w1 rest, ws = w0 :: w1 :: rest := by
    cases hR <;> exact ⟨_, _, _, rfl⟩
  have hgone : w0 = "gone" → w1 ∈ ns := fun h => by
    cases hR <;> first | assumption | exact absurd h (by decide +kernel)
  have hren : w0 = "rename" → w1 ∈ ns ∧ ∃ w2, rest = [w2] ∧ w2 ∉ ns := fun h => by
    cases hR <;> first | exact ⟨‹_›, _, rfl, ‹_›⟩ | exact absurd h (by decide +kernel)
  have htie : (w0 = "tie" ∨ w0 = "untie") → ∃ r, rest = rest.headD "" :: r ∧ w1 ∈ ns ∧ rest.headD "" ∈ ns := fun h => by
    cases hR <;> first | exact ⟨_, rfl, ‹_›, ‹_›⟩ | (rcases h with h | h <;> exact absurd h (by decide +kernel))
  let G : List Str → Hp → Prop := fun X Hx => (∀ c o, H c = some o → Hx c = some o) ∧ Hx n = some (.lst (strsV X))
  have wat : ∀ {Hx : Hp} {σ : L2.St} {j : Nat} {z : Str}, (∀ c o, H c = some o → Hx c = some o) → σ[2]? = some (some (.ref b)) → (w0 :: w1 :: rest)[j]? = some z → Ev (tOp (rIxL K) (tVar 2) (L2.tC (.int (j : Int)))) σ Hx (.str z) := fun e hs hz => ev_wd _ (ev_var hs) (sq_of (e _ _ hb)) hz rfl
  have ml := hk.nl
  refine q_whenG (b := decide (w0 = "point")) (G (if w0 = "point" then ns ++ [w1] else ns)) (et_test (ev_op (wat (j := 0) (fun _ _ h => e1 _ _ h) rfl rfl) ev_c rv_eqS)) (fun hb1 H2 e2 kk => ?_) (fun hb1 H2 e2 => ?_) fun H2 g2 => ?_
  · have e12 := e1.trans e2
    rw [if_pos (of_decide_eq_true hb1)] at kk
    refine s_app (l := n) (v := .str w1) (e2 _ _ hn) (ev_var rfl) (wat (j := 1) (fun _ _ h => e12 _ _ h) rfl rfl) (by rw [strs_len]; omega) fun H3 e3 => kk _ ⟨fun c o hc => ?_, ?_⟩
    · rw [upd_ne (ne_of_none hc n0)]
      exact (e12.trans e3) _ _ hc
    · rw [upd_same]
      unfold strsV
      rw [List.map_append]
      rfl
  · rw [if_neg (of_decide_eq_false hb1)]
    exact ⟨fun c o hc => (e1.trans e2) _ _ hc, e2 _ _ hn⟩
  obtain ⟨f2, hn2⟩ := g2
  refine q_whenG (b := decide (w0 = "gone")) (G (if w0 = "point" then ns ++ [w1] else if w0 = "gone" then ns.eraseIdx (idx ns w1) else ns)) (et_test (ev_op (wat (j := 0) f2 rfl rfl) ev_c rv_eqS)) (fun hb1 H3 e3 kk => ?_) (fun hb1 H3 e3 => ?_) fun H3 g3 => ?_
  · have h0 := of_decide_eq_true hb1
    have np : ¬ w0 = "point" := by
      rw [h0]
      decide +kernel
    rw [if_neg np, if_pos h0] at kk
    rw [if_neg np] at hn2
    have hm := hgone h0
    refine s_rem (e3 _ _ hn2) (ev_var rfl) (wat (j := 1) (fun _ _ h => e3 _ _ (f2 _ _ h)) rfl rfl) (idx_get hm) (fun m hm' => idx_first hm') fun H4 e4 => kk _ ⟨fun c o hc => ?_, upd_same⟩
    rw [upd_ne (ne_of_none hc n0)]
    exact (e3.trans e4) _ _ (f2 _ _ hc)
  · rw [if_neg (of_decide_eq_false hb1)]
    exact ⟨fun c o hc => e3 _ _ (f2 _ _ hc), e3 _ _ hn2⟩
  obtain ⟨f3, hn3⟩ := g3
  refine q_whenG (b := decide (w0 = "rename")) (G ns') (et_test (ev_op (wat (j := 0) f3 rfl rfl) ev_c rv_eqS)) (fun hb1 H4 e4 kk => ?_) (fun hb1 H4 e4 => ?_) fun H4 g4 => ?_
  · have h0 := of_decide_eq_true hb1
    subst h0
    obtain ⟨hm, w2, rfl, hw2⟩ := hren rfl
    rw [if_neg (by decide +kernel), if_neg (by decide +kernel)] at hn3
    have hns : ns' = ns.set (idx ns w1) w2 := by
      cases hR
      rfl
    subst hns
    refine s_setL (l := n) (j := idx ns w1) (v := .str w2) (e4 _ _ hn3) (wat (j := 2) (fun _ _ h => e4 _ _ (f3 _ _ h)) rfl rfl) (ev_var rfl) (ev_index (ev_var rfl) (e4 _ _ hn3) (wat (j := 1) (fun _ _ h => e4 _ _ (f3 _ _ h)) rfl rfl) hm) (by rw [strs_len]; exact idx_lt hm) fun H5 e5 => kk _ ⟨fun c o hc => ?_, ?_⟩
    · rw [upd_ne (ne_of_none hc n0)]
      exact (e4.trans e5) _ _ (f3 _ _ hc)
    · rw [upd_same]
      unfold strsV
      rw [List.map_set]
  · have n0 := of_decide_eq_false hb1
    refine ⟨fun c o hc => e4 _ _ (f3 _ _ hc), e4 _ _ ?_⟩
    rw [hn3]
    have : (if w0 = "point" then ns ++ [w1] else if w0 = "gone" then ns.eraseIdx (idx ns w1) else ns) = ns' := by
      cases hR with
      | point => exact if_pos rfl
      | gone h => rw [if_neg (by decide +kernel), if_pos rfl]
      | rename h1 h2 => exact absurd rfl n0
      | tie h => rw [if_neg (by decide +kernel), if_neg (by decide +kernel)]
      | untie => rw [if_neg (by decide +kernel), if_neg (by decide +kernel)]
    rw [this]
  obtain ⟨f4, hn4⟩ := g4
  refine q_asgP ep_newT fun v H5 e5 hv => ?_
  obtain ⟨bd, rfl, bd0, hbd⟩ := hv
  have hn5 := e5 _ _ hn4
  have f5 : Ex H H5 := fun c o hc => e5 _ _ (f4 c o hc)
  have bn : bd ≠ n := fun q => by
    rw [q, hn4] at bd0
    cases bd0
  have bdd : bd ≠ d := fun q => by
    rw [q, f4 _ _ hd] at bd0
    cases bd0
  refine q_lock (f5 _ _ hd) trivial fun od => ?_
  have rl : (lawT L).length = L.length := List.length_map _
  generalize hw2 : rest.headD "" = w2 at htie
  have hnd := loop_nd (w1 := w1) (w2 := w2) hk.mem hk.nd fun h0 => by
    obtain ⟨_, wx, rfl, hx⟩ := hren h0
    rw [← hw2]
    exact hx
  refine s_forW walk_keysT (ei_keysT (ev_var rfl) upd_same) (fun k σ' H' => (∃ p q r s x, σ' = [some (.ref a), some (.ref d), some (.ref b), some (.ref n), some (.ref bd), p, q, r, s, x]) ∧ (∀ c o, (upd H5 d (.frz od (.dT (lawT L)))) c = some o → c ≠ bd → H' c = some o) ∧ H' bd = some (.dT (lawT (loopL w0 w1 w2 (L.take k))))) (fun H6 e6 => ⟨⟨none, none, none, none, none, rfl⟩, fun c o hc _ => e6 _ _ hc, e6 _ _ (by rw [upd_ne bdd]; exact hbd)⟩) (fun k σ' H' _ pv => pv.2.1 d _ upd_same (Ne.symm bdd)) (fun k v σ' H6 H7 hk' pv yv => ?hs) fun σ' H' pv => ?_
  case hs =>
    obtain ⟨⟨p, q, r, s, x, rfl⟩, p1, p2⟩ := pv
    obtain ⟨rfl, k0, v0, q0, hkv, rfl, hq0⟩ := yv
    obtain ⟨tt, hLk, rfl, rfl⟩ := law_at hkv
    have hdf : H7 d = some (.frz od (.dT (lawT L))) := p1 d _ upd_same (Ne.symm bdd)
    have hb7 : H7 b = some (.lst (strsV (w0 :: w1 :: rest))) := p1 b _ (by rw [upd_ne (ne_of hb hd (by intro z; cases z))]; exact f5 _ _ hb) (ne_of_none (f4 _ _ hb) bd0)
    refine g_pair (by rfl) hq0 ?_
    refine q_asgL (xs := strsV [tt.1, tt.2.1]) (el_lst (ea_cons (ev_var rfl) (ea_cons (ev_var rfl) ea_nil)) (Nat.le_of_ble_eq_true rfl)) fun pr H8 pr0 e8 hpr => ?_
    have wat8 : ∀ {Hx : Hp} {σ : L2.St} {j : Nat} {z : Str}, Ex H7 Hx → σ[2]? = some (some (.ref b)) → (w0 :: w1 :: rest)[j]? = some z → Ev (tOp (rIxL K) (tVar 2) (L2.tC (.int (j : Int)))) σ Hx (.str z) := fun e hs hz => ev_wd _ (ev_var hs) (sq_of (e _ _ hb7)) hz rfl
    refine q_whenS (b := decide (w0 = "rename")) (fun σ2 H2 => ∃ pr' s x, σ2 = [some (.ref a), some (.ref d), some (.ref b), some (.ref n), some (.ref bd), some (.str tt.1), some (.str tt.2.1), some (.ref pr'), s, x] ∧ H2 pr' = some (.lst (strsV [(pairOf w0 w1 w2 tt).1, (pairOf w0 w1 w2 tt).2])) ∧ Ex H7 H2) (et_test (ev_op (wat8 (j := 0) e8 rfl rfl) ev_c rv_eqS)) (fun hb1 H9 e9 kk => ?r1) (fun hb1 H9 e9 => ?r2) fun σ2 H9 g9 => ?r3
    case r2 =>
      refine ⟨pr, _, _, rfl, ?_, e8.trans e9⟩
      unfold pairOf
      rw [if_neg (of_decide_eq_false hb1)]
      exact e9 _ _ hpr
    case r1 =>
      have h0 := of_decide_eq_true hb1
      subst h0
      obtain ⟨hm, wx, rfl, hwx⟩ := hren rfl
      have hwe : wx = w2 := hw2
      subst hwe
      have e79 := e8.trans e9
      refine s_asgL (xs := strsV [renS w1 wx tt.1, renS w1 wx tt.2.1]) (el_is (el_lcA [tt.1, tt.2.1] V.str (fun _ => true) (fun z => .str (renS w1 wx z)) (ev_var rfl) (sq_of (e9 _ _ hpr)) (Nat.le_of_ble_eq_true rfl) (fun _ => rfl) (fun _ _ _ _ _ Hy ey Q k => k Hy (Ex.refl _)) fun i z H10 e10 hz _ => ?_) (by rw [filter_yes]; rfl)) fun p6 H11 h60 e11 h6 => kk _ _ ⟨p6, _, _, rfl, ?_, e79.trans e11⟩
      · let j : Nat := if z = w1 then 1 else 0
        have hj : [z, wx][j]? = some (renS w1 wx z) := by
          unfold renS
          by_cases c : z = w1 <;> simp [j, c]
        have hzj : (if decide (z = w1) = true then 1 else 0 : Int) = (j : Int) := by
          by_cases c : z = w1 <;> simp [j, c]
        exact ev_opL1 (xs := strsV [z, wx]) (y := .int (j : Int)) (el_lst (ea_cons (ev_var rfl) (ea_cons (wat8 (j := 2) (e79.trans e10) rfl rfl) ea_nil)) (Nat.le_of_ble_eq_true rfl)) (fun H12 e12 => ev_is (ev_cb (ea_cons (ev_op (ev_var rfl) (wat8 (j := 1) ((e79.trans e10).trans e12) rfl rfl) rv_eqS) ea_nil) rc_intB) (congrArg V.int hzj)) fun p H12 hp e12 => rv_ixLn (sq_of hp) (strs_at' hj)
      · unfold pairOf
        rw [if_pos rfl]
        exact h6
    case r3 =>
      obtain ⟨pr', s', x', rfl, hp', e79⟩ := g9
      obtain ⟨tm1, tm2⟩ := hk.mem tt (List.mem_of_getElem? hLk)
      have hnew := fun h => loop_new hnd hLk h
      have hone : loopL w0 w1 w2 [tt] = _ := loop_one
      have htp : (w0 = "tie" ∨ w0 = "untie") → pairOf w0 w1 w2 tt = (tt.1, tt.2.1) := fun h => if_neg fun q => by
        rcases h with h | h <;> exact absurd (h.symm.trans q) (by decide +kernel)
      have keq : (!(decide (w0 = "gone") && decide (w1 ∈ [(pairOf w0 w1 w2 tt).1, (pairOf w0 w1 w2 tt).2])) && !(decide (w0 ∈ (["tie", "untie"] : List Str)) && decide (((pairOf w0 w1 w2 tt).1 = w1 ∧ (pairOf w0 w1 w2 tt).2 = w2) ∨ ((pairOf w0 w1 w2 tt).1 = w2 ∧ (pairOf w0 w1 w2 tt).2 = w1)))) = keptB w0 w1 w2 tt := by
        unfold keptB
        simp only [List.mem_cons, List.not_mem_nil, or_false, Bool.decide_or]
      have hstr : (w0 = "tie" ∨ w0 = "untie") → PyData.strOk (pairOf w0 w1 w2 tt).1 = true ∧ PyData.strOk (pairOf w0 w1 w2 tt).2 = true := fun h => by
        rw [htp h]
        exact ⟨strOk_name (hk.nm _ tm1), strOk_name (hk.nm _ tm2)⟩
      generalize pairOf w0 w1 w2 tt = pp at hp' hnew hone keq hstr
      clear htp
      refine q_asg (v := .bl (decide (w0 = "gone") && decide (w1 ∈ [pp.1, pp.2]))) (ev_andV (ev_op (wat8 (j := 0) e79 rfl rfl) ev_c rv_eqS) fun _ => ev_inS (wat8 (j := 1) e79 rfl rfl) (ev_var rfl) (sq_of hp')) fun H10 e10 => ?_
      have e710 := e79.trans e10
      have hp10 := e10 _ _ hp'
      have hsl : ∀ {Hx : Hp} {σ : L2.St}, Ex H7 Hx → σ[2]? = some (some (.ref b)) → (w0 = "tie" ∨ w0 = "untie") → EvL (tSl (rSlL K) (tVar 2) (tPart (L2.tC (.int 1))) (tPart (L2.tC (.int 3)))) σ Hx (strsV [w1, w2]) := fun e hs h => by
        obtain ⟨r, hr2, _⟩ := htie h
        have g := el_sl (K := K) (lo := some ((1 : Nat) : Int)) (hi := some ((3 : Nat) : Int)) (ev_var hs) (eo_some ev_c) (eo_some ev_c) (sq_of (e _ _ hb7))
        rw [hr2, cutV_13] at g
        exact g
      refine s_when (b := keptB w0 w1 w2 tt) (et_is (et_and (et_not (et_B (ev_var rfl))) fun _ => et_not (et_and (et_test (ev_is (ev_opL (xs := strsV ["tie", "untie"]) (wat8 (j := 0) e710 rfl rfl) (el_lst (ea_cons ev_c (ea_cons ev_c ea_nil)) (Nat.le_of_ble_eq_true rfl)) fun p H11 hp e11 => rv_isL (sq_of hp) rfl (flat_strs _)) (congrArg V.bl (inV_strs _ _)))) fun h => ?r4)) keq) (fun hkk H11 e11 => ?r5) (fun hkk H11 e11 => ?r6)
      case r4 =>
        have h : w0 = "tie" ∨ w0 = "untie" := by simpa using h
        obtain ⟨r, _, m1, m2⟩ := htie h
        exact et_test (ev_sort2eq (ev_var rfl) hp10 (hsl e710 rfl h) (hstr h).1 (hstr h).2 (strOk_name (hk.nm _ m1)) (strOk_name (hk.nm _ m2)))
      case r6 =>
        refine ⟨⟨_, _, _, _, _, rfl⟩, fun c o hc hne => (e710.trans e11) _ _ (p1 c o hc hne), ?_⟩
        rw [take_snoc hLk, loop_app, hone, if_neg (by rw [hkk]; decide), List.append_nil]
        exact (e710.trans e11) _ _ p2
      case r5 =>
        have e711 := e710.trans e11
        have len : (lawT (loopL w0 w1 w2 (L.take k))).length < 100000 := by
          unfold lawT loopL
          rw [List.length_map, List.length_map]
          have h1 := List.length_filter_le (keptB w0 w1 w2) (L.take k)
          have h2 := List.length_take_le k L
          have h3 := List.length_take (i := k) (l := L)
          have := hk.few
          omega
        refine s_dputU (d := bd) (kvs := lawT (loopL w0 w1 w2 (L.take k))) (k := ks pp.1 pp.2) (v := .int tt.2.2) (ev_dgetU (ev_var rfl) (eu_tup (ea_cons (ev_var rfl) (ea_cons (ev_var rfl) ea_nil)) (Nat.le_of_ble_eq_true rfl)) (dg_tv (.inr ⟨od, e711 _ _ hdf⟩) rfl (val_at hk.nd hLk))) (ev_var rfl) (eu_tup (ea_cons (ev_wd 0 (ev_var rfl) (sq_of (e11 _ _ hp10)) rfl rfl) (ea_cons (ev_wd 1 (ev_var rfl) (sq_of (e11 _ _ hp10)) rfl rfl) ea_nil)) (Nat.le_of_ble_eq_true rfl)) rfl (e711 _ _ p2) len fun H12 e12 => ?_
        refine ⟨⟨_, _, _, _, _, rfl⟩, fun c o hc hne => ?_, ?_⟩
        · rw [upd_ne hne]
          exact (e711.trans e12) _ _ (p1 c o hc hne)
        · rw [upd_same, putK_new _ (hnew hkk), take_snoc hLk, loop_app, hone, if_pos hkk]
          unfold lawT
          rw [List.map_append]
          rfl
  obtain ⟨⟨p, q, r, s, x, rfl⟩, p1, p2⟩ := pv
  rw [rl, List.take_length] at p2
  have hdf : H' d = some (.frz od (.dT (lawT L))) := p1 d _ upd_same (Ne.symm bdd)
  refine ⟨hdf, ?_⟩
  have fr : ∀ c o, H5 c = some o → c ≠ bd → (upd H' d (.dT (lawT L))) c = some o := fun c o hc hne => by
    by_cases hcd : c = d
    · rw [hcd, upd_same]
      rw [hcd, f5 _ _ hd] at hc
      exact hc
    · rw [upd_ne hcd]
      exact p1 c o (by rw [upd_ne hcd]; exact hc) hne
  have pb : (upd H' d (.dT (lawT L))) bd = some (.dT (lawT (loopL w0 w1 w2 L))) := by
    rw [upd_ne bdd]
    exact p2
  have f9 : Ex H (upd H' d (.dT (lawT L))) := fun c o hc => fr c o (f5 _ _ hc) (ne_of_none (f4 _ _ hc) bd0)
  have hn9 : (upd H' d (.dT (lawT L))) n = some (.lst (strsV ns')) := fr n _ hn5 (Ne.symm bn)
  have bd0' : H bd = none := by
    cases h : H bd with
    | none => rfl
    | some o =>
      rw [f4 _ _ h] at bd0
      cases bd0
  generalize upd H' d (.dT (lawT L)) = H9 at fr pb f9 hn9 ⊢
  have lenL : ∀ f : LTie → Bool, (lawT (L.filter f)).length < 100000 := fun f => by
    unfold lawT
    rw [List.length_map]
    have := List.length_filter_le f L
    have := hk.few
    omega
  refine q_whenG (b := decide (w0 = "tie")) (fun Hx => Ex H Hx ∧ Hx n = some (.lst (strsV ns')) ∧ Hx bd = some (.dT (lawT L'))) (et_test (ev_op (wat (j := 0) f9 rfl rfl) ev_c rv_eqS)) (fun hb1 H10 e10 kk => ?_) (fun hb1 H10 e10 => ?_) fun H10 g10 => ?_
  · have h0 := of_decide_eq_true hb1
    subst h0
    cases hR with
    | @tie y z x h hy hz hx =>
      have hz2 : z = w2 := hw2
      subst hz2
      rw [loop_tie (.inl rfl)] at pb
      refine s_dputU (d := bd) (kvs := lawT (L.filter (offT w1 z))) (k := ks w1 z) (v := .int h) (ev_cb (ea_cons (wat (j := 3) (fun _ _ h => e10 _ _ (f9 _ _ h)) rfl rfl) ea_nil) (rc_intS hx (hsh _ (by simp)))) (ev_var rfl) (eu_tup (ea_cons (wat (j := 1) (fun _ _ h => e10 _ _ (f9 _ _ h)) rfl rfl) (ea_cons (wat (j := 2) (fun _ _ h => e10 _ _ (f9 _ _ h)) rfl rfl) ea_nil)) (Nat.le_of_ble_eq_true rfl)) rfl (e10 _ _ pb) (lenL _) fun H11 e11 => kk _ ⟨fun c o hc => ?_, ?_, ?_⟩
      · rw [upd_ne (ne_of_none hc bd0')]
        exact e11 _ _ (e10 _ _ (f9 _ _ hc))
      · rw [upd_ne (Ne.symm bn)]
        exact e11 _ _ (e10 _ _ hn9)
      · rw [upd_same, putK_new]
        · unfold lawT
          rw [List.map_append]
          rfl
        · refine valV_none' fun p hp e => ?_
          unfold lawT at hp
          obtain ⟨t, ht, rfl⟩ := List.mem_map.mp hp
          obtain ⟨e1, e2⟩ := ks_inj e
          have := (List.mem_filter.mp ht).2
          unfold offT at this
          rw [e1, e2] at this
          simp at this
  · have h0 := of_decide_eq_false hb1
    have he : loopL w0 w1 w2 L = L' := by
      cases hR with
      | point => exact loop_point
      | gone h => exact loop_gone
      | rename h1 h2 =>
        rw [← hw2]
        exact loop_rename
      | tie h => exact absurd rfl h0
      | untie =>
        rw [← hw2]
        exact loop_tie (.inr rfl)
    rw [he] at pb
    exact ⟨f9.trans e10, e10 _ _ hn9, e10 _ _ pb⟩
  obtain ⟨g1, g2, g3⟩ := g10
  exact s_retU (xs := [.ref n, .ref bd]) (eu_tup (ea_cons (ev_var rfl) (ea_cons (ev_var rfl) ea_nil)) (Nat.le_of_ble_eq_true rfl)) fun p H11 p0 e11 hp => hq p n bd H11 (g1.trans e11) n0 bd0' hp (e11 _ _ g2) (e11 _ _ g3)
end
end KD
set_option maxHeartbeats 2000000
/-! what the law says to the desk, and what it hears -/
namespace KD
open PySem PySem.Spec PyProof.Rows L2 Evl
/-- isinstance of the exception that the suite holds, whatever it is -/
def rIsE2 (K : PySem.W.Frag) (cls : Value) (d : Option Addr) (a : Addr) : List V → Hp → VK → Prop := fun xs H Q => ∃ D, cls = .ref D ∧ d = none ∧ ExcC K D ∧ rIsE K D a xs H Q
theorem call_isE2 {X : Cx} {a : Addr} {cls : Value} {d : Option Addr} {oe : Obj} {pn : List (Addr × Obj)} (hz : Zc cls d oe) (hf : ∃ vs, oe.data = .fields vs) : CallR (X.suite a ((a, oe) :: pn)) (.builtin "isinstance") (rIsE2 X.K cls d a) := by
  intro pins s σ H xs us Q I r h
  obtain ⟨D, rfl, rfl, C, h⟩ := h
  exact call_isE C hz hf pins s σ H xs us Q I r h
theorem takesE0 {X : Cx} : Takes X (fun cls d _ H => E0 cls d H) := fun _ _ x => by
  obtain ⟨_, _, _, _, _, _, _, _, _, _, _, _, _, _, _, _, z⟩ := x
  exact z.elim
def tMS (C : Addr) (m : Str) (sp : Sp) (E : L2.St → XK) (ta : TE) (t : TA) : TE := fun σ H Q => ta σ H fun x H1 => ∃ a dx fs, x = .ref a ∧ H1 a = some (.ins C dx fs) ∧ fs.lookup m = none ∧ t σ H1 fun vs H2 => sp (x :: vs) H2 Q (E σ)
section
variable {X : Cx} {j k : Nat} {ps : List Str} {sp : Sp} {W : WX} {m : Str} {pos apos : Pos} {e o : Expr} {es : List Expr} {ta : TE} {t : TA}
theorem pxmS {pl : Sem Bool} {c : Str} (hc : Cls X.K (He.ga X.K c)) (hm : Meth X.K (He.ga X.K c) m (He.ma X.K (He.ga X.K c) m)) (G : Ok X.prog X.w X.K X.mg X.base (L2.CX X.prog X.w) j (c, some m) ps sp) (hr : Room k X.A) (hj : j ≤ k) (tk : Takes X W) (he : PE X o ta) (ha : PA X (e :: es) t)
    (hst : starEach (e :: es) X.env = (false, eval e X.env) :: starEach es X.env := by rfl) (hpl : (backTo pos (starEach es X.env)).any (·.1) = false := by rfl)
    (ht : eval (.Call (.Attribute o m apos) (e :: es) [] pos) X.env = (do
      let ov ← eval o X.env
      standAt apos.atName
      let (f, first) ← holding [ov] (getMethod ov m pl)
      callWith pos f first (backTo pos (starEach (e :: es) X.env)) (backToKw pos (keywordEach [] X.env))) := by rfl) :
    PE X (.Call (.Attribute o m apos) (e :: es) [] pos) (tMS (He.ga X.K c) m sp (WE W) ta t) := by
  obtain ⟨fd, F, b, kp⟩ := G
  refine ⟨fun pins s σ H Q I h => ?_⟩
  refine PySem.W.methodCall_KW (pl := pl) (thn (he.run pins s σ H _ I h) fun u s1 ⟨x, H1, I1, rx, a, dx, fs, ex, ea, l, q⟩ => ?_) ht
  subst ex
  obtain rfl : u = Value.ref a := rx
  refine getmeth_ok I1 ea hc hm l ?_
  refine PySem.W.callWith_K (first := [.ref a]) (h₀ := X.base) I.ok.mod.kin hm.kp (thn (ha.run pos pins s1 σ H1 _ I1 q) fun us s2 ⟨vs, H2, I2, r, q2⟩ => ⟨I2.kIn, ?_⟩) hst hpl
  exact run_fnS (us := .ref a :: us) (vs := .ref a :: vs) F (hr.mono hj) b (passAt tk σ) I2 (.cons rfl r) q2
end
section
variable {w : World} {K : PySem.W.Frag} {mg : Str → Option Value}
theorem and_l {a b : Bool} (h : (a && b) = true) : a = true := (Bool.and_eq_true_iff.mp h).1
theorem and_r {a b : Bool} (h : (a && b) = true) : b = true := (Bool.and_eq_true_iff.mp h).2
theorem eqO_eq {α : Type} [DecidableEq α] {a b : α} (h : decide (a = b) = true) : a = b := of_decide_eq_true h
theorem excC_of (T : Txt w K mg) {e : Str} (he : e ∈ errN) : ExcC K (He.ga K e) := by
  have h := T.ex
  unfold exB at h
  have h1 := List.all_eq_true.mp (and_l h) e he
  have h2 := and_l (and_r h)
  unfold excB at h1
  unfold isB at h2
  exact ⟨He.eqO_ok (and_l h1), He.eqO_ok (and_l (and_r h1)), of_decide_eq_true (and_l (and_r (and_r h1))), and_l (and_r (and_r (and_r h1))), He.eqO_ok (and_l (and_r (and_r (and_r (and_r h1))))), He.eqO_ok (and_l h2), of_decide_eq_true (and_r h2), of_decide_eq_true (and_r (and_r (and_r (and_r (and_r h1)))))⟩
theorem kit_of2 (T : Txt w K mg) {e y : Str} (he : e ∈ errN) (hy : y ∈ errN) : PySem.W.kitOne K (.ref (He.ga K e)) (.ref (He.ga K y)) = some (decide (e = y)) := by
  have h := T.ex
  unfold exB at h
  have h1 := and_l (and_r (and_r h))
  unfold kitB at h1
  exact of_decide_eq_true (List.all_eq_true.mp (List.all_eq_true.mp h1 e he) y hy)
theorem kit_v (T : Txt w K mg) {e : Str} (he : e ∈ errN) : PySem.W.kitOne K (.ref (He.ga K e)) (.type "ValueError") = some true := by
  have h := T.ex
  unfold exB at h
  have h1 := and_l (and_r (and_r (and_r h)))
  unfold kitV at h1
  exact of_decide_eq_true (List.all_eq_true.mp h1 e he)
theorem exm_of (T : Txt w K mg) {e : Str} (he : e ∈ errN) : PySem.W.exmOne K (.ref (He.ga K e)) (.ref (He.ga K "WebError")) = some true := by
  unfold errN at he
  simp only [List.mem_cons, List.not_mem_nil, or_false] at he
  rcases he with rfl | rfl | rfl | rfl | rfl | rfl | rfl | rfl
  · exact T.e_BadRow
  · exact T.e_Taken
  · exact T.e_NoName
  · exact T.e_TooMany
  · exact T.e_BadTie
  · exact T.e_NoTie
  · exact T.e_BelowNought
  · exact T.e_Apart
end
def codesL : List Str := ["row", "taken", "name", "many", "bad", "none", "below", "apart"]
def codeOf (e : Str) : Str := codesL.getD (idx errN e) ""
def isBs (e : Str) : List Bool := errN.map fun y => decide (e = y)
theorem mem_BadRow : ("BadRow" : Str) ∈ errN := by decide +kernel
theorem mem_Taken : ("Taken" : Str) ∈ errN := by decide +kernel
theorem mem_NoName : ("NoName" : Str) ∈ errN := by decide +kernel
theorem mem_TooMany : ("TooMany" : Str) ∈ errN := by decide +kernel
theorem mem_BadTie : ("BadTie" : Str) ∈ errN := by decide +kernel
theorem mem_NoTie : ("NoTie" : Str) ∈ errN := by decide +kernel
theorem mem_BelowNought : ("BelowNought" : Str) ∈ errN := by decide +kernel
theorem mem_Apart : ("Apart" : Str) ∈ errN := by decide +kernel
theorem errs_all {Φ : Str → Prop} (h : ∀ e ∈ errN, Φ e) : ∀ e ∈ errN, Φ e := h
theorem isBs_one : ∀ e ∈ errN, (isBs e).count true = 1 ∧ codesL[idx errN e]? = some (codeOf e) ∧ (isBs e)[idx errN e]? = some true ∧ ((isBs e).take (idx errN e)).all (fun b => !b) = true := by decide +kernel
section
variable {P : Program} {w : World} {K : PySem.W.Frag} {mg : Str → Option Value} {base : Heap}
def SaidEnd (K : PySem.W.Frag) (H : Hp) (x nl tl : Addr) (Q : VK) : SOut → Prop
  | .no e => e ∈ errN ∧ ∀ H', Ex H H' → Q (.str (codeOf e)) H'
  | .did n D' => ∀ (tl' : Addr) H', (∀ b o, H b = some o → b ≠ x → b ≠ nl → b ≠ tl → H' b = some o) → (tl' = tl ∨ H tl' = none) → DeskAt K H' x nl tl' n D' → Q (.str "ok") H'
  | .shown => False
  | .txt _ => False
def sp_l_said (K : PySem.W.Frag) : Sp := fun vs H Q _ => ∃ (x nl tl : Addr) (names ws : List Str) (D : List Tie) (row : Str) (o : SOut), vs = [.ref x, .str row] ∧ DeskAt K H x nl tl names D ∧ DeskOk names D ∧ RowOk row ws ∧ SayR names D ws o ∧ SaidEnd K H x nl tl Q o
theorem ev_isE {σ : L2.St} {H : Hp} {a D : Addr} {c : V} {cv : Value} {b : Bool} {te tc : TE} (ht : Ev te σ H (.ref a)) (hc : Ev tc σ H c) (C : ExcC K D) (hr : ∀ u, RelV c u → u = cv) (hk : PySem.W.kitOne K (.ref D) cv = some b) : Ev (tCB (rIsE2 K (.ref D) none a) (tCons te (tCons tc tNil))) σ H (.bl b) :=
  ev_cb (ea_cons ht (ea_cons hc ea_nil)) fun H1 e Q q => ⟨D, rfl, rfl, C, c, cv, b, rfl, hr, hk, q H1 (Ex.refl _)⟩
abbrev tIsE (K : PySem.W.Frag) (a : Addr) (cls : Value) (d : Option Addr) (c : V) : TE := tCB (rIsE2 K cls d a) (tCons (tVar 4) (tCons (L2.tC c) tNil))
def t_l_said_b (K : PySem.W.Frag) : WX → TS := fun W => tSeq (tAsg (tMS (He.ga K "Desk") "say" (sp_Desk_say K) (WE W) (tVar 0) (tCons (tVar 1) tNil)) (gName 3)) (tIfS (tTest (tOp rEq (tVar 3) (L2.tC (.str "ok")))) (tAsg (L2.tC (.str "ok")) (gName 2)) tNext)
def t_l_said_s (K : PySem.W.Frag) : Addr → Value → Option Addr → TS := fun a cls d =>
  tSeq (tAsg (tLst (tCons (tIsE K a cls d (.ref (He.ga K "BadRow"))) (tCons (tIsE K a cls d (.ref (He.ga K "Taken"))) (tCons (tIsE K a cls d (.ref (He.ga K "NoName"))) tNil)))) (gName 5))
  (tSeq (tAsg (tOp rCat (tVar 5) (tLst (tCons (tIsE K a cls d (.ref (He.ga K "TooMany"))) (tCons (tIsE K a cls d (.ref (He.ga K "BadTie"))) (tCons (tIsE K a cls d (.ref (He.ga K "NoTie"))) tNil))))) (gName 5))
  (tSeq (tAsg (tOp rCat (tVar 5) (tLst (tCons (tIsE K a cls d (.ref (He.ga K "BelowNought"))) (tCons (tIsE K a cls d (.ref (He.ga K "Apart"))) tNil)))) (gName 5))
  (tSeq (tAsg (L2.tC (.str "other")) (gName 2))
  (tIfS (tAnd (tTest (tOp rEq (tBM K "list" (rCntB K) (tVar 5) (tCons (L2.tC (.bl true)) tNil)) (L2.tC (.int 1)))) (tB (tIsE K a cls d (.ty "ValueError"))))
    (tAsg (tOp (rIxL K) (tLst (tCons (L2.tC (.str "row")) (tCons (L2.tC (.str "taken")) (tCons (L2.tC (.str "name")) (tCons (L2.tC (.str "many")) (tCons (L2.tC (.str "bad")) (tCons (L2.tC (.str "none")) (tCons (L2.tC (.str "below")) (tCons (L2.tC (.str "apart")) tNil))))))))) (tBM K "list" (rIndex K) (tVar 5) (tCons (L2.tC (.bl true)) tNil))) (gName 2)) tNext))))
theorem tSeq_try {tb : WX → TS} {F : Ends → WX} {tz : TS} {D : Ends} {σ : L2.St} {H : Hp} (h : tb (F { D with nx := tz D }) { D with nx := tz D } σ H) : tSeq (fun D σ H => tb (F D) D σ H) tz D σ H := h
theorem ok_l_said (T : Txt w K mg) : Ok P w K mg base CX0 11 ("_law_said", none) ["_law_desk", "_law_row_here"] (sp_l_said K) := by
  have c_Desk_say := ok_Desk_say (P := P) (base := base) T
  refine ok0 T.f_l_said sc_l_said (fun vs H Q E h => by obtain ⟨_, _, _, _, _, _, _, _, rfl, _⟩ := h; rfl) (fun _ _ _ _ _ _ us hl => match us, hl with | [_, _], _ => rfl) fun f cdv A outer s H vs Q E hr h => ?_
  have nd := sc_l_said.nd
  refine ⟨_, (pss_cons (ps_set (i := 2) nd rfl (Or.inl rfl) pe_str)
 (pss_cons (ps_try_as (i := 4) (tb := t_l_said_b K) (ts := t_l_said_s K) (Wout := fun _ _ _ _ => False) rfl rfl nd rfl rfl ⟨rfl, by decide, .inl T.g_WebError⟩ takes0 (fun W pn xe tk _ => by exact (pss_cons (ps_set (i := 3) nd rfl (Or.inl rfl) (pxmS T.k_Desk T.m_Desk_say c_Desk_say hr (by decide) tk (pv 0) (pa_cons (pv 1) pa_nil)))
 (pss_one (ps_if (pt_cmpR op_eq (pv 3) pe_str (nomark _)) (pss_one (ps_set (i := 2) nd rfl (Or.inl rfl) pe_str)) pss_nil)))) (fun a oe cls d pn hz hf => by exact (pss_cons (ps_set (i := 5) nd rfl (Or.inl rfl) (pe_lst (pa_cons (pe_callB (call_isE2 hz hf) (by rfl) T.n_isinstance (by decide +kernel) (pa_cons (pv 4) (pa_cons (pe_glob (v := .ref (He.ga K "BadRow")) rfl T.g_BadRow rfl) pa_nil))) (pa_cons (pe_callB (call_isE2 hz hf) (by rfl) T.n_isinstance (by decide +kernel) (pa_cons (pv 4) (pa_cons (pe_glob (v := .ref (He.ga K "Taken")) rfl T.g_Taken rfl) pa_nil))) (pa_cons (pe_callB (call_isE2 hz hf) (by rfl) T.n_isinstance (by decide +kernel) (pa_cons (pv 4) (pa_cons (pe_glob (v := .ref (He.ga K "NoName")) rfl T.g_NoName rfl) pa_nil))) pa_nil)))))
 (pss_cons (ps_set (i := 5) nd rfl (Or.inl rfl) (pe_op op_cat (pv 5) (pe_lst (pa_cons (pe_callB (call_isE2 hz hf) (by rfl) T.n_isinstance (by decide +kernel) (pa_cons (pv 4) (pa_cons (pe_glob (v := .ref (He.ga K "TooMany")) rfl T.g_TooMany rfl) pa_nil))) (pa_cons (pe_callB (call_isE2 hz hf) (by rfl) T.n_isinstance (by decide +kernel) (pa_cons (pv 4) (pa_cons (pe_glob (v := .ref (He.ga K "BadTie")) rfl T.g_BadTie rfl) pa_nil))) (pa_cons (pe_callB (call_isE2 hz hf) (by rfl) T.n_isinstance (by decide +kernel) (pa_cons (pv 4) (pa_cons (pe_glob (v := .ref (He.ga K "NoTie")) rfl T.g_NoTie rfl) pa_nil))) pa_nil))))))
 (pss_cons (ps_set (i := 5) nd rfl (Or.inl rfl) (pe_op op_cat (pv 5) (pe_lst (pa_cons (pe_callB (call_isE2 hz hf) (by rfl) T.n_isinstance (by decide +kernel) (pa_cons (pv 4) (pa_cons (pe_glob (v := .ref (He.ga K "BelowNought")) rfl T.g_BelowNought rfl) pa_nil))) (pa_cons (pe_callB (call_isE2 hz hf) (by rfl) T.n_isinstance (by decide +kernel) (pa_cons (pv 4) (pa_cons (pe_glob (v := .ref (He.ga K "Apart")) rfl T.g_Apart rfl) pa_nil))) pa_nil)))))
 (pss_cons (ps_set (i := 2) nd rfl (Or.inl rfl) pe_str)
 (pss_one (ps_if (PW.pt (pw_and (pt_cmpR op_eq (pe_bm PySem.F.plainAttrs_list PySem.F.slot_list_count PySem.F.type_list_count mt_countB (pv 5) (pa_cons pe_bl pa_nil)) pe_int (nomark _)) (pw_and1 (pt_val (pe_callB (call_isE2 hz hf) (by rfl) T.n_isinstance (by decide +kernel) (pa_cons (pv 4) (pa_cons (pe_bltn (v := .ty "ValueError") (by rfl) T.n_ValueError (by decide +kernel) rfl) pa_nil))))))) (pss_one (ps_set (i := 2) nd rfl (Or.inl rfl) (pe_ix ix_list (pe_lst (pa_cons pe_str (pa_cons pe_str (pa_cons pe_str (pa_cons pe_str (pa_cons pe_str (pa_cons pe_str (pa_cons pe_str (pa_cons pe_str pa_nil))))))))) (pe_bm PySem.F.plainAttrs_list PySem.F.slot_list_index PySem.F.type_list_index mt_index (pv 5) (pa_cons pe_bl pa_nil)) (fun _ _ => rfl)))) pss_nil))))))))
 (pss_one (ps_ret (pv 2))))), ?_⟩
  try dsimp only [cxOf, L2.Cx.nox, L2.Cx.blk]
  obtain ⟨x, nl, tl, names, ws, D, row, o, rfl, ⟨dx, hx, hn, ht⟩, hok, hrow, hR, hend⟩ := h
  refine q_asg (v := .str "told") ev_c fun H1 e1 => ?_
  refine tSeq_try (tb := t_l_said_b K) ?_
  unfold t_l_said_b
  refine ⟨.ref x, rfl, x, dx, _, rfl, e1 _ _ hx, rfl, .str row, rfl, x, nl, tl, names, ws, D, row, o, rfl, ⟨dx, e1 _ _ hx, e1 _ _ hn, e1 _ _ ht⟩, hok, hrow, hR, ?_⟩
  cases o with
  | no er =>
    obtain ⟨he, hend⟩ := hend
    intro H2 e2
    refine ⟨true, exm_of T he, fun _ a ha => ?_, fun q => by cases q⟩
    unfold t_l_said_s
    have e12 := e1.trans e2
    have C := excC_of T he
    have kit : ∀ {y : Str}, y ∈ errN → PySem.W.kitOne K (.ref (He.ga K er)) (.ref (He.ga K y)) = some (decide (er = y)) := fun hy => kit_of2 T he hy
    have isE : ∀ {σ : L2.St} {H3 : Hp} {y : Str}, σ[4]? = some (some (.ref a)) → y ∈ errN → Ev (tCB (rIsE2 K (.ref (He.ga K er)) none a) (tCons (tVar 4) (tCons (L2.tC (.ref (He.ga K y))) tNil))) σ H3 (.bl (decide (er = y))) := fun hs hy => ev_isE (ev_var hs) ev_c C (fun u r => r) (kit hy)
    obtain ⟨c1, c2, c3, c4⟩ := isBs_one er he
    refine q_asgL (xs := [.bl (decide (er = "BadRow")), .bl (decide (er = "Taken")), .bl (decide (er = "NoName"))]) (el_lst (ea_cons (isE rfl mem_BadRow) (ea_cons (isE rfl mem_Taken) (ea_cons (isE rfl mem_NoName) ea_nil))) (Nat.le_of_ble_eq_true rfl)) fun p3 H3 _ e3 h3 => ?_
    refine q_asgL (el_catL (ev_var rfl) (el_lst (ea_cons (isE rfl mem_TooMany) (ea_cons (isE rfl mem_BadTie) (ea_cons (isE rfl mem_NoTie) ea_nil))) (Nat.le_of_ble_eq_true rfl)) h3 (Nat.le_of_ble_eq_true rfl)) fun p4 H4 _ e4 h4 => ?_
    refine q_asgL (xs := (isBs er).map V.bl) (el_is (el_catL (ev_var rfl) (el_lst (ea_cons (isE rfl mem_BelowNought) (ea_cons (isE rfl mem_Apart) ea_nil)) (Nat.le_of_ble_eq_true rfl)) h4 (Nat.le_of_ble_eq_true rfl)) rfl) fun p5 H5 _ e5 h5 => ?_
    refine q_asg (v := .str "other") ev_c fun H6 e6 => ?_
    have h6 := e6 _ _ h5
    have e26 := (((e12.trans e3).trans e4).trans e5).trans e6
    refine s_when (b := true) (et_is (et_and (et_test (ev_op (ev_tBM (ev_var rfl) (tyL (sq_of h6)) (ea_cons ev_c ea_nil) (z := .int (((isBs er).count true : Nat) : Int)) fun H7 e7 Q7 q7 => ⟨p5, isBs er, rfl, rfl, sq_of (e7 _ _ h6), q7 H7 (Ex.refl _)⟩) ev_c rv_eqI)) fun _ => et_B (ev_isE (ev_var rfl) ev_c C (fun u r => r) (kit_v T he))) (by rw [c1]; rfl)) (fun _ H7 e7 => ?_) (fun hb => by cases hb)
    have h7 := e7 _ _ h6
    have hfl : ((isBs er).map V.bl).all flatV = true := by
      rw [List.all_map, List.all_eq_true]
      exact fun _ _ => rfl
    have hix : ∀ {σ : L2.St} (H8 : Hp), σ[5]? = some (some (.ref p5)) → Ex H7 H8 → Ev (tBM K "list" (rIndex K) (tVar 5) (tCons (L2.tC (.bl true)) tNil)) σ H8 (.int ((idx errN er : Nat) : Int)) := fun H8 hs e8 => ev_tBM (ev_var hs) (tyL (sq_of (e8 _ _ h7))) (ea_cons ev_c ea_nil) (rm_index (z := .bl true) (sq_of (e8 _ _ h7)) rfl hfl (by rw [List.getElem?_map, c3]; rfl) rfl fun m z' hm hz => by
      rw [List.getElem?_map] at hz
      obtain ⟨bb, hbb, rfl⟩ := Option.map_eq_some_iff.mp hz
      have hmem : bb ∈ (isBs er).take (idx errN er) := List.mem_of_getElem? (i := m) (by rw [List.getElem?_take_of_lt hm]; exact hbb)
      have := List.all_eq_true.mp c4 bb hmem
      cases bb
      · rfl
      · cases this)
    refine s_asg (v := .str (codeOf er)) (ev_opL1 (xs := strsV codesL) (y := .int ((idx errN er : Nat) : Int)) (el_lst (ea_cons ev_c (ea_cons ev_c (ea_cons ev_c (ea_cons ev_c (ea_cons ev_c (ea_cons ev_c (ea_cons ev_c (ea_cons ev_c ea_nil)))))))) (Nat.le_of_ble_eq_true rfl)) (fun H8 e8 => hix H8 rfl e8) fun p H8 hp e8 => rv_ixLn (sq_of hp) (strs_at' c2)) fun H8 e8 => ?_
    exact s_ret (v := .str (codeOf er)) (ev_var rfl) fun H9 e9 => hend _ (((e26.trans e7).trans e8).trans e9)
  | did n D' =>
    intro tl' H2 fr htl hd
    refine s_when (b := true) (et_is (et_test (ev_op (ev_var rfl) ev_c rv_eqS)) (by decide +kernel)) (fun _ H3 e3 => ?_) (fun hb => by cases hb)
    refine s_asg (v := .str "ok") ev_c fun H4 e4 => ?_
    refine s_ret (v := .str "ok") (ev_var rfl) fun H5 e5 => ?_
    have e25 := (e3.trans e4).trans e5
    refine hend tl' H5 (fun b o hb h1 h2 h3 => e25 _ _ (fr b o (e1 _ _ hb) h1 h2 h3)) (htl.imp_right fun h => fresh_back e1 h) (hd.mono e25)
  | shown => exact hend.elim
  | txt t => exact hend.elim
end
end KD
set_option maxHeartbeats 2000000
/-! plain: what is due for a change, and what the desk does -/
namespace KD
open PySem PySem.Spec PyProof.Rows L2 Evl
inductive DeedW : List Str → Prop
  | point {f : Str} : isName f = true → DeedW ["point", f]
  | tie {y z : Str} {h : Int} : isName y = true → isName z = true → h.natAbs < 10 ^ 60 → DeedW ["tie", y, z, numS h]
  | untie {y z : Str} : isName y = true → isName z = true → DeedW ["untie", y, z]
  | gone {y : Str} : isName y = true → DeedW ["gone", y]
  | rename {y z : Str} : isName y = true → isName z = true → DeedW ["rename", y, z]
theorem fits_w {z : Str} : fitsSh z ⟨#[119]⟩ = isNum z := by
  unfold fitsSh
  rw [if_neg (by decide +kernel), decide_eq_true (by decide +kernel)]
  exact Bool.and_true _
theorem okd_n {w0 y : Str} {n : Nat} (h1 : w0 ≠ "wanted") (h2 : w0 ≠ "odd") (h3 : shOf w0 = some "n") (hy : isName y = true) : okWords [w0, y] n = true := by
  have c : ("n" : Str).cps.toList = [110] := by decide +kernel
  rw [ok_sh h1 h2 h3, c]
  show (decide (("n" : Str).length = 1) && (fitsSh y ⟨#[110]⟩ && true)) = true
  rw [fits_n, hy, decide_eq_true (by decide +kernel)]
  rfl
theorem okd_nn {w0 y z : Str} {n : Nat} (h1 : w0 ≠ "wanted") (h2 : w0 ≠ "odd") (h3 : shOf w0 = some "nn") (hy : isName y = true) (hz : isName z = true) : okWords [w0, y, z] n = true := by
  have c : ("nn" : Str).cps.toList = [110, 110] := by decide +kernel
  rw [ok_sh h1 h2 h3, c]
  show (decide (("nn" : Str).length = 2) && (fitsSh y ⟨#[110]⟩ && (fitsSh z ⟨#[110]⟩ && true))) = true
  rw [fits_n, fits_n, hy, hz, decide_eq_true (by decide +kernel)]
  rfl
theorem okd_nnw {w0 y z x : Str} {n : Nat} (h1 : w0 ≠ "wanted") (h2 : w0 ≠ "odd") (h3 : shOf w0 = some "nnw") (hy : isName y = true) (hz : isName z = true) (hx : isNum x = true) : okWords [w0, y, z, x] n = true := by
  have c : ("nnw" : Str).cps.toList = [110, 110, 119] := by decide +kernel
  rw [ok_sh h1 h2 h3, c]
  show (decide (("nnw" : Str).length = 3) && (fitsSh y ⟨#[110]⟩ && (fitsSh z ⟨#[110]⟩ && (fitsSh x ⟨#[119]⟩ && true)))) = true
  rw [fits_n, fits_n, fits_w, hy, hz, hx, decide_eq_true (by decide +kernel)]
  rfl
section
variable {ns : List Str} {L : List LTie} {D : List Tie}
theorem due_point {f w : Str} : dueOf ns L "point" f w = if ns.length = 12 then (if f ∈ ns then ("taken" : Str) else ("many" : Str)) else if f ∈ ns then ("taken" : Str) else ("ok" : Str) := if_pos rfl
theorem due_rename {y z : Str} : dueOf ns L "rename" y z = if y ∈ ns then (if z ∈ ns then ("taken" : Str) else ("ok" : Str)) else ("name" : Str) := (if_neg (by decide +kernel)).trans (if_pos rfl)
theorem due_gone {y w : Str} : dueOf ns L "gone" y w = if y ∈ ns then ("ok" : Str) else ("name" : Str) := by
  have h : decide (("gone" : Str) = "gone") = true := by decide +kernel
  have h2 : decide (("gone" : Str) = "untie") = false := by decide +kernel
  unfold dueOf
  rw [if_neg (by decide +kernel), if_neg (by decide +kernel), h, h2]
  by_cases hy : y ∈ ns <;> simp [hy]
theorem due_two {v y z : Str} (hv : v = "tie" ∨ v = "untie") : dueOf ns L v y z = if y ∈ ns ∧ z ∈ ns then (if y = z then ("bad" : Str) else if (decide (v = "untie") && (!hasL L y z && !hasL L z y)) = true then ("none" : Str) else ("ok" : Str)) else ("name" : Str) := by
  have h : decide (v = "gone") = false := by rcases hv with rfl | rfl <;> decide +kernel
  have h1 : ¬ v = "point" := by rcases hv with rfl | rfl <;> decide +kernel
  have h2 : ¬ v = "rename" := by rcases hv with rfl | rfl <;> decide +kernel
  unfold dueOf
  rw [if_neg h1, if_neg h2, h]
  by_cases hy : y ∈ ns
  · by_cases hz : z ∈ ns
    · by_cases e : y = z <;> simp [hy, hz, e]
    · simp [hy, hz]
  · simp [hy]
theorem idx_ne {y z : Str} (hy : y ∈ ns) (hz : z ∈ ns) (h : y ≠ z) : idx ns y ≠ idx ns z := fun e => h (idx_inj hy hz e)
/-- what is promised of a row that changes -/
def DeedEnd (ns : List Str) (L : List LTie) (D : List Tie) (ws : List Str) (due : Str) : Prop :=
  (∃ ns' L' D', due = "ok" ∧ DoneR ns L ws ns' L' ∧ SayR ns D ws (.did ns' D') ∧ Inv ns' L' D' ∧ L'.length ≤ L.length + 1) ∨ (∃ e ∈ errN, due = codeOf e ∧ SayR ns D ws (.no e))
theorem code_BadRow : codeOf "BadRow" = "row" := by decide +kernel
theorem code_Taken : codeOf "Taken" = "taken" := by decide +kernel
theorem code_NoName : codeOf "NoName" = "name" := by decide +kernel
theorem code_TooMany : codeOf "TooMany" = "many" := by decide +kernel
theorem code_BadTie : codeOf "BadTie" = "bad" := by decide +kernel
theorem code_NoTie : codeOf "NoTie" = "none" := by decide +kernel
theorem code_BelowNought : codeOf "BelowNought" = "below" := by decide +kernel
theorem code_Apart : codeOf "Apart" = "apart" := by decide +kernel
theorem fresh_no {w0 : Str} (h1 : w0 ≠ "point") (h2 : w0 ≠ "rename") (k : Nat) : freshB w0 k = false := by
  unfold freshB
  rw [decide_eq_false h1, decide_eq_false h2]
  rfl
theorem deed_point (I : Inv ns L D) {f : Str} (hf : isName f = true) : DeedEnd ns L D ["point", f] (dueOf ns L "point" f "") := by
  have ok : okWords ["point", f] ns.length = true := okd_n (by decide +kernel) (by decide +kernel) (by decide +kernel) hf
  have fr : freshB "point" 1 = true := by decide +kernel
  have lk : lookRes ns "point" 1 [f] = if f ∈ ns then some ("Taken" : Str) else none := by
    rw [look_cons, look_one hf, if_pos fr]
    by_cases h : f ∈ ns
    · rw [if_pos h]
    · rw [if_neg h]
      rfl
  rw [due_point]
  by_cases h : f ∈ ns
  · rw [if_pos h, if_pos h, ite_self]
    rw [if_pos h] at lk
    exact .inr ⟨"Taken", mem_Taken, code_Taken.symm, .look ok lk⟩
  · rw [if_neg h] at lk
    rw [if_neg h, if_neg h]
    have ps : Pass ns ["point", f] := ⟨ok, lk⟩
    by_cases h12 : ns.length = 12
    · rw [if_pos h12]
      exact .inr ⟨"TooMany", mem_TooMany, code_TooMany.symm, .chg ps (.many (by omega))⟩
    · rw [if_neg h12]
      have := I.nl
      have lt : ns.length < 12 := by omega
      exact .inl ⟨_, _, D, rfl, .point, .chg ps (.point lt), inv_point I hf h lt, by omega⟩
theorem deed_rename (I : Inv ns L D) {y z : Str} (hy : isName y = true) (hz : isName z = true) : DeedEnd ns L D ["rename", y, z] (dueOf ns L "rename" y z) := by
  have ok : okWords ["rename", y, z] ns.length = true := okd_nn (by decide +kernel) (by decide +kernel) (by decide +kernel) hy hz
  have f1 : ¬ freshB "rename" 1 = true := by decide +kernel
  have f2 : freshB "rename" 2 = true := by decide +kernel
  have lk : lookRes ns "rename" 1 [y, z] = if y ∈ ns then (if z ∈ ns then some ("Taken" : Str) else none) else some ("NoName" : Str) := by
    rw [look_cons, look_one hy, if_neg f1]
    by_cases h : y ∈ ns
    · rw [if_pos h, if_pos h]
      show lookRes ns "rename" 2 [z] = _
      rw [look_cons, look_one hz, if_pos f2]
      by_cases h2 : z ∈ ns
      · rw [if_pos h2]
      · rw [if_neg h2]
        rfl
    · rw [if_neg h, if_neg h]
  rw [due_rename]
  by_cases h : y ∈ ns
  · rw [if_pos h] at lk ⊢
    by_cases h2 : z ∈ ns
    · rw [if_pos h2] at lk ⊢
      exact .inr ⟨"Taken", mem_Taken, code_Taken.symm, .look ok lk⟩
    · rw [if_neg h2] at lk ⊢
      exact .inl ⟨_, _, D, rfl, .rename h h2, .chg ⟨ok, lk⟩ (.rename h), inv_rename I h hz h2, by rw [List.length_map]; omega⟩
  · rw [if_neg h] at lk ⊢
    exact .inr ⟨"NoName", mem_NoName, code_NoName.symm, .look ok lk⟩
theorem deed_gone (I : Inv ns L D) {y : Str} (hy : isName y = true) : DeedEnd ns L D ["gone", y] (dueOf ns L "gone" y "") := by
  have ok : okWords ["gone", y] ns.length = true := okd_n (by decide +kernel) (by decide +kernel) (by decide +kernel) hy
  have lk : lookRes ns "gone" 1 [y] = if ∀ z ∈ [y], z ∈ ns then none else some ("NoName" : Str) := look_old (fresh_no (by decide +kernel) (by decide +kernel)) fun z hz => by
    rw [List.mem_singleton.mp hz]
    exact hy
  rw [due_gone]
  by_cases h : y ∈ ns
  · rw [if_pos (by simpa using h)] at lk
    rw [if_pos h]
    exact .inl ⟨_, _, _, rfl, .gone h, .chg ⟨ok, lk⟩ (.gone h), inv_gone I h, Nat.le_trans (List.length_filter_le _ _) (Nat.le_succ _)⟩
  · rw [if_neg fun q => h (q y (List.mem_cons_self ..))] at lk
    rw [if_neg h]
    exact .inr ⟨"NoName", mem_NoName, code_NoName.symm, .look ok lk⟩
theorem look_two {v y z : Str} {r : List Str} (hv : v = "tie" ∨ v = "untie") (hy : isName y = true) (hz : isName z = true) (hr : ∀ x ∈ r, isName x = false) : lookRes ns v 1 (y :: z :: r) = if y ∈ ns ∧ z ∈ ns then none else some ("NoName" : Str) := by
  have fr := fresh_no (w0 := v) (by rcases hv with rfl | rfl <;> decide +kernel) (by rcases hv with rfl | rfl <;> decide +kernel)
  have skip : ∀ (r : List Str) (k : Nat), (∀ x ∈ r, isName x = false) → lookRes ns v k r = none := by
    intro r
    induction r with
    | nil => exact fun _ _ => rfl
    | cons a r ih =>
      intro k h
      rw [look_cons, look_skip (h a (List.mem_cons_self ..))]
      exact ih _ fun x hx => h x (List.mem_cons_of_mem _ hx)
  rw [look_cons, look_one hy, if_neg (by rw [fr]; decide)]
  by_cases h : y ∈ ns
  · rw [if_pos h]
    show lookRes ns v 2 (z :: r) = _
    rw [look_cons, look_one hz, if_neg (by rw [fr]; decide)]
    by_cases h2 : z ∈ ns
    · rw [if_pos h2, if_pos ⟨h, h2⟩]
      exact skip _ _ hr
    · rw [if_neg h2, if_neg fun q => h2 q.2]
  · rw [if_neg h, if_neg fun q => h q.1]
theorem deed_tie (I : Inv ns L D) (hl : L.length < 200) {y z : Str} {h : Int} (hy : isName y = true) (hz : isName z = true) (hh : h.natAbs < 10 ^ 60) : DeedEnd ns L D ["tie", y, z, numS h] (dueOf ns L "tie" y z) := by
  have ok : okWords ["tie", y, z, numS h] ns.length = true := okd_nnw (by decide +kernel) (by decide +kernel) (by decide +kernel) hy hz (isNum_num hh)
  have lk := look_two (ns := ns) (r := [numS h]) (.inl rfl) hy hz fun x hx => by
    rw [List.mem_singleton.mp hx]
    exact num_noname
  rw [due_two (.inl rfl)]
  by_cases hm : y ∈ ns ∧ z ∈ ns
  · rw [if_pos hm] at lk ⊢
    have ps : Pass ns ["tie", y, z, numS h] := ⟨ok, lk⟩
    by_cases e : y = z
    · rw [if_pos e]
      exact .inr ⟨"BadTie", mem_BadTie, code_BadTie.symm, .chg ps (.bad (.inl rfl) hm.1 hm.2 (by rw [e]))⟩
    · rw [if_neg e, if_neg (by rw [decide_eq_false (by decide +kernel : ¬ ("tie" : Str) = "untie"), Bool.false_and]; decide)]
      refine .inl ⟨_, _, _, rfl, .tie hm.1 hm.2 (numS_int hh), .chg ps (.tie hm.1 hm.2 (idx_ne hm.1 hm.2 e) (numS_int hh)), inv_tie I hm.1 hm.2 e hh hl, ?_⟩
      rw [List.length_append, List.length_singleton]
      have := List.length_filter_le (offT y z) L
      omega
  · rw [if_neg hm] at lk ⊢
    exact .inr ⟨"NoName", mem_NoName, code_NoName.symm, .look ok lk⟩
theorem deed_untie (I : Inv ns L D) {y z : Str} (hy : isName y = true) (hz : isName z = true) : DeedEnd ns L D ["untie", y, z] (dueOf ns L "untie" y z) := by
  have ok : okWords ["untie", y, z] ns.length = true := okd_nn (by decide +kernel) (by decide +kernel) (by decide +kernel) hy hz
  have lk := look_two (ns := ns) (r := []) (.inr rfl) hy hz fun x hx => by cases hx
  rw [due_two (.inr rfl)]
  by_cases hm : y ∈ ns ∧ z ∈ ns
  · rw [if_pos hm] at lk ⊢
    have ps : Pass ns ["untie", y, z] := ⟨ok, lk⟩
    by_cases e : y = z
    · rw [if_pos e]
      exact .inr ⟨"BadTie", mem_BadTie, code_BadTie.symm, .chg ps (.bad (.inr rfl) hm.1 hm.2 (by rw [e]))⟩
    · rw [if_neg e, decide_eq_true (by decide +kernel : ("untie" : Str) = "untie"), Bool.true_and]
      have hq := has_eq I hm.1 hm.2
      by_cases c : (!hasL L y z && !hasL L z y) = true
      · rw [if_pos c]
        have hf : (hasL L y z || hasL L z y) = false := by
          rw [← Bool.not_or] at c
          simpa using c
        rw [hf] at hq
        exact .inr ⟨"NoTie", mem_NoTie, code_NoTie.symm, .chg ps (.none hm.1 hm.2 (idx_ne hm.1 hm.2 e) hq)⟩
      · rw [if_neg c]
        have hf : (hasL L y z || hasL L z y) = true := by
          cases hc : (hasL L y z || hasL L z y) with
          | true => rfl
          | false =>
            rw [← Bool.not_or, hc] at c
            exact absurd rfl c
        rw [hf] at hq
        exact .inl ⟨_, _, _, rfl, .untie hm.1 hm.2, .chg ps (.untie hm.1 hm.2 (idx_ne hm.1 hm.2 e) hq), inv_untie I hm.1 hm.2, Nat.le_trans (List.length_filter_le _ _) (Nat.le_succ _)⟩
  · rw [if_neg hm] at lk ⊢
    exact .inr ⟨"NoName", mem_NoName, code_NoName.symm, .look ok lk⟩
theorem deed_law (I : Inv ns L D) (hl : L.length < 200) {ws : List Str} (h : DeedW ws) : ∃ w0 w1 rest, ws = w0 :: w1 :: rest ∧ (w0 = "point" ∨ w0 = "gone" ∨ rest ≠ []) ∧ w0 ∉ (["walk", "odd", "wanted"] : List Str) ∧ (∀ z ∈ ws, z.length ≤ 640) ∧ DeedEnd ns L D ws (dueOf ns L w0 w1 (rest.headD "")) := by
  have ln : ∀ {z : Str}, isName z = true → z.length ≤ 640 := fun h => Nat.le_trans (len_name h) (by decide)
  cases h with
  | @point f hf => exact ⟨_, _, _, rfl, .inl rfl, by decide +kernel, by simp only [List.forall_mem_cons]; exact ⟨by decide +kernel, ln hf, by simp⟩, deed_point I hf⟩
  | @tie y z h hy hz hh => exact ⟨_, _, _, rfl, .inr (.inr (by simp)), by decide +kernel, by simp only [List.forall_mem_cons]; exact ⟨by decide +kernel, ln hy, ln hz, Nat.le_trans (numS_len hh) (by decide), by simp⟩, deed_tie I hl hy hz hh⟩
  | @untie y z hy hz => exact ⟨_, _, _, rfl, .inr (.inr (by simp)), by decide +kernel, by simp only [List.forall_mem_cons]; exact ⟨by decide +kernel, ln hy, ln hz, by simp⟩, deed_untie I hy hz⟩
  | @gone y hy => exact ⟨_, _, _, rfl, .inr (.inl rfl), by decide +kernel, by simp only [List.forall_mem_cons]; exact ⟨by decide +kernel, ln hy, by simp⟩, deed_gone I hy⟩
  | @rename y z hy hz => exact ⟨_, _, _, rfl, .inr (.inr (by simp)), by decide +kernel, by simp only [List.forall_mem_cons]; exact ⟨by decide +kernel, ln hy, ln hz, by simp⟩, deed_rename I hy hz⟩
end
end KD
set_option maxHeartbeats 2000000
/-! the bound of the numbers wanted, from below -/
namespace KD
open PySem PySem.Spec PyProof.Rows L2 Evl
theorem look_none {names : List Str} {w0 : Str} : ∀ {zs : List Str} {k : Nat}, (∀ z ∈ zs, isName z = false) → lookRes names w0 k zs = none
  | [], _, _ => rfl
  | z :: r, k, h => by
    have h1 : lookOne names w0 k z = none := by
      unfold lookOne
      rw [if_neg (by rw [h z (List.mem_cons_self ..)]; decide)]
    unfold lookRes
    rw [h1]
    exact look_none fun y hy => h y (List.mem_cons_of_mem _ hy)
theorem w_row {w g row : Str} {k : Nat} (hw : TL.tl w = TL.tl ("wanted" : Str) ++ 32 :: TL.tl g) (hg : noB g) (hl : g.length ≤ 100) (hk : k ≤ 50) (e : row = w ++ repS " 0" k) : RowOk row ("wanted" :: g :: List.replicate k "0") := by
  subst e
  refine row_ok (by simp) ?_ (fun z hz => ?_) ?_ fun z hz => ?_
  · rw [TL.tl_append, hw, tl_rep]
    show _ = TL.tl ("wanted" : Str) ++ _
    rw [List.tail_cons, List.map_cons, List.flatten_cons, List.map_replicate, List.append_assoc]
    have : TL.tl (" 0" : Str) = 32 :: TL.tl "0" := by decide +kernel
    rw [this]
  · simp only [List.mem_cons, List.mem_replicate] at hz
    rcases hz with rfl | rfl | ⟨_, rfl⟩
    · decide +kernel
    · exact hg
    · decide +kernel
  · rw [List.length_cons, List.length_cons, List.length_replicate]
    omega
  · simp only [List.mem_cons, List.mem_replicate] at hz
    rcases hz with rfl | rfl | ⟨_, rfl⟩
    · decide +kernel
    · exact hl
    · decide +kernel
theorem w_pass {names : List Str} {g : Str} (h0 : names ≠ []) (hg : fitsF g = true) (hn : isName g = false) : Pass names ("wanted" :: g :: List.replicate (names.length - 1) "0") := by
  have hp : 0 < names.length := List.length_pos_iff.mpr h0
  refine ⟨ok_wanted_fine (by rw [List.length_cons, List.length_replicate]; omega) fun z hz => ?_, look_none fun z hz => ?_⟩
  · simp only [List.mem_cons, List.mem_replicate] at hz
    rcases hz with rfl | ⟨_, rfl⟩
    · exact hg
    · decide +kernel
  · have hz : z ∈ g :: List.replicate (names.length - 1) "0" := hz
    simp only [List.mem_cons, List.mem_replicate] at hz
    rcases hz with rfl | ⟨_, rfl⟩
    · exact hn
    · decide +kernel
theorem sum_zeros (k : Nat) : (List.replicate k (0 : Int)).sum = 0 := by
  induction k with
  | zero => rfl
  | succ k ih =>
    rw [List.replicate_succ, List.sum_cons, ih]
    rfl
theorem w25_many {names : List Str} {D : List Tie} (h0 : names ≠ []) : SayR names D ("wanted" :: "25" :: List.replicate (names.length - 1) "0") (.no "TooMany") := by
  refine .many (ns := 25 :: List.replicate (names.length - 1) 0) (w_pass h0 (by decide +kernel) (by decide +kernel)) ?_ ?_
  · rw [List.map_cons, List.map_replicate, List.map_cons, List.map_replicate]
    have h1 : PySem.intText? ("25" : Str) = some 25 := by decide +kernel
    have h2 : PySem.intText? ("0" : Str) = some 0 := by decide +kernel
    rw [h1, h2]
  · rw [List.sum_cons, sum_zeros]
    decide
section
variable {P : Program} {w : World} {K : PySem.W.Frag} {mg : Str → Option Value} {base : Heap}
theorem ev_isStr {σ : L2.St} {H : Hp} {te tc : TE} {z : Str} (h : Ev te σ H (.str z)) (hc : Ev tc σ H (.ty "str")) : Ev (tCB (rIsi K) (tCons te (tCons tc tNil))) σ H (.bl true) :=
  ev_cb (ea_cons h (ea_cons hc ea_nil)) fun H1 e Q q => ⟨.str z, .ty "str", .type "str", .type "str", true, rfl, .ty _, .base (.str _), kit_ty (by decide +kernel), q H1 (Ex.refl _)⟩
def sp_l_bound_right (K : PySem.W.Frag) : Sp := fun vs H Q _ => ∃ (x nl tl a : Addr) (ns : List Str) (D : List Tie), vs = [.ref x, .ref a] ∧ DeskAt K H x nl tl ns D ∧ DeskOk ns D ∧ H a = some (.lst (strsV ns)) ∧ (∀ z ∈ ns, isName z = true) ∧ RV1 (.bl true) H Q
theorem ok_l_bound_right (T : Txt w K mg) : Ok P w K mg base CX0 12 ("_law_bound_right", none) ["_law_desk", "_law_names"] (sp_l_bound_right K) := by
  have c_Desk_say := ok_Desk_say (P := P) (base := base) T
  have c_l_said := ok_l_said (P := P) (base := base) T
  refine ok0 T.f_l_bound_right sc_l_bound_right (fun vs H Q E h => by obtain ⟨_, _, _, _, _, _, rfl, _⟩ := h; rfl) (fun _ _ _ _ _ _ us hl => match us, hl with | [_, _], _ => rfl) fun f cdv A outer s H vs Q E hr h => ?_
  have nd := sc_l_bound_right.nd
  have hu64 := hr.units
  refine ⟨_, (pss_cons (ps_if (pt_cmpR (op_eqD hu64) (pv 1) (pe_lst pa_nil) (nomark _)) (pss_one (ps_ret pe_bl)) pss_nil)
 (pss_cons (ps_set (i := 2) nd rfl (Or.inl rfl) (pe_op op_mulstr pe_str (pe_op op_sub (pe_callB call_len_seq (by rfl) T.n_len (by decide +kernel) (pa_cons (pv 1) pa_nil)) pe_int)))
 (pss_cons (ps_set (i := 3) nd rfl (Or.inl rfl) (pxm T.k_Desk T.m_Desk_say c_Desk_say hr (by decide) (takesE0) (pv 0) (pa_cons (pe_op op_add_str pe_str (pv 2)) pa_nil)))
 (pss_one (ps_ret (pe_and (pe_callB call_isi (by rfl) T.n_isinstance (by decide +kernel) (pa_cons (pv 3) (pa_cons (pe_bltn (v := .ty "str") (by rfl) T.n_str (by decide +kernel) rfl) pa_nil))) (pe_and (pe_cmpR op_ne (pv 3) pe_str (nomark _)) (pe_one (pe_cmpR op_eq (pc c_l_said hr (by decide) T.g_l_said (pa_cons (pv 0) (pa_cons (pe_op op_add_str pe_str (pv 2)) pa_nil))) pe_str (nomark _)))))))))), ?_⟩
  try dsimp only [cxOf, L2.Cx.nox, L2.Cx.blk]
  obtain ⟨x, nl, tl, a, ns, D, rfl, ⟨dx, hx, hn, ht⟩, hok, ha, hnm, hq⟩ := h
  refine q_when (b := decide (ns = [])) (et_test (ev_eqNil (ev_var rfl) (sq_of ha) hnm)) (fun hb H1 e1 => ?_) (fun hb H1 e1 => ?_)
  · exact s_ret (v := .bl true) ev_c fun H2 e2 => hq _ (e1.trans e2)
  have h0 := of_decide_eq_false hb
  have hp : 0 < ns.length := List.length_pos_iff.mpr h0
  have few := hok.few
  have hz : ((ns.length : Int) - 1).toNat = ns.length - 1 := by omega
  refine q_asg (v := .str (repS " 0" (ns.length - 1))) (ev_is (ev_op ev_c (ev_op (ev_is (ev_cb (ea_cons (ev_var rfl) ea_nil) (rc_len (sq_of (e1 _ _ ha)))) (by rw [len_strs])) ev_c rv_I0) (rv_mulS (n := (ns.length : Int) - 1) (by omega) (by decide))) (by rw [hz])) fun H2 e2 => ?_
  have e12 := e1.trans e2
  have rl : (repS " 0" (ns.length - 1)).length ≤ 100 := by
    have h2 : (" 0" : Str).length = 2 := by decide
    rw [repS_len, h2]
    omega
  have l9 : ("wanted 24" : Str).length = 9 := by decide
  have l9' : ("wanted 25" : Str).length = 9 := by decide
  have big : (1000 : Nat) ≤ sizeLine := by decide
  have hd : ∀ {H3 : Hp}, Ex H H3 → DeskAt K H3 x nl tl ns D := fun e => ⟨dx, e _ _ hx, e _ _ hn, e _ _ ht⟩
  refine q_asg (v := .str "none; -") (ev_tM (ev_var rfl) (e12 _ _ hx) rfl (ea_cons (ev_op ev_c (ev_var rfl) (rv_addS (by omega))) ea_nil) fun H3 e3 Q3 q3 E3 => ⟨x, nl, tl, ns, _, D, _, .txt "none; -", rfl, hd (e12.trans e3), hok, w_row (g := "24") (by decide +kernel) (by decide +kernel) (by decide +kernel) (by omega) rfl, .w24 h0 (w_pass h0 (by decide +kernel) (by decide +kernel)), q3⟩) fun H3 e3 => ?_
  have e13 := e12.trans e3
  refine s_ret (v := .bl true) (ev_is (ev_andV (ev_isStr (ev_var rfl) ev_c) fun _ => ev_andV (ev_op (ev_var rfl) ev_c rv_neS) fun _ => ev_op (ev_tC (sp := sp_l_said K) (z := .str "many") (ea_cons (ev_var rfl) (ea_cons (ev_op ev_c (ev_var rfl) (rv_addS (by omega))) ea_nil)) fun H4 e4 Q4 q4 E4 => ⟨x, nl, tl, ns, _, D, _, .no "TooMany", rfl, hd (e13.trans e4), hok, w_row (g := "25") (by decide +kernel) (by decide +kernel) (by decide +kernel) (by omega) rfl, w25_many h0, mem_TooMany, fun H5 e5 => ?_⟩) ev_c rv_eqS) ?_) fun H4 e4 => hq _ (e13.trans e4)
  · have : codeOf "TooMany" = "many" := by decide +kernel
    rw [this]
    exact q4 _ e5
  · have h1 : decide (("none; -" : Str) = "ok") = false := by decide +kernel
    rw [h1]
    rfl
end
end KD
set_option maxHeartbeats 2000000
/-! plain: questions; rows as words -/
namespace KD
open PySem PySem.Spec PyProof.Rows L2 Evl
inductive QuestW : List Str → Prop
  | walk {y : Str} : isName y = true → QuestW ["walk", y]
  | odd {zs : List Str} : (∀ z ∈ zs, isName z = true) → zs.length ≤ 3 → QuestW ("odd" :: zs)
  | wanted {zs : List Str} : (∀ z ∈ zs, z = "1" ∨ z = "25" ∨ z = "-1") → zs.length ≤ 60 → QuestW ("wanted" :: zs)
theorem quest_ok {ws : List Str} (h : QuestW ws) : QuestOk ws ∧ ws.length ≤ 100 ∧ ∃ w0 r, ws = w0 :: r ∧ w0 ∈ (["walk", "odd", "wanted"] : List Str) := by
  cases h with
  | walk h => exact ⟨.walk, Nat.le_of_ble_eq_true rfl, _, _, rfl, by decide +kernel⟩
  | odd h hl => exact ⟨.odd, by rw [List.length_cons]; omega, _, _, rfl, by decide +kernel⟩
  | @wanted zs h hl =>
    refine ⟨.wanted (is := zs.map fun z => (PySem.intText? z).getD 0) ?_ fun z hz => ?_, by rw [List.length_cons]; omega, _, _, rfl, by decide +kernel⟩
    · rw [List.map_map]
      refine List.map_congr_left fun z hz => ?_
      rcases h z hz with rfl | rfl | rfl <;> decide +kernel
    · rcases h z hz with rfl | rfl | rfl <;> decide +kernel
section
variable {ns : List Str} {L : List LTie} {D : List Tie}
/-! ### hanging together -/
theorem conn_in (I : Inv ns L D) {S : List Str} {home : Str} (hh : home ∈ S) (hc : ∀ t ∈ L, t.1 ∈ S ↔ t.2.1 ∈ S) (hn : home ∈ ns) {b : Nat} (h : Conn D (idx ns home) b) : ∃ x ∈ S, x ∈ ns ∧ idx ns x = b := by
  induction h with
  | refl => exact ⟨home, hh, hn, rfl⟩
  | @step b c _ ad ih =>
    obtain ⟨x, hx, hxn, rfl⟩ := ih
    obtain ⟨t, ht, e⟩ := ad
    obtain ⟨u, hu, rfl⟩ := I.in' ht
    obtain ⟨m1, m2⟩ := I.mem u hu
    have e : (min (idx ns u.1) (idx ns u.2.1) = idx ns x ∧ max (idx ns u.1) (idx ns u.2.1) = c) ∨ (max (idx ns u.1) (idx ns u.2.1) = idx ns x ∧ min (idx ns u.1) (idx ns u.2.1) = c) := e
    have : (idx ns u.1 = idx ns x ∧ idx ns u.2.1 = c) ∨ (idx ns u.2.1 = idx ns x ∧ idx ns u.1 = c) := by omega
    rcases this with ⟨h1, h2⟩ | ⟨h1, h2⟩
    · have := idx_inj m1 hxn h1
      exact ⟨u.2.1, (hc u hu).mp (this ▸ hx), m2, h2⟩
    · have := idx_inj m2 hxn h1
      exact ⟨u.1, (hc u hu).mpr (this ▸ hx), m1, h2⟩
theorem apart_of (I : Inv ns L D) {S : List Str} {home : Str} (hh : home ∈ S) (hc : ∀ t ∈ L, t.1 ∈ S ↔ t.2.1 ∈ S) (hn : home ∈ ns) {u : LTie} (hu : u ∈ L) (h1 : u.1 ∉ S) (h2 : u.2.1 ∉ S) : ∃ t ∈ D, ¬ Conn D (idx ns home) t.1 := by
  refine ⟨tieI ns u, I.perm.mem_iff.mpr (List.mem_map.mpr ⟨u, hu, rfl⟩), fun q => ?_⟩
  obtain ⟨x, hx, hxn, e⟩ := conn_in I hh hc hn q
  obtain ⟨m1, m2⟩ := I.mem u hu
  have e : idx ns x = min (idx ns u.1) (idx ns u.2.1) := e
  have : idx ns x = idx ns u.1 ∨ idx ns x = idx ns u.2.1 := by omega
  rcases this with e | e
  · exact h1 (idx_inj hxn m1 e ▸ hx)
  · exact h2 (idx_inj hxn m2 e ▸ hx)
theorem ends_mem {z : Str} (h : z ∈ endsL L) : ∃ u ∈ L, z = u.1 ∨ z = u.2.1 := by
  obtain ⟨u, hu, hz⟩ := List.mem_flatMap.mp h
  exact ⟨u, hu, by simpa using hz⟩
theorem mem_ends' {u : LTie} (hu : u ∈ L) : u.1 ∈ endsL L ∧ u.2.1 ∈ endsL L := ⟨List.mem_flatMap.mpr ⟨u, hu, by simp⟩, List.mem_flatMap.mpr ⟨u, hu, by simp⟩⟩
def QuestEnd (ns : List Str) (D : List Tie) (ws : List Str) (v : Str) : Prop := v = "told" ∨ ∃ e ∈ errN, v = codeOf e ∧ SayR ns D ws (.no e)
theorem quest_walk (I : Inv ns L D) {y v : Str} (hy : isName y = true) (h : WalkD ns L y v) : QuestEnd ns D ["walk", y] v := by
  have ok : okWords ["walk", y] ns.length = true := okd_n (by decide +kernel) (by decide +kernel) (by decide +kernel) hy
  have lk : lookRes ns "walk" 1 [y] = if ∀ z ∈ [y], z ∈ ns then none else some ("NoName" : Str) := look_old (fresh_no (by decide +kernel) (by decide +kernel)) fun z hz => by
    rw [List.mem_singleton.mp hz]
    exact hy
  have ps : y ∈ ns → Pass ns ["walk", y] := fun h => by
    rw [if_pos (by simpa using h)] at lk
    exact ⟨ok, lk⟩
  cases h with
  | name h =>
    rw [if_neg fun q => h (q y (List.mem_cons_self ..))] at lk
    exact .inr ⟨"NoName", mem_NoName, code_NoName.symm, .look ok lk⟩
  | @below t h ht hneg => exact .inr ⟨"BelowNought", mem_BelowNought, code_BelowNought.symm, .ask (ps h) (.below h ⟨tieI ns t, I.perm.mem_iff.mpr (List.mem_map.mpr ⟨t, ht, rfl⟩), hneg⟩)⟩
  | @apart S h hpos hne hS hc ho =>
    refine .inr ⟨"Apart", mem_Apart, code_Apart.symm, .ask (ps h) (.apart h (fun ⟨t, ht, hneg⟩ => ?_) ?_)⟩
    · obtain ⟨u, hu, rfl⟩ := I.in' ht
      have := hpos u hu
      have hneg : u.2.2 < 0 := hneg
      omega
    · rcases ho with ho | ⟨z, hz, hzS⟩
      · obtain ⟨u, r, rfl⟩ := List.exists_cons_of_ne_nil hne
        have key : ∀ t ∈ u :: r, t.1 ∉ [y] ∧ t.2.1 ∉ [y] := fun t ht => by
          obtain ⟨e1, e2⟩ := mem_ends' ht
          exact ⟨fun q => ho (List.mem_singleton.mp q ▸ e1), fun q => ho (List.mem_singleton.mp q ▸ e2)⟩
        exact apart_of I (S := [y]) (by simp) (fun t ht => ⟨fun q => absurd q (key t ht).1, fun q => absurd q (key t ht).2⟩) h (List.mem_cons_self ..) (key u (List.mem_cons_self ..)).1 (key u (List.mem_cons_self ..)).2
      · obtain ⟨u, hu, e⟩ := ends_mem hz
        have : u.1 ∉ S ∧ u.2.1 ∉ S := by
          rcases e with rfl | rfl
          · exact ⟨hzS, fun q => hzS ((hc u hu).mpr q)⟩
          · exact ⟨fun q => hzS ((hc u hu).mp q), hzS⟩
        exact apart_of I hS hc h hu this.1 this.2
  | told => exact .inl rfl
/-! ### told twice -/
theorem fold_once {f : Str → Int} : ∀ (zs acc : List Str), (∀ a ∈ acc ++ zs, ∀ b ∈ acc ++ zs, f a = f b → a = b) → (zs.map f).foldl PyProof.Rows.step_dedup (acc.map f) = (zs.foldl addOnce acc).map f
  | [], acc, _ => rfl
  | z :: r, acc, h => by
    rw [List.map_cons, List.foldl_cons, List.foldl_cons]
    have e : PyProof.Rows.step_dedup (acc.map f) (f z) = (addOnce acc z).map f := by
      unfold PyProof.Rows.step_dedup addOnce
      have : (acc.map f).any (· == f z) = acc.any (· == z) := by
        rw [List.any_map, Bool.eq_iff_iff, List.any_eq_true, List.any_eq_true]
        constructor
        · rintro ⟨a, ha, q⟩
          have q : f a = f z := by simpa using q
          exact ⟨a, ha, by rw [h a (List.mem_append_left _ ha) z (List.mem_append_right _ (List.mem_cons_self ..)) q]; exact beq_self_eq_true z⟩
        · rintro ⟨a, ha, q⟩
          have q : a = z := by simpa using q
          exact ⟨a, ha, by rw [q]; exact beq_self_eq_true (f z)⟩
      rw [this]
      split
      · rfl
      · rw [List.map_append]
        rfl
    rw [e]
    refine fold_once r (addOnce acc z) fun a ha b hb => ?_
    have sub : ∀ x ∈ addOnce acc z ++ r, x ∈ acc ++ z :: r := fun x hx => by
      rcases List.mem_append.mp hx with hx | hx
      · unfold addOnce at hx
        split at hx
        · exact List.mem_append_left _ hx
        · rcases List.mem_append.mp hx with hx | hx
          · exact List.mem_append_left _ hx
          · rw [List.mem_singleton.mp hx]
            exact List.mem_append_right _ (List.mem_cons_self ..)
      · exact List.mem_append_right _ (List.mem_cons_of_mem _ hx)
    exact h a (sub a ha) b (sub b hb)
theorem once_len {zs : List Str} {f : Str → Int} (h : ∀ a ∈ zs, ∀ b ∈ zs, f a = f b → a = b) : (onceI (zs.map f)).length = (onceS zs).length := by
  have h1 := fold_once (f := f) zs [] (by simpa using h)
  unfold onceI PyProof.Rows.firstMet onceS
  have e : (List.range (zs.map f).length).map (fun i => (zs.map f).getD i 0) = zs.map f := by
    refine List.ext_getElem? fun i => ?_
    rw [List.getElem?_map]
    by_cases hi : i < (zs.map f).length
    · rw [List.getElem?_range hi, List.getElem?_eq_getElem hi]
      show some ((zs.map f).getD i 0) = _
      rw [List.getD_eq_getElem?_getD, List.getElem?_eq_getElem hi]
      rfl
    · rw [List.getElem?_eq_none (by rw [List.length_range]; omega), List.getElem?_eq_none (by omega)]
      rfl
  rw [e]
  have h1 : (zs.map f).foldl PyProof.Rows.step_dedup [] = _ := h1
  rw [h1, List.length_map]
theorem quest_law (I : Inv ns L D) {ws : List Str} {v : Str} (h : QuestW ws) (hv : QuestD ns L ws v) : QuestEnd ns D ws v := by
  cases hv with
  | @walk y v r hd =>
    cases h with
    | walk hy => exact quest_walk I hy hd
  | @oddName zs z hz hn =>
    cases h with
    | odd hm hl =>
      have lk := look_old (ns := ns) (w0 := "odd") (k := 1) (fresh_no (by decide +kernel) (by decide +kernel)) hm
      rw [if_neg fun q => hn (q z hz)] at lk
      exact .inr ⟨"NoName", mem_NoName, code_NoName.symm, .look (ok_odd_fine hm) lk⟩
  | @oddBad zs hin hlt =>
    cases h with
    | odd hm hl =>
      have lk := look_old (ns := ns) (w0 := "odd") (k := 1) (fresh_no (by decide +kernel) (by decide +kernel)) hm
      rw [if_pos hin] at lk
      refine .inr ⟨"BadTie", mem_BadTie, code_BadTie.symm, .ask ⟨ok_odd_fine hm, lk⟩ (.odd hin ?_)⟩
      rw [once_len (f := fun z => ((idx ns z : Nat) : Int)) fun a ha b hb e => idx_inj (hin a ha) (hin b hb) (Int.ofNat.inj e)]
      exact hlt
  | oddTold => exact .inl rfl
  | @row zs hr =>
    cases h with
    | wanted hm hl =>
      refine .inr ⟨"BadRow", mem_BadRow, code_BadRow.symm, .bad ?_⟩
      rcases hr with hr | hr
      · exact ok_wanted_len fun q => hr q.symm
      · refine ok_wanted_bad (z := "-1") ?_ (by decide +kernel)
        rcases List.mem_cons.mp hr with q | q
        · exact absurd q (by decide +kernel)
        · exact q
  | @many zs is hlen hno his hsum =>
    cases h with
    | wanted hm hl =>
      have hm2 : ∀ z ∈ zs, z = "1" ∨ z = "25" := fun z hz => by
        rcases hm z hz with q | q | q
        · exact .inl q
        · exact .inr q
        · exact absurd (List.mem_cons_of_mem _ (q ▸ hz)) hno
      refine .inr ⟨"TooMany", mem_TooMany, code_TooMany.symm, .many (ns := is) ⟨ok_wanted_fine hlen.symm fun z hz => ?_, look_none fun z hz => ?_⟩ his hsum⟩
      · rcases hm2 z hz with rfl | rfl <;> decide +kernel
      · rcases hm2 z hz with rfl | rfl <;> decide +kernel
  | told => exact .inl rfl
end
/-! ### rows -/
def WOk (z : Str) : Prop := noB z ∧ z.length ≤ 100
theorem wok_name {z : Str} (h : isName z = true) : WOk z := ⟨nb_name h, len_name h⟩
theorem wok_num {h : Int} (hh : h.natAbs < 10 ^ 60) : WOk (numS h) := ⟨num_noB, Nat.le_trans (numS_len hh) (by decide)⟩
theorem wnil : ∀ z ∈ ([] : List Str), WOk z := by simp
theorem wcons {a : Str} {l : List Str} (h : WOk a) (k : ∀ z ∈ l, WOk z) : ∀ z ∈ a :: l, WOk z := fun z hz => by
  rcases List.mem_cons.mp hz with q | q
  · rw [q]
    exact h
  · exact k z q
theorem row_ok2 {row : Str} {ws : List Str} (hne : ws ≠ []) (few : ws.length ≤ 100) (h : ∀ z ∈ ws, WOk z) (e : TL.tl row = TL.tl (ws.headD "") ++ ((ws.tail.map fun z => 32 :: TL.tl z).flatten)) : RowOk row ws := row_ok hne e (fun z hz => (h z hz).1) few fun z hz => (h z hz).2
theorem row_bad {ns ps : List Str} {row : Str} (hn : ∀ z ∈ ns, isName z = true) (hp : ∀ z ∈ ps, isName z = true) (hl : ns.length ≤ 50) (h : RowR ns ps true row) : BadW ns.length row := by
  have nm : ∀ {z : Str}, z ∈ ns ∨ z ∈ ps → isName z = true := fun h => h.elim (hn _) (hp _)
  cases h with
  | form hz => exact form_bad hl hz
  | broken hy hz hx => exact broken_bad (nm hy) (nm hz) _ _ hx
theorem row_fine {ns ps : List Str} {row : Str} (hn : ∀ z ∈ ns, isName z = true) (hp : ∀ z ∈ ps, isName z = true) (hl : ns.length ≤ 50) (h : RowR ns ps false row) : ∃ ws, RowOk row ws ∧ (DeedW ws ∨ QuestW ws) := by
  have nm : ∀ {z : Str}, z ∈ ns ∨ z ∈ ps → isName z = true := fun h => h.elim (hn _) (hp _)
  have c0 : TL.tl (" " : Str) = [32] := by decide +kernel
  have c1 : TL.tl ("point " : Str) = TL.tl ("point" : Str) ++ [32] := by decide +kernel
  have c2 : TL.tl ("tie " : Str) = TL.tl ("tie" : Str) ++ [32] := by decide +kernel
  have c3 : TL.tl ("untie " : Str) = TL.tl ("untie" : Str) ++ [32] := by decide +kernel
  have c4 : TL.tl ("gone " : Str) = TL.tl ("gone" : Str) ++ [32] := by decide +kernel
  have c5 : TL.tl ("rename " : Str) = TL.tl ("rename" : Str) ++ [32] := by decide +kernel
  have c6 : TL.tl ("walk " : Str) = TL.tl ("walk" : Str) ++ [32] := by decide +kernel
  have c7 : TL.tl ("odd " : Str) = TL.tl ("odd" : Str) ++ [32] := by decide +kernel
  have c8 : TL.tl (" zzzzzzzz" : Str) = 32 :: TL.tl ("zzzzzzzz" : Str) := by decide +kernel
  have c9 : TL.tl (" -1" : Str) = 32 :: TL.tl ("-1" : Str) := by decide +kernel
  have d1 : TL.tl (" 1" : Str) = 32 :: TL.tl ("1" : Str) := by decide +kernel
  have d2 : TL.tl (" 25" : Str) = 32 :: TL.tl ("25" : Str) := by decide +kernel
  have kw : ∀ {z : Str}, noB z → z.length ≤ 100 → WOk z := fun h k => ⟨h, k⟩
  cases h with
  | @point f hf =>
    exact ⟨["point", f], row_ok2 (by simp) (Nat.le_of_ble_eq_true rfl) (wcons ⟨by decide +kernel, by decide +kernel⟩ (wcons (wok_name (hp _ hf)) wnil)) (by simp only [TL.tl_append, List.headD_cons, List.tail_cons, List.map_cons, List.map_nil, List.flatten_cons, List.flatten_nil, c1, List.append_assoc, List.cons_append, List.nil_append, List.append_nil]), .inl (.point (hp _ hf))⟩
  | @tie y z h hy hz hh =>
    exact ⟨["tie", y, z, numS h], row_ok2 (by simp) (Nat.le_of_ble_eq_true rfl) (wcons ⟨by decide +kernel, by decide +kernel⟩ (wcons (wok_name (nm hy)) (wcons (wok_name (nm hz)) (wcons (wok_num hh) wnil)))) (by simp only [TL.tl_append, List.headD_cons, List.tail_cons, List.map_cons, List.map_nil, List.flatten_cons, List.flatten_nil, c0, c2, List.append_assoc, List.cons_append, List.nil_append, List.append_nil]), .inl (.tie (nm hy) (nm hz) hh)⟩
  | @untie y z hy hz =>
    exact ⟨["untie", y, z], row_ok2 (by simp) (Nat.le_of_ble_eq_true rfl) (wcons ⟨by decide +kernel, by decide +kernel⟩ (wcons (wok_name (nm hy)) (wcons (wok_name (nm hz)) wnil))) (by simp only [TL.tl_append, List.headD_cons, List.tail_cons, List.map_cons, List.map_nil, List.flatten_cons, List.flatten_nil, c0, c3, List.append_assoc, List.cons_append, List.nil_append, List.append_nil]), .inl (.untie (nm hy) (nm hz))⟩
  | @gone y hy =>
    exact ⟨["gone", y], row_ok2 (by simp) (Nat.le_of_ble_eq_true rfl) (wcons ⟨by decide +kernel, by decide +kernel⟩ (wcons (wok_name (nm hy)) wnil)) (by simp only [TL.tl_append, List.headD_cons, List.tail_cons, List.map_cons, List.map_nil, List.flatten_cons, List.flatten_nil, c4, List.append_assoc, List.cons_append, List.nil_append, List.append_nil]), .inl (.gone (nm hy))⟩
  | @rename y f hy hf =>
    exact ⟨["rename", y, f], row_ok2 (by simp) (Nat.le_of_ble_eq_true rfl) (wcons ⟨by decide +kernel, by decide +kernel⟩ (wcons (wok_name (nm hy)) (wcons (wok_name (hp _ hf)) wnil))) (by simp only [TL.tl_append, List.headD_cons, List.tail_cons, List.map_cons, List.map_nil, List.flatten_cons, List.flatten_nil, c0, c5, List.append_assoc, List.cons_append, List.nil_append, List.append_nil]), .inl (.rename (nm hy) (hp _ hf))⟩
  | @quest y z x hy hz hx =>
    have ny := nm hy
    have nz := nm hz
    have rwalk : RowOk ("walk " ++ y) ["walk", y] := row_ok2 (by simp) (Nat.le_of_ble_eq_true rfl) (wcons ⟨by decide +kernel, by decide +kernel⟩ (wcons (wok_name ny) wnil)) (by simp only [TL.tl_append, List.headD_cons, List.tail_cons, List.map_cons, List.map_nil, List.flatten_cons, List.flatten_nil, c6, List.append_assoc, List.cons_append, List.nil_append, List.append_nil])
    have rep : ∀ {k : Nat} {g : Str}, (g = "1" ∨ g = "25" ∨ g = "-1") → ∀ u ∈ List.replicate k g, u = "1" ∨ u = "25" ∨ u = "-1" := fun h u hu => by
      rw [(List.mem_replicate.mp hu).2]
      exact h
    unfold questW que0 que1 que2 at hx
    simp only [List.mem_append, List.mem_cons, List.not_mem_nil, or_false] at hx
    rcases hx with ((rfl | rfl | rfl | rfl) | (rfl | rfl | rfl)) | (rfl | rfl)
    · exact ⟨_, rwalk, .inr (.walk ny)⟩
    · exact ⟨["odd", y, y], row_ok2 (by simp) (Nat.le_of_ble_eq_true rfl) (wcons ⟨by decide +kernel, by decide +kernel⟩ (wcons (wok_name ny) (wcons (wok_name ny) wnil))) (by simp only [TL.tl_append, List.headD_cons, List.tail_cons, List.map_cons, List.map_nil, List.flatten_cons, List.flatten_nil, c0, c7, List.append_assoc, List.cons_append, List.nil_append, List.append_nil]), .inr (.odd (by simp [ny]) (by simp))⟩
    · refine ⟨_, want_row (k := ns.length + 1) (rest := []) (x := "1") d1 (by decide +kernel) (by decide +kernel) (by simp; omega) (by simp) (by rw [TL.tl_append, tl_rep]; simp), .inr (.wanted ?_ (by simp; omega))⟩
      rw [List.append_nil]
      exact rep (.inl rfl)
    · refine ⟨_, want_row (k := ns.length) (rest := []) (x := "25") d2 (by decide +kernel) (by decide +kernel) (by simp; omega) (by simp) (by rw [TL.tl_append, tl_rep]; simp), .inr (.wanted ?_ (by simp; omega))⟩
      rw [List.append_nil]
      exact rep (.inr (.inl rfl))
    · refine ⟨_, want_row (k := ns.length - 1) (rest := ["-1"]) (x := "1") d1 (by decide +kernel) (by decide +kernel) (by simp; omega) (fun u hu => by rw [List.mem_singleton.mp hu]; exact ⟨by decide +kernel, by decide +kernel⟩) (by rw [TL.tl_append, TL.tl_append, tl_rep, c9]; simp), .inr (.wanted (fun u hu => ?_) (by simp; omega))⟩
      rcases List.mem_append.mp hu with hu | hu
      · exact rep (.inl rfl) u hu
      · exact .inr (.inr (List.mem_singleton.mp hu))
    · exact ⟨["odd", y, "zzzzzzzz"], row_ok2 (by simp) (Nat.le_of_ble_eq_true rfl) (wcons ⟨by decide +kernel, by decide +kernel⟩ (wcons (wok_name ny) (wcons ⟨by decide +kernel, by decide +kernel⟩ wnil))) (by simp only [TL.tl_append, List.headD_cons, List.tail_cons, List.map_cons, List.map_nil, List.flatten_cons, List.flatten_nil, c7, c8, List.append_assoc, List.cons_append, List.nil_append, List.append_nil]), .inr (.odd (fun u hu => by
        simp only [List.mem_cons, List.not_mem_nil, or_false] at hu
        rcases hu with rfl | rfl
        · exact ny
        · decide +kernel) (by simp))⟩
    · exact ⟨_, rwalk, .inr (.walk ny)⟩
    · refine ⟨_, want_row (k := ns.length - 1) (rest := []) (x := "1") d1 (by decide +kernel) (by decide +kernel) (by simp; omega) (by simp) (by rw [TL.tl_append, tl_rep]; simp), .inr (.wanted ?_ (by simp; omega))⟩
      rw [List.append_nil]
      exact rep (.inl rfl)
    · exact ⟨["odd", y, z, y], row_ok2 (by simp) (Nat.le_of_ble_eq_true rfl) (wcons ⟨by decide +kernel, by decide +kernel⟩ (wcons (wok_name ny) (wcons (wok_name nz) (wcons (wok_name ny) wnil)))) (by simp only [TL.tl_append, List.headD_cons, List.tail_cons, List.map_cons, List.map_nil, List.flatten_cons, List.flatten_nil, c0, c7, List.append_assoc, List.cons_append, List.nil_append, List.append_nil]), .inr (.odd (by simp [ny, nz]) (by simp))⟩
end KD
set_option maxHeartbeats 2000000
/-! the whole law: what stands in memory while it runs -/
namespace KD
open PySem PySem.Spec PyProof.Rows L2 Evl
/-! ### the web as text -/
theorem srt_anti {a b : Tie} (h : lex3 (i3 a) (i3 b) = false) (k : lex3 (i3 b) (i3 a) = false) : a = b := by
  have h := lex3_not.mp h
  have k := lex3_not.mp k
  have h : ¬ ((a.1 : Int) < (b.1 : Int) ∨ ((a.1 : Int) = (b.1 : Int) ∧ ((a.2.1 : Int) < (b.2.1 : Int) ∨ ((a.2.1 : Int) = (b.2.1 : Int) ∧ a.2.2 < b.2.2)))) := h
  have k : ¬ ((b.1 : Int) < (a.1 : Int) ∨ ((b.1 : Int) = (a.1 : Int) ∧ ((b.2.1 : Int) < (a.2.1 : Int) ∨ ((b.2.1 : Int) = (a.2.1 : Int) ∧ b.2.2 < a.2.2)))) := k
  obtain ⟨a1, a2, a3⟩ := a
  obtain ⟨b1, b2, b3⟩ := b
  simp only at h k
  have e1 : a1 = b1 := by omega
  have e2 : a2 = b2 := by omega
  have e3 : a3 = b3 := by omega
  rw [e1, e2, e3]
theorem srt_unique : ∀ {us vs : List Tie}, us.Perm vs → Srt3 us → Srt3 vs → us = vs
  | [], vs, h, _, _ => (List.nil_perm.mp h).symm
  | a :: r, [], h, _, _ => absurd (List.perm_nil.mp h) (by simp)
  | a :: r, b :: s, h, h1, h2 => by
    obtain ⟨p1, p2⟩ := List.pairwise_cons.mp h1
    obtain ⟨q1, q2⟩ := List.pairwise_cons.mp h2
    have e : a = b := by
      have ha : a ∈ b :: s := h.mem_iff.mp (List.mem_cons_self ..)
      have hb : b ∈ a :: r := h.mem_iff.mpr (List.mem_cons_self ..)
      rcases List.mem_cons.mp ha with q | ha
      · exact q
      · rcases List.mem_cons.mp hb with q | hb
        · exact q.symm
        · exact srt_anti (q1 a ha) (p1 b hb)
    subst e
    rw [srt_unique ((List.perm_cons a).mp h) p2 q2]
theorem join_pos {s a : Str} {l : List Str} (h : 1 ≤ a.length) : (Txt.join s (a :: l)).length ≠ 0 := by
  rw [TL.len_tl, TL.join_eq, TL.tl_join, List.map_cons]
  have h : 1 ≤ (TL.tl a).length := by rw [← TL.len_tl]; exact h
  cases l with
  | nil =>
    show (TL.tl a).length ≠ 0
    omega
  | cons b r =>
    show (TL.tl a ++ _).length ≠ 0
    rw [List.length_append]
    omega
theorem dash_eq {ns : List Str} {us : List Tie} (hn : ∀ z ∈ ns, isName z = true) (h0 : ns = [] → us = []) : orDash (showT ns us) = if ns = [] then ("-" : Str) else showT ns us := by
  unfold orDash
  cases ns with
  | nil =>
    rw [h0 rfl, if_pos rfl]
    exact if_neg (by decide +kernel)
  | cons a r =>
    have h1 := (isName_iff.mp (hn a (List.mem_cons_self ..))).1.1
    have h2 : (showT (a :: r) us).length ≠ 0 := by
      unfold showT
      exact join_pos h1
    refine (if_pos ?_).trans (if_neg (by simp)).symm
    simpa using h2
theorem web_z {ns : List Str} {L : List LTie} {D us us' : List Tie} (I : Inv ns L D) (h : us.Perm D) (s : Srt3 us) (h' : us'.Perm (L.map (tieI ns))) (s' : Srt3 us') : orDash (showT ns us) = if ns = [] then ("-" : Str) else showT ns us' := by
  have e : us = us' := srt_unique (h.trans (I.perm.trans h'.symm)) s s'
  rw [← e]
  refine dash_eq I.nm fun q => ?_
  subst q
  cases hL : L with
  | nil =>
    have hp := I.perm
    rw [hL] at hp
    exact List.perm_nil.mp (h.trans hp)
  | cons t r =>
    have := (I.mem t (by rw [hL]; exact List.mem_cons_self ..)).1
    cases this
/-! ### what stands in memory -/
structure LawAt (K : PySem.W.Frag) (x y pa sa yn yt : Addr) (ps : List Str) (cs : List Int) (p0 : Str) (na ta nl tl : Addr) (dn : List Str) (D : List Tie) (ns : List Str) (L : List LTie) (H : Hp) : Prop where
  desk : DeskAt K H x nl tl dn D
  other : DeskAt K H y yn yt [p0] []
  nam : H na = some (.lst (strsV ns))
  tab : H ta = some (.dT (lawT L))
  pool : H pa = some (.lst (strsV ps))
  cel : H sa = some (.lst (cs.map V.int))
  d1 : na ≠ nl
  d2 : ta ≠ tl
  d3 : pa ≠ nl
  d4 : sa ≠ nl
  d5 : yn ≠ nl
  d6 : yt ≠ tl
  d7 : y ≠ x
section
variable {K : PySem.W.Frag} {x y pa sa yn yt na ta nl tl : Addr} {ps : List Str} {cs : List Int} {p0 : Str} {dn ns : List Str} {D : List Tie} {L : List LTie} {H H' : Hp}
theorem LawAt.mono (h : LawAt K x y pa sa yn yt ps cs p0 na ta nl tl dn D ns L H) (e : Ex H H') : LawAt K x y pa sa yn yt ps cs p0 na ta nl tl dn D ns L H' :=
  ⟨h.desk.mono e, h.other.mono e, e _ _ h.nam, e _ _ h.tab, e _ _ h.pool, e _ _ h.cel, h.d1, h.d2, h.d3, h.d4, h.d5, h.d6, h.d7⟩
theorem LawAt.did (h : LawAt K x y pa sa yn yt ps cs p0 na ta nl tl dn D ns L H) {tl' : Addr} {dn' : List Str} {D' : List Tie} (fr : ∀ b o, H b = some o → b ≠ x → b ≠ nl → b ≠ tl → H' b = some o) (htl : tl' = tl ∨ H tl' = none) (hd : DeskAt K H' x nl tl' dn' D') :
    LawAt K x y pa sa yn yt ps cs p0 na ta nl tl' dn' D' ns L H' := by
  obtain ⟨dx, hx, hn, ht⟩ := h.desk
  obtain ⟨dy, ox, on, ot⟩ := h.other
  have lst : ∀ {b : Addr} {xs : List V}, H b = some (.lst xs) → b ≠ nl → H' b = some (.lst xs) := fun hb hne => fr _ _ hb (ne_of hb hx (by intro z; cases z)) hne (ne_of hb ht (by intro z; cases z))
  have dct : ∀ {b : Addr} {kvs : List (List Key × V)}, H b = some (.dT kvs) → b ≠ tl → H' b = some (.dT kvs) := fun hb hne => fr _ _ hb (ne_of hb hx (by intro z; cases z)) (ne_of hb hn (by intro z; cases z)) hne
  have nt : ∀ {b : Addr} {o : HO}, H b = some o → b ≠ tl → b ≠ tl' := fun hb hne => by
    rcases htl with q | q
    · rw [q]
      exact hne
    · exact ne_of_none hb q
  exact ⟨hd, ⟨dy, fr _ _ ox h.d7 (ne_of ox hn (by intro z; cases z)) (ne_of ox ht (by intro z; cases z)), lst on h.d5, dct ot h.d6⟩, lst h.nam h.d1, dct h.tab h.d2, lst h.pool h.d3, lst h.cel h.d4, h.d1, nt h.tab h.d2, h.d3, h.d4, h.d5, nt ot h.d6, h.d7⟩
theorem LawAt.done (h : LawAt K x y pa sa yn yt ps cs p0 na ta nl tl dn D ns L H) (e : Ex H H') {na' ta' : Addr} {ns' : List Str} {L' : List LTie} (n0 : H na' = none) (t0 : H ta' = none) (hn : H' na' = some (.lst (strsV ns'))) (ht : H' ta' = some (.dT (lawT L'))) :
    LawAt K x y pa sa yn yt ps cs p0 na' ta' nl tl dn D ns' L' H' := by
  have h' := h.mono e
  obtain ⟨dx, hx, hnl, htl⟩ := h.desk
  exact ⟨h'.desk, h'.other, hn, ht, h'.pool, h'.cel, fun q => (ne_of_none hnl n0) q.symm, fun q => (ne_of_none htl t0) q.symm, h.d3, h.d4, h.d5, h.d6, h.d7⟩
end
section
variable {K : PySem.W.Frag} {σ : L2.St} {H : Hp} {D : Ends} {tz tu tw : TS} {t t1 t2 : TT} {te : TE} {ta : TA}
theorem ep_desk : EvP (tMk (He.ga K "Desk") (sp_Desk_init K) E0 tNil) σ H fun v H1 => ∃ x nl tl, v = .ref x ∧ H x = none ∧ H nl = none ∧ H tl = none ∧ DeskAt K H1 x nl tl [] [] := fun H1 e Q q => by
  intro x dx hx hdx hne
  have ex : Ex H1 (upd (upd H1 dx (.own x)) x (.ins (He.ga K "Desk") dx [])) := (Ex.new hdx).trans (Ex.new (by rw [upd_ne (Ne.symm hne)]; exact hx))
  exact ⟨x, dx, rfl, upd_same, fun nl tl H' fr n0 t0 hd => ⟨rfl, q _ H' (fun b o hb => fr b o (ex _ _ hb) (ne_of_none hb hx)) ⟨x, nl, tl, rfl, fresh_back e hx, fresh_back e (fresh_back ex n0), fresh_back e (fresh_back ex t0), hd⟩⟩⟩
theorem q_dropM {C : Addr} {m : Str} {sp : Sp} {E : XK} {a dx : Addr} {fs : List (Str × V)} {vs : List V} (ho : Ev te σ H (.ref a)) (hi : H a = some (.ins C dx fs)) (hl : fs.lookup m = none) (h : EvA ta σ H vs) (k : ∀ H1, Ex H H1 → sp (.ref a :: vs) H1 (fun _ H' => tz D σ H') E) : tSeq (tDrop (tM C m sp E te ta)) tz D σ H :=
  ho H (Ex.refl _) _ fun H1 e1 => ⟨a, dx, fs, rfl, e1 _ _ hi, hl, h H1 e1 _ fun H2 e2 => k H2 (e1.trans e2)⟩
theorem q_ifG (Γ : L2.St → Hp → Prop) {b : Bool} (h : EvT t σ H b) (h1 : b = true → ∀ H1, Ex H H1 → (∀ σ2 H2, Γ σ2 H2 → tz D σ2 H2) → tu { D with nx := tz D } σ H1) (h2 : b = false → ∀ H1, Ex H H1 → (∀ σ2 H2, Γ σ2 H2 → tz D σ2 H2) → tw { D with nx := tz D } σ H1) (k : ∀ σ2 H2, Γ σ2 H2 → tz D σ2 H2) : tSeq (tIfS t tu tw) tz D σ H :=
  q_if h (fun hb H1 e1 => h1 hb H1 e1 k) (fun hb H1 e1 => h2 hb H1 e1 k)
theorem q_ifAnd (Γ : Hp → Prop) {b1 : Bool} (h1 : EvT t1 σ H b1) (hf : b1 = false → ∀ H1, Ex H H1 → Γ H1) (ht : b1 = true → ∀ H1, Ex H H1 → ∀ Q : Bool → Hp → Prop, (∀ H2, Γ H2 → Q false H2) → t2 σ H1 Q) (k : ∀ H1, Γ H1 → tz D σ H1) : tSeq (tIfS (tAnd t1 t2) tu tNext) tz D σ H :=
  h1 H (Ex.refl _) _ fun H1 e1 => by
    cases b1 with
    | false => exact k H1 (hf rfl H1 e1)
    | true => exact ht rfl H1 e1 _ fun H2 h2 => k H2 h2
theorem said_ne {Q : Bool → Hp → Prop} {a b : Str} {i : Nat} (hi : σ[i]? = some (some (.str b))) (k : ∀ H2, Ex H H2 → Q (!decide (a = b)) H2) : (tVar i) σ H (fun y H2 => rNe (.str a) y H2 fun v H3 => ∃ c, v = .bl c ∧ Q c H3) :=
  (ev_var hi) H (Ex.refl _) _ fun H1 e1 => rv_neS H1 (Ex.refl _) _ fun H2 e2 => ⟨_, rfl, k H2 (e1.trans e2)⟩
end
section
variable {ns : List Str} {L : List LTie} {D : List Tie}
def OutR (ns : List Str) (L : List LTie) (D : List Tie) (ws : List Str) (due : Str) : Prop := due = "told" ∨ (∃ e ∈ errN, due = codeOf e ∧ SayR ns D ws (.no e)) ∨
  ∃ ns' L' D', due = "ok" ∧ DoneR ns L ws ns' L' ∧ SayR ns D ws (.did ns' D') ∧ Inv ns' L' D' ∧ L'.length ≤ L.length + 1
theorem OutR.deed {ws : List Str} {due : Str} (h : DeedEnd ns L D ws due) : OutR ns L D ws due := by
  rcases h with h | h
  · exact .inr (.inr h)
  · exact .inr (.inl h)
theorem OutR.quest {ws : List Str} {v : Str} (h : QuestEnd ns D ws v) : OutR ns L D ws v := by
  rcases h with h | h
  · exact .inl h
  · exact .inr (.inl h)
theorem code_ne : ∀ e ∈ errN, codeOf e ≠ "told" ∧ codeOf e ≠ "ok" := by decide +kernel
end
end KD
set_option maxHeartbeats 2000000
/-! the whole law walked -/
namespace KD
open PySem PySem.Spec PyProof.Rows L2 Evl
section
variable {P : Program} {w : World} {K : PySem.W.Frag} {mg : Str → Option Value} {base : Heap}
/-- the desk asked for its web -/
theorem ep_web {te : TE} {σ : L2.St} {H : Hp} {x nl tl : Addr} {ns : List Str} {D : List Tie} {E : XK} (ho : Ev te σ H (.ref x)) (hd : DeskAt K H x nl tl ns D) (hok : DeskOk ns D) : EvP (tM (He.ga K "Desk") "say" (sp_Desk_say K) E te (tCons (L2.tC (.str "web")) tNil)) σ H fun v _ => ∃ us, v = .str (orDash (showT ns us)) ∧ us.Perm D ∧ Srt3 us := by
  obtain ⟨dx, hx, hn, ht⟩ := hd
  have hrow : RowOk "web" ["web"] := row_ok2 (by simp) (by decide) (wcons ⟨by decide +kernel, by decide +kernel⟩ wnil) (by simp)
  exact ep_tM ho hx rfl (ea_cons ev_c ea_nil) fun H1 e1 Q q E => ⟨x, nl, tl, ns, _, D, _, .shown, rfl, ⟨dx, e1 _ _ hx, e1 _ _ hn, e1 _ _ ht⟩, hok, hrow, .web, fun us hp hs H2 e2 => q _ H2 e2 ⟨us, rfl, hp, hs⟩⟩
theorem ev_opP {r : R2} {ta tb : TE} {σ : L2.St} {H : Hp} {Φ : V → Hp → Prop} {z : V} (ha : EvP ta σ H Φ) (hb : ∀ v H1, Ex H H1 → Φ v H1 → ∃ u, Ev tb σ H1 u ∧ ∀ H2, RV r v u H2 z) : Ev (tOp r ta tb) σ H z := fun H1 e Q q =>
  ha H1 e _ fun v H2 e2 hv => by
    obtain ⟨u, h1, h2⟩ := hb v H2 (e.trans e2) hv
    exact h1 H2 (Ex.refl _) _ fun H3 e3 => h2 H3 H3 (Ex.refl _) Q fun H4 e4 => q H4 ((e2.trans e3).trans e4)
def sp_law (K : PySem.W.Frag) : Sp := fun vs H Q _ => ∃ (a : Addr) (xs : List Int), vs = [.ref a] ∧ SqL K H a (xs.map V.int) ∧ xs.length ≤ 63 ∧ ∀ H', Q (.bl true) H'
theorem fn0 {f : Addr} {fd : FuncData} {x qual : Str} {st : Stmt} {N ps : List Str} {k : Nat} {sp : Sp} (F : FunD K x qual (defArgs st) (defBody st) (defScope st) [] [] f fd) (S : FnScope N ps (defScope st)) (len : ∀ vs H Q E, sp vs H Q E → vs.length = ps.length)
    (body : ∀ (f : Addr) (cdv : Value) (A : Around) (outer : List Env) (s : Shared) (H : Hp) (vs : List V) (Q : VK) (E : XK), Room k (A.deeper (envOfC qual (defScope st) s.heap.objs.size f cdv)) → sp vs H Q E →
      ∃ t, PSs (cxOf CX0 P w K mg base N qual (defScope st) f cdv A outer s H E).nox (defBody st) t ∧ t { nx := fun _ H' => Q .non H', rt := Q } (start N vs) H) : FnOk P w K mg base CX0 (k + 1) f fd ps sp :=
  F.ok S len fun cdv A outer s H vs Q E hr h => by
    obtain ⟨t, h1, h2⟩ := body _ cdv A outer s H vs Q E hr h
    exact ⟨t, h1.nox, h2⟩
theorem fn_law (T : Txt w K mg) {fl : Addr} {fd : FuncData} (F : FunD K "law" "law" (defArgs s_law) (defBody s_law) (defScope s_law) [] [] fl fd) : FnOk P w K mg base CX0 13 fl fd ["_law_script"] (sp_law K) := by
  have c_l_cell_at := ok_l_cell_at (P := P) (base := base) T
  have c_l_mixed := ok_l_mixed (P := P) (base := base) T
  have c_l_pool := ok_l_pool (P := P) (base := base) T
  have c_Desk_init := ok_Desk_init (P := P) (base := base) T
  have c_Desk_say := ok_Desk_say (P := P) (base := base) T
  have c_l_row := ok_l_row (P := P) (base := base) T
  have c_l_question_due := ok_l_question_due (P := P) (base := base) T
  have c_l_due := ok_l_due (P := P) (base := base) T
  have c_l_said := ok_l_said (P := P) (base := base) T
  have c_l_done := ok_l_done (P := P) (base := base) T
  have c_l_web := ok_l_web (P := P) (base := base) T
  have c_l_bound_right := ok_l_bound_right (P := P) (base := base) T
  refine fn0 F sc_law (fun vs H Q E h => by obtain ⟨_, _, rfl, _⟩ := h; rfl) fun f cdv A outer s H vs Q E hr h => ?_
  have nd := sc_law.nd
  have hu := hu_of hr
  have hu64 := hr.units
  refine ⟨_, (pss_cons (ps_set (i := 1) nd rfl (Or.inl rfl) (pe_op op_modN (pc c_l_cell_at hr (by decide) T.g_l_cell_at (pa_cons (pv 0) (pa_cons pe_int pa_nil))) pe_int))
 (pss_cons (ps_set (i := 2) nd rfl (Or.inl rfl) (pc c_l_pool hr (by decide) T.g_l_pool (pa_cons (pc c_l_mixed hr (by decide) T.g_l_mixed (pa_cons (pv 1) (pa_cons pe_int pa_nil))) (pa_cons (pe_op op_add pe_int (pe_op op_modN (pv 1) pe_int)) pa_nil))))
 (pss_cons (ps_set (i := 3) nd rfl (Or.inl rfl) (pcMk0 T.mk_Desk T.g_Desk c_Desk_init hr (by decide)))
 (pss_cons (ps_set (i := 4) nd rfl (Or.inl rfl) (pcMk0 T.mk_Desk T.g_Desk c_Desk_init hr (by decide)))
 (pss_cons (ps_expr (pxm T.k_Desk T.m_Desk_say c_Desk_say hr (by decide) (takesE0) (pv 4) (pa_cons (pe_op op_add_str pe_str (pe_ix ix_list (pv 2) pe_int (fun _ _ => rfl))) pa_nil)))
 (pss_cons (ps_set (i := 5) nd rfl (Or.inl rfl) (pe_lst pa_nil))
 (pss_cons (ps_set (i := 6) nd rfl (Or.inl rfl) pe_dnewT)
 (pss_cons (ps_for PassesOwn.never rfl (pi_list (pe_slice sl_list (pv 0) po_none (po_some pe_int))) (pg_name (i := 7) nd rfl (Or.inl rfl)) (pss_cons (ps_set (i := 8) nd rfl (Or.inl rfl) (pc c_l_row hr (by decide) T.g_l_row (pa_cons (pv 5) (pa_cons (pv 2) (pa_cons (pv 7) pa_nil)))))
 (pss_cons (ps_set (i := 9) nd rfl (Or.inl rfl) (pe_split (pv 8) pe_str))
 (pss_cons (ps_if (pt_cmpR op_eq (pe_op op_modN (pe_op op_fdivN (pc c_l_mixed hr (by decide) T.g_l_mixed (pa_cons (pv 7) (pa_cons pe_int pa_nil))) pe_int) pe_int) pe_int (nomark _)) (pss_one (ps_set (i := 10) nd rfl (Or.inl rfl) pe_str)) (pss_one (ps_if (pt_cmpR op_in_seq (pe_ix ix_list (pv 9) pe_int (fun _ _ => rfl)) (pe_lst (pa_cons pe_str (pa_cons pe_str (pa_cons pe_str pa_nil)))) rfl) (pss_one (ps_set (i := 10) nd rfl (Or.inl rfl) (pc c_l_question_due hr (by decide) T.g_l_question_due (pa_cons (pv 5) (pa_cons (pv 6) (pa_cons (pv 9) pa_nil)))))) (pss_one (ps_set (i := 10) nd rfl (Or.inl rfl) (pc c_l_due hr (by decide) T.g_l_due (pa_cons (pv 5) (pa_cons (pv 6) (pa_cons (pv 9) pa_nil)))))))))
 (pss_cons (ps_if (PW.pt (pw_and (pt_cmpR op_ne (pv 10) pe_str (nomark _)) (pw_and1 (pt_cmpR op_ne (pc c_l_said hr (by decide) T.g_l_said (pa_cons (pv 3) (pa_cons (pv 8) pa_nil))) (pv 10) (nomark _))))) (pss_one (ps_ret pe_bl)) pss_nil)
 (pss_cons (ps_if (pt_cmpR op_eq (pv 10) pe_str (nomark _)) (pss_one (ps_asg (pc c_l_done hr (by decide) T.g_l_done (pa_cons (pv 5) (pa_cons (pv 6) (pa_cons (pv 9) pa_nil)))) (pg_tup rfl (pgs_cons (pg_name (i := 5) nd rfl (Or.inl rfl)) (pgs_cons (pg_name (i := 6) nd rfl (Or.inl rfl)) pgs_nil))))) pss_nil)
 (pss_cons (ps_set (i := 11) nd rfl (Or.inl rfl) (pxm T.k_Desk T.m_Desk_say c_Desk_say hr (by decide) (takesE0) (pv 3) (pa_cons pe_str pa_nil)))
 (pss_one (ps_if (PW.pt (pw_or (pt_not (pt_val (pe_callB call_isi (by rfl) T.n_isinstance (by decide +kernel) (pa_cons (pv 11) (pa_cons (pe_bltn (v := .ty "str") (by rfl) T.n_str (by decide +kernel) rfl) pa_nil))))) (pw_or1 (pt_cmpR op_ne (pv 11) (pc c_l_web hr (by decide) T.g_l_web (pa_cons (pv 5) (pa_cons (pv 6) pa_nil))) (nomark _))))) (pss_one (ps_ret pe_bl)) pss_nil)))))))))
 (pss_cons (ps_if (pt_not (pt_val (pc c_l_bound_right hr (by decide) T.g_l_bound_right (pa_cons (pv 3) (pa_cons (pv 5) pa_nil))))) (pss_one (ps_ret pe_bl)) pss_nil)
 (pss_one (ps_ret (pe_and (pe_cmpR op_eq (pxm T.k_Desk T.m_Desk_say c_Desk_say hr (by decide) (takesE0) (pv 4) (pa_cons pe_str pa_nil)) (pe_ix ix_list (pv 2) pe_int (fun _ _ => rfl)) (nomark _)) (pe_one (pe_cmpR op_eq (pxm T.k_Desk T.m_Desk_say c_Desk_say hr (by decide) (takesE0) (pv 3) (pa_cons pe_str pa_nil)) (pc c_l_web hr (by decide) T.g_l_web (pa_cons (pv 5) (pa_cons (pv 6) pa_nil))) (nomark _))))))))))))))), ?_⟩
  try dsimp only [cxOf, L2.Cx.nox, L2.Cx.blk]
  obtain ⟨a, xs, rfl, hxs, hl, hq⟩ := h
  refine q_asg (v := .int ((cellAt xs 0).fmod 1000003)) (ev_op (ev_tC (ea_cons (ev_var rfl) (ea_cons ev_c ea_nil)) (fun H1 e1 Q1 q1 E1 => ⟨a, xs, 0, rfl, ex_l e1 hxs, by omega, q1⟩)) ev_c (rv_R (by decide))) fun H1 e1 => ?_
  generalize (cellAt xs 0).fmod 1000003 = hd
  obtain ⟨m14, hm14, em⟩ := fmod_nat (h := hd) (n := 14) (by decide)
  have hpool : SpP sp_l_pool [.int (mixed hd 1812433253), .int ((3 + m14 : Nat) : Int)] H1 (fun v H2 => ∃ p ps, v = .ref p ∧ H1 p = none ∧ H2 p = some (.lst (strsV ps)) ∧ PoolOk ps) := fun H2 e2 Q q E => ⟨mixed hd 1812433253, 3 + m14, rfl, (mixed_lt _ _).1, (mixed_lt _ _).2, by omega, by omega, fun p ps H' hp eH hps hok => q _ H' eH ⟨p, ps, rfl, fresh_back e2 hp, hps, hok⟩⟩
  refine q_asgP (ep_tC (ea_cons (ev_tC (ea_cons (ev_var rfl) (ea_cons ev_c ea_nil)) (spv_mixed (by decide))) (ea_cons (ev_is (ev_op ev_c (ev_op (ev_var rfl) ev_c (rv_R (by decide))) rv_I0) (congrArg V.int (by rw [show hd.fmod 14 = (m14 : Int) from em]; omega))) ea_nil)) hpool) fun v H2 e2 hv => ?_
  obtain ⟨pa, ps, rfl, pa0, hpa, hps⟩ := hv
  obtain ⟨p0, pr, rfl⟩ : ∃ p0 pr, ps = p0 :: pr := by
    cases ps with
    | nil => exact absurd hps.p2 (by simp)
    | cons p r => exact ⟨p, r, rfl⟩
  have hp0 : isName p0 = true := hps.pm p0 (List.mem_cons_self ..)
  have e02 := e1.trans e2
  refine q_asgP ep_desk fun v H3 e3 hv => ?_
  obtain ⟨x, nl0, tl0, rfl, x0, nl00, tl00, hdx⟩ := hv
  refine q_asgP ep_desk fun v H4 e4 hv => ?_
  obtain ⟨y, yn, yt0, rfl, y0, yn0, yt00, hdy⟩ := hv
  have e24 := e3.trans e4
  have p0len : p0.length ≤ 8 := (isName_iff.mp hp0).1.2
  have hadd : ("point " : Str).length + p0.length ≤ sizeLine := by
    have h1 : ("point " : Str).length = 6 := by decide
    have h2 : (1000 : Nat) ≤ sizeLine := by decide
    omega
  have hpt : RowOk ("point " ++ p0) ["point", p0] := row_ok2 (by simp) (Nat.le_of_ble_eq_true rfl) (wcons ⟨by decide +kernel, by decide +kernel⟩ (wcons (wok_name hp0) wnil)) (by
    have c1 : TL.tl ("point " : Str) = TL.tl ("point" : Str) ++ [32] := by decide +kernel
    simp only [TL.tl_append, List.headD_cons, List.tail_cons, List.map_cons, List.map_nil, List.flatten_cons, List.flatten_nil, c1, List.append_assoc, List.cons_append, List.nil_append, List.append_nil])
  have hsay : SayR [] [] ["point", p0] (.did [p0] []) := .chg ⟨okd_n (by decide +kernel) (by decide +kernel) (by decide +kernel) hp0, by
    show lookRes [] "point" 1 [p0] = none
    rw [look_cons, look_one hp0, if_pos (by decide +kernel), if_neg (by simp)]
    rfl⟩ (.point (by decide))
  obtain ⟨dy, hy4, hyn4, hyt4⟩ := hdy
  refine q_dropM (ev_var rfl) hy4 rfl (ea_cons (ev_op ev_c (ev_op (ev_var rfl) ev_c (rv_ixLn (j := 0) (sq_of (e24 _ _ hpa)) (strs_at' rfl))) (rv_addS hadd)) ea_nil) fun H5 e5 => ⟨y, yn, yt0, [], _, [], _, .did [p0] [], rfl, ⟨dy, e5 _ _ hy4, e5 _ _ hyn4, e5 _ _ hyt4⟩, inv_nil.desk, hpt, hsay, fun yt H6 fr hyt hdy6 => ?_⟩
  -- the names, the table
  have hpa6 : H6 pa = some (.lst (strsV (p0 :: pr))) := by
    have h3 := e3 _ _ hpa
    have h5 := e5 _ _ (e4 _ _ h3)
    exact fr _ _ h5 (ne_of_none h3 y0) (ne_of_none h3 yn0) (ne_of_none h3 yt00)
  have hdx6 : DeskAt K H6 x nl0 tl0 [] [] := by
    obtain ⟨dx, i1, i2, i3⟩ := hdx
    have k : ∀ {b : Addr} {o : HO}, H3 b = some o → H6 b = some o := fun h3 => fr _ _ (e5 _ _ (e4 _ _ h3)) (ne_of_none h3 y0) (ne_of_none h3 yn0) (ne_of_none h3 yt00)
    exact ⟨dx, k i1, k i2, k i3⟩
  have f06 : Ex H H6 := fun b o hb => by
    have h3 := e3 _ _ (e02 _ _ hb)
    exact fr _ _ (e5 _ _ (e4 _ _ h3)) (ne_of_none h3 y0) (ne_of_none h3 yn0) (ne_of_none h3 yt00)
  have yx : y ≠ x := fun q => by
    obtain ⟨dx, i1, _⟩ := hdx
    exact (ne_of_none i1 y0) q.symm
  have ynl : yn ≠ nl0 := fun q => by
    obtain ⟨dx, _, i2, _⟩ := hdx
    exact (ne_of_none i2 yn0) q.symm
  have ytl : yt ≠ tl0 := fun q => by
    obtain ⟨dx, _, _, i3⟩ := hdx
    rcases hyt with h | h
    · exact (ne_of_none i3 yt00) (q.symm.trans h)
    · exact (ne_of_none (e5 _ _ (e4 _ _ i3)) h) q.symm
  have panl : pa ≠ nl0 := fun q => (ne_of_none hpa nl00) q
  have hxs6 := ex_l f06 hxs
  clear hdx hpa hy4 hyn4 hyt4 fr hyt
  refine q_asgL (xs := strsV []) (el_lst ea_nil (Nat.le_of_ble_eq_true rfl)) fun na7 H7 na70 e7 hna7 => ?_
  refine q_asgP ep_newT fun v H8 e8 hv => ?_
  obtain ⟨ta8, rfl, ta80, hta8⟩ := hv
  have e68 := e7.trans e8
  let cs := xs.take 63
  have hsl : EvL (tSl (rSlL K) (tVar 0) tNoPart (tPart (L2.tC (.int 63)))) [some (.ref a), some (.int hd), some (.ref pa), some (.ref x), some (.ref y), some (.ref na7), some (.ref ta8), none, none, none, none, none] H8 (cs.map V.int) := el_is (el_sl (K := K) (lo := none) (hi := some ((63 : Nat) : Int)) (ev_var rfl) eo_none (eo_some ev_c) (ex_l e68 hxs6)) (by rw [cutV_to, ← List.map_take])
  have cl : cs.length ≤ 63 := by
    show (xs.take 63).length ≤ 63
    rw [List.length_take]
    omega
  refine q_forNLn (xs := cs.map V.int) hsl (fun sa i σ' H' => ∃ na ta nl tl ns L D s7 s8 s9 s10 s11, σ' = [some (.ref a), some (.int hd), some (.ref pa), some (.ref x), some (.ref y), some (.ref na), some (.ref ta), s7, s8, s9, s10, s11] ∧ LawAt K x y pa sa yn yt (p0 :: pr) cs p0 na ta nl tl ns D ns L H' ∧ Inv ns L D ∧ L.length ≤ i) (fun sa H9 sa0 e9 hsa => ?h0) (fun sa i σ' H' hi pv => ?hG) (fun sa i xv σ' H' hx pv => ?hs) fun sa σ' H' pv => ?hd
  case h0 =>
    have e69 := e68.trans e9
    have hdx9 := hdx6.mono e69
    obtain ⟨dx, i1, i2, i3⟩ := hdx6
    refine ⟨na7, ta8, nl0, tl0, [], [], [], none, none, none, none, none, rfl, ⟨hdx9, hdy6.mono e69, e9 _ _ (e8 _ _ hna7), e9 _ _ hta8, e69 _ _ hpa6, hsa, fun q => (ne_of_none i2 na70) q.symm, fun q => (ne_of_none (e7 _ _ i3) ta80) q.symm, panl, fun q => (ne_of_none (e68 _ _ i2) sa0) q.symm, ynl, ytl, yx⟩, inv_nil, Nat.le_refl _⟩
  case hG =>
    obtain ⟨na, ta, nl, tl, ns, L, D, s7, s8, s9, s10, s11, rfl, hA, _, _⟩ := pv
    exact sq_of hA.cel
  case hd =>
    obtain ⟨na, ta, nl, tl, ns, L, D, s7, s8, s9, s10, s11, rfl, hA, I, _⟩ := pv
    refine q_when (b := false) (et_is (et_not (et_B (ev_tC (sp := sp_l_bound_right K) (z := .bl true) (ea_cons (ev_var rfl) (ea_cons (ev_var rfl) ea_nil)) fun H9 e9 Q9 q9 E9 => ⟨x, nl, tl, na, ns, D, rfl, hA.desk.mono e9, I.desk, e9 _ _ hA.nam, I.nm, q9⟩))) rfl) (fun hb => by cases hb) fun _ H9 e9 => ?_
    have hB := hA.mono e9
    have hok0 : DeskOk [p0] [] := ⟨by simp, Nat.le_of_ble_eq_true rfl, fun z hz => by rw [List.mem_singleton.mp hz]; exact p0len, ⟨by simp, by simp, by simp⟩, by simp⟩
    refine s_ret (v := .bl true) (ev_is (ev_andV (a := true) (ev_opP (ep_web (ev_var rfl) hB.other hok0) fun v H10 e10 hv => ?w1) fun _ => ev_opP (z := .bl true) (ep_web (ev_var rfl) hB.desk I.desk) fun v H10 e10 hv => ?w2) rfl) fun H10 e10 => hq _
    case w1 =>
      obtain ⟨us, rfl, hp, hs⟩ := hv
      refine ⟨.str p0, ev_op (ev_var rfl) ev_c (rv_ixLn (j := 0) (sq_of (e10 _ _ hB.pool)) (strs_at' rfl)), fun H11 => ?_⟩
      have e : orDash (showT [p0] us) = p0 := by
        rw [List.perm_nil.mp hp, dash_eq (by simpa using hp0) (by simp), if_neg (by simp)]
        exact TL.ext_tl (by
          show TL.tl (Txt.join ", " [p0]) = _
          rw [TL.join_eq, TL.tl_join]
          rfl)
      rw [e]
      have g := rv_eqS (a := p0) (b := p0) (H := H11)
      rwa [decide_eq_true rfl] at g
    case w2 =>
      obtain ⟨us, rfl, hp, hs⟩ := hv
      refine ⟨.str (orDash (showT ns us)), ev_tC (sp := sp_l_web K) (ea_cons (ev_var rfl) (ea_cons (ev_var rfl) ea_nil)) fun H11 e11 Q11 q11 E11 => ⟨na, ta, ns, L, rfl, (e10.trans e11) _ _ hB.nam, (e10.trans e11) _ _ hB.tab, I.law, fun us' hp' hs' H12 e12 => ?_⟩, fun H11 => ?_⟩
      · rw [← web_z I hp hs hp' hs']
        exact q11 _ e12
      · have g := rv_eqS (a := orDash (showT ns us)) (b := orDash (showT ns us)) (H := H11)
        rwa [decide_eq_true rfl] at g
  case hs =>
    obtain ⟨na, ta, nl, tl, ns, L, D, s7, s8, s9, s10, s11, rfl, hA, I, hLi⟩ := pv
    rw [List.getElem?_map] at hx
    obtain ⟨c, hc, rfl⟩ := Option.map_eq_some_iff.mp hx
    have hi63 : i < 63 := by
      have := (List.getElem?_eq_some_iff.mp hc).1
      omega
    have hrow : SpP (sp_l_row K) [.ref na, .ref pa, .int c] H' (fun v _ => ∃ z, v = .str z ∧ RowR ns (p0 :: pr) (decide (wayOf c = 15)) z) := fun H2 e2 Q q E => ⟨na, pa, ns, p0 :: pr, c, rfl, sq_of (e2 _ _ hA.nam), sq_of (e2 _ _ hA.pool), ⟨I.nm, by have := I.nl; omega, hps.pm, by simp, by have := hps.pl; omega⟩, fun z hz H3 e3 => q _ H3 e3 ⟨z, rfl, hz⟩⟩
    refine q_asgP (ep_tC (ea_cons (ev_var rfl) (ea_cons (ev_var rfl) (ea_cons (ev_var rfl) ea_nil))) hrow) fun v H1 f1 hv => ?_
    obtain ⟨row, rfl, hR⟩ := hv
    have hw : ∃ ws, RowOk row ws ∧ ((wayOf c = 15 ∧ okWords ws ns.length = false) ∨ (wayOf c ≠ 15 ∧ (DeedW ws ∨ QuestW ws))) := by
      by_cases h15 : wayOf c = 15
      · rw [decide_eq_true h15] at hR
        obtain ⟨ws, h1, h2⟩ := row_bad I.nm hps.pm (by have := I.nl; omega) hR
        exact ⟨ws, h1, .inl ⟨h15, h2⟩⟩
      · rw [decide_eq_false h15] at hR
        obtain ⟨ws, h1, h2⟩ := row_fine I.nm hps.pm (by have := I.nl; omega) hR
        exact ⟨ws, h1, .inr ⟨h15, h2⟩⟩
    obtain ⟨ws, hro, hcase⟩ := hw
    have l20 : row.length + 2 ≤ sizeLine := by
      have := hro.len
      have : (20000 : Nat) ≤ sizeLine := by decide
      omega
    refine q_asgL (xs := strsV ws) (el_is (el_tM1 (ev_var rfl) ev_c (rml_split (by decide) l20)) (by rw [hro.split]; rfl)) fun wl H2 wl0 f2 hwl => ?_
    have f12 := f1.trans f2
    have d16 : (16 : Int) ≠ 0 ∧ (16 : Int).natAbs < 1073741824 := ⟨by decide, by decide⟩
    refine q_ifG (fun σ2 H3 => ∃ due, σ2 = [some (.ref a), some (.int hd), some (.ref pa), some (.ref x), some (.ref y), some (.ref na), some (.ref ta), some (.int c), some (.str row), some (.ref wl), some (.str due), s11] ∧ Ex H2 H3 ∧ OutR ns L D ws due ∧ (due = "ok" → ∀ z ∈ ws, z.length ≤ 640)) (b := decide (wayOf c = 15)) (et_test (ev_op (ev_op (ev_op (ev_tC (ea_cons (ev_var rfl) (ea_cons ev_c ea_nil)) (spv_mixed (by decide))) ev_c (rv_R d16)) ev_c (rv_R (by decide))) ev_c rv_eqI)) (fun hb H3 f3 kk => ?i1) (fun hb H3 f3 kk => ?i2) fun σ2 H3 hg => ?i3
    case i1 =>
      have h15 := of_decide_eq_true hb
      refine s_asg (v := .str "row") ev_c fun H4 f4 => kk _ _ ⟨"row", rfl, f3.trans f4, .inr (.inl ⟨"BadRow", mem_BadRow, code_BadRow.symm, .bad ?_⟩), fun h => absurd h (by decide +kernel)⟩
      rcases hcase with h | h
      · exact h.2
      · exact absurd h15 h.1
    case i2 =>
      have n15 := of_decide_eq_false hb
      have hcase : DeedW ws ∨ QuestW ws := by
        rcases hcase with h | h
        · exact absurd h.1 n15
        · exact h.2
      have hwl3 := f3 _ _ hwl
      have na3 := (f12.trans f3) _ _ hA.nam
      have ta3 := (f12.trans f3) _ _ hA.tab
      have tst : ∀ {w0 : Str} {r : List Str}, ws = w0 :: r → EvT (tTest (tOp (rIn K false) (tOp (rIxL K) (tVar 9) (L2.tC (.int 0))) (tLst (tCons (L2.tC (.str "walk")) (tCons (L2.tC (.str "odd")) (tCons (L2.tC (.str "wanted")) tNil)))))) [some (.ref a), some (.int hd), some (.ref pa), some (.ref x), some (.ref y), some (.ref na), some (.ref ta), some (.int c), some (.str row), some (.ref wl), s10, s11] H3 (decide (w0 ∈ (["walk", "odd", "wanted"] : List Str))) := fun hws => by
        rw [hws] at hwl3
        exact et_test (ev_is (ev_opL (xs := strsV ["walk", "odd", "wanted"]) (ev_wd 0 (ev_var rfl) (sq_of hwl3) rfl rfl) (el_lst (ea_cons ev_c (ea_cons ev_c (ea_cons ev_c ea_nil))) (Nat.le_of_ble_eq_true rfl)) fun p H11 hp e11 => rv_isL (sq_of hp) rfl (flat_strs _)) (congrArg V.bl (inV_strs _ _)))
      rcases hcase with hD | hQ
      · obtain ⟨w0, w1, rest, hws, hw3, hw4, hw5, hend⟩ := deed_law I (by omega) hD
        refine s_if (et_is (tst hws) (decide_eq_false hw4)) (fun hb => by cases hb) fun _ H4 f4 => ?_
        have hwl4 := f4 _ _ hwl3
        rw [hws] at hwl4
        refine s_asg (v := .str (dueOf ns L w0 w1 (rest.headD ""))) (ev_tC (sp := sp_l_due K) (ea_cons (ev_var rfl) (ea_cons (ev_var rfl) (ea_cons (ev_var rfl) ea_nil))) fun H5 f5 Q5 q5 E5 => ⟨na, ta, wl, ns, L, w0, w1, rest, rfl, sq_of ((f4.trans f5) _ _ na3), (f4.trans f5) _ _ ta3, sq_of (f5 _ _ hwl4), hw3, q5⟩) fun H5 f5 => kk _ _ ⟨_, rfl, (f3.trans f4).trans f5, .deed hend, fun _ => hw5⟩
      · obtain ⟨hqo, hq100, w0, r, hws, hw4⟩ := quest_ok hQ
        refine s_if (et_is (tst hws) (decide_eq_true hw4)) (fun _ H4 f4 => ?_) (fun hb => by cases hb)
        have hm : SpP (sp_l_question_due K) [.ref na, .ref ta, .ref wl] H4 (fun v _ => ∃ z, v = .str z ∧ QuestD ns L ws z) := fun H5 f5 Q5 q5 E5 => ⟨na, ta, wl, ns, L, ws, rfl, (f4.trans f5) _ _ na3, (f4.trans f5) _ _ ta3, (f4.trans f5) _ _ hwl3, I.law, hqo, hq100, fun v hv H6 f6 => q5 _ H6 f6 ⟨v, rfl, hv⟩⟩
        refine s_asgP (ep_tC (ea_cons (ev_var rfl) (ea_cons (ev_var rfl) (ea_cons (ev_var rfl) ea_nil))) hm) fun v H5 f5 hv => ?_
        obtain ⟨z, rfl, hz⟩ := hv
        have ho := quest_law I hQ hz
        refine kk _ _ ⟨z, rfl, (f3.trans f4).trans f5, .quest ho, fun h => ?_⟩
        exfalso
        rcases ho with q | ⟨e, he, q, _⟩
        · exact absurd (h.symm.trans q) (by decide +kernel)
        · exact (code_ne e he).2 (q.symm.trans h)
    case i3 =>
      obtain ⟨due, rfl, f23, hout, hsh⟩ := hg
      have hA3 := hA.mono (f12.trans f23)
      have hwl3 := f23 _ _ hwl
      refine q_ifAnd (fun H4 => (due ≠ "ok" ∧ Ex H3 H4) ∨ (due = "ok" ∧ ∃ tl' ns' L' D', DoneR ns L ws ns' L' ∧ Inv ns' L' D' ∧ L'.length ≤ L.length + 1 ∧ LawAt K x y pa sa yn yt (p0 :: pr) cs p0 na ta nl tl' ns' D' ns L H4 ∧ H4 wl = some (.lst (strsV ws)))) (b1 := !decide (due = "told")) (et_test (ev_op (ev_var rfl) ev_c rv_neS)) (fun hb H4 f4 => ?a1) (fun hb H4 f4 Q4 k4 => ?a2) fun H4 hg4 => ?a3
      case a1 =>
        have : due = "told" := by simpa using hb
        exact .inl ⟨by rw [this]; decide +kernel, f4⟩
      case a2 =>
        have hnt : due ≠ "told" := by simpa using hb
        have hA4 := hA3.mono f4
        rcases hout with h | ⟨e, he, hde, hsr⟩ | ⟨ns', L', D', hde, hdone, hsr, I', hlen⟩
        · exact absurd h hnt
        · refine ⟨.ref x, rfl, .str row, rfl, x, nl, tl, ns, ws, D, row, _, rfl, hA4.desk, I.desk, hro, hsr, he, fun H5 f5 => ?_⟩
          refine said_ne (b := due) rfl fun H6 f6 => ?_
          rw [hde, decide_eq_true rfl]
          exact k4 H6 (.inl ⟨by rw [hde]; exact (code_ne e he).2, (f4.trans f5).trans f6⟩)
        · obtain ⟨dx4, hx4, hnl4, htl4⟩ := hA4.desk
          refine ⟨.ref x, rfl, .str row, rfl, x, nl, tl, ns, ws, D, row, _, rfl, ⟨dx4, hx4, hnl4, htl4⟩, I.desk, hro, hsr, fun tl' H5 fr htl hd5 => ?_⟩
          refine said_ne (b := due) rfl fun H6 f6 => ?_
          rw [hde, decide_eq_true rfl]
          have wl4 := f4 _ _ hwl3
          have hwlnl : wl ≠ nl := fun q => by
            obtain ⟨dx1, _, hnl1, _⟩ := (hA.mono f1).desk
            exact (ne_of_none hnl1 wl0) q.symm
          refine k4 H6 (.inr ⟨hde, tl', ns', L', D', hdone, I', hlen, (hA4.did fr htl hd5).mono f6, f6 _ _ (fr _ _ wl4 (ne_of wl4 hx4 (by intro z; cases z)) hwlnl (ne_of wl4 htl4 (by intro z; cases z)))⟩)
      case a3 =>
        refine q_whenS (b := decide (due = "ok")) (fun σ2 H5 => ∃ na' ta' nl' tl' ns' L' D', σ2 = [some (.ref a), some (.int hd), some (.ref pa), some (.ref x), some (.ref y), some (.ref na'), some (.ref ta'), some (.int c), some (.str row), some (.ref wl), some (.str due), s11] ∧ LawAt K x y pa sa yn yt (p0 :: pr) cs p0 na' ta' nl' tl' ns' D' ns' L' H5 ∧ Inv ns' L' D' ∧ L'.length ≤ L.length + 1) (et_test (ev_op (ev_var rfl) ev_c rv_eqS)) (fun hb H5 f5 kk => ?b1) (fun hb H5 f5 => ?b2) fun σ2 H5 hg5 => ?b3
        case b2 =>
          have hne := of_decide_eq_false hb
          rcases hg4 with ⟨_, f4⟩ | ⟨h, _⟩
          · exact ⟨na, ta, nl, tl, ns, L, D, rfl, hA3.mono (f4.trans f5), I, Nat.le_succ _⟩
          · exact absurd h hne
        case b1 =>
          have hok := of_decide_eq_true hb
          rcases hg4 with ⟨h, _⟩ | ⟨_, tl', ns', L', D', hdone, I', hlen, hA4, hwl4⟩
          · exact absurd hok h
          · have hA5 := hA4.mono f5
            have hm : SpP (sp_l_done K) [.ref na, .ref ta, .ref wl] H5 (fun v H6 => ∃ p n d', v = .ref p ∧ H5 n = none ∧ H5 d' = none ∧ H6 p = some (.tup [.ref n, .ref d']) ∧ H6 n = some (.lst (strsV ns')) ∧ H6 d' = some (.dT (lawT L'))) := fun H6 f6 Q6 q6 E6 => ⟨na, ta, wl, ns, ns', L, L', ws, rfl, f6 _ _ hA5.nam, f6 _ _ hA5.tab, (f5.trans f6) _ _ hwl4, I.law, hsh hok, hdone, fun p n d' H7 f7 n0 d0 h1 h2 h3 => q6 _ H7 f7 ⟨p, n, d', rfl, fresh_back f6 n0, fresh_back f6 d0, h1, h2, h3⟩⟩
            refine (ep_tC (E := E0) (ea_cons (ev_var rfl) (ea_cons (ev_var rfl) (ea_cons (ev_var rfl) ea_nil))) hm) H5 (Ex.refl _) _ fun v H6 f6 hv => ?_
            obtain ⟨p, n, d', rfl, n0, d0, h1, h2, h3⟩ := hv
            refine g_pair (by rfl) h1 ?_
            exact kk _ _ ⟨n, d', nl, tl', ns', L', D', rfl, hA5.done f6 n0 d0 h2 h3, I', hlen⟩
        case b3 =>
          obtain ⟨na', ta', nl', tl', ns', L', D', rfl, hA5, I5, hL5⟩ := hg5
          refine q_asgP (ep_web (ev_var rfl) hA5.desk I5.desk) fun v H6 f6 hv => ?_
          obtain ⟨us, rfl, hp, hs⟩ := hv
          have hA6 := hA5.mono f6
          refine s_when (b := false) (et_is (et_or (a := false) (et_is (et_not (et_B (ev_isStr (ev_var rfl) ev_c))) rfl) fun _ => et_test (ev_op (ev_var rfl) (ev_tC (sp := sp_l_web K) (z := .str (orDash (showT ns' us))) (ea_cons (ev_var rfl) (ea_cons (ev_var rfl) ea_nil)) fun H7 f7 Q7 q7 E7 => ⟨na', ta', ns', L', rfl, f7 _ _ hA6.nam, f7 _ _ hA6.tab, I5.law, fun us' hp' hs' H8 f8 => ?_⟩) rv_neS)) ?_) (fun hb => by cases hb) fun _ H7 f7 => ?_
          · rw [← web_z I5 hp hs hp' hs']
            exact q7 _ f8
          · rw [decide_eq_true rfl]
            rfl
          · exact ⟨na', ta', nl', tl', ns', L', D', _, _, _, _, _, rfl, hA6.mono f7, I5, by omega⟩
end
end KD
set_option maxHeartbeats 0
/-! the end: the facts that the head leaves, and the law called -/
namespace KD
open PySem PySem.Spec PyProof.Rows L2
theorem facts {P : Program} {w : World} {K : PySem.W.Frag} {h : Heap} {mg : Str → Option Value} {fl : Addr} (X : K.In h) (G : h.Ns mainGlobals mg) (hfa : mg ("law" : Str) = some (.ref fl)) (c : Says w K) :
    ∃ fd : FuncData, (∀ (s : Shared) (v : Value), BindsTo s fd ⟨[v], []⟩ [("_law_script", v)]) ∧ ∀ base : Heap, K.In base → base.Ns mainGlobals mg → FnOk P w K mg base CX0 13 fl fd ["_law_script"] (sp_law K) := by
  have T : Txt w K mg := ⟨c, fun x h => He.glo_ok X G h, fun x h => He.free_ok X G h, fun x i h => He.int_ok X G h, fun x z h => He.str_ok X G h⟩
  obtain ⟨fd, F⟩ := T.f_law
  have e := hfa.symm.trans T.g_law
  cases e
  have b := FunD.bindsA (ps := ["_law_script"]) F fun _ _ _ _ _ _ us hl => match us, hl with | [_], _ => rfl
  exact ⟨fd, fun s v => b s [v] rfl, fun base _ _ => fn_law T F⟩
end KD
open PySem PySem.W PySem.Calls PyProof.Rows
theorem PySem.Challenge.cw_pairsheath_k93_desk_deeds_holds : PySem.Challenge.rw_pairsheath_k93_desk_deeds.Holds := by
  w_on; o_law
  refine HandSHeadRun.head_any (r := OpenLaw.row PySem.Challenge.rw_pairsheath_k93_desk_deeds) (q := view (OpenLaw.row PySem.Challenge.rw_pairsheath_k93_desk_deeds).prog [KD.lawI]) (H := KD.hk) (ob := KD.ob) (M := 20000) (loose := KD.loose) (d := HandSHeadRun.topDef (OpenLaw.row PySem.Challenge.rw_pairsheath_k93_desk_deeds).prog KD.lawI) (kwd := []) KD.ob_eq
    (by kernel_rfl) (fun s => by kernel_rfl) KD.run (by kernel_rfl) (by kernel_rfl) (by kernel_rfl) (by rfl) (by first | assumption | decide +kernel) (by decide +kernel) ⟨rfl, rfl, rfl, rfl, rfl, by decide +kernel⟩ ?hw ?hc
  case hw => w_witness2
  case hc =>
    refine L2.walk_ofE (l := PySem.Challenge.rw_pairsheath_k93_desk_deeds) (n := 63) (k := 13) (x := "_law_script") (CX := L2.CX0) rfl (by decide) (by kernel_rfl) ⟨rfl, by decide, by decide⟩ ?F (fun _ _ _ _ z => z)
    intro w mg fa h Y G hmg0
    obtain ⟨K, KX, c⟩ := Y
    have hmg : mg ("law" : PySem.Str) = some (.ref fa) := by
      have e : (HandSHeadRun.topDef (OpenLaw.row PySem.Challenge.rw_pairsheath_k93_desk_deeds).prog KD.lawI).name = ("law" : PySem.Str) := by kernel_rfl
      rw [← e]
      exact hmg0
    obtain ⟨fd, hb, hF⟩ := KD.facts (P := (PySem.Challenge.rw_pairsheath_k93_desk_deeds).prog) (w := w) KX G hmg c
    exact ⟨K, fd, KD.sp_law K, KX, hb, fun H a ns hl _ hS => ⟨a, ns, rfl, hS, hl, fun _ => rfl⟩, hF⟩
