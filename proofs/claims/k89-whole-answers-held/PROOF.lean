import PyProof.Rows.All
import Wide.All
import OpenK.AllK
import Wide.FinOn
import KE.KStateDown
import HandS.Base
import HandS.Call
import HandS.Ends
import HandS.List
import HandS.Comp
import HandS.Iter
import HandS.Dict
import HandS.Text
import HandS.More
import HandS.Words
import HandS.Walk
import HandS.IsInst
import HandS.TupSets
import HandS.SortRule
import HandS.Strs
import HandS.Evl
import HandS.Defaults
import HandS.Deep
import HandS.CallRecv
import HandS.Wide
import HandS.TupAny
import HandS.Head0
import HandS.Head1
import HandS.Head2
import HandS.HeadEnd
import HandS.HeadHook1
import HandS.HeadHook2
import HandS.HeadHook3
import HandS.HeadHook4
import KE.GoesMore
import PySem.Challenge.RW_ontheline_k89_whole_answers_held
set_option Elab.async false
set_option linter.all false
set_option maxRecDepth 100000
set_option maxHeartbeats 0
/-! The program and the law by places; what the top leaves. -/
namespace Ol
open PySem PySem.Spec PyProof.Rows L2
/-! ### the text, by places -/
def top (i : Nat) : Stmt := PySem.Challenge.pw_ontheline_k89_whole_answers_held.main.body.getD i (.Pass ⟨0, 0, 0, 0⟩)
abbrev s_is_number : Stmt := top 20
abbrev s_are_unlike_names : Stmt := top 21
abbrev s_is_ranking : Stmt := top 22
abbrev s_is_folk : Stmt := top 23
abbrev s_must_be_ranking : Stmt := top 24
abbrev s_must_be_folk : Stmt := top 25
abbrev s_is_tie : Stmt := top 33
abbrev s_reached : Stmt := top 34
abbrev s_hang_together : Stmt := top 35
abbrev s_is_right_tree : Stmt := top 36
abbrev s_is_tree : Stmt := top 37
abbrev s_must_be_tree : Stmt := top 38
abbrev s_names_by : Stmt := top 39
abbrev s_apart_at : Stmt := top 40
abbrev s_first_apart : Stmt := top 41
abbrev s_allowed : Stmt := top 42
abbrev s_hangs_at : Stmt := top 43
abbrev s_options : Stmt := top 44
abbrev s_lasts : Stmt := top 45
abbrev s_taken_out : Stmt := top 46
abbrev s_tie_of : Stmt := top 47
abbrev s_tree_told : Stmt := top 48
abbrev s_tree_wrong : Stmt := top 49
abbrev s_gone_wrong : Stmt := top 50
abbrev s_tree_judged : Stmt := top 51
abbrev s_trees_many : Stmt := top 52
abbrev s_tree_by : Stmt := top 53
abbrev s_is_balance : Stmt := top 54
abbrev s_balance : Stmt := top 55
abbrev s_does_fall : Stmt := top 60
abbrev s_number_of : Stmt := top 113
abbrev s_ranking_of : Stmt := top 114
abbrev s_in_one : Stmt := top 115
abbrev s_read_ranking : Stmt := top 116
abbrev s_folk_text : Stmt := top 117
abbrev s_read_folk : Stmt := top 118
abbrev s_is_written : Stmt := top 119
abbrev s_are_written : Stmt := top 120
abbrev s_is_bar : Stmt := top 122
abbrev s_is_paper : Stmt := top 123
abbrev s_words_of : Stmt := top 124
abbrev s_paper_text : Stmt := top 125
abbrev s_numbers_by : Stmt := top 127
abbrev s_lists_by : Stmt := top 128
abbrev s_read_paper : Stmt := top 130
abbrev s_is_title : Stmt := top 137
abbrev s_is_row : Stmt := top 138
abbrev s__law_mix : Stmt := top 143
abbrev s__law_left : Stmt := top 144
abbrev s__law_draw : Stmt := top 145
abbrev s__law_names : Stmt := top 146
abbrev s__law_shuffled : Stmt := top 147
abbrev s__law_tree : Stmt := top 148
abbrev s__law_falling : Stmt := top 149
abbrev s__law_copied : Stmt := top 151
abbrev s__law_marked : Stmt := top 152
abbrev s__law_once : Stmt := top 153
abbrev s__law_emptied : Stmt := top 154
abbrev s__law_things : Stmt := top 155
abbrev s__law_call : Stmt := top 156
abbrev s__law_stays : Stmt := top 157
abbrev s__law_kept : Stmt := top 158
abbrev s__law_desk_goes_on : Stmt := top 159
abbrev s_law : Stmt := top 160
abbrev s_Desk_init : Stmt := inClass (top 141) 0
abbrev s_Desk_hands : Stmt := inClass (top 141) 1
abbrev s_Desk_titles : Stmt := inClass (top 141) 2
abbrev s_Desk_ranking_by : Stmt := inClass (top 141) 6
abbrev s_Desk_must_rank : Stmt := inClass (top 141) 7
abbrev s_Desk_must_line : Stmt := inClass (top 141) 8
abbrev s_Desk_done : Stmt := inClass (top 141) 9
abbrev s_Desk_come : Stmt := inClass (top 141) 10
abbrev s_Desk_hand_by : Stmt := inClass (top 141) 5
abbrev s_Desk_show : Stmt := inClass (top 141) 16
abbrev s_Desk_along : Stmt := inClass (top 141) 18
abbrev s_Desk_deed : Stmt := inClass (top 141) 21
abbrev s_Desk_say : Stmt := inClass (top 141) 22
theorem sc_is_number : FnScope ["thing"] ["thing"] (defScope s_is_number) := ⟨rfl, rfl, rfl, by decide +kernel, rfl, by decide +kernel, by decide +kernel⟩
theorem sc_are_unlike_names : FnScope ["thing", "name"] ["thing"] (defScope s_are_unlike_names) := ⟨rfl, rfl, rfl, by decide +kernel, rfl, by decide +kernel, by decide +kernel⟩
theorem sc_is_ranking : FnScope ["thing"] ["thing"] (defScope s_is_ranking) := ⟨rfl, rfl, rfl, by decide +kernel, rfl, by decide +kernel, by decide +kernel⟩
theorem sc_is_folk : FnScope ["thing", "ranking"] ["thing"] (defScope s_is_folk) := ⟨rfl, rfl, rfl, by decide +kernel, rfl, by decide +kernel, by decide +kernel⟩
theorem sc_must_be_ranking : FnScope ["ranking"] ["ranking"] (defScope s_must_be_ranking) := ⟨rfl, rfl, rfl, by decide +kernel, rfl, by decide +kernel, by decide +kernel⟩
theorem sc_must_be_folk : FnScope ["folk"] ["folk"] (defScope s_must_be_folk) := ⟨rfl, rfl, rfl, by decide +kernel, rfl, by decide +kernel, by decide +kernel⟩
theorem sc_is_tie : FnScope ["names", "thing"] ["names", "thing"] (defScope s_is_tie) := ⟨rfl, rfl, rfl, by decide +kernel, rfl, by decide +kernel, by decide +kernel⟩
theorem sc_reached : FnScope ["ties", "some", "first", "found", "many", "one", "other", "name"] ["ties", "some", "first"] (defScope s_reached) := ⟨rfl, rfl, rfl, by decide +kernel, rfl, by decide +kernel, by decide +kernel⟩
theorem sc_hang_together : FnScope ["ties", "some"] ["ties", "some"] (defScope s_hang_together) := ⟨rfl, rfl, rfl, by decide +kernel, rfl, by decide +kernel, by decide +kernel⟩
theorem sc_is_right_tree : FnScope ["names", "thing", "tie"] ["names", "thing"] (defScope s_is_right_tree) := ⟨rfl, rfl, rfl, by decide +kernel, rfl, by decide +kernel, by decide +kernel⟩
theorem sc_is_tree : FnScope ["names", "thing"] ["names", "thing"] (defScope s_is_tree) := ⟨rfl, rfl, rfl, by decide +kernel, rfl, by decide +kernel, by decide +kernel⟩
theorem sc_must_be_tree : FnScope ["names", "tree"] ["names", "tree"] (defScope s_must_be_tree) := ⟨rfl, rfl, rfl, by decide +kernel, rfl, by decide +kernel, by decide +kernel⟩
theorem sc_names_by : FnScope ["folk"] ["folk"] (defScope s_names_by) := ⟨rfl, rfl, rfl, by decide +kernel, rfl, by decide +kernel, by decide +kernel⟩
theorem sc_apart_at : FnScope ["tree", "ranking", "many"] ["tree", "ranking"] (defScope s_apart_at) := ⟨rfl, rfl, rfl, by decide +kernel, rfl, by decide +kernel, by decide +kernel⟩
theorem sc_first_apart : FnScope ["tree", "ranking"] ["tree", "ranking"] (defScope s_first_apart) := ⟨rfl, rfl, rfl, by decide +kernel, rfl, by decide +kernel, by decide +kernel⟩
theorem sc_allowed : FnScope ["ranking", "left", "name", "rest", "at", "one"] ["ranking", "left", "name"] (defScope s_allowed) := ⟨rfl, rfl, rfl, by decide +kernel, rfl, by decide +kernel, by decide +kernel⟩
theorem sc_hangs_at : FnScope ["folk", "left", "name", "found", "ranking", "some", "other"] ["folk", "left", "name"] (defScope s_hangs_at) := ⟨rfl, rfl, rfl, by decide +kernel, rfl, by decide +kernel, by decide +kernel⟩
theorem sc_options : FnScope ["folk", "gone", "name", "names", "left", "one"] ["folk", "gone", "name"] (defScope s_options) := ⟨rfl, rfl, rfl, by decide +kernel, rfl, by decide +kernel, by decide +kernel⟩
theorem sc_lasts : FnScope ["folk", "left", "ranking", "name"] ["folk", "left"] (defScope s_lasts) := ⟨rfl, rfl, rfl, by decide +kernel, rfl, by decide +kernel, by decide +kernel⟩
theorem sc_taken_out : FnScope ["folk", "left", "found", "name", "some", "one"] ["folk"] (defScope s_taken_out) := ⟨rfl, rfl, rfl, by decide +kernel, rfl, by decide +kernel, by decide +kernel⟩
theorem sc_tie_of : FnScope ["one", "other"] ["one", "other"] (defScope s_tie_of) := ⟨rfl, rfl, rfl, by decide +kernel, rfl, by decide +kernel, by decide +kernel⟩
theorem sc_tree_told : FnScope ["folk", "rows", "name", "some"] ["folk"] (defScope s_tree_told) := ⟨rfl, rfl, rfl, by decide +kernel, rfl, by decide +kernel, by decide +kernel⟩
theorem sc_tree_wrong : FnScope ["folk", "names", "thing", "hand", "ranking"] ["folk", "names", "thing"] (defScope s_tree_wrong) := ⟨rfl, rfl, rfl, by decide +kernel, rfl, by decide +kernel, by decide +kernel⟩
theorem sc_gone_wrong : FnScope ["folk", "names", "thing", "left", "k", "name", "some", "one"] ["folk", "names", "thing"] (defScope s_gone_wrong) := ⟨rfl, rfl, rfl, by decide +kernel, rfl, by decide +kernel, by decide +kernel⟩
theorem sc_tree_judged : FnScope ["folk", "paper", "names"] ["folk", "paper"] (defScope s_tree_judged) := ⟨rfl, rfl, rfl, by decide +kernel, rfl, by decide +kernel, by decide +kernel⟩
theorem sc_trees_many : FnScope ["folk", "found", "name", "some"] ["folk"] (defScope s_trees_many) := ⟨rfl, rfl, rfl, by decide +kernel, rfl, by decide +kernel, by decide +kernel⟩
theorem sc_tree_by : FnScope ["folk", "number", "many", "found", "name", "some"] ["folk", "number"] (defScope s_tree_by) := ⟨rfl, rfl, rfl, by decide +kernel, rfl, by decide +kernel, by decide +kernel⟩
theorem sc_is_balance : FnScope ["tops", "tree", "names", "name", "left", "first", "part", "one", "top"] ["tops", "tree", "names", "name"] (defScope s_is_balance) := ⟨rfl, rfl, rfl, by decide +kernel, rfl, by decide +kernel, by decide +kernel⟩
theorem sc_balance : FnScope ["folk", "tree", "names", "tops", "ranking", "name"] ["folk", "tree"] (defScope s_balance) := ⟨rfl, rfl, rfl, by decide +kernel, rfl, by decide +kernel, by decide +kernel⟩
theorem sc_does_fall : FnScope ["line", "ranking", "low", "high", "name", "at"] ["line", "ranking"] (defScope s_does_fall) := ⟨rfl, rfl, rfl, by decide +kernel, rfl, by decide +kernel, by decide +kernel⟩
theorem sc_number_of : FnScope ["word", "sign"] ["word"] (defScope s_number_of) := ⟨rfl, rfl, rfl, by decide +kernel, rfl, by decide +kernel, by decide +kernel⟩
theorem sc_ranking_of : FnScope ["word", "found", "part"] ["word"] (defScope s_ranking_of) := ⟨rfl, rfl, rfl, by decide +kernel, rfl, by decide +kernel, by decide +kernel⟩
theorem sc_in_one : FnScope ["ranking", "name"] ["ranking"] (defScope s_in_one) := ⟨rfl, rfl, rfl, by decide +kernel, rfl, by decide +kernel, by decide +kernel⟩
theorem sc_read_ranking : FnScope ["word", "found"] ["word"] (defScope s_read_ranking) := ⟨rfl, rfl, rfl, by decide +kernel, rfl, by decide +kernel, by decide +kernel⟩
theorem sc_folk_text : FnScope ["folk", "ranking"] ["folk"] (defScope s_folk_text) := ⟨rfl, rfl, rfl, by decide +kernel, rfl, by decide +kernel, by decide +kernel⟩
theorem sc_read_folk : FnScope ["text", "rows", "found", "row", "word", "ranking"] ["text"] (defScope s_read_folk) := ⟨rfl, rfl, rfl, by decide +kernel, rfl, by decide +kernel, by decide +kernel⟩
theorem sc_is_written : FnScope ["thing"] ["thing"] (defScope s_is_written) := ⟨rfl, rfl, rfl, by decide +kernel, rfl, by decide +kernel, by decide +kernel⟩
theorem sc_are_written : FnScope ["thing", "many", "one"] ["thing", "many"] (defScope s_are_written) := ⟨rfl, rfl, rfl, by decide +kernel, rfl, by decide +kernel, by decide +kernel⟩
theorem sc_is_bar : FnScope ["thing", "sizes", "pair"] ["thing"] (defScope s_is_bar) := ⟨rfl, rfl, rfl, by decide +kernel, rfl, by decide +kernel, by decide +kernel⟩
theorem sc_is_paper : FnScope ["thing", "tie"] ["thing"] (defScope s_is_paper) := ⟨rfl, rfl, rfl, by decide +kernel, rfl, by decide +kernel, by decide +kernel⟩
theorem sc_words_of : FnScope ["numbers", "number"] ["numbers"] (defScope s_words_of) := ⟨rfl, rfl, rfl, by decide +kernel, rfl, by decide +kernel, by decide +kernel⟩
theorem sc_paper_text : FnScope ["paper", "word", "lists", "one", "other", "some"] ["paper"] (defScope s_paper_text) := ⟨rfl, rfl, rfl, by decide +kernel, rfl, by decide +kernel, by decide +kernel⟩
theorem sc_numbers_by : FnScope ["words", "first", "found", "k", "word", "number"] ["words", "first"] (defScope s_numbers_by) := ⟨rfl, rfl, rfl, by decide +kernel, rfl, by decide +kernel, by decide +kernel⟩
theorem sc_lists_by : FnScope ["words", "sizes", "found", "at", "k", "size"] ["words", "sizes"] (defScope s_lists_by) := ⟨rfl, rfl, rfl, by decide +kernel, rfl, by decide +kernel, by decide +kernel⟩
theorem sc_read_paper : FnScope ["text", "words", "word", "lists"] ["text"] (defScope s_read_paper) := ⟨rfl, rfl, rfl, by decide +kernel, rfl, by decide +kernel, by decide +kernel⟩
theorem sc_is_title : FnScope ["word", "sign"] ["word"] (defScope s_is_title) := ⟨rfl, rfl, rfl, by decide +kernel, rfl, by decide +kernel, by decide +kernel⟩
theorem sc_is_row : FnScope ["words", "word"] ["words"] (defScope s_is_row) := ⟨rfl, rfl, rfl, by decide +kernel, rfl, by decide +kernel, by decide +kernel⟩
theorem sc__law_mix : FnScope ["_law_number", "_law_k", "_law_mixed"] ["_law_number", "_law_k"] (defScope s__law_mix) := ⟨rfl, rfl, rfl, by decide +kernel, rfl, by decide +kernel, by decide +kernel⟩
theorem sc__law_left : FnScope ["_law_cell"] ["_law_cell"] (defScope s__law_left) := ⟨rfl, rfl, rfl, by decide +kernel, rfl, by decide +kernel, by decide +kernel⟩
theorem sc__law_draw : FnScope ["_law_left_here", "_law_base", "_law_mixed", "_law_digit"] ["_law_left_here", "_law_base"] (defScope s__law_draw) := ⟨rfl, rfl, rfl, by decide +kernel, rfl, by decide +kernel, by decide +kernel⟩
theorem sc__law_names : FnScope ["_law_left_here", "_law_many", "_law_far", "_law_found", "_law_last", "_law_k"] ["_law_left_here", "_law_many"] (defScope s__law_names) := ⟨rfl, rfl, rfl, by decide +kernel, rfl, by decide +kernel, by decide +kernel⟩
theorem sc__law_shuffled : FnScope ["_law_left_here", "_law_things_here", "_law_found", "_law_thing"] ["_law_left_here", "_law_things_here"] (defScope s__law_shuffled) := ⟨rfl, rfl, rfl, by decide +kernel, rfl, by decide +kernel, by decide +kernel⟩
theorem sc__law_tree : FnScope ["_law_left_here", "_law_names_here", "_law_order", "_law_way", "_law_found", "_law_k", "_law_other"] ["_law_left_here", "_law_names_here"] (defScope s__law_tree) := ⟨rfl, rfl, rfl, by decide +kernel, rfl, by decide +kernel, by decide +kernel⟩
theorem sc__law_falling : FnScope ["_law_left_here", "_law_names_here", "_law_tree_here", "_law_found", "_law_near", "_law_one", "_law_other"] ["_law_left_here", "_law_names_here", "_law_tree_here"] (defScope s__law_falling) := ⟨rfl, rfl, rfl, by decide +kernel, rfl, by decide +kernel, by decide +kernel⟩
theorem sc__law_copied : FnScope ["_law_thing", "_law_part"] ["_law_thing"] (defScope s__law_copied) := ⟨rfl, rfl, rfl, by decide +kernel, rfl, by decide +kernel, by decide +kernel⟩
theorem sc__law_marked : FnScope ["_law_thing", "_law_part"] ["_law_thing"] (defScope s__law_marked) := ⟨rfl, rfl, rfl, by decide +kernel, rfl, by decide +kernel, by decide +kernel⟩
theorem sc__law_once : FnScope ["_law_thing", "_law_part"] ["_law_thing"] (defScope s__law_once) := ⟨rfl, rfl, rfl, by decide +kernel, rfl, by decide +kernel, by decide +kernel⟩
theorem sc__law_emptied : FnScope ["_law_thing", "_law_part"] ["_law_thing"] (defScope s__law_emptied) := ⟨rfl, rfl, rfl, by decide +kernel, rfl, by decide +kernel, by decide +kernel⟩
theorem sc__law_things : FnScope ["_law_left_here", "_law_names_here", "_law_tree_here", "_law_folk_here", "_law_hand", "_law_ranking", "_law_gone", "_law_pairs", "_law_paper", "_law_name", "_law_k", "_law_j"] ["_law_left_here"] (defScope s__law_things) := ⟨rfl, rfl, rfl, by decide +kernel, rfl, by decide +kernel, by decide +kernel⟩
theorem sc__law_call : FnScope ["_law_which", "_law_things_here", "_law_names_here", "_law_tree_here", "_law_folk_here", "_law_gone", "_law_paper", "_law_k", "_law_name"] ["_law_which", "_law_things_here"] (defScope s__law_call) := ⟨rfl, rfl, rfl, by decide +kernel, rfl, by decide +kernel, by decide +kernel⟩
theorem sc__law_stays : FnScope ["_law_which", "_law_things_here", "_law_handed", "_law_told"] ["_law_which", "_law_things_here"] (defScope s__law_stays) := ⟨rfl, rfl, rfl, by decide +kernel, rfl, by decide +kernel, by decide +kernel⟩
theorem sc__law_kept : FnScope ["_law_which", "_law_things_here", "_law_others", "_law_told", "_law_held"] ["_law_which", "_law_things_here", "_law_others"] (defScope s__law_kept) := ⟨rfl, rfl, rfl, by decide +kernel, rfl, by decide +kernel, by decide +kernel⟩
theorem sc__law_desk_goes_on : FnScope ["_law_things_here", "_law_names_here", "_law_tree_here", "_law_folk_here", "_law_gone", "_law_paper", "_law_desk", "_law_word", "_law_name"] ["_law_things_here"] (defScope s__law_desk_goes_on) := ⟨rfl, rfl, rfl, by decide +kernel, rfl, by decide +kernel, by decide +kernel⟩
theorem sc_law : FnScope ["_law_script", "_law_cell", "_law_left_here", "_law_things_here", "_law_others", "_law_which"] ["_law_script"] (defScope s_law) := ⟨rfl, rfl, rfl, by decide +kernel, rfl, by decide +kernel, by decide +kernel⟩
theorem sc_Desk_init : FnScope ["self", "names"] ["self", "names"] (defScope s_Desk_init) := ⟨rfl, rfl, rfl, by decide +kernel, rfl, by decide +kernel, by decide +kernel⟩
theorem sc_Desk_hands : FnScope ["self"] ["self"] (defScope s_Desk_hands) := ⟨rfl, rfl, rfl, by decide +kernel, rfl, by decide +kernel, by decide +kernel⟩
theorem sc_Desk_titles : FnScope ["self", "title", "ranking", "weight"] ["self"] (defScope s_Desk_titles) := ⟨rfl, rfl, rfl, by decide +kernel, rfl, by decide +kernel, by decide +kernel⟩
theorem sc_Desk_ranking_by : FnScope ["self", "word", "ranking"] ["self", "word"] (defScope s_Desk_ranking_by) := ⟨rfl, rfl, rfl, by decide +kernel, rfl, by decide +kernel, by decide +kernel⟩
theorem sc_Desk_must_rank : FnScope ["self", "word", "ranking"] ["self", "word"] (defScope s_Desk_must_rank) := ⟨rfl, rfl, rfl, by decide +kernel, rfl, by decide +kernel, by decide +kernel⟩
theorem sc_Desk_must_line : FnScope ["self", "word", "line"] ["self", "word"] (defScope s_Desk_must_line) := ⟨rfl, rfl, rfl, by decide +kernel, rfl, by decide +kernel, by decide +kernel⟩
theorem sc_Desk_done : FnScope ["self", "hands"] ["self", "hands"] (defScope s_Desk_done) := ⟨rfl, rfl, rfl, by decide +kernel, rfl, by decide +kernel, by decide +kernel⟩
theorem sc_Desk_come : FnScope ["self", "title", "word", "ranking"] ["self", "title", "word"] (defScope s_Desk_come) := ⟨rfl, rfl, rfl, by decide +kernel, rfl, by decide +kernel, by decide +kernel⟩
theorem sc_Desk_hand_by : FnScope ["self", "title", "known", "ranking", "weight"] ["self", "title"] (defScope s_Desk_hand_by) := ⟨rfl, rfl, rfl, by decide +kernel, rfl, by decide +kernel, by decide +kernel⟩
theorem sc_Desk_show : FnScope ["self", "title", "ranking", "weight"] ["self", "title"] (defScope s_Desk_show) := ⟨rfl, rfl, rfl, by decide +kernel, rfl, by decide +kernel, by decide +kernel⟩
theorem sc_Desk_along : FnScope ["self", "word", "words", "line", "many", "price", "names", "table", "title", "ranking", "weight"] ["self", "word", "words"] (defScope s_Desk_along) := ⟨rfl, rfl, rfl, by decide +kernel, rfl, by decide +kernel, by decide +kernel⟩
theorem sc_Desk_deed : FnScope ["self", "word", "words"] ["self", "word", "words"] (defScope s_Desk_deed) := ⟨rfl, rfl, rfl, by decide +kernel, rfl, by decide +kernel, by decide +kernel⟩
theorem sc_Desk_say : FnScope ["self", "row", "words", "word"] ["self", "row"] (defScope s_Desk_say) := ⟨rfl, rfl, rfl, by decide +kernel, rfl, by decide +kernel, by decide +kernel⟩
/-! ### what the top has left -/
abbrev dC (K : PySem.W.Frag) : Addr := He.ga K "Desk"
/-- the tuple that stands in FORMS at "cross" -/
def crossAd (K : PySem.W.Frag) : Addr := match PySem.W.nsIn K (He.ga K "FORMS") "cross" with
  | some (some (.ref a)) => a
  | _ => 0
/-- a written dict says what stands at a key -/
def keyB (K : PySem.W.Frag) (d k : Str) (v : Option V) : Bool := match PySem.W.nsIn K (He.ga K d) k, v with
  | some (some u), some v => He.relB v u
  | some none, none => true
  | _, _ => false
def exB (K : PySem.W.Frag) : Bool := keyB K "FORMS" "cross" (some (.ref (crossAd K))) && keyB K "COUNTS" "come" (some (.int 3)) && keyB K "COUNTS" "hands" (some (.int 1)) && keyB K "COUNTS" "show" (some (.int 2)) && keyB K "COUNTS" "falls" none && keyB K "ASKED" "falls" none && keyB K "ASKED" "come" none && keyB K "ALONG" "falls" (some (.int 2)) && keyB K "ALONG" "come" none && He.lstB K "LISTS" [.str "line", .str "row", .str "gone", .str "order", .str "ring"] && (match K.lookup (crossAd K) with
  | some ⟨.type c, _, .seq its _, _⟩ => decide (c = "tuple") && (decide (its.size ≤ sizeLine) && He.relAll [.int 4, .int 2, .int 2] its.toList)
  | _ => false)
theorem keyB_ok {K : PySem.W.Frag} {d k : Str} {v : V} (h : keyB K d k (some v) = true) : ∃ u, PySem.W.nsIn K (He.ga K d) k = some (some u) ∧ RelV v u := by
  unfold keyB at h
  split at h
  · rename_i u v2 e1 e2
    cases e2
    exact ⟨u, e1, He.relB_ok h⟩
  · rename_i e1 e2
    cases e2
  · cases h
theorem keyB_no {K : PySem.W.Frag} {d k : Str} (h : keyB K d k none = true) : PySem.W.nsIn K (He.ga K d) k = some none := by
  unfold keyB at h
  split at h
  · rename_i e2
    cases e2
  · assumption
  · cases h
structure Tx (w : World) (K : PySem.W.Frag) (mg : Str → Option Value) : Prop where
  g_is_number : mg "is_number" = some (.ref (He.ga K "is_number"))
  g_are_unlike_names : mg "are_unlike_names" = some (.ref (He.ga K "are_unlike_names"))
  g_is_ranking : mg "is_ranking" = some (.ref (He.ga K "is_ranking"))
  g_is_folk : mg "is_folk" = some (.ref (He.ga K "is_folk"))
  g_must_be_ranking : mg "must_be_ranking" = some (.ref (He.ga K "must_be_ranking"))
  g_must_be_folk : mg "must_be_folk" = some (.ref (He.ga K "must_be_folk"))
  g_is_tie : mg "is_tie" = some (.ref (He.ga K "is_tie"))
  g_reached : mg "reached" = some (.ref (He.ga K "reached"))
  g_hang_together : mg "hang_together" = some (.ref (He.ga K "hang_together"))
  g_is_right_tree : mg "is_right_tree" = some (.ref (He.ga K "is_right_tree"))
  g_is_tree : mg "is_tree" = some (.ref (He.ga K "is_tree"))
  g_must_be_tree : mg "must_be_tree" = some (.ref (He.ga K "must_be_tree"))
  g_names_by : mg "names_by" = some (.ref (He.ga K "names_by"))
  g_apart_at : mg "apart_at" = some (.ref (He.ga K "apart_at"))
  g_first_apart : mg "first_apart" = some (.ref (He.ga K "first_apart"))
  g_allowed : mg "allowed" = some (.ref (He.ga K "allowed"))
  g_hangs_at : mg "hangs_at" = some (.ref (He.ga K "hangs_at"))
  g_options : mg "options" = some (.ref (He.ga K "options"))
  g_lasts : mg "lasts" = some (.ref (He.ga K "lasts"))
  g_taken_out : mg "taken_out" = some (.ref (He.ga K "taken_out"))
  g_tie_of : mg "tie_of" = some (.ref (He.ga K "tie_of"))
  g_tree_told : mg "tree_told" = some (.ref (He.ga K "tree_told"))
  g_tree_wrong : mg "tree_wrong" = some (.ref (He.ga K "tree_wrong"))
  g_gone_wrong : mg "gone_wrong" = some (.ref (He.ga K "gone_wrong"))
  g_tree_judged : mg "tree_judged" = some (.ref (He.ga K "tree_judged"))
  g_trees_many : mg "trees_many" = some (.ref (He.ga K "trees_many"))
  g_tree_by : mg "tree_by" = some (.ref (He.ga K "tree_by"))
  g_is_balance : mg "is_balance" = some (.ref (He.ga K "is_balance"))
  g_balance : mg "balance" = some (.ref (He.ga K "balance"))
  g_does_fall : mg "does_fall" = some (.ref (He.ga K "does_fall"))
  g_number_of : mg "number_of" = some (.ref (He.ga K "number_of"))
  g_ranking_of : mg "ranking_of" = some (.ref (He.ga K "ranking_of"))
  g_in_one : mg "in_one" = some (.ref (He.ga K "in_one"))
  g_read_ranking : mg "read_ranking" = some (.ref (He.ga K "read_ranking"))
  g_folk_text : mg "folk_text" = some (.ref (He.ga K "folk_text"))
  g_read_folk : mg "read_folk" = some (.ref (He.ga K "read_folk"))
  g_is_written : mg "is_written" = some (.ref (He.ga K "is_written"))
  g_are_written : mg "are_written" = some (.ref (He.ga K "are_written"))
  g_is_bar : mg "is_bar" = some (.ref (He.ga K "is_bar"))
  g_is_paper : mg "is_paper" = some (.ref (He.ga K "is_paper"))
  g_words_of : mg "words_of" = some (.ref (He.ga K "words_of"))
  g_paper_text : mg "paper_text" = some (.ref (He.ga K "paper_text"))
  g_numbers_by : mg "numbers_by" = some (.ref (He.ga K "numbers_by"))
  g_lists_by : mg "lists_by" = some (.ref (He.ga K "lists_by"))
  g_read_paper : mg "read_paper" = some (.ref (He.ga K "read_paper"))
  g_is_title : mg "is_title" = some (.ref (He.ga K "is_title"))
  g_is_row : mg "is_row" = some (.ref (He.ga K "is_row"))
  g__law_mix : mg "_law_mix" = some (.ref (He.ga K "_law_mix"))
  g__law_left : mg "_law_left" = some (.ref (He.ga K "_law_left"))
  g__law_draw : mg "_law_draw" = some (.ref (He.ga K "_law_draw"))
  g__law_names : mg "_law_names" = some (.ref (He.ga K "_law_names"))
  g__law_shuffled : mg "_law_shuffled" = some (.ref (He.ga K "_law_shuffled"))
  g__law_tree : mg "_law_tree" = some (.ref (He.ga K "_law_tree"))
  g__law_falling : mg "_law_falling" = some (.ref (He.ga K "_law_falling"))
  g__law_copied : mg "_law_copied" = some (.ref (He.ga K "_law_copied"))
  g__law_marked : mg "_law_marked" = some (.ref (He.ga K "_law_marked"))
  g__law_once : mg "_law_once" = some (.ref (He.ga K "_law_once"))
  g__law_emptied : mg "_law_emptied" = some (.ref (He.ga K "_law_emptied"))
  g__law_things : mg "_law_things" = some (.ref (He.ga K "_law_things"))
  g__law_call : mg "_law_call" = some (.ref (He.ga K "_law_call"))
  g__law_stays : mg "_law_stays" = some (.ref (He.ga K "_law_stays"))
  g__law_kept : mg "_law_kept" = some (.ref (He.ga K "_law_kept"))
  g__law_desk_goes_on : mg "_law_desk_goes_on" = some (.ref (He.ga K "_law_desk_goes_on"))
  g_law : mg "law" = some (.ref (He.ga K "law"))
  g_Desk : mg "Desk" = some (.ref (He.ga K "Desk"))
  g_LISTS : mg "LISTS" = some (.ref (He.ga K "LISTS"))
  g_FORMS : mg "FORMS" = some (.ref (He.ga K "FORMS"))
  g_COUNTS : mg "COUNTS" = some (.ref (He.ga K "COUNTS"))
  g_ASKED : mg "ASKED" = some (.ref (He.ga K "ASKED"))
  g_ALONG : mg "ALONG" = some (.ref (He.ga K "ALONG"))
  b_isinstance : mg "isinstance" = none
  b_int : mg "int" = none
  b_bool : mg "bool" = none
  b_list : mg "list" = none
  b_tuple : mg "tuple" = none
  b_str : mg "str" = none
  b_len : mg "len" = none
  b_all : mg "all" = none
  b_set : mg "set" = none
  b_sorted : mg "sorted" = none
  b_range : mg "range" = none
  b_enumerate : mg "enumerate" = none
  b_min : mg "min" = none
  b_max : mg "max" = none
  i_MOST_NAMES : ∃ t, mg "MOST_NAMES" = some (.int 10 t)
  i_MOST_HANDS : ∃ t, mg "MOST_HANDS" = some (.int 20 t)
  i_MOST_FIGURES : ∃ t, mg "MOST_FIGURES" = some (.int 30 t)
  i_LONGEST_TITLE : ∃ t, mg "LONGEST_TITLE" = some (.int 8 t)
  t_FIGURES : ∃ t, mg "FIGURES" = some (.str "0123456789" t)
  t_LETTERS : ∃ t, mg "LETTERS" = some (.str "abcdefghijklmnopqrstuvwxyz" t)
  cl : Cls K (dC K)
  mkr : Mk K (dC K) (He.ma K (dC K) "__init__")
  n_names : NoAttr K (dC K) "names"
  n_states : NoAttr K (dC K) "states"
  m_hands : Meth K (dC K) "hands" (He.ma K (dC K) "hands")
  m_titles : Meth K (dC K) "titles" (He.ma K (dC K) "titles")
  m_ranking_by : Meth K (dC K) "ranking_by" (He.ma K (dC K) "ranking_by")
  m_must_rank : Meth K (dC K) "must_rank" (He.ma K (dC K) "must_rank")
  m_must_line : Meth K (dC K) "must_line" (He.ma K (dC K) "must_line")
  m_done : Meth K (dC K) "done" (He.ma K (dC K) "done")
  m_come : Meth K (dC K) "come" (He.ma K (dC K) "come")
  m_hand_by : Meth K (dC K) "hand_by" (He.ma K (dC K) "hand_by")
  m_show : Meth K (dC K) "show" (He.ma K (dC K) "show")
  m_along : Meth K (dC K) "along" (He.ma K (dC K) "along")
  m_deed : Meth K (dC K) "deed" (He.ma K (dC K) "deed")
  m_say : Meth K (dC K) "say" (He.ma K (dC K) "say")
  d_FORMS : ∃ es n, KDict K w (He.ga K "FORMS") es n
  d_COUNTS : ∃ es n, KDict K w (He.ga K "COUNTS") es n
  d_ASKED : ∃ es n, KDict K w (He.ga K "ASKED") es n
  d_ALONG : ∃ es n, KDict K w (He.ga K "ALONG") es n
  F_is_number : ∃ fd, FunD K "is_number" "is_number" (defArgs s_is_number) (defBody s_is_number) (defScope s_is_number) [] [] (He.ga K "is_number") fd
  F_are_unlike_names : ∃ fd, FunD K "are_unlike_names" "are_unlike_names" (defArgs s_are_unlike_names) (defBody s_are_unlike_names) (defScope s_are_unlike_names) [] [] (He.ga K "are_unlike_names") fd
  F_is_ranking : ∃ fd, FunD K "is_ranking" "is_ranking" (defArgs s_is_ranking) (defBody s_is_ranking) (defScope s_is_ranking) [] [] (He.ga K "is_ranking") fd
  F_is_folk : ∃ fd, FunD K "is_folk" "is_folk" (defArgs s_is_folk) (defBody s_is_folk) (defScope s_is_folk) [] [] (He.ga K "is_folk") fd
  F_must_be_ranking : ∃ fd, FunD K "must_be_ranking" "must_be_ranking" (defArgs s_must_be_ranking) (defBody s_must_be_ranking) (defScope s_must_be_ranking) [] [] (He.ga K "must_be_ranking") fd
  F_must_be_folk : ∃ fd, FunD K "must_be_folk" "must_be_folk" (defArgs s_must_be_folk) (defBody s_must_be_folk) (defScope s_must_be_folk) [] [] (He.ga K "must_be_folk") fd
  F_is_tie : ∃ fd, FunD K "is_tie" "is_tie" (defArgs s_is_tie) (defBody s_is_tie) (defScope s_is_tie) [] [] (He.ga K "is_tie") fd
  F_reached : ∃ fd, FunD K "reached" "reached" (defArgs s_reached) (defBody s_reached) (defScope s_reached) [] [] (He.ga K "reached") fd
  F_hang_together : ∃ fd, FunD K "hang_together" "hang_together" (defArgs s_hang_together) (defBody s_hang_together) (defScope s_hang_together) [] [] (He.ga K "hang_together") fd
  F_is_right_tree : ∃ fd, FunD K "is_right_tree" "is_right_tree" (defArgs s_is_right_tree) (defBody s_is_right_tree) (defScope s_is_right_tree) [] [] (He.ga K "is_right_tree") fd
  F_is_tree : ∃ fd, FunD K "is_tree" "is_tree" (defArgs s_is_tree) (defBody s_is_tree) (defScope s_is_tree) [] [] (He.ga K "is_tree") fd
  F_must_be_tree : ∃ fd, FunD K "must_be_tree" "must_be_tree" (defArgs s_must_be_tree) (defBody s_must_be_tree) (defScope s_must_be_tree) [] [] (He.ga K "must_be_tree") fd
  F_names_by : ∃ fd, FunD K "names_by" "names_by" (defArgs s_names_by) (defBody s_names_by) (defScope s_names_by) [] [] (He.ga K "names_by") fd
  F_apart_at : ∃ fd, FunD K "apart_at" "apart_at" (defArgs s_apart_at) (defBody s_apart_at) (defScope s_apart_at) [] [] (He.ga K "apart_at") fd
  F_first_apart : ∃ fd, FunD K "first_apart" "first_apart" (defArgs s_first_apart) (defBody s_first_apart) (defScope s_first_apart) [] [] (He.ga K "first_apart") fd
  F_allowed : ∃ fd, FunD K "allowed" "allowed" (defArgs s_allowed) (defBody s_allowed) (defScope s_allowed) [] [] (He.ga K "allowed") fd
  F_hangs_at : ∃ fd, FunD K "hangs_at" "hangs_at" (defArgs s_hangs_at) (defBody s_hangs_at) (defScope s_hangs_at) [] [] (He.ga K "hangs_at") fd
  F_options : ∃ fd, FunD K "options" "options" (defArgs s_options) (defBody s_options) (defScope s_options) [] [] (He.ga K "options") fd
  F_lasts : ∃ fd, FunD K "lasts" "lasts" (defArgs s_lasts) (defBody s_lasts) (defScope s_lasts) [] [] (He.ga K "lasts") fd
  F_taken_out : ∃ fd, FunD K "taken_out" "taken_out" (defArgs s_taken_out) (defBody s_taken_out) (defScope s_taken_out) [] [] (He.ga K "taken_out") fd
  F_tie_of : ∃ fd, FunD K "tie_of" "tie_of" (defArgs s_tie_of) (defBody s_tie_of) (defScope s_tie_of) [] [] (He.ga K "tie_of") fd
  F_tree_told : ∃ fd, FunD K "tree_told" "tree_told" (defArgs s_tree_told) (defBody s_tree_told) (defScope s_tree_told) [] [] (He.ga K "tree_told") fd
  F_tree_wrong : ∃ fd, FunD K "tree_wrong" "tree_wrong" (defArgs s_tree_wrong) (defBody s_tree_wrong) (defScope s_tree_wrong) [] [] (He.ga K "tree_wrong") fd
  F_gone_wrong : ∃ fd, FunD K "gone_wrong" "gone_wrong" (defArgs s_gone_wrong) (defBody s_gone_wrong) (defScope s_gone_wrong) [] [] (He.ga K "gone_wrong") fd
  F_tree_judged : ∃ fd, FunD K "tree_judged" "tree_judged" (defArgs s_tree_judged) (defBody s_tree_judged) (defScope s_tree_judged) [] [] (He.ga K "tree_judged") fd
  F_trees_many : ∃ fd, FunD K "trees_many" "trees_many" (defArgs s_trees_many) (defBody s_trees_many) (defScope s_trees_many) [] [] (He.ga K "trees_many") fd
  F_tree_by : ∃ fd, FunD K "tree_by" "tree_by" (defArgs s_tree_by) (defBody s_tree_by) (defScope s_tree_by) [] [] (He.ga K "tree_by") fd
  F_is_balance : ∃ fd, FunD K "is_balance" "is_balance" (defArgs s_is_balance) (defBody s_is_balance) (defScope s_is_balance) [] [] (He.ga K "is_balance") fd
  F_balance : ∃ fd, FunD K "balance" "balance" (defArgs s_balance) (defBody s_balance) (defScope s_balance) [] [] (He.ga K "balance") fd
  F_does_fall : ∃ fd, FunD K "does_fall" "does_fall" (defArgs s_does_fall) (defBody s_does_fall) (defScope s_does_fall) [] [] (He.ga K "does_fall") fd
  F_number_of : ∃ fd, FunD K "number_of" "number_of" (defArgs s_number_of) (defBody s_number_of) (defScope s_number_of) [] [] (He.ga K "number_of") fd
  F_ranking_of : ∃ fd, FunD K "ranking_of" "ranking_of" (defArgs s_ranking_of) (defBody s_ranking_of) (defScope s_ranking_of) [] [] (He.ga K "ranking_of") fd
  F_in_one : ∃ fd, FunD K "in_one" "in_one" (defArgs s_in_one) (defBody s_in_one) (defScope s_in_one) [] [] (He.ga K "in_one") fd
  F_read_ranking : ∃ fd, FunD K "read_ranking" "read_ranking" (defArgs s_read_ranking) (defBody s_read_ranking) (defScope s_read_ranking) [] [] (He.ga K "read_ranking") fd
  F_folk_text : ∃ fd, FunD K "folk_text" "folk_text" (defArgs s_folk_text) (defBody s_folk_text) (defScope s_folk_text) [] [] (He.ga K "folk_text") fd
  F_read_folk : ∃ fd, FunD K "read_folk" "read_folk" (defArgs s_read_folk) (defBody s_read_folk) (defScope s_read_folk) [] [] (He.ga K "read_folk") fd
  F_is_written : ∃ fd, FunD K "is_written" "is_written" (defArgs s_is_written) (defBody s_is_written) (defScope s_is_written) [] [] (He.ga K "is_written") fd
  F_are_written : ∃ fd, FunD K "are_written" "are_written" (defArgs s_are_written) (defBody s_are_written) (defScope s_are_written) [] [] (He.ga K "are_written") fd
  F_is_bar : ∃ fd, FunD K "is_bar" "is_bar" (defArgs s_is_bar) (defBody s_is_bar) (defScope s_is_bar) [] [] (He.ga K "is_bar") fd
  F_is_paper : ∃ fd, FunD K "is_paper" "is_paper" (defArgs s_is_paper) (defBody s_is_paper) (defScope s_is_paper) [] [] (He.ga K "is_paper") fd
  F_words_of : ∃ fd, FunD K "words_of" "words_of" (defArgs s_words_of) (defBody s_words_of) (defScope s_words_of) [] [] (He.ga K "words_of") fd
  F_paper_text : ∃ fd, FunD K "paper_text" "paper_text" (defArgs s_paper_text) (defBody s_paper_text) (defScope s_paper_text) [] [] (He.ga K "paper_text") fd
  F_numbers_by : ∃ fd, FunD K "numbers_by" "numbers_by" (defArgs s_numbers_by) (defBody s_numbers_by) (defScope s_numbers_by) [] [] (He.ga K "numbers_by") fd
  F_lists_by : ∃ fd, FunD K "lists_by" "lists_by" (defArgs s_lists_by) (defBody s_lists_by) (defScope s_lists_by) [] [] (He.ga K "lists_by") fd
  F_read_paper : ∃ fd, FunD K "read_paper" "read_paper" (defArgs s_read_paper) (defBody s_read_paper) (defScope s_read_paper) [] [] (He.ga K "read_paper") fd
  F_is_title : ∃ fd, FunD K "is_title" "is_title" (defArgs s_is_title) (defBody s_is_title) (defScope s_is_title) [] [] (He.ga K "is_title") fd
  F_is_row : ∃ fd, FunD K "is_row" "is_row" (defArgs s_is_row) (defBody s_is_row) (defScope s_is_row) [] [] (He.ga K "is_row") fd
  F__law_mix : ∃ fd, FunD K "_law_mix" "_law_mix" (defArgs s__law_mix) (defBody s__law_mix) (defScope s__law_mix) [] [] (He.ga K "_law_mix") fd
  F__law_left : ∃ fd, FunD K "_law_left" "_law_left" (defArgs s__law_left) (defBody s__law_left) (defScope s__law_left) [] [] (He.ga K "_law_left") fd
  F__law_draw : ∃ fd, FunD K "_law_draw" "_law_draw" (defArgs s__law_draw) (defBody s__law_draw) (defScope s__law_draw) [] [] (He.ga K "_law_draw") fd
  F__law_names : ∃ fd, FunD K "_law_names" "_law_names" (defArgs s__law_names) (defBody s__law_names) (defScope s__law_names) [] [] (He.ga K "_law_names") fd
  F__law_shuffled : ∃ fd, FunD K "_law_shuffled" "_law_shuffled" (defArgs s__law_shuffled) (defBody s__law_shuffled) (defScope s__law_shuffled) [] [] (He.ga K "_law_shuffled") fd
  F__law_tree : ∃ fd, FunD K "_law_tree" "_law_tree" (defArgs s__law_tree) (defBody s__law_tree) (defScope s__law_tree) [] [] (He.ga K "_law_tree") fd
  F__law_falling : ∃ fd, FunD K "_law_falling" "_law_falling" (defArgs s__law_falling) (defBody s__law_falling) (defScope s__law_falling) [] [] (He.ga K "_law_falling") fd
  F__law_copied : ∃ fd, FunD K "_law_copied" "_law_copied" (defArgs s__law_copied) (defBody s__law_copied) (defScope s__law_copied) [] [] (He.ga K "_law_copied") fd
  F__law_marked : ∃ fd, FunD K "_law_marked" "_law_marked" (defArgs s__law_marked) (defBody s__law_marked) (defScope s__law_marked) [] [] (He.ga K "_law_marked") fd
  F__law_once : ∃ fd, FunD K "_law_once" "_law_once" (defArgs s__law_once) (defBody s__law_once) (defScope s__law_once) [] [] (He.ga K "_law_once") fd
  F__law_emptied : ∃ fd, FunD K "_law_emptied" "_law_emptied" (defArgs s__law_emptied) (defBody s__law_emptied) (defScope s__law_emptied) [] [] (He.ga K "_law_emptied") fd
  F__law_things : ∃ fd, FunD K "_law_things" "_law_things" (defArgs s__law_things) (defBody s__law_things) (defScope s__law_things) [] [] (He.ga K "_law_things") fd
  F__law_call : ∃ fd, FunD K "_law_call" "_law_call" (defArgs s__law_call) (defBody s__law_call) (defScope s__law_call) [] [] (He.ga K "_law_call") fd
  F__law_stays : ∃ fd, FunD K "_law_stays" "_law_stays" (defArgs s__law_stays) (defBody s__law_stays) (defScope s__law_stays) [] [] (He.ga K "_law_stays") fd
  F__law_kept : ∃ fd, FunD K "_law_kept" "_law_kept" (defArgs s__law_kept) (defBody s__law_kept) (defScope s__law_kept) [] [] (He.ga K "_law_kept") fd
  F__law_desk_goes_on : ∃ fd, FunD K "_law_desk_goes_on" "_law_desk_goes_on" (defArgs s__law_desk_goes_on) (defBody s__law_desk_goes_on) (defScope s__law_desk_goes_on) [] [] (He.ga K "_law_desk_goes_on") fd
  F_law : ∃ fd, FunD K "law" "law" (defArgs s_law) (defBody s_law) (defScope s_law) [] [] (He.ga K "law") fd
  F_Desk_init : ∃ fd, FunD K "__init__" "Desk.__init__" (defArgs s_Desk_init) (defBody s_Desk_init) (defScope s_Desk_init) [] [] (He.ma K (dC K) "__init__") fd
  F_Desk_hands : ∃ fd, FunD K "hands" "Desk.hands" (defArgs s_Desk_hands) (defBody s_Desk_hands) (defScope s_Desk_hands) [] [] (He.ma K (dC K) "hands") fd
  F_Desk_titles : ∃ fd, FunD K "titles" "Desk.titles" (defArgs s_Desk_titles) (defBody s_Desk_titles) (defScope s_Desk_titles) [] [] (He.ma K (dC K) "titles") fd
  F_Desk_ranking_by : ∃ fd, FunD K "ranking_by" "Desk.ranking_by" (defArgs s_Desk_ranking_by) (defBody s_Desk_ranking_by) (defScope s_Desk_ranking_by) [] [] (He.ma K (dC K) "ranking_by") fd
  F_Desk_must_rank : ∃ fd, FunD K "must_rank" "Desk.must_rank" (defArgs s_Desk_must_rank) (defBody s_Desk_must_rank) (defScope s_Desk_must_rank) [] [] (He.ma K (dC K) "must_rank") fd
  F_Desk_must_line : ∃ fd, FunD K "must_line" "Desk.must_line" (defArgs s_Desk_must_line) (defBody s_Desk_must_line) (defScope s_Desk_must_line) [] [] (He.ma K (dC K) "must_line") fd
  F_Desk_done : ∃ fd, FunD K "done" "Desk.done" (defArgs s_Desk_done) (defBody s_Desk_done) (defScope s_Desk_done) [] [] (He.ma K (dC K) "done") fd
  F_Desk_come : ∃ fd, FunD K "come" "Desk.come" (defArgs s_Desk_come) (defBody s_Desk_come) (defScope s_Desk_come) [] [] (He.ma K (dC K) "come") fd
  F_Desk_hand_by : ∃ fd, FunD K "hand_by" "Desk.hand_by" (defArgs s_Desk_hand_by) (defBody s_Desk_hand_by) (defScope s_Desk_hand_by) [] [] (He.ma K (dC K) "hand_by") fd
  F_Desk_show : ∃ fd, FunD K "show" "Desk.show" (defArgs s_Desk_show) (defBody s_Desk_show) (defScope s_Desk_show) [] [] (He.ma K (dC K) "show") fd
  F_Desk_along : ∃ fd, FunD K "along" "Desk.along" (defArgs s_Desk_along) (defBody s_Desk_along) (defScope s_Desk_along) [] [] (He.ma K (dC K) "along") fd
  F_Desk_deed : ∃ fd, FunD K "deed" "Desk.deed" (defArgs s_Desk_deed) (defBody s_Desk_deed) (defScope s_Desk_deed) [] [] (He.ma K (dC K) "deed") fd
  F_Desk_say : ∃ fd, FunD K "say" "Desk.say" (defArgs s_Desk_say) (defBody s_Desk_say) (defScope s_Desk_say) [] [] (He.ma K (dC K) "say") fd
  ex : exB K = true
/-! ### what the head is asked -/
def fa0 : List He.Fa := [.glo "is_number", .glo "are_unlike_names", .glo "is_ranking", .glo "is_folk", .glo "must_be_ranking", .glo "must_be_folk", .glo "is_tie", .glo "reached", .glo "hang_together", .glo "is_right_tree", .glo "is_tree", .glo "must_be_tree", .glo "names_by", .glo "apart_at", .glo "first_apart", .glo "allowed", .glo "hangs_at", .glo "options", .glo "lasts", .glo "taken_out", .glo "tie_of", .glo "tree_told", .glo "tree_wrong", .glo "gone_wrong", .glo "tree_judged"]
def fa1 : List He.Fa := [.glo "trees_many", .glo "tree_by", .glo "is_balance", .glo "balance", .glo "does_fall", .glo "number_of", .glo "ranking_of", .glo "in_one", .glo "read_ranking", .glo "folk_text", .glo "read_folk", .glo "is_written", .glo "are_written", .glo "is_bar", .glo "is_paper", .glo "words_of", .glo "paper_text", .glo "numbers_by", .glo "lists_by", .glo "read_paper", .glo "is_title", .glo "is_row", .glo "_law_mix", .glo "_law_left", .glo "_law_draw"]
def fa2 : List He.Fa := [.glo "_law_names", .glo "_law_shuffled", .glo "_law_tree", .glo "_law_falling", .glo "_law_copied", .glo "_law_marked", .glo "_law_once", .glo "_law_emptied", .glo "_law_things", .glo "_law_call", .glo "_law_stays", .glo "_law_kept", .glo "_law_desk_goes_on", .glo "law", .glo "Desk", .glo "LISTS", .glo "FORMS", .glo "COUNTS", .glo "ASKED", .glo "ALONG", .free "isinstance", .free "int", .free "bool", .free "list", .free "tuple"]
def fa3 : List He.Fa := [.free "str", .free "len", .free "all", .free "set", .free "sorted", .free "range", .free "enumerate", .free "min", .free "max", .int "MOST_NAMES" 10, .int "MOST_HANDS" 20, .int "MOST_FIGURES" 30, .int "LONGEST_TITLE" 8, .str "FIGURES" "0123456789", .str "LETTERS" "abcdefghijklmnopqrstuvwxyz", .cls "Desk", .mkr "Desk", .noat "Desk" "names", .noat "Desk" "states", .meth "Desk" "hands", .meth "Desk" "titles", .meth "Desk" "ranking_by", .meth "Desk" "must_rank", .meth "Desk" "must_line", .meth "Desk" "done"]
def fa4 : List He.Fa := [.meth "Desk" "come", .meth "Desk" "hand_by", .meth "Desk" "show", .meth "Desk" "along", .meth "Desk" "deed", .meth "Desk" "say"]
def fa : List He.Fa := fa0 ++ fa1 ++ fa2 ++ fa3 ++ fa4
def d_is_number : He.DefD := ⟨("is_number", none), "is_number", "is_number", defArgs s_is_number, defBody s_is_number, defScope s_is_number, [], []⟩
def d_are_unlike_names : He.DefD := ⟨("are_unlike_names", none), "are_unlike_names", "are_unlike_names", defArgs s_are_unlike_names, defBody s_are_unlike_names, defScope s_are_unlike_names, [], []⟩
def d_is_ranking : He.DefD := ⟨("is_ranking", none), "is_ranking", "is_ranking", defArgs s_is_ranking, defBody s_is_ranking, defScope s_is_ranking, [], []⟩
def d_is_folk : He.DefD := ⟨("is_folk", none), "is_folk", "is_folk", defArgs s_is_folk, defBody s_is_folk, defScope s_is_folk, [], []⟩
def d_must_be_ranking : He.DefD := ⟨("must_be_ranking", none), "must_be_ranking", "must_be_ranking", defArgs s_must_be_ranking, defBody s_must_be_ranking, defScope s_must_be_ranking, [], []⟩
def d_must_be_folk : He.DefD := ⟨("must_be_folk", none), "must_be_folk", "must_be_folk", defArgs s_must_be_folk, defBody s_must_be_folk, defScope s_must_be_folk, [], []⟩
def d_is_tie : He.DefD := ⟨("is_tie", none), "is_tie", "is_tie", defArgs s_is_tie, defBody s_is_tie, defScope s_is_tie, [], []⟩
def d_reached : He.DefD := ⟨("reached", none), "reached", "reached", defArgs s_reached, defBody s_reached, defScope s_reached, [], []⟩
def d_hang_together : He.DefD := ⟨("hang_together", none), "hang_together", "hang_together", defArgs s_hang_together, defBody s_hang_together, defScope s_hang_together, [], []⟩
def d_is_right_tree : He.DefD := ⟨("is_right_tree", none), "is_right_tree", "is_right_tree", defArgs s_is_right_tree, defBody s_is_right_tree, defScope s_is_right_tree, [], []⟩
def d_is_tree : He.DefD := ⟨("is_tree", none), "is_tree", "is_tree", defArgs s_is_tree, defBody s_is_tree, defScope s_is_tree, [], []⟩
def d_must_be_tree : He.DefD := ⟨("must_be_tree", none), "must_be_tree", "must_be_tree", defArgs s_must_be_tree, defBody s_must_be_tree, defScope s_must_be_tree, [], []⟩
def d_names_by : He.DefD := ⟨("names_by", none), "names_by", "names_by", defArgs s_names_by, defBody s_names_by, defScope s_names_by, [], []⟩
def d_apart_at : He.DefD := ⟨("apart_at", none), "apart_at", "apart_at", defArgs s_apart_at, defBody s_apart_at, defScope s_apart_at, [], []⟩
def d_first_apart : He.DefD := ⟨("first_apart", none), "first_apart", "first_apart", defArgs s_first_apart, defBody s_first_apart, defScope s_first_apart, [], []⟩
def d_allowed : He.DefD := ⟨("allowed", none), "allowed", "allowed", defArgs s_allowed, defBody s_allowed, defScope s_allowed, [], []⟩
def d_hangs_at : He.DefD := ⟨("hangs_at", none), "hangs_at", "hangs_at", defArgs s_hangs_at, defBody s_hangs_at, defScope s_hangs_at, [], []⟩
def d_options : He.DefD := ⟨("options", none), "options", "options", defArgs s_options, defBody s_options, defScope s_options, [], []⟩
def d_lasts : He.DefD := ⟨("lasts", none), "lasts", "lasts", defArgs s_lasts, defBody s_lasts, defScope s_lasts, [], []⟩
def d_taken_out : He.DefD := ⟨("taken_out", none), "taken_out", "taken_out", defArgs s_taken_out, defBody s_taken_out, defScope s_taken_out, [], []⟩
def d_tie_of : He.DefD := ⟨("tie_of", none), "tie_of", "tie_of", defArgs s_tie_of, defBody s_tie_of, defScope s_tie_of, [], []⟩
def d_tree_told : He.DefD := ⟨("tree_told", none), "tree_told", "tree_told", defArgs s_tree_told, defBody s_tree_told, defScope s_tree_told, [], []⟩
def d_tree_wrong : He.DefD := ⟨("tree_wrong", none), "tree_wrong", "tree_wrong", defArgs s_tree_wrong, defBody s_tree_wrong, defScope s_tree_wrong, [], []⟩
def d_gone_wrong : He.DefD := ⟨("gone_wrong", none), "gone_wrong", "gone_wrong", defArgs s_gone_wrong, defBody s_gone_wrong, defScope s_gone_wrong, [], []⟩
def d_tree_judged : He.DefD := ⟨("tree_judged", none), "tree_judged", "tree_judged", defArgs s_tree_judged, defBody s_tree_judged, defScope s_tree_judged, [], []⟩
def d_trees_many : He.DefD := ⟨("trees_many", none), "trees_many", "trees_many", defArgs s_trees_many, defBody s_trees_many, defScope s_trees_many, [], []⟩
def d_tree_by : He.DefD := ⟨("tree_by", none), "tree_by", "tree_by", defArgs s_tree_by, defBody s_tree_by, defScope s_tree_by, [], []⟩
def d_is_balance : He.DefD := ⟨("is_balance", none), "is_balance", "is_balance", defArgs s_is_balance, defBody s_is_balance, defScope s_is_balance, [], []⟩
def d_balance : He.DefD := ⟨("balance", none), "balance", "balance", defArgs s_balance, defBody s_balance, defScope s_balance, [], []⟩
def d_does_fall : He.DefD := ⟨("does_fall", none), "does_fall", "does_fall", defArgs s_does_fall, defBody s_does_fall, defScope s_does_fall, [], []⟩
def d_number_of : He.DefD := ⟨("number_of", none), "number_of", "number_of", defArgs s_number_of, defBody s_number_of, defScope s_number_of, [], []⟩
def d_ranking_of : He.DefD := ⟨("ranking_of", none), "ranking_of", "ranking_of", defArgs s_ranking_of, defBody s_ranking_of, defScope s_ranking_of, [], []⟩
def d_in_one : He.DefD := ⟨("in_one", none), "in_one", "in_one", defArgs s_in_one, defBody s_in_one, defScope s_in_one, [], []⟩
def d_read_ranking : He.DefD := ⟨("read_ranking", none), "read_ranking", "read_ranking", defArgs s_read_ranking, defBody s_read_ranking, defScope s_read_ranking, [], []⟩
def d_folk_text : He.DefD := ⟨("folk_text", none), "folk_text", "folk_text", defArgs s_folk_text, defBody s_folk_text, defScope s_folk_text, [], []⟩
def d_read_folk : He.DefD := ⟨("read_folk", none), "read_folk", "read_folk", defArgs s_read_folk, defBody s_read_folk, defScope s_read_folk, [], []⟩
def d_is_written : He.DefD := ⟨("is_written", none), "is_written", "is_written", defArgs s_is_written, defBody s_is_written, defScope s_is_written, [], []⟩
def d_are_written : He.DefD := ⟨("are_written", none), "are_written", "are_written", defArgs s_are_written, defBody s_are_written, defScope s_are_written, [], []⟩
def d_is_bar : He.DefD := ⟨("is_bar", none), "is_bar", "is_bar", defArgs s_is_bar, defBody s_is_bar, defScope s_is_bar, [], []⟩
def d_is_paper : He.DefD := ⟨("is_paper", none), "is_paper", "is_paper", defArgs s_is_paper, defBody s_is_paper, defScope s_is_paper, [], []⟩
def d_words_of : He.DefD := ⟨("words_of", none), "words_of", "words_of", defArgs s_words_of, defBody s_words_of, defScope s_words_of, [], []⟩
def d_paper_text : He.DefD := ⟨("paper_text", none), "paper_text", "paper_text", defArgs s_paper_text, defBody s_paper_text, defScope s_paper_text, [], []⟩
def d_numbers_by : He.DefD := ⟨("numbers_by", none), "numbers_by", "numbers_by", defArgs s_numbers_by, defBody s_numbers_by, defScope s_numbers_by, [], []⟩
def d_lists_by : He.DefD := ⟨("lists_by", none), "lists_by", "lists_by", defArgs s_lists_by, defBody s_lists_by, defScope s_lists_by, [], []⟩
def d_read_paper : He.DefD := ⟨("read_paper", none), "read_paper", "read_paper", defArgs s_read_paper, defBody s_read_paper, defScope s_read_paper, [], []⟩
def d_is_title : He.DefD := ⟨("is_title", none), "is_title", "is_title", defArgs s_is_title, defBody s_is_title, defScope s_is_title, [], []⟩
def d_is_row : He.DefD := ⟨("is_row", none), "is_row", "is_row", defArgs s_is_row, defBody s_is_row, defScope s_is_row, [], []⟩
def d__law_mix : He.DefD := ⟨("_law_mix", none), "_law_mix", "_law_mix", defArgs s__law_mix, defBody s__law_mix, defScope s__law_mix, [], []⟩
def d__law_left : He.DefD := ⟨("_law_left", none), "_law_left", "_law_left", defArgs s__law_left, defBody s__law_left, defScope s__law_left, [], []⟩
def d__law_draw : He.DefD := ⟨("_law_draw", none), "_law_draw", "_law_draw", defArgs s__law_draw, defBody s__law_draw, defScope s__law_draw, [], []⟩
def d__law_names : He.DefD := ⟨("_law_names", none), "_law_names", "_law_names", defArgs s__law_names, defBody s__law_names, defScope s__law_names, [], []⟩
def d__law_shuffled : He.DefD := ⟨("_law_shuffled", none), "_law_shuffled", "_law_shuffled", defArgs s__law_shuffled, defBody s__law_shuffled, defScope s__law_shuffled, [], []⟩
def d__law_tree : He.DefD := ⟨("_law_tree", none), "_law_tree", "_law_tree", defArgs s__law_tree, defBody s__law_tree, defScope s__law_tree, [], []⟩
def d__law_falling : He.DefD := ⟨("_law_falling", none), "_law_falling", "_law_falling", defArgs s__law_falling, defBody s__law_falling, defScope s__law_falling, [], []⟩
def d__law_copied : He.DefD := ⟨("_law_copied", none), "_law_copied", "_law_copied", defArgs s__law_copied, defBody s__law_copied, defScope s__law_copied, [], []⟩
def d__law_marked : He.DefD := ⟨("_law_marked", none), "_law_marked", "_law_marked", defArgs s__law_marked, defBody s__law_marked, defScope s__law_marked, [], []⟩
def d__law_once : He.DefD := ⟨("_law_once", none), "_law_once", "_law_once", defArgs s__law_once, defBody s__law_once, defScope s__law_once, [], []⟩
def d__law_emptied : He.DefD := ⟨("_law_emptied", none), "_law_emptied", "_law_emptied", defArgs s__law_emptied, defBody s__law_emptied, defScope s__law_emptied, [], []⟩
def d__law_things : He.DefD := ⟨("_law_things", none), "_law_things", "_law_things", defArgs s__law_things, defBody s__law_things, defScope s__law_things, [], []⟩
def d__law_call : He.DefD := ⟨("_law_call", none), "_law_call", "_law_call", defArgs s__law_call, defBody s__law_call, defScope s__law_call, [], []⟩
def d__law_stays : He.DefD := ⟨("_law_stays", none), "_law_stays", "_law_stays", defArgs s__law_stays, defBody s__law_stays, defScope s__law_stays, [], []⟩
def d__law_kept : He.DefD := ⟨("_law_kept", none), "_law_kept", "_law_kept", defArgs s__law_kept, defBody s__law_kept, defScope s__law_kept, [], []⟩
def d__law_desk_goes_on : He.DefD := ⟨("_law_desk_goes_on", none), "_law_desk_goes_on", "_law_desk_goes_on", defArgs s__law_desk_goes_on, defBody s__law_desk_goes_on, defScope s__law_desk_goes_on, [], []⟩
def d_law : He.DefD := ⟨("law", none), "law", "law", defArgs s_law, defBody s_law, defScope s_law, [], []⟩
def d_Desk_init : He.DefD := ⟨("Desk", some "__init__"), "__init__", "Desk.__init__", defArgs s_Desk_init, defBody s_Desk_init, defScope s_Desk_init, [], []⟩
def d_Desk_hands : He.DefD := ⟨("Desk", some "hands"), "hands", "Desk.hands", defArgs s_Desk_hands, defBody s_Desk_hands, defScope s_Desk_hands, [], []⟩
def d_Desk_titles : He.DefD := ⟨("Desk", some "titles"), "titles", "Desk.titles", defArgs s_Desk_titles, defBody s_Desk_titles, defScope s_Desk_titles, [], []⟩
def d_Desk_ranking_by : He.DefD := ⟨("Desk", some "ranking_by"), "ranking_by", "Desk.ranking_by", defArgs s_Desk_ranking_by, defBody s_Desk_ranking_by, defScope s_Desk_ranking_by, [], []⟩
def d_Desk_must_rank : He.DefD := ⟨("Desk", some "must_rank"), "must_rank", "Desk.must_rank", defArgs s_Desk_must_rank, defBody s_Desk_must_rank, defScope s_Desk_must_rank, [], []⟩
def d_Desk_must_line : He.DefD := ⟨("Desk", some "must_line"), "must_line", "Desk.must_line", defArgs s_Desk_must_line, defBody s_Desk_must_line, defScope s_Desk_must_line, [], []⟩
def d_Desk_done : He.DefD := ⟨("Desk", some "done"), "done", "Desk.done", defArgs s_Desk_done, defBody s_Desk_done, defScope s_Desk_done, [], []⟩
def d_Desk_come : He.DefD := ⟨("Desk", some "come"), "come", "Desk.come", defArgs s_Desk_come, defBody s_Desk_come, defScope s_Desk_come, [], []⟩
def d_Desk_hand_by : He.DefD := ⟨("Desk", some "hand_by"), "hand_by", "Desk.hand_by", defArgs s_Desk_hand_by, defBody s_Desk_hand_by, defScope s_Desk_hand_by, [], []⟩
def d_Desk_show : He.DefD := ⟨("Desk", some "show"), "show", "Desk.show", defArgs s_Desk_show, defBody s_Desk_show, defScope s_Desk_show, [], []⟩
def d_Desk_along : He.DefD := ⟨("Desk", some "along"), "along", "Desk.along", defArgs s_Desk_along, defBody s_Desk_along, defScope s_Desk_along, [], []⟩
def d_Desk_deed : He.DefD := ⟨("Desk", some "deed"), "deed", "Desk.deed", defArgs s_Desk_deed, defBody s_Desk_deed, defScope s_Desk_deed, [], []⟩
def d_Desk_say : He.DefD := ⟨("Desk", some "say"), "say", "Desk.say", defArgs s_Desk_say, defBody s_Desk_say, defScope s_Desk_say, [], []⟩
def fn0 : List He.DefD := [d_is_number, d_are_unlike_names, d_is_ranking, d_is_folk, d_must_be_ranking, d_must_be_folk, d_is_tie, d_reached, d_hang_together, d_is_right_tree, d_is_tree, d_must_be_tree, d_names_by, d_apart_at, d_first_apart, d_allowed, d_hangs_at, d_options, d_lasts, d_taken_out, d_tie_of, d_tree_told, d_tree_wrong, d_gone_wrong, d_tree_judged]
def fn1 : List He.DefD := [d_trees_many, d_tree_by, d_is_balance, d_balance, d_does_fall, d_number_of, d_ranking_of, d_in_one, d_read_ranking, d_folk_text, d_read_folk, d_is_written, d_are_written, d_is_bar, d_is_paper, d_words_of, d_paper_text, d_numbers_by, d_lists_by, d_read_paper, d_is_title, d_is_row, d__law_mix, d__law_left, d__law_draw]
def fn2 : List He.DefD := [d__law_names, d__law_shuffled, d__law_tree, d__law_falling, d__law_copied, d__law_marked, d__law_once, d__law_emptied, d__law_things, d__law_call, d__law_stays, d__law_kept, d__law_desk_goes_on, d_law, d_Desk_init, d_Desk_hands, d_Desk_titles, d_Desk_ranking_by, d_Desk_must_rank, d_Desk_must_line, d_Desk_done, d_Desk_come, d_Desk_hand_by, d_Desk_show, d_Desk_along]
def fn3 : List He.DefD := [d_Desk_deed, d_Desk_say]
def fn : List He.DefD := fn0 ++ fn1 ++ fn2 ++ fn3
def tabs : List He.Tab := [(fun K => He.ga K "FORMS", ["three", "four", "apart", "cross"]), (fun K => He.ga K "COUNTS", ["come", "turn", "weigh", "go", "back", "hands", "show", "unlike", "nearest"]), (fun K => He.ga K "ASKED", ["line", "row", "tree", "order", "lines", "trees", "unbeaten", "ahead", "middle"]), (fun K => He.ga K "ALONG", ["few", "falls"])]
def glN0 : List Str := ["is_number", "are_unlike_names", "is_ranking", "is_folk", "must_be_ranking", "must_be_folk", "is_tie", "reached", "hang_together", "is_right_tree", "is_tree", "must_be_tree", "names_by", "apart_at", "first_apart", "allowed", "hangs_at", "options", "lasts", "taken_out", "tie_of", "tree_told", "tree_wrong", "gone_wrong", "tree_judged"]
def glN1 : List Str := ["trees_many", "tree_by", "is_balance", "balance", "does_fall", "number_of", "ranking_of", "in_one", "read_ranking", "folk_text", "read_folk", "is_written", "are_written", "is_bar", "is_paper", "words_of", "paper_text", "numbers_by", "lists_by", "read_paper", "is_title", "is_row", "_law_mix", "_law_left", "_law_draw"]
def glN2 : List Str := ["_law_names", "_law_shuffled", "_law_tree", "_law_falling", "_law_copied", "_law_marked", "_law_once", "_law_emptied", "_law_things", "_law_call", "_law_stays", "_law_kept", "_law_desk_goes_on", "law", "Desk", "LISTS", "FORMS", "COUNTS", "ASKED", "ALONG"]
def glN : List Str := glN0 ++ glN1 ++ glN2
def refsAt (g : Addr → Option Obj) (as : List Addr) : List Addr := as.flatMap fun a => match g a with
  | some o => He.refsD o
  | none => []
/-- the names of a class, the address of its dict -/
def clsNs (g : Addr → Option Obj) (a : Addr) : List Addr := match g a with
  | some ⟨_, _, .cls cd, _⟩ => [cd.ns]
  | _ => []
def as1 (g : Addr → Option Obj) : List Addr := glN.map fun x => He.ga (He.frG g [mainGlobals]) x
def asM (g : Addr → Option Obj) : List Addr := refsAt g (clsNs g (He.ga (He.frG g [mainGlobals]) "Desk"))
def asO (g : Addr → Option Obj) : List Addr := mainGlobals :: (as1 g ++ (refsAt g (as1 g) ++ (asM g ++ refsAt g (asM g))))
abbrev AlO : Type := He.AlT × Bool
def obO (g : Addr → Option Obj) : AlO := (He.obsT fa fn tabs (He.frG g (asO g)), exB (He.frG g (asO g)))
def valO (w : World) : AlO := (He.valT fn tabs w, true)
structure SaysO (w : World) (K : PySem.W.Frag) : Prop where
  t : He.SaysT fa fn tabs w K
  more : exB K = true
def hookO : PySem.W.Hook where
  α := AlO
  obs := fun s => obO s.heap.get?
  val := fun w => valO w
  says := fun w h => ∃ K : PySem.W.Frag, K.In h ∧ SaysO w K
  of := fun _ _ e => ⟨_, He.frG_in, ⟨congrArg (fun z : AlO => z.1) e, congrArg (fun z : AlO => z.2) e⟩⟩
  keeps := fun _ _ _ ⟨K, hK, c⟩ k => ⟨K, PySem.W.Frag.In.keeps hK k, c⟩
theorem obO_eq {g : Addr → Option Obj} {s : Shared} (h : ∀ a, g a = s.heap.get? a) : obO g = hookO.obs s := by
  have e : g = s.heap.get? := funext h
  rw [e]
  rfl
theorem tx_of {w : World} {K : PySem.W.Frag} {h : Heap} {mg : Str → Option Value} (X : K.In h) (G : h.Ns mainGlobals mg) (c : SaysO w K) : Tx w K mg :=
  { g_is_number := He.glo_ok X G (c.t.d.fact 0 (f := .glo "is_number") rfl)
    g_are_unlike_names := He.glo_ok X G (c.t.d.fact 1 (f := .glo "are_unlike_names") rfl)
    g_is_ranking := He.glo_ok X G (c.t.d.fact 2 (f := .glo "is_ranking") rfl)
    g_is_folk := He.glo_ok X G (c.t.d.fact 3 (f := .glo "is_folk") rfl)
    g_must_be_ranking := He.glo_ok X G (c.t.d.fact 4 (f := .glo "must_be_ranking") rfl)
    g_must_be_folk := He.glo_ok X G (c.t.d.fact 5 (f := .glo "must_be_folk") rfl)
    g_is_tie := He.glo_ok X G (c.t.d.fact 6 (f := .glo "is_tie") rfl)
    g_reached := He.glo_ok X G (c.t.d.fact 7 (f := .glo "reached") rfl)
    g_hang_together := He.glo_ok X G (c.t.d.fact 8 (f := .glo "hang_together") rfl)
    g_is_right_tree := He.glo_ok X G (c.t.d.fact 9 (f := .glo "is_right_tree") rfl)
    g_is_tree := He.glo_ok X G (c.t.d.fact 10 (f := .glo "is_tree") rfl)
    g_must_be_tree := He.glo_ok X G (c.t.d.fact 11 (f := .glo "must_be_tree") rfl)
    g_names_by := He.glo_ok X G (c.t.d.fact 12 (f := .glo "names_by") rfl)
    g_apart_at := He.glo_ok X G (c.t.d.fact 13 (f := .glo "apart_at") rfl)
    g_first_apart := He.glo_ok X G (c.t.d.fact 14 (f := .glo "first_apart") rfl)
    g_allowed := He.glo_ok X G (c.t.d.fact 15 (f := .glo "allowed") rfl)
    g_hangs_at := He.glo_ok X G (c.t.d.fact 16 (f := .glo "hangs_at") rfl)
    g_options := He.glo_ok X G (c.t.d.fact 17 (f := .glo "options") rfl)
    g_lasts := He.glo_ok X G (c.t.d.fact 18 (f := .glo "lasts") rfl)
    g_taken_out := He.glo_ok X G (c.t.d.fact 19 (f := .glo "taken_out") rfl)
    g_tie_of := He.glo_ok X G (c.t.d.fact 20 (f := .glo "tie_of") rfl)
    g_tree_told := He.glo_ok X G (c.t.d.fact 21 (f := .glo "tree_told") rfl)
    g_tree_wrong := He.glo_ok X G (c.t.d.fact 22 (f := .glo "tree_wrong") rfl)
    g_gone_wrong := He.glo_ok X G (c.t.d.fact 23 (f := .glo "gone_wrong") rfl)
    g_tree_judged := He.glo_ok X G (c.t.d.fact 24 (f := .glo "tree_judged") rfl)
    g_trees_many := He.glo_ok X G (c.t.d.fact 25 (f := .glo "trees_many") rfl)
    g_tree_by := He.glo_ok X G (c.t.d.fact 26 (f := .glo "tree_by") rfl)
    g_is_balance := He.glo_ok X G (c.t.d.fact 27 (f := .glo "is_balance") rfl)
    g_balance := He.glo_ok X G (c.t.d.fact 28 (f := .glo "balance") rfl)
    g_does_fall := He.glo_ok X G (c.t.d.fact 29 (f := .glo "does_fall") rfl)
    g_number_of := He.glo_ok X G (c.t.d.fact 30 (f := .glo "number_of") rfl)
    g_ranking_of := He.glo_ok X G (c.t.d.fact 31 (f := .glo "ranking_of") rfl)
    g_in_one := He.glo_ok X G (c.t.d.fact 32 (f := .glo "in_one") rfl)
    g_read_ranking := He.glo_ok X G (c.t.d.fact 33 (f := .glo "read_ranking") rfl)
    g_folk_text := He.glo_ok X G (c.t.d.fact 34 (f := .glo "folk_text") rfl)
    g_read_folk := He.glo_ok X G (c.t.d.fact 35 (f := .glo "read_folk") rfl)
    g_is_written := He.glo_ok X G (c.t.d.fact 36 (f := .glo "is_written") rfl)
    g_are_written := He.glo_ok X G (c.t.d.fact 37 (f := .glo "are_written") rfl)
    g_is_bar := He.glo_ok X G (c.t.d.fact 38 (f := .glo "is_bar") rfl)
    g_is_paper := He.glo_ok X G (c.t.d.fact 39 (f := .glo "is_paper") rfl)
    g_words_of := He.glo_ok X G (c.t.d.fact 40 (f := .glo "words_of") rfl)
    g_paper_text := He.glo_ok X G (c.t.d.fact 41 (f := .glo "paper_text") rfl)
    g_numbers_by := He.glo_ok X G (c.t.d.fact 42 (f := .glo "numbers_by") rfl)
    g_lists_by := He.glo_ok X G (c.t.d.fact 43 (f := .glo "lists_by") rfl)
    g_read_paper := He.glo_ok X G (c.t.d.fact 44 (f := .glo "read_paper") rfl)
    g_is_title := He.glo_ok X G (c.t.d.fact 45 (f := .glo "is_title") rfl)
    g_is_row := He.glo_ok X G (c.t.d.fact 46 (f := .glo "is_row") rfl)
    g__law_mix := He.glo_ok X G (c.t.d.fact 47 (f := .glo "_law_mix") rfl)
    g__law_left := He.glo_ok X G (c.t.d.fact 48 (f := .glo "_law_left") rfl)
    g__law_draw := He.glo_ok X G (c.t.d.fact 49 (f := .glo "_law_draw") rfl)
    g__law_names := He.glo_ok X G (c.t.d.fact 50 (f := .glo "_law_names") rfl)
    g__law_shuffled := He.glo_ok X G (c.t.d.fact 51 (f := .glo "_law_shuffled") rfl)
    g__law_tree := He.glo_ok X G (c.t.d.fact 52 (f := .glo "_law_tree") rfl)
    g__law_falling := He.glo_ok X G (c.t.d.fact 53 (f := .glo "_law_falling") rfl)
    g__law_copied := He.glo_ok X G (c.t.d.fact 54 (f := .glo "_law_copied") rfl)
    g__law_marked := He.glo_ok X G (c.t.d.fact 55 (f := .glo "_law_marked") rfl)
    g__law_once := He.glo_ok X G (c.t.d.fact 56 (f := .glo "_law_once") rfl)
    g__law_emptied := He.glo_ok X G (c.t.d.fact 57 (f := .glo "_law_emptied") rfl)
    g__law_things := He.glo_ok X G (c.t.d.fact 58 (f := .glo "_law_things") rfl)
    g__law_call := He.glo_ok X G (c.t.d.fact 59 (f := .glo "_law_call") rfl)
    g__law_stays := He.glo_ok X G (c.t.d.fact 60 (f := .glo "_law_stays") rfl)
    g__law_kept := He.glo_ok X G (c.t.d.fact 61 (f := .glo "_law_kept") rfl)
    g__law_desk_goes_on := He.glo_ok X G (c.t.d.fact 62 (f := .glo "_law_desk_goes_on") rfl)
    g_law := He.glo_ok X G (c.t.d.fact 63 (f := .glo "law") rfl)
    g_Desk := He.glo_ok X G (c.t.d.fact 64 (f := .glo "Desk") rfl)
    g_LISTS := He.glo_ok X G (c.t.d.fact 65 (f := .glo "LISTS") rfl)
    g_FORMS := He.glo_ok X G (c.t.d.fact 66 (f := .glo "FORMS") rfl)
    g_COUNTS := He.glo_ok X G (c.t.d.fact 67 (f := .glo "COUNTS") rfl)
    g_ASKED := He.glo_ok X G (c.t.d.fact 68 (f := .glo "ASKED") rfl)
    g_ALONG := He.glo_ok X G (c.t.d.fact 69 (f := .glo "ALONG") rfl)
    b_isinstance := He.free_ok X G (c.t.d.fact 70 (f := .free "isinstance") rfl)
    b_int := He.free_ok X G (c.t.d.fact 71 (f := .free "int") rfl)
    b_bool := He.free_ok X G (c.t.d.fact 72 (f := .free "bool") rfl)
    b_list := He.free_ok X G (c.t.d.fact 73 (f := .free "list") rfl)
    b_tuple := He.free_ok X G (c.t.d.fact 74 (f := .free "tuple") rfl)
    b_str := He.free_ok X G (c.t.d.fact 75 (f := .free "str") rfl)
    b_len := He.free_ok X G (c.t.d.fact 76 (f := .free "len") rfl)
    b_all := He.free_ok X G (c.t.d.fact 77 (f := .free "all") rfl)
    b_set := He.free_ok X G (c.t.d.fact 78 (f := .free "set") rfl)
    b_sorted := He.free_ok X G (c.t.d.fact 79 (f := .free "sorted") rfl)
    b_range := He.free_ok X G (c.t.d.fact 80 (f := .free "range") rfl)
    b_enumerate := He.free_ok X G (c.t.d.fact 81 (f := .free "enumerate") rfl)
    b_min := He.free_ok X G (c.t.d.fact 82 (f := .free "min") rfl)
    b_max := He.free_ok X G (c.t.d.fact 83 (f := .free "max") rfl)
    i_MOST_NAMES := He.int_ok X G (c.t.d.fact 84 (f := .int "MOST_NAMES" 10) rfl)
    i_MOST_HANDS := He.int_ok X G (c.t.d.fact 85 (f := .int "MOST_HANDS" 20) rfl)
    i_MOST_FIGURES := He.int_ok X G (c.t.d.fact 86 (f := .int "MOST_FIGURES" 30) rfl)
    i_LONGEST_TITLE := He.int_ok X G (c.t.d.fact 87 (f := .int "LONGEST_TITLE" 8) rfl)
    t_FIGURES := He.str_ok X G (c.t.d.fact 88 (f := .str "FIGURES" "0123456789") rfl)
    t_LETTERS := He.str_ok X G (c.t.d.fact 89 (f := .str "LETTERS" "abcdefghijklmnopqrstuvwxyz") rfl)
    cl := He.cls_ok (c.t.d.fact 90 (f := .cls "Desk") rfl)
    mkr := He.mkr_ok (c.t.d.fact 91 (f := .mkr "Desk") rfl)
    n_names := He.noat_ok (c.t.d.fact 92 (f := .noat "Desk" "names") rfl)
    n_states := He.noat_ok (c.t.d.fact 93 (f := .noat "Desk" "states") rfl)
    m_hands := He.meth_ok (c.t.d.fact 94 (f := .meth "Desk" "hands") rfl)
    m_titles := He.meth_ok (c.t.d.fact 95 (f := .meth "Desk" "titles") rfl)
    m_ranking_by := He.meth_ok (c.t.d.fact 96 (f := .meth "Desk" "ranking_by") rfl)
    m_must_rank := He.meth_ok (c.t.d.fact 97 (f := .meth "Desk" "must_rank") rfl)
    m_must_line := He.meth_ok (c.t.d.fact 98 (f := .meth "Desk" "must_line") rfl)
    m_done := He.meth_ok (c.t.d.fact 99 (f := .meth "Desk" "done") rfl)
    m_come := He.meth_ok (c.t.d.fact 100 (f := .meth "Desk" "come") rfl)
    m_hand_by := He.meth_ok (c.t.d.fact 101 (f := .meth "Desk" "hand_by") rfl)
    m_show := He.meth_ok (c.t.d.fact 102 (f := .meth "Desk" "show") rfl)
    m_along := He.meth_ok (c.t.d.fact 103 (f := .meth "Desk" "along") rfl)
    m_deed := He.meth_ok (c.t.d.fact 104 (f := .meth "Desk" "deed") rfl)
    m_say := He.meth_ok (c.t.d.fact 105 (f := .meth "Desk" "say") rfl)
    d_FORMS := c.t.tab 0
    d_COUNTS := c.t.tab 1
    d_ASKED := c.t.tab 2
    d_ALONG := c.t.tab 3
    F_is_number := c.t.d.def_ 0 (d := d_is_number) rfl
    F_are_unlike_names := c.t.d.def_ 1 (d := d_are_unlike_names) rfl
    F_is_ranking := c.t.d.def_ 2 (d := d_is_ranking) rfl
    F_is_folk := c.t.d.def_ 3 (d := d_is_folk) rfl
    F_must_be_ranking := c.t.d.def_ 4 (d := d_must_be_ranking) rfl
    F_must_be_folk := c.t.d.def_ 5 (d := d_must_be_folk) rfl
    F_is_tie := c.t.d.def_ 6 (d := d_is_tie) rfl
    F_reached := c.t.d.def_ 7 (d := d_reached) rfl
    F_hang_together := c.t.d.def_ 8 (d := d_hang_together) rfl
    F_is_right_tree := c.t.d.def_ 9 (d := d_is_right_tree) rfl
    F_is_tree := c.t.d.def_ 10 (d := d_is_tree) rfl
    F_must_be_tree := c.t.d.def_ 11 (d := d_must_be_tree) rfl
    F_names_by := c.t.d.def_ 12 (d := d_names_by) rfl
    F_apart_at := c.t.d.def_ 13 (d := d_apart_at) rfl
    F_first_apart := c.t.d.def_ 14 (d := d_first_apart) rfl
    F_allowed := c.t.d.def_ 15 (d := d_allowed) rfl
    F_hangs_at := c.t.d.def_ 16 (d := d_hangs_at) rfl
    F_options := c.t.d.def_ 17 (d := d_options) rfl
    F_lasts := c.t.d.def_ 18 (d := d_lasts) rfl
    F_taken_out := c.t.d.def_ 19 (d := d_taken_out) rfl
    F_tie_of := c.t.d.def_ 20 (d := d_tie_of) rfl
    F_tree_told := c.t.d.def_ 21 (d := d_tree_told) rfl
    F_tree_wrong := c.t.d.def_ 22 (d := d_tree_wrong) rfl
    F_gone_wrong := c.t.d.def_ 23 (d := d_gone_wrong) rfl
    F_tree_judged := c.t.d.def_ 24 (d := d_tree_judged) rfl
    F_trees_many := c.t.d.def_ 25 (d := d_trees_many) rfl
    F_tree_by := c.t.d.def_ 26 (d := d_tree_by) rfl
    F_is_balance := c.t.d.def_ 27 (d := d_is_balance) rfl
    F_balance := c.t.d.def_ 28 (d := d_balance) rfl
    F_does_fall := c.t.d.def_ 29 (d := d_does_fall) rfl
    F_number_of := c.t.d.def_ 30 (d := d_number_of) rfl
    F_ranking_of := c.t.d.def_ 31 (d := d_ranking_of) rfl
    F_in_one := c.t.d.def_ 32 (d := d_in_one) rfl
    F_read_ranking := c.t.d.def_ 33 (d := d_read_ranking) rfl
    F_folk_text := c.t.d.def_ 34 (d := d_folk_text) rfl
    F_read_folk := c.t.d.def_ 35 (d := d_read_folk) rfl
    F_is_written := c.t.d.def_ 36 (d := d_is_written) rfl
    F_are_written := c.t.d.def_ 37 (d := d_are_written) rfl
    F_is_bar := c.t.d.def_ 38 (d := d_is_bar) rfl
    F_is_paper := c.t.d.def_ 39 (d := d_is_paper) rfl
    F_words_of := c.t.d.def_ 40 (d := d_words_of) rfl
    F_paper_text := c.t.d.def_ 41 (d := d_paper_text) rfl
    F_numbers_by := c.t.d.def_ 42 (d := d_numbers_by) rfl
    F_lists_by := c.t.d.def_ 43 (d := d_lists_by) rfl
    F_read_paper := c.t.d.def_ 44 (d := d_read_paper) rfl
    F_is_title := c.t.d.def_ 45 (d := d_is_title) rfl
    F_is_row := c.t.d.def_ 46 (d := d_is_row) rfl
    F__law_mix := c.t.d.def_ 47 (d := d__law_mix) rfl
    F__law_left := c.t.d.def_ 48 (d := d__law_left) rfl
    F__law_draw := c.t.d.def_ 49 (d := d__law_draw) rfl
    F__law_names := c.t.d.def_ 50 (d := d__law_names) rfl
    F__law_shuffled := c.t.d.def_ 51 (d := d__law_shuffled) rfl
    F__law_tree := c.t.d.def_ 52 (d := d__law_tree) rfl
    F__law_falling := c.t.d.def_ 53 (d := d__law_falling) rfl
    F__law_copied := c.t.d.def_ 54 (d := d__law_copied) rfl
    F__law_marked := c.t.d.def_ 55 (d := d__law_marked) rfl
    F__law_once := c.t.d.def_ 56 (d := d__law_once) rfl
    F__law_emptied := c.t.d.def_ 57 (d := d__law_emptied) rfl
    F__law_things := c.t.d.def_ 58 (d := d__law_things) rfl
    F__law_call := c.t.d.def_ 59 (d := d__law_call) rfl
    F__law_stays := c.t.d.def_ 60 (d := d__law_stays) rfl
    F__law_kept := c.t.d.def_ 61 (d := d__law_kept) rfl
    F__law_desk_goes_on := c.t.d.def_ 62 (d := d__law_desk_goes_on) rfl
    F_law := c.t.d.def_ 63 (d := d_law) rfl
    F_Desk_init := c.t.d.def_ 64 (d := d_Desk_init) rfl
    F_Desk_hands := c.t.d.def_ 65 (d := d_Desk_hands) rfl
    F_Desk_titles := c.t.d.def_ 66 (d := d_Desk_titles) rfl
    F_Desk_ranking_by := c.t.d.def_ 67 (d := d_Desk_ranking_by) rfl
    F_Desk_must_rank := c.t.d.def_ 68 (d := d_Desk_must_rank) rfl
    F_Desk_must_line := c.t.d.def_ 69 (d := d_Desk_must_line) rfl
    F_Desk_done := c.t.d.def_ 70 (d := d_Desk_done) rfl
    F_Desk_come := c.t.d.def_ 71 (d := d_Desk_come) rfl
    F_Desk_hand_by := c.t.d.def_ 72 (d := d_Desk_hand_by) rfl
    F_Desk_show := c.t.d.def_ 73 (d := d_Desk_show) rfl
    F_Desk_along := c.t.d.def_ 74 (d := d_Desk_along) rfl
    F_Desk_deed := c.t.d.def_ 75 (d := d_Desk_deed) rfl
    F_Desk_say := c.t.d.def_ 76 (d := d_Desk_say) rfl
    ex := c.more }
end Ol
namespace Ol
open PySem PySem.W PySem.Calls PyProof.Rows
abbrev Row : OpenRow := OpenLaw.row PySem.Challenge.rw_ontheline_k89_whole_answers_held
abbrev qv : Program := view Row.prog [160]
def loose0 : List PySem.Str := ["FolkError", "NoRanking", "NoFolk", "NoNames", "NoFit", "NoLine", "NoNumber", "NoTree", "NoPaper", "NoText", "NoTitle", "NoRow", "NoBack", "TooGreat", "NoWeights", "NoFall", "MOST_NAMES", "MOST_HANDS", "is_number", "are_unlike_names", "is_ranking", "is_folk", "must_be_ranking", "must_be_folk", "is_ahead", "pairs_of", "places_of_pairs", "many_unlike", "must_be_alike_named", "unlike"]
def loose1 : List PySem.Str := ["is_tie", "reached", "hang_together", "is_right_tree", "is_tree", "must_be_tree", "names_by", "apart_at", "first_apart", "allowed", "hangs_at", "options", "lasts", "taken_out", "tie_of", "tree_told", "tree_wrong", "gone_wrong", "tree_judged", "trees_many", "tree_by", "is_balance", "balance", "is_line", "must_be_line", "must_be_on", "does_fall", "grown", "lines_for", "all_lines"]
def loose2 : List PySem.Str := ["last_hands", "three_bar", "four_names", "four_bar", "line_paper", "built", "must_be_weighed", "must_fall", "lead", "margin", "beaters", "ring_among", "order_of", "unbeaten", "first_half", "middle", "paid", "cost", "gain", "bounds", "filled", "filled_few", "must_be_asked", "last_of", "few", "behind", "ends_at", "filled_nearest", "nearest", "changes"]
def loose3 : List PySem.Str := ["first_twice", "row_from", "lone_pair", "apart_bar", "sides_of", "cross_bar", "row_paper", "row_built", "FIGURES", "MOST_FIGURES", "FORMS", "LISTS", "number_of", "ranking_of", "in_one", "read_ranking", "folk_text", "read_folk", "is_written", "are_written", "is_written_tie", "is_bar", "is_paper", "words_of", "paper_text", "tie_by", "numbers_by", "lists_by", "ties_by", "read_paper"]
def loose4 : List PySem.Str := ["LETTERS", "LONGEST_TITLE", "COUNTS", "ASKED", "ALONG", "is_title", "is_row", "asked_number", "by_blanks", "Desk", "_law_mix", "_law_left", "_law_draw", "_law_names", "_law_shuffled", "_law_tree", "_law_falling", "_law_folk", "_law_copied", "_law_marked", "_law_once", "_law_emptied", "_law_things", "_law_call", "_law_stays", "_law_kept", "_law_desk_goes_on"]
def loose : List PySem.Str := loose0 ++ loose1 ++ loose2 ++ loose3 ++ loose4
abbrev hk : PySem.W.Hook := hookO
def ob (s : PySem.W.SharedT) : AlO := obO (HandSHeadRun.getT s)
theorem ob_eq (s : PySem.W.SharedT) : ob s = hk.obs s.abs := obO_eq (HandSHeadRun.getT_eq s)
noncomputable abbrev endOf (w : World) (os : OsState) : Option SharedT := HandSHeadRun.endF (HandSHeadRun.stepQ (HandSHeadRun.denQ HandSHeadRun.tabQ) Row.prog w) 9000 Row.prog w os
/-- the looks behind the top; then the Hook's own: two equations, so that each keeps to its memory -/
def EqA (w : World) : Prop := ∀ os : OsState, (endOf w os).map (fun s => (HandSHeadRun.looksF Row.prog (boot_heap w.params) s.abs, HandSHeadRun.seenQ qv loose (importedModules Row.prog.main.body) (fun s => xlAt qv [] s && recOk Row.toRowW.records s) s.abs)) = some (true, openGood qv loose)
def EqB (w : World) : Prop := ∀ os : OsState, (endOf w os).map ob = some (hk.val w)
theorem eq_both {w : World} (a : EqA w) (b : EqB w) : HandSHeadRun.RunEq Row qv hk ob 9000 loose w := by
  intro os
  have a1 := a os
  have b1 := b os
  show (endOf w os).map _ = _
  generalize endOf w os = x at a1 b1 ⊢
  cases x with
  | none => cases b1
  | some s =>
    have a2 := Option.some.inj a1
    have b2 : ob s = hk.val w := Option.some.inj b1
    obtain ⟨a3, a4⟩ := Prod.mk.inj a2
    exact congrArg some (Prod.ext a3 (Prod.ext a4 b2))
theorem runA_false (w : World) : EqA (w.withFollow "special-get-raises" false) := by
  intro os
  kernel_rfl
theorem runB_false (w : World) : EqB (w.withFollow "special-get-raises" false) := by
  intro os
  kernel_rfl
theorem runA_true (w : World) : EqA (w.withFollow "special-get-raises" true) := by
  intro os
  kernel_rfl
theorem runB_true (w : World) : EqB (w.withFollow "special-get-raises" true) := by
  intro os
  kernel_rfl
theorem run (w : World) : HandSHeadRun.RunEq Row qv hk ob 9000 loose w := byRow2 "special-get-raises" (P := fun w => HandSHeadRun.RunEq Row qv hk ob 9000 loose w) (fun w => eq_both (runA_false w) (runB_false w)) (fun w => eq_both (runA_true w) (runB_true w)) w
end Ol
/-! Plain mathematics of the claim: what hangs together, trees, the balance, sorted lists. -/
namespace Ol
/-! ### lists -/
theorem len_le_of_sub {α : Type} [DecidableEq α] : ∀ (l m : List α), l.Nodup → (∀ x ∈ l, x ∈ m) → l.length ≤ m.length
  | [], _, _, _ => Nat.zero_le _
  | x :: l, m, hn, hs => by
    obtain ⟨h1, h2⟩ := List.nodup_cons.mp hn
    have hx : x ∈ m := hs x List.mem_cons_self
    have ih := len_le_of_sub l (m.erase x) h2 fun y hy => by
      have hne : y ≠ x := fun e => h1 (e ▸ hy)
      exact (List.mem_erase_of_ne hne).2 (hs y (List.mem_cons_of_mem _ hy))
    have e := List.length_erase_of_mem hx
    have hp : 0 < m.length := List.length_pos_of_mem hx
    rw [List.length_cons]
    omega
theorem exists_missing {α : Type} [DecidableEq α] {l m : List α} (hm : m.Nodup) (h : l.length < m.length) : ∃ x ∈ m, x ∉ l := by
  rcases Classical.em (∃ x ∈ m, x ∉ l) with c | c
  · exact c
  · exfalso
    have q := len_le_of_sub m l hm fun x hx => by
      rcases Classical.em (x ∈ l) with k | k
      · exact k
      · exact absurd ⟨x, hx, k⟩ c
    omega
theorem sub_of_len {α : Type} [DecidableEq α] {l m : List α} (hl : l.Nodup) (hs : ∀ x ∈ l, x ∈ m) (hlen : m.length ≤ l.length) (hm : m.Nodup) : ∀ x ∈ m, x ∈ l := by
  intro x hx
  rcases Classical.em (x ∈ l) with k | k
  · exact k
  · have h1 : (x :: l).Nodup := List.nodup_cons.mpr ⟨k, hl⟩
    have q := len_le_of_sub (x :: l) m h1 fun y hy => by
      rcases List.mem_cons.mp hy with e | hy
      · rw [e]; exact hx
      · exact hs y hy
    rw [List.length_cons] at q
    omega

/-! ### what hangs together -/
abbrev Tie := Int × Int
def Closed (ties : List Tie) (some : List Int) (S : Int → Prop) : Prop := ∀ t ∈ ties, t.1 ∈ some → t.2 ∈ some → (S t.1 ↔ S t.2)
/-- what reached tells -/
structure Reach (ties : List Tie) (some : List Int) (first : Int) (r : List Int) : Prop where
  nd : r.Nodup
  mem : first ∈ r
  cl : Closed ties some (· ∈ r)
  least : ∀ S : Int → Prop, S first → Closed ties some S → ∀ x ∈ r, S x
/-- one tie's turn -/
def grow (some : List Int) (found : List Int) (t : Tie) : List Int :=
  if t.1 ∈ some ∧ t.2 ∈ some ∧ ¬ (t.1 ∈ found ↔ t.2 ∈ found) then found ++ [t.1, t.2].filter (fun x => !decide (x ∈ found)) else found
def pass (ties : List Tie) (some found : List Int) : List Int := ties.foldl (grow some) found
/-- what is so within -/
structure Part (ties : List Tie) (some : List Int) (first : Int) (r : List Int) : Prop where
  nd : r.Nodup
  mem : first ∈ r
  least : ∀ S : Int → Prop, S first → Closed ties some S → ∀ x ∈ r, S x
theorem Part.start {ties : List Tie} {some : List Int} {first : Int} : Part ties some first [first] :=
  ⟨List.nodup_cons.mpr ⟨List.not_mem_nil, List.nodup_nil⟩, List.mem_singleton.mpr rfl, fun S h _ x hx => by rw [List.mem_singleton.mp hx]; exact h⟩
theorem grow_le (some found : List Int) (t : Tie) : found.length ≤ (grow some found t).length := by
  unfold grow
  split
  · rw [List.length_append]; omega
  · exact Nat.le_refl _
theorem grow_same {some found : List Int} {t : Tie} (h : (grow some found t).length ≤ found.length) : grow some found t = found ∧ (t.1 ∈ some → t.2 ∈ some → (t.1 ∈ found ↔ t.2 ∈ found)) := by
  unfold grow at h ⊢
  by_cases c : t.1 ∈ some ∧ t.2 ∈ some ∧ ¬ (t.1 ∈ found ↔ t.2 ∈ found)
  · exfalso
    rw [if_pos c, List.length_append] at h
    have h0 : ([t.1, t.2].filter (fun x => !decide (x ∈ found))).length = 0 := by omega
    have h1 := List.eq_nil_of_length_eq_zero h0
    have h2 := List.filter_eq_nil_iff.mp h1
    have a1 := h2 t.1 (by simp)
    have a2 := h2 t.2 (by simp)
    simp at a1 a2
    exact c.2.2 ⟨fun _ => a2, fun _ => a1⟩
  · rw [if_neg c]
    refine ⟨rfl, fun a b => ?_⟩
    rcases Classical.em (t.1 ∈ found ↔ t.2 ∈ found) with k | k
    · exact k
    · exact absurd ⟨a, b, k⟩ c
theorem Part.grow {ties : List Tie} {some : List Int} {first : Int} {found : List Int} {t : Tie} (h : Part ties some first found) (ht : t ∈ ties) : Part ties some first (grow some found t) := by
  unfold Ol.grow
  by_cases c : t.1 ∈ some ∧ t.2 ∈ some ∧ ¬ (t.1 ∈ found ↔ t.2 ∈ found)
  · rw [if_pos c]
    have hne : t.1 ≠ t.2 := fun e => c.2.2 (by rw [e])
    refine ⟨?_, List.mem_append_left _ h.mem, fun S h1 h2 x hx => ?_⟩
    · refine List.nodup_append.mpr ⟨h.nd, ?_, ?_⟩
      · refine List.Pairwise.filter _ ?_
        simp [hne]
      · intro a ha b hb e
        subst e
        have := (List.mem_filter.mp hb).2
        simp at this
        exact this ha
    · rcases List.mem_append.mp hx with hx | hx
      · exact h.least S h1 h2 x hx
      · have k := h2 t ht c.1 c.2.1
        have key : S t.1 ∧ S t.2 := by
          rcases Classical.em (t.1 ∈ found) with a | a
          · have s1 := h.least S h1 h2 _ a
            exact ⟨s1, k.mp s1⟩
          · rcases Classical.em (t.2 ∈ found) with b | b
            · have s2 := h.least S h1 h2 _ b
              exact ⟨k.mpr s2, s2⟩
            · exact absurd ⟨fun z => absurd z a, fun z => absurd z b⟩ c.2.2
        have hx2 := (List.mem_filter.mp hx).1
        rcases List.mem_cons.mp hx2 with e | hx3
        · rw [e]; exact key.1
        · rw [List.mem_singleton.mp hx3]; exact key.2
  · rw [if_neg c]; exact h
theorem fold_le (some : List Int) : ∀ (l : List Tie) (found : List Int), found.length ≤ (l.foldl (Ol.grow some) found).length
  | [], _ => Nat.le_refl _
  | t :: l, found => Nat.le_trans (grow_le some found t) (fold_le some l _)
theorem fold_same (some : List Int) : ∀ (l : List Tie) (found : List Int), (l.foldl (Ol.grow some) found).length ≤ found.length → l.foldl (Ol.grow some) found = found ∧ Closed l some (· ∈ found)
  | [], _, _ => ⟨rfl, fun _ h => nomatch h⟩
  | t :: l, found, h => by
    have h1 := grow_le some found t
    have h2 := fold_le some l (Ol.grow some found t)
    have h' : (l.foldl (Ol.grow some) (Ol.grow some found t)).length ≤ found.length := h
    obtain ⟨e, c⟩ := grow_same (some := some) (found := found) (t := t) (by omega)
    rw [e] at h'
    obtain ⟨e2, c2⟩ := fold_same some l found h'
    refine ⟨by rw [List.foldl_cons, e, e2], fun u hu => ?_⟩
    rcases List.mem_cons.mp hu with z | z
    · rw [z]; exact c
    · exact c2 u z
theorem Part.fold {ties : List Tie} {some : List Int} {first : Int} : ∀ {l : List Tie} {found : List Int}, Part ties some first found → (∀ t ∈ l, t ∈ ties) → Part ties some first (l.foldl (Ol.grow some) found)
  | [], _, h, _ => h
  | t :: l, found, h, hl => (h.grow (hl t List.mem_cons_self)).fold fun u hu => hl u (List.mem_cons_of_mem _ hu)
theorem Part.pass {ties : List Tie} {some : List Int} {first : Int} {found : List Int} (h : Part ties some first found) : Part ties some first (pass ties some found) := h.fold fun _ z => z
theorem Part.done {ties : List Tie} {some : List Int} {first : Int} {found : List Int} (h : Part ties some first found) (hl : (Ol.pass ties some found).length ≤ found.length) : Reach ties some first (Ol.pass ties some found) := by
  obtain ⟨e, c⟩ := fold_same some ties found hl
  have e' : Ol.pass ties some found = found := e
  rw [e']
  exact ⟨h.nd, h.mem, c, h.least⟩
theorem Part.len {ties : List Tie} {some : List Int} {first : Int} {found : List Int} (h : Part ties some first found) : found.length ≤ some.length + 1 := by
  have q := len_le_of_sub found (first :: some) h.nd fun x hx => h.least (fun y => y ∈ first :: some) List.mem_cons_self (fun t _ a b => ⟨fun _ => List.mem_cons_of_mem _ b, fun _ => List.mem_cons_of_mem _ a⟩) x hx
  exact q
theorem Reach.sub {ties : List Tie} {some : List Int} {first : Int} {r : List Int} (h : Reach ties some first r) (hf : first ∈ some) : ∀ x ∈ r, x ∈ some :=
  h.least (fun y => y ∈ some) hf fun t _ a b => ⟨fun _ => b, fun _ => a⟩

/-! ### trees -/
def tie (a b : Int) : Tie := (min a b, max a b)
/-- a tree of names, told by an order in which each name but the first hangs at an earlier one -/
structure TreeOk (names : List Int) (ties : List Tie) (o : Nat → Int) (par : Nat → Nat) : Prop where
  nd : names.Nodup
  inn : ∀ i, i < names.length → o i ∈ names
  onto : ∀ x ∈ names, ∃ i, i < names.length ∧ o i = x
  inj : ∀ i j, i < names.length → j < names.length → o i = o j → i = j
  par_lt : ∀ i, 0 < i → i < names.length → par i < i
  has : ∀ i, 0 < i → i < names.length → tie (o i) (o (par i)) ∈ ties
  only : ∀ t ∈ ties, ∃ i, 0 < i ∧ i < names.length ∧ t = tie (o i) (o (par i))
theorem closed_tie {ties : List Tie} {some : List Int} {S : Int → Prop} (h : Closed ties some S) {a b : Int} (ht : tie a b ∈ ties) (ha : a ∈ some) (hb : b ∈ some) : S a ↔ S b := by
  have k := h _ ht
  unfold tie at k
  rcases Int.le_total a b with c | c
  · have e1 : min a b = a := by omega
    have e2 : max a b = b := by omega
    rw [show (min a b, max a b).1 = a from e1, show (min a b, max a b).2 = b from e2] at k
    exact k ha hb
  · have e1 : min a b = b := by omega
    have e2 : max a b = a := by omega
    rw [show (min a b, max a b).1 = b from e1, show (min a b, max a b).2 = a from e2] at k
    exact (k hb ha).symm
section
variable {names : List Int} {ties : List Tie} {o : Nat → Int} {par : Nat → Nat}
/-- a closed set with one name of a tree has all -/
theorem TreeOk.all (T : TreeOk names ties o par) {S : Int → Prop} (h : Closed ties names S) {x : Int} (hx : x ∈ names) (hs : S x) : ∀ y ∈ names, S y := by
  have root : ∀ i, i < names.length → S (o i) → S (o 0) := by
    intro i
    induction i using Nat.strongRecOn with
    | ind i ih =>
      intro hi hsi
      rcases Nat.eq_zero_or_pos i with e | p
      · rw [← e]; exact hsi
      · have hp := T.par_lt i p hi
        exact ih (par i) hp (by omega) ((closed_tie h (T.has i p hi) (T.inn i hi) (T.inn _ (by omega))).mp hsi)
  have up : S (o 0) → ∀ i, i < names.length → S (o i) := by
    intro h0 i
    induction i using Nat.strongRecOn with
    | ind i ih =>
      intro hi
      rcases Nat.eq_zero_or_pos i with e | p
      · rw [e]; exact h0
      · have hp := T.par_lt i p hi
        exact (closed_tie h (T.has i p hi) (T.inn i hi) (T.inn _ (by omega))).mpr (ih (par i) hp (by omega))
  intro y hy
  obtain ⟨i, hi, rfl⟩ := T.onto x hx
  obtain ⟨j, hj, rfl⟩ := T.onto y hy
  exact up (root i hi hs) j hj
theorem TreeOk.reach (T : TreeOk names ties o par) {first : Int} {r : List Int} (h : Reach ties names first r) (hf : first ∈ names) : r.length = names.length := by
  have h1 := len_le_of_sub r names h.nd (h.sub hf)
  have h2 := len_le_of_sub names r T.nd (T.all h.cl hf h.mem)
  omega
/-- where some names but not all are found, a tie leads out -/
theorem TreeOk.out (T : TreeOk names ties o par) {found : List Int} (hs : ∀ x ∈ found, x ∈ names) (h0 : found ≠ []) (hl : found.length < names.length) : ∃ t ∈ ties, ¬ (t.1 ∈ found ↔ t.2 ∈ found) := by
  rcases Classical.em (∃ t ∈ ties, ¬ (t.1 ∈ found ↔ t.2 ∈ found)) with c | c
  · exact c
  · exfalso
    have hc : Closed ties names (· ∈ found) := fun t ht _ _ => by
      rcases Classical.em (t.1 ∈ found ↔ t.2 ∈ found) with k | k
      · exact k
      · exact absurd ⟨t, ht, k⟩ c
    obtain ⟨x, r, e⟩ := List.exists_cons_of_ne_nil h0
    have hx : x ∈ found := by rw [e]; exact List.mem_cons_self
    have q := T.all hc (hs x hx) hx
    obtain ⟨y, hy, hn⟩ := exists_missing (l := found) T.nd hl
    exact hn (q y hy)

/-! ### the balance -/
/-- i is k or below it -/
inductive Below (par : Nat → Nat) (k : Nat) : Nat → Prop
  | self : Below par k k
  | up (i : Nat) : 0 < i → Below par k (par i) → Below par k i
theorem below_ge {par : Nat → Nat} {k n : Nat} (hp : ∀ i, 0 < i → i < n → par i < i) : ∀ i, i < n → Below par k i → k ≤ i := by
  intro i
  induction i using Nat.strongRecOn with
  | ind i ih =>
    intro hi h
    cases h with
    | self => exact Nat.le_refl _
    | up _ p h =>
      have := hp i p hi
      have := ih (par i) this (by omega) h
      omega
theorem below_zero {par : Nat → Nat} {n : Nat} (hp : ∀ i, 0 < i → i < n → par i < i) : ∀ i, i < n → Below par 0 i := by
  intro i
  induction i using Nat.strongRecOn with
  | ind i ih =>
    intro hi
    rcases Nat.eq_zero_or_pos i with e | p
    · rw [e]; exact .self
    · have := hp i p hi
      exact .up i p (ih (par i) this (by omega))
/-- below k and not k: below a child of k -/
theorem below_child {par : Nat → Nat} {k n : Nat} (hp : ∀ i, 0 < i → i < n → par i < i) : ∀ i, i < n → Below par k i → i ≠ k → ∃ j, j < n ∧ 0 < j ∧ par j = k ∧ k < j ∧ Below par j i := by
  intro i
  induction i using Nat.strongRecOn with
  | ind i ih =>
    intro hi h hne
    cases h with
    | self => exact absurd rfl hne
    | up _ p h =>
      have hlt := hp i p hi
      by_cases e : par i = k
      · exact ⟨i, hi, p, e, by omega, .self⟩
      · obtain ⟨j, h1, h2, h3, h4, h5⟩ := ih (par i) hlt (by omega) h e
        exact ⟨j, h1, h2, h3, h4, .up i p h5⟩
/-- the greatest number below n of which a property holds -/
theorem greatest {p : Nat → Prop} {n : Nat} (h : ∃ k, k < n ∧ p k) : ∃ k, k < n ∧ p k ∧ ∀ j, j < n → k < j → ¬ p j := by
  induction n with
  | zero => obtain ⟨k, hk, _⟩ := h; omega
  | succ n ih =>
    rcases Classical.em (p n) with c | c
    · exact ⟨n, Nat.lt_succ_self n, c, fun j hj hk => by omega⟩
    · obtain ⟨k, hk, hp⟩ := h
      have hk' : k < n := by
        rcases Nat.lt_or_ge k n with z | z
        · exact z
        · have : k = n := by omega
          subst this
          exact absurd hp c
      obtain ⟨m, h1, h2, h3⟩ := ih ⟨k, hk', hp⟩
      refine ⟨m, by omega, h2, fun j hj hlt => ?_⟩
      rcases Nat.lt_or_ge j n with z | z
      · exact h3 j z hlt
      · have : j = n := by omega
        subst this
        exact c
open Classical in
/-- how many of some names a property has -/
noncomputable def cnt (l : List Int) (p : Int → Prop) : Nat := (l.filter fun x => decide (p x)).length
theorem cnt_le {p q : Int → Prop} : ∀ (l : List Int), (∀ x ∈ l, p x → q x) → cnt l p ≤ cnt l q
  | [], _ => Nat.le_refl _
  | x :: l, h => by
    have ih := cnt_le (p := p) (q := q) l fun y hy => h y (List.mem_cons_of_mem _ hy)
    have hx := h x List.mem_cons_self
    unfold cnt at ih ⊢
    rw [List.filter_cons, List.filter_cons]
    by_cases a : p x
    · rw [if_pos (by simp [a]), if_pos (by simp [hx a]), List.length_cons, List.length_cons]; omega
    · rw [if_neg (by simp [a])]
      split
      · rw [List.length_cons]; omega
      · exact ih
theorem cnt_split (p : Int → Prop) : ∀ (l : List Int), cnt l p + cnt l (fun x => ¬ p x) = l.length
  | [] => rfl
  | x :: l => by
    have ih := cnt_split p l
    unfold cnt at ih ⊢
    rw [List.filter_cons, List.filter_cons]
    by_cases a : p x
    · rw [if_pos (by simp [a]), if_neg (by simp [a]), List.length_cons, List.length_cons]; omega
    · rw [if_neg (by simp [a]), if_pos (by simp [a]), List.length_cons, List.length_cons]; omega
theorem cnt_all {p : Int → Prop} (l : List Int) (h : ∀ x ∈ l, p x) : cnt l p = l.length := by
  have a := cnt_split p l
  have b : cnt l (fun x => ¬ p x) ≤ cnt l (fun _ => False) := cnt_le l fun x hx z => z (h x hx)
  have c : cnt l (fun _ => False) = 0 := by
    unfold cnt
    rw [List.filter_eq_nil_iff.mpr fun x _ => by simp]
    rfl
  omega
/-- the names at places below k -/
def Sub (o : Nat → Int) (par : Nat → Nat) (n k : Nat) (x : Int) : Prop := ∃ i, i < n ∧ o i = x ∧ Below par k i
theorem TreeOk.sub_iff (T : TreeOk names ties o par) {k i : Nat} (hi : i < names.length) : Sub o par names.length k (o i) ↔ Below par k i :=
  ⟨fun ⟨j, hj, e, b⟩ => by rw [T.inj i j hi hj e.symm]; exact b, fun b => ⟨i, hi, rfl, b⟩⟩
/-- a set without c is closed where it is closed from each name to the one at which it hangs -/
theorem TreeOk.closed_of (T : TreeOk names ties o par) {some : List Int} {S : Int → Prop} (h : ∀ i, 0 < i → i < names.length → o i ∈ some → o (par i) ∈ some → (S (o i) ↔ S (o (par i)))) : Closed ties some S := by
  intro t ht ha hb
  obtain ⟨i, p, hi, rfl⟩ := T.only t ht
  unfold tie at ha hb ⊢
  have k := h i p hi
  generalize o i = a at ha hb k ⊢
  generalize o (par i) = b at ha hb k ⊢
  show S (min a b) ↔ S (max a b)
  have ha' : min a b ∈ some := ha
  have hb' : max a b ∈ some := hb
  rcases Int.le_total a b with c | c
  · have e1 : min a b = a := by omega
    have e2 : max a b = b := by omega
    rw [e1] at ha' ⊢
    rw [e2] at hb' ⊢
    exact k ha' hb'
  · have e1 : min a b = b := by omega
    have e2 : max a b = a := by omega
    rw [e1] at ha' ⊢
    rw [e2] at hb' ⊢
    exact (k hb' ha').symm
theorem TreeOk.balance (T : TreeOk names ties o par) (h0 : 0 < names.length) (tops : List Int) (htop : ∀ x ∈ tops, x ∈ names) (hne : tops ≠ []) :
    ∃ c ∈ names, ∀ first ∈ names, first ≠ c → ∀ (some r : List Int), (∀ x, x ∈ some ↔ x ∈ names ∧ x ≠ c) → Reach ties some first r → 2 * (tops.filter fun x => decide (x ∈ r)).length ≤ tops.length := by
  have hW0 : cnt tops (Sub o par names.length 0) = tops.length := cnt_all tops fun x hx => by
    obtain ⟨i, hi, e⟩ := T.onto x (htop x hx)
    exact ⟨i, hi, e, below_zero T.par_lt i hi⟩
  have hl : 0 < tops.length := List.length_pos_iff.mpr hne
  obtain ⟨k, hk, hb, hmax⟩ := greatest (p := fun k => tops.length < 2 * cnt tops (Sub o par names.length k)) (n := names.length) ⟨0, h0, by show tops.length < 2 * cnt tops (Sub o par names.length 0); omega⟩
  have hb' : tops.length < 2 * cnt tops (Sub o par names.length k) := hb
  refine ⟨o k, T.inn k hk, fun first hf hne some r hsome R => ?_⟩
  have fin : ∀ S : Int → Prop, S first → Closed ties some S → 2 * cnt tops S ≤ tops.length → 2 * (tops.filter fun x => decide (x ∈ r)).length ≤ tops.length := fun S h1 h2 h3 => by
    have q := cnt_le (p := fun x => x ∈ r) (q := S) tops fun x _ hx => R.least S h1 h2 x hx
    have e : cnt tops (fun x => x ∈ r) = (tops.filter fun x => decide (x ∈ r)).length := by
      unfold cnt
      congr 1
      apply List.filter_congr
      intro x _
      congr
    omega
  obtain ⟨i, hi, rfl⟩ := T.onto first hf
  have hik : i ≠ k := fun e => hne (by rw [e])
  rcases Classical.em (Below par k i) with hbi | hbi
  · obtain ⟨j, hj, hj0, hjk, hkj, hji⟩ := below_child T.par_lt i hi hbi hik
    refine fin (Sub o par names.length j) ⟨i, hi, rfl, hji⟩ (T.closed_of fun m hm0 hm ha hb2 => ?_) ?_
    · have hpm := T.par_lt m hm0 hm
      rw [T.sub_iff hm, T.sub_iff (show par m < names.length by omega)]
      refine ⟨fun b => ?_, fun b => .up m hm0 b⟩
      cases b with
      | self =>
        exfalso
        rw [hjk] at hb2
        exact ((hsome (o k)).mp hb2).2 rfl
      | up _ _ b => exact b
    · have := hmax j hj hkj
      omega
  · refine fin (fun x => ¬ Sub o par names.length k x) (fun z => hbi ((T.sub_iff hi).mp z)) (T.closed_of fun m hm0 hm ha hb2 => ?_) ?_
    · have hpm := T.par_lt m hm0 hm
      rw [T.sub_iff hm, T.sub_iff (show par m < names.length by omega)]
      refine ⟨fun nb b => nb (.up m hm0 b), fun nb b => ?_⟩
      cases b with
      | self => exact ((hsome (o k)).mp ha).2 rfl
      | up _ _ b => exact nb b
    · have := cnt_split (Sub o par names.length k) tops
      omega
end
end Ol
/-! Rules of our own over the hand layer: a callee by its name, alternatives, great powers, a tuple's walk, a count, a set of a list. -/
namespace Ol
open PySem PySem.Spec PyProof.Rows L2 Evl
/-! ### a def by its name, with its promise -/
structure Callee (P : Program) (w : World) (K : PySem.W.Frag) (mg : Str → Option Value) (base : Heap) (x : Str) (k : Nat) (ps : List Str) (sp : Sp) : Prop where
  ex : ∃ f fd, mg x = some (.ref f) ∧ FnOk P w K mg base CX0 k f fd ps sp ∧ PySem.W.keepIn K (.ref f) = true ∧ Binds K fd ps []
structure Metd (P : Program) (w : World) (K : PySem.W.Frag) (mg : Str → Option Value) (base : Heap) (m : Str) (k : Nat) (ps : List Str) (sp : Sp) : Prop where
  ex : ∃ f fd, Meth K (dC K) m f ∧ FnOk P w K mg base CX0 k f fd ps sp ∧ Binds K fd ps []
structure Initd (P : Program) (w : World) (K : PySem.W.Frag) (mg : Str → Option Value) (base : Heap) (k : Nat) (ps : List Str) (sp : Sp) : Prop where
  ex : ∃ f fd, Mk K (dC K) f ∧ FnOk P w K mg base CX0 k f fd ps sp ∧ Binds K fd ps []
section
variable {P : Program} {w : World} {K : PySem.W.Frag} {mg : Str → Option Value} {base : Heap} {x qual : Str} {st : Stmt} {f : Addr} {N ps : List Str} {k : Nat} {sp : Sp}
/-- what a body's derivation and reading are to show -/
abbrev Body (P : Program) (w : World) (K : PySem.W.Frag) (mg : Str → Option Value) (base : Heap) (N : List Str) (qual : Str) (st : Stmt) (f : Addr) (k : Nat) (sp : Sp) : Prop :=
  ∀ (cdv : Value) (A : Around) (outer : List Env) (s : Shared) (H : Hp) (vs : List V) (Q : VK) (E : XK), Room k (A.deeper (envOfC qual (defScope st) s.heap.objs.size f cdv)) → sp vs H Q E →
    ∃ t, PSs (cxOf CX0 P w K mg base N qual (defScope st) f cdv A outer s H E).nox (defBody st) t ∧ t { nx := fun _ H' => Q .non H', rt := Q } (start N vs) H
abbrev Bnd (x qual : Str) (st : Stmt) (ps : List Str) : Prop := ∀ (kV doc pm : Value) (an : Option Addr) (cdv ct : Value) (us : List Value), us.length = ps.length →
  bindArgs (PySem.W.fnOf x qual (defArgs st) (defBody st) (defScope st) .none kV doc pm an cdv ct) ⟨us, []⟩ = pure (ps.zip us)
theorem fnOk_of {fd : FuncData} (F : FunD K x qual (defArgs st) (defBody st) (defScope st) [] [] f fd) (S : FnScope N ps (defScope st)) (len : ∀ vs H Q E, sp vs H Q E → vs.length = ps.length)
    (h : Body P w K mg base N qual st f k sp) : FnOk P w K mg base CX0 (k + 1) f fd ps sp :=
  F.ok S len fun cdv A outer s H vs Q E hr hs => by
    obtain ⟨t, d, q⟩ := h cdv A outer s H vs Q E hr hs
    exact ⟨t, PSs.nox d, q⟩
theorem callee_of (F : ∃ fd, FunD K x x (defArgs st) (defBody st) (defScope st) [] [] f fd) (g : mg x = some (.ref f)) (S : FnScope N ps (defScope st)) (b : Bnd x x st ps)
    (len : ∀ vs H Q E, sp vs H Q E → vs.length = ps.length) (h : Body P w K mg base N x st f k sp) : Callee P w K mg base x (k + 1) ps sp := by
  obtain ⟨fd, F⟩ := F
  exact ⟨f, fd, g, fnOk_of F S len h, F.kp, F.bindsN b⟩
theorem metd_of (F : ∃ fd, FunD K x qual (defArgs st) (defBody st) (defScope st) [] [] f fd) (m : Meth K (dC K) x f) (S : FnScope N ps (defScope st)) (b : Bnd x qual st ps)
    (len : ∀ vs H Q E, sp vs H Q E → vs.length = ps.length) (h : Body P w K mg base N qual st f k sp) : Metd P w K mg base x (k + 1) ps sp := by
  obtain ⟨fd, F⟩ := F
  exact ⟨f, fd, m, fnOk_of F S len h, F.bindsN b⟩
theorem initd_of (F : ∃ fd, FunD K x qual (defArgs st) (defBody st) (defScope st) [] [] f fd) (m : Mk K (dC K) f) (S : FnScope N ps (defScope st)) (b : Bnd x qual st ps)
    (len : ∀ vs H Q E, sp vs H Q E → vs.length = ps.length) (h : Body P w K mg base N qual st f k sp) : Initd P w K mg base (k + 1) ps sp := by
  obtain ⟨fd, F⟩ := F
  exact ⟨f, fd, m, fnOk_of F S len h, F.bindsN b⟩
theorem Callee.up {j : Nat} (C : Callee P w K mg base x k ps sp) (h : k ≤ j) : Callee P w K mg base x j ps sp := by
  obtain ⟨f, fd, g, F, a, b⟩ := C.ex
  exact ⟨f, fd, g, F.mono h, a, b⟩
end
section
variable {X : Cx} {x : Str} {j k : Nat} {ps : List Str} {sp : Sp} {e o : Expr} {es : List Expr} {t : TA} {ta : TE} {p pos apos : Pos}
theorem pe_callC (C : Callee X.prog X.w X.K X.mg X.base x k ps sp) (hr : Room j X.A) (hk : k ≤ j) (hg : Gl X x) (ha : PA X (e :: es) t) (hdb : (x == ("__debug__" : Str)) = false := by decide)
    (he : starEach (e :: es) X.env = (false, eval e X.env) :: starEach es X.env := by rfl) (hpl : (backTo pos (starEach es X.env)).any (·.1) = false := by rfl) : PE X (.Call (.Name x p) (e :: es) [] pos) (tCall sp [] E0 t) := by
  obtain ⟨f, fd, g, F, a, b⟩ := C.ex
  exact pe_call F (hr.mono hk) hg g a b .nil pass0 ha hdb he hpl
theorem pe_makeC {w : World} (T : Tx w X.K X.mg) (C : Initd X.prog X.w X.K X.mg X.base k ps sp) (hr : Room j X.A) (hk : k + 1 ≤ j) (hg : Gl X ("Desk" : Str)) (ha : PA X (e :: es) t)
    (he : starEach (e :: es) X.env = (false, eval e X.env) :: starEach es X.env := by rfl) (hpl : (backTo pos (starEach es X.env)).any (·.1) = false := by rfl) :
    PE X (.Call (.Name "Desk" p) (e :: es) [] pos) (tMake (dC X.K) sp [] E0 t) := by
  obtain ⟨f, fd, g, F, b⟩ := C.ex
  exact pe_make g F (hr.mono hk) hg T.g_Desk b .nil pass0 ha (by decide) he hpl
theorem pe_methC {w : World} {pl : Sem Bool} (T : Tx w X.K X.mg) (C : Metd X.prog X.w X.K X.mg X.base x k ps sp) (hr : Room j X.A) (hk : k ≤ j) (ho : PE X o ta) (ha : PA X (e :: es) t)
    (hst : starEach (e :: es) X.env = (false, eval e X.env) :: starEach es X.env := by rfl) (hpl : (backTo pos (starEach es X.env)).any (·.1) = false := by rfl)
    (ht : eval (.Call (.Attribute o x apos) (e :: es) [] pos) X.env = (do
      let ov ← eval o X.env
      standAt apos.atName
      let (f, first) ← holding [ov] (getMethod ov x pl)
      callWith pos f first (backTo pos (starEach (e :: es) X.env)) (backToKw pos (keywordEach [] X.env))) := by rfl) : PE X (.Call (.Attribute o x apos) (e :: es) [] pos) (tMeth (dC X.K) x sp [] E0 ta t) := by
  obtain ⟨f, fd, g, F, b⟩ := C.ex
  exact pe_meth ho T.cl g F (hr.mono hk) b .nil pass0 ha hst hpl ht
theorem pe_methC0 {w : World} {pl : Sem Bool} (T : Tx w X.K X.mg) (C : Metd X.prog X.w X.K X.mg X.base x k ps sp) (hr : Room j X.A) (hk : k ≤ j) (ho : PE X o ta)
    (ht : eval (.Call (.Attribute o x apos) [] [] pos) X.env = (do
      let ov ← eval o X.env
      standAt apos.atName
      let (f, first) ← holding [ov] (getMethod ov x pl)
      callWith pos f first (backTo pos (starEach [] X.env)) (backToKw pos (keywordEach [] X.env))) := by rfl) : PE X (.Call (.Attribute o x apos) [] [] pos) (tMeth (dC X.K) x sp [] E0 ta tNil) := by
  obtain ⟨f, fd, g, F, b⟩ := C.ex
  exact pe_meth0 ho T.cl g F (hr.mono hk) b .nil pass0 ht
/-! ### names of the module -/
theorem pe_globI {i : Int} (hg : Gl X x) (h : ∃ t, X.mg x = some (.int i t)) (hd : (x == ("__debug__" : Str)) = false := by decide) : PE X (.Name x pos) (tC (.int i)) := by
  obtain ⟨t, h⟩ := h
  exact pe_glob hg h ⟨t, rfl⟩ hd
theorem pe_globS {z : Str} (hg : Gl X x) (h : ∃ t, X.mg x = some (.str z t)) (hd : (x == ("__debug__" : Str)) = false := by decide) : PE X (.Name x pos) (tC (.str z)) := by
  obtain ⟨t, h⟩ := h
  exact pe_glob hg h ⟨t, rfl⟩ hd
/-! ### one of two rules, told when it is read -/
theorem pi_alt {tg : Expr} {t1 t2 : TI} (h1 : PI X tg e t1) (h2 : PI X tg e t2) : PI X tg e (fun σ H R => t1 σ H R ∨ t2 σ H R) :=
  ⟨fun pins s σ H R I h => h.elim (h1.run pins s σ H R I) (h2.run pins s σ H R I)⟩
theorem pe_alt {t1 t2 : TE} (h1 : PE X e t1) (h2 : PE X e t2) : PE X e (fun σ H R => t1 σ H R ∨ t2 σ H R) :=
  ⟨fun pins s σ H R I h => h.elim (h1.run pins s σ H R I) (h2.run pins s σ H R I)⟩
/-! ### a written dict -/
theorem op_in_kdx {d : Addr} (h : ∃ es n, KDict X.K X.w d es n) : OpR X (compareOp .In) (fun x y H Q => ∃ (z : Str) (r : Option Value), x = .str z ∧ y = .ref d ∧ PySem.W.nsIn X.K d z = some r ∧ Q (.bl r.isSome) H) := by
  obtain ⟨es, n, D⟩ := h
  exact op_in_kd D
theorem ix_kdx {d : Addr} (h : ∃ es n, KDict X.K X.w d es n) : IxR X (fun x y H Q => ∃ (z : Str) (u : Value) (v : V), x = .ref d ∧ y = .str z ∧ PySem.W.nsIn X.K d z = some (some u) ∧ RelV v u ∧ Q v H) := by
  obtain ⟨es, n, D⟩ := h
  intro value slice pins s σ H x y v u Q I rx ry q hs
  obtain ⟨z, u0, v0, e1, e2, e3, r, q⟩ := q
  exact ix_kdict value slice pins s σ H x y v u Q I rx ry ⟨d, z, v0, e1, e2, ⟨es, n, u0, D.at_, D.lit, e3, r⟩, q⟩ hs
/-! ### powers of great numbers -/
def CPowW (i j : Int) : Prop := 0 ≤ j ∧ (Builtin.Int.intBits i : Int) * j ≤ 2 ^ 27
theorem op_powW : OpR X (binaryOp .Pow) (rI CPowW fun i j => .int (i ^ j.toNat)) := by
  intro pins s σ H x y v u Q I rx ry h
  obtain ⟨i, j, rfl, rfl, hc, q⟩ := h
  obtain ⟨t1, rfl⟩ := rx
  obtain ⟨t2, rfl⟩ := ry
  exact pow_int hc.1 hc.2 ⟨.int _, H, I.tok _, ⟨_, rfl⟩, q⟩
/-! ### how often an item is in a list of data -/
def rCntD (K : PySem.W.Frag) : V → List V → Hp → VK → Prop := fun x xs H Q => ∃ (a : Addr) (y : V) (d : PyData) (ds : List PyData), x = V.ref a ∧ xs = [y] ∧ Dp K H (V.ref a) (.list ds) ∧ Dp K H y d ∧
  SeqAt.shaped (.list ds) = true ∧ SeqAt.shaped d = true ∧ d.depth ≤ 60 ∧ Q (.int ((ds.countP fun z => PyData.eqv z d : Nat) : Int)) H
end
end Ol
namespace Ol
open PySem PySem.Spec PyProof.Rows L2 Evl
section
variable {X : Cx}
/-! ### how often an item is in a list of data -/
theorem mt_countD (hu : X.A.units + 64 < cLine) : MtR X "list.count" (rCntD X.K) := by
  intro pins s σ H x xs v us Q I rx rxs h
  obtain ⟨a, y, d, ds, rfl, rfl, hl, hy, sl, sd, hf, q⟩ := h
  obtain rfl : v = Value.ref a := rx
  obtain ⟨uy, rfl, ry⟩ := rxs.one
  obtain ⟨bs, r1⟩ := Dp.reads I d y uy hy ry
  have lay : PyData.canLayAll0 ds = true := SeqAt.canLay_of_shaped sl
  cases hl with
  | lst hs ha =>
    obtain ⟨its, rv, ⟨⟨cls, dd, data, sls⟩, n, ho, hc, hdn, hdt⟩, hlen⟩ := I.list hs
    simp only at hc hdt
    subst hc
    subst hdt
    obtain ⟨as, h4⟩ := Dp.readsAll I ds _ its ha rv
    have same : its.map (SeqAt.readOf s.heap) = ds := SeqAt.readsAll_map ds its as lay h4
    have room : X.A.units + 1 + min (PyData.depthAll ds) d.depth < cLine := by
      have := Nat.min_le_right (PyData.depthAll ds) d.depth
      omega
    refine call_meets PySem.F.slot_list_count ⟨_, ho, rfl⟩ PySem.F.entry_list_count (PySem.F.args_list_count_2 _ _)
      (SeqAt.list_countAt a its.toArray n dd sls uy fun u => PyData.eqv (SeqAt.readOf s.heap u) d) ⟨ho, SeqAt.items_eqAt (by simpa using h4) r1 lay (SeqAt.canLay_of_shaped sd) room, ?_⟩
    have num : its.toArray.toList.countP (fun u => PyData.eqv (SeqAt.readOf s.heap u) d) = ds.countP fun z => PyData.eqv z d := by
      rw [← same, List.countP_map]
      rfl
    rw [num]
    exact ⟨.int ((ds.countP fun z => PyData.eqv z d : Nat) : Int), H, I.tok _, ⟨s.toks, rfl⟩, q⟩
end
end Ol
namespace Ol
open PySem PySem.Spec PyProof.Rows L2 Evl
/-! ### set(xs) of a list of ints, walkable -/
/-- a new set's object -/
abbrev newSet (w : World) : Obj := { cls := .type "set", dict := none, data := .set #[] 0 (.fresh 0 0 (!w.params.followText "set-order")) }
section
variable {P : Program} {w : World} {A : Around} {E : Value → Shared → Prop} {s : Shared}
theorem set_of_list {l : Addr} {items : Array Value} (ns : List Int) {Q : Value → Shared → Prop} (nh : A.handled = none) (isl : s.heap.IsList l items) (hints : IntsAre items.toList ns) (few : ns.length + 1 < scanBound)
    (h : ∀ (h' : Heap) (tk c : Nat), SetR w h' s.heap.objs.size (fun j => decide (j ∈ ns)) c → c ≤ ns.length → (∀ b o, s.heap.get? b = some o → h'.get? b = some o) →
      Q (.ref s.heap.objs.size) { s with heap := h', toks := tk }) : wpAny (model P w) A (call (.type "set") [.ref l]) Q E s := by
  have size : items.size = ns.length := by
    have e := IntsAre.length hints
    rw [Array.length_toList] at e
    exact e
  obtain ⟨cm, tm, mro⟩ := F.called_set.mro
  have made := F.called_set.made
  have subm := F.called_set.sub
  refine wpAny_call (codeAny_of_tree ?_)
  show wpAny _ _ (callAny (.type "set") _) _ _ _
  refine wpAny_pure ⟨Code.quiet_builtin _ (by decide +kernel), codeAny_builtin F.entry_type_call ?_⟩
  rw [Around.under_plain (weight_type_call_type "set" [.ref l] []) rfl]
  have nt := F.called_set.notType
  have cc := F.called_set.canCreate
  have tc := F.typeCall_set_1 (.ref l)
  repeat (any_goals (first | assumption | wp_step))
  refine codeAny_mono (code_set_led1 (.ref l) (E := E) (Q₁ := fun o1 s1 => o1 = .ref s.heap.objs.size ∧ s1 = { s with heap := s.heap.push (newSet w) }) ⟨rfl, rfl⟩) fun r s1 hr => ?_
  cases r with
  | error e => exact hr
  | ok fl =>
    cases fl with
    | ret obj =>
      obtain ⟨rfl, rfl⟩ := hr
      have atS : (s.heap.push (newSet w)).get? s.heap.objs.size = some (newSet w) := Heap.get?_push_size _ rfl
      have tyS : Shared.TypeIs { s with heap := s.heap.push (newSet w) } (.ref s.heap.objs.size) "set" := ⟨_, atS, rfl⟩
      have li := F.called_set.init.lookup
      have bi := F.called_set.init.bind (.ref s.heap.objs.size)
      repeat (any_goals (first | assumption | wp_step))
      refine codeAny_mono (codeAny_call_builtin (R := wants (fun r s2 => r = .none ∧ ∃ h' tk c, s2 = { s with heap := h', toks := tk } ∧ SetR w h' s.heap.objs.size (fun j => decide (j ∈ ns)) c ∧ c ≤ ns.length ∧
        (∀ b o, s.heap.get? b = some o → h'.get? b = some o)) E) F.called_set.init.plain F.entry_set_init (check_set_init_1 tyS ?_)) fun r2 s2 hr2 => ?_
      · obtain ⟨ol, gl, cl, nl, dl⟩ := isl
        obtain ⟨oc, od, odt, osl⟩ := ol
        simp only at cl dl
        subst cl
        subst dl
        have gl' : (s.heap.push (newSet w)).get? l = some { cls := .type "list", dict := od, data := .seq items nl, slots := osl } := Heap.get?_push_of_some _ gl
        have s1 := F.sub_list_set
        have s2 := F.sub_list_frozenset
        have nd : (Value.type "list" == Value.type "dict") = false := by decide
        have isl1 : (s.heap.push (newSet w)).IsList l items := ⟨_, gl', rfl, nl, rfl⟩
        unfold Builtin.«set.__init__» noKeywords Builtin.Frozenset.updateFrom
        generalize hPI : pyIter = PI
        wp_walk
        subst hPI
        refine wpAny_pyIter_list isl1 ?_
        refine wpAny_bind (wpAny_runValue ?_)
        have lS : l < s.heap.objs.size := Heap.lt_size gl
        have nh3 : A.in1.in1.in1.handled = none := by simp [nh]
        have sz1 : (s.heap.push (newSet w)).objs.size = s.heap.objs.size + 1 := Heap.size_push ..
        have neI : l ≠ (s.heap.push (newSet w)).objs.size := by
          rw [sz1]
          exact Nat.ne_of_lt (Nat.lt_succ_of_lt lS)
        have nS : s.heap.objs.size ∉ [(s.heap.push (newSet w)).objs.size, l] := by
          rw [sz1]
          intro z
          rcases List.mem_cons.mp z with e | z
          · exact absurd e (Nat.ne_of_lt (Nat.lt_succ_self _))
          · exact absurd (List.mem_singleton.mp z) (Nat.ne_of_gt lS)
        have val : ∀ (i : Nat) (v : Value), items[i]? = some v → ∃ k t, ns[i]? = some k ∧ v = .int k t := fun i v hv => by
          have hi : i < ns.length := by
            rw [← size]
            exact (Array.getElem?_eq_some_iff.mp hv).1
          obtain ⟨t, e⟩ := PyProof.Rows.IntsAre.int_at hints i v (by rw [Array.getElem?_toList]; exact hv)
          refine ⟨ns[i], t, List.getElem?_eq_getElem hi, ?_⟩
          rw [e, List.getD_eq_getElem?_getD, List.getElem?_eq_getElem hi]
          rfl
        refine set_update_ints ((Walks.list nh3 _ l neI items).toS) s.heap.objs.size nS ns size few val (items.size - 0) 0 _ (by omega) (Nat.zero_le _)
          ⟨⟨_, Heap.get?_push_size _ rfl, rfl, rfl⟩, (isl1.push _)⟩ ?first ?last
        case first =>
          have q : ((s.heap.push (newSet w)).push { cls := .type "list_iterator", data := .fields #[.ref l, .int 0 0] }).get? s.heap.objs.size = some (newSet w) := Heap.get?_push_of_some _ atS
          exact ⟨0, Nat.le_refl 0, setR_new_at q⟩
        case last =>
          intro s' c' hm hc' hS'
          obtain ⟨h', g2, d', tk', os'⟩ := s'
          obtain rfl : g2 = s.gens := hm.gens
          obtain rfl : d' = s.drawn := hm.drawn
          obtain rfl : os' = s.os := hm.os
          show wpAny _ _ _ _ _ _
          refine wpAny_pure ?_
          show wpAny _ _ (ret Value.none) _ _ _
          rw [size] at hc'
          refine wpAny_pure ⟨rfl, h', tk', c', rfl, hS', hc', fun b o e => ?_⟩
          have b0 : b < s.heap.objs.size := Heap.lt_size e
          refine hm.heap b o (fun z => ?_) (Heap.get?_push_of_some _ (Heap.get?_push_of_some _ e))
          rcases List.mem_cons.mp z with z | z
          · exact absurd z (Nat.ne_of_lt b0)
          · have q := List.mem_singleton.mp z
            rw [sz1] at q
            exact absurd q (Nat.ne_of_lt (Nat.lt_succ_of_lt b0))
      · cases r2 with
        | error e => exact hr2
        | ok fl2 =>
          cases fl2 with
          | ret r =>
            obtain ⟨rfl, h', tk, c', rfl, hS', hc', hk'⟩ := hr2
            repeat (any_goals (first | assumption | wp_step))
            exact h _ _ _ hS' hc' hk'
          | _ => exact hr2.elim
    | _ => exact hr.elim
end
section
variable {X : Cx}
def rSetOfI (K : PySem.W.Frag) (w : World) : List V → Hp → VK → Prop := fun xs H Q => ∃ (l : Addr) (ns : List Int), xs = [V.ref l] ∧ SqL K H l (ns.map V.int) ∧ ns.length < 60 ∧
  ∀ a c, H a = none → c ≤ ns.length → Q (.ref a) (upd H a (SetO w a (fun j => decide (j ∈ ns)) c))
theorem cr_setOfI (hc : X.calm = true) : CallR X (.type "set") (rSetOfI X.K X.w) := by
  intro pins s σ H xs us Q I r h
  obtain ⟨l, ns, rfl, hl, hf, q⟩ := h
  rw [Vals.ref1 r]
  obtain ⟨its, rv, pl, hz⟩ := I.list hl
  refine set_of_list (P := X.prog) (w := X.w) ns (I.ok.hd hc) pl.isList (by simpa using ints_of_vals rv) (by unfold scanBound; omega) fun h' tk c R hcn k => ?_
  exact ⟨.ref s.heap.objs.size, _, I.laid (t' := tk) k (Nat.le_refl _) (setO_new R), rfl, q _ c (I.hok.fresh (Nat.le_refl _)) hcn⟩
end
end Ol
/-! The layer's rules with the written part K told by name: so they may stand in a comprehension's block, too. -/
namespace Ol
open PySem PySem.Spec PyProof.Rows L2 Evl
section
variable {X : Cx} {K : PySem.W.Frag} {w : World} {P : Program} {x : Str} {e o a b tg : Expr} {es : List Expr} {t : TA} {ta tb te to : TE} {p pos apos cpos tpos : Pos} {n k : Nat} {u : TGs} {f : Str}
theorem ixL (K : PySem.W.Frag) (h : X.K = K := by rfl) : IxR X (rIxL K) := h ▸ ix_list
theorem ixT (K : PySem.W.Frag) (h : X.K = K := by rfl) : IxR X (rIxT K) := h ▸ ix_tup
theorem slL (K : PySem.W.Frag) (h : X.K = K := by rfl) : SlR X (rSlL K) := h ▸ sl_list
theorem slT (K : PySem.W.Frag) (h : X.K = K := by rfl) : SlR X (rSlT K) := h ▸ sl_tup
theorem inS (K : PySem.W.Frag) (h : X.K = K := by rfl) : OpR X (compareOp .In) (rIn K false) := h ▸ op_in_seq
theorem niS (K : PySem.W.Frag) (h : X.K = K := by rfl) : OpR X (compareOp .NotIn) (rIn K true) := h ▸ op_notIn_seq
theorem eqD (K : PySem.W.Frag) (hu : X.A.units + 64 < cLine) (h : X.K = K := by rfl) : OpR X (compareOp .Eq) (rEqD K) := h ▸ op_eqD hu
theorem neD (K : PySem.W.Frag) (hu : X.A.units + 64 < cLine) (h : X.K = K := by rfl) : OpR X (compareOp .NotEq) (rNeD K) := h ▸ op_neD hu
theorem allR (K : PySem.W.Frag) (h : X.K = K := by rfl) (hc : X.calm = true := by rfl) : CallR X (.builtin "all") (rAll K) := h ▸ cr_all hc
theorem isiR (K : PySem.W.Frag) (h : X.K = K := by rfl) : CallR X (.builtin "isinstance") (rIsi K) := h ▸ call_isi
theorem isiTR (K : PySem.W.Frag) (h : X.K = K := by rfl) : CallR X (.builtin "isinstance") (rIsiT K) := h ▸ call_isiT
theorem srtI (K : PySem.W.Frag) (h : X.K = K := by rfl) : CallR X (.builtin "sorted") (rSorted K) := h ▸ cr_sorted
theorem srtP (K : PySem.W.Frag) (h : X.K = K := by rfl) : CallR X (.builtin "sorted") (rSortedPO K) := h ▸ cr_sortedPO
theorem srtQ (K : PySem.W.Frag) (h : X.K = K := by rfl) : CallR X (.builtin "sorted") (rSortedP K) := h ▸ cr_sortedP
theorem srtSI (w : World) (h : X.w = w := by rfl) (hc : X.calm = true := by rfl) : CallR X (.builtin "sorted") (rSortedSet w) := h ▸ cr_sortedSet hc
theorem srtST (K : PySem.W.Frag) (P : Program) (w : World) (h : X.K = K := by rfl) (h2 : X.prog = P := by rfl) (h3 : X.w = w := by rfl) (hc : X.calm = true := by rfl) : CallR X (.builtin "sorted") (rSortedT K P w) := by
  subst h h2 h3
  exact cr_sortedT hc
theorem setOI (K : PySem.W.Frag) (w : World) (h : X.K = K := by rfl) (h3 : X.w = w := by rfl) (hc : X.calm = true := by rfl) : CallR X (.type "set") (rSetOfI K w) := by
  subst h h3
  exact cr_setOfI hc
theorem setOT (K : PySem.W.Frag) (P : Program) (w : World) (hu : X.A.units + 64 < cLine) (h : X.K = K := by rfl) (h2 : X.prog = P := by rfl) (h3 : X.w = w := by rfl) (hc : X.calm = true := by rfl) : CallR X (.type "set") (rSetOfT K P w) := by
  subst h h2 h3
  exact cr_setOfT hc hu
/-- len of a list, a tuple, in Evl's words -/
theorem lenS (K : PySem.W.Frag) (h : X.K = K := by rfl) : CallR X (.builtin "len") (rLenS K) := by
  subst h
  intro pins s σ H xs us Q I r q
  obtain ⟨p, ys, e1, e2, q⟩ := q
  exact call_len_seq pins s σ H xs us Q I r ⟨p, ys, e1, e2, q⟩
theorem listOf (K : PySem.W.Frag) (h : X.K = K := by rfl) : CallR X (.type "list") (rListS K) := by
  subst h
  intro pins s σ H xs us Q I r q
  obtain ⟨p, ys, e1, e2, q⟩ := q
  exact call_list_of pins s σ H xs us Q I r ⟨p, ys, e1, e2, q⟩
def rTupOf (K : PySem.W.Frag) : List V → Hp → VK → Prop := fun xs H Q => ∃ p ys, xs = [.ref p] ∧ SqL K H p ys ∧ ∀ l, H l = none → Q (.ref l) (upd H l (.tup ys))
theorem tupOf (K : PySem.W.Frag) (h : X.K = K := by rfl) : CallR X (.type "tuple") (rTupOf K) := by
  subst h
  intro pins s σ H xs us Q I r q
  obtain ⟨p, ys, e1, e2, q⟩ := q
  exact call_tuple_of pins s σ H xs us Q I r ⟨p, ys, e1, .inl ⟨e2, q⟩⟩
theorem mtIdx (K : PySem.W.Frag) (h : X.K = K := by rfl) : MtR X "list.index" (rIndex K) := h ▸ mt_index
theorem mtCnt (K : PySem.W.Frag) (hu : X.A.units + 64 < cLine) (h : X.K = K := by rfl) : MtR X "list.count" (rCntD K) := h ▸ mt_countD hu
theorem piL (K : PySem.W.Frag) (hl : PE X e ta) (h : X.K = K := by rfl) : PI X tg e (iList K ta) := h ▸ pi_list hl
theorem piT (K : PySem.W.Frag) (hl : PE X e ta) (h : X.K = K := by rfl) : PI X tg e (iTup K ta) := h ▸ pi_tup hl
theorem piE {elts : List Expr} (K : PySem.W.Frag) (hg : Gl X "enumerate") (hm : X.mg "enumerate" = none) (ha : PA X [e] t) (h : X.K = K := by rfl) (hs : starEach [e] X.env = [(false, eval e X.env)] := by rfl) : PI X (.Tuple elts k tpos) (.Call (.Name "enumerate" p) [e] [] pos) (iEnum K t) := h ▸ pi_enum hg hm ha hs
theorem tupG (K : PySem.W.Frag) (hp : PGs X es u) (h : X.K = K := by rfl) (hc : X.calm = true := by rfl) (hn : (assignEach es X.env).length = n := by rfl) (hst : (assignEach es X.env).findIdx? (·.1) = none := by rfl) : PG X (.Tuple es k pos) (gTup K n u) := h ▸ pg_tup hc hp hn hst
theorem unlG (K : PySem.W.Frag) (hp : PGs X es u) (h : X.K = K := by rfl) (hc : X.calm = true := by rfl) (hn : (assignEach es X.env).length = n := by rfl) (hst : (assignEach es X.env).findIdx? (·.1) = none := by rfl) : PG X (.Tuple es k pos) (gUnl K n u) := h ▸ pg_unl hc hp hn hst
theorem fldK (K : PySem.W.Frag) (he : PE X e ta) (hb : attributeBase e f X.env (eval e X.env) = eval e X.env) (h : X.K = K := by rfl) : PE X (.Attribute e f pos) (tFld K ta f) := h ▸ pe_fld he hb
theorem lenSetI (K : PySem.W.Frag) {q p2 : Pos} (hg : Gl X "len") (hm : X.mg "len" = none) (hg2 : Gl X "set") (hm2 : X.mg "set" = none) (ha : PE X a ta) (h : X.K = K := by rfl) (hc : X.calm = true := by rfl)
    (na : starEach [a] X.env = (false, eval a X.env) :: starEach [] X.env := by rfl) : PE X (.Call (.Name "len" p) [.Call (.Name "set" p2) [a] [] q] [] pos) (tLenSetI K ta) := h ▸ pe_lenSetI hc hg hm hg2 hm2 ha na
/-- sep.join(list) -/
def rJoin (K : PySem.W.Frag) : V → List V → Hp → VK → Prop := fun x xs H Q => ∃ a p, ∃ ys : List Str, x = .str a ∧ xs = [.ref p] ∧ (SqL K H p (ys.map V.str) ∨ SqT K H p (ys.map V.str)) ∧ (ys.map (·.length)).sum + ys.length * a.length ≤ 16777216 ∧ Q (.str (Txt.join a ys)) H
theorem joinK (K : PySem.W.Frag) (ho : PE X o to) (he : PE X e te) (h : X.K = K := by rfl) (hs : starEach [e] X.env = [(false, eval e X.env)] := by rfl) (hbase : attributeBase o "join" X.env (eval o X.env) = eval o X.env := by rfl) (hline : (apos.endLine == pos.line) = true := by rfl) :
    PE X (.Call (.Attribute o "join" apos) [e] [] pos) (tM1 (rJoin K) to te) := by
  subst h
  exact pe_join ho he hs hbase hline
section
variable {id T : String} {name : Str} {r : V → List V → Hp → VK → Prop}
theorem bmK (K : PySem.W.Frag) (pa : PlainAttrs T) (slot : Slot T name id) (hty : typeOf (.builtin id) = pure (.type "method_descriptor")) (hm : MtR X id r) (ho : PE X o to) (ha : PA X (e :: es) t) (h : X.K = K := by rfl)
    (hbase : attributeBase o name X.env (eval o X.env) = eval o X.env := by rfl)
    (hfew : ((backTo cpos (starEach (e :: es) X.env)).all (fun x => !x.1) && (backToKw cpos (keywordEach [] X.env)).all (fun x => x.1.isSome) && decide ((e :: es).length + ([] : List Keyword).length + (if ([] : List Keyword).isEmpty then 0 else 1) < 30)) = true := by rfl)
    (hline : (apos.endLine == cpos.line) = true := by rfl) (hs : starEach (e :: es) X.env = (false, eval e X.env) :: starEach es X.env := by rfl) (hplain : (backTo cpos (starEach es X.env)).any (·.1) = false := by rfl) :
    PE X (.Call (.Attribute o name apos) (e :: es) [] cpos) (tBM K T r to t) := by
  subst h
  exact pe_bm pa slot hty hm ho ha hbase hfew hline hs hplain
theorem bm0K (K : PySem.W.Frag) (pa : PlainAttrs T) (slot : Slot T name id) (hty : typeOf (.builtin id) = pure (.type "method_descriptor")) (hm : MtR X id r) (ho : PE X o to) (h : X.K = K := by rfl)
    (hbase : attributeBase o name X.env (eval o X.env) = eval o X.env := by rfl) (hline : (apos.endLine == cpos.line) = true := by rfl) : PE X (.Call (.Attribute o name apos) [] [] cpos) (tBM0 K T r to) := by
  subst h
  exact pe_bm0 pa slot hty hm ho hbase hline
end
theorem inKD (K : PySem.W.Frag) {d : Addr} (D : ∃ es n, KDict K w d es n) (h : X.K = K := by rfl) (h3 : X.w = w := by rfl) : OpR X (compareOp .In) (fun x y H Q => ∃ (z : Str) (r : Option Value), x = .str z ∧ y = .ref d ∧ PySem.W.nsIn K d z = some r ∧ Q (.bl r.isSome) H) := by
  subst h h3
  exact op_in_kdx D
theorem niKD (K : PySem.W.Frag) {d : Addr} (D : ∃ es n, KDict K w d es n) (h : X.K = K := by rfl) (h3 : X.w = w := by rfl) : OpR X (compareOp .NotIn) (fun x y H Q => ∃ (z : Str) (r : Option Value), x = .str z ∧ y = .ref d ∧ PySem.W.nsIn K d z = some r ∧ Q (.bl (!r.isSome)) H) := by
  subst h h3
  obtain ⟨es, n, D⟩ := D
  exact op_notIn_kd D
theorem ixKD (K : PySem.W.Frag) {d : Addr} (D : ∃ es n, KDict K w d es n) (h : X.K = K := by rfl) (h3 : X.w = w := by rfl) : IxR X (fun x y H Q => ∃ (z : Str) (u : Value) (v : V), x = .ref d ∧ y = .str z ∧ PySem.W.nsIn K d z = some (some u) ∧ RelV v u ∧ Q v H) := by
  subst h h3
  exact ix_kdx D
end
end Ol
namespace Ol
open PySem PySem.Spec PyProof.Rows L2 Evl
/-! ### what stands where -/
/-- a list of ints -/
abbrev LI (K : PySem.W.Frag) (H : Hp) (a : Addr) (ns : List Int) : Prop := SqL K H a (ns.map V.int)
/-- a list of texts -/
abbrev LS (K : PySem.W.Frag) (H : Hp) (a : Addr) (ws : List Str) : Prop := SqL K H a (ws.map V.str)
/-- a list of lists of ints, each with its address -/
def LL (K : PySem.W.Frag) (H : Hp) (a : Addr) (ps : List (Addr × List Int)) : Prop := SqL K H a (ps.map fun p => V.ref p.1) ∧ ∀ p ∈ ps, LI K H p.1 p.2
/-- a list of pairs of ints, each with its address -/
def LT (K : PySem.W.Frag) (H : Hp) (a : Addr) (ps : List (Addr × Tie)) : Prop := SqL K H a (ps.map fun p => V.ref p.1) ∧ ∀ p ∈ ps, SqT K H p.1 [.int p.2.1, .int p.2.2]
section
variable {K : PySem.W.Frag} {H H' : Hp} {a : Addr}
theorem LL.ex {ps : List (Addr × List Int)} (h : LL K H a ps) (e : Ex H H') : LL K H' a ps := ⟨ex_l e h.1, fun p hp => ex_l e (h.2 p hp)⟩
theorem LT.ex {ps : List (Addr × Tie)} (h : LT K H a ps) (e : Ex H H') : LT K H' a ps := ⟨ex_l e h.1, fun p hp => ex_t e (h.2 p hp)⟩
theorem tyx_list {xs : List V} (h : SqL K H a xs) : TyX K H (.ref a) (.type "list") := by
  rcases h with (h | ⟨o, h⟩) | ⟨o, its, n, h, c, _⟩
  · exact .base (.lst h)
  · exact .base (.frz h)
  · exact .kList h c
theorem tyx_tup {xs : List V} (h : SqT K H a xs) : TyX K H (.ref a) (.type "tuple") := by
  rcases h with (h | ⟨o, h⟩) | ⟨o, its, n, h, c, _⟩
  · exact .base (.tup h)
  · exact .fTuple h
  · exact .kTuple h c
end
/-! ### evaluating, further -/
/-- whatever P tells of the value and the heap behind -/
def EvP (te : TE) (σ : L2.St) (H : Hp) (P : V → Hp → Prop) : Prop := ∀ H1, Ex H H1 → ∀ Q : VK, (∀ v H2, Ex H1 H2 → P v H2 → Q v H2) → te σ H1 Q
section
variable {K : PySem.W.Frag} {σ : L2.St} {H H' : Hp} {ta tb te : TE} {t u : TT} {x y z v : V} {a : Addr} {D : Ends} {tz tu : TS}
/-! a reading at hand, by what it evaluates to -/
theorem go {Q : VK} (h : Ev te σ H v) (q : ∀ H1, Ex H H1 → Q v H1) : te σ H Q := h H (Ex.refl H) Q q
theorem goL {xs : List V} {Q : VK} (h : EvL te σ H xs) (q : ∀ p H1, H p = none → Ex H H1 → H1 p = some (.lst xs) → Q (.ref p) H1) : te σ H Q := h H (Ex.refl H) Q q
theorem goU {xs : List V} {Q : VK} (h : EvU te σ H xs) (q : ∀ p H1, H p = none → Ex H H1 → H1 p = some (.tup xs) → Q (.ref p) H1) : te σ H Q := h H (Ex.refl H) Q q
theorem goP {P : V → Hp → Prop} {Q : VK} (h : EvP te σ H P) (q : ∀ w H1, Ex H H1 → P w H1 → Q w H1) : te σ H Q := h H (Ex.refl H) Q q
theorem goT {b : Bool} {Q : Bool → Hp → Prop} (h : EvT t σ H b) (q : ∀ H1, Ex H H1 → Q b H1) : t σ H Q := h H (Ex.refl H) Q q
theorem goA {r : TA} {vs : List V} {Q : List V → Hp → Prop} (h : EvA r σ H vs) (q : ∀ H1, Ex H H1 → Q vs H1) : r σ H Q := h H (Ex.refl H) Q q
/-! peeling a reading, from the outside -/
theorem inOp {r : R2} {Q : VK} (h : ta σ H fun x H1 => tb σ H1 fun y H2 => r x y H2 Q) : tOp r ta tb σ H Q := h
theorem inCB {r : List V → Hp → VK → Prop} {s : TA} {Q : VK} (h : s σ H fun vs H1 => r vs H1 Q) : tCB r s σ H Q := h
theorem inCons {s : TA} {Q : List V → Hp → Prop} (h : ta σ H fun x H1 => s σ H1 fun xs H2 => Q (x :: xs) H2) : tCons ta s σ H Q := h
theorem inCall {sp : Sp} {E : XK} {s : TA} {Q : VK} (h : s σ H fun vs H1 => sp (vs ++ []) H1 Q E) : tCall sp [] E s σ H Q := h
theorem inTest {Q : Bool → Hp → Prop} (h : ta σ H fun x H1 => ∃ k, x = .bl k ∧ Q k H1) : tTest ta σ H Q := h
theorem inB {Q : Bool → Hp → Prop} (h : ta σ H fun x H1 => ∃ k, x = .bl k ∧ Q k H1) : tB ta σ H Q := h
theorem inNot {Q : Bool → Hp → Prop} (h : t σ H fun c H1 => Q (!c) H1) : tNot t σ H Q := h
theorem inTup {s : TA} {Q : VK} (h : s σ H fun xs H1 => xs.length ≤ sizeLine ∧ ∀ p, H1 p = none → Q (.ref p) (upd H1 p (.tup xs))) : tTup s σ H Q := h
theorem inLst {s : TA} {Q : VK} (h : s σ H fun xs H1 => xs.length ≤ sizeLine ∧ ∀ p, H1 p = none → Q (.ref p) (upd H1 p (.lst xs))) : tLst s σ H Q := h
theorem inRet {D : Ends} (h : ta σ H D.rt) : tRet ta D σ H := h
theorem inAsg {D : Ends} {g : TG} (h : ta σ H fun x H1 => g x σ H1 D.nx) : tAsg ta g D σ H := h
theorem inSet {D : Ends} {i : Nat} (h : ta σ H fun x H1 => D.nx (σ.set i (some x)) H1) : tAsg ta (gName i) D σ H := h
theorem inDrop {D : Ends} (h : ta σ H fun _ H1 => D.nx σ H1) : tDrop ta D σ H := h
theorem inSeq {D : Ends} {a b : TS} (h : a { D with nx := b D } σ H) : tSeq a b D σ H := h
theorem inIf {D : Ends} {a b : TS} (h : t σ H fun c H1 => if c = true then a D σ H1 else b D σ H1) : tIfS t a b D σ H := h
theorem EvL.p {xs : List V} (h : EvL te σ H xs) : EvP te σ H (fun v H2 => ∃ p, v = .ref p ∧ H2 p = some (.lst xs)) := fun H1 e Q q => h H1 e Q fun p H2 _ e2 h2 => q _ H2 e2 ⟨p, rfl, h2⟩
theorem Ev.p (h : Ev te σ H v) : EvP te σ H (fun w _ => w = v) := fun H1 e Q q => h H1 e Q fun H2 e2 => q v H2 e2 rfl
theorem ev_of {te : TE} (h : ∀ H1, Ex H H1 → ∀ Q : VK, Q v H1 → te σ H1 Q) : Ev te σ H v := fun H1 e Q q => h H1 e Q (q H1 (Ex.refl H1))
theorem et_of {b : Bool} (h : ∀ H1, Ex H H1 → ∀ Q : Bool → Hp → Prop, Q b H1 → t σ H1 Q) : EvT t σ H b := fun H1 e Q q => h H1 e Q (q H1 (Ex.refl H1))
theorem rv_of {r : R2} (h : ∀ H1, Ex H H1 → ∀ Q : VK, Q z H1 → r x y H1 Q) : RV r x y H z := fun H1 e Q q => h H1 e Q (q H1 (Ex.refl H1))
theorem rc_of {r : List V → Hp → VK → Prop} {vs : List V} (h : ∀ H1, Ex H H1 → ∀ Q : VK, Q z H1 → r vs H1 Q) : RC r vs H z := fun H1 e Q q => h H1 e Q (q H1 (Ex.refl H1))
/-- an argument that is a new list, then nothing -/
theorem ev_cbL {r : List V → Hp → VK → Prop} {xs : List V} (h : EvL te σ H xs) (hr : ∀ p H1, Ex H H1 → H1 p = some (.lst xs) → RC r [.ref p] H1 z) : Ev (tCB r (tCons te tNil)) σ H z := fun H1 e Q q =>
  h H1 e _ fun p H2 _ e2 h2 => hr p H2 (e.trans e2) h2 H2 (Ex.refl H2) Q fun H3 e3 => q H3 (e2.trans e3)
theorem el_cbL {r : List V → Hp → VK → Prop} {xs ys : List V} (h : EvL te σ H xs) (hr : ∀ p H1, Ex H H1 → H1 p = some (.lst xs) → RCL r [.ref p] H1 ys) : EvL (tCB r (tCons te tNil)) σ H ys := fun H1 e Q q =>
  h H1 e _ fun p H2 _ e2 h2 => hr p H2 (e.trans e2) h2 H2 (Ex.refl H2) Q fun p3 H3 n3 e3 h3 => q p3 H3 (fresh_back e2 n3) (e2.trans e3) h3
theorem ev_all {bs : List Bool} (h : EvL te σ H (bs.map V.bl)) : Ev (tCB (rAll K) (tCons te tNil)) σ H (.bl (bs.all id)) := ev_cbL h fun p H1 _ h1 => rc_of fun H2 e2 Q q => ⟨p, bs, rfl, sq_of (e2 _ _ h1), q⟩
theorem ev_isi {c : String} {ty : String} {b : Bool} (h : Ev te σ H x) (hty : TyX K H x (.type ty)) (hk : kitB ty c = some b) (mono : ∀ H1, Ex H H1 → TyX K H1 x (.type ty)) : Ev (tCB (rIsi K) (tCons te (tCons (tC (.ty c)) tNil))) σ H (.bl b) := fun H1 e Q q =>
  h H1 e _ fun H2 e2 => ⟨x, .ty c, .type ty, .type c, b, rfl, .ty c, mono H2 (e.trans e2), kit_ty hk, q H2 e2⟩
theorem ev_isiI {n : Int} {c : String} {b : Bool} (h : Ev te σ H (.int n)) (hk : kitB "int" c = some b) : Ev (tCB (rIsi K) (tCons te (tCons (tC (.ty c)) tNil))) σ H (.bl b) := ev_isi h (.base (.int n)) hk fun _ _ => .base (.int n)
theorem ev_isiS {w : Str} {c : String} {b : Bool} (h : Ev te σ H (.str w)) (hk : kitB "str" c = some b) : Ev (tCB (rIsi K) (tCons te (tCons (tC (.ty c)) tNil))) σ H (.bl b) := ev_isi h (.base (.str w)) hk fun _ _ => .base (.str w)
theorem ev_isiN {c : String} {b : Bool} (h : Ev te σ H .non) (hk : kitB "NoneType" c = some b) : Ev (tCB (rIsi K) (tCons te (tCons (tC (.ty c)) tNil))) σ H (.bl b) := ev_isi h (.base .non) hk fun _ _ => .base .non
theorem ev_isiB {w : Bool} {c : String} {b : Bool} (h : Ev te σ H (.bl w)) (hk : kitB "bool" c = some b) : Ev (tCB (rIsi K) (tCons te (tCons (tC (.ty c)) tNil))) σ H (.bl b) := ev_isi h (.base (.bl w)) hk fun _ _ => .base (.bl w)
theorem ev_isiL {xs : List V} {c : String} {b : Bool} (h : Ev te σ H (.ref a)) (hx : SqL K H a xs) (hk : kitB "list" c = some b) : Ev (tCB (rIsi K) (tCons te (tCons (tC (.ty c)) tNil))) σ H (.bl b) := ev_isi h (tyx_list hx) hk fun _ e => tyx_list (ex_l e hx)
theorem ev_isiT {xs : List V} {c : String} {b : Bool} (h : Ev te σ H (.ref a)) (hx : SqT K H a xs) (hk : kitB "tuple" c = some b) : Ev (tCB (rIsi K) (tCons te (tCons (tC (.ty c)) tNil))) σ H (.bl b) := ev_isi h (tyx_tup hx) hk fun _ e => tyx_tup (ex_t e hx)
/-- len -/
theorem ev_lenL {xs : List V} (h : Ev te σ H (.ref a)) (hx : SqL K H a xs) : Ev (tCB (fun xs H Q => ∃ p ys, xs = [V.ref p] ∧ (SqL K H p ys ∨ SqT K H p ys) ∧ Q (.int (ys.length : Int)) H) (tCons te tNil)) σ H (.int (xs.length : Int)) := ev_len h hx
/-- a call whose arguments are known: the promise's own continuation -/
theorem evp_call {sp : Sp} {vs : List V} {E : XK} {ta : TA} {P : V → Hp → Prop} (h : EvA ta σ H vs) (hs : ∀ H1, Ex H H1 → ∀ Q : VK, (∀ v H2, Ex H1 H2 → P v H2 → Q v H2) → sp vs H1 Q E) : EvP (tCall sp [] E ta) σ H P := fun H1 e Q q =>
  h H1 e _ fun H2 e2 => by
    show sp (vs ++ []) H2 Q E
    rw [List.append_nil]
    exact hs H2 (e.trans e2) Q fun v H3 e3 hp => q v H3 (e2.trans e3) hp
theorem ev_callV {sp : Sp} {vs : List V} {E : XK} {ta : TA} (h : EvA ta σ H vs) (hs : ∀ H1, Ex H H1 → ∀ Q : VK, (∀ H2, Ex H1 H2 → Q v H2) → sp vs H1 Q E) : Ev (tCall sp [] E ta) σ H v := fun H1 e Q q =>
  h H1 e _ fun H2 e2 => by
    show sp (vs ++ []) H2 Q E
    rw [List.append_nil]
    exact hs H2 (e.trans e2) Q fun H3 e3 => q H3 (e2.trans e3)
theorem el_callL {sp : Sp} {vs xs : List V} {E : XK} {ta : TA} (h : EvA ta σ H vs) (hs : ∀ H1, Ex H H1 → ∀ Q : VK, (∀ p H2, H1 p = none → Ex H1 H2 → H2 p = some (.lst xs) → Q (.ref p) H2) → sp vs H1 Q E) : EvL (tCall sp [] E ta) σ H xs := fun H1 e Q q =>
  h H1 e _ fun H2 e2 => by
    show sp (vs ++ []) H2 Q E
    rw [List.append_nil]
    exact hs H2 (e.trans e2) Q fun p H3 n3 e3 h3 => q p H3 (fresh_back e2 n3) (e2.trans e3) h3
theorem ea_one (h : Ev te σ H x) : EvA (tCons te tNil) σ H [x] := ea_cons h ea_nil
theorem ea_two (h : Ev ta σ H x) (h2 : Ev tb σ H y) : EvA (tCons ta (tCons tb tNil)) σ H [x, y] := ea_cons h (ea_one h2)
theorem ea_three {tc : TE} (h : Ev ta σ H x) (h2 : Ev tb σ H y) (h3 : Ev tc σ H z) : EvA (tCons ta (tCons tb (tCons tc tNil))) σ H [x, y, z] := ea_cons h (ea_two h2 h3)
/-! ### comprehensions over a list that is known -/
theorem take_succ_of {α : Type} {l : List α} {i : Nat} {z : α} (h : l[i]? = some z) : l.take (i + 1) = l.take i ++ [z] := by
  rw [List.take_add_one, h]
  rfl
theorem el_lcM {α : Type} (l : List α) (φ : α → V) (f : α → Bool) (g : α → V) {tl : TE} {j : Nat} {vs : List Nat} (h : Ev tl σ H (.ref a)) (hx : SqL K H a (l.map φ)) (hz : l.length ≤ 40000) (hw : ∀ x, wipe ((wipe σ vs).set j (some x)) vs = wipe σ vs)
    (ht : ∀ z ∈ l, ∀ H1, Ex H H1 → EvT t ((wipe σ vs).set j (some (φ z))) H1 (f z)) (he : ∀ z ∈ l, ∀ H1, Ex H H1 → f z = true → Ev te ((wipe σ vs).set j (some (φ z))) H1 (g z)) :
    EvL (tLc (iList K tl) (gName j) t te vs) σ H ((l.filter f).map g) := fun H0 e0 Q q => h H0 e0 _ fun H1 e1 => ⟨a, rfl, ⟨_, ex_l (e0.trans e1) hx⟩, fun Dl hD =>
  lc_list (xs := l.map φ) (fun i H' => H1 Dl = none ∧ Ex H1 H' ∧ H' Dl = some (.lst (((l.take i).filter f).map g))) ⟨hD, Ex.new hD, upd_same⟩ (fun i H' _ p => ex_l ((e0.trans e1).trans p.2.1) hx)
    (fun i x H' hi p => by
      obtain ⟨p1, p2, p3⟩ := p
      rw [List.getElem?_map] at hi
      cases hz2 : l[i]? with
      | none => rw [hz2] at hi; cases hi
      | some z =>
        rw [hz2] at hi
        cases hi
        have hm : z ∈ l := List.mem_of_getElem? hz2
        have hle : i < l.length := (List.getElem?_eq_some_iff.mp hz2).1
        have hle2 : (((l.take i).filter f).map g).length ≤ i := by
          rw [List.length_map]
          refine Nat.le_trans (List.length_filter_le _ _) ?_
          rw [List.length_take]
          omega
        refine ⟨hw _, ht z hm H' ((e0.trans e1).trans p2) H' (Ex.refl _) _ fun H3 e3 => ?_⟩
        rw [take_succ_of hz2, List.filter_append, List.map_append, List.filter_cons, List.filter_nil]
        cases hf : f z with
        | true =>
          refine iteT (he z hm H3 (((e0.trans e1).trans p2).trans e3) hf H3 (Ex.refl _) _ fun H4 e4 => ⟨_, e4 _ _ (e3 _ _ p3), sz_lt (by omega), p1, Ex.mut ((p2.trans e3).trans e4) p1, ?_⟩)
          rw [upd_same]
          rfl
        | false =>
          refine iteF ⟨p1, p2.trans e3, ?_⟩
          rw [e3 _ _ p3]
          simp)
    (fun H' p => q Dl H' (fresh_back e1 p.1) (e1.trans p.2.1) (by rw [p.2.2, List.length_map, List.take_length]))⟩
theorem el_is {xs ys : List V} (h : EvL te σ H xs) (e : xs = ys) : EvL te σ H ys := e ▸ h
/-- no test -/
theorem et_none {t : TT} (h : t = tYes) : EvT t σ H true := by
  subst h
  exact fun H1 e Q q => q H1 (Ex.refl H1)
theorem filter_all {α : Type} (l : List α) : l.filter (fun _ => true) = l := List.filter_eq_self.mpr fun _ _ => rfl
end
end Ol
namespace Ol
open PySem PySem.Spec PyProof.Rows L2 Evl
/-! ### sorted lists of ints are one -/
theorem sorted_one : ∀ {l m : List Int}, l.Perm m → l.Pairwise (· ≤ ·) → m.Pairwise (· ≤ ·) → l = m
  | [], m, h, _, _ => h.nil_eq
  | a :: l, [], h, _, _ => absurd h.symm.nil_eq (by simp)
  | a :: l, b :: m, h, h1, h2 => by
    obtain ⟨ha, k1⟩ := List.pairwise_cons.mp h1
    obtain ⟨hb, k2⟩ := List.pairwise_cons.mp h2
    have e : a = b := by
      have x : a ∈ b :: m := h.mem_iff.mp List.mem_cons_self
      have y : b ∈ a :: l := h.mem_iff.mpr List.mem_cons_self
      rcases List.mem_cons.mp x with x | x
      · exact x
      · rcases List.mem_cons.mp y with y | y
        · exact y.symm
        · have := ha b y
          have := hb a x
          omega
    subst e
    rw [sorted_one (List.Perm.cons_inv h) k1 k2]
theorem up_le {l : List Int} (h : l.Pairwise (· < ·)) : l.Pairwise (· ≤ ·) := h.imp fun h => Int.le_of_lt h
theorem up_nd {l : List Int} (h : l.Pairwise (· < ·)) : l.Nodup := h.imp fun h => Int.ne_of_lt h
theorem up_one : ∀ {l m : List Int}, l.Pairwise (· < ·) → m.Pairwise (· < ·) → (∀ x, x ∈ l ↔ x ∈ m) → l = m := fun {l m} h1 h2 h =>
  sorted_one ((List.perm_ext_iff_of_nodup (up_nd h1) (up_nd h2)).mpr h) (up_le h1) (up_le h2)
/-! ### data that is equal -/
mutual
theorem Dp.up {K : PySem.W.Frag} {H H' : Hp} (e : Ex H H') : ∀ {v : V} {d : PyData}, Dp K H v d → Dp K H' v d
  | _, _, .non => .non
  | _, _, .bl b => .bl b
  | _, _, .int i => .int i
  | _, _, .str x => .str x
  | _, _, .lst h a => .lst (ex_l e h) (DpAll.up e a)
  | _, _, .tup h a => .tup (ex_t e h) (DpAll.up e a)
theorem DpAll.up {K : PySem.W.Frag} {H H' : Hp} (e : Ex H H') : ∀ {v : List V} {d : List PyData}, DpAll K H v d → DpAll K H' v d
  | _, _, .nil => .nil
  | _, _, .cons h t => .cons (Dp.up e h) (DpAll.up e t)
end
theorem dpAll_map {K : PySem.W.Frag} {H : Hp} {α : Type} (φ : α → V) (δ : α → PyData) : ∀ l : List α, (∀ z ∈ l, Dp K H (φ z) (δ z)) → DpAll K H (l.map φ) (l.map δ)
  | [], _ => .nil
  | z :: l, h => .cons (h z List.mem_cons_self) (dpAll_map φ δ l fun y hy => h y (List.mem_cons_of_mem _ hy))
def dI (ns : List Int) : PyData := .list (ns.map PyData.int)
theorem dp_I {K : PySem.W.Frag} {H : Hp} {a : Addr} {ns : List Int} (h : LI K H a ns) : Dp K H (.ref a) (dI ns) := .lst h (dpAll_map _ _ ns fun z _ => .int z)
/-- data of a depth, with no dict -/
def Flat (n : Nat) (d : PyData) : Prop := d.canLay0 = true ∧ d.depth ≤ n
theorem Flat.mono {n m : Nat} {d : PyData} (h : Flat n d) (e : n ≤ m) : Flat m d := ⟨h.1, Nat.le_trans h.2 e⟩
theorem Flat.shaped {n : Nat} {d : PyData} (h : Flat n d) (hn : n ≤ 64) : SeqAt.shaped d = true := Bool.and_eq_true_iff.mpr ⟨h.1, decide_eq_true (Nat.le_trans h.2 hn)⟩
theorem flat_int (i : Int) : Flat 0 (.int i) := ⟨rfl, Nat.le_of_eq rfl⟩
theorem flat_str {i : Str} (h : PyData.canLay0 (.str i) = true) : Flat 0 (.str i) := ⟨h, Nat.le_of_eq rfl⟩
theorem flat_bool (i : Bool) : Flat 0 (.bool i) := ⟨rfl, Nat.le_of_eq rfl⟩
theorem flat_none : Flat 0 .none := ⟨rfl, Nat.le_of_eq rfl⟩
theorem flat_all {n : Nat} : ∀ {ds : List PyData}, (∀ d ∈ ds, Flat n d) → PyData.canLayAll0 ds = true ∧ PyData.depthAll ds ≤ n
  | [], _ => ⟨rfl, Nat.zero_le _⟩
  | d :: ds, h => by
    obtain ⟨a, b⟩ := flat_all (ds := ds) fun x hx => h x (List.mem_cons_of_mem _ hx)
    obtain ⟨c, e⟩ := h d List.mem_cons_self
    refine ⟨?_, ?_⟩
    · rw [PyData.canLayAll0, c, a]; rfl
    · rw [PyData.depthAll]; omega
theorem flat_list {n : Nat} {ds : List PyData} (h : ∀ d ∈ ds, Flat n d) : Flat (n + 1) (.list ds) := by
  obtain ⟨a, b⟩ := flat_all h
  refine ⟨by rw [PyData.canLay0]; exact a, ?_⟩
  rw [PyData.depth]
  omega
theorem flat_tuple {n : Nat} {ds : List PyData} (h : ∀ d ∈ ds, Flat n d) : Flat (n + 1) (.tuple ds) := by
  obtain ⟨a, b⟩ := flat_all h
  refine ⟨by rw [PyData.canLay0]; exact a, ?_⟩
  rw [PyData.depth]
  omega
theorem flat_I (ns : List Int) : Flat 1 (dI ns) := flat_list fun d hd => by
  obtain ⟨n, _, rfl⟩ := List.mem_map.mp hd
  exact flat_int n
section
variable {K : PySem.W.Frag} {σ : L2.St} {H H' : Hp} {ta tb te tl : TE} {t u : TT} {x y z v : V} {a : Addr} {D : Ends} {tz tu : TS} {g : TG}
theorem rv_same {d : PyData} {n : Nat} (h1 : Dp K H x d) (h2 : Dp K H y d) (f : Flat n d) (hn : n ≤ 64) : RV (rEqD K) x y H (.bl true) := rv_of fun H1 e Q q =>
  ⟨d, d, Dp.up e h1, Dp.up e h2, f.shaped hn, f.shaped hn, by rw [SeqAt.eqv_refl d f.1]; exact q⟩
theorem rv_notsame {d : PyData} {n : Nat} (h1 : Dp K H x d) (h2 : Dp K H y d) (f : Flat n d) (hn : n ≤ 64) : RV (rNeD K) x y H (.bl false) := rv_of fun H1 e Q q =>
  ⟨d, d, Dp.up e h1, Dp.up e h2, f.shaped hn, f.shaped hn, by rw [SeqAt.eqv_refl d f.1]; exact q⟩
/-! ### sorted, in, len, items -/
theorem el_sortedN {names r : List Int} (h : Ev te σ H (.ref a)) (hx : LI K H a r) (pm : r.Perm names) (up : names.Pairwise (· < ·)) (few : names.length < 64) : EvL (tCB (rSorted K) (tCons te tNil)) σ H (names.map V.int) :=
  el_cb (ea_one h) fun H1 e Q q => ⟨a, r, rfl, ex_l e hx, by rw [pm.length_eq]; exact few, fun ns' p pm' pw np => by
    have e2 : ns' = names := sorted_one (pm'.trans pm) pw (up_le up)
    rw [e2]
    exact q p _ np (Ex.new np) upd_same⟩
theorem inV_ints (n : Int) : ∀ ns : List Int, inV (.int n) (ns.map V.int) = decide (n ∈ ns)
  | [] => by simp [inV]
  | m :: ns => by
    have ih := inV_ints n ns
    unfold inV at ih ⊢
    rw [List.map_cons, List.any_cons, ih]
    show ((m == n) || decide (n ∈ ns)) = decide (n ∈ m :: ns)
    by_cases e : m = n
    · subst e; simp
    · have e2 : ¬ n = m := fun z => e z.symm
      simp [e, e2]
theorem flat_ints : ∀ ns : List Int, (ns.map V.int).all flatV = true
  | [] => rfl
  | _ :: ns => flat_ints ns
theorem ev_inI {ns : List Int} {n : Int} (h : Ev ta σ H (.int n)) (h2 : Ev tb σ H (.ref a)) (hx : LI K H a ns) : Ev (tOp (rIn K false) ta tb) σ H (.bl (decide (n ∈ ns))) :=
  ev_is (ev_op h h2 (rv_isL hx rfl (flat_ints ns))) (by rw [inV_ints])
theorem ev_niI {ns : List Int} {n : Int} (h : Ev ta σ H (.int n)) (h2 : Ev tb σ H (.ref a)) (hx : LI K H a ns) : Ev (tOp (rIn K true) ta tb) σ H (.bl (!decide (n ∈ ns))) :=
  ev_is (ev_op h h2 (rv_niL hx rfl (flat_ints ns))) (by rw [inV_ints])
theorem ev_lenT {xs : List V} (h : Ev te σ H (.ref a)) (hx : SqT K H a xs) : Ev (tCB (rLenS K) (tCons te tNil)) σ H (.int (xs.length : Int)) := fun H1 e Q q =>
  h H1 e _ fun H2 e2 => ⟨a, xs, rfl, Or.inr (ex_t (e.trans e2) hx), q H2 e2⟩
theorem ev_ixL {xs : List V} {i : Int} (h : Ev ta σ H (.ref a)) (h2 : Ev tb σ H (.int i)) (hx : SqL K H a xs) (hi : atI xs i = some v) : Ev (tOp (rIxL K) ta tb) σ H v := ev_op h h2 (rv_ixL hx hi)
theorem ev_ixT {xs : List V} {i : Int} (h : Ev ta σ H (.ref a)) (h2 : Ev tb σ H (.int i)) (hx : SqT K H a xs) (hi : atI xs i = some v) : Ev (tOp (rIxT K) ta tb) σ H v := ev_op h h2 (rv_ixT hx hi)
theorem ev_ixLN {xs : List V} {i : Int} (h : EvL ta σ H xs) (h2 : ∀ H1, Ex H H1 → Ev tb σ H1 (.int i)) (hi : atI xs i = some v) : Ev (tOp (rIxL K) ta tb) σ H v := ev_opL1 h h2 fun p H1 hp e => rv_ixL (sq_of hp) hi
/-- xs + ys, both lists, the second new -/
theorem el_cat {xs ys : List V} (ha : Ev ta σ H (.ref a)) (hq : H a = some (.lst xs)) (hb : EvL tb σ H ys) (hl : xs.length + ys.length ≤ 100000) : EvL (tOp rCat ta tb) σ H (xs ++ ys) := fun H1 e Q q =>
  ha H1 e _ fun H2 e2 => hb H2 (e.trans e2) _ fun p H3 n3 e3 h3 => ⟨a, p, xs, ys, rfl, rfl, e3 _ _ (e2 _ _ (e _ _ hq)), h3, sz_of hl, fun r nr => q r _ (fresh_back (e2.trans e3) nr) ((e2.trans e3).trans (Ex.new nr)) upd_same⟩
theorem el_catN {xs ys : List V} (ha : EvL ta σ H xs) (hb : ∀ H1, Ex H H1 → EvL tb σ H1 ys) (hl : xs.length + ys.length ≤ 100000) : EvL (tOp rCat ta tb) σ H (xs ++ ys) := fun H1 e Q q =>
  ha H1 e _ fun p2 H2 n2 e2 h2 => hb H2 (e.trans e2) H2 (Ex.refl _) _ fun p H3 n3 e3 h3 => ⟨p2, p, xs, ys, rfl, rfl, e3 _ _ h2, h3, sz_of hl, fun r nr => q r _ (fresh_back (e2.trans e3) nr) ((e2.trans e3).trans (Ex.new nr)) upd_same⟩
/-- a comprehension over a new tuple -/
theorem el_lcU {α : Type} (l : List α) (φ : α → V) (f : α → Bool) (g : α → V) {j : Nat} {vs : List Nat} (h : EvU tl σ H (l.map φ)) (hz : l.length ≤ 40000) (hw : ∀ x, wipe ((wipe σ vs).set j (some x)) vs = wipe σ vs)
    (ht : ∀ z ∈ l, ∀ H1, Ex H H1 → EvT t ((wipe σ vs).set j (some (φ z))) H1 (f z)) (he : ∀ z ∈ l, ∀ H1, Ex H H1 → f z = true → Ev te ((wipe σ vs).set j (some (φ z))) H1 (g z)) :
    EvL (tLc (iTup K tl) (gName j) t te vs) σ H ((l.filter f).map g) := fun H0 e0 Q q => h H0 e0 _ fun a H1 n1 e1 h1 => ⟨a, rfl, ⟨_, st_of h1⟩, fun Dl hD =>
  lc_tup (xs := l.map φ) (fun i H' => H1 Dl = none ∧ Ex H1 H' ∧ H' Dl = some (.lst (((l.take i).filter f).map g))) ⟨hD, Ex.new hD, upd_same⟩ (fun i H' _ p => st_of (p.2.1 _ _ h1))
    (fun i x H' hi p => by
      obtain ⟨p1, p2, p3⟩ := p
      rw [List.getElem?_map] at hi
      cases hz2 : l[i]? with
      | none => rw [hz2] at hi; cases hi
      | some z =>
        rw [hz2] at hi
        cases hi
        have hm : z ∈ l := List.mem_of_getElem? hz2
        have hle : i < l.length := (List.getElem?_eq_some_iff.mp hz2).1
        have hle2 : (((l.take i).filter f).map g).length ≤ i := by
          rw [List.length_map]
          refine Nat.le_trans (List.length_filter_le _ _) ?_
          rw [List.length_take]
          omega
        refine ⟨hw _, ht z hm H' ((e0.trans e1).trans p2) H' (Ex.refl _) _ fun H3 e3 => ?_⟩
        rw [take_succ_of hz2, List.filter_append, List.map_append, List.filter_cons, List.filter_nil]
        cases hf : f z with
        | true =>
          refine iteT (he z hm H3 (((e0.trans e1).trans p2).trans e3) hf H3 (Ex.refl _) _ fun H4 e4 => ⟨_, e4 _ _ (e3 _ _ p3), sz_lt (by omega), p1, Ex.mut ((p2.trans e3).trans e4) p1, ?_⟩)
          rw [upd_same]
          rfl
        | false =>
          refine iteF ⟨p1, p2.trans e3, ?_⟩
          rw [e3 _ _ p3]
          simp)
    (fun H' p => q Dl H' (fresh_back e1 p.1) (e1.trans p.2.1) (by rw [p.2.2, List.length_map, List.take_length]))⟩
/-- a for over a list that is known: the word speaks of what was taken -/
theorem fo_M {α : Type} (l : List α) (φ : α → V) (h : Ev tl σ H (.ref a)) (hx : SqL K H a (l.map φ)) (Pv : List α → L2.St → Hp → Prop) (h0 : ∀ H1, Ex H H1 → Pv [] σ H1)
    (hs : ∀ pre z post σ' H', l = pre ++ z :: post → Ex H H' → Pv pre σ' H' → g (φ z) σ' H' fun σ2 H2 => tu { D with nx := fun σ3 H3 => Ex H H3 ∧ Pv (pre ++ [z]) σ3 H3, ct := fun σ3 H3 => Ex H H3 ∧ Pv (pre ++ [z]) σ3 H3, bk := D.nx } σ2 H2)
    (hd : ∀ σ' H', Ex H H' → Pv l σ' H' → D.nx σ' H') : tFor (iList K tl) g tu D σ H :=
  s_forL h hx (fun i σ' H' => Ex H H' ∧ Pv (l.take i) σ' H') (fun H1 e => ⟨e, h0 H1 e⟩) (fun i σ' H' _ p => ex_l p.1 hx)
    (fun i x σ' H' hi p => by
      rw [List.getElem?_map] at hi
      cases hz : l[i]? with
      | none => rw [hz] at hi; cases hi
      | some z =>
        rw [hz] at hi
        cases hi
        obtain ⟨hlt, e1⟩ := List.getElem?_eq_some_iff.mp hz
        have split : l = l.take i ++ z :: l.drop (i + 1) := by
          rw [← e1, ← List.drop_eq_getElem_cons hlt, List.take_append_drop]
        rw [take_succ_of hz]
        exact hs _ z _ σ' H' split p.1 p.2)
    (fun σ' H' p => hd σ' H' p.1 (by
      have e : l.take (l.map φ).length = l := by rw [List.length_map, List.take_length]
      have p2 := p.2
      rw [e] at p2
      exact p2))
theorem qo_M {α : Type} (l : List α) (φ : α → V) (h : Ev tl σ H (.ref a)) (hx : SqL K H a (l.map φ)) (Pv : List α → L2.St → Hp → Prop) (h0 : ∀ H1, Ex H H1 → Pv [] σ H1)
    (hs : ∀ pre z post σ' H', l = pre ++ z :: post → Ex H H' → Pv pre σ' H' → g (φ z) σ' H' fun σ2 H2 => tu { D with nx := fun σ3 H3 => Ex H H3 ∧ Pv (pre ++ [z]) σ3 H3, ct := fun σ3 H3 => Ex H H3 ∧ Pv (pre ++ [z]) σ3 H3, bk := tz D } σ2 H2)
    (hd : ∀ σ' H', Ex H H' → Pv l σ' H' → tz D σ' H') : tSeq (tFor (iList K tl) g tu) tz D σ H := fo_M (D := { D with nx := tz D }) l φ h hx Pv h0 hs hd
/-- the pair that a for's target takes -/
theorem g_pair {p : Addr} {i j : Nat} {Q : L2.St → Hp → Prop} (h : SqT K H p [x, y]) (q : Q ((σ.set i (some x)).set j (some y)) H) : gTup K 2 (gCons (gName i) (gCons (gName j) gNil)) (.ref p) σ H Q := ⟨p, [x, y], rfl, h, rfl, x, [y], rfl, y, [], rfl, rfl, q⟩
end
end Ol
namespace Ol
open PySem PySem.Spec PyProof.Rows L2 Evl
/-! ### what is told: its lists, each at one place of it -/
mutual
inductive Own (H : Hp) : V → PyData → List Addr → Prop
  | non : Own H .non .none []
  | bl (b : Bool) : Own H (.bl b) (.bool b) []
  | int (i : Int) : Own H (.int i) (.int i) []
  | str (x : Str) : Own H (.str x) (.str x) []
  | lst {a : Addr} {xs : List V} {ds : List PyData} {S : List Addr} : H a = some (.lst xs) → OwnAll H xs ds S → Own H (.ref a) (.list ds) (a :: S)
  | tup {a : Addr} {xs : List V} {ds : List PyData} {S : List Addr} : H a = some (.tup xs) → OwnAll H xs ds S → Own H (.ref a) (.tuple ds) S
inductive OwnAll (H : Hp) : List V → List PyData → List Addr → Prop
  | nil : OwnAll H [] [] []
  | cons {v : V} {vs : List V} {d : PyData} {ds : List PyData} {S S' : List Addr} : Own H v d S → OwnAll H vs ds S' → OwnAll H (v :: vs) (d :: ds) (S ++ S')
end
mutual
theorem Own.dp {K : PySem.W.Frag} {H : Hp} : ∀ {v : V} {d : PyData} {S : List Addr}, Own H v d S → Dp K H v d
  | _, _, _, .non => .non
  | _, _, _, .bl b => .bl b
  | _, _, _, .int i => .int i
  | _, _, _, .str x => .str x
  | _, _, _, .lst h a => .lst (sq_of h) (OwnAll.dp a)
  | _, _, _, .tup h a => .tup (st_of h) (OwnAll.dp a)
theorem OwnAll.dp {K : PySem.W.Frag} {H : Hp} : ∀ {v : List V} {d : List PyData} {S : List Addr}, OwnAll H v d S → DpAll K H v d
  | _, _, _, .nil => .nil
  | _, _, _, .cons h t => .cons (Own.dp h) (OwnAll.dp t)
end
/-- it stays where its lists and all tuples stay -/
abbrev Stay (S : List Addr) (H H' : Hp) : Prop := (∀ a ∈ S, ∀ o, H a = some o → H' a = some o) ∧ ∀ a xs, H a = some (.tup xs) → H' a = some (.tup xs)
mutual
theorem Own.stay {H H' : Hp} : ∀ {v : V} {d : PyData} {S : List Addr}, Own H v d S → Stay S H H' → Own H' v d S
  | _, _, _, .non, _ => .non
  | _, _, _, .bl b, _ => .bl b
  | _, _, _, .int i, _ => .int i
  | _, _, _, .str x, _ => .str x
  | _, _, _, .lst h a, k => .lst (k.1 _ List.mem_cons_self _ h) (OwnAll.stay a ⟨fun b hb => k.1 b (List.mem_cons_of_mem _ hb), k.2⟩)
  | _, _, _, .tup h a, k => .tup (k.2 _ _ h) (OwnAll.stay a k)
theorem OwnAll.stay {H H' : Hp} : ∀ {v : List V} {d : List PyData} {S : List Addr}, OwnAll H v d S → Stay S H H' → OwnAll H' v d S
  | _, _, _, .nil, _ => .nil
  | _, _, _, .cons h t, k => .cons (Own.stay h ⟨fun b hb => k.1 b (List.mem_append_left _ hb), k.2⟩) (OwnAll.stay t ⟨fun b hb => k.1 b (List.mem_append_right _ hb), k.2⟩)
end
theorem Stay.ex {S : List Addr} {H H' : Hp} (e : Ex H H') : Stay S H H' := ⟨fun a _ o h => e a o h, fun a xs h => e a _ h⟩
theorem Own.ex {H H' : Hp} {v : V} {d : PyData} {S : List Addr} (h : Own H v d S) (e : Ex H H') : Own H' v d S := h.stay (.ex e)
theorem OwnAll.ex {H H' : Hp} {v : List V} {d : List PyData} {S : List Addr} (h : OwnAll H v d S) (e : Ex H H') : OwnAll H' v d S := h.stay (.ex e)
mutual
theorem Own.there {H : Hp} : ∀ {v : V} {d : PyData} {S : List Addr}, Own H v d S → ∀ a ∈ S, ∃ xs, H a = some (.lst xs)
  | _, _, _, .non, _, h => nomatch h
  | _, _, _, .bl b, _, h => nomatch h
  | _, _, _, .int i, _, h => nomatch h
  | _, _, _, .str x, _, h => nomatch h
  | _, _, _, .lst h k, a, ha => by
    rcases List.mem_cons.mp ha with e | ha
    · rw [e]; exact ⟨_, h⟩
    · exact OwnAll.there k a ha
  | _, _, _, .tup h k, a, ha => OwnAll.there k a ha
theorem OwnAll.there {H : Hp} : ∀ {v : List V} {d : List PyData} {S : List Addr}, OwnAll H v d S → ∀ a ∈ S, ∃ xs, H a = some (.lst xs)
  | _, _, _, .nil, _, h => nomatch h
  | _, _, _, .cons h t, a, ha => by
    rcases List.mem_append.mp ha with ha | ha
    · exact Own.there h a ha
    · exact OwnAll.there t a ha
end
/-! ### data whose lists hold no texts themselves -/
def isStr : PyData → Bool
  | .str _ => true
  | _ => false
mutual
def tidy : PyData → Bool
  | .list ds => decide (ds.length ≤ 1000) && ((ds.all fun d => !isStr d) && tidyAll ds)
  | .tuple ds => decide (ds.length ≤ 1000) && tidyAll ds
  | .dict _ => false
  | _ => true
def tidyAll : List PyData → Bool
  | [] => true
  | d :: ds => tidy d && tidyAll ds
end
theorem tidyAll_iff : ∀ {ds : List PyData}, tidyAll ds = true ↔ ∀ d ∈ ds, tidy d = true
  | [] => ⟨fun _ _ h => (nomatch h), fun _ => rfl⟩
  | d :: ds => by
    rw [tidyAll, Bool.and_eq_true, tidyAll_iff (ds := ds)]
    exact ⟨fun h x hx => (List.mem_cons.mp hx).elim (fun e => e ▸ h.1) (h.2 x), fun h => ⟨h d List.mem_cons_self, fun x hx => h x (List.mem_cons_of_mem _ hx)⟩⟩
theorem tidy_tup {ds : List PyData} (hl : ds.length ≤ 1000) (h : ∀ d ∈ ds, tidy d = true) : tidy (.tuple ds) = true := by
  rw [tidy, Bool.and_eq_true, decide_eq_true_eq]
  exact ⟨hl, tidyAll_iff.mpr h⟩
theorem tidy_list {ds : List PyData} (hl : ds.length ≤ 1000) (hs : ∀ d ∈ ds, isStr d = false) (h : ∀ d ∈ ds, tidy d = true) : tidy (.list ds) = true := by
  rw [tidy, Bool.and_eq_true, Bool.and_eq_true, decide_eq_true_eq, List.all_eq_true]
  exact ⟨hl, fun d hd => by rw [hs d hd]; rfl, tidyAll_iff.mpr h⟩
theorem tidy_list_of {ds : List PyData} (h : tidy (.list ds) = true) : ds.length ≤ 1000 ∧ (∀ d ∈ ds, isStr d = false) ∧ ∀ d ∈ ds, tidy d = true := by
  rw [tidy, Bool.and_eq_true, Bool.and_eq_true, decide_eq_true_eq, List.all_eq_true] at h
  exact ⟨h.1, fun d hd => by simpa using h.2.1 d hd, tidyAll_iff.mp h.2.2⟩
theorem tidy_tup_of {ds : List PyData} (h : tidy (.tuple ds) = true) : ds.length ≤ 1000 ∧ ∀ d ∈ ds, tidy d = true := by
  rw [tidy, Bool.and_eq_true, decide_eq_true_eq] at h
  exact ⟨h.1, tidyAll_iff.mp h.2⟩
/-- what a function of the program tells: lists of its own, at one place each -/
def Told (H : Hp) (Q : VK) : Prop := ∀ v d S H', Ex H H' → Own H' v d S → S.Nodup → (∀ a ∈ S, H a = none) → Flat 4 d → tidy d = true → Q v H'
theorem Told.go {H H' : Hp} {Q : VK} (k : Told H Q) (e : Ex H H') : Told H' Q := fun v d S H2 e2 o n f fl ti => k v d S H2 (e.trans e2) o n (fun a ha => fresh_back e (f a ha)) fl ti
theorem own_ints {H : Hp} : ∀ ns : List Int, OwnAll H (ns.map V.int) (ns.map PyData.int) []
  | [] => .nil
  | n :: ns => .cons (S := []) (.int n) (own_ints ns)
theorem own_I {H : Hp} {a : Addr} {ns : List Int} (h : H a = some (.lst (ns.map V.int))) : Own H (.ref a) (dI ns) [a] := .lst h (own_ints ns)
theorem tidy_I (ns : List Int) (h : ns.length ≤ 1000) : tidy (dI ns) = true := tidy_list (by rw [List.length_map]; exact h) (fun d hd => by obtain ⟨n, _, rfl⟩ := List.mem_map.mp hd; rfl) fun d hd => by obtain ⟨n, _, rfl⟩ := List.mem_map.mp hd; rfl
theorem Told.int {H H' : Hp} {Q : VK} (k : Told H Q) (e : Ex H H') (i : Int) : Q (.int i) H' := k _ _ [] H' e (.int i) List.nodup_nil (fun _ h => nomatch h) ((flat_int i).mono (by omega)) rfl
theorem Told.bl {H H' : Hp} {Q : VK} (k : Told H Q) (e : Ex H H') (i : Bool) : Q (.bl i) H' := k _ _ [] H' e (.bl i) List.nodup_nil (fun _ h => nomatch h) ((flat_bool i).mono (by omega)) rfl
theorem Told.non {H H' : Hp} {Q : VK} (k : Told H Q) (e : Ex H H') : Q .non H' := k _ _ [] H' e .non List.nodup_nil (fun _ h => nomatch h) (flat_none.mono (by omega)) rfl
theorem Told.ints {H H' : Hp} {Q : VK} (k : Told H Q) (e : Ex H H') {p : Addr} {ns : List Int} (n : H p = none) (h : H' p = some (.lst (ns.map V.int))) (hl : ns.length ≤ 1000) : Q (.ref p) H' :=
  k _ _ [p] H' e (own_I h) (List.nodup_cons.mpr ⟨List.not_mem_nil, List.nodup_nil⟩) (fun a ha => by rw [List.mem_singleton.mp ha]; exact n) ((flat_I ns).mono (by omega)) (tidy_I ns hl)
end Ol
namespace Ol
open PySem PySem.Spec PyProof.Rows L2 Evl
theorem paired_snoc {α β : Type} {F : α → β → Prop} {x : α} {y : β} (h : F x y) : ∀ {l : List α} {m : List β}, Paired F l m → Paired F (l ++ [x]) (m ++ [y])
  | _, _, .nil => .cons h .nil
  | _, _, .cons r t => .cons r (paired_snoc h t)
theorem paired_mem {α β : Type} {F : α → β → Prop} : ∀ {l : List α} {m : List β}, Paired F l m → ∀ y ∈ m, ∃ x ∈ l, F x y
  | _, _, .nil, _, h => nomatch h
  | _, _, .cons r t, y, h => by
    rcases List.mem_cons.mp h with e | h
    · exact ⟨_, List.mem_cons_self, e ▸ r⟩
    · obtain ⟨x, hx, f⟩ := paired_mem t y h
      exact ⟨x, List.mem_cons_of_mem _ hx, f⟩
theorem paired_eq {α : Type} {g : α → V} : ∀ {l : List α} {m : List V}, Paired (fun z y => y = g z) l m → m = l.map g
  | _, _, .nil => rfl
  | _, _, .cons r t => by rw [List.map_cons, r, paired_eq t]
section
variable {K : PySem.W.Frag} {σ : L2.St} {H H' : Hp} {ta tb te tl : TE} {t u : TT} {x y z v : V} {a : Addr} {D : Ends} {tz tu : TS} {g : TG}
/-- kept but for what stands at D -/
abbrev But (D : Addr) (H H' : Hp) : Prop := ∀ b o, b ≠ D → H b = some o → H' b = some o
theorem But.ex {D : Addr} {H H' : Hp} (e : Ex H H') : But D H H' := fun b o _ h => e b o h
theorem But.upd {D : Addr} {H : Hp} {o : HO} : But D H (upd H D o) := fun b u hb h => by rw [upd_ne hb]; exact h
/-- the general comprehension over a list: any target, a test, elements by what R says of them (D: the list that is made) -/
theorem lc_N {α : Type} (l : List α) (φ : α → V) (st : α → L2.St) (f : α → Bool) (R : Addr → α → V → Hp → Prop) {vs : List Nat} (mono : ∀ D z v H H', But D H H' → R D z v H → R D z v H') (h : Ev tl σ H (.ref a)) (hx : SqL K H a (l.map φ)) (hz : l.length ≤ 40000)
    (hg : ∀ z ∈ l, ∀ H1, Ex H H1 → ∀ Q : L2.St → Hp → Prop, Q (st z) H1 → g (φ z) (wipe σ vs) H1 Q) (hw : ∀ z ∈ l, wipe (st z) vs = wipe σ vs)
    (ht : ∀ z ∈ l, ∀ H1, Ex H H1 → EvT t (st z) H1 (f z)) (he : ∀ D, H D = none → ∀ z ∈ l, ∀ H1, Ex H H1 → H1 D ≠ none → f z = true → EvP te (st z) H1 (R D z)) {Q : VK}
    (q : ∀ p ys H2, H p = none → Ex H H2 → H2 p = some (.lst ys) → Paired (fun z y => R p z y H2) (l.filter f) ys → Q (.ref p) H2) : tLc (iList K tl) g t te vs σ H Q := h H (Ex.refl H) _ fun H1 e1 => ⟨a, rfl, ⟨_, ex_l e1 hx⟩, fun Dl hD =>
  lc_list (xs := l.map φ) (fun i H' => H1 Dl = none ∧ Ex H1 H' ∧ ∃ ys, H' Dl = some (.lst ys) ∧ Paired (fun z y => R Dl z y H') ((l.take i).filter f) ys) ⟨hD, Ex.new hD, [], upd_same, .nil⟩ (fun i H' _ p => ex_l (e1.trans p.2.1) hx)
    (fun i x H' hi p => by
      obtain ⟨p1, p2, ys, p3, p4⟩ := p
      rw [List.getElem?_map] at hi
      cases hz2 : l[i]? with
      | none => rw [hz2] at hi; cases hi
      | some z =>
        rw [hz2] at hi
        cases hi
        have hm : z ∈ l := List.mem_of_getElem? hz2
        have hle : i < l.length := (List.getElem?_eq_some_iff.mp hz2).1
        have hle2 : ys.length ≤ i := by
          rw [← Paired.length p4]
          refine Nat.le_trans (List.length_filter_le _ _) ?_
          rw [List.length_take]
          omega
        refine hg z hm H' (e1.trans p2) _ ⟨hw z hm, ht z hm H' (e1.trans p2) H' (Ex.refl _) _ fun H3 e3 => ?_⟩
        rw [take_succ_of hz2, List.filter_append, List.filter_cons, List.filter_nil]
        cases hf : f z with
        | true =>
          have there : H3 Dl ≠ none := by rw [e3 _ _ p3]; exact fun z => nomatch z
          refine iteT (he Dl (fresh_back e1 p1) z hm H3 ((e1.trans p2).trans e3) there hf H3 (Ex.refl _) _ fun v H4 e4 r => ⟨ys, e4 _ _ (e3 _ _ p3), sz_lt (by omega), p1, Ex.mut ((p2.trans e3).trans e4) p1, ys ++ [v], upd_same, ?_⟩)
          exact paired_snoc (F := fun z y => R Dl z y (upd H4 Dl (.lst (ys ++ [v])))) (mono Dl z v H4 _ But.upd r) (Paired.mapP p4 fun z y r => mono Dl z y H4 _ But.upd (mono Dl z y H' H4 (But.ex (e3.trans e4)) r))
        | false =>
          refine iteF ⟨p1, p2.trans e3, ys, e3 _ _ p3, ?_⟩
          rw [if_neg (by decide), List.append_nil]
          exact Paired.mapP p4 fun z y r => mono Dl z y _ _ (But.ex e3) r)
    (fun H' p => by
      obtain ⟨p1, p2, ys, p3, p4⟩ := p
      rw [List.length_map, List.take_length] at p4
      exact q Dl ys H' (fresh_back e1 p1) (e1.trans p2) p3 p4)⟩
/-- elements that are known values, any target -/
theorem el_lcG {α : Type} (l : List α) (φ : α → V) (st : α → L2.St) (f : α → Bool) (w : α → V) {vs : List Nat} (h : Ev tl σ H (.ref a)) (hx : SqL K H a (l.map φ)) (hz : l.length ≤ 40000)
    (hg : ∀ z ∈ l, ∀ H1, Ex H H1 → ∀ Q : L2.St → Hp → Prop, Q (st z) H1 → g (φ z) (wipe σ vs) H1 Q) (hw : ∀ z ∈ l, wipe (st z) vs = wipe σ vs)
    (ht : ∀ z ∈ l, ∀ H1, Ex H H1 → EvT t (st z) H1 (f z)) (he : ∀ z ∈ l, ∀ H1, Ex H H1 → f z = true → Ev te (st z) H1 (w z)) : EvL (tLc (iList K tl) g t te vs) σ H ((l.filter f).map w) := fun H0 e0 Q q =>
  lc_N l φ st f (fun _ z v _ => v = w z) (fun _ _ _ _ _ _ r => r) (h.mono e0) (ex_l e0 hx) hz (fun z hz H1 e1 => hg z hz H1 (e0.trans e1)) hw (fun z hz H1 e1 => ht z hz H1 (e0.trans e1)) (fun D _ z hz H1 e1 _ hf => Ev.p (he z hz H1 (e0.trans e1) hf))
    fun p ys H2 n e hp pr => q p H2 n e (by rw [hp, paired_eq pr])
/-- a for whose walked list is reckoned first -/
theorem inFor {D : Ends} (h : tl σ H fun x H1 => tFor (iList K (tC x)) g tu D σ H1) : tFor (iList K tl) g tu D σ H := h
theorem ev_min2 {i j : Int} (h : Ev ta σ H (.int i)) (h2 : Ev tb σ H (.int j)) : Ev (tCB (fun xs H Q => ∃ i j, xs = [V.int i, V.int j] ∧ Q (.int (if j < i then j else i)) H) (tCons ta (tCons tb tNil))) σ H (.int (min i j)) :=
  ev_cb (ea_two h h2) (rc_of fun H1 e Q q => ⟨i, j, rfl, by
    have e : (if j < i then j else i) = min i j := by split <;> omega
    rw [e]; exact q⟩)
theorem ev_maxI {i j : Int} (h : Ev ta σ H (.int i)) (h2 : Ev tb σ H (.int j)) : Ev (tCB rMax2 (tCons ta (tCons tb tNil))) σ H (.int (max i j)) := ev_is (ev_max2 h h2) (by
  congr 1
  split <;> omega)
/-- lists of pairs of ints, as they are told -/
theorem own_pairs {H : Hp} : ∀ {ys : List V}, (∀ y ∈ ys, ∃ t i j, y = V.ref t ∧ H t = some (.tup [.int i, .int j])) → ∃ ds : List PyData, OwnAll H ys ds [] ∧ ds.length = ys.length ∧ ∀ d ∈ ds, ∃ i j : Int, d = .tuple [.int i, .int j]
  | [], _ => ⟨[], .nil, rfl, fun _ h => nomatch h⟩
  | y :: ys, h => by
    obtain ⟨ds, o, len, k⟩ := own_pairs (ys := ys) fun z hz => h z (List.mem_cons_of_mem _ hz)
    obtain ⟨t, i, j, rfl, ht⟩ := h y List.mem_cons_self
    refine ⟨.tuple [.int i, .int j] :: ds, .cons (S := []) (.tup ht (.cons (S := []) (.int i) (.cons (S := []) (.int j) .nil))) o, by rw [List.length_cons, List.length_cons, len], fun d hd => ?_⟩
    rcases List.mem_cons.mp hd with e | hd
    · exact ⟨i, j, e⟩
    · exact k d hd
theorem flat_pair (i j : Int) : Flat 1 (.tuple [.int i, .int j]) := flat_tuple fun d hd => by
  rcases List.mem_cons.mp hd with rfl | hd
  · exact flat_int _
  · rw [List.mem_singleton.mp hd]
    exact flat_int _
theorem pairs_ok {ds : List PyData} (h : ∀ d ∈ ds, ∃ i j : Int, d = .tuple [.int i, .int j]) (hl : ds.length ≤ 1000) : Flat 2 (.list ds) ∧ tidy (.list ds) = true := by
  refine ⟨flat_list fun d hd => ?_, tidy_list hl (fun d hd => ?_) fun d hd => ?_⟩
  · obtain ⟨i, j, rfl⟩ := h d hd
    exact flat_pair i j
  · obtain ⟨i, j, rfl⟩ := h d hd
    rfl
  · obtain ⟨i, j, rfl⟩ := h d hd
    rfl
end
end Ol
/-! A walk over enumerate of a tuple: the library has it for lists and texts. -/
namespace Ol
open PySem PySem.Spec PyProof.Rows L2 Evl
open Sem (wp)
open AutoSeq1 (wpAny_loadPart')
/-! ### the making -/
theorem meets_enumT (l : Addr) (items : Array Value) (n : Nat) (dct : Option Addr) (sl : Array (Option Value)) : -- of a tuple
    Meets (Builtin.«enumerate.__new__» ⟨[.type "enumerate", .ref l], []⟩) (fun _ R s => s.heap.get? l = some { cls := .type "tuple", dict := dct, data := .seq items n, slots := sl } ∧
      R (.ok (.ret (.ref (s.heap.push { cls := .type "tuple_iterator", data := .fields #[.ref l, .int 0 0] }).objs.size)))
        { s with heap := (s.heap.push { cls := .type "tuple_iterator", data := .fields #[.ref l, .int 0 0] }).push { cls := .type "enumerate", data := .fields #[.none, .bool false, .ref s.heap.objs.size, rawInt 0, .none, .none] } }) :=
  .of_wp fun prog w A R s h => by
    obtain ⟨hp, g, d, tk, os⟩ := s; obtain ⟨hl, h⟩ := h -- ol
    have hsub := sub_enumerate
    have hT : Heap.IsTuple (Shared.heap ⟨hp, g, d, tk, os⟩) l items := ⟨_, hl, rfl, n, rfl⟩
    wp_walk using wpAny_loadPart' hl
    refine wpAny_stack_any fun st => wpAny_pure ?_ -- ol
    split
    · rename_i c _ _ _ _ _
      cases (c == Value.type "enumerate") -- ol
      · wp_walk using wpAny_loadPart' hl, wpAny_pyIter_tuple hT
        exact ⟨_, rfl, h⟩
      · wp_walk using wpAny_loadPart' hl, wpAny_pyIter_tuple hT
        exact ⟨_, rfl, h⟩
    · wp_walk using wpAny_loadPart' hl, wpAny_pyIter_tuple hT
      exact ⟨_, rfl, h⟩
section
variable {prog : Program} {w : World} {A : Around} {E : Value → Shared → Prop} {s : Shared} -- ol
theorem call_enumT {l : Addr} {items : Array Value} {Q : Value → Shared → Prop} (hT : s.heap.IsTuple l items)
    (h : ∀ h', IsEnum h' (s.heap.objs.size + 1) s.heap.objs.size 0 .none → h'.IsTupleIter s.heap.objs.size l 0 → h'.objs.size = s.heap.objs.size + 2 →
      (∀ b o, s.heap.get? b = some o → h'.get? b = some o) → Q (.ref (s.heap.objs.size + 1)) { s with heap := h' }) : wpAny (model prog w) A (call (.type "enumerate") [.ref l]) Q E s := by
  obtain ⟨⟨c, dct, dt, sl⟩, hl, hc, n, hd⟩ := hT
  replace hc : c = .type "tuple" := hc
  replace hd : dt = .seq items n := hd -- ol
  subst hc hd
  refine callType_new F.called_enumerate (by decide) (F.typeCall_enumerate_1 _) (F.newCall_enumerate_1 _) (fun obj => F.args_object_init_2 obj _) F.entry_enumerate_new (meets_enumT l items n dct sl) ⟨hl, ?_⟩
  have hz : (s.heap.push { cls := .type "tuple_iterator", data := .fields #[.ref l, .int 0 0] }).objs.size = s.heap.objs.size + 1 := Heap.size_push ..
  show _ ∧ _
  rw [hz]
  have he : IsEnum ((s.heap.push { cls := .type "tuple_iterator", data := .fields #[.ref l, .int 0 0] }).push { cls := .type "enumerate", data := .fields #[.none, .bool false, .ref s.heap.objs.size, rawInt 0, .none, .none] }) (s.heap.objs.size + 1) s.heap.objs.size 0 .none := by
    have := Heap.get?_push_size (s.heap.push { cls := .type "tuple_iterator", data := .fields #[.ref l, .int 0 0] }) (o := { cls := .type "enumerate", data := .fields #[.none, .bool false, .ref s.heap.objs.size, rawInt 0, .none, .none] }) rfl
    rw [hz] at this
    exact this
  refine ⟨⟨_, he, rfl⟩, h _ he ⟨_, Heap.get?_push_of_some _ (Heap.get?_push_size _ rfl), rfl, rfl⟩ (by rw [Heap.size_push, hz]) fun b o x => Heap.get?_push_of_some _ (Heap.get?_push_of_some _ x)⟩ -- ol
end
/-- the tuple at a, each item in a new pair -/
def IteT (K : PySem.W.Frag) (a : Addr) : It :=
  ⟨fun i H => ∃ (xs : List V) (x : V), SqT K H a xs ∧ xs[i]? = some x, fun i H v H' => ∃ T x, v = .ref T ∧ H T = none ∧ H' = upd H T (.tup [.int (i : Nat), x]) ∧ ∀ xs, SqT K H a xs → xs[i]? = some x, fun i H => ∃ xs : List V, SqT K H a xs ∧ xs.length ≤ i⟩
theorem turn_enumT {P : Program} {w : World} {K : PySem.W.Frag} {elts : List Expr} {kk : Nat} {tpos : Pos} (a e it : Addr) (hne : e ≠ it) (hea : e ≠ a) (hia : a ≠ it) :
    Turn P w K (.Tuple elts kk tpos) (IteT K a) [e, it] e (fun i h => (∃ old, IsEnum h e it ((i : Nat) : Int) old) ∧ h.IsTupleIter it a i) where
  mem := by simp
  obj := fun i h st b hb => by
    obtain ⟨⟨old, he⟩, ⟨o, ho, hc, hd⟩⟩ := st
    have e' : b = e ∨ b = it := by simpa using hb -- ol
    rcases e' with z | z
    · rw [z]; exact ⟨_, he, fun v q => nomatch q⟩ -- ol
    · rw [z]; exact ⟨o, ho, fun v q => by rw [hd] at q; cases q⟩ -- ol
  keep := fun i h h' st k => let ⟨⟨old, he⟩, hi⟩ := st; ⟨⟨old, k e (by simp) _ he⟩, hi.at fun o q => k it (by simp) o q⟩
  item := by
    intro X hP hw hK hc i pins s σ H E I hf st hg -- ol
    subst hP hw hK
    obtain ⟨⟨old, he⟩, hit⟩ := st
    obtain ⟨xs, x, hq, hx⟩ := hg
    obtain ⟨its, rv, p, hz⟩ := I.tuple hq -- ol
    obtain ⟨u, hu, ru⟩ := rv.get hx
    have hel : e < s.heap.objs.size := Heap.lt_size he -- ol
    have hp : s.heap.IsTuple a its.toArray := p
    have hlt : i < its.toArray.size := by
      have := (List.getElem?_eq_some_iff.mp hu).1
      simpa using this
    have dr : Draws X.prog X.w X.A.in1 it [it, a] its.toArray.size (fun i v => its.toArray[i]? = some v) (fun i h => h.IsTupleIter it a i ∧ h.IsTuple a its.toArray) := Draws.tuple (A := X.A.in1) (show X.A.in1.handled = none from I.ok.hd hc) it a hia its.toArray
    refine wpAny_pyNext_enum_itemD dr he ⟨hit, hp⟩ hlt hne (by simp [hne, hea]) fun x' h' tk hP ho hst' hT hsz hk => ?_
    have hx' : x' = u := by
      have hu2 : its.toArray[i]? = some u := by simpa using hu
      rw [hu2] at hP
      exact (Option.some.inj hP).symm
    subst hx'
    refine ⟨_, rfl, wpAny_letOwnedTupleGo_enum (s := { s with heap := h', toks := tk + 1 }) ho fun h'' he' sb => ?_⟩
    have hT2 : h''.get? s.heap.objs.size = some { cls := .type "tuple", data := .seq #[.int i tk, x'] } := (sb.2 _ (Nat.ne_of_gt hel)).trans hT
    have new : ObjOk X.prog X.w (upd H s.heap.objs.size (.tup [.int (i : Nat), x])) h'' s.heap.objs.size (.tup [.int (i : Nat), x]) :=
      ⟨by show 2 ≤ sizeLine; decide, [.int i tk, x'], .cons ⟨_, rfl⟩ (.cons ru .nil), ⟨_, hT2, rfl, _, rfl⟩⟩
    have I1 : Inv X pins σ (upd H s.heap.objs.size (.tup [.int (i : Nat), x])) { s with heap := h'', toks := tk + 1 } :=
      I.turnedNew (ch := [e, it]) (fun b ob hb q => (sb.2 b (fun z => hb (by simp [z]))).trans (hk b ob (fun z => hb (by simp [z])) (fun z => hb (by simp [z])) q)) hf (Nat.le_refl _) new -- ol
    have hil : it < s.heap.objs.size := by obtain ⟨_, q, _⟩ := hit; exact Heap.lt_size q -- ol
    refine ⟨.ref s.heap.objs.size, _, I1, rfl, ⟨_, x, rfl, I.hok.fresh (Nat.le_refl _), rfl, fun ys hy => by rw [I.tuple_inj hy hq]; exact hx⟩, ⟨⟨x', ?_⟩, hst'.1.at fun o q => (sb.2 it (Ne.symm hne)).trans q⟩, fun b hb => ?_⟩
    · have e1 : ((i + 1 : Nat) : Int) = (i : Int) + 1 := by omega
      rw [e1]
      exact he'
    · have hb' : b < s.heap.objs.size := by
        have e' : b = e ∨ b = it := by simpa using hb -- ol
        rcases e' with z | z
        · rw [z]; exact hel -- ol
        · rw [z]; exact hil -- ol
      rw [upd_ne (Nat.ne_of_lt hb')] -- ol
      exact (hf b hb).1
  done := by
    intro X hP hw hK hc i pins s σ H E I hf st hg -- ol
    subst hP hw hK
    obtain ⟨⟨old, he⟩, hit⟩ := st
    obtain ⟨xs, hq, hx⟩ := hg
    obtain ⟨its, rv, p, hz⟩ := I.tuple hq -- ol
    obtain ⟨f0, f1, f2, f3, f4, f5⟩ := hf it (by simp) -- ol
    have hl := rv.length
    have hp : s.heap.IsTuple a its.toArray := p
    have hh : X.A.handled = none := I.ok.hd hc
    have hT : s.TypeIs (.ref e) "enumerate" := ⟨_, he, rfl⟩ -- ol
    unfold pyNext
    refine wpAny_bind (wpAny_attempt (wpAny_callSpecial?_slot (name := Str.ofString "__next__") hT F.slot_enumerate_next (wpAny_call_entry F.slot_enumerate_next hT F.entry_enumerate_next ?_ (F.args_enumerate_next_1 _))))
    show wpAny _ _ (field (.ref e) 2 >>= _) _ _ _ -- ol
    refine wpAny_bind (wpAny_field he rfl (x := .ref it) rfl ?_) -- ol
    refine wpAny_bind (wpAny_nextOf_tuple_end hh hit hp (by simp; omega) fun h' x eb hx' => ?_)
    obtain ⟨o, ho, hc2⟩ := hx'
    refine wpAny_bind (wpAny_isInstance (T := "StopIteration") (b := true) ⟨o, ho, hc2⟩ isSubtype_stop ?_)
    exact wpAny_pure ⟨rfl, I.turned (t' := s.toks) (fun b o hb q => eb b o hb q) f0 f1 f3 f4 f5⟩
  self := fun A i s Q E st h => let ⟨⟨_, he⟩, _⟩ := st; wpAny_pyIter_enum he h -- ol
def iEnumT (K : PySem.W.Frag) (ta : TA) : TI := fun σ H R => ta σ H fun vs H1 => ∃ a xs, vs = [.ref a] ∧ SqT K H1 a xs ∧ R (IteT K a) H1
theorem pi_enumT {X : Cx} {e : Expr} {ta : TA} {p pos tpos : Pos} {elts : List Expr} {kk : Nat} (hg : Gl X "enumerate") (hm : X.mg "enumerate" = none) (ha : PA X [e] ta) (hs : starEach [e] X.env = [(false, eval e X.env)] := by rfl) :
    PI X (.Tuple elts kk tpos) (.Call (.Name "enumerate" p) [e] [] pos) (iEnumT X.K ta) := by
  refine ⟨fun pins s σ H R I h => ?_⟩
  refine Call_ (ld_blt I hg hm boot_enumerate (PyProof.Rows.callWith_type1 (thn (ha.run pos pins s σ H _ I h) fun us s1 ⟨vs, H1, I1, r1, q1⟩ => ?_) hs rfl)) -- ol
  obtain ⟨a, xs, ex, hq, q⟩ := q1
  subst ex
  cases r1 with
  | cons r rr =>
    cases rr
    cases r
    obtain ⟨its, rv, p', hz⟩ := I1.tuple hq
    have hp : s1.heap.IsTuple a its.toArray := p'
    have hal : a < s1.heap.objs.size := by obtain ⟨_, q, _⟩ := hp; exact Heap.lt_size q
    refine call_enumT hp fun h' he hit hsz hk => wpAny_pyIter_enum he ?_
    have I2 : Inv X pins σ H1 { s1 with heap := h' } := I1.kept (t' := s1.toks) hk -- ol
    refine ⟨s1.heap.objs.size + 1, [s1.heap.objs.size + 1, s1.heap.objs.size], _, _, H1, rfl, I2, turn_enumT a (s1.heap.objs.size + 1) s1.heap.objs.size (Nat.succ_ne_self _) (Nat.ne_of_gt (Nat.lt_succ_of_lt hal)) (Nat.ne_of_lt hal), ⟨⟨.none, he⟩, hit⟩, fun b hb => ?_, q⟩
    have e' : b = s1.heap.objs.size + 1 ∨ b = s1.heap.objs.size := by simpa using hb -- ol
    have hle : s1.heap.objs.size ≤ b := by
      rcases e' with z | z
      · rw [z]; exact Nat.le_add_right _ _ -- ol
      · rw [z]; exact Nat.le_refl _ -- ol
    exact I1.fpOk hle (I1.hok.fresh hle)
theorem piET {X : Cx} {e : Expr} {t : TA} {p pos tpos : Pos} {elts : List Expr} {k : Nat} (K : PySem.W.Frag) (hg : Gl X "enumerate") (hm : X.mg "enumerate" = none) (ha : PA X [e] t) (h : X.K = K := by rfl) (hs : starEach [e] X.env = [(false, eval e X.env)] := by rfl) :
    PI X (.Tuple elts k tpos) (.Call (.Name "enumerate" p) [e] [] pos) (iEnumT K t) := h ▸ pi_enumT hg hm ha hs
section
variable {K : PySem.W.Frag} {σ : L2.St} {H H' : Hp} {ta tb te tl : TE} {t u : TT} {x y z v : V} {a : Addr} {D : Ends} {tz tu : TS} {g : TG} {s : TA}
/-- a for over enumerate of a list that is known -/
theorem fo_E {α : Type} (l : List α) (φ : α → V) {i j : Nat} (h : EvA s σ H [.ref a]) (hx : SqL K H a (l.map φ)) (Pv : List α → L2.St → Hp → Prop) (h0 : ∀ H1, Ex H H1 → Pv [] σ H1)
    (hs : ∀ pre z post σ' H' H'', l = pre ++ z :: post → Ex H H' → Pv pre σ' H' → Ex H' H'' → tu { D with nx := fun σ3 H3 => Ex H H3 ∧ Pv (pre ++ [z]) σ3 H3, ct := fun σ3 H3 => Ex H H3 ∧ Pv (pre ++ [z]) σ3 H3, bk := D.nx } ((σ'.set i (some (.int (pre.length : Nat)))).set j (some (φ z))) H'')
    (hd : ∀ σ' H', Ex H H' → Pv l σ' H' → D.nx σ' H') : tFor (iEnum K s) (gTup K 2 (gCons (gName i) (gCons (gName j) gNil))) tu D σ H := h H (Ex.refl H) _ fun H1 e1 => ⟨a, _, rfl, ex_l e1 hx, by
    refine ⟨fun k m σ' H' => m = l.length - k ∧ k ≤ l.length ∧ Ex H H' ∧ Pv (l.take k) σ' H', ⟨l.length, by omega, Nat.zero_le _, e1, h0 H1 e1⟩, ?_⟩
    rintro k m σ' H' ⟨rfl, hk, e, p⟩
    have q := ex_l e hx
    by_cases hlt : k < l.length
    · refine .inr ⟨⟨l.map φ, φ l[k], q, by simp [hlt]⟩, fun σ3 H3 => Ex H H3 ∧ Pv (l.take (k + 1)) σ3 H3, fun σ3 H3 p' => ⟨l.length - (k + 1), by omega, rfl, hlt, p'⟩, fun x H2 y => ?_⟩
      obtain ⟨T, x2, rfl, nT, rfl, hy⟩ := y
      have hx2 := hy _ q
      rw [List.getElem?_map, List.getElem?_eq_getElem hlt] at hx2
      have hx3 : φ l[k] = x2 := Option.some.inj hx2
      subst hx3
      refine g_pair (st_of upd_same) ?_
      have split : l = l.take k ++ l[k] :: l.drop (k + 1) := by
        rw [← List.drop_eq_getElem_cons hlt, List.take_append_drop]
      have e2 : l.take (k + 1) = l.take k ++ [l[k]] := take_succ_of (List.getElem?_eq_getElem hlt)
      have := hs (l.take k) l[k] _ σ' H' _ split e p (Ex.new (o := .tup [.int (k : Nat), φ l[k]]) nT)
      rw [← e2, List.length_take, Nat.min_eq_left (Nat.le_of_lt hlt)] at this
      exact this
    · have ek : k = l.length := by omega
      subst ek
      rw [List.take_length] at p
      exact .inl ⟨⟨_, q, by rw [List.length_map]; exact Nat.le_refl _⟩, hd σ' H' e p⟩⟩
theorem qo_E {α : Type} (l : List α) (φ : α → V) {i j : Nat} (h : EvA s σ H [.ref a]) (hx : SqL K H a (l.map φ)) (Pv : List α → L2.St → Hp → Prop) (h0 : ∀ H1, Ex H H1 → Pv [] σ H1)
    (hs : ∀ pre z post σ' H' H'', l = pre ++ z :: post → Ex H H' → Pv pre σ' H' → Ex H' H'' → tu { D with nx := fun σ3 H3 => Ex H H3 ∧ Pv (pre ++ [z]) σ3 H3, ct := fun σ3 H3 => Ex H H3 ∧ Pv (pre ++ [z]) σ3 H3, bk := tz D } ((σ'.set i (some (.int (pre.length : Nat)))).set j (some (φ z))) H'')
    (hd : ∀ σ' H', Ex H H' → Pv l σ' H' → tz D σ' H') : tSeq (tFor (iEnum K s) (gTup K 2 (gCons (gName i) (gCons (gName j) gNil))) tu) tz D σ H := fo_E (D := { D with nx := tz D }) l φ h hx Pv h0 hs hd
/-- the same, of a tuple -/
theorem fo_ET {α : Type} (l : List α) (φ : α → V) {i j : Nat} (h : EvA s σ H [.ref a]) (hx : SqT K H a (l.map φ)) (Pv : List α → L2.St → Hp → Prop) (h0 : ∀ H1, Ex H H1 → Pv [] σ H1)
    (hs : ∀ pre z post σ' H' H'', l = pre ++ z :: post → Ex H H' → Pv pre σ' H' → Ex H' H'' → tu { D with nx := fun σ3 H3 => Ex H H3 ∧ Pv (pre ++ [z]) σ3 H3, ct := fun σ3 H3 => Ex H H3 ∧ Pv (pre ++ [z]) σ3 H3, bk := D.nx } ((σ'.set i (some (.int (pre.length : Nat)))).set j (some (φ z))) H'')
    (hd : ∀ σ' H', Ex H H' → Pv l σ' H' → D.nx σ' H') : tFor (iEnumT K s) (gTup K 2 (gCons (gName i) (gCons (gName j) gNil))) tu D σ H := h H (Ex.refl H) _ fun H1 e1 => ⟨a, _, rfl, ex_t e1 hx, by
    refine ⟨fun k m σ' H' => m = l.length - k ∧ k ≤ l.length ∧ Ex H H' ∧ Pv (l.take k) σ' H', ⟨l.length, by omega, Nat.zero_le _, e1, h0 H1 e1⟩, ?_⟩
    rintro k m σ' H' ⟨rfl, hk, e, p⟩
    have q := ex_t e hx
    by_cases hlt : k < l.length
    · refine .inr ⟨⟨l.map φ, φ l[k], q, by simp [hlt]⟩, fun σ3 H3 => Ex H H3 ∧ Pv (l.take (k + 1)) σ3 H3, fun σ3 H3 p' => ⟨l.length - (k + 1), by omega, rfl, hlt, p'⟩, fun x H2 y => ?_⟩
      obtain ⟨T, x2, rfl, nT, rfl, hy⟩ := y
      have hx2 := hy _ q
      rw [List.getElem?_map, List.getElem?_eq_getElem hlt] at hx2
      have hx3 : φ l[k] = x2 := Option.some.inj hx2
      subst hx3
      refine g_pair (st_of upd_same) ?_
      have split : l = l.take k ++ l[k] :: l.drop (k + 1) := by
        rw [← List.drop_eq_getElem_cons hlt, List.take_append_drop]
      have e2 : l.take (k + 1) = l.take k ++ [l[k]] := take_succ_of (List.getElem?_eq_getElem hlt)
      have := hs (l.take k) l[k] _ σ' H' _ split e p (Ex.new (o := .tup [.int (k : Nat), φ l[k]]) nT)
      rw [← e2, List.length_take, Nat.min_eq_left (Nat.le_of_lt hlt)] at this
      exact this
    · have ek : k = l.length := by omega
      subst ek
      rw [List.take_length] at p
      exact .inl ⟨⟨_, q, by rw [List.length_map]; exact Nat.le_refl _⟩, hd σ' H' e p⟩⟩
end
end Ol
/-! Numbers, rankings and folks as texts, and back. -/
namespace Ol
open PySem PySem.Spec PyProof.Rows L2 Evl
/-! ### numbers -/
/-- a number's word -/
def nS (n : Int) : Str := toString n
def NumOk (n : Int) : Prop := 0 ≤ n ∧ n < 10 ^ 11
theorem tl_nS {n : Int} (h : 0 ≤ n) : TL.tl (nS n) = TL.numL n.toNat := by
  have e : n = ((n.toNat : Nat) : Int) := by omega
  have := TL.tl_num n.toNat
  rw [← e] at this
  exact this
theorem nS_len {n : Int} (h : NumOk n) : (nS n).length ≤ 11 ∧ (nS n).length ≠ 0 := by
  rw [TL.len_tl, tl_nS h.1]
  refine ⟨TL.numL_len (by decide) ?_, fun z => TL.numL_ne n.toNat (List.eq_nil_of_length_eq_zero z)⟩
  have := h.2
  have e : ((10 : Int) ^ 11) = ((10 ^ 11 : Nat) : Int) := by decide
  rw [e] at this
  omega
theorem nS_free {n : Int} {s : Nat} (h : 0 ≤ n) (hs : s < 48 ∨ 57 < s) : s ∉ TL.tl (nS n) := by
  rw [tl_nS h]
  exact TL.numL_free hs
theorem nS_int {n : Int} (h : NumOk n) : PySem.intText? (nS n) = some n := by
  have e : n = ((n.toNat : Nat) : Int) := by have := h.1; omega
  have hl := (nS_len h).1
  rw [TL.len_tl, tl_nS h.1] at hl
  have := TL.int_num (n := n.toNat) (by omega)
  rw [← e] at this
  exact this
theorem nS_log {n : Int} (h : NumOk n) : n.natAbs.log2 < 1920 := by
  have h1 := h.1
  have h2 := h.2
  have e : ((10 : Int) ^ 11) = 100000000000 := by decide
  rw [e] at h2
  have : n.natAbs < 2 ^ 37 := by
    have : (2 : Nat) ^ 37 = 137438953472 := by decide
    omega
  rcases Nat.eq_zero_or_pos n.natAbs with z | z
  · rw [z]; decide
  · have := (Nat.log2_lt (by omega)).mpr this
    omega
/-- only the word of 0 begins with a 0 -/
theorem numL_head : ∀ n : Nat, 0 < n → ∀ r, TL.numL n ≠ 48 :: r := by
  intro n
  induction n using Nat.strongRecOn with
  | ind n ih =>
    intro hn r h
    by_cases c : n < 10
    · rw [TL.numL_lt c] at h
      injection h with h _
      omega
    · rw [TL.numL_step (by omega)] at h
      cases hh : TL.numL (n / 10) with
      | nil => exact TL.numL_ne _ hh
      | cons x l =>
        rw [hh] at h
        injection h with h1 h2
        subst h1
        exact ih (n / 10) (by omega) (by omega) l hh
theorem figures : ∀ c, 48 ≤ c ∧ c ≤ 57 → c ∈ (Str.ofString "0123456789").cps.toList := by
  have h : ∀ k < 10, 48 + k ∈ (Str.ofString "0123456789").cps.toList := by decide +kernel
  intro c hc
  have := h (c - 48) (by omega)
  rwa [show 48 + (c - 48) = c by omega] at this
/-! ### rankings, folks -/
/-- a ranking's word -/
def rS (r : List Int) : Str := Txt.join (Str.ofString ">") (r.map nS)
theorem tl_gt : TL.tl (Str.ofString ">") = [62] := by decide +kernel
theorem tl_nl : TL.tl (Str.ofString "\n") = [10] := by decide +kernel
theorem tl_bl : TL.tl (Str.ofString " ") = [32] := by decide +kernel
theorem tl_nul : TL.tl (Str.ofString "") = [] := by decide +kernel
theorem tl_sl : TL.tl (Str.ofString "/") = [47] := by decide +kernel
theorem tl_bs : TL.tl (Str.ofString " / ") = [32, 47, 32] := by decide +kernel
theorem tl_cross : TL.tl (Str.ofString "cross") = [99, 114, 111, 115, 115] := by decide +kernel
theorem tl_join2 (y : Str) (parts : List Str) : TL.tl (Txt.join y parts) = TL.joinL (TL.tl y) (parts.map TL.tl) := by rw [TL.join_eq, TL.tl_join]
theorem split_rS {r : List Int} (hne : r ≠ []) (h : ∀ n ∈ r, 0 ≤ n) : Txt.split (rS r) (Str.ofString ">") = r.map nS :=
  TL.split_join (s := 62) (S := []) tl_gt (by decide +kernel) (fun e => hne (List.map_eq_nil_iff.mp e)) fun p hp => by
    obtain ⟨n, hn, rfl⟩ := List.mem_map.mp hp
    exact nS_free (h n hn) (by omega)
theorem joinL_mem {x : Nat} {S : List Nat} : ∀ {ps : List (List Nat)}, x ∈ TL.joinL S ps → x ∈ S ∨ ∃ p ∈ ps, x ∈ p
  | [], h => nomatch h
  | [p], h => .inr ⟨p, List.mem_singleton.mpr rfl, h⟩
  | p :: q :: r, h => by
    have h : x ∈ p ++ (S ++ TL.joinL S (q :: r)) := h
    rcases List.mem_append.mp h with h | h
    · exact .inr ⟨p, List.mem_cons_self, h⟩
    · rcases List.mem_append.mp h with h | h
      · exact .inl h
      · rcases joinL_mem h with h | ⟨z, hz, h⟩
        · exact .inl h
        · exact .inr ⟨z, List.mem_cons_of_mem _ hz, h⟩
theorem rS_free {r : List Int} {s : Nat} (h : ∀ n ∈ r, 0 ≤ n) (hs : s < 48 ∨ (57 < s ∧ s ≠ 62)) : s ∉ TL.tl (rS r) := by
  intro hm
  unfold rS at hm
  rw [tl_join2, tl_gt] at hm
  rcases joinL_mem hm with hm | ⟨p, hp, hm⟩
  · have := List.mem_singleton.mp hm
    omega
  · obtain ⟨z, hz, rfl⟩ := List.mem_map.mp hp
    obtain ⟨n, hn, rfl⟩ := List.mem_map.mp hz
    exact nS_free (h n hn) (by omega) hm
theorem sum_le {α : Type} (f : α → Nat) (b : Nat) : ∀ l : List α, (∀ x ∈ l, f x ≤ b) → (l.map f).sum ≤ b * l.length
  | [], _ => Nat.zero_le _
  | x :: l, h => by
    have h1 := h x List.mem_cons_self
    have h2 := sum_le f b l fun y hy => h y (List.mem_cons_of_mem _ hy)
    rw [List.map_cons, List.sum_cons, List.length_cons, Nat.mul_add, Nat.mul_one]
    omega
theorem joinL_len {S : List Nat} : ∀ ps : List (List Nat), (TL.joinL S ps).length ≤ (ps.map (·.length)).sum + ps.length * S.length
  | [] => Nat.zero_le _
  | [p] => by
    show p.length ≤ p.length + 0 + 1 * S.length
    omega
  | p :: q :: r => by
    have ih := joinL_len (S := S) (q :: r)
    show (p ++ (S ++ TL.joinL S (q :: r))).length ≤ _
    rw [List.length_append, List.length_append, List.map_cons, List.sum_cons, List.length_cons (a := p), Nat.add_mul, Nat.one_mul]
    omega
theorem join_len (y : Str) (ps : List Str) {b : Nat} (h : ∀ p ∈ ps, p.length ≤ b) : (Txt.join y ps).length ≤ (b + y.length) * ps.length ∧ (ps.map (·.length)).sum + ps.length * y.length ≤ (b + y.length) * ps.length := by
  have h1 : (ps.map (·.length)).sum ≤ b * ps.length := sum_le _ b ps h
  have h2 : (ps.map (·.length)).sum + ps.length * y.length ≤ (b + y.length) * ps.length := by
    rw [Nat.add_mul, Nat.mul_comm y.length]
    omega
  refine ⟨?_, h2⟩
  rw [TL.len_tl, tl_join2]
  refine Nat.le_trans (joinL_len _) ?_
  rw [List.length_map, List.map_map]
  have e : (fun p : Str => p.length) = (fun x => x.length) ∘ TL.tl := by
    funext p
    exact TL.len_tl p
  rw [← e, ← TL.len_tl]
  exact h2
theorem rS_len {r : List Int} (h : ∀ n ∈ r, NumOk n) (few : r.length ≤ 10) : (rS r).length ≤ 120 ∧ ((r.map nS).map (·.length)).sum + (r.map nS).length * (Str.ofString ">").length ≤ 16777216 := by
  obtain ⟨h1, h2⟩ := join_len (Str.ofString ">") (r.map nS) (b := 11) fun p hp => by
    obtain ⟨n, hn, rfl⟩ := List.mem_map.mp hp
    exact (nS_len (h n hn)).1
  have e : (Str.ofString ">").length = 1 := by decide +kernel
  rw [e] at h1 h2 ⊢
  rw [List.length_map] at h1 h2 ⊢
  refine ⟨?_, by omega⟩
  have : (11 + 1) * r.length ≤ 120 := by omega
  exact Nat.le_trans h1 this
/-- a folk's text -/
def kS (rs : List (List Int)) : Str := Txt.join (Str.ofString "") (rs.map fun r => rS r ++ Str.ofString "\n")
theorem joinL_nil : ∀ ps : List (List Nat), TL.joinL [] ps = ps.flatten
  | [] => rfl
  | [p] => by rw [List.flatten_cons, List.flatten_nil, List.append_nil]; rfl
  | p :: q :: r => by
    show p ++ ([] ++ TL.joinL [] (q :: r)) = _
    rw [joinL_nil, List.nil_append, ← List.flatten_cons]
theorem spl_rows : ∀ ps : List (List Nat), (∀ p ∈ ps, 10 ∉ p) → TL.spl [10] 0 [] (ps.map (· ++ [10])).flatten = ps ++ [[]]
  | [], _ => rfl
  | p :: ps, h => by
    rw [List.map_cons, List.flatten_cons, List.append_assoc]
    have := TL.spl_part1 (s := 10) (S := []) (p := p) (rest := (ps.map (· ++ [10])).flatten) (acc := []) (h p List.mem_cons_self)
    rw [show [10] ++ (ps.map (· ++ [10])).flatten = 10 :: [] ++ (ps.map (· ++ [10])).flatten from rfl, this, spl_rows ps fun q hq => h q (List.mem_cons_of_mem _ hq)]
    rfl
theorem split_kS {rs : List (List Int)} (h : ∀ r ∈ rs, ∀ n ∈ r, 0 ≤ n) : Txt.split (kS rs) (Str.ofString "\n") = rs.map rS ++ [Str.ofString ""] := by
  refine TL.map_tl_inj ?_
  rw [TL.split_spl _ _ (by rw [tl_nl]; simp) (TL.kind_ok (by decide +kernel))]
  unfold kS
  rw [tl_join2, tl_nul, tl_nl, joinL_nil, List.map_map]
  have e : (rs.map (TL.tl ∘ fun r => rS r ++ Str.ofString "\n")) = (rs.map fun r => TL.tl (rS r)).map (· ++ [10]) := by
    rw [List.map_map]
    refine List.map_congr_left fun r _ => ?_
    show TL.tl (rS r ++ Str.ofString "\n") = TL.tl (rS r) ++ [10]
    rw [TL.tl_append, tl_nl]
  rw [e, spl_rows _ fun p hp => by
    obtain ⟨r, hr, rfl⟩ := List.mem_map.mp hp
    exact rS_free (h r hr) (by omega)]
  rw [List.map_append, List.map_map, List.map_singleton, tl_nul]
  rfl
theorem kS_len {rs : List (List Int)} (h : ∀ r ∈ rs, (∀ n ∈ r, NumOk n) ∧ r.length ≤ 10) (many : rs.length ≤ 20) : (kS rs).length ≤ 2440 ∧ ((rs.map fun r => rS r ++ Str.ofString "\n").map (·.length)).sum + (rs.map fun r => rS r ++ Str.ofString "\n").length * (Str.ofString "").length ≤ 16777216 := by
  have e1 : (Str.ofString "\n").length = 1 := by decide +kernel
  obtain ⟨h1, h2⟩ := join_len (Str.ofString "") (rs.map fun r => rS r ++ Str.ofString "\n") (b := 121) fun p hp => by
    obtain ⟨r, hr, rfl⟩ := List.mem_map.mp hp
    have := (rS_len (h r hr).1 (h r hr).2).1
    rw [TL.len_tl, TL.tl_append, List.length_append, ← TL.len_tl, ← TL.len_tl, e1]
    omega
  have e : (Str.ofString "").length = 0 := by decide +kernel
  rw [e] at h1 h2 ⊢
  rw [List.length_map] at h1 h2 ⊢
  refine ⟨Nat.le_trans h1 (by omega), by omega⟩
/-! ### a paper -/
/-- the words of a cross -/
def cW (a b c d e f g h : Int) : List Str := [Str.ofString "cross", nS a, nS b, nS c, nS d, Str.ofString "/", nS e, nS f, Str.ofString "/", nS g, nS h]
def pS (a b c d e f g h : Int) : Str := Str.ofString "cross" ++ Str.ofString " " ++ Txt.join (Str.ofString " / ") [Txt.join (Str.ofString " ") [nS a, nS b, nS c, nS d], Txt.join (Str.ofString " ") [nS e, nS f], Txt.join (Str.ofString " ") [nS g, nS h]]
theorem pS_eq (a b c d e f g h : Int) : pS a b c d e f g h = Txt.join (Str.ofString " ") (cW a b c d e f g h) := by
  refine TL.ext_tl ?_
  unfold pS cW
  rw [TL.tl_append, TL.tl_append, tl_join2, tl_join2]
  simp only [List.map_cons, List.map_nil, tl_join2, tl_bl, tl_bs, tl_sl, tl_cross, TL.joinL]
  simp only [List.append_assoc, List.cons_append, List.nil_append]
theorem split_pS {a b c d e f g h : Int} (k : ∀ n ∈ [a, b, c, d, e, f, g, h], 0 ≤ n) : Txt.split (pS a b c d e f g h) (Str.ofString " ") = cW a b c d e f g h := by
  rw [pS_eq]
  refine TL.split_join (s := 32) (S := []) tl_bl (by decide +kernel) (List.cons_ne_nil _ _) fun p hp => ?_
  have num : ∀ n ∈ [a, b, c, d, e, f, g, h], 32 ∉ TL.tl (nS n) := fun n hn => nS_free (k n hn) (by omega)
  unfold cW at hp
  simp only [List.mem_cons, List.not_mem_nil, or_false] at hp
  rcases hp with rfl | rfl | rfl | rfl | rfl | rfl | rfl | rfl | rfl | rfl | rfl
  · rw [tl_cross]; decide
  · exact num _ (by simp)
  · exact num _ (by simp)
  · exact num _ (by simp)
  · exact num _ (by simp)
  · rw [tl_sl]; decide
  · exact num _ (by simp)
  · exact num _ (by simp)
  · rw [tl_sl]; decide
  · exact num _ (by simp)
  · exact num _ (by simp)
theorem pS_len {a b c d e f g h : Int} (k : ∀ n ∈ [a, b, c, d, e, f, g, h], NumOk n) : (pS a b c d e f g h).length ≤ 132 := by
  rw [pS_eq]
  have e1 : (Str.ofString " ").length = 1 := by decide +kernel
  have := (join_len (Str.ofString " ") (cW a b c d e f g h) (b := 11) fun p hp => by
    have num : ∀ n ∈ [a, b, c, d, e, f, g, h], (nS n).length ≤ 11 := fun n hn => (nS_len (k n hn)).1
    unfold cW at hp
    simp only [List.mem_cons, List.not_mem_nil, or_false] at hp
    rcases hp with rfl | rfl | rfl | rfl | rfl | rfl | rfl | rfl | rfl | rfl | rfl
    · decide +kernel
    · exact num _ (by simp)
    · exact num _ (by simp)
    · exact num _ (by simp)
    · exact num _ (by simp)
    · decide +kernel
    · exact num _ (by simp)
    · exact num _ (by simp)
    · decide +kernel
    · exact num _ (by simp)
    · exact num _ (by simp)).1
  rw [e1] at this
  exact this
section
variable {K : PySem.W.Frag} {σ : L2.St} {H H' : Hp} {ta tb te tl to : TE} {t u : TT} {x y z v : V} {a : Addr} {D : Ends} {tz tu : TS} {g : TG}
/-! ### evaluating texts -/
theorem ev_strI {n : Int} (h : Ev te σ H (.int n)) (hn : NumOk n) : Ev (tCB (fun xs H Q => ∃ i, xs = [V.int i] ∧ i.natAbs.log2 < 1920 ∧ Q (.str (toString i)) H) (tCons te tNil)) σ H (.str (nS n)) :=
  ev_cb (ea_one h) (rc_of fun H1 e Q q => ⟨n, rfl, nS_log hn, q⟩)
theorem ev_addS {i j : Str} (h : Ev ta σ H (.str i)) (h2 : Ev tb σ H (.str j)) (hl : i.length + j.length ≤ 100000) : Ev (tOp (fun x y H Q => ∃ i j, x = V.str i ∧ y = V.str j ∧ i.length + j.length ≤ sizeLine ∧ Q (.str (i ++ j)) H) ta tb) σ H (.str (i ++ j)) :=
  ev_op h h2 (rv_of fun H1 e Q q => ⟨i, j, rfl, rfl, sz_of hl, q⟩)
theorem ev_joinL {s : Str} {ys : List Str} (h : Ev to σ H (.str s)) (h2 : EvL te σ H (ys.map V.str)) (hl : (ys.map (·.length)).sum + ys.length * s.length ≤ 16777216) : Ev (tM1 (rJoin K) to te) σ H (.str (Txt.join s ys)) := fun H1 e Q q =>
  h H1 e _ fun H2 e2 => ⟨⟨s, rfl⟩, h2 H2 (e.trans e2) _ fun p H3 n3 e3 h3 => ⟨s, p, ys, rfl, rfl, .inl (sq_of h3), hl, q H3 (e2.trans e3)⟩⟩
theorem el_split {s b : Str} (h : Ev to σ H (.str s)) (h2 : Ev te σ H (.str b)) (hb : b.length ≠ 0) (hl : s.length ≤ 90000) :
    EvL (tM1 (fun x xs H Q => ∃ a b, x = V.str a ∧ xs = [V.str b] ∧ (b.length == 0) = false ∧ a.length + 2 ≤ sizeLine ∧ rNewStrs (Txt.split a b) H Q) to te) σ H ((Txt.split s b).map V.str) := fun H1 e Q q =>
  h H1 e _ fun H2 e2 => ⟨⟨s, rfl⟩, h2 H2 (e.trans e2) _ fun H3 e3 => ⟨s, b, rfl, rfl, by simpa using hb, sz_of (by omega), fun p np => q p _ (fresh_back (e2.trans e3) np) ((e2.trans e3).trans (Ex.new np)) upd_same⟩⟩
theorem ev_lenS {s : Str} (h : Ev te σ H (.str s)) (hl : s.length ≤ 100000) : Ev (tCB (fun xs H Q => ∃ z, xs = [V.str z] ∧ z.length ≤ sizeLine ∧ Q (.int z.length) H) (tCons te tNil)) σ H (.int (s.length : Int)) :=
  ev_cb (ea_one h) (rc_of fun H1 e Q q => ⟨s, rfl, sz_of hl, q⟩)
theorem ev_inSign {c : Nat} {s : Str} (h : Ev ta σ H (.str ⟨#[c]⟩)) (h2 : Ev tb σ H (.str s)) : Ev (tOp (fun x y H Q => ∃ (c : Nat) (z : Str), x = V.str ⟨#[c]⟩ ∧ y = V.str z ∧ Q (.bl (decide (c ∈ z.cps.toList))) H) ta tb) σ H (.bl (decide (c ∈ s.cps.toList))) :=
  ev_op h h2 (rv_of fun H1 e Q q => ⟨c, s, rfl, rfl, q⟩)
theorem ev_intS {s : Str} {n : Int} (h : Ev te σ H (.str s)) (hn : PySem.intText? s = some n) (hl : s.length ≤ 640) : Ev (tCB (fun xs H Q => ∃ a n, xs = [V.str a] ∧ PySem.intText? a = some n ∧ a.length ≤ 640 ∧ Q (.int n) H) (tCons te tNil)) σ H (.int n) :=
  ev_cb (ea_one h) (rc_of fun H1 e Q q => ⟨s, n, rfl, hn, hl, q⟩)
/-- a comprehension over a new list -/
theorem el_lcNM {α : Type} (l : List α) (φ : α → V) (f : α → Bool) (g : α → V) {j : Nat} {vs : List Nat} (h : EvL tl σ H (l.map φ)) (hz : l.length ≤ 40000) (hw : ∀ x, wipe ((wipe σ vs).set j (some x)) vs = wipe σ vs)
    (ht : ∀ z ∈ l, ∀ H1, Ex H H1 → EvT t ((wipe σ vs).set j (some (φ z))) H1 (f z)) (he : ∀ z ∈ l, ∀ H1, Ex H H1 → f z = true → Ev te ((wipe σ vs).set j (some (φ z))) H1 (g z)) :
    EvL (tLc (iList K tl) (gName j) t te vs) σ H ((l.filter f).map g) := fun H0 e0 Q q => h H0 e0 _ fun p H1 n1 e1 h1 =>
  (el_lcM (K := K) (tl := tC (.ref p)) (σ := σ) (H := H1) l φ f g ev_c (sq_of h1) hz hw (fun z hz H2 e2 => ht z hz H2 ((e0.trans e1).trans e2)) (fun z hz H2 e2 => he z hz H2 ((e0.trans e1).trans e2))) H1 (Ex.refl _) Q fun p2 H2 n2 e2 h2 => q p2 H2 (fresh_back e1 n2) (e1.trans e2) h2
/-- all signs of a text, tested -/
theorem el_lcS {s : Str} (b : Nat → Bool) {j : Nat} {vs : List Nat} (h : Ev tl σ H (.str s)) (hz : s.length ≤ 40000) (hw : ∀ x, wipe ((wipe σ vs).set j (some x)) vs = wipe σ vs)
    (he : ∀ c ∈ s.cps.toList, ∀ H1, Ex H H1 → Ev te ((wipe σ vs).set j (some (.str ⟨#[c]⟩))) H1 (.bl (b c))) : EvL (tLc (iStr tl) (gName j) tYes te vs) σ H ((s.cps.toList.map b).map V.bl) := fun H0 e0 Q q => h H0 e0 _ fun H1 e1 => ⟨s, rfl, fun Dl hD =>
  lc_it (walk_str (z := s)) (fun i H' => H1 Dl = none ∧ Ex H1 H' ∧ H' Dl = some (.lst (((s.cps.toList.take i).map b).map V.bl))) ⟨hD, Ex.new hD, upd_same⟩ (fun _ _ _ _ => trivial)
    (fun i x H2 H' hi p y => by
      obtain ⟨p1, p2, p3⟩ := p
      obtain ⟨rfl, c, hc, rfl⟩ := y
      have hc2 : s.cps.toList[i]? = some c := by simpa using hc
      have hm : c ∈ s.cps.toList := List.mem_of_getElem? hc2
      have hlen : s.cps.toList.length = s.length := (TL.len_tl s).symm
      have hi2 : i < s.cps.toList.length := (List.getElem?_eq_some_iff.mp hc2).1
      refine ⟨hw _, (et_none (H := H') rfl) H' (Ex.refl _) _ fun H3 e3 => iteT (he c hm H3 (((e0.trans e1).trans p2).trans e3) _ (Ex.refl _) _ fun H4 e4 => ⟨_, e4 _ _ (e3 _ _ p3), by rw [List.length_map, List.length_map, List.length_take]; exact sz_lt (by omega), p1, Ex.mut ((p2.trans e3).trans e4) p1, ?_⟩)⟩
      rw [upd_same, take_succ_of hc2, List.map_append, List.map_append]
      rfl)
    (fun H' p => q Dl H' (fresh_back e1 p.1) (e1.trans p.2.1) (by
      have e : s.cps.toList.take s.cps.size = s.cps.toList := List.take_of_length_le (by rw [Array.length_toList]; exact Nat.le_refl _)
      have p3 := p.2.2
      rw [e] at p3
      exact p3))⟩
end
end Ol
namespace Ol
open PySem PySem.Spec PyProof.Rows L2 Evl
section
variable {P : Program} {w : World} {K : PySem.W.Frag} {mg : Str → Option Value} {base : Heap}
/-! ### is_number -/
def spNum : Sp := fun vs H Q _ => ∃ n : Int, vs = [.int n] ∧ ∀ H', Ex H H' → Q (.bl true) H'
theorem c_is_number (T : Tx w K mg)  : Callee P w K mg base "is_number" 1 ["thing"] spNum := by
  refine callee_of T.F_is_number T.g_is_number sc_is_number (fun _ _ _ _ _ _ us hl => match us, hl with | [_], _ => rfl) (fun vs H Q E h => ?_) fun cdv A outer s H vs Q E hr h => ?_
  · obtain ⟨n, rfl, q⟩ := h
    rfl
  obtain ⟨n, rfl, q⟩ := h
  refine ⟨_, (pss_one (ps_ret (pe_and (pe_callB (isiR K) (by rfl) T.b_isinstance (by decide +kernel) (pa_cons (pv 0) (pa_cons (pe_bltn (v := .ty "int") (u := .type "int") (by rfl) T.b_int (by decide +kernel) rfl) pa_nil))) (pe_one (pe_not (pe_callB (isiR K) (by rfl) T.b_isinstance (by decide +kernel) (pa_cons (pv 0) (pa_cons (pe_bltn (v := .ty "bool") (u := .type "bool") (by rfl) T.b_bool (by decide +kernel) rfl) pa_nil)))))))), ?_⟩
  exact s_ret (ev_andV (ev_isiI (b := true) (ev_var rfl) (by decide +kernel)) fun _ => ev_notV (ev_isiI (b := false) (ev_var rfl) (by decide +kernel))) q
/-! ### are_unlike_names -/
def spUnl (K : PySem.W.Frag) : Sp := fun vs H Q _ => ∃ (a : Addr) (ns : List Int), vs = [.ref a] ∧ LI K H a ns ∧ ns.Nodup ∧ (∀ n ∈ ns, 0 ≤ n) ∧ ns.length ≤ 30 ∧ ∀ H', Ex H H' → Q (.bl true) H'
theorem c_are_unlike_names (T : Tx w K mg) (C_is_number : Callee P w K mg base "is_number" 1 ["thing"] spNum) : Callee P w K mg base "are_unlike_names" 2 ["thing"] (spUnl K) := by
  refine callee_of T.F_are_unlike_names T.g_are_unlike_names sc_are_unlike_names (fun _ _ _ _ _ _ us hl => match us, hl with | [_], _ => rfl) (fun vs H Q E h => ?_) fun cdv A outer s H vs Q E hr h => ?_
  · obtain ⟨a, ns, rfl, ha, nd, pos, len, q⟩ := h
    rfl
  obtain ⟨a, ns, rfl, ha, nd, pos, len, q⟩ := h
  refine ⟨_, (pss_cons (ps_if (PW.pt (pw_or (pt_not (pt_val (pe_callB (isiR K) (by rfl) T.b_isinstance (by decide +kernel) (pa_cons (pv 0) (pa_cons (pe_bltn (v := .ty "list") (u := .type "list") (by rfl) T.b_list (by decide +kernel) rfl) pa_nil))))) (pw_or1 (pt_not (pt_val (pe_callB (allR K) (by rfl) T.b_all (by decide +kernel) (pa_cons (pe_lc (own := [("name", 1)]) rfl sc_are_unlike_names.nd (piL K (pv 0)) (blkOk_by (by kernel_rfl)) (fun _ _ _ _ _ => (pg_name (i := 1) sc_are_unlike_names.nd rfl (Or.inl rfl))) (fun _ _ _ _ _ => pts_nil) (fun _ _ _ _ _ => (pe_and (pe_callC C_is_number hr (by decide) (by rfl) (pa_cons (pv 1) pa_nil)) (pe_one (pe_cmpR op_ge (pv 1) pe_int (nomark _)))))) pa_nil))))))) (pss_one (ps_ret pe_bl)) pss_nil)
      (pss_one (ps_ret (pe_cmpR op_eq (lenSetI K (by rfl) T.b_len (by rfl) T.b_set (pv 0)) (pe_callB (lenS K) (by rfl) T.b_len (by decide +kernel) (pa_cons (pv 0) pa_nil)) (nomark _))))), ?_⟩
  refine q_when (b := false) ?_ (fun z => nomatch z) fun _ H1 e1 => ?_
  · refine et_or (a := false) (b := false) (et_not (a := true) (et_B (ev_isiL (ev_var rfl) ha (by decide +kernel)))) fun _ => et_not (a := true) (et_B ?_)
    refine ev_is (ev_all (bs := ns.map fun _ => true) (el_is (el_lcM ns V.int (fun _ => true) (fun _ => V.bl true) (ev_var rfl) ha (by omega) (fun _ => rfl) (fun _ _ _ _ => et_none rfl) fun z hz H2 e2 _ =>
      ev_andV (a := true) (b := true) (ev_callV (v := .bl true) (ea_one (ev_var rfl)) fun H3 e3 Q q => ⟨z, rfl, q⟩) fun _ => ev_is (ev_op (ev_var rfl) ev_c rv_I0) (by rw [decide_eq_true (pos z hz)])) (by rw [filter_all, List.map_map]; rfl))) (by simp)
  · refine s_ret ?_ fun H2 e2 => q H2 (e1.trans e2)
    refine ev_is (ev_op (x := .int ns.length) (y := .int ns.length) (fun H2 e2 Q q => ⟨_, rfl, a, ns, rfl, ex_l (e1.trans e2) ha, by omega, nd, q H2 (Ex.refl _)⟩) (ev_is (ev_len (ev_var rfl) (ex_l e1 ha)) (by rw [List.length_map])) (rv_eq rfl)) (by rw [decide_eq_true rfl])
/-! ### is_ranking, must_be_ranking -/
structure Rk (ns : List Int) : Prop where
  nd : ns.Nodup
  pos : ∀ n ∈ ns, 0 ≤ n
  few : ns.length ≤ 10
  some : 0 < ns.length
def spRk (K : PySem.W.Frag) (v : V) : Sp := fun vs H Q _ => ∃ (a : Addr) (ns : List Int), vs = [.ref a] ∧ LI K H a ns ∧ Rk ns ∧ ∀ H', Ex H H' → Q v H'
theorem c_is_ranking (T : Tx w K mg) (C_are_unlike_names : Callee P w K mg base "are_unlike_names" 2 ["thing"] (spUnl K)) : Callee P w K mg base "is_ranking" 3 ["thing"] (spRk K (.bl true)) := by
  refine callee_of T.F_is_ranking T.g_is_ranking sc_is_ranking (fun _ _ _ _ _ _ us hl => match us, hl with | [_], _ => rfl) (fun vs H Q E h => ?_) fun cdv A outer s H vs Q E hr h => ?_
  · obtain ⟨a, ns, rfl, ha, r, q⟩ := h
    rfl
  obtain ⟨a, ns, rfl, ha, r, q⟩ := h
  refine ⟨_, (pss_one (ps_ret (pe_and (pe_callC C_are_unlike_names hr (by decide) (by rfl) (pa_cons (pv 0) pa_nil)) (pe_and (pe_cmpR op_gt (pe_callB (lenS K) (by rfl) T.b_len (by decide +kernel) (pa_cons (pv 0) pa_nil)) pe_int (nomark _)) (pe_one (pe_cmpR op_le (pe_callB (lenS K) (by rfl) T.b_len (by decide +kernel) (pa_cons (pv 0) pa_nil)) (pe_globI (by rfl) T.i_MOST_NAMES) (nomark _))))))), ?_⟩
  have f1 := r.few
  have f2 := r.some
  refine s_ret (ev_andV (a := true) (b := true) (ev_callV (ea_one (ev_var rfl)) fun H1 e1 Q q => ⟨a, ns, rfl, ex_l e1 ha, r.nd, r.pos, by omega, q⟩) fun _ =>
    ev_andV (a := true) (b := true) (ev_is (ev_op (ev_len (ev_var rfl) ha) ev_c rv_I0) ?_) fun _ => ev_is (ev_op (ev_len (ev_var rfl) ha) ev_c rv_I0) ?_) q
  · rw [List.length_map, decide_eq_true (by omega)]
  · rw [List.length_map, decide_eq_true (by omega)]
theorem c_must_be_ranking (T : Tx w K mg) (C_is_ranking : Callee P w K mg base "is_ranking" 3 ["thing"] (spRk K (.bl true))) : Callee P w K mg base "must_be_ranking" 4 ["ranking"] (spRk K .non) := by
  refine callee_of T.F_must_be_ranking T.g_must_be_ranking sc_must_be_ranking (fun _ _ _ _ _ _ us hl => match us, hl with | [_], _ => rfl) (fun vs H Q E h => ?_) fun cdv A outer s H vs Q E hr h => ?_
  · obtain ⟨a, ns, rfl, ha, r, q⟩ := h
    rfl
  obtain ⟨a, ns, rfl, ha, r, q⟩ := h
  refine ⟨_, (pss_one (ps_if (pt_not (pt_val (pe_callC C_is_ranking hr (by decide) (by rfl) (pa_cons (pv 0) pa_nil)))) pss_never pss_nil)), ?_⟩
  exact s_if (b := false) (et_not (a := true) (et_B (ev_callV (ea_one (ev_var rfl)) fun H1 e1 Q q => ⟨a, ns, rfl, ex_l e1 ha, r, q⟩))) (fun z => nomatch z) fun _ H1 e1 => q H1 e1
end
end Ol
namespace Ol
open PySem PySem.Spec PyProof.Rows L2 Evl
/-- a folk of names -/
structure Fk (names : List Int) (ps : List (Addr × List Int)) : Prop where
  up : names.Pairwise (· < ·)
  pos : ∀ n ∈ names, 0 ≤ n
  few : names.length ≤ 10
  some : 0 < names.length
  perm : ∀ p ∈ ps, p.2.Perm names
  least : 0 < ps.length
  most : ps.length ≤ 20
theorem Fk.rk {names : List Int} {ps : List (Addr × List Int)} (F : Fk names ps) {p : Addr × List Int} (h : p ∈ ps) : Rk p.2 :=
  ⟨(F.perm p h).nodup_iff.mpr (up_nd F.up), fun n hn => F.pos n ((F.perm p h).mem_iff.mp hn), by rw [(F.perm p h).length_eq]; exact F.few, by rw [(F.perm p h).length_eq]; exact F.some⟩
theorem at0 {α : Type} {β : Type} {l : List α} (f : α → β) {z : α} (h : l[0]? = some z) : atI (l.map f) (0 : Int) = some (f z) := by
  have := atI_nat (xs := l.map f) (j := 0) (v := f z) (by rw [List.getElem?_map, h]; rfl)
  exact this
section
variable {P : Program} {w : World} {K : PySem.W.Frag} {mg : Str → Option Value} {base : Heap}
/-! ### is_folk, must_be_folk, names_by -/
def spFk (K : PySem.W.Frag) (v : V) : Sp := fun vs H Q _ => ∃ (a : Addr) (ps : List (Addr × List Int)) (names : List Int), vs = [.ref a] ∧ LL K H a ps ∧ Fk names ps ∧ ∀ H', Ex H H' → Q v H'
theorem c_is_folk (T : Tx w K mg) (C_is_ranking : Callee P w K mg base "is_ranking" 3 ["thing"] (spRk K (.bl true))) : Callee P w K mg base "is_folk" 4 ["thing"] (spFk K (.bl true)) := by
  refine callee_of T.F_is_folk T.g_is_folk sc_is_folk (fun _ _ _ _ _ _ us hl => match us, hl with | [_], _ => rfl) (fun vs H Q E h => ?_) fun cdv A outer s H vs Q E hr h => ?_
  · obtain ⟨a, ps, names, rfl, ha, F, q⟩ := h
    rfl
  obtain ⟨a, ps, names, rfl, ha, F, q⟩ := h
  refine ⟨_, (pss_cons (ps_if (PW.pt (pw_or (pt_not (pt_val (pe_callB (isiR K) (by rfl) T.b_isinstance (by decide +kernel) (pa_cons (pv 0) (pa_cons (pe_bltn (v := .ty "list") (u := .type "list") (by rfl) T.b_list (by decide +kernel) rfl) pa_nil))))) (pw_or (pt_cmpR op_lt (pe_callB (lenS K) (by rfl) T.b_len (by decide +kernel) (pa_cons (pv 0) pa_nil)) pe_int (nomark _)) (pw_or1 (pt_cmpR op_gt (pe_callB (lenS K) (by rfl) T.b_len (by decide +kernel) (pa_cons (pv 0) pa_nil)) (pe_globI (by rfl) T.i_MOST_HANDS) (nomark _)))))) (pss_one (ps_ret pe_bl)) pss_nil)
      (pss_cons (ps_if (pt_not (pt_val (pe_callB (allR K) (by rfl) T.b_all (by decide +kernel) (pa_cons (pe_lc (own := [("ranking", 1)]) rfl sc_is_folk.nd (piL K (pv 0)) (blkOk_by (by kernel_rfl)) (fun _ _ _ _ _ => (pg_name (i := 1) sc_is_folk.nd rfl (Or.inl rfl))) (fun _ _ _ _ _ => pts_nil) (fun _ _ _ _ _ => (pe_callC C_is_ranking hr (by decide) (by rfl) (pa_cons (pv 1) pa_nil)))) pa_nil)))) (pss_one (ps_ret pe_bl)) pss_nil)
      (pss_one (ps_ret (pe_callB (allR K) (by rfl) T.b_all (by decide +kernel) (pa_cons (pe_lc (own := [("ranking", 1)]) rfl sc_is_folk.nd (piL K (pv 0)) (blkOk_by (by kernel_rfl)) (fun _ _ _ _ _ => (pg_name (i := 1) sc_is_folk.nd rfl (Or.inl rfl))) (fun _ _ _ _ _ => pts_nil) (fun _ _ _ _ _ => (pe_cmpR (eqD K hr.units) (pe_callB (srtI K) (by rfl) T.b_sorted (by decide +kernel) (pa_cons (pv 1) pa_nil)) (pe_callB (srtI K) (by rfl) T.b_sorted (by decide +kernel) (pa_cons (pe_ix (ixL K) (pv 0) pe_int (fun _ _ => rfl)) pa_nil)) (nomark _)))) pa_nil)))))), ?_⟩
  have f1 := F.least
  have f2 := F.most
  have f3 := F.few
  obtain ⟨p0, hp0⟩ : ∃ p0, ps[0]? = some p0 := ⟨ps[0], List.getElem?_eq_getElem f1⟩
  have m0 : p0 ∈ ps := List.mem_of_getElem? hp0
  refine q_when (b := false) (et_or (a := false) (b := false) (et_not (a := true) (et_B (ev_isiL (ev_var rfl) ha.1 (by decide +kernel)))) fun _ => et_or (a := false) (b := false) (et_test (ev_is (ev_op (ev_len (ev_var rfl) ha.1) ev_c rv_I0) ?_)) fun _ =>
    et_test (ev_is (ev_op (ev_len (ev_var rfl) ha.1) ev_c rv_I0) ?_)) (fun z => nomatch z) fun _ H1 e1 => ?_
  · rw [List.length_map, decide_eq_false (by omega)]
  · rw [List.length_map, decide_eq_false (by omega)]
  have ha1 := ha.ex e1
  refine q_when (b := false) (et_not (a := true) (et_B (ev_is (ev_all (bs := ps.map fun _ => true) (el_is (el_lcM ps (fun p => V.ref p.1) (fun _ => true) (fun _ => V.bl true) (ev_var rfl) ha1.1 (by omega) (fun _ => rfl) (fun _ _ _ _ => et_none rfl) fun p hp H2 e2 _ =>
    ev_callV (ea_one (ev_var rfl)) fun H3 e3 Q q => ⟨p.1, p.2, rfl, ex_l (e2.trans e3) (ha1.2 p hp), F.rk hp, q⟩) (by rw [filter_all, List.map_map]; rfl))) (by simp)))) (fun z => nomatch z) fun _ H2 e2 => ?_
  have ha2 := ha1.ex e2
  refine s_ret (ev_is (ev_all (bs := ps.map fun _ => true) (el_is (el_lcM ps (fun p => V.ref p.1) (fun _ => true) (fun _ => V.bl true) (ev_var rfl) ha2.1 (by omega) (fun _ => rfl) (fun _ _ _ _ => et_none rfl) fun p hp H3 e3 _ =>
    ev_opLL (el_sortedN (ev_var rfl) (ex_l e3 (ha2.2 p hp)) (F.perm p hp) F.up (by omega)) (el_sortedN (ev_ixL (ev_var rfl) ev_c (ex_l e3 ha2.1) (at0 (fun p : Addr × List Int => V.ref p.1) hp0)) (ex_l e3 (ha2.2 p0 m0)) (F.perm p0 m0) F.up (by omega)) fun p q H4 h4 h5 e4 =>
      rv_same (dp_I (sq_of h4)) (dp_I (sq_of h5)) (flat_I names) (by omega)) (by rw [filter_all, List.map_map]; rfl))) (by simp)) fun H3 e3 => q H3 ((e1.trans e2).trans e3)
theorem c_must_be_folk (T : Tx w K mg) (C_is_folk : Callee P w K mg base "is_folk" 4 ["thing"] (spFk K (.bl true))) : Callee P w K mg base "must_be_folk" 5 ["folk"] (spFk K .non) := by
  refine callee_of T.F_must_be_folk T.g_must_be_folk sc_must_be_folk (fun _ _ _ _ _ _ us hl => match us, hl with | [_], _ => rfl) (fun vs H Q E h => ?_) fun cdv A outer s H vs Q E hr h => ?_
  · obtain ⟨a, ps, names, rfl, ha, F, q⟩ := h
    rfl
  obtain ⟨a, ps, names, rfl, ha, F, q⟩ := h
  refine ⟨_, (pss_one (ps_if (pt_not (pt_val (pe_callC C_is_folk hr (by decide) (by rfl) (pa_cons (pv 0) pa_nil)))) pss_never pss_nil)), ?_⟩
  exact s_if (b := false) (et_not (a := true) (et_B (ev_callV (ea_one (ev_var rfl)) fun H1 e1 Q q => ⟨a, ps, names, rfl, ha.ex e1, F, q⟩))) (fun z => nomatch z) fun _ H1 e1 => q H1 e1
def spNames (K : PySem.W.Frag) : Sp := fun vs H Q _ => ∃ (a : Addr) (ps : List (Addr × List Int)) (names : List Int), vs = [.ref a] ∧ LL K H a ps ∧ Fk names ps ∧ RetL (names.map V.int) H Q
theorem c_names_by (T : Tx w K mg) (C_must_be_folk : Callee P w K mg base "must_be_folk" 5 ["folk"] (spFk K .non)) : Callee P w K mg base "names_by" 6 ["folk"] (spNames K) := by
  refine callee_of T.F_names_by T.g_names_by sc_names_by (fun _ _ _ _ _ _ us hl => match us, hl with | [_], _ => rfl) (fun vs H Q E h => ?_) fun cdv A outer s H vs Q E hr h => ?_
  · obtain ⟨a, ps, names, rfl, ha, F, q⟩ := h
    rfl
  obtain ⟨a, ps, names, rfl, ha, F, q⟩ := h
  refine ⟨_, (pss_cons (ps_expr (pe_callC C_must_be_folk hr (by decide) (by rfl) (pa_cons (pv 0) pa_nil)))
      (pss_one (ps_ret (pe_callB (srtI K) (by rfl) T.b_sorted (by decide +kernel) (pa_cons (pe_ix (ixL K) (pv 0) pe_int (fun _ _ => rfl)) pa_nil))))), ?_⟩
  have f1 := F.least
  have f3 := F.few
  obtain ⟨p0, hp0⟩ : ∃ p0, ps[0]? = some p0 := ⟨ps[0], List.getElem?_eq_getElem f1⟩
  have m0 : p0 ∈ ps := List.mem_of_getElem? hp0
  refine q_drop (ev_callV (v := .non) (ea_one (ev_var rfl)) fun H1 e1 Q q => ⟨a, ps, names, rfl, ha.ex e1, F, q⟩) fun H1 e1 => ?_
  have ha1 := ha.ex e1
  exact s_retL (el_sortedN (ev_ixL (ev_var rfl) ev_c ha1.1 (at0 (fun p : Addr × List Int => V.ref p.1) hp0)) (ha1.2 p0 m0) (F.perm p0 m0) F.up (by omega)) fun p H2 n2 e2 h2 => q.go e1 n2 e2 h2
/-! ### is_tie, reached, hang_together -/
def spTie (K : PySem.W.Frag) : Sp := fun vs H Q _ => ∃ (a t : Addr) (ns : List Int) (x y : Int), vs = [.ref a, .ref t] ∧ LI K H a ns ∧ SqT K H t [.int x, .int y] ∧ x < y ∧ x ∈ ns ∧ y ∈ ns ∧ ∀ H', Ex H H' → Q (.bl true) H'
theorem c_is_tie (T : Tx w K mg) (C_is_number : Callee P w K mg base "is_number" 1 ["thing"] spNum) : Callee P w K mg base "is_tie" 2 ["names", "thing"] (spTie K) := by
  refine callee_of T.F_is_tie T.g_is_tie sc_is_tie (fun _ _ _ _ _ _ us hl => match us, hl with | [_, _], _ => rfl) (fun vs H Q E h => ?_) fun cdv A outer s H vs Q E hr h => ?_
  · obtain ⟨a, t, ns, x, y, rfl, ha, ht, lt, hx, hy, q⟩ := h
    rfl
  obtain ⟨a, t, ns, x, y, rfl, ha, ht, lt, hx, hy, q⟩ := h
  refine ⟨_, (pss_cons (ps_if (PW.pt (pw_or (pt_not (pt_val (pe_callB (isiR K) (by rfl) T.b_isinstance (by decide +kernel) (pa_cons (pv 1) (pa_cons (pe_bltn (v := .ty "tuple") (u := .type "tuple") (by rfl) T.b_tuple (by decide +kernel) rfl) pa_nil))))) (pw_or (pt_cmpR op_ne (pe_callB (lenS K) (by rfl) T.b_len (by decide +kernel) (pa_cons (pv 1) pa_nil)) pe_int (nomark _)) (pw_or (pt_not (pt_val (pe_callC C_is_number hr (by decide) (by rfl) (pa_cons (pe_ix (ixT K) (pv 1) pe_int (fun _ _ => rfl)) pa_nil)))) (pw_or1 (pt_not (pt_val (pe_callC C_is_number hr (by decide) (by rfl) (pa_cons (pe_ix (ixT K) (pv 1) pe_int (fun _ _ => rfl)) pa_nil))))))))) (pss_one (ps_ret pe_bl)) pss_nil)
      (pss_one (ps_ret (pe_and (pe_cmpR op_lt (pe_ix (ixT K) (pv 1) pe_int (fun _ _ => rfl)) (pe_ix (ixT K) (pv 1) pe_int (fun _ _ => rfl)) (nomark _)) (pe_and (pe_cmpR (inS K) (pe_ix (ixT K) (pv 1) pe_int (fun _ _ => rfl)) (pv 0) (by rfl)) (pe_one (pe_cmpR (inS K) (pe_ix (ixT K) (pv 1) pe_int (fun _ _ => rfl)) (pv 0) (by rfl)))))))), ?_⟩
  have g0 : ∀ H1, Ex H H1 → Ev (tOp (rIxT K) (tVar 1) (tC (.int 0))) (start ["names", "thing"] [.ref a, .ref t]) H1 (.int x) := fun H1 e => ev_ixT (ev_var rfl) ev_c (ex_t e ht) (atI_nat (j := 0) rfl)
  have g1 : ∀ H1, Ex H H1 → Ev (tOp (rIxT K) (tVar 1) (tC (.int 1))) (start ["names", "thing"] [.ref a, .ref t]) H1 (.int y) := fun H1 e => ev_ixT (ev_var rfl) ev_c (ex_t e ht) (atI_nat (j := 1) rfl)
  refine q_when (b := false) (et_or (a := false) (b := false) (et_not (a := true) (et_B (ev_isiT (ev_var rfl) ht (by decide +kernel)))) fun _ => et_or (a := false) (b := false) (et_test (ev_is (ev_op (ev_lenT (ev_var rfl) ht) ev_c (rv_ne rfl)) rfl)) fun _ =>
    et_or (a := false) (b := false) (et_not (a := true) (et_B (ev_callV (ea_one (g0 H (Ex.refl H))) fun H1 e1 Q q => ⟨x, rfl, q⟩))) fun _ => et_not (a := true) (et_B (ev_callV (ea_one (g1 H (Ex.refl H))) fun H1 e1 Q q => ⟨y, rfl, q⟩))) (fun z => nomatch z) fun _ H1 e1 => ?_
  refine s_ret (ev_andV (a := true) (b := true) (ev_is (ev_op (g0 H1 e1) (g1 H1 e1) rv_I0) (by rw [decide_eq_true lt])) fun _ => ev_andV (a := true) (b := true) (ev_is (ev_inI (g0 H1 e1) (ev_var rfl) (ex_l e1 ha)) (by rw [decide_eq_true hx])) fun _ =>
    ev_is (ev_inI (g1 H1 e1) (ev_var rfl) (ex_l e1 ha)) (by rw [decide_eq_true hy])) fun H2 e2 => q H2 (e1.trans e2)
def spReached (K : PySem.W.Frag) : Sp := fun vs H Q _ => ∃ (a b : Addr) (ts : List (Addr × Tie)) (some : List Int) (first : Int), vs = [.ref a, .ref b, .int first] ∧ LT K H a ts ∧ LI K H b some ∧ some.length ≤ 30 ∧
  ∀ r, Reach (ts.map (·.2)) some first r → RetL (r.map V.int) H Q
theorem c_reached (T : Tx w K mg)  : Callee P w K mg base "reached" 1 ["ties", "some", "first"] (spReached K) := by
  refine callee_of T.F_reached T.g_reached sc_reached (fun _ _ _ _ _ _ us hl => match us, hl with | [_, _, _], _ => rfl) (fun vs H Q E h => ?_) fun cdv A outer s H vs Q E hr h => ?_
  · obtain ⟨a, b, ts, some, first, rfl, ha, hb, few, q⟩ := h
    rfl
  obtain ⟨a, b, ts, some, first, rfl, ha, hb, few, q⟩ := h
  refine ⟨_, (pss_cons (ps_set (i := 3) sc_reached.nd rfl (Or.inr rfl) (pe_lst (pa_cons (pv 2) pa_nil)))
      (pss_cons (ps_set (i := 4) sc_reached.nd rfl (Or.inl rfl) pe_int)
      (pss_cons (ps_while PassesOwn.never (pt_cmpR op_lt (pv 4) (pe_callB (lenS K) (by rfl) T.b_len (by decide +kernel) (pa_cons (pv 3) pa_nil)) (nomark _)) (pss_cons (ps_set (i := 4) sc_reached.nd rfl (Or.inl rfl) (pe_callB (lenS K) (by rfl) T.b_len (by decide +kernel) (pa_cons (pv 3) pa_nil)))
      (pss_one (ps_for PassesOwn.never rfl (piL K (pv 0)) (tupG K (n := 2) (pgs_cons (pg_name (i := 5) sc_reached.nd rfl (Or.inl rfl)) (pgs_cons (pg_name (i := 6) sc_reached.nd rfl (Or.inl rfl)) pgs_nil))) (pss_one (ps_if (PW.pt (pw_and (pt_cmpR (inS K) (pv 5) (pv 1) (by rfl)) (pw_and (pt_cmpR (inS K) (pv 6) (pv 1) (by rfl)) (pw_and1 (pt_cmpR op_ne (pe_cmpR (inS K) (pv 5) (pv 3) (by rfl)) (pe_cmpR (inS K) (pv 6) (pv 3) (by rfl)) (nomark _)))))) (pss_one (ps_set (i := 3) sc_reached.nd rfl (Or.inr rfl) (pe_op op_cat (pv 3) (pe_lc (own := [("name", 7)]) rfl sc_reached.nd (piT K (pe_tup (pa_cons (pv 5) (pa_cons (pv 6) pa_nil)))) (blkOk_by (by kernel_rfl)) (fun _ _ _ _ _ => (pg_name (i := 7) sc_reached.nd rfl (Or.inl rfl))) (fun _ _ _ _ _ => (pts_one (pt_cmpR (niS K) (pv 7) (pv 3) (by rfl)))) (fun _ _ _ _ _ => (pv 7)))))) pss_nil))))))
      (pss_one (ps_ret (pv 3)))))), ?_⟩
  refine q_asgL (el_lst (ea_one (ev_var rfl)) (by show 1 ≤ 100000; omega)) fun p H1 n1 e1 h1 => ?_
  refine q_asg ev_c fun H2 e2 => ?_
  have e02 := e1.trans e2
  refine q_while (fun m σ' H' => ∃ (r : Addr) (found : List Int) (many : Nat) (y5 y6 y7 : Option V), σ' = [Option.some (.ref a), Option.some (.ref b), Option.some (.int first), Option.some (.ref r), Option.some (.int (many : Int)), y5, y6, y7] ∧ Ex H H' ∧ H r = none ∧
      H' r = Option.some (.lst (found.map V.int)) ∧ many ≤ 31 ∧ m = 31 - many ∧ ((many = 0 ∧ found = [first]) ∨ ∃ g, Part (ts.map (·.2)) some first g ∧ many = g.length ∧ found = pass (ts.map (·.2)) some g)) 31
    ⟨p, [first], 0, none, none, none, rfl, e02, n1, e2 _ _ h1, by omega, rfl, .inl ⟨rfl, rfl⟩⟩ ?_
  rintro m σ' H' ⟨r, found, many, y5, y6, y7, rfl, e, nr, hr, hm, rfl, st⟩
  have part : Part (ts.map (·.2)) some first found := by
    rcases st with ⟨_, rfl⟩ | ⟨g, hg, _, rfl⟩
    · exact Part.start
    · exact hg.pass
  have bound := part.len
  refine ⟨decide ((many : Int) < (found.length : Int)), et_test (ev_is (ev_op (ev_var rfl) (ev_len (ev_var rfl) (sq_of hr)) rv_I0) (by rw [List.length_map])), fun c H3 e3 => ?_, fun c H3 e3 => ?_⟩
  · have c := of_decide_eq_true c
    refine ⟨fun σ2 H2 => ∃ (r2 : Addr) (found2 : List Int) (y5 y6 y7 : Option V), σ2 = [Option.some (.ref a), Option.some (.ref b), Option.some (.int first), Option.some (.ref r2), Option.some (.int (found.length : Int)), y5, y6, y7] ∧ Ex H H2 ∧ H r2 = none ∧
      H2 r2 = Option.some (.lst (found2.map V.int)) ∧ found2 = pass (ts.map (·.2)) some found, fun σ2 H2 ⟨r2, found2, y5, y6, y7, h1, h2, h3, h4, h5⟩ =>
        ⟨31 - found.length, by omega, r2, found2, found.length, y5, y6, y7, h1, h2, h3, h4, by omega, rfl, .inr ⟨found, part, rfl, h5⟩⟩, ?_⟩
    refine q_asg (ev_len (ev_var rfl) (sq_of (e3 _ _ hr))) fun H4 e4 => ?_
    have e04 := (e.trans e3).trans e4
    have hr4 := e4 _ _ (e3 _ _ hr)
    refine fo_M ts (fun p => V.ref p.1) (ev_var rfl) (ha.ex e04).1 (fun pre σ5 H5 => ∃ (r5 : Addr) (y5 y6 y7 : Option V), σ5 = [Option.some (.ref a), Option.some (.ref b), Option.some (.int first), Option.some (.ref r5), Option.some (.int (found.length : Int)), y5, y6, y7] ∧ Ex H H5 ∧ H r5 = none ∧
      H5 r5 = Option.some (.lst ((pass (pre.map (·.2)) some found).map V.int)) ∧ Part (ts.map (·.2)) some first (pass (pre.map (·.2)) some found))
      (fun H5 e5 => ⟨r, y5, y6, y7, by rw [List.length_map]; rfl, e04.trans e5, nr, e5 _ _ hr4, part⟩) ?_ ?_
    · rintro pre z post σ5 H5 eq e5 ⟨r5, y5, y6, y7, rfl, e05, n5, h5, pt⟩
      have mz : z ∈ ts := by rw [eq]; exact List.mem_append_right _ List.mem_cons_self
      refine g_pair ((ha.ex e05).2 z mz) ?_
      have step : pass ((pre ++ [z]).map (·.2)) some found = grow some (pass (pre.map (·.2)) some found) z.2 := by
        unfold pass
        rw [List.map_append, List.foldl_append]
        rfl
      generalize hf : pass (pre.map (·.2)) some found = fd at h5 pt step
      have pt2 := pt.grow (List.mem_map.mpr ⟨z, mz, rfl⟩ : z.2 ∈ ts.map (·.2))
      have b5 := pt.len
      have hb5 := ex_l e05 hb
      refine s_when (b := decide (z.2.1 ∈ some) && (decide (z.2.2 ∈ some) && !decide (decide (z.2.1 ∈ fd) = decide (z.2.2 ∈ fd)))) (et_and (et_test (ev_inI (ev_var rfl) (ev_var rfl) hb5)) fun _ => et_and (et_test (ev_inI (ev_var rfl) (ev_var rfl) hb5)) fun _ =>
        et_test (ev_is (ev_op (ev_inI (ev_var rfl) (ev_var rfl) (sq_of h5)) (ev_inI (ev_var rfl) (ev_var rfl) (sq_of h5)) (rv_ne rfl)) (by
          by_cases c1 : z.2.1 ∈ fd <;> by_cases c2 : z.2.2 ∈ fd <;> simp [c1, c2]))) ?_ ?_
      · intro hc H6 e6
        have g : grow some fd z.2 = fd ++ [z.2.1, z.2.2].filter (fun x => !decide (x ∈ fd)) := by
          unfold grow
          rw [if_pos]
          simp only [Bool.and_eq_true, decide_eq_true_eq, Bool.not_eq_true', decide_eq_false_iff_not] at hc
          exact ⟨hc.1, hc.2.1, fun z => hc.2.2 (by rw [decide_eq_decide]; exact z)⟩
        refine s_asgL (xs := (grow some fd z.2).map V.int) (el_is (el_cat (ev_var rfl) (e6 _ _ h5) (el_lcU [z.2.1, z.2.2] V.int (fun x => !decide (x ∈ fd)) V.int (eu_tup (ea_two (ev_var rfl) (ev_var rfl)) (by show 2 ≤ 100000; omega)) (by show 2 ≤ 40000; omega) (fun _ => rfl)
          (fun x hx H7 e7 => et_test (ev_niI (ev_var rfl) (ev_var rfl) (sq_of (e7 _ _ (e6 _ _ h5))))) fun x hx H7 e7 _ => ev_var rfl) ?_) ?_) fun p7 H7 n7 e7 h7 => ?_
        · rw [List.length_map, List.length_map]
          have := List.length_filter_le (fun x => !decide (x ∈ fd)) [z.2.1, z.2.2]
          have e2 : [z.2.1, z.2.2].length = 2 := rfl
          omega
        · rw [g, List.map_append]
        · refine ⟨(e5.trans e6).trans e7, p7, _, _, _, rfl, (e05.trans e6).trans e7, fresh_back (e05.trans e6) n7, ?_, ?_⟩
          · rw [step]; exact h7
          · rw [step]; exact pt2
      · intro hc H6 e6
        have g : grow some fd z.2 = fd := by
          unfold grow
          rw [if_neg]
          intro k
          rw [decide_eq_true k.1, decide_eq_true k.2.1] at hc
          simp only [Bool.true_and, Bool.not_eq_false', decide_eq_true_eq] at hc
          exact k.2.2 (decide_eq_decide.mp hc)
        refine ⟨e5.trans e6, r5, _, _, _, rfl, e05.trans e6, n5, ?_, ?_⟩
        · rw [step, g]; exact e6 _ _ h5
        · rw [step]; exact pt2
    · rintro σ5 H5 e5 ⟨r5, y5, y6, y7, rfl, e05, n5, h5, pt⟩
      exact ⟨r5, _, y5, y6, y7, rfl, e05, n5, h5, rfl⟩
  · have c := of_decide_eq_false c
    refine s_ret (ev_var rfl) fun H4 e4 => ?_
    rcases st with ⟨rfl, rfl⟩ | ⟨g, hg, rfl, rfl⟩
    · simp at c
    · exact q _ (hg.done (by omega)) r H4 nr ((e.trans e3).trans e4) (e4 _ _ (e3 _ _ hr))
end
end Ol
namespace Ol
open PySem PySem.Spec PyProof.Rows L2 Evl
/-! ### ties in order -/
def lexT (s t : Tie) : Prop := s.1 < t.1 ∨ (s.1 = t.1 ∧ s.2 < t.2)
/-- a tree of names as the program asks it -/
structure TreeW (names : List Int) (ties : List Tie) : Prop where
  up : names.Pairwise (· < ·)
  pos : ∀ n ∈ names, 0 ≤ n
  top : ∀ n ∈ names, n < 10 ^ 11
  few : names.length ≤ 10
  some : 0 < names.length
  ok : ∃ o par, TreeOk names ties o par
  len : ties.length + 1 = names.length
  lt : ∀ t ∈ ties, t.1 < t.2 ∧ t.1 ∈ names ∧ t.2 ∈ names
  ord : ties.Pairwise lexT
def cT (t : Tie) : Int := t.1 * 10 ^ 11 + t.2
theorem cT_lt {s t : Tie} (hs : 0 ≤ s.2 ∧ s.2 < 10 ^ 11) (ht : 0 ≤ t.2 ∧ t.2 < 10 ^ 11) : lexT s t ↔ cT s < cT t := by
  unfold lexT cT
  omega
theorem cT_inj {s t : Tie} (hs : 0 ≤ s.2 ∧ s.2 < 10 ^ 11) (ht : 0 ≤ t.2 ∧ t.2 < 10 ^ 11) (h : cT s = cT t) : s = t := by
  unfold cT at h
  have h1 : s.1 = t.1 := by omega
  have h2 : s.2 = t.2 := by omega
  exact Prod.ext h1 h2
def pairL (t : Tie) : List Int := [t.1, t.2]
theorem code_pairL (t : Tie) : TS.code (10 ^ 11) (pairL t) = cT t := by
  have e1 : ((10 : Int) ^ 11) ^ 1 = 10 ^ 11 := by decide
  have e0 : ((10 : Int) ^ 11) ^ 0 = 1 := by decide
  show t.1 * ((10 : Int) ^ 11) ^ 1 + (t.2 * ((10 : Int) ^ 11) ^ 0 + 0) = t.1 * 10 ^ 11 + t.2
  rw [e1, e0, Int.mul_one, Int.add_zero]
theorem pairL_inj {s t : Tie} (h : pairL s = pairL t) : s = t := by
  unfold pairL at h
  injection h with h1 h2
  injection h2 with h3 _
  exact Prod.ext h1 h3
/-- ordered lists of ties with the same members are one -/
theorem ties_one {l m : List Tie} (bl : ∀ t ∈ l, 0 ≤ t.2 ∧ t.2 < 10 ^ 11) (bm : ∀ t ∈ m, 0 ≤ t.2 ∧ t.2 < 10 ^ 11) (hl : l.Pairwise lexT) (hm : m.Pairwise lexT) (h : ∀ t, t ∈ l ↔ t ∈ m) : l = m := by
  have ul : (l.map cT).Pairwise (· < ·) := List.pairwise_map.mpr (List.Pairwise.imp_of_mem (fun {a b} ha hb k => (cT_lt (bl a ha) (bl b hb)).mp k) hl)
  have um : (m.map cT).Pairwise (· < ·) := List.pairwise_map.mpr (List.Pairwise.imp_of_mem (fun {a b} ha hb k => (cT_lt (bm a ha) (bm b hb)).mp k) hm)
  have e : l.map cT = m.map cT := up_one ul um fun x => by
    rw [List.mem_map, List.mem_map]
    exact ⟨fun ⟨t, a, b⟩ => ⟨t, (h t).mp a, b⟩, fun ⟨t, a, b⟩ => ⟨t, (h t).mpr a, b⟩⟩
  have inj : ∀ (l m : List Tie), (∀ t ∈ l, 0 ≤ t.2 ∧ t.2 < 10 ^ 11) → (∀ t ∈ m, 0 ≤ t.2 ∧ t.2 < 10 ^ 11) → l.map cT = m.map cT → l = m := by
    intro l
    induction l with
    | nil => intro m _ _ e; cases m with
      | nil => rfl
      | cons _ _ => cases e
    | cons a l ih => intro m h1 h2 e; cases m with
      | nil => cases e
      | cons b m =>
        injection e with e1 e2
        rw [cT_inj (h1 a List.mem_cons_self) (h2 b List.mem_cons_self) e1, ih m (fun t ht => h1 t (List.mem_cons_of_mem _ ht)) (fun t ht => h2 t (List.mem_cons_of_mem _ ht)) e2]
  exact inj l m bl bm e
def dT (ts : List Tie) : PyData := .list (ts.map fun t => .tuple [.int t.1, .int t.2])
theorem flat_T (ts : List Tie) : Flat 2 (dT ts) := flat_list fun d hd => by
  obtain ⟨t, _, rfl⟩ := List.mem_map.mp hd
  exact flat_tuple fun d hd => by
    rcases List.mem_cons.mp hd with rfl | hd
    · exact flat_int _
    · rw [List.mem_singleton.mp hd]
      exact flat_int _
theorem dp_T {K : PySem.W.Frag} {H : Hp} {a : Addr} {ps : List (Addr × Tie)} (h : LT K H a ps) : Dp K H (.ref a) (dT (ps.map (·.2))) := by
  unfold dT
  rw [List.map_map]
  exact .lst h.1 (dpAll_map (fun p : Addr × Tie => V.ref p.1) _ ps fun p hp => .tup (h.2 p hp) (.cons (.int _) (.cons (.int _) .nil)))
theorem take_cut (xs : List V) (k : Nat) : cutV xs none (some (k : Int)) = xs.take k := by
  unfold cutV
  rw [show HT.sIx xs.length xs.length (some (k : Int)) = min k xs.length from HT.sIx_nat xs.length xs.length k, HT.sIx_none]
  show (xs.drop 0).take (min k xs.length - 0) = xs.take k
  rw [List.drop_zero, Nat.sub_zero]
  rcases Nat.le_total k xs.length with h | h
  · rw [Nat.min_eq_left h]
  · rw [Nat.min_eq_right h, List.take_length, List.take_of_length_le h]
section
variable {P : Program} {w : World} {K : PySem.W.Frag} {mg : Str → Option Value} {base : Heap}
/-! ### hang_together, is_right_tree -/
def spHang (K : PySem.W.Frag) : Sp := fun vs H Q _ => ∃ (a b : Addr) (ts : List (Addr × Tie)) (x : Int) (rest : List Int), vs = [.ref a, .ref b] ∧ LT K H a ts ∧ LI K H b (x :: rest) ∧ rest.length ≤ 20 ∧
  ∀ r, Reach (ts.map (·.2)) (x :: rest) x r → RetV (.bl (decide (r.length = rest.length + 1))) H Q
theorem c_hang_together (T : Tx w K mg) (C_reached : Callee P w K mg base "reached" 1 ["ties", "some", "first"] (spReached K)) : Callee P w K mg base "hang_together" 2 ["ties", "some"] (spHang K) := by
  refine callee_of T.F_hang_together T.g_hang_together sc_hang_together (fun _ _ _ _ _ _ us hl => match us, hl with | [_, _], _ => rfl) (fun vs H Q E h => ?_) fun cdv A outer s H vs Q E hr h => ?_
  · obtain ⟨a, b, ts, x, rest, rfl, ha, hb, few, q⟩ := h
    rfl
  obtain ⟨a, b, ts, x, rest, rfl, ha, hb, few, q⟩ := h
  refine ⟨_, (pss_one (ps_ret (pe_cmpR op_eq (pe_callB (lenS K) (by rfl) T.b_len (by decide +kernel) (pa_cons (pe_callC C_reached hr (by decide) (by rfl) (pa_cons (pv 0) (pa_cons (pv 1) (pa_cons (pe_ix (ixL K) (pv 1) pe_int (fun _ _ => rfl)) pa_nil)))) pa_nil)) (pe_callB (lenS K) (by rfl) T.b_len (by decide +kernel) (pa_cons (pv 1) pa_nil)) (nomark _)))), ?_⟩
  refine inRet (inOp (inCB (inCons (inCall (goA (ea_three (ev_var rfl) (ev_var rfl) (ev_ixL (ev_var rfl) ev_c hb (at0 V.int rfl))) fun H1 e1 => ?_)))))
  refine ⟨a, b, ts, x :: rest, x, rfl, ha.ex e1, ex_l e1 hb, by show rest.length + 1 ≤ 30; omega, fun r hr p H2 n2 e2 h2 => ?_⟩
  refine ⟨p, _, rfl, .inl (sq_of h2), ?_⟩
  refine go (ev_len (ev_var rfl) (ex_l (e1.trans e2) hb)) fun H3 e3 => ⟨rfl, ?_⟩
  have := q r hr H3 ((e1.trans e2).trans e3)
  rw [List.length_map, List.length_map]
  have e : decide (V.int (r.length : Int) = V.int ((x :: rest).length : Int)) = decide (r.length = rest.length + 1) := by
    rw [decide_eq_decide, List.length_cons]
    constructor
    · intro h
      injection h with h
      omega
    · intro h
      rw [h]
  rw [e]
  exact this
def spTreeOk (K : PySem.W.Frag) (v : V) : Sp := fun vs H Q _ => ∃ (a b : Addr) (ns : List Int) (ts : List (Addr × Tie)), vs = [.ref a, .ref b] ∧ LI K H a ns ∧ LT K H b ts ∧ TreeW ns (ts.map (·.2)) ∧ RetV v H Q
theorem c_is_right_tree (T : Tx w K mg) (C_is_tie : Callee P w K mg base "is_tie" 2 ["names", "thing"] (spTie K)) (C_hang_together : Callee P w K mg base "hang_together" 2 ["ties", "some"] (spHang K)) : Callee P w K mg base "is_right_tree" 3 ["names", "thing"] (spTreeOk K (.bl true)) := by
  refine callee_of T.F_is_right_tree T.g_is_right_tree sc_is_right_tree (fun _ _ _ _ _ _ us hl => match us, hl with | [_, _], _ => rfl) (fun vs H Q E h => ?_) fun cdv A outer s H vs Q E hr h => ?_
  · obtain ⟨a, b, ns, ts, rfl, ha, hb, W, q⟩ := h
    rfl
  obtain ⟨a, b, ns, ts, rfl, ha, hb, W, q⟩ := h
  refine ⟨_, (pss_cons (ps_if (PW.pt (pw_or (pt_not (pt_val (pe_callB (isiR K) (by rfl) T.b_isinstance (by decide +kernel) (pa_cons (pv 1) (pa_cons (pe_bltn (v := .ty "list") (u := .type "list") (by rfl) T.b_list (by decide +kernel) rfl) pa_nil))))) (pw_or (pt_cmpR op_ne (pe_callB (lenS K) (by rfl) T.b_len (by decide +kernel) (pa_cons (pv 1) pa_nil)) (pe_op op_sub (pe_callB (lenS K) (by rfl) T.b_len (by decide +kernel) (pa_cons (pv 0) pa_nil)) pe_int) (nomark _)) (pw_or1 (pt_not (pt_val (pe_callB (allR K) (by rfl) T.b_all (by decide +kernel) (pa_cons (pe_lc (own := [("tie", 2)]) rfl sc_is_right_tree.nd (piL K (pv 1)) (blkOk_by (by kernel_rfl)) (fun _ _ _ _ _ => (pg_name (i := 2) sc_is_right_tree.nd rfl (Or.inl rfl))) (fun _ _ _ _ _ => pts_nil) (fun _ _ _ _ _ => (pe_callC C_is_tie hr (by decide) (by rfl) (pa_cons (pv 0) (pa_cons (pv 2) pa_nil))))) pa_nil)))))))) (pss_one (ps_ret pe_bl)) pss_nil)
      (pss_one (ps_ret (pe_and (pe_cmpR (eqD K hr.units) (pv 1) (pe_callB (srtST K P w) (by rfl) T.b_sorted (by decide +kernel) (pa_cons (pe_callTy (setOT K P w hr.units) (by rfl) T.b_set (by decide +kernel) (pa_cons (pv 1) pa_nil)) pa_nil)) (nomark _)) (pe_one (pe_callC C_hang_together hr (by decide) (by rfl) (pa_cons (pv 1) (pa_cons (pv 0) pa_nil)))))))), ?_⟩
  have f1 := W.few
  have f2 := W.len
  rw [List.length_map] at f2
  refine q_when (b := false) (et_or (a := false) (b := false) (et_not (a := true) (et_B (ev_isiL (ev_var rfl) hb.1 (by decide +kernel)))) fun _ => et_or (a := false) (b := false) (et_test (ev_is (ev_op (ev_len (ev_var rfl) hb.1) (ev_op (ev_len (ev_var rfl) ha) ev_c rv_I0) (rv_ne rfl)) ?_)) fun _ =>
    et_not (a := true) (et_B (ev_is (ev_all (bs := ts.map fun _ => true) (el_is (el_lcM ts (fun p => V.ref p.1) (fun _ => true) (fun _ => V.bl true) (ev_var rfl) hb.1 (by omega) (fun _ => rfl) (fun _ _ _ _ => et_none rfl) fun p hp H2 e2 _ =>
      ev_callV (ea_two (ev_var rfl) (ev_var rfl)) fun H3 e3 Q q => ⟨a, p.1, ns, p.2.1, p.2.2, rfl, ex_l (e2.trans e3) ha, ex_t (e2.trans e3) (hb.2 p hp), (W.lt p.2 (List.mem_map.mpr ⟨p, hp, rfl⟩)).1, (W.lt p.2 (List.mem_map.mpr ⟨p, hp, rfl⟩)).2.1,
        (W.lt p.2 (List.mem_map.mpr ⟨p, hp, rfl⟩)).2.2, q⟩) (by rw [filter_all, List.map_map]; rfl))) (by simp)))) (fun z => nomatch z) fun _ H1 e1 => ?_
  · rw [List.length_map, List.length_map]
    have : decide (V.int (ts.length : Int) = V.int ((ns.length : Int) - 1)) = true := decide_eq_true (by rw [show ((ts.length : Nat) : Int) = (ns.length : Int) - 1 by omega])
    rw [this]
    rfl
  have ha1 := ex_l e1 ha
  have hb1 := hb.ex e1
  have bd : ∀ p ∈ ts, 0 ≤ p.2.2 ∧ p.2.2 < 10 ^ 11 := fun p hp => by
    obtain ⟨_, _, h⟩ := W.lt p.2 (List.mem_map.mpr ⟨p, hp, rfl⟩)
    exact ⟨W.pos _ h, W.top _ h⟩
  -- thing == sorted(set(thing))
  refine ⟨_, rfl, ?_⟩
  refine ⟨_, rfl, b, ts.map fun p => (p.1, pairL p.2), rfl, ?_, ?_, ?_, fun s L ns1 sub all => ?_⟩
  · rw [List.map_map]
    exact hb1.1
  · intro p hp
    obtain ⟨z, hz, rfl⟩ := List.mem_map.mp hp
    exact hb1.2 z hz
  · rw [List.length_map]
    omega
  have es : Ex H1 (upd H1 s (SetTO P w s L)) := Ex.new ns1
  refine ⟨s, L, 2, 10 ^ 11, rfl, upd_same, fun p hp => ?_, by omega, fun p hp => ?_, fun L' p pm nd few64 pw np => ?_⟩
  · obtain ⟨z, hz, rfl⟩ := List.mem_map.mp (sub p hp)
    exact ex_t es (hb1.2 z hz)
  · obtain ⟨z, hz, rfl⟩ := List.mem_map.mp (sub p hp)
    refine ⟨rfl, fun m hm => ?_⟩
    obtain ⟨_, h1, h2⟩ := W.lt z.2 (List.mem_map.mpr ⟨z, hz, rfl⟩)
    rcases List.mem_cons.mp hm with e | hm
    · rw [e]
      exact ⟨W.pos _ h1, W.top _ h1⟩
    · rw [List.mem_singleton.mp hm]
      exact ⟨W.pos _ h2, W.top _ h2⟩
  -- the new list's ties are the list's own
  obtain ⟨L2, hL2⟩ : ∃ L2 : List (Addr × Tie), L' = L2.map fun p => (p.1, pairL p.2) := by
    have : ∀ l : List (Addr × List Int), (∀ p ∈ l, p ∈ ts.map fun p => (p.1, pairL p.2)) → ∃ L2 : List (Addr × Tie), l = L2.map fun p => (p.1, pairL p.2) := by
      intro l
      induction l with
      | nil => exact fun _ => ⟨[], rfl⟩
      | cons a l ih =>
        intro h
        obtain ⟨z, _, hz⟩ := List.mem_map.mp (h a List.mem_cons_self)
        obtain ⟨L2, e⟩ := ih fun p hp => h p (List.mem_cons_of_mem _ hp)
        exact ⟨z :: L2, by rw [List.map_cons, hz, e]⟩
    exact this L' fun p hp => sub p (pm.mem_iff.mp hp)
  subst hL2
  have mem2 : ∀ p ∈ L2, p ∈ ts := fun p hp => by
    have h := sub _ (pm.mem_iff.mp (List.mem_map.mpr ⟨p, hp, rfl⟩))
    obtain ⟨z, hz, e⟩ := List.mem_map.mp h
    injection e with e1 e2
    have e3 := pairL_inj e2
    have : z = p := Prod.ext e1 e3
    rw [← this]
    exact hz
  have same : L2.map (·.2) = ts.map (·.2) := by
    refine ties_one (fun t ht => ?_) (fun t ht => ?_) ?_ W.ord fun t => ⟨fun ht => ?_, fun ht => ?_⟩
    · obtain ⟨p, hp, rfl⟩ := List.mem_map.mp ht
      exact bd p (mem2 p hp)
    · obtain ⟨p, hp, rfl⟩ := List.mem_map.mp ht
      exact bd p hp
    · rw [List.map_map] at nd
      rw [List.pairwise_map] at pw ⊢
      have nd2 : L2.Pairwise fun p q => pairL p.2 ≠ pairL q.2 := List.pairwise_map.mp nd
      refine List.Pairwise.imp_of_mem (fun {p q} hp hq h => ?_) (pw.and nd2)
      obtain ⟨h1, h2⟩ := h
      rw [code_pairL, code_pairL] at h1
      refine (cT_lt (bd p (mem2 p hp)) (bd q (mem2 q hq))).mpr ?_
      rcases Int.lt_or_eq_of_le h1 with k | k
      · exact k
      · exact absurd (congrArg pairL (cT_inj (bd p (mem2 p hp)) (bd q (mem2 q hq)) k)) h2
    · obtain ⟨p, hp, rfl⟩ := List.mem_map.mp ht
      exact List.mem_map.mpr ⟨p, mem2 p hp, rfl⟩
    · obtain ⟨p, hp, rfl⟩ := List.mem_map.mp ht
      have h := all (p.1, pairL p.2) (List.mem_map.mpr ⟨p, hp, rfl⟩)
      obtain ⟨z, hz, e⟩ := List.mem_map.mp h
      have hz2 := pm.mem_iff.mpr hz
      obtain ⟨y, hy, e2⟩ := List.mem_map.mp hz2
      rw [← e2] at e
      exact List.mem_map.mpr ⟨y, hy, pairL_inj e⟩
  have e2 : Ex H1 (upd (upd H1 s (SetTO P w s L)) p (.lst ((L2.map fun p => (p.1, pairL p.2)).map fun q => V.ref q.1))) := es.trans (Ex.new np)
  have hp2 : LT K (upd (upd H1 s (SetTO P w s L)) p (.lst ((L2.map fun p => (p.1, pairL p.2)).map fun q => V.ref q.1))) p L2 := by
    refine ⟨?_, fun z hz => ex_t e2 (hb1.2 z (mem2 z hz))⟩
    have : (L2.map fun p => (p.1, pairL p.2)).map (fun q => V.ref q.1) = L2.map fun p => V.ref p.1 := by
      rw [List.map_map]
      rfl
    rw [this]
    exact sq_of upd_same
  have d1 := dp_T (hb1.ex e2)
  have d2 := dp_T hp2
  rw [same] at d2
  refine rv_same d1 d2 (flat_T _) (by omega) _ (Ex.refl _) _ fun H3 e3 => ⟨true, rfl, iteT ?_⟩
  -- and hang_together(thing, names)
  obtain ⟨o, par, ok⟩ := W.ok
  have e03 := (e1.trans e2).trans e3
  obtain ⟨x, rest, hx⟩ : ∃ x rest, ns = x :: rest := by
    cases ns with
    | nil => exact absurd W.some (by decide)
    | cons x rest => exact ⟨x, rest, rfl⟩
  refine go (ev_callV (v := .bl true) (ea_two (ev_var rfl) (ev_var rfl)) fun H4 e4 Q q => ?_) fun H4 e4 => q H4 (e03.trans e4)
  subst hx
  refine ⟨b, a, ts, x, rest, rfl, hb.ex (e03.trans e4), ex_l (e03.trans e4) ha, by rw [List.length_cons] at f1; omega, fun r hr H5 e5 => ?_⟩
  have := ok.reach hr List.mem_cons_self
  rw [List.length_cons] at this
  rw [decide_eq_true this]
  exact q H5 e5
theorem c_is_tree (T : Tx w K mg) (C_is_ranking : Callee P w K mg base "is_ranking" 3 ["thing"] (spRk K (.bl true))) (C_is_right_tree : Callee P w K mg base "is_right_tree" 3 ["names", "thing"] (spTreeOk K (.bl true))) : Callee P w K mg base "is_tree" 5 ["names", "thing"] (spTreeOk K (.bl true)) := by
  refine callee_of T.F_is_tree T.g_is_tree sc_is_tree (fun _ _ _ _ _ _ us hl => match us, hl with | [_, _], _ => rfl) (fun vs H Q E h => ?_) fun cdv A outer s H vs Q E hr h => ?_
  · obtain ⟨a, b, ns, ts, rfl, ha, hb, W, q⟩ := h
    rfl
  obtain ⟨a, b, ns, ts, rfl, ha, hb, W, q⟩ := h
  refine ⟨_, (pss_cons (ps_if (PW.pt (pw_or (pt_not (pt_val (pe_callC C_is_ranking hr (by decide) (by rfl) (pa_cons (pv 0) pa_nil)))) (pw_or1 (pt_cmpR (neD K hr.units) (pv 0) (pe_callB (srtI K) (by rfl) T.b_sorted (by decide +kernel) (pa_cons (pv 0) pa_nil)) (nomark _))))) pss_never pss_nil)
      (pss_one (ps_ret (pe_callC C_is_right_tree hr (by decide) (by rfl) (pa_cons (pv 0) (pa_cons (pv 1) pa_nil)))))), ?_⟩
  have f1 := W.few
  refine q_when (b := false) (et_or (a := false) (b := false) (et_not (a := true) (et_B (ev_callV (ea_one (ev_var rfl)) fun H1 e1 Q q => ⟨a, ns, rfl, ex_l e1 ha, ⟨up_nd W.up, W.pos, W.few, W.some⟩, q⟩))) fun _ =>
    et_test (ev_opL (ev_var rfl) (el_sortedN (ev_var rfl) ha (List.Perm.refl ns) W.up (by omega)) fun p H1 h1 e1 => rv_notsame (dp_I (ex_l e1 ha)) (dp_I (sq_of h1)) (flat_I ns) (by omega))) (fun z => nomatch z) fun _ H1 e1 => ?_
  exact s_ret (ev_callV (ea_two (ev_var rfl) (ev_var rfl)) fun H2 e2 Q q => ⟨a, b, ns, ts, rfl, ex_l (e1.trans e2) ha, hb.ex (e1.trans e2), W, q⟩) fun H2 e2 => q H2 (e1.trans e2)
theorem c_must_be_tree (T : Tx w K mg) (C_is_right_tree : Callee P w K mg base "is_right_tree" 3 ["names", "thing"] (spTreeOk K (.bl true))) : Callee P w K mg base "must_be_tree" 4 ["names", "tree"] (spTreeOk K .non) := by
  refine callee_of T.F_must_be_tree T.g_must_be_tree sc_must_be_tree (fun _ _ _ _ _ _ us hl => match us, hl with | [_, _], _ => rfl) (fun vs H Q E h => ?_) fun cdv A outer s H vs Q E hr h => ?_
  · obtain ⟨a, b, ns, ts, rfl, ha, hb, W, q⟩ := h
    rfl
  obtain ⟨a, b, ns, ts, rfl, ha, hb, W, q⟩ := h
  refine ⟨_, (pss_one (ps_if (pt_not (pt_val (pe_callC C_is_right_tree hr (by decide) (by rfl) (pa_cons (pv 0) (pa_cons (pv 1) pa_nil))))) pss_never pss_nil)), ?_⟩
  exact s_if (b := false) (et_not (a := true) (et_B (ev_callV (ea_two (ev_var rfl) (ev_var rfl)) fun H1 e1 Q q => ⟨a, b, ns, ts, rfl, ex_l e1 ha, hb.ex e1, W, q⟩))) (fun z => nomatch z) fun _ H1 e1 => q H1 e1
/-! ### apart_at, first_apart -/
/-- None or a whole number -/
def NoI (v : V) : Prop := v = .non ∨ ∃ n, v = .int n
def spApart (K : PySem.W.Frag) : Sp := fun vs H Q _ => ∃ (a b : Addr) (ts : List (Addr × Tie)) (r : List Int), vs = [.ref a, .ref b] ∧ LT K H a ts ∧ LI K H b r ∧ r.length ≤ 20 ∧ ∀ v H', Ex H H' → NoI v → Q v H'
theorem c_apart_at (T : Tx w K mg) (C_hang_together : Callee P w K mg base "hang_together" 2 ["ties", "some"] (spHang K)) : Callee P w K mg base "apart_at" 3 ["tree", "ranking"] (spApart K) := by
  refine callee_of T.F_apart_at T.g_apart_at sc_apart_at (fun _ _ _ _ _ _ us hl => match us, hl with | [_, _], _ => rfl) (fun vs H Q E h => ?_) fun cdv A outer s H vs Q E hr h => ?_
  · obtain ⟨a, b, ts, r, rfl, ha, hb, few, q⟩ := h
    rfl
  obtain ⟨a, b, ts, r, rfl, ha, hb, few, q⟩ := h
  refine ⟨_, (pss_cons (ps_for PassesOwn.never rfl (pi_range2 (by rfl) T.b_range (pa_cons pe_int (pa_cons (pe_op op_add (pe_callB (lenS K) (by rfl) T.b_len (by decide +kernel) (pa_cons (pv 1) pa_nil)) pe_int) pa_nil))) (pg_name (i := 2) sc_apart_at.nd rfl (Or.inl rfl)) (pss_one (ps_if (pt_not (pt_val (pe_callC C_hang_together hr (by decide) (by rfl) (pa_cons (pv 0) (pa_cons (pe_slice (slL K) (pv 1) po_none (po_some (pv 2))) pa_nil))))) (pss_one (ps_ret (pv 2))) pss_nil)))
      (pss_one (ps_ret pe_non))), ?_⟩
  have hr0 := hr
  refine q_forR2 (lo := 1) (n := (r.length : Int) + 1) (ea_two ev_c (ev_is (ev_op (ev_len (ev_var rfl) hb) ev_c rv_I0) (by rw [List.length_map]))) (by omega) (fun i σ' H' => Ex H H' ∧ ∃ y, σ' = [some (.ref a), some (.ref b), y])
    (fun H1 e1 => ⟨e1, _, rfl⟩) ?_ ?_
  · rintro i σ' H' hi ⟨e, y, rfl⟩
    obtain ⟨x, rest, hx⟩ : ∃ x rest, r.take (1 + i) = x :: rest := by
      cases r with
      | nil =>
        have h0 : ([] : List Int).length = 0 := rfl
        rw [h0] at hi
        omega
      | cons x rest => exact ⟨x, rest.take i, by rw [Nat.add_comm]; rfl⟩
    have hlen : rest.length ≤ 20 := by
      have := congrArg List.length hx
      rw [List.length_take, List.length_cons] at this
      omega
    -- if not hang_together(tree, ranking[:many])
    refine inIf (inNot (inB (inCall (inCons (go (ev_var rfl) fun H1 e1 => ?_)))))
    refine inCons (goL (el_sl (hi := some (((1 + i : Nat) : Nat) : Int)) (ev_var rfl) eo_none (eo_some (ev_is (ev_var rfl) (by rw [show ((1 + i : Nat) : Int) = (1 : Int) + (i : Int) by omega]))) (ex_l (e.trans e1) hb)) fun p H2 n2 e2 h2 => ?_)
    rw [take_cut, ← List.map_take, hx] at h2
    refine ⟨a, p, ts, x, rest, rfl, ha.ex ((e.trans e1).trans e2), sq_of h2, hlen, fun rr hrr H3 e3 => ?_⟩
    refine ⟨_, rfl, ?_⟩
    cases hd : decide (rr.length = rest.length + 1) with
    | true => exact iteF ⟨((e.trans e1).trans e2).trans e3, _, rfl⟩
    | false => exact iteT ⟨_, rfl, q _ H3 (((e.trans e1).trans e2).trans e3) (.inr ⟨_, rfl⟩)⟩
  · rintro σ' H' ⟨e, y, rfl⟩
    exact q .non H' e (.inl rfl)
def spFirst (K : PySem.W.Frag) : Sp := fun vs H Q _ => ∃ (a b : Addr) (names : List Int) (ts : List (Addr × Tie)) (r : List Int), vs = [.ref a, .ref b] ∧ LT K H a ts ∧ LI K H b r ∧ r.Perm names ∧ TreeW names (ts.map (·.2)) ∧ ∀ v H', Ex H H' → NoI v → Q v H'
theorem c_first_apart (T : Tx w K mg) (C_must_be_ranking : Callee P w K mg base "must_be_ranking" 4 ["ranking"] (spRk K .non)) (C_must_be_tree : Callee P w K mg base "must_be_tree" 4 ["names", "tree"] (spTreeOk K .non)) (C_apart_at : Callee P w K mg base "apart_at" 3 ["tree", "ranking"] (spApart K)) : Callee P w K mg base "first_apart" 5 ["tree", "ranking"] (spFirst K) := by
  refine callee_of T.F_first_apart T.g_first_apart sc_first_apart (fun _ _ _ _ _ _ us hl => match us, hl with | [_, _], _ => rfl) (fun vs H Q E h => ?_) fun cdv A outer s H vs Q E hr h => ?_
  · obtain ⟨a, b, names, ts, r, rfl, ha, hb, pm, W, q⟩ := h
    rfl
  obtain ⟨a, b, names, ts, r, rfl, ha, hb, pm, W, q⟩ := h
  refine ⟨_, (pss_cons (ps_expr (pe_callC C_must_be_ranking hr (by decide) (by rfl) (pa_cons (pv 1) pa_nil)))
      (pss_cons (ps_expr (pe_callC C_must_be_tree hr (by decide) (by rfl) (pa_cons (pe_callB (srtI K) (by rfl) T.b_sorted (by decide +kernel) (pa_cons (pv 1) pa_nil)) (pa_cons (pv 0) pa_nil))))
      (pss_one (ps_ret (pe_callC C_apart_at hr (by decide) (by rfl) (pa_cons (pv 0) (pa_cons (pv 1) pa_nil))))))), ?_⟩
  have f1 := W.few
  have f2 := pm.length_eq
  have f3 := W.some
  refine q_drop (ev_callV (v := .non) (ea_one (ev_var rfl)) fun H1 e1 Q q => ⟨b, r, rfl, ex_l e1 hb, ⟨pm.nodup_iff.mpr (up_nd W.up), fun n hn => W.pos n (pm.mem_iff.mp hn), by omega, by omega⟩, q⟩) fun H1 e1 => ?_
  refine inSeq (inDrop (inCall (inCons (goL (el_sortedN (ev_var rfl) (ex_l e1 hb) pm W.up (by omega)) fun p H2 n2 e2 h2 => ?_))))
  refine inCons (go (ev_var rfl) fun H3 e3 => ?_)
  refine ⟨p, a, names, ts, rfl, sq_of (e3 _ _ h2), ha.ex ((e1.trans e2).trans e3), W, fun H4 e4 => ?_⟩
  have e04 := ((e1.trans e2).trans e3).trans e4
  refine inRet (inCall (goA (ea_two (ev_var rfl) (ev_var rfl)) fun H5 e5 => ?_))
  exact ⟨a, b, ts, r, rfl, ha.ex (e04.trans e5), ex_l (e04.trans e5) hb, by omega, fun v H6 e6 hv => q v H6 ((e04.trans e5).trans e6) hv⟩
end
end Ol
namespace Ol
open PySem PySem.Spec PyProof.Rows L2 Evl
/-! ### names taken out, in plain Lean -/
def restM (r left : List Int) : List Int := r.filter fun x => decide (x ∈ left)
def allowedM (r left : List Int) (name : Int) : List Int := if (restM r left).idxOf name = 0 then ((restM r left).drop 1).take 1 else (restM r left).take ((restM r left).idxOf name)
def hangsM (folk : List (List Int)) (left : List Int) (name : Int) : List Int := folk.foldl (fun f r => f.filter fun x => decide (x ∈ allowedM r left name)) (left.filter fun x => !decide (x = name))
def insM (x : Int) : List Int → List Int
  | [] => [x]
  | y :: l => if x < y then x :: y :: l else if x = y then y :: l else y :: insM x l
def upM (l : List Int) : List Int := l.foldr insM []
theorem mem_insM (x z : Int) : ∀ l : List Int, z ∈ insM x l ↔ z = x ∨ z ∈ l
  | [] => by simp [insM]
  | y :: l => by
    unfold insM
    split
    · simp
    · split
      · rename_i h
        subst h
        simp
      · rw [List.mem_cons, mem_insM x z l, List.mem_cons]
        constructor
        · rintro (h | h | h)
          · exact .inr (.inl h)
          · exact .inl h
          · exact .inr (.inr h)
        · rintro (h | h | h)
          · exact .inr (.inl h)
          · exact .inl h
          · exact .inr (.inr h)
theorem up_insM (x : Int) : ∀ l : List Int, l.Pairwise (· < ·) → (insM x l).Pairwise (· < ·)
  | [], _ => List.pairwise_singleton _ _
  | y :: l, h => by
    obtain ⟨h1, h2⟩ := List.pairwise_cons.mp h
    unfold insM
    split
    · rename_i c
      refine List.pairwise_cons.mpr ⟨fun z hz => ?_, h⟩
      rcases List.mem_cons.mp hz with e | hz
      · rw [e]; exact c
      · have := h1 z hz
        omega
    · split
      · exact h
      · refine List.pairwise_cons.mpr ⟨fun z hz => ?_, up_insM x l h2⟩
        rcases (mem_insM x z l).mp hz with e | hz
        · rw [e]; omega
        · exact h1 z hz
theorem up_upM : ∀ l : List Int, (upM l).Pairwise (· < ·)
  | [] => List.Pairwise.nil
  | x :: l => up_insM x _ (up_upM l)
theorem mem_upM (z : Int) : ∀ l : List Int, z ∈ upM l ↔ z ∈ l
  | [] => Iff.rfl
  | x :: l => by
    show z ∈ insM x (upM l) ↔ z ∈ x :: l
    rw [mem_insM, mem_upM z l, List.mem_cons]
def lastM (left r : List Int) : Int := ((restM r left).getLast?).getD 0
def lastsM (folk : List (List Int)) (left : List Int) : List Int := upM (folk.map (lastM left))
def takenM (folk : List (List Int)) : Nat → List Int → List (Int × List Int)
  | 0, _ => []
  | n + 1, left => if left.length ≤ 1 then [] else
    let name := (lastsM folk left).headD 0
    let some := hangsM folk left name
    if some = [] then [(name, some)] else (name, some) :: takenM folk n (left.filter fun x => !decide (x = name))
/-! ### cuts -/
theorem cut_nat (xs : List V) (i j : Nat) : cutV xs (some (i : Int)) (some (j : Int)) = (xs.drop i).take (j - i) := by
  unfold cutV
  rw [show HT.sIx xs.length 0 (some (i : Int)) = min i xs.length from HT.sIx_nat xs.length 0 i, show HT.sIx xs.length xs.length (some (j : Int)) = min j xs.length from HT.sIx_nat xs.length xs.length j]
  rcases Nat.le_total i xs.length with h | h
  · rw [Nat.min_eq_left h]
    rcases Nat.le_total j xs.length with k | k
    · rw [Nat.min_eq_left k]
    · rw [Nat.min_eq_right k]
      have e : (xs.drop i).length = xs.length - i := List.length_drop
      rw [List.take_of_length_le (by omega), List.take_of_length_le (by omega)]
  · rw [Nat.min_eq_right h, List.drop_length, List.drop_eq_nil_of_le h]
    simp
theorem cut_from (xs : List V) (i : Nat) : cutV xs (some (i : Int)) none = xs.drop i := by
  unfold cutV
  rw [show HT.sIx xs.length 0 (some (i : Int)) = min i xs.length from HT.sIx_nat xs.length 0 i, HT.sIx_none]
  rcases Nat.le_total i xs.length with h | h
  · rw [Nat.min_eq_left h, List.take_of_length_le (by rw [List.length_drop]; omega)]
  · rw [Nat.min_eq_right h, List.drop_length, List.drop_eq_nil_of_le h]
    simp
theorem atI_lastOf {l : List Int} (h : l ≠ []) : atI (l.map V.int) (-1) = some (.int (l.getLast?.getD 0)) := by
  have e : l.map V.int = (l.dropLast.map V.int) ++ [.int (l.getLast h)] := by
    rw [← List.map_singleton, ← List.map_append, List.dropLast_concat_getLast]
  rw [e, atI_last, List.getLast?_eq_some_getLast h]
  rfl
theorem eqv_ints : ∀ xs ys : List Int, PyData.eqvAll (xs.map PyData.int) (ys.map PyData.int) = decide (xs = ys)
  | [], [] => rfl
  | [], _ :: _ => rfl
  | _ :: _, [] => rfl
  | x :: xs, y :: ys => by
    show (PyData.eqv (.int x) (.int y) && PyData.eqvAll (xs.map PyData.int) (ys.map PyData.int)) = _
    rw [eqv_ints xs ys]
    show ((x == y) && decide (xs = ys)) = _
    by_cases a : x = y
    · subst a
      by_cases b : xs = ys
      · subst b; simp
      · simp [b]
    · simp [a]
theorem eqv_dI (xs ys : List Int) : PyData.eqv (dI xs) (dI ys) = decide (xs = ys) := by
  unfold dI
  rw [PyData.eqv]
  exact eqv_ints xs ys
/-- rows of a name and the names at which it can hang -/
abbrev RowP := Addr × Int × Addr × List Int
def LR (K : PySem.W.Frag) (H : Hp) (a : Addr) (rs : List RowP) : Prop := SqL K H a (rs.map fun r => V.ref r.1) ∧ ∀ r ∈ rs, SqT K H r.1 [.int r.2.1, .ref r.2.2.1] ∧ LI K H r.2.2.1 r.2.2.2
theorem LR.ex {K : PySem.W.Frag} {H H' : Hp} {a : Addr} {rs : List RowP} (h : LR K H a rs) (e : Ex H H') : LR K H' a rs := ⟨ex_l e h.1, fun p hp => ⟨ex_t e (h.2 p hp).1, ex_l e (h.2 p hp).2⟩⟩
abbrev rowM (r : RowP) : Int × List Int := (r.2.1, r.2.2.2)
section
variable {K : PySem.W.Frag} {σ : L2.St} {H H' : Hp} {ta tb te tl : TE} {a : Addr}
theorem rv_eqI {p q : Addr} {xs ys : List Int} (h1 : LI K H p xs) (h2 : LI K H q ys) : RV (rEqD K) (.ref p) (.ref q) H (.bl (decide (xs = ys))) := rv_of fun H1 e Q k =>
  ⟨_, _, dp_I (ex_l e h1), dp_I (ex_l e h2), (flat_I xs).shaped (by omega), (flat_I ys).shaped (by omega), by rw [eqv_dI]; exact k⟩
theorem rv_neI {p q : Addr} {xs ys : List Int} (h1 : LI K H p xs) (h2 : LI K H q ys) : RV (rNeD K) (.ref p) (.ref q) H (.bl (!decide (xs = ys))) := rv_of fun H1 e Q k =>
  ⟨_, _, dp_I (ex_l e h1), dp_I (ex_l e h2), (flat_I xs).shaped (by omega), (flat_I ys).shaped (by omega), by rw [eqv_dI]; exact k⟩
theorem ev_idx {ns : List Int} {n : Int} (h : Ev ta σ H (.ref a)) (hx : LI K H a ns) (h2 : Ev tb σ H (.int n)) (hn : n ∈ ns) : Ev (tBM K "list" (rIndex K) ta (tCons tb tNil)) σ H (.int ((ns.idxOf n : Nat) : Int)) := fun H1 e Q q =>
  h H1 e _ fun H2 e2 => ⟨.inl ⟨rfl, _, ex_l (e.trans e2) hx⟩, h2 H2 (e.trans e2) _ fun H3 e3 => by
    have lt := List.idxOf_lt_length_of_mem hn
    refine ⟨a, ns.map V.int, .int n, ns.idxOf n, .int n, rfl, rfl, ex_l ((e.trans e2).trans e3) hx, rfl, flat_ints ns, ?_, ?_, fun m z' hm hz => ?_, q H3 (e2.trans e3)⟩
    · rw [List.getElem?_map, List.getElem?_eq_getElem lt, List.getElem_idxOf lt]
      rfl
    · show (n == n) = true
      exact beq_self_eq_true n
    · rw [List.getElem?_map, List.getElem?_eq_getElem (by omega)] at hz
      have e1 := Option.some.inj hz
      subst e1
      have := List.not_of_lt_findIdx hm
      exact this⟩
end
section
variable {P : Program} {w : World} {K : PySem.W.Frag} {mg : Str → Option Value} {base : Heap}
def spAllowed (K : PySem.W.Frag) : Sp := fun vs H Q _ => ∃ (a b : Addr) (r left : List Int) (name : Int), vs = [.ref a, .ref b, .int name] ∧ LI K H a r ∧ LI K H b left ∧ r.length ≤ 20 ∧ name ∈ r ∧ name ∈ left ∧ RetL ((allowedM r left name).map V.int) H Q
theorem c_allowed (T : Tx w K mg)  : Callee P w K mg base "allowed" 1 ["ranking", "left", "name"] (spAllowed K) := by
  refine callee_of T.F_allowed T.g_allowed sc_allowed (fun _ _ _ _ _ _ us hl => match us, hl with | [_, _, _], _ => rfl) (fun vs H Q E h => ?_) fun cdv A outer s H vs Q E hr h => ?_
  · obtain ⟨a, b, r, left, name, rfl, ha, hb, few, hn, hl, q⟩ := h
    rfl
  obtain ⟨a, b, r, left, name, rfl, ha, hb, few, hn, hl, q⟩ := h
  refine ⟨_, (pss_cons (ps_setLc (i := 3) (own := [("one", 5)]) rfl sc_allowed.nd rfl rfl (sw_true rfl rfl rfl (by decide +kernel)) (piL K (pv 0)) (blkOk_by (by kernel_rfl)) (fun _ _ _ _ _ => (pg_name (i := 5) sc_allowed.nd rfl (Or.inl rfl))) (fun _ _ _ _ _ => (pts_one (pt_cmpR (inS K) (pv 5) (pv 1) (by rfl)))) (fun _ _ _ _ _ => (pv 5)))
      (pss_cons (ps_set (i := 4) sc_allowed.nd rfl (Or.inl rfl) (bmK K PySem.F.plainAttrs_list PySem.F.slot_list_index PySem.F.type_list_index (mtIdx K) (pv 3) (pa_cons (pv 2) pa_nil)))
      (pss_cons (ps_if (pt_cmpR op_eq (pv 4) pe_int (nomark _)) (pss_one (ps_ret (pe_slice (slL K) (pv 3) (po_some pe_int) (po_some pe_int)))) pss_nil)
      (pss_one (ps_ret (pe_slice (slL K) (pv 3) po_none (po_some (pv 4)))))))), ?_⟩
  refine q_asgL (xs := (restM r left).map V.int) (el_lcM r V.int (fun x => decide (x ∈ left)) V.int (ev_var rfl) ha (by omega) (fun _ => rfl) (fun x hx H1 e1 => et_test (ev_inI (ev_var rfl) (ev_var rfl) (ex_l e1 hb))) fun x hx H1 e1 _ => ev_var rfl) fun p H1 n1 e1 h1 => ?_
  have hm : name ∈ restM r left := List.mem_filter.mpr ⟨hn, decide_eq_true hl⟩
  have hrl : (restM r left).length ≤ 20 := Nat.le_trans (List.length_filter_le _ _) few
  refine q_asg (ev_idx (ev_var rfl) (sq_of h1) (ev_var rfl) hm) fun H2 e2 => ?_
  have h2 := e2 _ _ h1
  refine q_when (b := decide ((restM r left).idxOf name = 0)) (et_test (ev_is (ev_op (ev_var rfl) ev_c (rv_eq rfl)) ?_)) (fun c H3 e3 => ?_) fun c H3 e3 => ?_
  · congr 1
    rw [decide_eq_decide]
    constructor
    · intro h
      injection h with h
      omega
    · intro h
      rw [h]
      rfl
  · have c := of_decide_eq_true c
    refine s_retL (el_sl (lo := some ((1 : Nat) : Int)) (hi := some ((2 : Nat) : Int)) (ev_var rfl) (eo_some ev_c) (eo_some ev_c) (sq_of (e3 _ _ h2))) fun p2 H4 n4 e4 h4 => ?_
    rw [cut_nat, ← List.map_drop, ← List.map_take] at h4
    have : allowedM r left name = ((restM r left).drop 1).take 1 := if_pos c
    rw [this] at q
    exact q.go ((e1.trans e2).trans e3) n4 e4 h4
  · have c := of_decide_eq_false c
    refine s_retL (el_sl (lo := none) (hi := some (((restM r left).idxOf name : Nat) : Int)) (ev_var rfl) eo_none (eo_some (ev_var rfl)) (sq_of (e3 _ _ h2))) fun p2 H4 n4 e4 h4 => ?_
    rw [take_cut, ← List.map_take] at h4
    have : allowedM r left name = (restM r left).take ((restM r left).idxOf name) := if_neg c
    rw [this] at q
    exact q.go ((e1.trans e2).trans e3) n4 e4 h4
def spHangs (K : PySem.W.Frag) : Sp := fun vs H Q _ => ∃ (a b : Addr) (ps : List (Addr × List Int)) (left : List Int) (name : Int), vs = [.ref a, .ref b, .int name] ∧ LL K H a ps ∧ LI K H b left ∧ left.length ≤ 20 ∧ name ∈ left ∧ (∀ p ∈ ps, name ∈ p.2 ∧ p.2.length ≤ 20) ∧
  RetL ((hangsM (ps.map (·.2)) left name).map V.int) H Q
theorem c_hangs_at (T : Tx w K mg) (C_allowed : Callee P w K mg base "allowed" 1 ["ranking", "left", "name"] (spAllowed K)) : Callee P w K mg base "hangs_at" 2 ["folk", "left", "name"] (spHangs K) := by
  refine callee_of T.F_hangs_at T.g_hangs_at sc_hangs_at (fun _ _ _ _ _ _ us hl => match us, hl with | [_, _, _], _ => rfl) (fun vs H Q E h => ?_) fun cdv A outer s H vs Q E hr h => ?_
  · obtain ⟨a, b, ps, left, name, rfl, ha, hb, few, hn, hp, q⟩ := h
    rfl
  obtain ⟨a, b, ps, left, name, rfl, ha, hb, few, hn, hp, q⟩ := h
  refine ⟨_, (pss_cons (ps_setLc (i := 3) (own := [("other", 6)]) rfl sc_hangs_at.nd rfl rfl (sw_true rfl rfl rfl (by decide +kernel)) (piL K (pv 1)) (blkOk_by (by kernel_rfl)) (fun _ _ _ _ _ => (pg_name (i := 6) sc_hangs_at.nd rfl (Or.inl rfl))) (fun _ _ _ _ _ => (pts_one (pt_cmpR op_ne (pv 6) (pv 2) (nomark _)))) (fun _ _ _ _ _ => (pv 6)))
      (pss_cons (ps_for PassesOwn.never rfl (piL K (pv 0)) (pg_name (i := 4) sc_hangs_at.nd rfl (Or.inl rfl)) (pss_cons (ps_set (i := 5) sc_hangs_at.nd rfl (Or.inr rfl) (pe_callC C_allowed hr (by decide) (by rfl) (pa_cons (pv 4) (pa_cons (pv 1) (pa_cons (pv 2) pa_nil)))))
      (pss_one (ps_setLc (i := 3) (own := [("other", 6)]) rfl sc_hangs_at.nd rfl rfl (sw_true rfl rfl rfl (by decide +kernel)) (piL K (pv 3)) (blkOk_by (by kernel_rfl)) (fun _ _ _ _ _ => (pg_name (i := 6) sc_hangs_at.nd rfl (Or.inl rfl))) (fun _ _ _ _ _ => (pts_one (pt_cmpR (inS K) (pv 6) (pv 5) (by rfl)))) (fun _ _ _ _ _ => (pv 6))))))
      (pss_one (ps_ret (pv 3))))), ?_⟩
  refine q_asgL (xs := (left.filter fun x => !decide (x = name)).map V.int) (el_lcM left V.int (fun x => !decide (x = name)) V.int (ev_var rfl) hb (by omega) (fun _ => rfl) (fun x hx H1 e1 => et_test (ev_is (ev_op (ev_var rfl) (ev_var rfl) (rv_ne rfl)) ?_)) fun x hx H1 e1 _ => ev_var rfl) fun p H1 n1 e1 h1 => ?_
  · congr 2
    rw [decide_eq_decide]
    exact ⟨fun h => by injection h, fun h => by rw [h]⟩
  have bound : ∀ (l : List (List Int)) (f : List Int), f.length ≤ 20 → (l.foldl (fun f r => f.filter fun x => decide (x ∈ allowedM r left name)) f).length ≤ 20 := by
    intro l
    induction l with
    | nil => exact fun _ h => h
    | cons r l ih => exact fun f h => ih _ (Nat.le_trans (List.length_filter_le _ _) h)
  refine qo_M ps (fun p => V.ref p.1) (ev_var rfl) (ha.ex e1).1 (fun pre σ' H' => ∃ (r : Addr) (y4 y5 y6 : Option V), σ' = [some (.ref a), some (.ref b), some (.int name), some (.ref r), y4, y5, y6] ∧ Ex H H' ∧ H r = none ∧ H' r = some (.lst ((hangsM (pre.map (·.2)) left name).map V.int)))
    (fun H2 e2 => ⟨p, none, none, none, rfl, e1.trans e2, n1, e2 _ _ h1⟩) ?_ ?_
  · rintro pre z post σ' H' eq e ⟨r, y4, y5, y6, rfl, e0, nr, hr⟩
    have mz : z ∈ ps := by rw [eq]; exact List.mem_append_right _ List.mem_cons_self
    have step : hangsM ((pre ++ [z]).map (·.2)) left name = (hangsM (pre.map (·.2)) left name).filter fun x => decide (x ∈ allowedM z.2 left name) := by
      unfold hangsM
      rw [List.map_append, List.foldl_append]
      rfl
    have len : (hangsM (pre.map (·.2)) left name).length ≤ 20 := bound _ _ (Nat.le_trans (List.length_filter_le _ _) few)
    refine q_asgL (xs := (allowedM z.2 left name).map V.int) (el_callL (ea_three (ev_var rfl) (ev_var rfl) (ev_var rfl)) fun H2 e2 Q q => ⟨z.1, b, z.2, left, name, rfl, ex_l (e0.trans e2) (ha.2 z mz), ex_l (e0.trans e2) hb, (hp z mz).2, (hp z mz).1, hn, q⟩) fun s H2 n2 e2 h2 => ?_
    refine s_asgL (xs := (hangsM ((pre ++ [z]).map (·.2)) left name).map V.int) (el_is (el_lcM (hangsM (pre.map (·.2)) left name) V.int (fun x => decide (x ∈ allowedM z.2 left name)) V.int (ev_var rfl) (sq_of (e2 _ _ hr)) (by omega) (fun _ => rfl)
      (fun x hx H3 e3 => et_test (ev_inI (ev_var rfl) (ev_var rfl) (sq_of (e3 _ _ h2)))) fun x hx H3 e3 _ => ev_var rfl) (by rw [step])) fun p3 H3 n3 e3 h3 => ?_
    exact ⟨(e.trans e2).trans e3, p3, _, _, _, rfl, (e0.trans e2).trans e3, fresh_back (e0.trans e2) n3, h3⟩
  · rintro σ' H' e ⟨r, y4, y5, y6, rfl, e0, nr, hr⟩
    exact s_ret (ev_var rfl) fun H2 e2 => q r H2 nr (e0.trans e2) (e2 _ _ hr)
/-! ### lasts -/
def spLasts (K : PySem.W.Frag) : Sp := fun vs H Q _ => ∃ (a b : Addr) (ps : List (Addr × List Int)) (left : List Int), vs = [.ref a, .ref b] ∧ LL K H a ps ∧ LI K H b left ∧ ps.length ≤ 20 ∧ (∀ p ∈ ps, restM p.2 left ≠ [] ∧ p.2.length ≤ 20) ∧ RetL ((lastsM (ps.map (·.2)) left).map V.int) H Q
theorem c_lasts (T : Tx w K mg)  : Callee P w K mg base "lasts" 1 ["folk", "left"] (spLasts K) := by
  refine callee_of T.F_lasts T.g_lasts sc_lasts (fun _ _ _ _ _ _ us hl => match us, hl with | [_, _], _ => rfl) (fun vs H Q E h => ?_) fun cdv A outer s H vs Q E hr h => ?_
  · obtain ⟨a, b, ps, left, rfl, ha, hb, few, hp, q⟩ := h
    rfl
  obtain ⟨a, b, ps, left, rfl, ha, hb, few, hp, q⟩ := h
  refine ⟨_, (pss_one (ps_ret (pe_callB (srtSI w) (by rfl) T.b_sorted (by decide +kernel) (pa_cons (pe_callTy (setOI K w) (by rfl) T.b_set (by decide +kernel) (pa_cons (pe_lc (own := [("ranking", 2)]) rfl sc_lasts.nd (piL K (pv 0)) (blkOk_by (by kernel_rfl)) (fun _ _ _ _ _ => (pg_name (i := 2) sc_lasts.nd rfl (Or.inl rfl))) (fun _ _ _ _ _ => pts_nil) (fun _ _ _ _ _ => (pe_ix (ixL K) (pe_lc (own := [("name", 3)]) rfl sc_lasts.nd (piL K (pv 2)) (blkOk_by (by kernel_rfl)) (fun _ _ _ _ _ => (pg_name (i := 3) sc_lasts.nd rfl (Or.inl rfl))) (fun _ _ _ _ _ => (pts_one (pt_cmpR (inS K) (pv 3) (pv 1) (by rfl)))) (fun _ _ _ _ _ => (pv 3))) (pe_un un_neg pe_int) (fun _ _ => rfl)))) pa_nil)) pa_nil)))), ?_⟩
  refine inRet (inCB (inCons (inCB (inCons (goL (el_lcM ps (fun p => V.ref p.1) (fun _ => true) (fun p => V.int (lastM left p.2)) (ev_var rfl) ha.1 (by omega) (fun _ => rfl) (fun _ _ _ _ => et_none rfl) fun z hz H1 e1 _ =>
    ev_ixLN (el_lcM z.2 V.int (fun x => decide (x ∈ left)) V.int (ev_var rfl) (ex_l e1 (ha.2 z hz)) (by have := (hp z hz).2; omega) (fun _ => rfl) (fun x hx H2 e2 => et_test (ev_inI (ev_var rfl) (ev_var rfl) (ex_l (e1.trans e2) hb))) fun x hx H2 e2 _ => ev_var rfl)
      (fun H2 e2 => ev_un ev_c ru_neg) (atI_lastOf (hp z hz).1)) fun l H1 n1 e1 h1 => ?_)))))
  rw [filter_all] at h1
  refine ⟨l, ps.map fun p => lastM left p.2, rfl, sq_of (by rw [List.map_map]; exact h1), by rw [List.length_map]; omega, fun t c nt hc => ?_⟩
  rw [List.length_map] at hc
  refine ⟨t, _, c, rfl, upd_same, by omega, fun ns p up mem len np => ?_⟩
  have e2 : ns = lastsM (ps.map (·.2)) left := by
    refine up_one up (up_upM _) fun x => ?_
    rw [mem x, decide_eq_true_eq]
    unfold lastsM
    rw [mem_upM, List.map_map]
    rfl
  subst e2
  exact q p _ (fresh_back e1 (fresh_back (Ex.new nt) np)) ((e1.trans (Ex.new nt)).trans (Ex.new np)) upd_same
/-! ### taken_out -/
def spTaken (K : PySem.W.Frag) : Sp := fun vs H Q _ => ∃ (a : Addr) (ps : List (Addr × List Int)) (names : List Int), vs = [.ref a] ∧ LL K H a ps ∧ Fk names ps ∧
  ∀ (rs : List RowP) (p : Addr) H', H p = none → Ex H H' → H' p = some (.lst (rs.map fun r => V.ref r.1)) → LR K H' p rs → rs.map rowM = takenM (ps.map (·.2)) names.length names → Q (.ref p) H'
theorem c_taken_out (T : Tx w K mg) (C_lasts : Callee P w K mg base "lasts" 1 ["folk", "left"] (spLasts K)) (C_hangs_at : Callee P w K mg base "hangs_at" 2 ["folk", "left", "name"] (spHangs K)) : Callee P w K mg base "taken_out" 3 ["folk"] (spTaken K) := by
  refine callee_of T.F_taken_out T.g_taken_out sc_taken_out (fun _ _ _ _ _ _ us hl => match us, hl with | [_], _ => rfl) (fun vs H Q E h => ?_) fun cdv A outer s H vs Q E hr h => ?_
  · obtain ⟨a, ps, names, rfl, ha, F, q⟩ := h
    rfl
  obtain ⟨a, ps, names, rfl, ha, F, q⟩ := h
  refine ⟨_, (pss_cons (ps_set (i := 1) sc_taken_out.nd rfl (Or.inl rfl) (pe_callB (srtI K) (by rfl) T.b_sorted (by decide +kernel) (pa_cons (pe_ix (ixL K) (pv 0) pe_int (fun _ _ => rfl)) pa_nil)))
      (pss_cons (ps_set (i := 2) sc_taken_out.nd rfl (Or.inl rfl) (pe_lst pa_nil))
      (pss_cons (ps_while PassesOwn.never (pt_cmpR op_gt (pe_callB (lenS K) (by rfl) T.b_len (by decide +kernel) (pa_cons (pv 1) pa_nil)) pe_int (nomark _)) (pss_cons (ps_set (i := 3) sc_taken_out.nd rfl (Or.inr rfl) (pe_ix (ixL K) (pe_callC C_lasts hr (by decide) (by rfl) (pa_cons (pv 0) (pa_cons (pv 1) pa_nil))) pe_int (fun _ _ => rfl)))
      (pss_cons (ps_set (i := 4) sc_taken_out.nd rfl (Or.inl rfl) (pe_callC C_hangs_at hr (by decide) (by rfl) (pa_cons (pv 0) (pa_cons (pv 1) (pa_cons (pv 3) pa_nil)))))
      (pss_cons (ps_expr (bmK K PySem.F.plainAttrs_list PySem.F.slot_list_append PySem.F.type_list_append mt_append (pv 2) (pa_cons (pe_tup (pa_cons (pv 3) (pa_cons (pv 4) pa_nil))) pa_nil)))
      (pss_cons (ps_if (pt_cmpR (eqD K hr.units) (pv 4) (pe_lst pa_nil) (nomark _)) (pss_one (ps_ret (pv 2))) pss_nil)
      (pss_one (ps_setLc (i := 1) (own := [("one", 5)]) rfl sc_taken_out.nd rfl rfl (sw_true rfl rfl rfl (by decide +kernel)) (piL K (pv 1)) (blkOk_by (by kernel_rfl)) (fun _ _ _ _ _ => (pg_name (i := 5) sc_taken_out.nd rfl (Or.inl rfl))) (fun _ _ _ _ _ => (pts_one (pt_cmpR op_ne (pv 5) (pv 3) (nomark _)))) (fun _ _ _ _ _ => (pv 5)))))))))
      (pss_one (ps_ret (pv 2)))))), ?_⟩
  have f1 := F.least
  have f2 := F.most
  have f3 := F.few
  obtain ⟨p0, hp0⟩ : ∃ p0, ps[0]? = some p0 := ⟨ps[0], List.getElem?_eq_getElem f1⟩
  have m0 : p0 ∈ ps := List.mem_of_getElem? hp0
  refine q_asgL (el_sortedN (ev_ixL (ev_var rfl) ev_c ha.1 (at0 (fun p : Addr × List Int => V.ref p.1) hp0)) (ha.2 p0 m0) (F.perm p0 m0) F.up (by omega)) fun l0 H1 n1 e1 h1 => ?_
  refine q_asgL (xs := []) (el_lst ea_nil (by show 0 ≤ 100000; omega)) fun f0 H2 n2 e2 h2 => ?_
  have hnames : names ≠ [] := List.length_pos_iff.mp F.some
  refine q_while (fun m σ' H' => ∃ (lq fq : Addr) (left : List Int) (rs : List RowP) (n : Nat) (y3 y4 y5 y6 : Option V), σ' = [some (.ref a), some (.ref lq), some (.ref fq), y3, y4, y5] ∧ Ex H H' ∧ H lq = none ∧ H' lq = some (.lst (left.map V.int)) ∧ H fq = none ∧
      H' fq = some (.lst (rs.map fun r => V.ref r.1)) ∧ (∀ r ∈ rs, SqT K H' r.1 [.int r.2.1, .ref r.2.2.1] ∧ LI K H' r.2.2.1 r.2.2.2 ∧ r.1 ≠ fq ∧ r.2.2.1 ≠ fq) ∧ lq ≠ fq ∧ rs.length + left.length ≤ 20 ∧
      rs.map rowM ++ takenM (ps.map (·.2)) n left = takenM (ps.map (·.2)) names.length names ∧ left.length ≤ n ∧ (∀ x ∈ left, x ∈ names) ∧ left.Nodup ∧ left ≠ [] ∧ m = left.length) names.length
    ⟨l0, f0, names, [], names.length, none, none, none, none, rfl, e1.trans e2, n1, e2 _ _ h1, fresh_back e1 n2, h2, (fun _ h => nomatch h), ne_of_none h1 n2, by rw [List.length_nil]; omega, rfl, Nat.le_refl _, fun _ h => h, up_nd F.up, hnames, rfl⟩ ?_
  rintro m σ' H' ⟨lq, fq, left, rs, n, y3, y4, y5, y6, rfl, e, nl, hl, nf, hf, hrs, nlf, few, eqn, hn, sub, nd, ne, rfl⟩
  refine ⟨decide ((1 : Int) < (left.length : Int)), et_test (ev_is (ev_op (ev_len (ev_var rfl) (sq_of hl)) ev_c rv_I0) (by rw [List.length_map])), fun c H3 e3 => ?_, fun c H3 e3 => ?_⟩
  · have c := of_decide_eq_true c
    obtain ⟨n, rfl⟩ : ∃ k, n = k + 1 := ⟨n - 1, by omega⟩
    have step : takenM (ps.map (·.2)) (n + 1) left = (if hangsM (ps.map (·.2)) left ((lastsM (ps.map (·.2)) left).headD 0) = [] then [((lastsM (ps.map (·.2)) left).headD 0, hangsM (ps.map (·.2)) left ((lastsM (ps.map (·.2)) left).headD 0))] else
        ((lastsM (ps.map (·.2)) left).headD 0, hangsM (ps.map (·.2)) left ((lastsM (ps.map (·.2)) left).headD 0)) :: takenM (ps.map (·.2)) n (left.filter fun x => !decide (x = (lastsM (ps.map (·.2)) left).headD 0))) := by
      show (if left.length ≤ 1 then [] else _) = _
      rw [if_neg (by omega)]
    obtain ⟨x0, hx0⟩ : ∃ x, x ∈ left := List.exists_mem_of_ne_nil left ne
    have hrest : ∀ p ∈ ps, restM p.2 left ≠ [] ∧ p.2.length ≤ 20 := fun p hp => by
      refine ⟨fun z => ?_, ?_⟩
      · have : x0 ∈ restM p.2 left := List.mem_filter.mpr ⟨(F.perm p hp).mem_iff.mpr (sub x0 hx0), decide_eq_true hx0⟩
        rw [z] at this
        exact nomatch this
      · rw [(F.perm p hp).length_eq]; omega
    have hlast : ∀ x ∈ lastsM (ps.map (·.2)) left, x ∈ left := fun x hx => by
      unfold lastsM at hx
      rw [mem_upM] at hx
      obtain ⟨r, hr, rfl⟩ := List.mem_map.mp hx
      obtain ⟨p, hp, rfl⟩ := List.mem_map.mp hr
      have hne := (hrest p hp).1
      unfold lastM
      rw [List.getLast?_eq_some_getLast hne]
      exact of_decide_eq_true (List.mem_filter.mp (List.getLast_mem hne)).2
    obtain ⟨name, more, hls⟩ : ∃ name more, lastsM (ps.map (·.2)) left = name :: more := by
      cases hh : lastsM (ps.map (·.2)) left with
      | nil =>
        exfalso
        have : lastM left p0.2 ∈ lastsM (ps.map (·.2)) left := by
          unfold lastsM
          rw [mem_upM]
          exact List.mem_map.mpr ⟨p0.2, List.mem_map.mpr ⟨p0, m0, rfl⟩, rfl⟩
        rw [hh] at this
        exact nomatch this
      | cons name more => exact ⟨name, more, rfl⟩
    rw [hls] at step
    have step : takenM (ps.map (·.2)) (n + 1) left = (if hangsM (ps.map (·.2)) left name = [] then [(name, hangsM (ps.map (·.2)) left name)] else (name, hangsM (ps.map (·.2)) left name) :: takenM (ps.map (·.2)) n (left.filter fun x => !decide (x = name))) := step
    have hnl : name ∈ left := hlast name (by rw [hls]; exact List.mem_cons_self)
    have e03 := e.trans e3
    refine ⟨fun σ2 H2 => ∃ (lq fq : Addr) (left2 : List Int) (rs : List RowP) (y3 y4 y5 : Option V), σ2 = [some (.ref a), some (.ref lq), some (.ref fq), y3, y4, y5] ∧ Ex H H2 ∧ H lq = none ∧ H2 lq = some (.lst (left2.map V.int)) ∧ H fq = none ∧
      H2 fq = some (.lst (rs.map fun r => V.ref r.1)) ∧ (∀ r ∈ rs, SqT K H2 r.1 [.int r.2.1, .ref r.2.2.1] ∧ LI K H2 r.2.2.1 r.2.2.2 ∧ r.1 ≠ fq ∧ r.2.2.1 ≠ fq) ∧ lq ≠ fq ∧ rs.length + left2.length ≤ 20 ∧
      rs.map rowM ++ takenM (ps.map (·.2)) n left2 = takenM (ps.map (·.2)) names.length names ∧ left2.length ≤ n ∧ (∀ x ∈ left2, x ∈ names) ∧ left2.Nodup ∧ left2 ≠ [] ∧ left2.length < left.length, fun σ2 H2 ⟨lq, fq, left2, rs, y3, y4, y5, h1, h2, h3, h4, h5, h6, h7, h0, h8, h9, h10, h11, h12, h13, h14⟩ =>
        ⟨left2.length, h14, lq, fq, left2, rs, n, y3, y4, y5, none, h1, h2, h3, h4, h5, h6, h7, h0, h8, h9, h10, h11, h12, h13, rfl⟩, ?_⟩
    refine q_asg (v := .int name) (ev_ixLN (el_callL (ea_two (ev_var rfl) (ev_var rfl)) fun H4 e4 Q q => ⟨a, lq, ps, left, rfl, ha.ex (e03.trans e4), sq_of (e4 _ _ (e3 _ _ hl)), f2, hrest, q⟩) (fun _ _ => ev_c) (by rw [hls]; exact atI_nat (j := 0) rfl)) fun H4 e4 => ?_
    refine q_asgL (xs := (hangsM (ps.map (·.2)) left name).map V.int) (el_callL (ea_three (ev_var rfl) (ev_var rfl) (ev_var rfl)) fun H5 e5 Q q => ⟨a, lq, ps, left, name, rfl, ha.ex ((e03.trans e4).trans e5), sq_of (e5 _ _ (e4 _ _ (e3 _ _ hl))), by omega, hnl,
      fun p hp => ⟨(F.perm p hp).mem_iff.mpr (sub name hnl), (hrest p hp).2⟩, fun p H2 h1 h2 h3 => q p H2 h1 h2 h3⟩) fun so H5 n5 e5 h5 => ?_
    have e05 := (e03.trans e4).trans e5
    have hf5 := e5 _ _ (e4 _ _ (e3 _ _ hf))
    have hl5 := e5 _ _ (e4 _ _ (e3 _ _ hl))
    refine q_appU hf5 (ev_var rfl) (eu_tup (ea_two (ev_var rfl) (ev_var rfl)) (by show 2 ≤ 100000; omega)) (by rw [List.length_map]; omega) fun tp H6 n6 e6 h6 => ?_
    have hf6 := e6 _ _ hf5
    have hl6 := e6 _ _ hl5
    have e06 := e05.trans e6
    have tf : tp ≠ fq := fun z => by
      rw [z, hf5] at n6
      cases n6
    have sf : so ≠ fq := fun z => by
      rw [z, e4 _ _ (e3 _ _ hf)] at n5
      cases n5
    have e36 := ((e3.trans e4).trans e5).trans e6
    -- the heap behind the append
    generalize hH7 : upd H6 fq (.lst ((rs.map fun r => V.ref r.1) ++ [.ref tp])) = H7
    have e07 : Ex H H7 := by
      rw [← hH7]
      exact Ex.mut e06 nf
    have hf7 : H7 fq = some (.lst (((rs ++ [(tp, name, so, hangsM (ps.map (·.2)) left name)] : List RowP)).map fun r => V.ref r.1)) := by
      rw [← hH7, upd_same, List.map_append]
      rfl
    have keep : ∀ b o, b ≠ fq → H6 b = some o → H7 b = some o := fun b o hb h => by
      rw [← hH7, upd_ne hb]
      exact h
    have keepL : ∀ b xs, b ≠ fq → SqL K H6 b xs → SqL K H7 b xs := fun b xs hb h => by
      rcases h with (h | ⟨o, h⟩) | h
      · exact .inl (.inl (keep b _ hb h))
      · exact .inl (.inr ⟨o, keep b _ hb h⟩)
      · exact .inr h
    have keepT : ∀ b xs, b ≠ fq → SqT K H6 b xs → SqT K H7 b xs := fun b xs hb h => by
      rcases h with (h | ⟨o, h⟩) | h
      · exact .inl (.inl (keep b _ hb h))
      · exact .inl (.inr ⟨o, keep b _ hb h⟩)
      · exact .inr h
    have rows7 : ∀ r ∈ (rs ++ [(tp, name, so, hangsM (ps.map (·.2)) left name)] : List RowP), SqT K H7 r.1 [.int r.2.1, .ref r.2.2.1] ∧ LI K H7 r.2.2.1 r.2.2.2 ∧ r.1 ≠ fq ∧ r.2.2.1 ≠ fq := fun r hr => by
      rcases List.mem_append.mp hr with hr | hr
      · obtain ⟨a1, a2, a3, a4⟩ := hrs r hr
        exact ⟨keepT _ _ a3 (ex_t e36 a1), keepL _ _ a4 (ex_l e36 a2), a3, a4⟩
      · rw [List.mem_singleton.mp hr]
        exact ⟨st_of (keep _ _ tf h6), sq_of (keep _ _ sf (e6 _ _ h5)), tf, sf⟩
    have hl7 : H7 lq = some (.lst (left.map V.int)) := keep _ _ nlf hl6
    have hs7 : LI K H7 so (hangsM (ps.map (·.2)) left name) := sq_of (keep _ _ sf (e6 _ _ h5))
    generalize hrs7 : (rs ++ [(tp, name, so, hangsM (ps.map (·.2)) left name)] : List RowP) = rs7 at hf7 rows7
    have map7 : rs7.map rowM = rs.map rowM ++ [(name, hangsM (ps.map (·.2)) left name)] := by
      rw [← hrs7, List.map_append]
      rfl
    have len7 : rs7.length = rs.length + 1 := by
      rw [← hrs7, List.length_append]
      rfl
    refine q_when (b := decide (hangsM (ps.map (·.2)) left name = [])) (et_test (ev_opL (ev_var rfl) (el_lst (vs := ([] : List Int).map V.int) ea_nil (by show 0 ≤ 100000; omega)) fun p8 H8 h8 e8 => rv_eqI (ex_l e8 hs7) (sq_of h8))) (fun c2 H8 e8 => ?_) fun c2 H8 e8 => ?_
    · have c2 := of_decide_eq_true c2
      refine s_ret (ev_var rfl) fun H9 e9 => ?_
      have e89 := e8.trans e9
      refine q rs7 fq H9 nf (e07.trans e89) (e89 _ _ hf7) ⟨sq_of (e89 _ _ hf7), fun r hr => ⟨ex_t e89 (rows7 r hr).1, ex_l e89 (rows7 r hr).2.1⟩⟩ ?_
      rw [map7, ← eqn, step, if_pos c2]
    · have c2 := of_decide_eq_false c2
      refine s_asgL (xs := (left.filter fun x => !decide (x = name)).map V.int) (el_lcM left V.int (fun x => !decide (x = name)) V.int (ev_var rfl) (sq_of (e8 _ _ hl7)) (by omega) (fun _ => rfl) (fun x hx H9 e9 => et_test (ev_is (ev_op (ev_var rfl) (ev_var rfl) (rv_ne rfl)) ?_)) fun x hx H9 e9 _ => ev_var rfl) fun l9 H9 n9 e9 h9 => ?_
      · congr 2
        rw [decide_eq_decide]
        exact ⟨fun h => by injection h, fun h => by rw [h]⟩
      have e79 := e8.trans e9
      have lt : (left.filter fun x => !decide (x = name)).length < left.length := by
        refine List.length_filter_lt_length_iff_exists.mpr ⟨name, hnl, ?_⟩
        simp
      refine ⟨l9, fq, left.filter fun x => !decide (x = name), rs7, _, _, _, rfl, e07.trans e79, fresh_back (e07.trans e8) n9, h9, nf, e79 _ _ hf7, fun r hr => ⟨ex_t e79 (rows7 r hr).1, ex_l e79 (rows7 r hr).2.1, (rows7 r hr).2.2⟩, ?_, ?_, ?_, ?_, fun x hx => sub x (List.mem_filter.mp hx).1,
        List.Pairwise.filter _ nd, ?_, lt⟩
      · intro z
        rw [z, e8 _ _ hf7] at n9
        cases n9
      · omega
      · rw [map7, List.append_assoc, ← eqn, step, if_neg c2]
        rfl
      · omega
      · intro z
        -- left has a name beside
        have all : ∀ x ∈ left, x = name := fun x hx => by
          have := List.filter_eq_nil_iff.mp z x hx
          simpa using this
        have := len_le_of_sub left [name] nd fun x hx => List.mem_singleton.mpr (all x hx)
        rw [List.length_singleton] at this
        omega
  · have c := of_decide_eq_false c
    refine s_ret (ev_var rfl) fun H4 e4 => ?_
    have e34 := e3.trans e4
    refine q rs fq H4 nf (e.trans e34) (e34 _ _ hf) ⟨sq_of (e34 _ _ hf), fun r hr => ⟨ex_t e34 (hrs r hr).1, ex_l e34 (hrs r hr).2.1⟩⟩ ?_
    rw [← eqn]
    have z : takenM (ps.map (·.2)) n left = [] := by
      cases n with
      | zero => rfl
      | succ n =>
        show (if left.length ≤ 1 then [] else _) = _
        rw [if_pos (by omega)]
    rw [z, List.append_nil]
end
end Ol
namespace Ol
open PySem PySem.Spec PyProof.Rows L2 Evl
/-! ### rows, as data -/
def dR (rs : List (Int × List Int)) : PyData := .list (rs.map fun r => .tuple [.int r.1, dI r.2])
theorem dp_R {K : PySem.W.Frag} {H : Hp} {a : Addr} {rs : List RowP} (h : LR K H a rs) : Dp K H (.ref a) (dR (rs.map rowM)) := by
  unfold dR
  rw [List.map_map]
  exact .lst h.1 (dpAll_map (fun r : RowP => V.ref r.1) _ rs fun r hr => .tup (h.2 r hr).1 (.cons (.int _) (.cons (dp_I (h.2 r hr).2) .nil)))
theorem flat_R (rs : List (Int × List Int)) : Flat 3 (dR rs) := flat_list fun d hd => by
  obtain ⟨t, _, rfl⟩ := List.mem_map.mp hd
  exact flat_tuple fun d hd => by
    rcases List.mem_cons.mp hd with rfl | hd
    · exact (flat_int _).mono (by omega)
    · rw [List.mem_singleton.mp hd]
      exact flat_I _
/-- all rows but the last can hang somewhere -/
theorem taken_some (folk : List (List Int)) : ∀ (n : Nat) (left : List Int) (pre : List (Int × List Int)) (r : Int × List Int) (post : List (Int × List Int)), takenM folk n left = pre ++ r :: post → post ≠ [] → r.2 ≠ []
  | 0, left, pre, r, post, h, _ => by
    have h : ([] : List (Int × List Int)) = pre ++ r :: post := h
    cases pre <;> cases h
  | n + 1, left, pre, r, post, h, hp => by
    unfold takenM at h
    split at h
    · cases pre <;> cases h
    · simp only at h
      split at h
      · rename_i c
        cases pre with
        | nil =>
          injection h with h1 h2
          exact absurd h2.symm hp
        | cons x pre =>
          injection h with h1 h2
          cases pre <;> cases h2
      · rename_i c
        cases pre with
        | nil =>
          injection h with h1 h2
          rw [← h1]
          exact c
        | cons x pre =>
          injection h with h1 h2
          exact taken_some folk n _ pre r post h2 hp
theorem all_some {rs : List (Int × List Int)} {folk : List (List Int)} {n : Nat} {left : List Int} (h : rs = takenM folk n left) (hl : ∀ r, rs.getLast? = some r → r.2 ≠ []) : ∀ r ∈ rs, r.2 ≠ [] := by
  intro r hr
  obtain ⟨pre, post, e⟩ := List.append_of_mem hr
  cases post with
  | nil => exact hl r (by rw [e, List.getLast?_append]; rfl)
  | cons x post => exact taken_some folk n left pre r (x :: post) (by rw [← h, e]) (List.cons_ne_nil _ _)
theorem list_ends {α : Type} (l : List α) : l = [] ∨ ∃ f x, l = f ++ [x] := by
  rcases List.eq_nil_or_concat l with h | ⟨f, x, h⟩
  · exact .inl h
  · exact .inr ⟨f, x, by rw [h, List.concat_eq_append]⟩
theorem flat_nil : Flat 1 (.list []) := ⟨rfl, by decide +kernel⟩
theorem atI_lastV {α : Type} {l : List α} {r : α} (f : α → V) (h : l.getLast? = some r) : atI (l.map f) (-1) = some (f r) := by
  have hne : l ≠ [] := fun z => by rw [z] at h; cases h
  have e : l.map f = (l.dropLast.map f) ++ [f (l.getLast hne)] := by
    rw [← List.map_singleton, ← List.map_append, List.dropLast_concat_getLast]
  rw [List.getLast?_eq_some_getLast hne] at h
  rw [e, atI_last, Option.some.inj h]
section
variable {P : Program} {w : World} {K : PySem.W.Frag} {mg : Str → Option Value} {base : Heap}
/-! ### tie_of, tree_told -/
def spTieOf : Sp := fun vs H Q _ => ∃ x y : Int, vs = [.int x, .int y] ∧ ∀ p H', H p = none → Ex H H' → H' p = some (.tup [.int (min x y), .int (max x y)]) → Q (.ref p) H'
theorem c_tie_of (T : Tx w K mg)  : Callee P w K mg base "tie_of" 1 ["one", "other"] spTieOf := by
  refine callee_of T.F_tie_of T.g_tie_of sc_tie_of (fun _ _ _ _ _ _ us hl => match us, hl with | [_, _], _ => rfl) (fun vs H Q E h => ?_) fun cdv A outer s H vs Q E hr h => ?_
  · obtain ⟨x, y, rfl, q⟩ := h
    rfl
  obtain ⟨x, y, rfl, q⟩ := h
  refine ⟨_, (pss_one (ps_ret (pe_tup (pa_cons (pe_callB (call_min2 rfl) (by rfl) T.b_min (by decide +kernel) (pa_cons (pv 0) (pa_cons (pv 1) pa_nil))) (pa_cons (pe_callB (call_max2 rfl) (by rfl) T.b_max (by decide +kernel) (pa_cons (pv 0) (pa_cons (pv 1) pa_nil))) pa_nil))))), ?_⟩
  exact s_retU (eu_tup (ea_two (ev_min2 (ev_var rfl) (ev_var rfl)) (ev_maxI (ev_var rfl) (ev_var rfl))) (by show 2 ≤ 100000; omega)) fun p H1 n1 e1 h1 => q p H1 n1 e1 h1
def spTold (K : PySem.W.Frag) : Sp := fun vs H Q _ => ∃ (a : Addr) (ps : List (Addr × List Int)) (names : List Int), vs = [.ref a] ∧ LL K H a ps ∧ Fk names ps ∧ Told H Q
theorem c_tree_told (T : Tx w K mg) (C_must_be_folk : Callee P w K mg base "must_be_folk" 5 ["folk"] (spFk K .non)) (C_taken_out : Callee P w K mg base "taken_out" 3 ["folk"] (spTaken K)) (C_tie_of : Callee P w K mg base "tie_of" 1 ["one", "other"] spTieOf) : Callee P w K mg base "tree_told" 6 ["folk"] (spTold K) := by
  refine callee_of T.F_tree_told T.g_tree_told sc_tree_told (fun _ _ _ _ _ _ us hl => match us, hl with | [_], _ => rfl) (fun vs H Q E h => ?_) fun cdv A outer s H vs Q E hr h => ?_
  · obtain ⟨a, ps, names, rfl, ha, F, q⟩ := h
    rfl
  obtain ⟨a, ps, names, rfl, ha, F, q⟩ := h
  refine ⟨_, (pss_cons (ps_expr (pe_callC C_must_be_folk hr (by decide) (by rfl) (pa_cons (pv 0) pa_nil)))
      (pss_cons (ps_set (i := 1) sc_tree_told.nd rfl (Or.inl rfl) (pe_callC C_taken_out hr (by decide) (by rfl) (pa_cons (pv 0) pa_nil)))
      (pss_cons (ps_if (PW.pt (pw_and (pt_cmpR (neD K hr.units) (pv 1) (pe_lst pa_nil) (nomark _)) (pw_and1 (pt_cmpR (eqD K hr.units) (pe_ix (ixT K) (pe_ix (ixL K) (pv 1) (pe_un un_neg pe_int) (fun _ _ => rfl)) pe_int (fun _ _ => rfl)) (pe_lst pa_nil) (nomark _))))) (pss_one (ps_ret (pe_tup (pa_cons pe_str (pa_cons (pe_lc (own := [("name", 2), ("some", 3)]) rfl sc_tree_told.nd (piL K (pv 1)) (blkOk_by (by kernel_rfl)) (fun _ _ _ _ _ => (tupG K (n := 2) (pgs_cons (pg_name (i := 2) sc_tree_told.nd rfl (Or.inl rfl)) (pgs_cons (pg_name (i := 3) sc_tree_told.nd rfl (Or.inl rfl)) pgs_nil)))) (fun _ _ _ _ _ => pts_nil) (fun _ _ _ _ _ => (pv 2))) pa_nil))))) pss_nil)
      (pss_one (ps_ret (pe_tup (pa_cons pe_str (pa_cons (pe_callB (srtQ K) (by rfl) T.b_sorted (by decide +kernel) (pa_cons (pe_lc (own := [("name", 2), ("some", 3)]) rfl sc_tree_told.nd (piL K (pv 1)) (blkOk_by (by kernel_rfl)) (fun _ _ _ _ _ => (tupG K (n := 2) (pgs_cons (pg_name (i := 2) sc_tree_told.nd rfl (Or.inl rfl)) (pgs_cons (pg_name (i := 3) sc_tree_told.nd rfl (Or.inl rfl)) pgs_nil)))) (fun _ _ _ _ _ => pts_nil) (fun _ _ _ _ _ => (pe_callC C_tie_of hr (by decide) (by rfl) (pa_cons (pv 2) (pa_cons (pe_ix (ixL K) (pv 3) pe_int (fun _ _ => rfl)) pa_nil))))) pa_nil)) pa_nil)))))))), ?_⟩
  have f3 := F.few
  refine q_drop (ev_callV (v := .non) (ea_one (ev_var rfl)) fun H1 e1 Q q => ⟨a, ps, names, rfl, ha.ex e1, F, q⟩) fun H1 e1 => ?_
  refine inSeq (inSet (inCall (goA (ea_one (ev_var rfl)) fun H2 e2 => ⟨a, ps, names, rfl, ha.ex (e1.trans e2), F, fun rs rq H3 nrq e3 hq hrs eq => ?_⟩)))
  have e03 := (e1.trans e2).trans e3
  have many10 : rs.length ≤ 10 := by
    have hl : ∀ (n : Nat) (left : List Int), (takenM (ps.map (·.2)) n left).length ≤ n := by
      intro n
      induction n with
      | zero => exact fun _ => Nat.le_refl _
      | succ n ih =>
        intro left
        unfold takenM
        split
        · exact Nat.zero_le _
        · simp only
          split
          · show 1 ≤ n + 1
            omega
          · have := ih (left.filter fun x => !decide (x = (lastsM (ps.map (·.2)) left).headD 0))
            rw [List.length_cons]
            omega
    have := hl names.length names
    rw [← eq, List.length_map] at this
    omega
  have many : rs.length ≤ 40000 := by omega
  -- the rows' names and lists, as the target takes them
  have tgt : ∀ (y4 y5 : Nat) (σ : L2.St), ∀ z ∈ rs, ∀ H1, Ex H3 H1 → ∀ Q : L2.St → Hp → Prop, Q ((σ.set y4 (some (.int z.2.1))).set y5 (some (.ref z.2.2.1))) H1 → gTup K 2 (gCons (gName y4) (gCons (gName y5) gNil)) (.ref z.1) σ H1 Q :=
    fun y4 y5 σ z hz H1 e Q k => g_pair (ex_t e (hrs.2 z hz).1) k
  rcases list_ends rs with hnil | ⟨front, last, hcc⟩
  · -- no rows
    subst hnil
    refine q_when (b := false) (et_and (a := false) (b := false) (et_test (ev_opL (ev_var rfl) (el_lst ea_nil (by show 0 ≤ 100000; omega)) fun p4 H4 h4 e4 => rv_notsame (d := .list []) (Dp.lst (ex_l e4 hrs.1) .nil) (Dp.lst (sq_of h4) .nil) flat_nil (by omega))) fun z => nomatch z) (fun z => nomatch z) fun _ H4 e4 => ?_
    refine inRet (inTup (inCons (go ev_c fun H5 e5 => inCons (inCB (inCons (lc_N (K := K) ([] : List RowP) (fun r => V.ref r.1) _ (fun _ => true) (fun D z v H => False) (fun _ _ _ _ _ _ h => h) (ev_var rfl) (ex_l (e4.trans e5) hrs.1) many (fun z hz H1 e1 Q k => tgt 2 3 _ z hz H1 ((e4.trans e5).trans e1) Q k) (fun _ _ => rfl)
      (fun _ _ _ _ => et_none rfl) (fun D _ z hz => nomatch hz) fun p ys H6 n6 e6 h6 pr => ?_))))))
    cases pr
    refine ⟨p, [], rfl, sq_of h6, (fun _ h => nomatch h), fun ys' r pm nr => ?_⟩
    have e : ys' = [] := List.Perm.eq_nil pm
    subst e
    refine ⟨by show 2 ≤ sizeLine; decide, fun tp nt => ?_⟩
    have er : Ex H6 (upd H6 r (.lst [])) := Ex.new nr
    have et := er.trans (Ex.new (o := .tup [.str "tree", .ref r]) nt)
    have e06 := ((e03.trans e4).trans e5).trans e6
    have hr : (upd (upd H6 r (.lst [])) tp (.tup [.str "tree", .ref r])) r = some (.lst []) := Ex.new nt _ _ upd_same
    exact q (.ref tp) (.tuple [.str "tree", .list []]) [r] _ ((e06.trans er).trans (Ex.new nt)) (.tup upd_same (.cons (S := []) (.str _) (.cons (S := [r]) (S' := []) (.lst hr .nil) .nil))) (List.nodup_cons.mpr ⟨List.not_mem_nil, List.nodup_nil⟩)
      (fun b hb => by rw [List.mem_singleton.mp hb]; exact fresh_back e06 nr) ⟨by decide +kernel, by decide +kernel⟩ (by rfl)
  · have hlast : rs.getLast? = some last := by rw [hcc, List.getLast?_concat]
    have ml : last ∈ rs := by rw [hcc]; simp
    have hne : rs ≠ [] := fun z => by rw [z] at hlast; cases hlast
    refine q_when (b := true && decide (last.2.2.2 = [])) (et_and (a := true) (et_test (ev_opL (ev_var rfl) (el_lst ea_nil (by show 0 ≤ 100000; omega)) fun p4 H4 h4 e4 => rv_of fun H5 e5 Q k =>
      ⟨_, .list [], dp_R (hrs.ex (e4.trans e5)), Dp.lst (sq_of (e5 _ _ h4)) .nil, (flat_R _).shaped (by omega), flat_nil.shaped (by omega), by
        have : PyData.eqv (dR (rs.map rowM)) (.list []) = false := by
          unfold dR
          rw [PyData.eqv]
          cases rs with
          | nil => exact absurd rfl hne
          | cons r rs => rfl
        rw [this]
        exact k⟩)) fun _ => et_test (ev_opL (ev_ixT (ev_ixL (ev_var rfl) (ev_un ev_c ru_neg) hrs.1 (atI_lastV (fun r : RowP => V.ref r.1) hlast)) ev_c (hrs.2 last ml).1 (atI_nat (j := 1) rfl)) (el_lst (vs := ([] : List Int).map V.int) ea_nil (by show 0 ≤ 100000; omega)) fun p4 H4 h4 e4 =>
          rv_eqI (ex_l e4 (hrs.2 last ml).2) (sq_of h4))) (fun c H4 e4 => ?_) fun c H4 e4 => ?_
    · -- gone
      refine inRet (inTup (inCons (go ev_c fun H5 e5 => inCons (goL (el_lcG rs (fun r => V.ref r.1) _ (fun _ => true) (fun r => V.int r.2.1) (ev_var rfl) (ex_l (e4.trans e5) hrs.1) many (fun z hz H1 e1 Q k => tgt 2 3 _ z hz H1 ((e4.trans e5).trans e1) Q k) (fun _ _ => rfl)
        (fun _ _ _ _ => et_none rfl) fun z hz H1 e1 _ => ev_var rfl) fun p H6 n6 e6 h6 => ⟨by show 2 ≤ sizeLine; decide, fun tp nt => ?_⟩))))
      rw [filter_all] at h6
      have e06 := (((e1.trans e2).trans e3).trans e4).trans e5
      have hp : (upd H6 tp (.tup [.str "gone", .ref p])) p = some (.lst ((rs.map (·.2.1)).map V.int)) := by
        refine Ex.new nt _ _ ?_
        rw [List.map_map]
        exact h6
      exact q (.ref tp) (.tuple [.str "gone", dI (rs.map (·.2.1))]) [p] _ ((e06.trans e6).trans (Ex.new nt)) (.tup upd_same (.cons (S := []) (.str _) (.cons (S := [p]) (S' := []) (own_I hp) .nil))) (List.nodup_cons.mpr ⟨List.not_mem_nil, List.nodup_nil⟩)
        (fun b hb => by rw [List.mem_singleton.mp hb]; exact fresh_back e06 n6) (flat_tuple (n := 3) fun d hd => by
          rcases List.mem_cons.mp hd with rfl | hd
          · exact (flat_str (by decide +kernel)).mono (by omega)
          · rw [List.mem_singleton.mp hd]
            exact (flat_I _).mono (by omega)) (tidy_tup (by show 2 ≤ 1000; omega) fun d hd => by
          rcases List.mem_cons.mp hd with rfl | hd
          · rfl
          · rw [List.mem_singleton.mp hd]
            exact tidy_I _ (by rw [List.length_map]; omega))
    · -- tree: all rows can hang somewhere
      have c := of_decide_eq_false (show decide (last.2.2.2 = []) = false from c)
      have some_ : ∀ r ∈ rs, r.2.2.2 ≠ [] := fun r hr => by
        refine all_some eq (fun z hz => ?_) (rowM r) (List.mem_map.mpr ⟨r, hr, rfl⟩)
        rw [List.getLast?_map, hlast] at hz
        have := Option.some.inj hz
        rw [← this]
        exact c
      refine inRet (inTup (inCons (go ev_c fun H5 e5 => inCons (inCB (inCons (lc_N (K := K) rs (fun r => V.ref r.1) _ (fun _ => true) (fun D z v H => v ≠ .ref D ∧ ∃ t i j, v = .ref t ∧ H t = some (.tup [.int i, .int j]))
        (fun D z v H H' b ⟨h1, t, i, j, h2, h3⟩ => ⟨h1, t, i, j, h2, b t _ (fun k => h1 (by rw [h2, k])) h3⟩) (ev_var rfl) (ex_l (e4.trans e5) hrs.1) many (fun z hz H1 e1 Q k => tgt 2 3 _ z hz H1 ((e4.trans e5).trans e1) Q k) (fun _ _ => rfl)
        (fun _ _ _ _ => et_none rfl) (fun D nD z hz H6 e6 tD _ => ?_) fun p ys H6 n6 e6 h6 pr => ?_))))))
      · obtain ⟨x, more, hx⟩ : ∃ x more, z.2.2.2 = x :: more := by
          cases hh : z.2.2.2 with
          | nil => exact absurd hh (some_ z hz)
          | cons x more => exact ⟨x, more, rfl⟩
        have hz2 := ex_l ((e4.trans e5).trans e6) (hrs.2 z hz).2
        rw [hx] at hz2
        refine fun H7 e7 Q k => inCall (goA (ea_two (ev_var rfl) (ev_ixL (ev_var rfl) ev_c (ex_l e7 hz2) (atI_nat (j := 0) rfl))) fun H8 e8 => ⟨_, _, rfl, fun p9 H9 n9 e9 h9 => k _ _ (e8.trans e9) ⟨fun zz => ?_, p9, _, _, rfl, h9⟩⟩)
        injection zz with zz
        subst zz
        cases hD : H6 p9 with
        | none => exact tD hD
        | some o =>
          rw [e8 _ _ (e7 _ _ hD)] at n9
          cases n9
      · rw [filter_all] at pr
        have hys : ∀ y ∈ ys, ∃ t i j, y = V.ref t ∧ H6 t = some (.tup [.int i, .int j]) := fun y hy => by
          obtain ⟨z, _, _, h⟩ := paired_mem pr y hy
          exact h
        refine ⟨p, ys, rfl, sq_of h6, hys, fun ys' r pm nr => ⟨by show 2 ≤ sizeLine; decide, fun tp nt => ?_⟩⟩
        have er : Ex H6 (upd H6 r (.lst ys')) := Ex.new nr
        have e06 := ((e03.trans e4).trans e5).trans e6
        have et : Ex H6 (upd (upd H6 r (.lst ys')) tp (.tup [.str "tree", .ref r])) := er.trans (Ex.new nt)
        have hr : (upd (upd H6 r (.lst ys')) tp (.tup [.str "tree", .ref r])) r = some (.lst ys') := Ex.new nt _ _ upd_same
        obtain ⟨ds, od, ld, kd⟩ := own_pairs (H := upd (upd H6 r (.lst ys')) tp (.tup [.str "tree", .ref r])) (ys := ys') fun y hy => by
          obtain ⟨t, i, j, h1, h2⟩ := hys y (pm.mem_iff.mp hy)
          exact ⟨t, i, j, h1, et _ _ h2⟩
        have ly : ys.length = rs.length := (Paired.length pr).symm
        have ly2 := pm.length_eq
        obtain ⟨fl, ti⟩ := pairs_ok kd (by omega)
        exact q (.ref tp) (.tuple [.str "tree", .list ds]) [r] _ (e06.trans et) (.tup upd_same (.cons (S := []) (.str _) (.cons (S := [r]) (S' := []) (.lst hr od) .nil))) (List.nodup_cons.mpr ⟨List.not_mem_nil, List.nodup_nil⟩)
          (fun b hb => by rw [List.mem_singleton.mp hb]; exact fresh_back e06 nr) (flat_tuple (n := 3) fun d hd => by
            rcases List.mem_cons.mp hd with rfl | hd
            · exact (flat_str (by decide +kernel)).mono (by omega)
            · rw [List.mem_singleton.mp hd]
              exact fl.mono (by omega)) (tidy_tup (by show 2 ≤ 1000; omega) fun d hd => by
            rcases List.mem_cons.mp hd with rfl | hd
            · rfl
            · rw [List.mem_singleton.mp hd]
              exact ti)
end
end Ol
namespace Ol
open PySem PySem.Spec PyProof.Rows L2 Evl
section
variable {K : PySem.W.Frag} {σ : L2.St} {H H' : Hp} {ta tb te tl : TE} {t u : TT} {x y z v : V} {a : Addr} {D : Ends} {tz tu : TS} {g : TG}
/-! ### what a change at one list leaves -/
theorem st_keep {fq : Addr} {xs zs : List V} (h : SqT K H a xs) (hf : H fq = some (.lst zs)) (b : But fq H H') : SqT K H' a xs := by
  rcases h with h | h
  · have hne : a ≠ fq := fun e => by
      subst e
      rcases h with h | ⟨o, h⟩ <;> rw [h] at hf <;> cases hf
    rcases h with h | ⟨o, h⟩
    · exact .inl (.inl (b _ _ hne h))
    · exact .inl (.inr ⟨o, b _ _ hne h⟩)
  · exact .inr h
theorem sq_keep {fq : Addr} {xs zs : List V} (h : SqL K H a xs) (hf : H fq = some (.lst zs)) (hx : xs ≠ zs) (b : But fq H H') : SqL K H' a xs := by
  rcases h with h | h
  · have hne : a ≠ fq := fun e => by
      subst e
      rcases h with h | ⟨o, h⟩
      · rw [h] at hf
        injection hf with hf
        injection hf with hf
        exact hx hf
      · rw [h] at hf
        cases hf
    rcases h with h | ⟨o, h⟩
    · exact .inl (.inl (b _ _ hne h))
    · exact .inl (.inr ⟨o, b _ _ hne h⟩)
  · exact .inr h
theorem sq_but {fq : Addr} {xs : List V} (h : SqL K H a xs) (hne : a ≠ fq) (b : But fq H H') : SqL K H' a xs := by
  rcases h with h | h
  · rcases h with h | ⟨o, h⟩
    · exact .inl (.inl (b _ _ hne h))
    · exact .inl (.inr ⟨o, b _ _ hne h⟩)
  · exact .inr h
theorem But.trans {D : Addr} {H H1 H2 : Hp} (a : But D H H1) (b : But D H1 H2) : But D H H2 := fun c o hc h => b c o hc (a c o hc h)
/-- a for over a list that is known; the word itself keeps it -/
theorem fo_W {α : Type} (l : List α) (φ : α → V) (h : Ev tl σ H (.ref a)) (hx : SqL K H a (l.map φ)) (Pv : List α → L2.St → Hp → Prop) (hk : ∀ pre σ' H', Pv pre σ' H' → SqL K H' a (l.map φ)) (h0 : ∀ H1, Ex H H1 → Pv [] σ H1)
    (hs : ∀ pre z post σ' H', l = pre ++ z :: post → Pv pre σ' H' → g (φ z) σ' H' fun σ2 H2 => tu { D with nx := fun σ3 H3 => Pv (pre ++ [z]) σ3 H3, ct := fun σ3 H3 => Pv (pre ++ [z]) σ3 H3, bk := D.nx } σ2 H2)
    (hd : ∀ σ' H', Pv l σ' H' → D.nx σ' H') : tFor (iList K tl) g tu D σ H :=
  s_forL h hx (fun i σ' H' => Pv (l.take i) σ' H') (fun H1 e => h0 H1 e) (fun i σ' H' _ p => hk _ σ' H' p)
    (fun i x σ' H' hi p => by
      rw [List.getElem?_map] at hi
      cases hz : l[i]? with
      | none => rw [hz] at hi; cases hi
      | some z =>
        rw [hz] at hi
        cases hi
        obtain ⟨hlt, e1⟩ := List.getElem?_eq_some_iff.mp hz
        have split : l = l.take i ++ z :: l.drop (i + 1) := by
          rw [← e1, ← List.drop_eq_getElem_cons hlt, List.take_append_drop]
        rw [take_succ_of hz]
        exact hs _ z _ σ' H' split p)
    (fun σ' H' p => hd σ' H' (by
      have e : l.take (l.map φ).length = l := by rw [List.length_map, List.take_length]
      rw [e] at p
      exact p))
/-- a comprehension whose test is only told something of -/
theorem lc_T {α : Type} (l : List α) (φ : α → V) (T : α → Bool → Prop) (w : α → V) {j : Nat} {vs : List Nat} (h : Ev tl σ H (.ref a)) (hx : SqL K H a (l.map φ)) (hz : l.length ≤ 40000) (hw : ∀ x, wipe ((wipe σ vs).set j (some x)) vs = wipe σ vs)
    (ht : ∀ z ∈ l, ∀ H1, Ex H H1 → ∀ Q : Bool → Hp → Prop, (∀ b H2, Ex H1 H2 → T z b → Q b H2) → t ((wipe σ vs).set j (some (φ z))) H1 Q) (he : ∀ z ∈ l, ∀ H1, Ex H H1 → Ev te ((wipe σ vs).set j (some (φ z))) H1 (w z)) {Q : VK}
    (q : ∀ (p : Addr) (ys : List α) H2, H p = none → Ex H H2 → H2 p = some (.lst (ys.map w)) → (∀ z ∈ l, (∀ b, T z b → b = true) → z ∈ ys) → (∀ z ∈ ys, z ∈ l) → Q (.ref p) H2) : tLc (iList K tl) (gName j) t te vs σ H Q := h H (Ex.refl H) _ fun H1 e1 => ⟨a, rfl, ⟨_, ex_l e1 hx⟩, fun Dl hD =>
  lc_list (xs := l.map φ) (fun i H' => H1 Dl = none ∧ Ex H1 H' ∧ ∃ ys : List α, H' Dl = some (.lst (ys.map w)) ∧ (∀ z ∈ l.take i, (∀ b, T z b → b = true) → z ∈ ys) ∧ (∀ z ∈ ys, z ∈ l) ∧ ys.length ≤ i)
    ⟨hD, Ex.new hD, [], upd_same, (fun z hz => by rw [List.take_zero] at hz; cases hz), (fun _ h => nomatch h), Nat.le_refl _⟩ (fun i H' _ p => ex_l (e1.trans p.2.1) hx)
    (fun i x H' hi p => by
      obtain ⟨p1, p2, ys, p3, p4, p5, p6⟩ := p
      rw [List.getElem?_map] at hi
      cases hz2 : l[i]? with
      | none => rw [hz2] at hi; cases hi
      | some z =>
        rw [hz2] at hi
        cases hi
        have hm : z ∈ l := List.mem_of_getElem? hz2
        have hle : i < l.length := (List.getElem?_eq_some_iff.mp hz2).1
        refine ⟨hw _, ht z hm H' (e1.trans p2) _ fun b H3 e3 hb => ?_⟩
        rw [take_succ_of hz2]
        cases b with
        | true =>
          refine iteT (he z hm H3 ((e1.trans p2).trans e3) H3 (Ex.refl _) _ fun H4 e4 => ⟨_, e4 _ _ (e3 _ _ p3), by rw [List.length_map]; exact sz_lt (by omega), p1, Ex.mut ((p2.trans e3).trans e4) p1, ys ++ [z], ?_, ?_, ?_, ?_⟩)
          · rw [upd_same, List.map_append]
            rfl
          · intro x hx hb
            rcases List.mem_append.mp hx with hx | hx
            · exact List.mem_append_left _ (p4 x hx hb)
            · exact List.mem_append_right _ hx
          · intro x hx
            rcases List.mem_append.mp hx with hx | hx
            · exact p5 x hx
            · rw [List.mem_singleton.mp hx]
              exact hm
          · rw [List.length_append, List.length_singleton]
            omega
        | false =>
          refine iteF ⟨p1, p2.trans e3, ys, e3 _ _ p3, fun x hx hx2 => ?_, p5, by omega⟩
          rcases List.mem_append.mp hx with hx | hx
          · exact p4 x hx hx2
          · rw [List.mem_singleton.mp hx] at hx2
            cases hx2 _ hb)
    (fun H' p => by
      obtain ⟨p1, p2, ys, p3, p4, p5, p6⟩ := p
      rw [List.length_map, List.take_length] at p4
      exact q Dl ys H' (fresh_back e1 p1) (e1.trans p2) p3 p4 p5)⟩
/-- a call that tells a new tuple -/
theorem eu_callU {sp : Sp} {vs xs : List V} {E : XK} {ta : TA} (h : EvA ta σ H vs) (hs : ∀ H1, Ex H H1 → ∀ Q : VK, (∀ p H2, H1 p = none → Ex H1 H2 → H2 p = some (.tup xs) → Q (.ref p) H2) → sp vs H1 Q E) : EvU (tCall sp [] E ta) σ H xs := fun H1 e Q q =>
  h H1 e _ fun H2 e2 => by
    show sp (vs ++ []) H2 Q E
    rw [List.append_nil]
    exact hs H2 (e.trans e2) Q fun p H3 n3 e3 h3 => q p H3 (fresh_back e2 n3) (e2.trans e3) h3
/-- a word and a number, told -/
theorem Told.wn {H H' : Hp} {Q : VK} (k : Told H Q) (e : Ex H H') {p : Addr} {w : Str} {n : Int} (hw : PyData.canLay0 (.str w) = true) (h : H' p = some (.tup [.str w, .int n])) : Q (.ref p) H' :=
  k (.ref p) (.tuple [.str w, .int n]) [] H' e (.tup h (.cons (S := []) (.str _) (.cons (S := []) (.int n) .nil))) List.nodup_nil (fun _ h => nomatch h) (flat_tuple (n := 3) fun d hd => by
    rcases List.mem_cons.mp hd with rfl | hd
    · exact (flat_str hw).mono (by omega)
    · rw [List.mem_singleton.mp hd]
      exact (flat_int _).mono (by omega)) rfl
end
/-! ### rows of names taken out, their sizes -/
theorem takenM_few (folk : List (List Int)) : ∀ (n : Nat) (left : List Int), (takenM folk n left).length ≤ n ∧ ∀ r ∈ takenM folk n left, r.2.length ≤ left.length
  | 0, _ => ⟨Nat.le_refl _, fun _ h => nomatch h⟩
  | n + 1, left => by
    have hg : ∀ (l : List (List Int)) (f : List Int) (name : Int), (l.foldl (fun f r => f.filter fun x => decide (x ∈ allowedM r left name)) f).length ≤ f.length := by
      intro l
      induction l with
      | nil => exact fun _ _ => Nat.le_refl _
      | cons r l ih => exact fun f name => Nat.le_trans (ih _ name) (List.length_filter_le _ _)
    have hh : ∀ name, (hangsM folk left name).length ≤ left.length := fun name => Nat.le_trans (hg folk _ name) (List.length_filter_le _ _)
    unfold takenM
    split
    · exact ⟨Nat.zero_le _, fun _ h => nomatch h⟩
    · simp only
      split
      · refine ⟨by show 1 ≤ n + 1; omega, fun r hr => ?_⟩
        rw [List.mem_singleton.mp hr]
        exact hh _
      · obtain ⟨h1, h2⟩ := takenM_few folk n (left.filter fun x => !decide (x = (lastsM folk left).headD 0))
        refine ⟨by rw [List.length_cons]; omega, fun r hr => ?_⟩
        rcases List.mem_cons.mp hr with rfl | hr
        · exact hh _
        · exact Nat.le_trans (h2 r hr) (List.length_filter_le _ _)
def prodM : List (Int × List Int) → Nat
  | [] => 1
  | r :: rs => r.2.length * prodM rs
theorem prodM_snoc (r : Int × List Int) : ∀ rs : List (Int × List Int), prodM (rs ++ [r]) = prodM rs * r.2.length
  | [] => by show r.2.length * 1 = 1 * r.2.length; omega
  | x :: rs => by show x.2.length * prodM (rs ++ [r]) = x.2.length * prodM rs * r.2.length; rw [prodM_snoc r rs, Nat.mul_assoc]
theorem prodM_some : ∀ {rs : List (Int × List Int)}, 0 < prodM rs → ∀ r ∈ rs, 0 < r.2.length
  | [], _, _, h => nomatch h
  | x :: rs, h, r, hr => by
    have h : 0 < x.2.length * prodM rs := h
    rcases List.mem_cons.mp hr with rfl | hr
    · exact Nat.pos_of_mul_pos_right h
    · exact prodM_some (Nat.pos_of_mul_pos_left h) r hr
section
variable {P : Program} {w : World} {K : PySem.W.Frag} {mg : Str → Option Value} {base : Heap}
/-! ### options, tree_wrong, gone_wrong, tree_judged -/
def spOptions (K : PySem.W.Frag) : Sp := fun vs H Q _ => ∃ (a b : Addr) (ps : List (Addr × List Int)) (names gone : List Int) (x y : Int), vs = [.ref a, .ref b, .int x] ∧ LL K H a ps ∧ Fk names ps ∧ LI K H b gone ∧ gone.Nodup ∧ (∀ z ∈ gone, z ∈ names) ∧ x ∈ names ∧ y ∈ names ∧ x ≠ y ∧ x ∉ gone ∧ y ∉ gone ∧
  ∀ ns : List Int, ns.length ≤ 20 → RetL (ns.map V.int) H Q
theorem c_options (T : Tx w K mg) (C_names_by : Callee P w K mg base "names_by" 6 ["folk"] (spNames K)) (C_hangs_at : Callee P w K mg base "hangs_at" 2 ["folk", "left", "name"] (spHangs K)) : Callee P w K mg base "options" 7 ["folk", "gone", "name"] (spOptions K) := by
  refine callee_of T.F_options T.g_options sc_options (fun _ _ _ _ _ _ us hl => match us, hl with | [_, _, _], _ => rfl) (fun vs H Q E h => ?_) fun cdv A outer s H vs Q E hr h => ?_
  · obtain ⟨a, b, ps, names, gone, x, y, rfl, ha, F, hb, nd, sub, hx, hy, hxy, gx, gy, q⟩ := h
    rfl
  obtain ⟨a, b, ps, names, gone, x, y, rfl, ha, F, hb, nd, sub, hx, hy, hxy, gx, gy, q⟩ := h
  refine ⟨_, (pss_cons (ps_set (i := 3) sc_options.nd rfl (Or.inr rfl) (pe_callC C_names_by hr (by decide) (by rfl) (pa_cons (pv 0) pa_nil)))
      (pss_cons (ps_if (PW.pt (pw_or (pt_cmpR op_lt (lenSetI K (by rfl) T.b_len (by rfl) T.b_set (pv 1)) (pe_callB (lenS K) (by rfl) T.b_len (by decide +kernel) (pa_cons (pv 1) pa_nil)) (nomark _)) (pw_or1 (pt_not (pt_val (pe_callB (allR K) (by rfl) T.b_all (by decide +kernel) (pa_cons (pe_lc (own := [("one", 5)]) rfl sc_options.nd (piL K (pv 1)) (blkOk_by (by kernel_rfl)) (fun _ _ _ _ _ => (pg_name (i := 5) sc_options.nd rfl (Or.inl rfl))) (fun _ _ _ _ _ => pts_nil) (fun _ _ _ _ _ => (pe_cmpR (inS K) (pv 5) (pv 3) (by rfl)))) pa_nil))))))) pss_never pss_nil)
      (pss_cons (ps_setLc (i := 4) (own := [("one", 5)]) rfl sc_options.nd rfl rfl (sw_true rfl rfl rfl (by decide +kernel)) (piL K (pv 3)) (blkOk_by (by kernel_rfl)) (fun _ _ _ _ _ => (pg_name (i := 5) sc_options.nd rfl (Or.inl rfl))) (fun _ _ _ _ _ => (pts_one (pt_cmpR (niS K) (pv 5) (pv 1) (by rfl)))) (fun _ _ _ _ _ => (pv 5)))
      (pss_cons (ps_if (PW.pt (pw_or (pt_cmpR (niS K) (pv 2) (pv 4) (by rfl)) (pw_or1 (pt_cmpR op_lt (pe_callB (lenS K) (by rfl) T.b_len (by decide +kernel) (pa_cons (pv 4) pa_nil)) pe_int (nomark _))))) pss_never pss_nil)
      (pss_one (ps_ret (pe_callC C_hangs_at hr (by decide) (by rfl) (pa_cons (pv 0) (pa_cons (pv 4) (pa_cons (pv 2) pa_nil)))))))))), ?_⟩
  have f3 := F.few
  have lg : gone.length ≤ names.length := len_le_of_sub gone names nd sub
  refine q_asgL (xs := names.map V.int) (el_callL (ea_one (ev_var rfl)) fun H1 e1 Q q => ⟨a, ps, names, rfl, ha.ex e1, F, q⟩) fun p H1 n1 e1 h1 => ?_
  refine q_when (b := false) (et_or (a := false) (b := false) (et_test (ev_is (ev_op (x := .int gone.length) (y := .int gone.length) (fun H2 e2 Q q => ⟨_, rfl, b, gone, rfl, ex_l (e1.trans e2) hb, by omega, nd, q H2 (Ex.refl _)⟩) (ev_is (ev_len (ev_var rfl) (ex_l e1 hb)) (by rw [List.length_map])) rv_I0)
    (by rw [decide_eq_false (by omega)]))) fun _ => et_not (a := true) (et_B (ev_is (ev_all (bs := gone.map fun _ => true) (el_is (el_lcM gone V.int (fun _ => true) (fun _ => V.bl true) (ev_var rfl) (ex_l e1 hb) (by omega) (fun _ => rfl) (fun _ _ _ _ => et_none rfl) fun z hz H2 e2 _ =>
      ev_is (ev_inI (ev_var rfl) (ev_var rfl) (sq_of (e2 _ _ h1))) (by rw [decide_eq_true (sub z hz)])) (by rw [filter_all, List.map_map]; rfl))) (by simp)))) (fun z => nomatch z) fun _ H2 e2 => ?_
  refine q_asgL (xs := (names.filter fun z => !decide (z ∈ gone)).map V.int) (el_lcM names V.int (fun z => !decide (z ∈ gone)) V.int (ev_var rfl) (sq_of (e2 _ _ h1)) (by omega) (fun _ => rfl) (fun z hz H3 e3 => et_test (ev_niI (ev_var rfl) (ev_var rfl) (ex_l ((e1.trans e2).trans e3) hb))) fun z hz H3 e3 _ => ev_var rfl) fun p3 H3 n3 e3 h3 => ?_
  have mx : x ∈ names.filter fun z => !decide (z ∈ gone) := List.mem_filter.mpr ⟨hx, by simp [gx]⟩
  have my : y ∈ names.filter fun z => !decide (z ∈ gone) := List.mem_filter.mpr ⟨hy, by simp [gy]⟩
  have fl : (names.filter fun z => !decide (z ∈ gone)).length ≤ names.length := List.length_filter_le _ _
  generalize names.filter (fun z => !decide (z ∈ gone)) = left at h3 mx my fl
  have two : 2 ≤ left.length := by
    have := len_le_of_sub [x, y] left (List.nodup_cons.mpr ⟨fun h => hxy (List.mem_singleton.mp h), List.nodup_cons.mpr ⟨List.not_mem_nil, List.nodup_nil⟩⟩) fun z hz => by
      rcases List.mem_cons.mp hz with rfl | hz
      · exact mx
      · rw [List.mem_singleton.mp hz]; exact my
    exact this
  refine q_when (b := false) (et_or (a := false) (b := false) (et_test (ev_is (ev_niI (ev_var rfl) (ev_var rfl) (sq_of h3)) (by rw [decide_eq_true mx]; rfl))) fun _ => et_test (ev_is (ev_op (ev_len (ev_var rfl) (sq_of h3)) ev_c rv_I0) (by rw [List.length_map, decide_eq_false (by omega)]))) (fun z => nomatch z) fun _ H4 e4 => ?_
  have e04 := ((e1.trans e2).trans e3).trans e4
  have hl20 : (hangsM (ps.map (·.2)) left x).length ≤ 20 := by
    have hg : ∀ (l : List (List Int)) (f : List Int), (l.foldl (fun f r => f.filter fun z => decide (z ∈ allowedM r left x)) f).length ≤ f.length := by
      intro l
      induction l with
      | nil => exact fun _ => Nat.le_refl _
      | cons r l ih => exact fun f => Nat.le_trans (ih _) (List.length_filter_le _ _)
    have h1 := hg (ps.map (·.2)) (left.filter fun z => !decide (z = x))
    have h2 := List.length_filter_le (fun z => !decide (z = x)) left
    have h3 : (hangsM (ps.map (·.2)) left x).length ≤ (left.filter fun z => !decide (z = x)).length := h1
    omega
  refine inRet (inCall (goA (ea_three (ev_var rfl) (ev_var rfl) (ev_var rfl)) fun H5 e5 => ⟨a, p3, ps, left, x, rfl, ha.ex (e04.trans e5), sq_of (e5 _ _ (e4 _ _ h3)), by omega, mx, fun r hr => ⟨(F.perm r hr).mem_iff.mpr hx, by rw [(F.perm r hr).length_eq]; omega⟩, fun p6 H6 n6 e6 h6 =>
    (q _ hl20).go (e04.trans e5) n6 e6 h6⟩))
def spWrong (K : PySem.W.Frag) : Sp := fun vs H Q _ => ∃ (a b c : Addr) (ps : List (Addr × List Int)) (names : List Int) (ts : List (Addr × Tie)), vs = [.ref a, .ref b, .ref c] ∧ LL K H a ps ∧ LI K H b names ∧ LT K H c ts ∧ Fk names ps ∧ TreeW names (ts.map (·.2)) ∧ Told H Q
theorem c_tree_wrong (T : Tx w K mg) (C_is_right_tree : Callee P w K mg base "is_right_tree" 3 ["names", "thing"] (spTreeOk K (.bl true))) (C_apart_at : Callee P w K mg base "apart_at" 3 ["tree", "ranking"] (spApart K)) : Callee P w K mg base "tree_wrong" 4 ["folk", "names", "thing"] (spWrong K) := by
  refine callee_of T.F_tree_wrong T.g_tree_wrong sc_tree_wrong (fun _ _ _ _ _ _ us hl => match us, hl with | [_, _, _], _ => rfl) (fun vs H Q E h => ?_) fun cdv A outer s H vs Q E hr h => ?_
  · obtain ⟨a, b, c, ps, names, ts, rfl, ha, hb, hc, F, W, q⟩ := h
    rfl
  obtain ⟨a, b, c, ps, names, ts, rfl, ha, hb, hc, F, W, q⟩ := h
  refine ⟨_, (pss_cons (ps_if (pt_not (pt_val (pe_callC C_is_right_tree hr (by decide) (by rfl) (pa_cons (pv 1) (pa_cons (pv 2) pa_nil))))) (pss_one (ps_ret (pe_tup (pa_cons pe_str pa_nil)))) pss_nil)
      (pss_cons (ps_for PassesOwn.never rfl (piE K (by rfl) T.b_enumerate (pa_cons (pv 0) pa_nil)) (tupG K (n := 2) (pgs_cons (pg_name (i := 3) sc_tree_wrong.nd rfl (Or.inl rfl)) (pgs_cons (pg_name (i := 4) sc_tree_wrong.nd rfl (Or.inl rfl)) pgs_nil))) (pss_one (ps_if (pt_cmpR op_notN (pe_callC C_apart_at hr (by decide) (by rfl) (pa_cons (pv 2) (pa_cons (pv 4) pa_nil))) pe_non (nomark _)) (pss_one (ps_ret (pe_tup (pa_cons pe_str (pa_cons (pv 3) pa_nil))))) pss_nil)))
      (pss_one (ps_ret pe_non)))), ?_⟩
  have f3 := F.few
  refine q_when (b := false) (et_not (a := true) (et_B (ev_callV (ea_two (ev_var rfl) (ev_var rfl)) fun H1 e1 Q q => ⟨b, c, names, ts, rfl, ex_l e1 hb, hc.ex e1, W, q⟩))) (fun z => nomatch z) fun _ H1 e1 => ?_
  refine qo_E ps (fun p => V.ref p.1) (ea_one (ev_var rfl)) (ha.ex e1).1 (fun pre σ' H' => ∃ y3 y4, σ' = [some (.ref a), some (.ref b), some (.ref c), y3, y4]) (fun _ _ => ⟨_, _, rfl⟩) ?_ ?_
  · rintro pre z post σ' H' H'' eq e ⟨y3, y4, rfl⟩ e2
    have mz : z ∈ ps := by rw [eq]; exact List.mem_append_right _ List.mem_cons_self
    have e02 := (e1.trans e).trans e2
    refine inIf (inTest (inOp (inCall (goA (ea_two (ev_var rfl) (ev_var rfl)) fun H3 e3 => ?_))))
    have e03 := e02.trans e3
    refine ⟨c, z.1, ts, z.2, rfl, hc.ex e03, ex_l e03 (ha.2 z mz), by rw [(F.perm z mz).length_eq]; omega, fun v H4 e4 hv => go ev_c fun H5 e5 => ⟨rfl, _, rfl, ?_⟩⟩
    rcases hv with rfl | ⟨n, rfl⟩
    · exact iteF ⟨(((e.trans e2).trans e3).trans e4).trans e5, _, _, rfl⟩
    · exact iteT (s_retU (eu_tup (ea_two ev_c (ev_var rfl)) (by show 2 ≤ 100000; omega)) fun p H6 n6 e6 h6 => q.wn (((e03.trans e4).trans e5).trans e6) (by decide +kernel) h6)
  · rintro σ' H' e ⟨y3, y4, rfl⟩
    exact s_ret ev_c fun H2 e2 => q.non ((e1.trans e).trans e2)
def spGoneW (K : PySem.W.Frag) : Sp := fun vs H Q _ => ∃ (a b c : Addr) (ps : List (Addr × List Int)) (names : List Int) (x : Int), vs = [.ref a, .ref b, .ref c] ∧ LL K H a ps ∧ LI K H b names ∧ LI K H c [x] ∧ Fk names ps ∧ x ∈ names ∧ 1 < names.length ∧ Told H Q
theorem c_gone_wrong (T : Tx w K mg) (C_are_unlike_names : Callee P w K mg base "are_unlike_names" 2 ["thing"] (spUnl K)) (C_lasts : Callee P w K mg base "lasts" 1 ["folk", "left"] (spLasts K)) (C_hangs_at : Callee P w K mg base "hangs_at" 2 ["folk", "left", "name"] (spHangs K)) : Callee P w K mg base "gone_wrong" 4 ["folk", "names", "thing"] (spGoneW K) := by
  refine callee_of T.F_gone_wrong T.g_gone_wrong sc_gone_wrong (fun _ _ _ _ _ _ us hl => match us, hl with | [_, _, _], _ => rfl) (fun vs H Q E h => ?_) fun cdv A outer s H vs Q E hr h => ?_
  · obtain ⟨a, b, c, ps, names, x, rfl, ha, hb, hc, F, hx, two, q⟩ := h
    rfl
  obtain ⟨a, b, c, ps, names, x, rfl, ha, hb, hc, F, hx, two, q⟩ := h
  refine ⟨_, (pss_cons (ps_if (PW.pt (pw_or (pt_not (pt_val (pe_callB (isiR K) (by rfl) T.b_isinstance (by decide +kernel) (pa_cons (pv 2) (pa_cons (pe_bltn (v := .ty "list") (u := .type "list") (by rfl) T.b_list (by decide +kernel) rfl) pa_nil))))) (pw_or (pt_cmpR op_lt (pe_callB (lenS K) (by rfl) T.b_len (by decide +kernel) (pa_cons (pv 2) pa_nil)) pe_int (nomark _)) (pw_or1 (pt_cmpR op_ge (pe_callB (lenS K) (by rfl) T.b_len (by decide +kernel) (pa_cons (pv 2) pa_nil)) (pe_callB (lenS K) (by rfl) T.b_len (by decide +kernel) (pa_cons (pv 1) pa_nil)) (nomark _)))))) (pss_one (ps_ret (pe_tup (pa_cons pe_str pa_nil)))) pss_nil)
      (pss_cons (ps_if (PW.pt (pw_or (pt_not (pt_val (pe_callC C_are_unlike_names hr (by decide) (by rfl) (pa_cons (pv 2) pa_nil)))) (pw_or1 (pt_not (pt_val (pe_callB (allR K) (by rfl) T.b_all (by decide +kernel) (pa_cons (pe_lc (own := [("name", 5)]) rfl sc_gone_wrong.nd (piL K (pv 2)) (blkOk_by (by kernel_rfl)) (fun _ _ _ _ _ => (pg_name (i := 5) sc_gone_wrong.nd rfl (Or.inl rfl))) (fun _ _ _ _ _ => pts_nil) (fun _ _ _ _ _ => (pe_cmpR (inS K) (pv 5) (pv 1) (by rfl)))) pa_nil))))))) (pss_one (ps_ret (pe_tup (pa_cons pe_str pa_nil)))) pss_nil)
      (pss_cons (ps_set (i := 3) sc_gone_wrong.nd rfl (Or.inl rfl) (pv 1))
      (pss_cons (ps_for PassesOwn.never rfl (piE K (by rfl) T.b_enumerate (pa_cons (pv 2) pa_nil)) (tupG K (n := 2) (pgs_cons (pg_name (i := 4) sc_gone_wrong.nd rfl (Or.inl rfl)) (pgs_cons (pg_name (i := 5) sc_gone_wrong.nd rfl (Or.inr rfl)) pgs_nil))) (pss_cons (ps_if (pt_cmpR (niS K) (pv 5) (pe_callC C_lasts hr (by decide) (by rfl) (pa_cons (pv 0) (pa_cons (pv 3) pa_nil))) (by rfl)) (pss_one (ps_ret (pe_tup (pa_cons pe_str (pa_cons (pv 4) pa_nil))))) pss_nil)
      (pss_one (ps_if (pt_cmpR op_lt (pv 4) (pe_op op_sub (pe_callB (lenS K) (by rfl) T.b_len (by decide +kernel) (pa_cons (pv 2) pa_nil)) pe_int) (nomark _)) (pss_one (ps_setLc (i := 3) (own := [("one", 7)]) rfl sc_gone_wrong.nd rfl rfl (sw_true rfl rfl rfl (by decide +kernel)) (piL K (pv 3)) (blkOk_by (by kernel_rfl)) (fun _ _ _ _ _ => (pg_name (i := 7) sc_gone_wrong.nd rfl (Or.inl rfl))) (fun _ _ _ _ _ => (pts_one (pt_cmpR op_ne (pv 7) (pv 5) (nomark _)))) (fun _ _ _ _ _ => (pv 7)))) pss_nil))))
      (pss_cons (ps_set (i := 6) sc_gone_wrong.nd rfl (Or.inl rfl) (pe_callC C_hangs_at hr (by decide) (by rfl) (pa_cons (pv 0) (pa_cons (pv 3) (pa_cons (pe_ix (ixL K) (pv 2) (pe_un un_neg pe_int) (fun _ _ => rfl)) pa_nil)))))
      (pss_cons (ps_if (pt_cmpR (neD K hr.units) (pv 6) (pe_lst pa_nil) (nomark _)) (pss_one (ps_ret (pe_tup (pa_cons pe_str (pa_cons (pe_ix (ixL K) (pv 6) pe_int (fun _ _ => rfl)) pa_nil))))) pss_nil)
      (pss_one (ps_ret pe_non)))))))), ?_⟩
  have f3 := F.few
  have hrest : ∀ p ∈ ps, restM p.2 names ≠ [] ∧ p.2.length ≤ 20 := fun p hp => by
    refine ⟨fun z => ?_, by rw [(F.perm p hp).length_eq]; omega⟩
    have : x ∈ restM p.2 names := List.mem_filter.mpr ⟨(F.perm p hp).mem_iff.mpr hx, decide_eq_true hx⟩
    rw [z] at this
    exact nomatch this
  refine q_when (b := false) (et_or (a := false) (b := false) (et_not (a := true) (et_B (ev_isiL (ev_var rfl) hc (by decide +kernel)))) fun _ => et_or (a := false) (b := false) (et_test (ev_is (ev_op (ev_len (ev_var rfl) hc) ev_c rv_I0) rfl)) fun _ =>
    et_test (ev_is (ev_op (ev_len (ev_var rfl) hc) (ev_len (ev_var rfl) hb) rv_I0) (by rw [List.length_map, List.length_map, decide_eq_false (by show ¬ (([x].length : Int) ≥ _); rw [List.length_singleton]; omega)]))) (fun z => nomatch z) fun _ H1 e1 => ?_
  refine q_when (b := false) (et_or (a := false) (b := false) (et_not (a := true) (et_B (ev_callV (ea_one (ev_var rfl)) fun H2 e2 Q q => ⟨c, [x], rfl, ex_l (e1.trans e2) hc, List.nodup_cons.mpr ⟨List.not_mem_nil, List.nodup_nil⟩, fun n hn => by
    rw [List.mem_singleton.mp hn]; exact F.pos x hx, by show 1 ≤ 30; omega, q⟩))) fun _ => et_not (a := true) (et_B (ev_is (ev_all (bs := [x].map fun _ => true) (el_is (el_lcM [x] V.int (fun _ => true) (fun _ => V.bl true) (ev_var rfl) (ex_l e1 hc) (by show 1 ≤ 40000; omega) (fun _ => rfl) (fun _ _ _ _ => et_none rfl) fun z hz H2 e2 _ =>
      ev_is (ev_inI (ev_var rfl) (ev_var rfl) (ex_l (e1.trans e2) hb)) (by rw [List.mem_singleton.mp hz, decide_eq_true hx])) (by rw [filter_all, List.map_map]; rfl))) (by simp)))) (fun z => nomatch z) fun _ H2 e2 => ?_
  refine q_asg (ev_var rfl) fun H3 e3 => ?_
  have e03 := (e1.trans e2).trans e3
  refine qo_E [x] V.int (ea_one (ev_var rfl)) (ex_l e03 hc) (fun pre σ' H' => ∃ y4 y5 y6 y7, σ' = [some (.ref a), some (.ref b), some (.ref c), some (.ref b), y4, y5, y6, y7]) (fun _ _ => ⟨_, _, _, _, rfl⟩) ?_ ?_
  · rintro pre z post σ' H' H'' eq e ⟨y4, y5, y6, y7, rfl⟩ e4
    obtain ⟨rfl, rfl⟩ : pre = [] ∧ z = x := by
      cases pre with
      | nil => injection eq with h1 h2; exact ⟨rfl, h1.symm⟩
      | cons u pre => injection eq with h1 h2; cases pre <;> cases h2
    have e05 := (e03.trans e).trans e4
    refine q_when (et_test (ev_opL (ev_var rfl) (el_callL (ea_two (ev_var rfl) (ev_var rfl)) fun H5 e5 Q q => ⟨a, b, ps, names, rfl, ha.ex (e05.trans e5), ex_l (e05.trans e5) hb, F.most, hrest, q⟩) fun p5 H5 h5 e5 => rv_niL (sq_of h5) rfl (flat_ints _))) (fun _ H5 e5 => ?_) fun _ H5 e5 => ?_
    · exact s_retU (eu_tup (ea_two ev_c (ev_var rfl)) (by show 2 ≤ 100000; omega)) fun p H6 n6 e6 h6 => q.wn ((e05.trans e5).trans e6) (by decide +kernel) h6
    · refine s_when (b := false) (et_test (ev_is (ev_op (ev_var rfl) (ev_op (ev_len (ev_var rfl) (ex_l (e05.trans e5) hc)) ev_c rv_I0) rv_I0) rfl)) (fun z => nomatch z) fun _ H6 e6 => ⟨((e.trans e4).trans e5).trans e6, _, _, _, _, rfl⟩
  · rintro σ' H' e ⟨y4, y5, y6, y7, rfl⟩
    have e04 := e03.trans e
    refine q_asgL (xs := (hangsM (ps.map fun r : Addr × List Int => r.2) names x).map V.int) (el_callL (ea_three (ev_var rfl) (ev_var rfl) (ev_ixL (ev_var rfl) (ev_un ev_c ru_neg) (ex_l e04 hc) (atI_lastOf (l := [x]) (List.cons_ne_nil _ _)))) fun H5 e5 Q q =>
      ⟨a, b, ps, names, x, rfl, ha.ex (e04.trans e5), ex_l (e04.trans e5) hb, by omega, hx, fun r hr => ⟨(F.perm r hr).mem_iff.mpr hx, (hrest r hr).2⟩, q⟩) fun p5 H5 n5 e5 h5 => ?_
    refine q_when (et_test (ev_opL (ev_var rfl) (el_lst (vs := ([] : List Int).map V.int) ea_nil (by show 0 ≤ 100000; omega)) fun p6 H6 h6 e6 => rv_neI (ex_l e6 (sq_of h5)) (sq_of h6))) (fun hb2 H6 e6 => ?_) fun _ H6 e6 => ?_
    · have hne : hangsM (ps.map (·.2)) names x ≠ [] := by simpa using hb2
      obtain ⟨y, more, hy⟩ := List.exists_cons_of_ne_nil hne
      rw [hy] at h5
      exact s_retU (eu_tup (ea_two ev_c (ev_ixL (ev_var rfl) ev_c (sq_of (e6 _ _ h5)) (at0 V.int rfl))) (by show 2 ≤ 100000; omega)) fun p H7 n7 e7 h7 => q.wn (((e04.trans e5).trans e6).trans e7) (by decide +kernel) h7
    · exact s_ret ev_c fun H7 e7 => q.non (((e04.trans e5).trans e6).trans e7)
def spJudged (K : PySem.W.Frag) : Sp := fun vs H Q _ => ∃ (a t c : Addr) (x : Str) (ps : List (Addr × List Int)) (names : List Int), vs = [.ref a, .ref t] ∧ LL K H a ps ∧ Fk names ps ∧ SqT K H t [.str x, .ref c] ∧
  ((x = "tree" ∧ ∃ ts, LT K H c ts ∧ TreeW names (ts.map (·.2))) ∨ (x = "gone" ∧ ∃ y, LI K H c [y] ∧ y ∈ names ∧ 1 < names.length)) ∧ Told H Q
theorem c_tree_judged (T : Tx w K mg) (C_names_by : Callee P w K mg base "names_by" 6 ["folk"] (spNames K)) (C_tree_wrong : Callee P w K mg base "tree_wrong" 4 ["folk", "names", "thing"] (spWrong K)) (C_gone_wrong : Callee P w K mg base "gone_wrong" 4 ["folk", "names", "thing"] (spGoneW K)) : Callee P w K mg base "tree_judged" 7 ["folk", "paper"] (spJudged K) := by
  refine callee_of T.F_tree_judged T.g_tree_judged sc_tree_judged (fun _ _ _ _ _ _ us hl => match us, hl with | [_, _], _ => rfl) (fun vs H Q E h => ?_) fun cdv A outer s H vs Q E hr h => ?_
  · obtain ⟨a, t, c, x, ps, names, rfl, ha, F, ht, alt, q⟩ := h
    rfl
  obtain ⟨a, t, c, x, ps, names, rfl, ha, F, ht, alt, q⟩ := h
  refine ⟨_, (pss_cons (ps_set (i := 2) sc_tree_judged.nd rfl (Or.inl rfl) (pe_callC C_names_by hr (by decide) (by rfl) (pa_cons (pv 0) pa_nil)))
      (pss_cons (ps_if (PW.pt (pw_or (pt_not (pt_val (pe_callB (isiR K) (by rfl) T.b_isinstance (by decide +kernel) (pa_cons (pv 1) (pa_cons (pe_bltn (v := .ty "tuple") (u := .type "tuple") (by rfl) T.b_tuple (by decide +kernel) rfl) pa_nil))))) (pw_or (pt_cmpR op_ne (pe_callB (lenS K) (by rfl) T.b_len (by decide +kernel) (pa_cons (pv 1) pa_nil)) pe_int (nomark _)) (pw_or1 (pt_not (pt_val (pe_callB (isiR K) (by rfl) T.b_isinstance (by decide +kernel) (pa_cons (pe_ix (ixT K) (pv 1) pe_int (fun _ _ => rfl)) (pa_cons (pe_bltn (v := .ty "str") (u := .type "str") (by rfl) T.b_str (by decide +kernel) rfl) pa_nil))))))))) (pss_one (ps_ret (pe_tup (pa_cons pe_str pa_nil)))) pss_nil)
      (pss_cons (ps_if (pt_cmpR op_eq (pe_ix (ixT K) (pv 1) pe_int (fun _ _ => rfl)) pe_str (nomark _)) (pss_one (ps_ret (pe_callC C_tree_wrong hr (by decide) (by rfl) (pa_cons (pv 0) (pa_cons (pv 2) (pa_cons (pe_ix (ixT K) (pv 1) pe_int (fun _ _ => rfl)) pa_nil)))))) pss_nil)
      (pss_cons (ps_if (pt_cmpR op_eq (pe_ix (ixT K) (pv 1) pe_int (fun _ _ => rfl)) pe_str (nomark _)) (pss_one (ps_ret (pe_callC C_gone_wrong hr (by decide) (by rfl) (pa_cons (pv 0) (pa_cons (pv 2) (pa_cons (pe_ix (ixT K) (pv 1) pe_int (fun _ _ => rfl)) pa_nil)))))) pss_nil)
      (pss_one (ps_ret (pe_tup (pa_cons pe_str pa_nil)))))))), ?_⟩
  refine q_asgL (xs := names.map V.int) (el_callL (ea_one (ev_var rfl)) fun H1 e1 Q q => ⟨a, ps, names, rfl, ha.ex e1, F, q⟩) fun p H1 n1 e1 h1 => ?_
  have word : ∀ H2, Ex H H2 → Ev (tOp (rIxT K) (tVar 1) (tC (.int 0))) [some (.ref a), some (.ref t), some (.ref p)] H2 (.str x) := fun H2 e => ev_ixT (ev_var rfl) ev_c (ex_t e ht) (atI_nat (j := 0) rfl)
  have thing : ∀ H2, Ex H H2 → Ev (tOp (rIxT K) (tVar 1) (tC (.int 1))) [some (.ref a), some (.ref t), some (.ref p)] H2 (.ref c) := fun H2 e => ev_ixT (ev_var rfl) ev_c (ex_t e ht) (atI_nat (j := 1) rfl)
  refine q_when (b := false) (et_or (a := false) (b := false) (et_not (a := true) (et_B (ev_isiT (ev_var rfl) (ex_t e1 ht) (by decide +kernel)))) fun _ => et_or (a := false) (b := false) (et_test (ev_is (ev_op (ev_lenT (ev_var rfl) (ex_t e1 ht)) ev_c (rv_ne rfl)) rfl)) fun _ =>
    et_not (a := true) (et_B (ev_isiS (word H1 e1) (by decide +kernel)))) (fun z => nomatch z) fun _ H2 e2 => ?_
  have e02 := e1.trans e2
  refine q_when (et_test (ev_op (word H2 e02) ev_c (rv_eq rfl))) (fun hb H3 e3 => ?_) fun hb H3 e3 => ?_
  · have hb := of_decide_eq_true hb
    injection hb with hb
    subst hb
    rcases alt with ⟨_, ts, hc, W⟩ | ⟨h, _⟩
    · exact inRet (inCall (goA (ea_three (ev_var rfl) (ev_var rfl) (thing H3 (e02.trans e3))) fun H4 e4 => ⟨a, p, c, ps, names, ts, rfl, ha.ex ((e02.trans e3).trans e4), sq_of (e4 _ _ (e3 _ _ (e2 _ _ h1))), hc.ex ((e02.trans e3).trans e4), F, W, q.go ((e02.trans e3).trans e4)⟩))
    · exact absurd h (by decide)
  · have hb := of_decide_eq_false hb
    rcases alt with ⟨h, _⟩ | ⟨rfl, y, hc, hy, two⟩
    · exact absurd (congrArg V.str h) hb
    · refine q_when (b := true) (et_test (ev_is (ev_op (word H3 (e02.trans e3)) ev_c (rv_eq rfl)) rfl)) (fun _ H4 e4 => ?_) fun z => nomatch z
      have e04 := (e02.trans e3).trans e4
      exact inRet (inCall (goA (ea_three (ev_var rfl) (ev_var rfl) (thing H4 e04)) fun H5 e5 => ⟨a, p, c, ps, names, y, rfl, ha.ex (e04.trans e5), sq_of (e5 _ _ (e4 _ _ (e3 _ _ (e2 _ _ h1)))), ex_l (e04.trans e5) hc, F, hy, two, q.go (e04.trans e5)⟩))
/-! ### trees_many, tree_by -/
def spMany (K : PySem.W.Frag) : Sp := fun vs H Q _ => ∃ (a : Addr) (ps : List (Addr × List Int)) (names : List Int), vs = [.ref a] ∧ LL K H a ps ∧ Fk names ps ∧ RetV (.int (prodM (takenM (ps.map (·.2)) names.length names) : Nat)) H Q
theorem c_trees_many (T : Tx w K mg) (C_must_be_folk : Callee P w K mg base "must_be_folk" 5 ["folk"] (spFk K .non)) (C_taken_out : Callee P w K mg base "taken_out" 3 ["folk"] (spTaken K)) : Callee P w K mg base "trees_many" 6 ["folk"] (spMany K) := by
  refine callee_of T.F_trees_many T.g_trees_many sc_trees_many (fun _ _ _ _ _ _ us hl => match us, hl with | [_], _ => rfl) (fun vs H Q E h => ?_) fun cdv A outer s H vs Q E hr h => ?_
  · obtain ⟨a, ps, names, rfl, ha, F, q⟩ := h
    rfl
  obtain ⟨a, ps, names, rfl, ha, F, q⟩ := h
  refine ⟨_, (pss_cons (ps_expr (pe_callC C_must_be_folk hr (by decide) (by rfl) (pa_cons (pv 0) pa_nil)))
      (pss_cons (ps_set (i := 1) sc_trees_many.nd rfl (Or.inl rfl) pe_int)
      (pss_cons (ps_for PassesOwn.never rfl (piL K (pe_callC C_taken_out hr (by decide) (by rfl) (pa_cons (pv 0) pa_nil))) (tupG K (n := 2) (pgs_cons (pg_name (i := 2) sc_trees_many.nd rfl (Or.inl rfl)) (pgs_cons (pg_name (i := 3) sc_trees_many.nd rfl (Or.inl rfl)) pgs_nil))) (pss_one (ps_set (i := 1) sc_trees_many.nd rfl (Or.inl rfl) (pe_op op_mul (pv 1) (pe_callB (lenS K) (by rfl) T.b_len (by decide +kernel) (pa_cons (pv 3) pa_nil))))))
      (pss_one (ps_ret (pv 1)))))), ?_⟩
  have f3 := F.few
  refine q_drop (ev_callV (v := .non) (ea_one (ev_var rfl)) fun H1 e1 Q q => ⟨a, ps, names, rfl, ha.ex e1, F, q⟩) fun H1 e1 => ?_
  refine q_asg ev_c fun H2 e2 => ?_
  refine inSeq (inFor (inCall (goA (ea_one (ev_var rfl)) fun H3 e3 => ⟨a, ps, names, rfl, ha.ex ((e1.trans e2).trans e3), F, fun rs p H4 n4 e4 h4 hrs eq => ?_⟩)))
  have e04 := ((e1.trans e2).trans e3).trans e4
  have few : ∀ r ∈ rs, r.2.2.2.length ≤ 10 := fun r hr => by
    have h := (takenM_few (ps.map (·.2)) names.length names).2 (rowM r) (by rw [← eq]; exact List.mem_map.mpr ⟨r, hr, rfl⟩)
    exact Nat.le_trans h f3
  refine fo_M rs (fun r => V.ref r.1) ev_c hrs.1 (fun pre σ' H' => ∃ y2 y3, σ' = [some (.ref a), some (.int (prodM (pre.map rowM) : Nat)), y2, y3]) (fun _ _ => ⟨_, _, rfl⟩) ?_ ?_
  · rintro pre z post σ' H' eq2 e ⟨y2, y3, rfl⟩
    have mz : z ∈ rs := by rw [eq2]; exact List.mem_append_right _ List.mem_cons_self
    have hz := few z mz
    refine g_pair (ex_t e (hrs.2 z mz).1) ?_
    refine s_asg (ev_op (ev_var rfl) (ev_len (ev_var rfl) (ex_l e (hrs.2 z mz).2)) (rv_I ?_)) fun H5 e5 => ⟨e.trans e5, some (.int z.2.1), some (.ref z.2.2.1), ?_⟩
    · refine .inr ⟨?_, ?_⟩
      · rw [List.length_map]; omega
      · rw [List.length_map]; omega
    · rw [List.map_append, List.map_singleton, prodM_snoc, List.length_map, Int.natCast_mul]
      rfl
  · rintro σ' H' e ⟨y2, y3, rfl⟩
    refine s_ret (ev_var rfl) fun H5 e5 => ?_
    rw [eq]
    exact q H5 ((e04.trans e).trans e5)
def Pairs (H : Hp) (ys : List V) : Prop := ∀ y ∈ ys, ∃ t i j, y = V.ref t ∧ H t = some (.tup [.int i, .int j])
def spTreeBy (K : PySem.W.Frag) : Sp := fun vs H Q _ => ∃ (a : Addr) (ps : List (Addr × List Int)) (names : List Int), vs = [.ref a, .int 0] ∧ LL K H a ps ∧ Fk names ps ∧ 0 < prodM (takenM (ps.map (·.2)) names.length names) ∧
  ∀ p ys H', H p = none → Ex H H' → H' p = some (.lst ys) → Pairs H' ys → ys.length ≤ 10 → Q (.ref p) H'
theorem c_tree_by (T : Tx w K mg) (C_trees_many : Callee P w K mg base "trees_many" 6 ["folk"] (spMany K)) (C_taken_out : Callee P w K mg base "taken_out" 3 ["folk"] (spTaken K)) (C_tie_of : Callee P w K mg base "tie_of" 1 ["one", "other"] spTieOf) : Callee P w K mg base "tree_by" 7 ["folk", "number"] (spTreeBy K) := by
  refine callee_of T.F_tree_by T.g_tree_by sc_tree_by (fun _ _ _ _ _ _ us hl => match us, hl with | [_, _], _ => rfl) (fun vs H Q E h => ?_) fun cdv A outer s H vs Q E hr h => ?_
  · obtain ⟨a, ps, names, rfl, ha, F, pos, q⟩ := h
    rfl
  obtain ⟨a, ps, names, rfl, ha, F, pos, q⟩ := h
  refine ⟨_, (pss_cons (ps_set (i := 2) sc_tree_by.nd rfl (Or.inl rfl) (pe_callC C_trees_many hr (by decide) (by rfl) (pa_cons (pv 0) pa_nil)))
      (pss_cons (ps_if (PW.pt (pw_or (pt_cmpR op_lt (pv 1) pe_int (nomark _)) (pw_or1 (pt_cmpR op_ge (pv 1) (pv 2) (nomark _))))) pss_never pss_nil)
      (pss_cons (ps_set (i := 3) sc_tree_by.nd rfl (Or.inl rfl) (pe_lst pa_nil))
      (pss_cons (ps_for PassesOwn.never rfl (piL K (pe_callC C_taken_out hr (by decide) (by rfl) (pa_cons (pv 0) pa_nil))) (tupG K (n := 2) (pgs_cons (pg_name (i := 4) sc_tree_by.nd rfl (Or.inl rfl)) (pgs_cons (pg_name (i := 5) sc_tree_by.nd rfl (Or.inl rfl)) pgs_nil))) (pss_cons (ps_expr (bmK K PySem.F.plainAttrs_list PySem.F.slot_list_append PySem.F.type_list_append mt_append (pv 3) (pa_cons (pe_callC C_tie_of hr (by decide) (by rfl) (pa_cons (pv 4) (pa_cons (pe_ix (ixL K) (pv 5) (pe_op op_modN (pv 1) (pe_callB (lenS K) (by rfl) T.b_len (by decide +kernel) (pa_cons (pv 5) pa_nil))) (fun _ _ => rfl)) pa_nil))) pa_nil)))
      (pss_one (ps_set (i := 1) sc_tree_by.nd rfl (Or.inl rfl) (pe_op op_fdivN (pv 1) (pe_callB (lenS K) (by rfl) T.b_len (by decide +kernel) (pa_cons (pv 5) pa_nil)))))))
      (pss_one (ps_ret (pe_callB (srtQ K) (by rfl) T.b_sorted (by decide +kernel) (pa_cons (pv 3) pa_nil)))))))), ?_⟩
  have f3 := F.few
  refine q_asg (ev_callV (ea_one (ev_var rfl)) fun H1 e1 Q q => ⟨a, ps, names, rfl, ha.ex e1, F, q⟩) fun H1 e1 => ?_
  refine q_when (b := false) (et_or (a := false) (b := false) (et_test (ev_is (ev_op (ev_var rfl) ev_c rv_I0) rfl)) fun _ => et_test (ev_is (ev_op (ev_var rfl) (ev_var rfl) rv_I0) (by rw [decide_eq_false (by omega)]))) (fun z => nomatch z) fun _ H2 e2 => ?_
  refine q_asgL (xs := []) (el_lst ea_nil (by show 0 ≤ 100000; omega)) fun fq H3 n3 e3 h3 => ?_
  refine inSeq (inFor (inCall (goA (ea_one (ev_var rfl)) fun H4 e4 => ⟨a, ps, names, rfl, ha.ex (((e1.trans e2).trans e3).trans e4), F, fun rs p H5 n5 e5 h5 hrs eq => ?_⟩)))
  have e02 := e1.trans e2
  have e03 := e02.trans e3
  have hf5 := e5 _ _ (e4 _ _ h3)
  have nf : H fq = none := fresh_back e02 n3
  have npf : p ≠ fq := fun z => by
    rw [z, e4 _ _ h3] at n5
    cases n5
  have some_ : ∀ r ∈ rs, 0 < r.2.2.2.length ∧ r.2.2.2.length ≤ 10 := fun r hr => by
    have mr : rowM r ∈ takenM (ps.map (·.2)) names.length names := by rw [← eq]; exact List.mem_map.mpr ⟨r, hr, rfl⟩
    exact ⟨prodM_some pos _ mr, Nat.le_trans ((takenM_few (ps.map (·.2)) names.length names).2 _ mr) f3⟩
  have many : rs.length ≤ 10 := by
    have := (takenM_few (ps.map (·.2)) names.length names).1
    rw [← eq, List.length_map] at this
    omega
  refine fo_W rs (fun r => V.ref r.1) ev_c hrs.1 (fun pre σ' H' => But fq H5 H' ∧ Ex H H' ∧ ∃ ys y2 y4 y5, σ' = [some (.ref a), some (.int 0), y2, some (.ref fq), y4, y5] ∧ H' fq = some (.lst ys) ∧ Pairs H' ys ∧ ys.length = pre.length)
    (fun pre σ' H' h => sq_but hrs.1 npf h.1) (fun H6 e6 => ⟨But.ex e6, (e03.trans (e4.trans e5)).trans e6, [], _, _, _, rfl, e6 _ _ hf5, (fun _ h => nomatch h), rfl⟩) ?_ ?_
  · rintro pre z post σ' H' eq2 ⟨b, e, ys, y2, y4, y5, rfl, hf, pr, ln⟩
    have mz : z ∈ rs := by rw [eq2]; exact List.mem_append_right _ List.mem_cons_self
    obtain ⟨h1, h2⟩ := some_ z mz
    have hlt : pre.length < rs.length := by rw [eq2, List.length_append, List.length_cons]; omega
    refine g_pair (st_keep (hrs.2 z mz).1 hf5 b) ?_
    have hz : ∀ H1, But fq H5 H1 → LI K H1 z.2.2.1 z.2.2.2 := fun H1 b1 => sq_keep (hrs.2 z mz).2 hf5 (fun k => by
      have := congrArg List.length k
      rw [List.length_map, List.length_nil] at this
      omega) b1
    obtain ⟨x, more, hx⟩ : ∃ x more, z.2.2.2 = x :: more := by
      cases hh : z.2.2.2 with
      | nil => rw [hh] at h1; exact absurd h1 (by decide)
      | cons x more => exact ⟨x, more, rfl⟩
    refine q_appU hf (ev_var rfl) (eu_callU (ea_two (ev_var rfl) (ev_ixL (i := 0) (v := .int x) (ev_var rfl) (ev_is (ev_op (ev_var rfl) (ev_len (ev_var rfl) (hz _ b)) (rv_I ?_)) (by rw [Int.zero_fmod])) (hz _ b) (by rw [hx]; exact at0 V.int rfl))) fun H6 e6 Q q => ⟨z.2.1, x, rfl, q⟩) (by omega) fun t H6 n6 e6 h6 => ?_
    · rw [List.length_map]; omega
    · have nft : fq ≠ t := fun k => by rw [← k, hf] at n6; cases n6
      have hz6 := hz (upd H6 fq (.lst (ys ++ [.ref t]))) ((b.trans (But.ex e6)).trans But.upd)
      refine s_asg (v := .int 0) (ev_is (ev_op (ev_var rfl) (ev_len (ev_var rfl) hz6) (rv_I ?_)) (by rw [Int.zero_fdiv])) fun H7 e7 => ?_
      · rw [List.length_map]; exact ⟨by omega, by omega⟩
      · refine ⟨((b.trans (But.ex e6)).trans But.upd).trans (But.ex e7), (Ex.mut (e.trans e6) nf).trans e7, ys ++ [.ref t], _, _, _, rfl, e7 _ _ upd_same, fun y hy => ?_, ?_⟩
        · rcases List.mem_append.mp hy with hy | hy
          · obtain ⟨t2, i, j, rfl, k⟩ := pr y hy
            refine ⟨t2, i, j, rfl, e7 _ _ ?_⟩
            rw [upd_ne (fun k2 => by rw [k2, hf] at k; cases k)]
            exact e6 _ _ k
          · refine ⟨t, min z.2.1 x, max z.2.1 x, List.mem_singleton.mp hy, e7 _ _ ?_⟩
            rw [upd_ne (Ne.symm nft)]
            exact h6
        · rw [List.length_append, List.length_append, ln]
          rfl
  · rintro σ' H' ⟨b, e, ys, y2, y4, y5, rfl, hf, pr, ln⟩
    refine inRet (inCB (inCons (go (ev_var rfl) fun H6 e6 => ?_)))
    refine ⟨fq, ys, rfl, sq_of (e6 _ _ hf), fun y hy => ?_, fun ys' r pm nr => ?_⟩
    · obtain ⟨t2, i, j, h1, h2⟩ := pr y hy
      exact ⟨t2, i, j, h1, e6 _ _ h2⟩
    · have lys := pm.length_eq
      refine q r ys' _ (fresh_back (e.trans e6) nr) ((e.trans e6).trans (Ex.new nr)) upd_same (fun y hy => ?_) (by omega)
      obtain ⟨t2, i, j, h1, h2⟩ := pr y (pm.mem_iff.mp hy)
      exact ⟨t2, i, j, h1, Ex.new nr _ _ (e6 _ _ h2)⟩
end
end Ol
namespace Ol
open PySem PySem.Spec PyProof.Rows L2 Evl
section
variable {P : Program} {w : World} {K : PySem.W.Frag} {mg : Str → Option Value} {base : Heap}
/-! ### is_balance, balance -/
/-- no part of the tree without a name has more than half of the tops -/
def Good (ties : List Tie) (names tops : List Int) (c : Int) : Prop := ∀ first ∈ names, first ≠ c → ∀ r : List Int, Reach ties (names.filter fun x => !decide (x = c)) first r → 2 * (tops.filter fun x => decide (x ∈ r)).length ≤ tops.length
def spBal (K : PySem.W.Frag) : Sp := fun vs H Q _ => ∃ (a b d : Addr) (ts : List (Addr × Tie)) (tops names : List Int) (c : Int), vs = [.ref a, .ref b, .ref d, .int c] ∧ LI K H a tops ∧ LT K H b ts ∧ LI K H d names ∧ tops.length ≤ 20 ∧ names.length ≤ 10 ∧
  ∀ r : Bool, (Good (ts.map (·.2)) names tops c → r = true) → RetV (.bl r) H Q
theorem c_is_balance (T : Tx w K mg) (C_reached : Callee P w K mg base "reached" 1 ["ties", "some", "first"] (spReached K)) : Callee P w K mg base "is_balance" 2 ["tops", "tree", "names", "name"] (spBal K) := by
  refine callee_of T.F_is_balance T.g_is_balance sc_is_balance (fun _ _ _ _ _ _ us hl => match us, hl with | [_, _, _, _], _ => rfl) (fun vs H Q E h => ?_) fun cdv A outer s H vs Q E hr h => ?_
  · obtain ⟨a, b, d, ts, tops, names, c, rfl, ha, hb, hd, f1, f2, q⟩ := h
    rfl
  obtain ⟨a, b, d, ts, tops, names, c, rfl, ha, hb, hd, f1, f2, q⟩ := h
  refine ⟨_, (pss_cons (ps_setLc (i := 4) (own := [("one", 7)]) rfl sc_is_balance.nd rfl rfl (sw_true rfl rfl rfl (by decide +kernel)) (piL K (pv 2)) (blkOk_by (by kernel_rfl)) (fun _ _ _ _ _ => (pg_name (i := 7) sc_is_balance.nd rfl (Or.inl rfl))) (fun _ _ _ _ _ => (pts_one (pt_cmpR op_ne (pv 7) (pv 3) (nomark _)))) (fun _ _ _ _ _ => (pv 7)))
      (pss_cons (ps_for PassesOwn.never rfl (piL K (pv 4)) (pg_name (i := 5) sc_is_balance.nd rfl (Or.inl rfl)) (pss_cons (ps_set (i := 6) sc_is_balance.nd rfl (Or.inr rfl) (pe_callC C_reached hr (by decide) (by rfl) (pa_cons (pv 1) (pa_cons (pv 4) (pa_cons (pv 5) pa_nil)))))
      (pss_one (ps_if (pt_cmpR op_gt (pe_op op_mul pe_int (pe_callB (lenS K) (by rfl) T.b_len (by decide +kernel) (pa_cons (pe_lc (own := [("top", 8)]) rfl sc_is_balance.nd (piL K (pv 0)) (blkOk_by (by kernel_rfl)) (fun _ _ _ _ _ => (pg_name (i := 8) sc_is_balance.nd rfl (Or.inl rfl))) (fun _ _ _ _ _ => (pts_one (pt_cmpR (inS K) (pv 8) (pv 6) (by rfl)))) (fun _ _ _ _ _ => (pv 8))) pa_nil))) (pe_callB (lenS K) (by rfl) T.b_len (by decide +kernel) (pa_cons (pv 0) pa_nil)) (nomark _)) (pss_one (ps_ret pe_bl)) pss_nil))))
      (pss_one (ps_ret pe_bl)))), ?_⟩
  have fl : (names.filter fun x => !decide (x = c)).length ≤ names.length := List.length_filter_le _ _
  refine q_asgL (xs := (names.filter fun x => !decide (x = c)).map V.int) (el_lcM names V.int (fun x => !decide (x = c)) V.int (ev_var rfl) hd (by omega) (fun _ => rfl) (fun x hx H1 e1 => et_test (ev_is (ev_op (ev_var rfl) (ev_var rfl) (rv_ne rfl)) ?_)) fun x hx H1 e1 _ => ev_var rfl) fun p H1 n1 e1 h1 => ?_
  · congr 2
    rw [decide_eq_decide]
    exact ⟨fun h => by injection h, fun h => by rw [h]⟩
  refine qo_M (names.filter fun x => !decide (x = c)) V.int (ev_var rfl) (sq_of h1) (fun pre σ' H' => ∃ y5 y6 y7 y8, σ' = [some (.ref a), some (.ref b), some (.ref d), some (.int c), some (.ref p), y5, y6, y7, y8]) (fun _ _ => ⟨_, _, _, _, rfl⟩) ?_ ?_
  · rintro pre z post σ' H' eq e ⟨y5, y6, y7, y8, rfl⟩
    have mz : z ∈ names.filter fun x => !decide (x = c) := by rw [eq]; exact List.mem_append_right _ List.mem_cons_self
    have e02 := e1.trans e
    refine inSeq (inSet (inCall (goA (ea_three (ev_var rfl) (ev_var rfl) (ev_var rfl)) fun H3 e3 => ⟨b, p, ts, _, z, rfl, hb.ex (e02.trans e3), sq_of (e3 _ _ (e _ _ h1)), by omega, fun r hr p4 H4 n4 e4 h4 => ?_⟩)))
    have e04 := (e02.trans e3).trans e4
    have fl2 : (tops.filter fun x => decide (x ∈ r)).length ≤ tops.length := List.length_filter_le _ _
    refine s_when (b := decide (2 * ((tops.filter fun x => decide (x ∈ r)).length : Int) > (tops.length : Int))) (et_test (ev_is (ev_op (ev_op ev_c (ev_lenN (el_lcM tops V.int (fun x => decide (x ∈ r)) V.int (ev_var rfl) (ex_l e04 ha) (by omega) (fun _ => rfl)
      (fun x hx H5 e5 => et_test (ev_inI (ev_var rfl) (ev_var rfl) (sq_of (e5 _ _ h4)))) fun x hx H5 e5 _ => ev_var rfl)) (rv_I (.inl ⟨by omega, by omega⟩))) (ev_len (ev_var rfl) (ex_l e04 ha)) rv_I0) (by rw [List.length_map, List.length_map]))) (fun hb2 H5 e5 => ?_) fun _ H5 e5 => ⟨((e.trans e3).trans e4).trans e5, _, _, _, _, rfl⟩
    have hb2 := of_decide_eq_true hb2
    obtain ⟨m1, m2⟩ := List.mem_filter.mp mz
    refine s_ret ev_c fun H6 e6 => q false (fun G => ?_) H6 ((e04.trans e5).trans e6)
    have := G z m1 (by simpa using m2) r hr
    omega
  · rintro σ' H' e ⟨y5, y6, y7, y8, rfl⟩
    exact s_ret ev_c fun H6 e6 => q true (fun _ => rfl) H6 ((e1.trans e).trans e6)
def spBalance (K : PySem.W.Frag) : Sp := fun vs H Q _ => ∃ (a b : Addr) (ps : List (Addr × List Int)) (names : List Int) (ts : List (Addr × Tie)), vs = [.ref a, .ref b] ∧ LL K H a ps ∧ LT K H b ts ∧ Fk names ps ∧ TreeW names (ts.map (·.2)) ∧ Told H Q
theorem c_balance (T : Tx w K mg) (C_names_by : Callee P w K mg base "names_by" 6 ["folk"] (spNames K)) (C_must_be_tree : Callee P w K mg base "must_be_tree" 4 ["names", "tree"] (spTreeOk K .non)) (C_is_balance : Callee P w K mg base "is_balance" 2 ["tops", "tree", "names", "name"] (spBal K)) : Callee P w K mg base "balance" 7 ["folk", "tree"] (spBalance K) := by
  refine callee_of T.F_balance T.g_balance sc_balance (fun _ _ _ _ _ _ us hl => match us, hl with | [_, _], _ => rfl) (fun vs H Q E h => ?_) fun cdv A outer s H vs Q E hr h => ?_
  · obtain ⟨a, b, ps, names, ts, rfl, ha, hb, F, W, q⟩ := h
    rfl
  obtain ⟨a, b, ps, names, ts, rfl, ha, hb, F, W, q⟩ := h
  refine ⟨_, (pss_cons (ps_set (i := 2) sc_balance.nd rfl (Or.inr rfl) (pe_callC C_names_by hr (by decide) (by rfl) (pa_cons (pv 0) pa_nil)))
      (pss_cons (ps_expr (pe_callC C_must_be_tree hr (by decide) (by rfl) (pa_cons (pv 2) (pa_cons (pv 1) pa_nil))))
      (pss_cons (ps_set (i := 3) sc_balance.nd rfl (Or.inr rfl) (pe_lc (own := [("ranking", 4)]) rfl sc_balance.nd (piL K (pv 0)) (blkOk_by (by kernel_rfl)) (fun _ _ _ _ _ => (pg_name (i := 4) sc_balance.nd rfl (Or.inl rfl))) (fun _ _ _ _ _ => pts_nil) (fun _ _ _ _ _ => (pe_ix (ixL K) (pv 4) pe_int (fun _ _ => rfl)))))
      (pss_one (ps_ret (pe_ix (ixL K) (pe_lc (own := [("name", 5)]) rfl sc_balance.nd (piL K (pv 2)) (blkOk_by (by kernel_rfl)) (fun _ _ _ _ _ => (pg_name (i := 5) sc_balance.nd rfl (Or.inl rfl))) (fun _ _ _ _ _ => (pts_one (pt_val (pe_callC C_is_balance hr (by decide) (by rfl) (pa_cons (pv 3) (pa_cons (pv 1) (pa_cons (pv 2) (pa_cons (pv 5) pa_nil)))))))) (fun _ _ _ _ _ => (pv 5))) pe_int (fun _ _ => rfl))))))), ?_⟩
  have f3 := F.few
  have f2 := F.most
  refine q_asgL (xs := names.map V.int) (el_callL (ea_one (ev_var rfl)) fun H1 e1 Q q => ⟨a, ps, names, rfl, ha.ex e1, F, q⟩) fun p H1 n1 e1 h1 => ?_
  refine q_drop (ev_callV (v := .non) (ea_two (ev_var rfl) (ev_var rfl)) fun H2 e2 Q q => ⟨p, b, names, ts, rfl, sq_of (e2 _ _ h1), hb.ex (e1.trans e2), W, q⟩) fun H2 e2 => ?_
  have e02 := e1.trans e2
  have hne : ∀ r ∈ ps, ∃ x, r.2[0]? = some x ∧ x ∈ names := fun r hr => by
    have h1 := (F.rk hr).some
    exact ⟨r.2[0], List.getElem?_eq_getElem h1, (F.perm r hr).mem_iff.mp (List.getElem_mem h1)⟩
  refine q_asgL (xs := (ps.map fun r => r.2.headD 0).map V.int) (el_is (el_lcM ps (fun r => V.ref r.1) (fun _ => true) (fun r => V.int (r.2.headD 0)) (ev_var rfl) (ha.ex e02).1 (by omega) (fun _ => rfl) (fun _ _ _ _ => et_none rfl) fun r hr H3 e3 _ => ?_) (by rw [filter_all, List.map_map]; rfl)) fun p3 H3 n3 e3 h3 => ?_
  · obtain ⟨x, hx, _⟩ := hne r hr
    have e : r.2.headD 0 = x := by
      cases hh : r.2 with
      | nil => rw [hh] at hx; cases hx
      | cons y l => rw [hh] at hx; exact Option.some.inj hx
    rw [e]
    exact ev_ixL (ev_var rfl) ev_c (ex_l (e02.trans e3) (ha.2 r hr)) (at0 V.int hx)
  have e03 := e02.trans e3
  have tops_in : ∀ x ∈ ps.map fun r => r.2.headD 0, x ∈ names := fun x hx => by
    obtain ⟨r, hr, rfl⟩ := List.mem_map.mp hx
    obtain ⟨x, hx, hm⟩ := hne r hr
    cases hh : r.2 with
    | nil => rw [hh] at hx; cases hx
    | cons y l =>
      rw [hh] at hx
      have : y = x := Option.some.inj hx
      exact this ▸ hm
  have lt : (ps.map fun r => r.2.headD 0).length = ps.length := List.length_map ..
  generalize (ps.map fun r => r.2.headD 0) = tops at h3 tops_in lt
  have f1 := F.least
  refine inRet (inOp (lc_T names V.int (fun c b => Good (ts.map (·.2)) names tops c → b = true) V.int (ev_var rfl) (sq_of (e3 _ _ (e2 _ _ h1))) (by omega) (fun _ => rfl) (fun c hc H4 e4 Q k => ?_) (fun c hc H4 e4 => ev_var rfl) fun p5 ys H5 n5 e5 h5 all sub => ?_))
  · refine inB (inCall (goA (ea_cons (ev_var rfl) (ea_three (ev_var rfl) (ev_var rfl) (ev_var rfl))) fun H6 e6 => ⟨p3, b, p, ts, tops, names, c, rfl, sq_of (e6 _ _ (e4 _ _ h3)), hb.ex ((e03.trans e4).trans e6), sq_of (e6 _ _ (e4 _ _ (e3 _ _ (e2 _ _ h1)))), by omega, f3, fun r hr H7 e7 => ⟨r, rfl, k r H7 (e6.trans e7) hr⟩⟩))
  · obtain ⟨o, par, ok⟩ := W.ok
    obtain ⟨c, hc, hG⟩ := ok.balance W.some tops tops_in (fun z => by rw [z] at lt; rw [List.length_nil] at lt; omega)
    have mc : c ∈ ys := all c hc fun b hb => hb fun first hf hne r hr => hG first hf hne _ r (fun x => by rw [List.mem_filter]; simp) hr
    obtain ⟨y, more, hy⟩ : ∃ y more, ys = y :: more := by
      cases ys with
      | nil => exact nomatch mc
      | cons y more => exact ⟨y, more, rfl⟩
    subst hy
    refine go ev_c fun H6 e6 => ⟨p5, _, 0, .int y, rfl, rfl, sq_of (e6 _ _ h5), at0 V.int rfl, q.int ((e03.trans e5).trans e6) y⟩
/-! ### does_fall -/
theorem idx_mid {l pre post : List Int} {z : Int} (h : l = pre ++ z :: post) (nd : l.Nodup) : l.idxOf z = pre.length := by
  subst h
  have hn : z ∉ pre := fun hz => (List.nodup_append.mp nd).2.2 z hz z List.mem_cons_self rfl
  rw [List.idxOf_append, if_neg hn, List.idxOf_cons_self]
  omega
def spFall (K : PySem.W.Frag) : Sp := fun vs H Q _ => ∃ (a b : Addr) (r : List Int), vs = [.ref a, .ref b] ∧ LI K H a r ∧ LI K H b r ∧ Rk r ∧ RetV (.bl true) H Q
theorem c_does_fall (T : Tx w K mg)  : Callee P w K mg base "does_fall" 1 ["line", "ranking"] (spFall K) := by
  refine callee_of T.F_does_fall T.g_does_fall sc_does_fall (fun _ _ _ _ _ _ us hl => match us, hl with | [_, _], _ => rfl) (fun vs H Q E h => ?_) fun cdv A outer s H vs Q E hr h => ?_
  · obtain ⟨a, b, r, rfl, ha, hb, R, q⟩ := h
    rfl
  obtain ⟨a, b, r, rfl, ha, hb, R, q⟩ := h
  refine ⟨_, (pss_cons (ps_set (i := 2) sc_does_fall.nd rfl (Or.inl rfl) (bmK K PySem.F.plainAttrs_list PySem.F.slot_list_index PySem.F.type_list_index (mtIdx K) (pv 0) (pa_cons (pe_ix (ixL K) (pv 1) pe_int (fun _ _ => rfl)) pa_nil)))
      (pss_cons (ps_set (i := 3) sc_does_fall.nd rfl (Or.inl rfl) (pv 2))
      (pss_cons (ps_for PassesOwn.never rfl (piL K (pe_slice (slL K) (pv 1) (po_some pe_int) po_none)) (pg_name (i := 4) sc_does_fall.nd rfl (Or.inl rfl)) (pss_cons (ps_set (i := 5) sc_does_fall.nd rfl (Or.inl rfl) (bmK K PySem.F.plainAttrs_list PySem.F.slot_list_index PySem.F.type_list_index (mtIdx K) (pv 0) (pa_cons (pv 4) pa_nil)))
      (pss_cons (ps_if (PW.pt (pw_and (pt_cmpR op_ne (pv 5) (pe_op op_sub (pv 2) pe_int) (nomark _)) (pw_and1 (pt_cmpR op_ne (pv 5) (pe_op op_add (pv 3) pe_int) (nomark _))))) (pss_one (ps_ret pe_bl)) pss_nil)
      (pss_cons (ps_set (i := 2) sc_does_fall.nd rfl (Or.inl rfl) (pe_callB (call_min2 rfl) (by rfl) T.b_min (by decide +kernel) (pa_cons (pv 2) (pa_cons (pv 5) pa_nil))))
      (pss_one (ps_set (i := 3) sc_does_fall.nd rfl (Or.inl rfl) (pe_callB (call_max2 rfl) (by rfl) T.b_max (by decide +kernel) (pa_cons (pv 3) (pa_cons (pv 5) pa_nil)))))))))
      (pss_one (ps_ret pe_bl))))), ?_⟩
  obtain ⟨x, rest, hx⟩ : ∃ x rest, r = x :: rest := by
    cases hr : r with
    | nil => exact absurd (hr ▸ R.some) (by decide)
    | cons x rest => exact ⟨x, rest, rfl⟩
  have nd := R.nd
  subst hx
  have f := R.few
  rw [List.length_cons] at f
  refine q_asg (v := .int 0) (ev_is (ev_idx (ev_var rfl) ha (ev_ixL (ev_var rfl) ev_c hb (at0 V.int rfl)) List.mem_cons_self) (by rw [List.idxOf_cons_self]; rfl)) fun H1 e1 => ?_
  refine q_asg (ev_var rfl) fun H2 e2 => ?_
  have e02 := e1.trans e2
  refine inSeq (inFor (goL (el_sl (lo := some ((1 : Nat) : Int)) (hi := none) (ev_var rfl) (eo_some ev_c) eo_none (ex_l e02 hb)) fun p H3 n3 e3 h3 => ?_))
  rw [cut_from, ← List.map_drop] at h3
  have h3 : H3 p = some (.lst (rest.map V.int)) := h3
  have e03 := e02.trans e3
  refine fo_M rest V.int ev_c (sq_of h3) (fun pre σ' H' => ∃ y4 y5, σ' = [some (.ref a), some (.ref b), some (.int 0), some (.int (pre.length : Nat)), y4, y5]) (fun _ _ => ⟨_, _, rfl⟩) ?_ ?_
  · rintro pre z post σ' H' eq e ⟨y4, y5, rfl⟩
    have at_ : (x :: rest).idxOf z = pre.length + 1 := idx_mid (pre := x :: pre) (by rw [eq]; rfl) nd
    have mz : z ∈ x :: rest := by rw [eq]; simp
    refine q_asg (v := .int ((pre.length : Nat) + 1)) (ev_is (ev_idx (ev_var rfl) (ex_l (e03.trans e) ha) (ev_var rfl) mz) (by rw [at_]; rfl)) fun H4 e4 => ?_
    refine q_when (b := true && false) (et_and (et_test (ev_is (ev_op (ev_var rfl) (ev_op (ev_var rfl) ev_c rv_I0) (rv_ne rfl)) ?_)) fun _ => et_test (ev_is (ev_op (ev_var rfl) (ev_op (ev_var rfl) ev_c rv_I0) (rv_ne rfl)) ?_)) (fun z => nomatch z) fun _ H5 e5 => ?_
    · refine congrArg V.bl ?_
      rw [decide_eq_false (fun h => by have := V.int.inj h; omega)]
      rfl
    · rw [decide_eq_true rfl]
      rfl
    · refine q_asg (v := .int 0) (ev_is (ev_min2 (ev_var rfl) (ev_var rfl)) (congrArg V.int (by omega))) fun H6 e6 => ?_
      refine s_asg (v := .int ((pre.length : Nat) + 1)) (ev_is (ev_maxI (ev_var rfl) (ev_var rfl)) (congrArg V.int (by omega))) fun H7 e7 => ⟨(((e.trans e4).trans e5).trans e6).trans e7, some (.int z), some (.int ((pre.length : Nat) + 1)), ?_⟩
      rw [List.length_append]
      rfl
  · rintro σ' H' e ⟨y4, y5, rfl⟩
    dsimp only
    exact s_ret ev_c fun H6 e6 => q H6 ((e03.trans e).trans e6)
end
end Ol
namespace Ol
open PySem PySem.Spec PyProof.Rows L2 Evl
/-! ### what the top's dicts and lists hold -/
structure Exs (K : PySem.W.Frag) : Prop where
  cross : ∃ u, PySem.W.nsIn K (He.ga K "FORMS") "cross" = some (some u) ∧ RelV (.ref (crossAd K)) u
  cCome : ∃ u, PySem.W.nsIn K (He.ga K "COUNTS") "come" = some (some u) ∧ RelV (.int 3) u
  cHands : ∃ u, PySem.W.nsIn K (He.ga K "COUNTS") "hands" = some (some u) ∧ RelV (.int 1) u
  cShow : ∃ u, PySem.W.nsIn K (He.ga K "COUNTS") "show" = some (some u) ∧ RelV (.int 2) u
  cFalls : PySem.W.nsIn K (He.ga K "COUNTS") "falls" = some none
  aFalls : PySem.W.nsIn K (He.ga K "ASKED") "falls" = some none
  aCome : PySem.W.nsIn K (He.ga K "ASKED") "come" = some none
  lFalls : ∃ u, PySem.W.nsIn K (He.ga K "ALONG") "falls" = some (some u) ∧ RelV (.int 2) u
  lCome : PySem.W.nsIn K (He.ga K "ALONG") "come" = some none
  lists : ∀ H, SqL K H (He.ga K "LISTS") [.str "line", .str "row", .str "gone", .str "order", .str "ring"]
  tup : ∀ H, SqT K H (crossAd K) [.int 4, .int 2, .int 2]
theorem exs_of {K : PySem.W.Frag} (h : exB K = true) : Exs K := by
  unfold exB at h
  simp only [Bool.and_eq_true] at h
  obtain ⟨⟨⟨⟨⟨⟨⟨⟨⟨⟨h1, h2⟩, h3⟩, h4⟩, h5⟩, h6⟩, h7⟩, h8⟩, h9⟩, h10⟩, h11⟩ := h
  refine ⟨keyB_ok h1, keyB_ok h2, keyB_ok h3, keyB_ok h4, keyB_no h5, keyB_no h6, keyB_no h7, keyB_ok h8, keyB_no h9, He.lstB_ok h10, fun H => ?_⟩
  split at h11
  · rename_i c d its n sl q
    simp only [Bool.and_eq_true, decide_eq_true_eq] at h11
    obtain ⟨k1, k2, k3⟩ := h11
    exact .inr ⟨_, its, n, q, congrArg Value.type k1, rfl, k2, He.relAll_ok k3⟩
  · exact absurd h11 (by decide)
/-! ### cuts -/
theorem cut_init (xs : List V) (z : V) : cutV (xs ++ [z]) none (some (-1)) = xs := by
  unfold cutV
  have e : HT.sIx (xs ++ [z]).length (xs ++ [z]).length (some (-1)) = xs.length := by
    show (if (-1 : Int) < 0 then ((-1 : Int) + ((xs ++ [z]).length : Int)).toNat else min (-1 : Int).toNat (xs ++ [z]).length) = xs.length
    rw [if_pos (by decide), List.length_append, List.length_singleton]
    omega
  rw [e, HT.sIx_none]
  simp
/-! ### lists of lists of ints, as data -/
def dL (rs : List (List Int)) : PyData := .list (rs.map dI)
theorem dp_L {K : PySem.W.Frag} {H : Hp} {a : Addr} {ps : List (Addr × List Int)} (h : LL K H a ps) : Dp K H (.ref a) (dL (ps.map (·.2))) := by
  unfold dL
  rw [List.map_map]
  exact .lst h.1 (dpAll_map (fun p : Addr × List Int => V.ref p.1) _ ps fun p hp => dp_I (h.2 p hp))
theorem flat_L (rs : List (List Int)) : Flat 2 (dL rs) := flat_list fun d hd => by
  obtain ⟨t, _, rfl⟩ := List.mem_map.mp hd
  exact flat_I t
theorem tidy_L (rs : List (List Int)) (h : rs.length ≤ 1000) (h2 : ∀ r ∈ rs, r.length ≤ 1000) : tidy (dL rs) = true := tidy_list (by rw [List.length_map]; exact h) (fun d hd => by obtain ⟨n, _, rfl⟩ := List.mem_map.mp hd; rfl) fun d hd => by
  obtain ⟨n, hn, rfl⟩ := List.mem_map.mp hd
  exact tidy_I n (h2 n hn)
theorem own_lists {H : Hp} : ∀ ps : List (Addr × List Int), (∀ p ∈ ps, H p.1 = some (.lst (p.2.map V.int))) → OwnAll H (ps.map fun p => V.ref p.1) (ps.map fun p => dI p.2) (ps.map (·.1))
  | [], _ => .nil
  | p :: ps, h => .cons (S := [p.1]) (own_I (h p List.mem_cons_self)) (own_lists ps fun q hq => h q (List.mem_cons_of_mem _ hq))
theorem own_L {H : Hp} {a : Addr} {ps : List (Addr × List Int)} (h : H a = some (.lst (ps.map fun p => V.ref p.1))) (hp : ∀ p ∈ ps, H p.1 = some (.lst (p.2.map V.int))) : Own H (.ref a) (dL (ps.map (·.2))) (a :: ps.map (·.1)) := by
  unfold dL
  rw [List.map_map]
  exact .lst h (own_lists ps hp)
section
variable {K : PySem.W.Frag} {σ : L2.St} {H H' : Hp} {ta tb te tl to : TE} {t u : TT} {x y z v : V} {a : Addr} {D : Ends} {tz tu : TS} {g : TG} {s : TA}
/-- a list of lists against [] -/
theorem rv_neNil {ps : List (Addr × List Int)} {b : Addr} (h : LL K H a ps) (hb : SqL K H b []) : RV (rNeD K) (.ref a) (.ref b) H (.bl (!decide (ps = []))) := rv_of fun H1 e Q k =>
  ⟨_, .list [], dp_L (h.ex e), .lst (ex_l e hb) .nil, (flat_L _).shaped (by omega), flat_nil.shaped (by omega), by
    have : PyData.eqv (dL (ps.map (·.2))) (.list []) = decide (ps = []) := by
      unfold dL
      rw [PyData.eqv]
      cases ps with
      | nil => rfl
      | cons r rs => rfl
    rw [this]
    exact k⟩
theorem rv_eqNil {ps : List (Addr × List Int)} {b : Addr} (h : LL K H a ps) (hb : SqL K H b []) : RV (rEqD K) (.ref a) (.ref b) H (.bl (decide (ps = []))) := rv_of fun H1 e Q k =>
  ⟨_, .list [], dp_L (h.ex e), .lst (ex_l e hb) .nil, (flat_L _).shaped (by omega), flat_nil.shaped (by omega), by
    have : PyData.eqv (dL (ps.map (·.2))) (.list []) = decide (ps = []) := by
      unfold dL
      rw [PyData.eqv]
      cases ps with
      | nil => rfl
      | cons r rs => rfl
    rw [this]
    exact k⟩
theorem Told.lists {H H' : Hp} {Q : VK} (k : Told H Q) (e : Ex H H') {p : Addr} {ps : List (Addr × List Int)} (n : H p = none) (h : H' p = some (.lst (ps.map fun p => V.ref p.1))) (hp : ∀ q ∈ ps, H q.1 = none ∧ H' q.1 = some (.lst (q.2.map V.int)))
    (nd : (p :: ps.map (·.1)).Nodup) (hl : ps.length ≤ 1000) (hl2 : ∀ q ∈ ps, q.2.length ≤ 1000) : Q (.ref p) H' := k _ _ _ H' e (own_L h fun q hq => (hp q hq).2) nd (fun a ha => by
  rcases List.mem_cons.mp ha with rfl | ha
  · exact n
  · obtain ⟨q, hq, rfl⟩ := List.mem_map.mp ha
    exact (hp q hq).1) ((flat_L _).mono (by omega)) (tidy_L _ (by rw [List.length_map]; exact hl) fun r hr => by
  obtain ⟨q, hq, rfl⟩ := List.mem_map.mp hr
  exact hl2 q hq)
theorem inForE {D : Ends} (h : ta σ H fun x H1 => tFor (iEnum K (tCons (tC x) tNil)) g tu D σ H1) : tFor (iEnum K (tCons ta tNil)) g tu D σ H := h
theorem fo_EW {α : Type} (l : List α) (φ : α → V) {i j : Nat} (h : EvA s σ H [.ref a]) (hx : SqL K H a (l.map φ)) (Pv : List α → L2.St → Hp → Prop) (hkk : ∀ pre σ' H', Pv pre σ' H' → SqL K H' a (l.map φ)) (h0 : ∀ H1, Ex H H1 → Pv [] σ H1)
    (hs : ∀ pre z post σ' H' H'', l = pre ++ z :: post → Pv pre σ' H' → Ex H' H'' → tu { D with nx := fun σ3 H3 => Pv (pre ++ [z]) σ3 H3, ct := fun σ3 H3 => Pv (pre ++ [z]) σ3 H3, bk := D.nx } ((σ'.set i (some (.int (pre.length : Nat)))).set j (some (φ z))) H'')
    (hd : ∀ σ' H', Pv l σ' H' → D.nx σ' H') : tFor (iEnum K s) (gTup K 2 (gCons (gName i) (gCons (gName j) gNil))) tu D σ H := h H (Ex.refl H) _ fun H1 e1 => ⟨a, _, rfl, ex_l e1 hx, by
    refine ⟨fun k m σ' H' => m = l.length - k ∧ k ≤ l.length ∧ Pv (l.take k) σ' H', ⟨l.length, by omega, Nat.zero_le _, h0 H1 e1⟩, ?_⟩
    rintro k m σ' H' ⟨rfl, hk, p⟩
    have q := hkk _ _ _ p
    by_cases hlt : k < l.length
    · refine .inr ⟨⟨l.map φ, φ l[k], q, by simp [hlt]⟩, fun σ3 H3 => Pv (l.take (k + 1)) σ3 H3, fun σ3 H3 p' => ⟨l.length - (k + 1), by omega, rfl, hlt, p'⟩, fun x H2 y => ?_⟩
      obtain ⟨T, x2, rfl, nT, rfl, hy⟩ := y
      have hx2 := hy _ q
      rw [List.getElem?_map, List.getElem?_eq_getElem hlt] at hx2
      have hx3 : φ l[k] = x2 := Option.some.inj hx2
      subst hx3
      refine g_pair (st_of upd_same) ?_
      have split : l = l.take k ++ l[k] :: l.drop (k + 1) := by
        rw [← List.drop_eq_getElem_cons hlt, List.take_append_drop]
      have e2 : l.take (k + 1) = l.take k ++ [l[k]] := take_succ_of (List.getElem?_eq_getElem hlt)
      have := hs (l.take k) l[k] _ σ' H' _ split p (Ex.new (o := .tup [.int (k : Nat), φ l[k]]) nT)
      rw [← e2, List.length_take, Nat.min_eq_left (Nat.le_of_lt hlt)] at this
      exact this
    · have ek : k = l.length := by omega
      subst ek
      rw [List.take_length] at p
      exact .inl ⟨⟨_, q, by rw [List.length_map]; exact Nat.le_refl _⟩, hd σ' H' p⟩⟩
theorem fo_ETW {α : Type} (l : List α) (φ : α → V) {i j : Nat} (h : EvA s σ H [.ref a]) (hx : ∀ H', SqT K H' a (l.map φ)) (Pv : List α → L2.St → Hp → Prop) (h0 : ∀ H1, Ex H H1 → Pv [] σ H1)
    (hs : ∀ pre z post σ' H' H'', l = pre ++ z :: post → Pv pre σ' H' → Ex H' H'' → tu { D with nx := fun σ3 H3 => Pv (pre ++ [z]) σ3 H3, ct := fun σ3 H3 => Pv (pre ++ [z]) σ3 H3, bk := D.nx } ((σ'.set i (some (.int (pre.length : Nat)))).set j (some (φ z))) H'')
    (hd : ∀ σ' H', Pv l σ' H' → D.nx σ' H') : tFor (iEnumT K s) (gTup K 2 (gCons (gName i) (gCons (gName j) gNil))) tu D σ H := h H (Ex.refl H) _ fun H1 e1 => ⟨a, _, rfl, hx _, by
    refine ⟨fun k m σ' H' => m = l.length - k ∧ k ≤ l.length ∧ Pv (l.take k) σ' H', ⟨l.length, by omega, Nat.zero_le _, h0 H1 e1⟩, ?_⟩
    rintro k m σ' H' ⟨rfl, hk, p⟩
    have q := hx H'
    by_cases hlt : k < l.length
    · refine .inr ⟨⟨l.map φ, φ l[k], q, by simp [hlt]⟩, fun σ3 H3 => Pv (l.take (k + 1)) σ3 H3, fun σ3 H3 p' => ⟨l.length - (k + 1), by omega, rfl, hlt, p'⟩, fun x H2 y => ?_⟩
      obtain ⟨T, x2, rfl, nT, rfl, hy⟩ := y
      have hx2 := hy _ q
      rw [List.getElem?_map, List.getElem?_eq_getElem hlt] at hx2
      have hx3 : φ l[k] = x2 := Option.some.inj hx2
      subst hx3
      refine g_pair (st_of upd_same) ?_
      have split : l = l.take k ++ l[k] :: l.drop (k + 1) := by
        rw [← List.drop_eq_getElem_cons hlt, List.take_append_drop]
      have e2 : l.take (k + 1) = l.take k ++ [l[k]] := take_succ_of (List.getElem?_eq_getElem hlt)
      have := hs (l.take k) l[k] _ σ' H' _ split p (Ex.new (o := .tup [.int (k : Nat), φ l[k]]) nT)
      rw [← e2, List.length_take, Nat.min_eq_left (Nat.le_of_lt hlt)] at this
      exact this
    · have ek : k = l.length := by omega
      subst ek
      rw [List.take_length] at p
      exact .inl ⟨⟨_, q, by rw [List.length_map]; exact Nat.le_refl _⟩, hd σ' H' p⟩⟩
theorem inV_non : ∀ ns : List Int, inV .non (ns.map V.int) = false
  | [] => rfl
  | n :: ns => inV_non ns
end
section
variable {X : Cx} {o value : Expr} {f : Str} {pos pos' : Pos} {ta tv : TE} {D : Ends} {σ : L2.St} {H : Hp}
theorem fldS (K : PySem.W.Frag) (ha : PE X o ta) (hv : PE X value tv) (hs : swapsWith value (some (.Attribute o f pos')) pos.line X.env = pure false) (h : X.K = K := by rfl) : PS X (.Assign [.Attribute o f pos'] value pos) (sFld K ta tv f) := h ▸ ps_fld ha hv hs
theorem inFld {K : PySem.W.Frag} (h : tv σ H fun y H1 => ta σ H1 fun x H2 => ∃ a C dx fs, x = .ref a ∧ H2 a = some (.ins C dx fs) ∧ Cls K C ∧ NoAttr K C f ∧ fs.length < 1000 ∧ D.nx σ (upd H2 a (.ins C dx (putF f y fs)))) : sFld K ta tv f D σ H := h
end
end Ol
namespace Ol
open PySem PySem.Spec PyProof.Rows L2 Evl
section
variable {P : Program} {w : World} {K : PySem.W.Frag} {mg : Str → Option Value} {base : Heap}
/-! ### number_of, ranking_of, in_one, read_ranking -/
def spNumOf : Sp := fun vs H Q _ => ∃ n : Int, vs = [.str (nS n)] ∧ NumOk n ∧ RetV (.int n) H Q
theorem c_number_of (T : Tx w K mg)  : Callee P w K mg base "number_of" 1 ["word"] spNumOf := by
  refine callee_of T.F_number_of T.g_number_of sc_number_of (fun _ _ _ _ _ _ us hl => match us, hl with | [_], _ => rfl) (fun vs H Q E h => ?_) fun cdv A outer s H vs Q E hr h => ?_
  · obtain ⟨n, rfl, ok, q⟩ := h
    rfl
  obtain ⟨n, rfl, ok, q⟩ := h
  refine ⟨_, (pss_cons (ps_if (PW.pt (pw_or (pt_cmpR op_eq (pv 0) pe_str (nomark _)) (pw_or (pt_cmpR op_gt (pe_callB call_len_str (by rfl) T.b_len (by decide +kernel) (pa_cons (pv 0) pa_nil)) (pe_globI (by rfl) T.i_MOST_FIGURES) (nomark _)) (pw_or1 (pt_not (pt_val (pe_callB (allR K) (by rfl) T.b_all (by decide +kernel) (pa_cons (pe_lc (own := [("sign", 1)]) rfl sc_number_of.nd (pi_str (pv 0)) (blkOk_by (by kernel_rfl)) (fun _ _ _ _ _ => (pg_name (i := 1) sc_number_of.nd rfl (Or.inl rfl))) (fun _ _ _ _ _ => pts_nil) (fun _ _ _ _ _ => (pe_cmpR op_in_sign (pv 1) (pe_globS (by rfl) T.t_FIGURES) (by rfl)))) pa_nil)))))))) (pss_one (ps_ret pe_non)) pss_nil)
      (pss_cons (ps_if (PW.pt (pw_and (pt_cmpR op_eq (pe_ix ix_str (pv 0) pe_int (fun _ _ => rfl)) pe_str (nomark _)) (pw_and1 (pt_cmpR op_ne (pv 0) pe_str (nomark _))))) (pss_one (ps_ret pe_non)) pss_nil)
      (pss_one (ps_ret (pe_callTy call_int_str (by rfl) T.b_int (by decide +kernel) (pa_cons (pv 0) pa_nil)))))), ?_⟩
  obtain ⟨l1, l2⟩ := nS_len ok
  have hd : TL.tl (nS n) = TL.numL n.toNat := tl_nS ok.1
  refine q_when (b := false) (et_or (a := false) (b := false) (et_test (ev_is (ev_op (ev_var rfl) ev_c (rv_eq rfl)) ?_)) fun _ => et_or (a := false) (b := false) (et_test (ev_is (ev_op (ev_lenS (ev_var rfl) (by omega)) ev_c rv_I0) ?_)) fun _ =>
    et_not (a := true) (et_B (ev_is (ev_all (bs := (nS n).cps.toList.map fun _ => true) (el_lcS (fun _ => true) (ev_var rfl) (by omega) (fun _ => rfl) fun c hc H1 e1 => ev_is (ev_inSign (ev_var rfl) ev_c) ?_)) ?_))) (fun z => nomatch z) fun _ H1 e1 => ?_
  · refine congrArg V.bl (decide_eq_false fun h => ?_)
    have h := V.str.inj h
    rw [h] at l2
    exact l2 (by decide +kernel)
  · rw [decide_eq_false (by omega)]
  · refine congrArg V.bl (decide_eq_true (figures c ?_))
    have hc : c ∈ TL.tl (nS n) := hc
    rw [hd] at hc
    exact TL.numL_digits _ c hc
  · refine congrArg V.bl ?_
    rw [List.all_map]
    simp
  obtain ⟨c, r, hcr⟩ : ∃ c r, TL.numL n.toNat = c :: r := by
    cases hh : TL.numL n.toNat with
    | nil => exact absurd hh (TL.numL_ne _)
    | cons c r => exact ⟨c, r, rfl⟩
  refine q_when (et_and (et_test (ev_op (ev_op (ev_var rfl) ev_c (rv_ixS (i := 0) (c := c) (by omega) (by
      have : (nS n).cps.toList = c :: r := hd.trans hcr
      rw [this]
      exact atI_nat (j := 0) rfl))) ev_c (rv_eq rfl))) fun _ => et_test (ev_op (ev_var rfl) ev_c (rv_ne rfl))) (fun h H2 e2 => ?_) fun _ H2 e2 => ?_
  · exfalso
    rw [Bool.and_eq_true, decide_eq_true_eq, Bool.not_eq_true', decide_eq_false_iff_not] at h
    obtain ⟨h1, h2⟩ := h
    have h1 := congrArg TL.tl (V.str.inj h1)
    have e0 : TL.tl (Str.ofString "0") = [48] := by decide +kernel
    rw [e0] at h1
    have h1 : [c] = [48] := h1
    injection h1 with h1 _
    subst h1
    rcases Nat.eq_zero_or_pos n.toNat with z | z
    · refine h2 (congrArg V.str (TL.ext_tl ?_))
      rw [hd, z, e0]
      decide +kernel
    · exact numL_head _ z r hcr
  · exact s_ret (ev_intS (ev_var rfl) (nS_int ok) (by omega)) fun H3 e3 => q H3 ((e1.trans e2).trans e3)
def spRankOf : Sp := fun vs H Q _ => ∃ r : List Int, vs = [.str (rS r)] ∧ Rk r ∧ (∀ n ∈ r, NumOk n) ∧ RetL (r.map V.int) H Q
theorem c_ranking_of (T : Tx w K mg) (C_number_of : Callee P w K mg base "number_of" 1 ["word"] spNumOf) (C_is_ranking : Callee P w K mg base "is_ranking" 3 ["thing"] (spRk K (.bl true))) : Callee P w K mg base "ranking_of" 4 ["word"] spRankOf := by
  refine callee_of T.F_ranking_of T.g_ranking_of sc_ranking_of (fun _ _ _ _ _ _ us hl => match us, hl with | [_], _ => rfl) (fun vs H Q E h => ?_) fun cdv A outer s H vs Q E hr h => ?_
  · obtain ⟨r, rfl, R, ok, q⟩ := h
    rfl
  obtain ⟨r, rfl, R, ok, q⟩ := h
  refine ⟨_, (pss_cons (ps_setLc (i := 1) (own := [("part", 2)]) rfl sc_ranking_of.nd rfl rfl (sw_true rfl rfl rfl (by decide +kernel)) (piL K (pe_split (pv 0) pe_str)) (blkOk_by (by kernel_rfl)) (fun _ _ _ _ _ => (pg_name (i := 2) sc_ranking_of.nd rfl (Or.inl rfl))) (fun _ _ _ _ _ => pts_nil) (fun _ _ _ _ _ => (pe_callC C_number_of hr (by decide) (by rfl) (pa_cons (pv 2) pa_nil))))
      (pss_cons (ps_if (PW.pt (pw_or (pt_cmpR (inS K) pe_non (pv 1) (by rfl)) (pw_or1 (pt_not (pt_val (pe_callC C_is_ranking hr (by decide) (by rfl) (pa_cons (pv 1) pa_nil))))))) (pss_one (ps_ret pe_non)) pss_nil)
      (pss_one (ps_ret (pv 1))))), ?_⟩
  have f := R.few
  have hne : r ≠ [] := List.length_pos_iff.mp R.some
  obtain ⟨l1, l2⟩ := rS_len ok f
  refine q_asgL (xs := r.map V.int) (el_is (el_lcNM r (fun n => V.str (nS n)) (fun _ => true) V.int (el_is (el_split (ev_var rfl) ev_c (by decide +kernel) (by omega)) (by rw [split_rS hne fun n hn => (ok n hn).1, List.map_map]; rfl)) (by omega) (fun _ => rfl) (fun _ _ _ _ => et_none rfl) fun n hn H1 e1 _ =>
    ev_callV (ea_one (ev_var rfl)) fun H2 e2 Q q => ⟨n, rfl, ok n hn, q⟩) (by rw [filter_all])) fun p H1 n1 e1 h1 => ?_
  refine q_when (b := false) (et_or (a := false) (b := false) (et_test (ev_is (ev_op ev_c (ev_var rfl) (rv_isL (sq_of h1) rfl (flat_ints r))) (by rw [inV_non]))) fun _ => et_not (a := true) (et_B (ev_callV (ea_one (ev_var rfl)) fun H2 e2 Q q => ⟨p, r, rfl, sq_of (e2 _ _ h1), R, q⟩))) (fun z => nomatch z) fun _ H2 e2 => ?_
  exact s_ret (ev_var rfl) fun H3 e3 => q.go (Ex.refl _) n1 ((e1.trans e2).trans e3) (e3 _ _ (e2 _ _ h1))
def spInOne (K : PySem.W.Frag) : Sp := fun vs H Q _ => ∃ (a : Addr) (r : List Int), vs = [.ref a] ∧ LI K H a r ∧ (∀ n ∈ r, NumOk n) ∧ r.length ≤ 10 ∧ RetV (.str (rS r)) H Q
theorem c_in_one (T : Tx w K mg)  : Callee P w K mg base "in_one" 1 ["ranking"] (spInOne K) := by
  refine callee_of T.F_in_one T.g_in_one sc_in_one (fun _ _ _ _ _ _ us hl => match us, hl with | [_], _ => rfl) (fun vs H Q E h => ?_) fun cdv A outer s H vs Q E hr h => ?_
  · obtain ⟨a, r, rfl, ha, ok, f, q⟩ := h
    rfl
  obtain ⟨a, r, rfl, ha, ok, f, q⟩ := h
  refine ⟨_, (pss_one (ps_ret (joinK K pe_str (pe_lc (own := [("name", 1)]) rfl sc_in_one.nd (piL K (pv 0)) (blkOk_by (by kernel_rfl)) (fun _ _ _ _ _ => (pg_name (i := 1) sc_in_one.nd rfl (Or.inl rfl))) (fun _ _ _ _ _ => pts_nil) (fun _ _ _ _ _ => (pe_callTy call_str_int (by rfl) T.b_str (by decide +kernel) (pa_cons (pv 1) pa_nil))))))), ?_⟩
  exact s_ret (ev_joinL ev_c (el_is (el_lcM r V.int (fun _ => true) (fun n => V.str (nS n)) (ev_var rfl) ha (by omega) (fun _ => rfl) (fun _ _ _ _ => et_none rfl) fun n hn H1 e1 _ => ev_strI (ev_var rfl) (ok n hn)) (by rw [filter_all, List.map_map]; rfl)) (rS_len ok f).2) q
theorem c_read_ranking (T : Tx w K mg) (C_ranking_of : Callee P w K mg base "ranking_of" 4 ["word"] spRankOf) : Callee P w K mg base "read_ranking" 5 ["word"] spRankOf := by
  refine callee_of T.F_read_ranking T.g_read_ranking sc_read_ranking (fun _ _ _ _ _ _ us hl => match us, hl with | [_], _ => rfl) (fun vs H Q E h => ?_) fun cdv A outer s H vs Q E hr h => ?_
  · obtain ⟨r, rfl, R, ok, q⟩ := h
    rfl
  obtain ⟨r, rfl, R, ok, q⟩ := h
  refine ⟨_, (pss_cons (ps_set (i := 1) sc_read_ranking.nd rfl (Or.inl rfl) (pe_callC C_ranking_of hr (by decide) (by rfl) (pa_cons (pv 0) pa_nil)))
      (pss_cons (ps_if (pt_cmpR op_isN (pv 1) pe_non (nomark _)) pss_never pss_nil)
      (pss_one (ps_ret (pv 1))))), ?_⟩
  refine q_asgL (xs := r.map V.int) (el_callL (ea_one (ev_var rfl)) fun H1 e1 Q q => ⟨r, rfl, R, ok, q⟩) fun p H1 n1 e1 h1 => ?_
  refine q_when (b := false) (et_test (ev_is (ev_op (ev_var rfl) ev_c (rv_of fun H2 e2 Q q => ⟨rfl, q⟩)) rfl)) (fun z => nomatch z) fun _ H2 e2 => ?_
  exact s_ret (ev_var rfl) fun H3 e3 => q.go (Ex.refl _) n1 ((e1.trans e2).trans e3) (e3 _ _ (e2 _ _ h1))
/-! ### folk_text, read_folk -/
def spFolkText (K : PySem.W.Frag) : Sp := fun vs H Q _ => ∃ (a : Addr) (ps : List (Addr × List Int)) (names : List Int), vs = [.ref a] ∧ LL K H a ps ∧ Fk names ps ∧ (∀ n ∈ names, NumOk n) ∧ RetV (.str (kS (ps.map (·.2)))) H Q
theorem c_folk_text (T : Tx w K mg) (C_must_be_folk : Callee P w K mg base "must_be_folk" 5 ["folk"] (spFk K .non)) (C_in_one : Callee P w K mg base "in_one" 1 ["ranking"] (spInOne K)) : Callee P w K mg base "folk_text" 6 ["folk"] (spFolkText K) := by
  refine callee_of T.F_folk_text T.g_folk_text sc_folk_text (fun _ _ _ _ _ _ us hl => match us, hl with | [_], _ => rfl) (fun vs H Q E h => ?_) fun cdv A outer s H vs Q E hr h => ?_
  · obtain ⟨a, ps, names, rfl, ha, F, ok, q⟩ := h
    rfl
  obtain ⟨a, ps, names, rfl, ha, F, ok, q⟩ := h
  refine ⟨_, (pss_cons (ps_expr (pe_callC C_must_be_folk hr (by decide) (by rfl) (pa_cons (pv 0) pa_nil)))
      (pss_one (ps_ret (joinK K pe_str (pe_lc (own := [("ranking", 1)]) rfl sc_folk_text.nd (piL K (pv 0)) (blkOk_by (by kernel_rfl)) (fun _ _ _ _ _ => (pg_name (i := 1) sc_folk_text.nd rfl (Or.inl rfl))) (fun _ _ _ _ _ => pts_nil) (fun _ _ _ _ _ => (pe_op op_add_str (pe_callC C_in_one hr (by decide) (by rfl) (pa_cons (pv 1) pa_nil)) pe_str))))))), ?_⟩
  have f3 := F.few
  have f2 := F.most
  have okp : ∀ p ∈ ps, (∀ n ∈ p.2, NumOk n) ∧ p.2.length ≤ 10 := fun p hp => ⟨fun n hn => ok n ((F.perm p hp).mem_iff.mp hn), by rw [(F.perm p hp).length_eq]; exact f3⟩
  refine q_drop (ev_callV (v := .non) (ea_one (ev_var rfl)) fun H1 e1 Q q => ⟨a, ps, names, rfl, ha.ex e1, F, q⟩) fun H1 e1 => ?_
  refine s_ret (ev_joinL (ys := (ps.map (·.2)).map fun r => rS r ++ Str.ofString "\n") ev_c (el_is (el_lcM ps (fun p => V.ref p.1) (fun _ => true) (fun p => V.str (rS p.2 ++ Str.ofString "\n")) (ev_var rfl) (ha.ex e1).1 (by omega) (fun _ => rfl) (fun _ _ _ _ => et_none rfl) fun p hp H2 e2 _ =>
    ev_addS (ev_callV (ea_one (ev_var rfl)) fun H3 e3 Q q => ⟨p.1, p.2, rfl, ex_l ((e1.trans e2).trans e3) (ha.2 p hp), (okp p hp).1, (okp p hp).2, q⟩) ev_c ?_) (by rw [filter_all, List.map_map, List.map_map]; rfl)) (kS_len (fun r hr => ?_) (by rw [List.length_map]; exact f2)).2) fun H2 e2 => q H2 (e1.trans e2)
  · have := (rS_len (okp p hp).1 (okp p hp).2).1
    have e1 : (Str.ofString "\n").length = 1 := by decide +kernel
    rw [e1]
    omega
  · obtain ⟨p, hp, rfl⟩ := List.mem_map.mp hr
    exact okp p hp
def spReadFolk : Sp := fun vs H Q _ => ∃ (rs : List (List Int)) (names : List Int), vs = [.str (kS rs)] ∧ (∀ r ∈ rs, r.Perm names) ∧ names.Pairwise (· < ·) ∧ (∀ n ∈ names, NumOk n) ∧ names.length ≤ 10 ∧ 0 < names.length ∧ 0 < rs.length ∧ rs.length ≤ 20 ∧ Told H Q
theorem c_read_folk (T : Tx w K mg) (C_ranking_of : Callee P w K mg base "ranking_of" 4 ["word"] spRankOf) : Callee P w K mg base "read_folk" 5 ["text"] spReadFolk := by
  refine callee_of T.F_read_folk T.g_read_folk sc_read_folk (fun _ _ _ _ _ _ us hl => match us, hl with | [_], _ => rfl) (fun vs H Q E h => ?_) fun cdv A outer s H vs Q E hr h => ?_
  · obtain ⟨rs, names, rfl, perm, up, ok, f3, f4, f1, f2, q⟩ := h
    rfl
  obtain ⟨rs, names, rfl, perm, up, ok, f3, f4, f1, f2, q⟩ := h
  refine ⟨_, (pss_cons (ps_set (i := 1) sc_read_folk.nd rfl (Or.inl rfl) (pe_split (pv 0) pe_str))
      (pss_cons (ps_set (i := 2) sc_read_folk.nd rfl (Or.inl rfl) (pe_lst pa_nil))
      (pss_cons (ps_for PassesOwn.never rfl (piE K (by rfl) T.b_enumerate (pa_cons (pe_slice (slL K) (pv 1) po_none (po_some (pe_un un_neg pe_int))) pa_nil)) (tupG K (n := 2) (pgs_cons (pg_name (i := 3) sc_read_folk.nd rfl (Or.inl rfl)) (pgs_cons (pg_name (i := 4) sc_read_folk.nd rfl (Or.inl rfl)) pgs_nil))) (pss_cons (ps_set (i := 5) sc_read_folk.nd rfl (Or.inl rfl) (pe_callC C_ranking_of hr (by decide) (by rfl) (pa_cons (pv 4) pa_nil)))
      (pss_cons (ps_if (PW.pt (pw_or (pt_cmpR op_isN (pv 5) pe_non (nomark _)) (pw_or (pt_cmpR op_ge (pv 3) (pe_globI (by rfl) T.i_MOST_HANDS) (nomark _)) (pw_or1 (PW.pt (pw_and (pt_cmpR (neD K hr.units) (pv 2) (pe_lst pa_nil) (nomark _)) (pw_and1 (pt_cmpR (neD K hr.units) (pe_callB (srtI K) (by rfl) T.b_sorted (by decide +kernel) (pa_cons (pv 5) pa_nil)) (pe_callB (srtI K) (by rfl) T.b_sorted (by decide +kernel) (pa_cons (pe_ix (ixL K) (pv 2) pe_int (fun _ _ => rfl)) pa_nil)) (nomark _))))))))) pss_never pss_nil)
      (pss_one (ps_expr (bmK K PySem.F.plainAttrs_list PySem.F.slot_list_append PySem.F.type_list_append mt_append (pv 2) (pa_cons (pv 5) pa_nil)))))))
      (pss_cons (ps_if (PW.pt (pw_or (pt_cmpR op_ne (pe_ix (ixL K) (pv 1) (pe_un un_neg pe_int) (fun _ _ => rfl)) pe_str (nomark _)) (pw_or1 (pt_cmpR (eqD K hr.units) (pv 2) (pe_lst pa_nil) (nomark _))))) pss_never pss_nil)
      (pss_one (ps_ret (pv 2))))))), ?_⟩
  have okr : ∀ r ∈ rs, (∀ n ∈ r, NumOk n) ∧ r.length ≤ 10 := fun r hr => ⟨fun n hn => ok n ((perm r hr).mem_iff.mp hn), by rw [(perm r hr).length_eq]; exact f3⟩
  have rk : ∀ r ∈ rs, Rk r := fun r hr => ⟨(perm r hr).nodup_iff.mpr (up_nd up), fun n hn => ((okr r hr).1 n hn).1, (okr r hr).2, by rw [(perm r hr).length_eq]; exact f4⟩
  have hl := (kS_len okr f2).1
  refine q_asgL (xs := (rs.map fun r => V.str (rS r)) ++ [.str (Str.ofString "")]) (el_is (el_split (ev_var rfl) ev_c (by decide +kernel) (by omega)) (by rw [split_kS fun r hr n hn => ((okr r hr).1 n hn).1, List.map_append, List.map_map]; rfl)) fun p1 H1 n1 e1 h1 => ?_
  refine q_asgL (xs := []) (el_lst ea_nil (by show 0 ≤ 100000; omega)) fun fq H2 n2 e2 h2 => ?_
  have e02 := e1.trans e2
  have nf : H fq = none := fresh_back e1 n2
  have np1 : p1 ≠ fq := fun z => by rw [z] at h1; rw [h1] at n2; cases n2
  refine inSeq (inForE (goL (el_sl (lo := none) (hi := some (-1)) (ev_var rfl) eo_none (eo_some (ev_un ev_c ru_neg)) (sq_of (e2 _ _ h1))) fun p3 H3 n3 e3 h3 => ?_))
  rw [cut_init] at h3
  have np3 : p3 ≠ fq := fun z => by rw [z, h2] at n3; cases n3
  have h23 := e3 _ _ h2
  refine fo_EW rs (fun r => V.str (rS r)) (ea_one ev_c) (sq_of h3) (fun pre σ' H' => ∃ (ps : List (Addr × List Int)) (y3 y4 y5 : Option V), σ' = [some (.str (kS rs)), some (.ref p1), some (.ref fq), y3, y4, y5] ∧ Ex H H' ∧ But fq H3 H' ∧ H' fq = some (.lst (ps.map fun p => V.ref p.1)) ∧ ps.map (·.2) = pre ∧
      (∀ p ∈ ps, H p.1 = none ∧ p.1 ≠ fq ∧ H' p.1 = some (.lst (p.2.map V.int))) ∧ (ps.map (·.1)).Nodup)
    (fun pre σ' H' ⟨ps, y3, y4, y5, _, _, b, _⟩ => sq_but (sq_of h3) np3 b) (fun H4 e4 => ⟨[], _, _, _, rfl, (e02.trans e3).trans e4, But.ex e4, e4 _ _ h23, rfl, (fun _ h => nomatch h), List.nodup_nil⟩) ?_ ?_
  · rintro pre z post σ' H' H'' eq ⟨ps, y3, y4, y5, rfl, e, b, hf, map, hps, nd⟩ e4
    have mz : z ∈ rs := by rw [eq]; exact List.mem_append_right _ List.mem_cons_self
    have hlen : ps.length < rs.length := by
      have := congrArg List.length map
      rw [List.length_map] at this
      rw [eq, List.length_append, List.length_cons]
      omega
    have hlen2 : pre.length = ps.length := by rw [← map, List.length_map]
    refine q_asgL (xs := z.map V.int) (el_callL (ea_one (ev_var rfl)) fun H5 e5 Q q => ⟨z, rfl, rk z mz, (okr z mz).1, q⟩) fun p5 H5 n5 e5 h5 => ?_
    have e45 := e4.trans e5
    have hll : ∀ H6, Ex H' H6 → LL K H6 fq ps := fun H6 e6 => ⟨sq_of (e6 _ _ hf), fun p hp => sq_of (e6 _ _ (hps p hp).2.2)⟩
    refine q_when (b := false) (et_or (a := false) (b := false) (et_test (ev_is (ev_op (ev_var rfl) ev_c (rv_of fun H2 e2 Q q => ⟨rfl, q⟩)) rfl)) fun _ => et_or (a := false) (b := false) (et_test (ev_is (ev_op (ev_var rfl) ev_c rv_I0) (by rw [decide_eq_false (by omega)]))) fun _ =>
      et_is (et_and (a := !decide (ps = [])) (b := false) (et_test (ev_opL (ev_var rfl) (el_lst ea_nil (by show 0 ≤ 100000; omega)) fun p6 H6 h6 e6 => rv_neNil (hll H6 (e45.trans e6)) (sq_of h6))) fun hne => ?_) (by rw [Bool.and_false])) (fun z => nomatch z) fun _ H6 e6 => ?_
    · have hne : ps ≠ [] := by simpa using hne
      obtain ⟨p0, more, hp0⟩ := List.exists_cons_of_ne_nil hne
      have m0 : p0 ∈ ps := by rw [hp0]; exact List.mem_cons_self
      have r0 : p0.2 ∈ rs := by
        rw [eq, ← map]
        exact List.mem_append_left _ (List.mem_map.mpr ⟨p0, m0, rfl⟩)
      exact et_test (ev_opLL (el_sortedN (ev_var rfl) (sq_of h5) (perm z mz) up (by omega)) (el_sortedN (ev_ixL (ev_var rfl) ev_c (hll H5 e45).1 (at0 (fun p : Addr × List Int => V.ref p.1) (by rw [hp0]; rfl))) ((hll H5 e45).2 p0 m0) (perm _ r0) up (by omega)) fun p6 p7 H6 h6 h7 e6 => rv_notsame (dp_I (sq_of h6)) (dp_I (sq_of h7)) (flat_I names) (by omega))
    · have e46 := e45.trans e6
      have nf5 : p5 ≠ fq := fun zz => by rw [zz, e4 _ _ hf] at n5; cases n5
      refine s_app (xs := ps.map fun p => V.ref p.1) (e46 _ _ hf) (ev_var rfl) (ev_var rfl) (by rw [List.length_map]; omega) fun H7 e7 => ?_
      have e47 := e46.trans e7
      refine ⟨ps ++ [(p5, z)], _, _, _, rfl, Ex.mut (e.trans e47) nf, (b.trans (But.ex e47)).trans But.upd, ?_, ?_, ?_, ?_⟩
      · rw [upd_same, List.map_append]
        rfl
      · rw [List.map_append, map]
        rfl
      · intro p hp
        rcases List.mem_append.mp hp with hp | hp
        · obtain ⟨k1, k2, k3⟩ := hps p hp
          exact ⟨k1, k2, by rw [upd_ne k2]; exact e47 _ _ k3⟩
        · rw [List.mem_singleton.mp hp]
          exact ⟨fresh_back (e.trans e4) n5, nf5, by rw [upd_ne nf5]; exact e7 _ _ (e6 _ _ h5)⟩
      · rw [List.map_append]
        refine List.nodup_append.mpr ⟨nd, List.nodup_cons.mpr ⟨List.not_mem_nil, List.nodup_nil⟩, fun x hx y hy k => ?_⟩
        have hy : y = p5 := List.mem_singleton.mp hy
        obtain ⟨p, hp, rfl⟩ := List.mem_map.mp hx
        have := e4 _ _ (hps p hp).2.2
        rw [k, hy, n5] at this
        cases this
  · rintro σ' H' ⟨ps, y3, y4, y5, rfl, e, b, hf, map, hps, nd⟩
    have hll : ∀ H6, Ex H' H6 → LL K H6 fq ps := fun H6 e6 => ⟨sq_of (e6 _ _ hf), fun p hp => sq_of (e6 _ _ (hps p hp).2.2)⟩
    have hrow : H' p1 = some (.lst ((rs.map fun r => V.str (rS r)) ++ [.str (Str.ofString "")])) := b _ _ np1 (e3 _ _ (e2 _ _ h1))
    have hne : ps ≠ [] := fun z => by
      rw [z] at map
      rw [← map] at f1
      exact absurd f1 (by decide)
    refine q_when (b := false) (et_or (a := false) (b := false) (et_test (ev_is (ev_op (ev_ixL (ev_var rfl) (ev_un ev_c ru_neg) (sq_of hrow) (atI_last _ _)) ev_c (rv_ne rfl)) (by rw [decide_eq_true rfl]; rfl))) fun _ =>
      et_test (ev_is (ev_opL (ev_var rfl) (el_lst ea_nil (by show 0 ≤ 100000; omega)) fun p6 H6 h6 e6 => rv_eqNil (hll H6 e6) (sq_of h6)) (by rw [decide_eq_false hne]))) (fun z => nomatch z) fun _ H6 e6 => ?_
    refine s_ret (ev_var rfl) fun H7 e7 => ?_
    have e67 := e6.trans e7
    have lps : ps.length = rs.length := by rw [← map, List.length_map]
    refine q.lists (e.trans e67) nf (e67 _ _ hf) (fun p hp => ⟨(hps p hp).1, e67 _ _ (hps p hp).2.2⟩) (List.nodup_cons.mpr ⟨fun hm => ?_, nd⟩) (by omega) fun p hp => by
      have := (okr p.2 (by rw [← map]; exact List.mem_map.mpr ⟨p, hp, rfl⟩)).2
      omega
    obtain ⟨p, hp, k⟩ := List.mem_map.mp hm
    exact (hps p hp).2.1 k
end
end Ol
namespace Ol
open PySem PySem.Spec PyProof.Rows L2 Evl
section
variable {K : PySem.W.Frag} {σ : L2.St} {H H' : Hp} {ta tb te tl to : TE} {t u : TT} {x y z v : V} {a : Addr} {D : Ends} {tz tu : TS} {g : TG} {s : TA}
theorem eu_slT {tl th : TO} {xs : List V} {lo hi : Option Int} (h : Ev te σ H (.ref a)) (h1 : EvO tl σ H lo) (h2 : EvO th σ H hi) (hs : SqT K H a xs) (hw : ¬ (HT.sIx xs.length 0 lo = 0 ∧ HT.sIx xs.length xs.length hi = xs.length)) : EvU (L2.tSl (rSlT K) te tl th) σ H (cutV xs lo hi) := fun H1 e _ q =>
  h H1 e _ fun H2 e2 => h1 H2 (e.trans e2) _ fun H3 e3 => h2 H3 ((e.trans e2).trans e3) _ fun H4 e4 =>
    ⟨a, xs, rfl, ex_t (((e.trans e2).trans e3).trans e4) hs, hw, fun p hp => q p _ (fresh_back ((e2.trans e3).trans e4) hp) (((e2.trans e3).trans e4).trans (Ex.new hp)) upd_same⟩
/-- list(a new tuple) -/
theorem el_listU {xs : List V} (h : EvU te σ H xs) : EvL (tCB (rListS K) (tCons te tNil)) σ H xs := fun H1 e Q q =>
  h H1 e _ fun p H2 n2 e2 h2 => ⟨p, xs, rfl, .inr (st_of h2), fun l nl => q l _ (fresh_back e2 nl) (e2.trans (Ex.new nl)) upd_same⟩
/-- a new list + a list that stands -/
theorem el_catE {xs ys : List V} {b : Addr} (ha : EvL ta σ H xs) (hb : ∀ H1, Ex H H1 → Ev tb σ H1 (.ref b)) (hq : H b = some (.lst ys)) (hl : xs.length + ys.length ≤ 100000) : EvL (tOp rCat ta tb) σ H (xs ++ ys) := fun H1 e Q q =>
  ha H1 e _ fun p2 H2 n2 e2 h2 => hb H2 (e.trans e2) H2 (Ex.refl _) _ fun H3 e3 => ⟨p2, b, xs, ys, rfl, rfl, e3 _ _ h2, e3 _ _ (e2 _ _ (e _ _ hq)), sz_of hl, fun r nr => q r _ (fresh_back (e2.trans e3) nr) ((e2.trans e3).trans (Ex.new nr)) upd_same⟩
/-- an if that may change one slot; what follows told once -/
theorem q_whenK {b : Bool} (S : L2.St) (h : EvT t σ H b) (key : ∀ H1, Ex H H1 → tz D S H1) (h1 : b = true → ∀ H1, Ex H H1 → (∀ H2, Ex H1 H2 → tz D S H2) → tu { D with nx := tz D } σ H1) (h2 : b = false → S = σ) : tSeq (tIfS t tu tNext) tz D σ H :=
  q_when h (fun hb H1 e1 => h1 hb H1 e1 fun H2 e2 => key H2 (e1.trans e2)) fun hb H1 e1 => h2 hb ▸ key H1 e1
end
/-- a cross, as it stands -/
structure Cross (K : PySem.W.Frag) (H : Hp) (t p q r s : Addr) (a b c d e f g h : Int) : Prop where
  tp : SqT K H t [.str "cross", .ref p, .ref q]
  hp : LI K H p [a, b, c, d]
  hq : H q = some (.lst [.ref r, .ref s])
  hr : LI K H r [e, f]
  hs : LI K H s [g, h]
theorem Cross.ex {K : PySem.W.Frag} {H H' : Hp} {t p q r s : Addr} {a b c d e f g h : Int} (C : Cross K H t p q r s a b c d e f g h) (k : Ex H H') : Cross K H' t p q r s a b c d e f g h := ⟨ex_t k C.tp, ex_l k C.hp, k _ _ C.hq, ex_l k C.hr, ex_l k C.hs⟩
section
variable {P : Program} {w : World} {K : PySem.W.Frag} {mg : Str → Option Value} {base : Heap}
def spWritten : Sp := fun vs H Q _ => ∃ n : Int, vs = [.int n] ∧ 0 ≤ n ∧ RetV (.bl true) H Q
theorem c_is_written (T : Tx w K mg) (C_is_number : Callee P w K mg base "is_number" 1 ["thing"] spNum) : Callee P w K mg base "is_written" 2 ["thing"] spWritten := by
  refine callee_of T.F_is_written T.g_is_written sc_is_written (fun _ _ _ _ _ _ us hl => match us, hl with | [_], _ => rfl) (fun vs H Q E h => ?_) fun cdv A outer s H vs Q E hr h => ?_
  · obtain ⟨n, rfl, pos, q⟩ := h
    rfl
  obtain ⟨n, rfl, pos, q⟩ := h
  refine ⟨_, (pss_one (ps_ret (pe_and (pe_callC C_is_number hr (by decide) (by rfl) (pa_cons (pv 0) pa_nil)) (pe_one (pe_cmpR op_ge (pv 0) pe_int (nomark _)))))), ?_⟩
  exact s_ret (ev_andV (a := true) (b := true) (ev_callV (ea_one (ev_var rfl)) fun H1 e1 Q q => ⟨n, rfl, q⟩) fun _ => ev_is (ev_op (ev_var rfl) ev_c rv_I0) (by rw [decide_eq_true pos])) q
def spAreW (K : PySem.W.Frag) : Sp := fun vs H Q _ => ∃ (a : Addr) (ns : List Int) (m : Int), vs = [.ref a, .int m] ∧ LI K H a ns ∧ m = ns.length ∧ (∀ n ∈ ns, 0 ≤ n) ∧ ns.length ≤ 10 ∧ RetV (.bl true) H Q
theorem c_are_written (T : Tx w K mg) (C_is_written : Callee P w K mg base "is_written" 2 ["thing"] spWritten) : Callee P w K mg base "are_written" 3 ["thing", "many"] (spAreW K) := by
  refine callee_of T.F_are_written T.g_are_written sc_are_written (fun _ _ _ _ _ _ us hl => match us, hl with | [_, _], _ => rfl) (fun vs H Q E h => ?_) fun cdv A outer s H vs Q E hr h => ?_
  · obtain ⟨a, ns, m, rfl, ha, rfl, pos, few, q⟩ := h
    rfl
  obtain ⟨a, ns, m, rfl, ha, rfl, pos, few, q⟩ := h
  refine ⟨_, (pss_one (ps_ret (pe_and (pe_callB (isiR K) (by rfl) T.b_isinstance (by decide +kernel) (pa_cons (pv 0) (pa_cons (pe_bltn (v := .ty "list") (u := .type "list") (by rfl) T.b_list (by decide +kernel) rfl) pa_nil))) (pe_and (pe_cmpR op_eq (pe_callB (lenS K) (by rfl) T.b_len (by decide +kernel) (pa_cons (pv 0) pa_nil)) (pv 1) (nomark _)) (pe_one (pe_callB (allR K) (by rfl) T.b_all (by decide +kernel) (pa_cons (pe_lc (own := [("one", 2)]) rfl sc_are_written.nd (piL K (pv 0)) (blkOk_by (by kernel_rfl)) (fun _ _ _ _ _ => (pg_name (i := 2) sc_are_written.nd rfl (Or.inl rfl))) (fun _ _ _ _ _ => pts_nil) (fun _ _ _ _ _ => (pe_callC C_is_written hr (by decide) (by rfl) (pa_cons (pv 2) pa_nil)))) pa_nil))))))), ?_⟩
  refine s_ret (ev_andV (a := true) (b := true) (ev_isiL (ev_var rfl) ha (by decide +kernel)) fun _ => ev_andV (a := true) (b := true) (ev_is (ev_op (ev_len (ev_var rfl) ha) (ev_var rfl) (rv_eq rfl)) ?_) fun _ =>
    ev_is (ev_all (bs := ns.map fun _ => true) (el_is (el_lcM ns V.int (fun _ => true) (fun _ => V.bl true) (ev_var rfl) ha (by omega) (fun _ => rfl) (fun _ _ _ _ => et_none rfl) fun n hn H1 e1 _ => ev_callV (ea_one (ev_var rfl)) fun H2 e2 Q q => ⟨n, rfl, pos n hn, q⟩) (by rw [filter_all, List.map_map]; rfl))) (by simp)) q
  rw [List.length_map, decide_eq_true rfl]
def spCross (K : PySem.W.Frag) (v : V) : Sp := fun vs H Q _ => ∃ (t p q r s : Addr) (a b c d e f g h : Int), vs = [.ref t] ∧ Cross K H t p q r s a b c d e f g h ∧ (∀ n ∈ [a, b, c, d, e, f, g, h], NumOk n) ∧ RetV v H Q
theorem c_is_bar (T : Tx w K mg) (C_are_written : Callee P w K mg base "are_written" 3 ["thing", "many"] (spAreW K)) : Callee P w K mg base "is_bar" 4 ["thing"] (spCross K (.bl true)) := by
  refine callee_of T.F_is_bar T.g_is_bar sc_is_bar (fun _ _ _ _ _ _ us hl => match us, hl with | [_], _ => rfl) (fun vs H Q E h => ?_) fun cdv A outer s H vs Q E hr h => ?_
  · obtain ⟨t, p, q, r, s', a, b, c, d, e, f, g, h, rfl, C, ok, k⟩ := h
    rfl
  obtain ⟨t, p, q, r, s', a, b, c, d, e, f, g, h, rfl, C, ok, k⟩ := h
  refine ⟨_, (pss_cons (ps_set (i := 1) sc_is_bar.nd rfl (Or.inl rfl) (pe_ix (ixKD K T.d_FORMS) (pe_glob (v := V.ref (He.ga K "FORMS")) (by rfl) T.g_FORMS rfl) (pe_ix (ixT K) (pv 0) pe_int (fun _ _ => rfl)) (fun _ _ => rfl)))
      (pss_cons (ps_if (PW.pt (pw_or (pt_cmpR op_ne (pe_callB (lenS K) (by rfl) T.b_len (by decide +kernel) (pa_cons (pv 0) pa_nil)) pe_int (nomark _)) (pw_or (pt_not (pt_val (pe_callC C_are_written hr (by decide) (by rfl) (pa_cons (pe_ix (ixT K) (pv 0) pe_int (fun _ _ => rfl)) (pa_cons (pe_ix (ixT K) (pv 1) pe_int (fun _ _ => rfl)) pa_nil))))) (pw_or1 (pt_not (pt_val (pe_callB (isiR K) (by rfl) T.b_isinstance (by decide +kernel) (pa_cons (pe_ix (ixT K) (pv 0) pe_int (fun _ _ => rfl)) (pa_cons (pe_bltn (v := .ty "list") (u := .type "list") (by rfl) T.b_list (by decide +kernel) rfl) pa_nil))))))))) (pss_one (ps_ret pe_bl)) pss_nil)
      (pss_cons (ps_if (pt_cmpR op_eq (pe_callB (lenS K) (by rfl) T.b_len (by decide +kernel) (pa_cons (pv 1) pa_nil)) pe_int (nomark _)) pss_never pss_nil)
      (pss_one (ps_ret (pe_and (pe_cmpR op_eq (pe_callB (lenS K) (by rfl) T.b_len (by decide +kernel) (pa_cons (pe_ix (ixT K) (pv 0) pe_int (fun _ _ => rfl)) pa_nil)) (pe_op op_sub (pe_callB (lenS K) (by rfl) T.b_len (by decide +kernel) (pa_cons (pv 1) pa_nil)) pe_int) (nomark _)) (pe_one (pe_callB (allR K) (by rfl) T.b_all (by decide +kernel) (pa_cons (pe_lc (own := [("pair", 2)]) rfl sc_is_bar.nd (piL K (pe_ix (ixT K) (pv 0) pe_int (fun _ _ => rfl))) (blkOk_by (by kernel_rfl)) (fun _ _ _ _ _ => (pg_name (i := 2) sc_is_bar.nd rfl (Or.inl rfl))) (fun _ _ _ _ _ => pts_nil) (fun _ _ _ _ _ => (pe_callC C_are_written hr (by decide) (by rfl) (pa_cons (pv 2) (pa_cons pe_int pa_nil))))) pa_nil))))))))), ?_⟩
  have X := exs_of T.ex
  obtain ⟨u, hu, ru⟩ := X.cross
  refine q_asg (v := .ref (crossAd K)) (ev_op ev_c (ev_ixT (ev_var rfl) ev_c C.tp (atI_nat (j := 0) rfl)) (rv_of fun H1 e1 Q q => ⟨Str.ofString "cross", u, _, rfl, rfl, hu, ru, q⟩)) fun H1 e1 => ?_
  have C1 := C.ex e1
  have pos : ∀ n ∈ [a, b, c, d, e, f, g, h], 0 ≤ n := fun n hn => (ok n hn).1
  have th : ∀ (H2 : Hp) (j : Nat) (v : V), Ex H H2 → ([V.str "cross", .ref p, .ref q] : List V)[j]? = some v → Ev (tOp (rIxT K) (tVar 0) (tC (.int (j : Int)))) [some (.ref t), some (.ref (crossAd K)), none] H2 v := fun H2 j v e2 hv => ev_ixT (ev_var rfl) ev_c (ex_t e2 C.tp) (atI_nat hv)
  refine q_when (b := false) (et_or (a := false) (b := false) (et_test (ev_is (ev_op (ev_lenT (ev_var rfl) C1.tp) ev_c (rv_ne rfl)) rfl)) fun _ => et_or (a := false) (b := false) (et_not (a := true) (et_B (ev_callV (ea_two (th H1 1 _ e1 rfl) (ev_ixT (ev_var rfl) ev_c (X.tup H1) (atI_nat (j := 0) rfl))) fun H2 e2 Q q =>
    ⟨p, [a, b, c, d], 4, rfl, ex_l e2 C1.hp, rfl, fun n hn => pos n (by simp at hn ⊢; omega), by show 4 ≤ 10; omega, q⟩))) fun _ => et_not (a := true) (et_B (ev_isiL (th H1 2 _ e1 rfl) (sq_of C1.hq) (by decide +kernel)))) (fun z => nomatch z) fun _ H2 e2 => ?_
  refine q_when (b := false) (et_test (ev_is (ev_op (ev_lenT (ev_var rfl) (X.tup H2)) ev_c (rv_eq rfl)) rfl)) (fun z => nomatch z) fun _ H3 e3 => ?_
  have e03 := (e1.trans e2).trans e3
  have C3 := C.ex e03
  have facts : ∀ z ∈ [(r, [e, f]), (s', [g, h])], LI K H3 z.1 z.2 ∧ (2 : Int) = z.2.length ∧ (∀ n ∈ z.2, 0 ≤ n) ∧ z.2.length ≤ 10 := fun z hz => by
    simp only [List.mem_cons, List.not_mem_nil, or_false] at hz
    rcases hz with rfl | rfl
    · exact ⟨C3.hr, rfl, fun n hn => pos n (by simp at hn ⊢; omega), by show 2 ≤ 10; omega⟩
    · exact ⟨C3.hs, rfl, fun n hn => pos n (by simp at hn ⊢; omega), by show 2 ≤ 10; omega⟩
  exact s_ret (ev_andV (a := true) (b := true) (ev_is (ev_op (ev_len (th H3 2 _ e03 rfl) (sq_of C3.hq)) (ev_op (ev_lenT (ev_var rfl) (X.tup H3)) ev_c rv_I0) (rv_eq rfl)) rfl) fun _ =>
    ev_is (ev_all (bs := [true, true]) (el_is (el_lcM [(r, [e, f]), (s', [g, h])] (fun z : Addr × List Int => V.ref z.1) (fun _ => true) (fun _ => V.bl true) (th H3 2 _ e03 rfl) (sq_of C3.hq) (by show 2 ≤ 40000; omega) (fun _ => rfl) (fun _ _ _ _ => et_none rfl) fun z hz H4 e4 _ =>
      ev_callV (ea_two (ev_var rfl) ev_c) fun H5 e5 Q q => ⟨z.1, z.2, 2, rfl, ex_l (e4.trans e5) (facts z hz).1, (facts z hz).2.1, (facts z hz).2.2.1, (facts z hz).2.2.2, q⟩) rfl)) rfl) fun H4 e4 => k H4 (e03.trans e4)
theorem c_is_paper (T : Tx w K mg) (C_is_bar : Callee P w K mg base "is_bar" 4 ["thing"] (spCross K (.bl true))) : Callee P w K mg base "is_paper" 5 ["thing"] (spCross K (.bl true)) := by
  refine callee_of T.F_is_paper T.g_is_paper sc_is_paper (fun _ _ _ _ _ _ us hl => match us, hl with | [_], _ => rfl) (fun vs H Q E h => ?_) fun cdv A outer s H vs Q E hr h => ?_
  · obtain ⟨t, p, q, r, s', a, b, c, d, e, f, g, h, rfl, C, ok, k⟩ := h
    rfl
  obtain ⟨t, p, q, r, s', a, b, c, d, e, f, g, h, rfl, C, ok, k⟩ := h
  refine ⟨_, (pss_cons (ps_if (PW.pt (pw_or (pt_not (pt_val (pe_callB (isiR K) (by rfl) T.b_isinstance (by decide +kernel) (pa_cons (pv 0) (pa_cons (pe_bltn (v := .ty "tuple") (u := .type "tuple") (by rfl) T.b_tuple (by decide +kernel) rfl) pa_nil))))) (pw_or (pt_cmpR op_lt (pe_callB (lenS K) (by rfl) T.b_len (by decide +kernel) (pa_cons (pv 0) pa_nil)) pe_int (nomark _)) (pw_or1 (pt_not (pt_val (pe_callB (isiR K) (by rfl) T.b_isinstance (by decide +kernel) (pa_cons (pe_ix (ixT K) (pv 0) pe_int (fun _ _ => rfl)) (pa_cons (pe_bltn (v := .ty "str") (u := .type "str") (by rfl) T.b_str (by decide +kernel) rfl) pa_nil))))))))) (pss_one (ps_ret pe_bl)) pss_nil)
      (pss_cons (ps_if (pt_cmpR (inKD K T.d_FORMS) (pe_ix (ixT K) (pv 0) pe_int (fun _ _ => rfl)) (pe_glob (v := V.ref (He.ga K "FORMS")) (by rfl) T.g_FORMS rfl) (by rfl)) (pss_one (ps_ret (pe_callC C_is_bar hr (by decide) (by rfl) (pa_cons (pv 0) pa_nil)))) pss_nil)
      pss_never)), ?_⟩
  have X := exs_of T.ex
  obtain ⟨u, hu, ru⟩ := X.cross
  have th : ∀ (H2 : Hp), Ex H H2 → Ev (tOp (rIxT K) (tVar 0) (tC (.int 0))) [some (.ref t), none] H2 (.str "cross") := fun H2 e2 => ev_ixT (ev_var rfl) ev_c (ex_t e2 C.tp) (atI_nat (j := 0) rfl)
  refine q_when (b := false) (et_or (a := false) (b := false) (et_not (a := true) (et_B (ev_isiT (ev_var rfl) C.tp (by decide +kernel)))) fun _ => et_or (a := false) (b := false) (et_test (ev_is (ev_op (ev_lenT (ev_var rfl) C.tp) ev_c rv_I0) rfl)) fun _ => et_not (a := true) (et_B (ev_isiS (th H (Ex.refl H)) (by decide +kernel)))) (fun z => nomatch z) fun _ H1 e1 => ?_
  refine q_when (b := true) (et_test (ev_op (th H1 e1) ev_c (rv_of fun H2 e2 Q q => ⟨Str.ofString "cross", some u, rfl, rfl, hu, q⟩))) (fun _ H2 e2 => ?_) fun z => nomatch z
  exact inRet (inCall (goA (ea_one (ev_var rfl)) fun H3 e3 => ⟨t, p, q, r, s', a, b, c, d, e, f, g, h, rfl, C.ex ((e1.trans e2).trans e3), ok, fun H4 e4 => k H4 (((e1.trans e2).trans e3).trans e4)⟩))
def spWords (K : PySem.W.Frag) : Sp := fun vs H Q _ => ∃ (a : Addr) (r : List Int), vs = [.ref a] ∧ LI K H a r ∧ (∀ n ∈ r, NumOk n) ∧ r.length ≤ 10 ∧ RetL ((r.map nS).map V.str) H Q
theorem c_words_of (T : Tx w K mg)  : Callee P w K mg base "words_of" 1 ["numbers"] (spWords K) := by
  refine callee_of T.F_words_of T.g_words_of sc_words_of (fun _ _ _ _ _ _ us hl => match us, hl with | [_], _ => rfl) (fun vs H Q E h => ?_) fun cdv A outer s H vs Q E hr h => ?_
  · obtain ⟨a, r, rfl, ha, ok, f, q⟩ := h
    rfl
  obtain ⟨a, r, rfl, ha, ok, f, q⟩ := h
  refine ⟨_, (pss_one (ps_ret (pe_lc (own := [("number", 1)]) rfl sc_words_of.nd (piL K (pv 0)) (blkOk_by (by kernel_rfl)) (fun _ _ _ _ _ => (pg_name (i := 1) sc_words_of.nd rfl (Or.inl rfl))) (fun _ _ _ _ _ => pts_nil) (fun _ _ _ _ _ => (pe_callTy call_str_int (by rfl) T.b_str (by decide +kernel) (pa_cons (pv 1) pa_nil)))))), ?_⟩
  exact s_retL (el_is (el_lcM r V.int (fun _ => true) (fun n => V.str (nS n)) (ev_var rfl) ha (by omega) (fun _ => rfl) (fun _ _ _ _ => et_none rfl) fun n hn H1 e1 _ => ev_strI (ev_var rfl) (ok n hn)) (by rw [filter_all, List.map_map]; rfl)) q
def spPaperT (K : PySem.W.Frag) : Sp := fun vs H Q _ => ∃ (t p q r s : Addr) (a b c d e f g h : Int), vs = [.ref t] ∧ Cross K H t p q r s a b c d e f g h ∧ (∀ n ∈ [a, b, c, d, e, f, g, h], NumOk n) ∧ RetV (.str (pS a b c d e f g h)) H Q
theorem c_paper_text (T : Tx w K mg) (C_is_paper : Callee P w K mg base "is_paper" 5 ["thing"] (spCross K (.bl true))) (C_words_of : Callee P w K mg base "words_of" 1 ["numbers"] (spWords K)) : Callee P w K mg base "paper_text" 6 ["paper"] (spPaperT K) := by
  refine callee_of T.F_paper_text T.g_paper_text sc_paper_text (fun _ _ _ _ _ _ us hl => match us, hl with | [_], _ => rfl) (fun vs H Q E h => ?_) fun cdv A outer s H vs Q E hr h => ?_
  · obtain ⟨t, p, q, r, s', a, b, c, d, e, f, g, h, rfl, C, ok, k⟩ := h
    rfl
  obtain ⟨t, p, q, r, s', a, b, c, d, e, f, g, h, rfl, C, ok, k⟩ := h
  refine ⟨_, (pss_cons (ps_if (pt_not (pt_val (pe_callC C_is_paper hr (by decide) (by rfl) (pa_cons (pv 0) pa_nil)))) pss_never pss_nil)
      (pss_cons (ps_set (i := 1) sc_paper_text.nd rfl (Or.inl rfl) (pe_ix (ixT K) (pv 0) pe_int (fun _ _ => rfl)))
      (pss_cons (ps_if (pt_cmpR op_eq (pv 1) pe_str (nomark _)) pss_never pss_nil)
      (pss_cons (ps_set (i := 2) sc_paper_text.nd rfl (Or.inl rfl) (pe_callTy (listOf K) (by rfl) T.b_list (by decide +kernel) (pa_cons (pe_slice (slT K) (pv 0) (po_some pe_int) po_none) pa_nil)))
      (pss_cons (ps_if (pt_cmpR (inS K) (pv 1) (pe_lst (pa_cons pe_str (pa_cons pe_str pa_nil))) (by rfl)) (pss_one (ps_set (i := 2) sc_paper_text.nd rfl (Or.inl rfl) (pe_op op_cat (pe_lst (pa_cons (pe_ix (ixT K) (pv 0) pe_int (fun _ _ => rfl)) pa_nil)) (pe_ix (ixT K) (pv 0) pe_int (fun _ _ => rfl))))) pss_nil)
      (pss_one (ps_ret (pe_op op_add_str (pe_op op_add_str (pv 1) pe_str) (joinK K pe_str (pe_lc (own := [("some", 5)]) rfl sc_paper_text.nd (piL K (pv 2)) (blkOk_by (by kernel_rfl)) (fun _ _ _ _ _ => (pg_name (i := 5) sc_paper_text.nd rfl (Or.inl rfl))) (fun _ _ _ _ _ => pts_nil) (fun _ _ _ _ _ => (joinK K pe_str (pe_callC C_words_of hr (by decide) (by rfl) (pa_cons (pv 5) pa_nil)))))))))))))), ?_⟩
  refine q_when (b := false) (et_not (a := true) (et_B (ev_callV (ea_one (ev_var rfl)) fun H1 e1 Q q' => ⟨t, p, q, r, s', a, b, c, d, e, f, g, h, rfl, C.ex e1, ok, q'⟩))) (fun z => nomatch z) fun _ H1 e1 => ?_
  refine q_asg (v := .str "cross") (ev_ixT (ev_var rfl) ev_c (ex_t e1 C.tp) (atI_nat (j := 0) rfl)) fun H2 e2 => ?_
  refine q_when (b := false) (et_test (ev_is (ev_op (ev_var rfl) ev_c (rv_eq rfl)) (congrArg V.bl (by decide +kernel)))) (fun z => nomatch z) fun _ H3 e3 => ?_
  have e03 := (e1.trans e2).trans e3
  refine q_asgL (el_listU (eu_slT (lo := some 1) (hi := none) (ev_var rfl) (eo_some ev_c) eo_none (ex_t e03 C.tp) (show ¬ (HT.sIx 3 0 (some 1) = 0 ∧ HT.sIx 3 3 none = 3) from fun k => absurd k.1 (by decide)))) fun p4 H4 n4 e4 h4 => ?_
  refine q_when (b := true) (et_test (ev_is (ev_opL (ev_var rfl) (el_lst (ea_two ev_c ev_c) (by show 2 ≤ 100000; omega)) fun p5 H5 h5 e5 => rv_isL (sq_of h5) rfl rfl) (congrArg V.bl (by decide +kernel)))) (fun _ H5 e5 => ?_) fun z => nomatch z
  have e05 := (e03.trans e4).trans e5
  have C5 := C.ex e05
  refine s_asgL (el_catE (el_lst (ea_one (ev_ixT (ev_var rfl) ev_c C5.tp (atI_nat (j := 1) rfl))) (by show 1 ≤ 100000; omega)) (fun H6 e6 => ev_ixT (ev_var rfl) ev_c (ex_t e6 C5.tp) (atI_nat (j := 2) rfl)) C5.hq (by show 1 + 2 ≤ 100000; omega)) fun p6 H6 n6 e6 h6 => ?_
  have e06 := e05.trans e6
  have C6 := C.ex e06
  have len : ∀ l : List Int, (∀ n ∈ l, NumOk n) → l.length ≤ 4 → (Txt.join (Str.ofString " ") (l.map nS)).length ≤ 48 ∧ ((l.map nS).map (·.length)).sum + (l.map nS).length * (Str.ofString " ").length ≤ 48 := fun l hl hl2 => by
    have := join_len (Str.ofString " ") (l.map nS) (b := 11) fun p hp => by
      obtain ⟨n, hn, rfl⟩ := List.mem_map.mp hp
      exact (nS_len (hl n hn)).1
    have e1 : (Str.ofString " ").length = 1 := by decide +kernel
    rw [e1, List.length_map] at this
    rw [e1, List.length_map]
    have : (11 + 1) * l.length ≤ 48 := by omega
    omega
  have okA : ∀ n ∈ [a, b, c, d], NumOk n := fun n hn => ok n (by simp at hn ⊢; omega)
  have okB : ∀ n ∈ [e, f], NumOk n := fun n hn => ok n (by simp at hn ⊢; omega)
  have okC : ∀ n ∈ [g, h], NumOk n := fun n hn => ok n (by simp at hn ⊢; omega)
  have lA := len [a, b, c, d] okA (by show 4 ≤ 4; omega)
  have lB := len [e, f] okB (by show 2 ≤ 4; omega)
  have lC := len [g, h] okC (by show 2 ≤ 4; omega)
  have es : (Str.ofString " / ").length = 3 := by decide +kernel
  have e1' : (Str.ofString " ").length = 1 := by decide +kernel
  have ec : (Str.ofString "cross").length = 5 := by decide +kernel
  have sum3 : (([Txt.join (Str.ofString " ") [nS a, nS b, nS c, nS d], Txt.join (Str.ofString " ") [nS e, nS f], Txt.join (Str.ofString " ") [nS g, nS h]] : List Str).map (·.length)).sum + 3 * (Str.ofString " / ").length ≤ 160 := by
    have h1 := lA.1
    have h2 := lB.1
    have h3 := lC.1
    simp only [List.map_cons, List.map_nil, List.sum_cons, List.sum_nil] at h1 h2 h3 ⊢
    rw [es]
    omega
  have facts : ∀ z ∈ [(p, [a, b, c, d]), (r, [e, f]), (s', [g, h])], LI K H6 z.1 z.2 ∧ (∀ n ∈ z.2, NumOk n) ∧ z.2.length ≤ 10 ∧ ((z.2.map nS).map (·.length)).sum + (z.2.map nS).length * (Str.ofString " ").length ≤ 16777216 := fun z hz => by
    simp only [List.mem_cons, List.not_mem_nil, or_false] at hz
    rcases hz with rfl | rfl | rfl
    · exact ⟨C6.hp, okA, by show 4 ≤ 10; omega, Nat.le_trans lA.2 (by omega)⟩
    · exact ⟨C6.hr, okB, by show 2 ≤ 10; omega, Nat.le_trans lB.2 (by omega)⟩
    · exact ⟨C6.hs, okC, by show 2 ≤ 10; omega, Nat.le_trans lC.2 (by omega)⟩
  refine s_ret (ev_addS (ev_addS (ev_var rfl) ev_c (by rw [ec, e1']; omega)) (ev_joinL (ys := [Txt.join (Str.ofString " ") [nS a, nS b, nS c, nS d], Txt.join (Str.ofString " ") [nS e, nS f], Txt.join (Str.ofString " ") [nS g, nS h]]) ev_c
    (el_is (el_lcM [(p, [a, b, c, d]), (r, [e, f]), (s', [g, h])] (fun z : Addr × List Int => V.ref z.1) (fun _ => true) (fun z => V.str (Txt.join (Str.ofString " ") (z.2.map nS))) (ev_var rfl) (sq_of h6) (by show 3 ≤ 40000; omega) (fun _ => rfl) (fun _ _ _ _ => et_none rfl) fun z hz H7 e7 _ =>
      ev_joinL ev_c (el_callL (ea_one (ev_var rfl)) fun H8 e8 Q q' => ⟨z.1, z.2, rfl, ex_l (e7.trans e8) (facts z hz).1, (facts z hz).2.1, (facts z hz).2.2.1, q'⟩) (facts z hz).2.2.2) rfl) (Nat.le_trans sum3 (by omega))) ?_) fun H7 e7 => k H7 (e06.trans e7)
  · have : (Txt.join (Str.ofString " / ") [Txt.join (Str.ofString " ") [nS a, nS b, nS c, nS d], Txt.join (Str.ofString " ") [nS e, nS f], Txt.join (Str.ofString " ") [nS g, nS h]]).length ≤ 160 := by
      refine Nat.le_trans ?_ sum3
      rw [TL.len_tl, tl_join2]
      refine Nat.le_trans (joinL_len _) ?_
      rw [List.length_map, List.map_map, ← TL.len_tl]
      have e : (fun p : Str => p.length) = (fun x => x.length) ∘ TL.tl := by
        funext p
        exact TL.len_tl p
      rw [← e]
      exact Nat.le_refl _
    rw [TL.len_tl, TL.tl_append, List.length_append, ← TL.len_tl, ← TL.len_tl, ec, e1']
    omega
end
end Ol
namespace Ol
open PySem PySem.Spec PyProof.Rows L2 Evl
section
variable {P : Program} {w : World} {K : PySem.W.Frag} {mg : Str → Option Value} {base : Heap}
/-! ### numbers_by, lists_by, read_paper -/
def spNumsBy (K : PySem.W.Frag) : Sp := fun vs H Q _ => ∃ (a : Addr) (ns : List Int) (k : Int), vs = [.ref a, .int k] ∧ SqL K H a (ns.map fun n => V.str (nS n)) ∧ (∀ n ∈ ns, NumOk n) ∧ ns.length ≤ 10 ∧ RetL (ns.map V.int) H Q
theorem c_numbers_by (T : Tx w K mg) (C_number_of : Callee P w K mg base "number_of" 1 ["word"] spNumOf) : Callee P w K mg base "numbers_by" 2 ["words", "first"] (spNumsBy K) := by
  refine callee_of T.F_numbers_by T.g_numbers_by sc_numbers_by (fun _ _ _ _ _ _ us hl => match us, hl with | [_, _], _ => rfl) (fun vs H Q E h => ?_) fun cdv A outer s H vs Q E hr h => ?_
  · obtain ⟨a, ns, k, rfl, ha, ok, few, q⟩ := h
    rfl
  obtain ⟨a, ns, k, rfl, ha, ok, few, q⟩ := h
  refine ⟨_, (pss_cons (ps_set (i := 2) sc_numbers_by.nd rfl (Or.inl rfl) (pe_lst pa_nil))
      (pss_cons (ps_for PassesOwn.never rfl (piE K (by rfl) T.b_enumerate (pa_cons (pv 0) pa_nil)) (tupG K (n := 2) (pgs_cons (pg_name (i := 3) sc_numbers_by.nd rfl (Or.inl rfl)) (pgs_cons (pg_name (i := 4) sc_numbers_by.nd rfl (Or.inl rfl)) pgs_nil))) (pss_cons (ps_set (i := 5) sc_numbers_by.nd rfl (Or.inl rfl) (pe_callC C_number_of hr (by decide) (by rfl) (pa_cons (pv 4) pa_nil)))
      (pss_cons (ps_if (pt_cmpR op_isN (pv 5) pe_non (nomark _)) pss_never pss_nil)
      (pss_one (ps_expr (bmK K PySem.F.plainAttrs_list PySem.F.slot_list_append PySem.F.type_list_append mt_append (pv 2) (pa_cons (pv 5) pa_nil)))))))
      (pss_one (ps_ret (pv 2))))), ?_⟩
  refine q_asgL (xs := []) (el_lst ea_nil (by show 0 ≤ 100000; omega)) fun fq H1 n1 e1 h1 => ?_
  refine inSeq (fo_EW ns (fun n => V.str (nS n)) (ea_one (ev_var rfl)) (ex_l e1 ha) (fun pre σ' H' => ∃ y3 y4 y5, σ' = [some (.ref a), some (.int k), some (.ref fq), y3, y4, y5] ∧ Ex H H' ∧ H' fq = some (.lst (pre.map V.int)))
    (fun pre σ' H' ⟨_, _, _, _, e, _⟩ => ex_l e ha) (fun H2 e2 => ⟨_, _, _, rfl, e1.trans e2, e2 _ _ h1⟩) ?_ ?_)
  · rintro pre z post σ' H' H'' eq ⟨y3, y4, y5, rfl, e, hf⟩ e2
    have mz : z ∈ ns := by rw [eq]; exact List.mem_append_right _ List.mem_cons_self
    have hl : pre.length < ns.length := by rw [eq, List.length_append, List.length_cons]; omega
    refine q_asg (ev_callV (ea_one (ev_var rfl)) fun H3 e3 Q q => ⟨z, rfl, ok z mz, q⟩) fun H3 e3 => ?_
    refine q_when (b := false) (et_test (ev_is (ev_op (ev_var rfl) ev_c (rv_of fun H2 e2 Q q => ⟨rfl, q⟩)) rfl)) (fun z => nomatch z) fun _ H4 e4 => ?_
    have e24 := (e2.trans e3).trans e4
    refine s_app (e24 _ _ hf) (ev_var rfl) (ev_var rfl) (by rw [List.length_map]; omega) fun H5 e5 => ⟨_, _, _, rfl, Ex.mut ((e.trans e24).trans e5) n1, ?_⟩
    rw [upd_same, List.map_append]
    rfl
  · rintro σ' H' ⟨y3, y4, y5, rfl, e, hf⟩
    dsimp only
    exact s_ret (ev_var rfl) fun H2 e2 => q fq H2 n1 (e.trans e2) (e2 _ _ hf)
/-- where a list of the cross begins -/
def atv : Nat → Int
  | 0 => 1
  | 1 => 5
  | 2 => 8
  | _ => 11
def segs (a b c d e f g h : Int) : List (List Int) := [[a, b, c, d], [e, f], [g, h]]
theorem seg_ok (a b c d e f g h : Int) : ∀ pre (z : Int) post, [4, 2, 2] = pre ++ z :: post → ∃ (at1 : Int) (seg : List Int), ((decide (((pre.length : Nat) : Int) > 0) = false ∧ at1 = atv pre.length) ∨
    (decide (((pre.length : Nat) : Int) > 0) = true ∧ cutV ((cW a b c d e f g h).map V.str) (some (atv pre.length)) (some (atv pre.length + 1)) = [.str (Str.ofString "/")] ∧ at1 = atv pre.length + 1)) ∧
    cutV ((cW a b c d e f g h).map V.str) (some at1) (some (at1 + z)) = seg.map (fun n => V.str (nS n)) ∧ z = seg.length ∧ at1 + z = atv (pre.length + 1) ∧ (segs a b c d e f g h).take (pre.length + 1) = (segs a b c d e f g h).take pre.length ++ [seg] ∧
    (∀ n ∈ seg, n ∈ [a, b, c, d, e, f, g, h]) ∧ seg.length ≤ 10 ∧ pre.length ≤ 2 := by
  intro pre z post eq
  cases pre with
  | nil =>
    injection eq with h1 h2
    subst h1
    exact ⟨1, [a, b, c, d], .inl ⟨rfl, rfl⟩, rfl, rfl, rfl, rfl, fun n hn => by simp at hn ⊢; omega, by show 4 ≤ 10; omega, by show 0 ≤ 2; omega⟩
  | cons x pre =>
    injection eq with h1 h2
    cases pre with
    | nil =>
      injection h2 with h3 h4
      subst h3
      exact ⟨6, [e, f], .inr ⟨rfl, rfl, rfl⟩, rfl, rfl, rfl, rfl, fun n hn => by simp at hn ⊢; omega, by show 2 ≤ 10; omega, by show 1 ≤ 2; omega⟩
    | cons y pre =>
      injection h2 with h3 h4
      cases pre with
      | nil =>
        injection h4 with h5 h6
        subst h5
        exact ⟨9, [g, h], .inr ⟨rfl, rfl, rfl⟩, rfl, rfl, rfl, rfl, fun n hn => by simp at hn ⊢; omega, by show 2 ≤ 10; omega, by show 2 ≤ 2; omega⟩
      | cons u pre =>
        injection h4 with h5 h6
        cases pre <;> cases h6
def spListsBy (K : PySem.W.Frag) : Sp := fun vs H Q _ => ∃ (a0 : Addr) (a b c d e f g h : Int), vs = [.ref a0, .ref (crossAd K)] ∧ H a0 = some (.lst ((cW a b c d e f g h).map V.str)) ∧ (∀ n ∈ [a, b, c, d, e, f, g, h], NumOk n) ∧
  ∀ fq (ps : List (Addr × List Int)) H', Ex H H' → H fq = none → H' fq = some (.lst (ps.map fun p => V.ref p.1)) → ps.map (·.2) = segs a b c d e f g h → (∀ p ∈ ps, H p.1 = none ∧ H' p.1 = some (.lst (p.2.map V.int))) → (ps.map (·.1)).Nodup → Q (.ref fq) H'
theorem c_lists_by (T : Tx w K mg) (C_numbers_by : Callee P w K mg base "numbers_by" 2 ["words", "first"] (spNumsBy K)) : Callee P w K mg base "lists_by" 3 ["words", "sizes"] (spListsBy K) := by
  refine callee_of T.F_lists_by T.g_lists_by sc_lists_by (fun _ _ _ _ _ _ us hl => match us, hl with | [_, _], _ => rfl) (fun vs H Q E h => ?_) fun cdv A outer s H vs Q E hr h => ?_
  · obtain ⟨a0, a, b, c, d, e, f, g, h, rfl, ha, ok, k⟩ := h
    rfl
  obtain ⟨a0, a, b, c, d, e, f, g, h, rfl, ha, ok, k⟩ := h
  refine ⟨_, (pss_cons (ps_set (i := 2) sc_lists_by.nd rfl (Or.inl rfl) (pe_lst pa_nil))
      (pss_cons (ps_set (i := 3) sc_lists_by.nd rfl (Or.inl rfl) pe_int)
      (pss_cons (ps_for PassesOwn.never rfl (piET K (by rfl) T.b_enumerate (pa_cons (pv 1) pa_nil)) (tupG K (n := 2) (pgs_cons (pg_name (i := 4) sc_lists_by.nd rfl (Or.inl rfl)) (pgs_cons (pg_name (i := 5) sc_lists_by.nd rfl (Or.inl rfl)) pgs_nil))) (pss_cons (ps_if (pt_cmpR op_gt (pv 4) pe_int (nomark _)) (pss_cons (ps_if (pt_cmpR (neD K hr.units) (pe_slice (slL K) (pv 0) (po_some (pv 3)) (po_some (pe_op op_add (pv 3) pe_int))) (pe_lst (pa_cons pe_str pa_nil)) (nomark _)) pss_never pss_nil)
      (pss_one (ps_aug (i := 3) sc_lists_by.nd rfl (Or.inl rfl) pe_int ip_add))) pss_nil)
      (pss_cons (ps_expr (bmK K PySem.F.plainAttrs_list PySem.F.slot_list_append PySem.F.type_list_append mt_append (pv 2) (pa_cons (pe_callC C_numbers_by hr (by decide) (by rfl) (pa_cons (pe_slice (slL K) (pv 0) (po_some (pv 3)) (po_some (pe_op op_add (pv 3) (pv 5)))) (pa_cons (pv 3) pa_nil))) pa_nil)))
      (pss_cons (ps_if (pt_cmpR op_lt (pe_callB (lenS K) (by rfl) T.b_len (by decide +kernel) (pa_cons (pe_ix (ixL K) (pv 2) (pe_un un_neg pe_int) (fun _ _ => rfl)) pa_nil)) (pv 5) (nomark _)) pss_never pss_nil)
      (pss_one (ps_aug (i := 3) sc_lists_by.nd rfl (Or.inl rfl) (pv 5) ip_add))))))
      (pss_cons (ps_if (pt_cmpR op_lt (pv 3) (pe_callB (lenS K) (by rfl) T.b_len (by decide +kernel) (pa_cons (pv 0) pa_nil)) (nomark _)) pss_never pss_nil)
      (pss_one (ps_ret (pv 2))))))), ?_⟩
  have X := exs_of T.ex
  refine q_asgL (xs := []) (el_lst ea_nil (by show 0 ≤ 100000; omega)) fun fq H1 n1 e1 h1 => ?_
  refine q_asg (v := .int 1) ev_c fun H2 e2 => ?_
  have na : a0 ≠ fq := fun z => by rw [z, n1] at ha; cases ha
  have h2 := e2 _ _ h1
  have ha2 := e2 _ _ (e1 _ _ ha)
  refine inSeq (fo_ETW [4, 2, 2] V.int (ea_one (ev_var rfl)) X.tup (fun pre σ' H' => ∃ (ps : List (Addr × List Int)) (y4 y5 : Option V), σ' = [some (.ref a0), some (.ref (crossAd K)), some (.ref fq), some (.int (atv pre.length)), y4, y5] ∧ Ex H H' ∧ But fq H2 H' ∧
      H' fq = some (.lst (ps.map fun p => V.ref p.1)) ∧ ps.map (·.2) = (segs a b c d e f g h).take pre.length ∧ (∀ p ∈ ps, H p.1 = none ∧ p.1 ≠ fq ∧ H' p.1 = some (.lst (p.2.map V.int))) ∧ (ps.map (·.1)).Nodup)
    (fun H3 e3 => ⟨[], _, _, rfl, (e1.trans e2).trans e3, But.ex e3, e3 _ _ h2, rfl, (fun _ h => nomatch h), List.nodup_nil⟩) ?_ ?_)
  · rintro pre z post σ' H' H'' eq ⟨ps, y4, y5, rfl, e', bt, hf, map, hps, nd⟩ e3
    obtain ⟨at1, seg, alt, cut, hz, hat, htk, sub, few, lp⟩ := seg_ok a b c d e f g h pre z post eq
    have hw : H'' a0 = some (.lst ((cW a b c d e f g h).map V.str)) := e3 _ _ (bt _ _ na ha2)
    have hps2 : ps.length ≤ 3 := by
      have := congrArg List.length map
      rw [List.length_map, List.length_take] at this
      have e : (segs a b c d e f g h).length = 3 := rfl
      omega
    refine q_whenK [some (.ref a0), some (.ref (crossAd K)), some (.ref fq), some (.int at1), some (.int (pre.length : Nat)), some (.int z)] (et_test (ev_op (ev_var rfl) ev_c rv_I0)) (fun H4 e4 => ?_) (fun hb H4 e4 key => ?_) fun hb => ?_
    · have e34 := e3.trans e4
      refine q_appL (xs := ps.map fun p => V.ref p.1) (ys := seg.map V.int) (e34 _ _ hf) (ev_var rfl) (fun H5 e5 Q q => inCall (inCons (goL (el_sl (lo := some at1) (hi := some (at1 + z)) (ev_var rfl) (eo_some (ev_var rfl)) (eo_some (ev_op (ev_var rfl) (ev_var rfl) rv_I0)) (sq_of (e5 _ _ (e4 _ _ hw)))) fun p6 H6 n6 e6 h6 =>
        inCons (go (ev_var rfl) fun H7 e7 => ⟨p6, seg, at1, rfl, by rw [cut] at h6; exact sq_of (e7 _ _ h6), fun n hn => ok n (sub n hn), few, fun p8 H8 n8 e8 h8 => q p8 H8 (fresh_back (e6.trans e7) n8) ((e6.trans e7).trans e8) h8⟩)))) (by rw [List.length_map]; omega) fun p5 H5 n5 e5 h5 => ?_
      have e35 := e34.trans e5
      have np5 : p5 ≠ fq := fun zz => by rw [zz, e34 _ _ hf] at n5; cases n5
      have hfq : (upd H5 fq (.lst (ps.map (fun p => V.ref p.1) ++ [V.ref p5]))) fq = some (.lst (ps.map (fun p => V.ref p.1) ++ [V.ref p5])) := upd_same
      have hp5 : (upd H5 fq (.lst (ps.map (fun p => V.ref p.1) ++ [V.ref p5]))) p5 = some (.lst (seg.map V.int)) := by rw [upd_ne np5]; exact h5
      refine q_when (b := false) (et_test (ev_is (ev_op (ev_len (ev_ixL (ev_var rfl) (ev_un ev_c ru_neg) (sq_of hfq) (atI_last _ _)) (sq_of hp5)) (ev_var rfl) rv_I0) (by rw [List.length_map, hz, decide_eq_false (by omega)]))) (fun z => nomatch z) fun _ H6 e6 => ?_
      refine s_aug rfl (ev_var rfl) fun H7 e7 => ?_
      have e67 := e6.trans e7
      refine ⟨ps ++ [(p5, seg)], some (.int (pre.length : Nat)), some (.int z), ?_, (Ex.mut (e'.trans e35) n1).trans e67, ((bt.trans (But.ex e35)).trans But.upd).trans (But.ex e67), ?_, ?_, ?_, ?_⟩
      · rw [List.length_append, List.length_singleton, ← hat]
        rfl
      · rw [List.map_append]
        exact e67 _ _ hfq
      · rw [List.map_append, map, List.length_append, List.length_singleton, htk]
        rfl
      · intro p hp
        rcases List.mem_append.mp hp with hp | hp
        · obtain ⟨k1, k2, k3⟩ := hps p hp
          exact ⟨k1, k2, e67 _ _ (by rw [upd_ne k2]; exact e35 _ _ k3)⟩
        · rw [List.mem_singleton.mp hp]
          exact ⟨fresh_back (e'.trans e34) n5, np5, e67 _ _ hp5⟩
      · rw [List.map_append]
        refine List.nodup_append.mpr ⟨nd, List.nodup_cons.mpr ⟨List.not_mem_nil, List.nodup_nil⟩, fun x hx y hy kk => ?_⟩
        have hy : y = p5 := List.mem_singleton.mp hy
        obtain ⟨p, hp, rfl⟩ := List.mem_map.mp hx
        have := e34 _ _ (hps p hp).2.2
        rw [kk, hy, n5] at this
        cases this
    · rcases alt with ⟨k1, _⟩ | ⟨_, k2, k3⟩
      · rw [k1] at hb; cases hb
      · refine q_when (b := false) (et_test (b := false) fun H5 e5 Q q => ?_) (fun z => nomatch z) fun _ H5 e5 => ?_
        · refine inOp (goL (el_sl (lo := some (atv pre.length)) (hi := some (atv pre.length + 1)) (ev_var rfl) (eo_some (ev_var rfl)) (eo_some (ev_op (ev_var rfl) ev_c rv_I0)) (sq_of (e5 _ _ (e4 _ _ hw)))) fun p6 H6 n6 e6 h6 => ?_)
          rw [k2] at h6
          refine goL (el_lst (ea_one ev_c) (by show 1 ≤ 100000; omega)) fun p7 H7 n7 e7 h7 => ?_
          have d1 : ∀ p, H7 p = some (.lst [V.str (Str.ofString "/")]) → Dp K H7 (.ref p) (.list [.str (Str.ofString "/")]) := fun p hp => .lst (sq_of hp) (.cons (.str _) .nil)
          exact rv_notsame (d1 _ (e7 _ _ h6)) (d1 _ h7) (flat_list (n := 0) fun d hd => by rw [List.mem_singleton.mp hd]; exact flat_str (by decide +kernel)) (by omega) _ (Ex.refl _) _ fun H8 e8 => q H8 ((e6.trans e7).trans e8)
        · refine s_aug rfl ev_c fun H6 e6 => ?_
          have := key H6 (e5.trans e6)
          rw [k3] at this
          exact this
    · rcases alt with ⟨_, k2⟩ | ⟨k1, _⟩
      · rw [k2]
        rfl
      · rw [k1] at hb; cases hb
  · rintro σ' H' ⟨ps, y4, y5, rfl, e', bt, hf, map, hps, nd⟩
    dsimp only
    have hw : H' a0 = some (.lst ((cW a b c d e f g h).map V.str)) := bt _ _ na ha2
    refine q_when (b := false) (et_test (ev_is (ev_op (ev_var rfl) (ev_len (ev_var rfl) (sq_of hw)) rv_I0) rfl)) (fun z => nomatch z) fun _ H4 e4 => ?_
    exact s_ret (ev_var rfl) fun H5 e5 => k fq ps H5 ((e'.trans e4).trans e5) n1 (e5 _ _ (e4 _ _ hf)) map (fun p hp => ⟨(hps p hp).1, e5 _ _ (e4 _ _ (hps p hp).2.2)⟩) nd
def spReadPaper : Sp := fun vs H Q _ => ∃ (a b c d e f g h : Int), vs = [.str (pS a b c d e f g h)] ∧ (∀ n ∈ [a, b, c, d, e, f, g, h], NumOk n) ∧ Told H Q
theorem c_read_paper (T : Tx w K mg) (C_lists_by : Callee P w K mg base "lists_by" 3 ["words", "sizes"] (spListsBy K)) : Callee P w K mg base "read_paper" 4 ["text"] spReadPaper := by
  refine callee_of T.F_read_paper T.g_read_paper sc_read_paper (fun _ _ _ _ _ _ us hl => match us, hl with | [_], _ => rfl) (fun vs H Q E h => ?_) fun cdv A outer s H vs Q E hr h => ?_
  · obtain ⟨a, b, c, d, e, f, g, h, rfl, ok, k⟩ := h
    rfl
  obtain ⟨a, b, c, d, e, f, g, h, rfl, ok, k⟩ := h
  refine ⟨_, (pss_cons (ps_set (i := 1) sc_read_paper.nd rfl (Or.inl rfl) (pe_split (pv 0) pe_str))
      (pss_cons (ps_set (i := 2) sc_read_paper.nd rfl (Or.inl rfl) (pe_ix (ixL K) (pv 1) pe_int (fun _ _ => rfl)))
      (pss_cons (ps_if (pt_cmpR op_eq (pv 2) pe_str (nomark _)) pss_never pss_nil)
      (pss_cons (ps_if (pt_cmpR (inS K) (pv 2) (pe_glob (v := V.ref (He.ga K "LISTS")) (by rfl) T.g_LISTS rfl) (by rfl)) pss_never pss_nil)
      (pss_cons (ps_if (pt_cmpR (niKD K T.d_FORMS) (pv 2) (pe_glob (v := V.ref (He.ga K "FORMS")) (by rfl) T.g_FORMS rfl) (by rfl)) pss_never pss_nil)
      (pss_cons (ps_set (i := 3) sc_read_paper.nd rfl (Or.inl rfl) (pe_callC C_lists_by hr (by decide) (by rfl) (pa_cons (pv 1) (pa_cons (pe_ix (ixKD K T.d_FORMS) (pe_glob (v := V.ref (He.ga K "FORMS")) (by rfl) T.g_FORMS rfl) (pv 2) (fun _ _ => rfl)) pa_nil))))
      (pss_cons (ps_if (pt_cmpR op_eq (pe_callB (lenS K) (by rfl) T.b_len (by decide +kernel) (pa_cons (pv 3) pa_nil)) pe_int (nomark _)) pss_never pss_nil)
      (pss_one (ps_ret (pe_tup (pa_cons (pv 2) (pa_cons (pe_ix (ixL K) (pv 3) pe_int (fun _ _ => rfl)) (pa_cons (pe_slice (slL K) (pv 3) (po_some pe_int) po_none) pa_nil))))))))))))), ?_⟩
  have X := exs_of T.ex
  obtain ⟨u, hu, ru⟩ := X.cross
  have l := pS_len ok
  refine q_asgL (xs := (cW a b c d e f g h).map V.str) (el_is (el_split (ev_var rfl) ev_c (by decide +kernel) (by omega)) (by rw [split_pS fun n hn => (ok n hn).1])) fun p1 H1 n1 e1 h1 => ?_
  refine q_asg (v := .str "cross") (ev_ixL (ev_var rfl) ev_c (sq_of h1) (atI_nat (j := 0) rfl)) fun H2 e2 => ?_
  refine q_when (b := false) (et_test (ev_is (ev_op (ev_var rfl) ev_c (rv_eq rfl)) (congrArg V.bl (by decide +kernel)))) (fun z => nomatch z) fun _ H3 e3 => ?_
  refine q_when (b := false) (et_test (ev_is (ev_op (ev_var rfl) ev_c (rv_isL (X.lists H3) rfl rfl)) (congrArg V.bl (by decide +kernel)))) (fun z => nomatch z) fun _ H4 e4 => ?_
  refine q_when (b := false) (et_test (ev_is (ev_op (ev_var rfl) ev_c (rv_of fun H5 e5 Q q => ⟨Str.ofString "cross", some u, rfl, rfl, hu, q⟩)) rfl)) (fun z => nomatch z) fun _ H5 e5 => ?_
  have e25 := ((e2.trans e3).trans e4).trans e5
  refine inSeq (inSet (inCall (inCons (go (ev_var rfl) fun H6 e6 => inCons (go (ev_op ev_c (ev_var rfl) (rv_of fun H7 e7 Q q => ⟨Str.ofString "cross", u, V.ref (crossAd K), rfl, rfl, hu, ru, q⟩)) fun H7 e7 => ?_)))))
  have e17 := (e1.trans e25).trans (e6.trans e7)
  refine ⟨p1, a, b, c, d, e, f, g, h, rfl, e7 _ _ (e6 _ _ (e25 _ _ h1)), ok, fun fq ps H8 e8 nf hf map hps nd => ?_⟩
  obtain ⟨⟨p, ls⟩, ps2, rfl⟩ : ∃ p ps2, ps = p :: ps2 := by
    cases ps with
    | nil => cases map
    | cons p ps2 => exact ⟨p, ps2, rfl⟩
  have lp : ps2.length = 2 := by
    have := congrArg List.length map
    rw [List.length_map, List.length_cons] at this
    have e : (segs a b c d e f g h).length = 3 := rfl
    omega
  refine q_when (b := false) (et_test (ev_is (ev_op (ev_len (ev_var rfl) (sq_of hf)) ev_c (rv_eq rfl)) ?_)) (fun z => nomatch z) fun _ H9 e9 => ?_
  · refine congrArg V.bl (decide_eq_false fun hh => ?_)
    have hh := V.int.inj hh
    rw [List.length_map, List.length_cons, lp] at hh
    omega
  have hf9 := e9 _ _ hf
  refine inRet (inTup (inCons (go (ev_var rfl) fun H10 e10 => inCons (go (ev_ixL (v := .ref p) (ev_var rfl) ev_c (sq_of (e10 _ _ hf9)) (atI_nat (j := 0) rfl)) fun H11 e11 => inCons (goL (el_sl (lo := some ((1 : Nat) : Int)) (hi := none) (ev_var rfl) (eo_some ev_c) eo_none (sq_of (e11 _ _ (e10 _ _ hf9)))) fun p12 H12 n12 e12 h12 => ⟨by show 3 ≤ sizeLine; decide, fun t nt => ?_⟩)))))
  rw [cut_from] at h12
  have h12 : H12 p12 = some (.lst (ps2.map fun p => V.ref p.1)) := h12
  have e8t : Ex H8 (upd H12 t (.tup [.str "cross", .ref p, .ref p12])) := (((e9.trans e10).trans e11).trans e12).trans (Ex.new nt)
  have et : Ex H12 (upd H12 t (.tup [.str "cross", .ref p, .ref p12])) := Ex.new nt
  obtain ⟨k1, k2⟩ := hps (p, ls) List.mem_cons_self
  have rest : ∀ z ∈ ps2, H7 z.1 = none ∧ H8 z.1 = some (.lst (z.2.map V.int)) := fun z hz => hps z (List.mem_cons_of_mem _ hz)
  have nd2 := List.nodup_cons.mp nd
  have map2 : ls = [a, b, c, d] ∧ ps2.map (·.2) = [[e, f], [g, h]] := by
    injection map with m1 m2
    exact ⟨m1, m2⟩
  have ls4 : ls.length = 4 := by rw [map2.1]; rfl
  have rest4 : ∀ r ∈ ps2.map (·.2), r.length ≤ 1000 := fun r hr => by
    rw [map2.2] at hr
    simp only [List.mem_cons, List.not_mem_nil, or_false] at hr
    rcases hr with rfl | rfl
    · show 2 ≤ 1000; omega
    · show 2 ≤ 1000; omega
  have hp12 : H7 p12 = none := fresh_back (((e8.trans e9).trans e10).trans (e11)) n12
  have ne12 : ∀ q o, H8 q = some o → q ≠ p12 := fun q o hq z => by
    have := e11 _ _ (e10 _ _ (e9 _ _ hq))
    rw [z, n12] at this
    cases this
  refine k (.ref t) (.tuple [.str "cross", dI ls, dL (ps2.map (·.2))]) ([] ++ ([p] ++ ((p12 :: ps2.map (·.1)) ++ []))) _ ((e17.trans e8).trans e8t) (.tup upd_same (.cons (.str _) (.cons (own_I (e8t _ _ k2)) (.cons (own_L (et _ _ h12) fun z hz => e8t _ _ (rest z hz).2) .nil)))) ?_ ?_ ?_ ?_
  · rw [List.nil_append, List.append_nil]
    refine List.nodup_cons.mpr ⟨fun hm => ?_, List.nodup_cons.mpr ⟨fun hm => ?_, nd2.2⟩⟩
    · rcases List.mem_cons.mp hm with hm | hm
      · exact ne12 _ _ k2 hm
      · exact nd2.1 hm
    · obtain ⟨z, hz, hzz⟩ := List.mem_map.mp hm
      exact ne12 _ _ (rest z hz).2 hzz
  · intro x hx
    rw [List.nil_append, List.append_nil] at hx
    refine fresh_back e17 ?_
    rcases List.mem_cons.mp hx with rfl | hx
    · exact k1
    · rcases List.mem_cons.mp hx with rfl | hx
      · exact hp12
      · obtain ⟨z, hz, rfl⟩ := List.mem_map.mp hx
        exact (rest z hz).1
  · refine flat_tuple (n := 3) fun d hd => ?_
    simp only [List.mem_cons, List.not_mem_nil, or_false] at hd
    rcases hd with rfl | rfl | rfl
    · exact (flat_str (by decide +kernel)).mono (by omega)
    · exact (flat_I _).mono (by omega)
    · exact (flat_L _).mono (by omega)
  · refine tidy_tup (by show 3 ≤ 1000; omega) fun d hd => ?_
    simp only [List.mem_cons, List.not_mem_nil, or_false] at hd
    rcases hd with rfl | rfl | rfl
    · rfl
    · exact tidy_I _ (by rw [ls4]; omega)
    · exact tidy_L _ (by rw [List.length_map]; omega) rest4
end
end Ol
namespace Ol
open PySem PySem.Spec PyProof.Rows L2 Evl
/-! ### the desk -/
/-- a hand: its tuple, its title, its ranking's list -/
abbrev HandP := Addr × Str × Addr
def Hs (K : PySem.W.Frag) (H : Hp) (h : Addr) (r0 : List Int) (hs : List HandP) : Prop := H h = some (.lst (hs.map fun z => V.ref z.1)) ∧ ∀ z ∈ hs, SqT K H z.1 [.str z.2.1, .ref z.2.2, .int 1] ∧ LI K H z.2.2 r0
theorem Hs.ex {K : PySem.W.Frag} {H H' : Hp} {h : Addr} {r0 : List Int} {hs : List HandP} (k : Hs K H h r0 hs) (e : Ex H H') : Hs K H' h r0 hs := ⟨e _ _ k.1, fun z hz => ⟨ex_t e (k.2 z hz).1, ex_l e (k.2 z hz).2⟩⟩
structure DeskW (names r0 : List Int) : Prop where
  up : names.Pairwise (· < ·)
  ok : ∀ n ∈ names, NumOk n
  few : names.length ≤ 10
  some : 0 < names.length
  perm : r0.Perm names
theorem DeskW.rk {names r0 : List Int} (W : DeskW names r0) : Rk r0 := ⟨W.perm.nodup_iff.mpr (up_nd W.up), fun n hn => (W.ok n (W.perm.mem_iff.mp hn)).1, by rw [W.perm.length_eq]; exact W.few, by rw [W.perm.length_eq]; exact W.some⟩
theorem DeskW.okr {names r0 : List Int} (W : DeskW names r0) : ∀ n ∈ r0, NumOk n := fun n hn => W.ok n (W.perm.mem_iff.mp hn)
def dFs (n s : Addr) : List (Str × V) := [("names", .ref n), ("states", .ref s)]
structure DeskI (K : PySem.W.Frag) (H : Hp) (o : Addr) (names r0 : List Int) (hs : List HandP) : Prop where
  W : DeskW names r0
  ex_ : ∃ dx n s h st, H o = some (.ins (dC K) dx (dFs n s)) ∧ H n = some (.lst (names.map V.int)) ∧ H s = some (.lst (st ++ [.ref h])) ∧ st.length ≤ hs.length ∧ Hs K H h r0 hs
theorem DeskI.ex {K : PySem.W.Frag} {H H' : Hp} {o : Addr} {names r0 : List Int} {hs : List HandP} (D : DeskI K H o names r0 hs) (e : Ex H H') : DeskI K H' o names r0 hs := by
  obtain ⟨dx, n, s, h, st, h1, h2, h3, h4, h5⟩ := D.ex_
  exact ⟨D.W, dx, n, s, h, st, e _ _ h1, e _ _ h2, e _ _ h3, h4, h5.ex e⟩
section
variable {K : PySem.W.Frag} {σ : L2.St} {H H' : Hp} {ta tb te tl to : TE} {t u : TT} {x y z v : V} {a o : Addr} {D : Ends} {tz tu : TS} {g : TG} {s : TA} {sp : Sp} {E : XK} {m : Str} {names r0 : List Int} {hs : List HandP} {Q : VK}
theorem inMeth {C : Addr} (h : ta σ H fun x H1 => ∃ a dx fs, x = .ref a ∧ H1 a = some (.ins C dx fs) ∧ fs.lookup m = none ∧ s σ H1 fun vs H2 => sp (x :: (vs ++ [])) H2 Q E) : tMeth C m sp [] E ta s σ H Q := h
theorem goMeth {vs : List V} (h : Ev ta σ H (.ref o)) (I : DeskI K H o names r0 hs) (hm : ∀ n s, (dFs n s).lookup m = none) (ha : EvA s σ H vs) (k : ∀ H1, Ex H H1 → sp (.ref o :: vs) H1 Q E) : tMeth (dC K) m sp [] E ta s σ H Q := h H (Ex.refl H) _ fun H1 e1 => by
  obtain ⟨dx, n, s, h, st, h1, h2, h3, h4, h5⟩ := (I.ex e1).ex_
  exact ⟨o, dx, _, rfl, h1, hm n s, ha H1 e1 _ fun H2 e2 => by
    rw [List.append_nil]
    exact k H2 (e1.trans e2)⟩
theorem ev_methV {vs : List V} (h : Ev ta σ H (.ref o)) (I : DeskI K H o names r0 hs) (hm : ∀ n s, (dFs n s).lookup m = none) (ha : EvA s σ H vs) (k : ∀ H1, Ex H H1 → ∀ Q : VK, (∀ H2, Ex H1 H2 → Q v H2) → sp (.ref o :: vs) H1 Q E) : Ev (tMeth (dC K) m sp [] E ta s) σ H v := fun H1 e Q q =>
  goMeth (h.mono e) (I.ex e) hm (ha.mono e) fun H2 e2 => k H2 (e.trans e2) Q fun H3 e3 => q H3 (e2.trans e3)
theorem el_methL {vs xs : List V} (h : Ev ta σ H (.ref o)) (I : DeskI K H o names r0 hs) (hm : ∀ n s, (dFs n s).lookup m = none) (ha : EvA s σ H vs) (k : ∀ H1, Ex H H1 → ∀ Q : VK, (∀ p H2, H1 p = none → Ex H1 H2 → H2 p = some (.lst xs) → Q (.ref p) H2) → sp (.ref o :: vs) H1 Q E) : EvL (tMeth (dC K) m sp [] E ta s) σ H xs := fun H1 e Q q =>
  goMeth (h.mono e) (I.ex e) hm (ha.mono e) fun H2 e2 => k H2 (e.trans e2) Q fun p H3 n3 e3 h3 => q p H3 (fresh_back e2 n3) (e2.trans e3) h3
theorem ev_fld {C dx : Addr} {fs : List (Str × V)} {f : Str} (h : Ev ta σ H (.ref o)) (ho : H o = some (.ins C dx fs)) (c : Cls K C) (na : NoAttr K C f) (l : fs.lookup f = some v) : Ev (tFld K ta f) σ H v := fun H1 e Q q =>
  h H1 e _ fun H2 e2 => ⟨o, C, dx, fs, v, rfl, e2 _ _ (e _ _ ho), c, na, l, q H2 e2⟩
theorem inLc {vs : List Nat} (h : tl σ H fun x H1 => tLc (iList K (tC x)) g t te vs σ H1 Q) : tLc (iList K tl) g t te vs σ H Q := h
theorem g_three {p : Addr} {i j k : Nat} {Q : L2.St → Hp → Prop} (h : SqT K H p [x, y, z]) (q : Q (((σ.set i (some x)).set j (some y)).set k (some z)) H) : gTup K 3 (gCons (gName i) (gCons (gName j) (gCons (gName k) gNil))) (.ref p) σ H Q := ⟨p, [x, y, z], rfl, h, rfl, x, [y, z], rfl, y, [z], rfl, z, [], rfl, rfl, q⟩
end
section
variable {P : Program} {w : World} {K : PySem.W.Frag} {mg : Str → Option Value} {base : Heap}
/-! ### is_title, is_row -/
def spTitle : Sp := fun vs H Q _ => ∃ x : Str, vs = [.str x] ∧ (x = "a" ∨ x = "b") ∧ RetV (.bl true) H Q
theorem c_is_title (T : Tx w K mg)  : Callee P w K mg base "is_title" 1 ["word"] spTitle := by
  refine callee_of T.F_is_title T.g_is_title sc_is_title (fun _ _ _ _ _ _ us hl => match us, hl with | [_], _ => rfl) (fun vs H Q E h => ?_) fun cdv A outer s H vs Q E hr h => ?_
  · obtain ⟨x, rfl, hx, q⟩ := h
    rfl
  obtain ⟨x, rfl, hx, q⟩ := h
  refine ⟨_, (pss_one (ps_ret (pe_and (pe_cmpR op_ne (pv 0) pe_str (nomark _)) (pe_and (pe_cmpR op_le (pe_callB call_len_str (by rfl) T.b_len (by decide +kernel) (pa_cons (pv 0) pa_nil)) (pe_globI (by rfl) T.i_LONGEST_TITLE) (nomark _)) (pe_one (pe_callB (allR K) (by rfl) T.b_all (by decide +kernel) (pa_cons (pe_lc (own := [("sign", 1)]) rfl sc_is_title.nd (pi_str (pv 0)) (blkOk_by (by kernel_rfl)) (fun _ _ _ _ _ => (pg_name (i := 1) sc_is_title.nd rfl (Or.inl rfl))) (fun _ _ _ _ _ => pts_nil) (fun _ _ _ _ _ => (pe_cmpR op_in_sign (pv 1) (pe_globS (by rfl) T.t_LETTERS) (by rfl)))) pa_nil))))))), ?_⟩
  have letters : ∀ c ∈ x.cps.toList, c ∈ (Str.ofString "abcdefghijklmnopqrstuvwxyz").cps.toList := by
    rcases hx with rfl | rfl <;> decide +kernel
  have l : x.length = 1 := by rcases hx with rfl | rfl <;> decide +kernel
  refine s_ret (ev_andV (a := true) (b := true) (ev_is (ev_op (ev_var rfl) ev_c (rv_ne rfl)) (congrArg V.bl ?_)) fun _ => ev_andV (a := true) (b := true) (ev_is (ev_op (ev_lenS (ev_var rfl) (by omega)) ev_c rv_I0) (by rw [l]; rfl)) fun _ =>
    ev_is (ev_all (bs := x.cps.toList.map fun _ => true) (el_lcS (fun _ => true) (ev_var rfl) (by omega) (fun _ => rfl) fun c hc H1 e1 => ev_is (ev_inSign (ev_var rfl) ev_c) (by rw [decide_eq_true (letters c hc)]))) (congrArg V.bl (by rw [List.all_map]; simp))) q
  rcases hx with rfl | rfl <;> decide +kernel
def spRow (K : PySem.W.Frag) : Sp := fun vs H Q _ => ∃ (a : Addr) (x : Str) (rest : List Str), vs = [.ref a] ∧ LS K H a (x :: rest) ∧ x ≠ "cost" ∧ ((∃ u, PySem.W.nsIn K (He.ga K "COUNTS") x = some (some u) ∧ RelV (.int ((rest.length : Nat) + 1)) u) ∨
  (PySem.W.nsIn K (He.ga K "COUNTS") x = some none ∧ PySem.W.nsIn K (He.ga K "ASKED") x = some none ∧ ∃ u, PySem.W.nsIn K (He.ga K "ALONG") x = some (some u) ∧ RelV (.int ((rest.length : Nat) + 1)) u)) ∧ RetV (.bl true) H Q
theorem c_is_row (T : Tx w K mg)  : Callee P w K mg base "is_row" 1 ["words"] (spRow K) := by
  refine callee_of T.F_is_row T.g_is_row sc_is_row (fun _ _ _ _ _ _ us hl => match us, hl with | [_], _ => rfl) (fun vs H Q E h => ?_) fun cdv A outer s H vs Q E hr h => ?_
  · obtain ⟨a, x, rest, rfl, ha, hc, alt, q⟩ := h
    rfl
  obtain ⟨a, x, rest, rfl, ha, hc, alt, q⟩ := h
  refine ⟨_, (pss_cons (ps_set (i := 1) sc_is_row.nd rfl (Or.inl rfl) (pe_ix (ixL K) (pv 0) pe_int (fun _ _ => rfl)))
      (pss_cons (ps_if (pt_cmpR op_eq (pv 1) pe_str (nomark _)) pss_never pss_nil)
      (pss_cons (ps_if (pt_cmpR (inKD K T.d_COUNTS) (pv 1) (pe_glob (v := V.ref (He.ga K "COUNTS")) (by rfl) T.g_COUNTS rfl) (by rfl)) (pss_one (ps_ret (pe_cmpR op_eq (pe_callB (lenS K) (by rfl) T.b_len (by decide +kernel) (pa_cons (pv 0) pa_nil)) (pe_ix (ixKD K T.d_COUNTS) (pe_glob (v := V.ref (He.ga K "COUNTS")) (by rfl) T.g_COUNTS rfl) (pv 1) (fun _ _ => rfl)) (nomark _)))) pss_nil)
      (pss_cons (ps_if (pt_cmpR (inKD K T.d_ASKED) (pv 1) (pe_glob (v := V.ref (He.ga K "ASKED")) (by rfl) T.g_ASKED rfl) (by rfl)) pss_never pss_nil)
      (pss_one (ps_ret (pe_and (pe_cmpR (inKD K T.d_ALONG) (pv 1) (pe_glob (v := V.ref (He.ga K "ALONG")) (by rfl) T.g_ALONG rfl) (by rfl)) (pe_one (pe_cmpR op_eq (pe_callB (lenS K) (by rfl) T.b_len (by decide +kernel) (pa_cons (pv 0) pa_nil)) (pe_ix (ixKD K T.d_ALONG) (pe_glob (v := V.ref (He.ga K "ALONG")) (by rfl) T.g_ALONG rfl) (pv 1) (fun _ _ => rfl)) (nomark _)))))))))), ?_⟩
  refine q_asg (v := .str x) (ev_ixL (ev_var rfl) ev_c ha (atI_nat (j := 0) rfl)) fun H1 e1 => ?_
  refine q_when (b := false) (et_test (ev_is (ev_op (ev_var rfl) ev_c (rv_eq rfl)) (congrArg V.bl (decide_eq_false fun h => hc (V.str.inj h))))) (fun z => nomatch z) fun _ H2 e2 => ?_
  have e02 := e1.trans e2
  have len : ∀ H3, Ex H H3 → Ev (tCB (rLenS K) (tCons (tVar 0) tNil)) [some (.ref a), some (.str x)] H3 (.int ((rest.length : Nat) + 1)) := fun H3 e3 => ev_is (ev_len (ev_var rfl) (ex_l e3 ha)) (by rw [List.length_map, List.length_cons]; rfl)
  rcases alt with ⟨u, hu, ru⟩ | ⟨h1, h2, u, hu, ru⟩
  · refine q_when (b := true) (et_test (ev_op (ev_var rfl) ev_c (rv_of fun H3 e3 Q q => ⟨x, some u, rfl, rfl, hu, q⟩))) (fun _ H3 e3 => ?_) fun z => nomatch z
    exact s_ret (ev_is (ev_op (len H3 (e02.trans e3)) (ev_op ev_c (ev_var rfl) (rv_of fun H4 e4 Q q => ⟨x, u, V.int ((rest.length : Nat) + 1), rfl, rfl, hu, ru, q⟩)) (rv_eq rfl)) (congrArg V.bl (decide_eq_true rfl))) fun H4 e4 => q H4 ((e02.trans e3).trans e4)
  · refine q_when (b := false) (et_test (ev_op (ev_var rfl) ev_c (rv_of fun H3 e3 Q q => ⟨x, none, rfl, rfl, h1, q⟩))) (fun z => nomatch z) fun _ H3 e3 => ?_
    refine q_when (b := false) (et_test (ev_op (ev_var rfl) ev_c (rv_of fun H3 e3 Q q => ⟨x, none, rfl, rfl, h2, q⟩))) (fun z => nomatch z) fun _ H4 e4 => ?_
    have e04 := (e02.trans e3).trans e4
    exact s_ret (ev_andV (a := true) (b := true) (ev_op (ev_var rfl) ev_c (rv_of fun H3 e3 Q q => ⟨x, some u, rfl, rfl, hu, q⟩)) fun _ =>
      ev_is (ev_op (len H4 e04) (ev_op ev_c (ev_var rfl) (rv_of fun H4 e4 Q q => ⟨x, u, V.int ((rest.length : Nat) + 1), rfl, rfl, hu, ru, q⟩)) (rv_eq rfl)) (congrArg V.bl (decide_eq_true rfl))) fun H5 e5 => q H5 (e04.trans e5)
/-! ### Desk -/
def spInit (K : PySem.W.Frag) : Sp := fun vs H Q _ => ∃ (o b dx : Addr) (names r0 : List Int), vs = [.ref o, .ref b] ∧ H o = some (.ins (dC K) dx []) ∧ LI K H b names ∧ DeskW names r0 ∧ ∀ H', But o H H' → DeskI K H' o names r0 [] → (∀ b H2, b ≠ o → H b ≠ none → But b H' H2 → DeskI K H2 o names r0 []) → Q .non H'
theorem c_Desk_init (T : Tx w K mg) (C_is_ranking : Callee P w K mg base "is_ranking" 3 ["thing"] (spRk K (.bl true))) : Initd P w K mg base 4 ["self", "names"] (spInit K) := by
  refine initd_of T.F_Desk_init T.mkr sc_Desk_init (fun _ _ _ _ _ _ us hl => match us, hl with | [_, _], _ => rfl) (fun vs H Q E h => ?_) fun cdv A outer s H vs Q E hr h => ?_
  · obtain ⟨o, b, dx, names, r0, rfl, ho, hb, W, q⟩ := h
    rfl
  obtain ⟨o, b, dx, names, r0, rfl, ho, hb, W, q⟩ := h
  refine ⟨_, (pss_cons (ps_if (PW.pt (pw_or (pt_not (pt_val (pe_callC C_is_ranking hr (by decide) (by rfl) (pa_cons (pv 1) pa_nil)))) (pw_or1 (pt_cmpR (neD K hr.units) (pv 1) (pe_callB (srtI K) (by rfl) T.b_sorted (by decide +kernel) (pa_cons (pv 1) pa_nil)) (nomark _))))) pss_never pss_nil)
      (pss_cons (fldS K (pv 0) (pe_callTy (listOf K) (by rfl) T.b_list (by decide +kernel) (pa_cons (pv 1) pa_nil)) rfl)
      (pss_one (fldS K (pv 0) (pe_lst (pa_cons (pe_lst pa_nil) pa_nil)) rfl)))), ?_⟩
  have f := W.few
  have pos : ∀ n ∈ names, 0 ≤ n := fun n hn => (W.ok n hn).1
  refine q_when (b := false) (et_or (a := false) (b := false) (et_not (a := true) (et_B (ev_callV (ea_one (ev_var rfl)) fun H1 e1 Q q => ⟨b, names, rfl, ex_l e1 hb, ⟨up_nd W.up, pos, W.few, W.some⟩, q⟩))) fun _ =>
    et_test (ev_opL (ev_var rfl) (el_sortedN (ev_var rfl) hb (List.Perm.refl names) W.up (by omega)) fun p H1 h1 e1 => rv_notsame (dp_I (ex_l e1 hb)) (dp_I (sq_of h1)) (flat_I names) (by omega))) (fun z => nomatch z) fun _ H1 e1 => ?_
  refine inSeq (inFld (goL (el_list (ev_var rfl) (ex_l e1 hb)) fun n H2 n2 e2 h2 => go (ev_var rfl) fun H3 e3 => ⟨o, dC K, dx, [], rfl, e3 _ _ (e2 _ _ (e1 _ _ ho)), T.cl, T.n_names, by decide, ?_⟩))
  have e03 := (e1.trans e2).trans e3
  have ho3 := e03 _ _ ho
  have hn3 := e3 _ _ h2
  generalize hH4 : upd H3 o (.ins (dC K) dx (putF "names" (.ref n) [])) = H4
  have b04 : But o H H4 := by rw [← hH4]; exact (But.ex e03).trans But.upd
  have ho4 : H4 o = some (.ins (dC K) dx [("names", .ref n)]) := by rw [← hH4]; exact upd_same
  have nno : n ≠ o := fun z => by rw [z, ho3] at hn3; cases hn3
  have hn4 : H4 n = some (.lst (names.map V.int)) := by rw [← hH4, upd_ne nno]; exact hn3
  dsimp only
  refine inFld (inLst (inCons (goL (el_lst ea_nil (by show 0 ≤ 100000; omega)) fun h H6 n6 e6 h6 => ⟨by show 1 ≤ sizeLine; decide, fun s ns => go (ev_var rfl) fun H7 e7 => ?_⟩)))
  have e47 : Ex H4 H7 := (e6.trans (Ex.new ns)).trans e7
  refine ⟨o, dC K, dx, _, rfl, e47 _ _ ho4, T.cl, T.n_states, by show 1 < 1000; omega, ?_⟩
  have hs7 : H7 s = some (.lst [.ref h]) := e7 _ _ upd_same
  have hh7 : H7 h = some (.lst []) := e7 _ _ (Ex.new ns _ _ h6)
  have nso : s ≠ o := fun z => by rw [z, e47 _ _ ho4] at hs7; cases hs7
  have nho : h ≠ o := fun z => by rw [z, e47 _ _ ho4] at hh7; cases hh7
  have eput : putF "states" (.ref s) [("names", .ref n)] = dFs n s := by
    show (if ("names" : Str) = "states" then _ else _) = _
    rw [if_neg (by decide)]
    rfl
  rw [eput]
  have no8 : (upd H7 o (.ins (dC K) dx (dFs n s))) o = some (.ins (dC K) dx (dFs n s)) := upd_same
  have nn8 : (upd H7 o (.ins (dC K) dx (dFs n s))) n = some (.lst (names.map V.int)) := by
    rw [upd_ne nno]
    exact e47 _ _ hn4
  have ns8 : (upd H7 o (.ins (dC K) dx (dFs n s))) s = some (.lst [.ref h]) := by
    rw [upd_ne nso]
    exact hs7
  have nh8 : (upd H7 o (.ins (dC K) dx (dFs n s))) h = some (.lst []) := by
    rw [upd_ne nho]
    exact hh7
  have b08 : But o H (upd H7 o (.ins (dC K) dx (dFs n s))) := (b04.trans (But.ex e47)).trans But.upd
  have nHn : H n = none := fresh_back e1 n2
  have old : ∀ x, H4 x = none → H x = none := fun x hx => by
    cases hh : H x with
    | none => rfl
    | some u =>
      by_cases xo : x = o
      · rw [xo, ho4] at hx
        cases hx
      · rw [b04 _ _ xo hh] at hx
        cases hx
  have nHh : H h = none := old h n6
  have nHs : H s = none := old s (fresh_back e6 ns)
  generalize upd H7 o (.ins (dC K) dx (dFs n s)) = H8 at no8 nn8 ns8 nh8 b08
  refine q H8 b08 ⟨W, dx, n, s, h, [], no8, nn8, ns8, Nat.le_refl _, nh8, fun _ h => nomatch h⟩ fun b H9 bo hb b9 => ⟨W, dx, n, s, h, [], b9 _ _ (Ne.symm bo) no8, b9 _ _ (fun z => hb (z ▸ nHn)) nn8, b9 _ _ (fun z => hb (z ▸ nHs)) ns8, Nat.le_refl _, b9 _ _ (fun z => hb (z ▸ nHh)) nh8, fun _ h => nomatch h⟩
def spHands (K : PySem.W.Frag) : Sp := fun vs H Q _ => ∃ (o : Addr) (names r0 : List Int) (hs : List HandP), vs = [.ref o] ∧ DeskI K H o names r0 hs ∧ ∀ h H', Ex H H' → Hs K H' h r0 hs → Q (.ref h) H'
theorem c_Desk_hands (T : Tx w K mg)  : Metd P w K mg base "hands" 1 ["self"] (spHands K) := by
  refine metd_of T.F_Desk_hands T.m_hands sc_Desk_hands (fun _ _ _ _ _ _ us hl => match us, hl with | [_], _ => rfl) (fun vs H Q E h => ?_) fun cdv A outer s H vs Q E hr h => ?_
  · obtain ⟨o, names, r0, hs, rfl, I, q⟩ := h
    rfl
  obtain ⟨o, names, r0, hs, rfl, I, q⟩ := h
  refine ⟨_, (pss_one (ps_ret (pe_ix (ixL K) (fldK K (pv 0) rfl) (pe_un un_neg pe_int) (fun _ _ => rfl)))), ?_⟩
  obtain ⟨dx, n, s', h, st, h1, h2, h3, h4, h5⟩ := I.ex_
  exact s_ret (ev_ixL (ev_fld (f := "states") (ev_var rfl) h1 T.cl T.n_states rfl) (ev_un ev_c ru_neg) (sq_of h3) (atI_last _ _)) fun H1 e1 => q h H1 e1 (h5.ex e1)
def spTitles (K : PySem.W.Frag) : Sp := fun vs H Q _ => ∃ (o : Addr) (names r0 : List Int) (hs : List HandP), vs = [.ref o] ∧ DeskI K H o names r0 hs ∧ hs.length ≤ 5 ∧ RetL ((hs.map (·.2.1)).map V.str) H Q
theorem c_Desk_titles (T : Tx w K mg) (CM_hands : Metd P w K mg base "hands" 1 ["self"] (spHands K)) : Metd P w K mg base "titles" 2 ["self"] (spTitles K) := by
  refine metd_of T.F_Desk_titles T.m_titles sc_Desk_titles (fun _ _ _ _ _ _ us hl => match us, hl with | [_], _ => rfl) (fun vs H Q E h => ?_) fun cdv A outer s H vs Q E hr h => ?_
  · obtain ⟨o, names, r0, hs, rfl, I, few, q⟩ := h
    rfl
  obtain ⟨o, names, r0, hs, rfl, I, few, q⟩ := h
  refine ⟨_, (pss_one (ps_ret (pe_lc (own := [("title", 1), ("ranking", 2), ("weight", 3)]) rfl sc_Desk_titles.nd (piL K (pe_methC0 T CM_hands hr (by decide) (pv 0))) (blkOk_by (by kernel_rfl)) (fun _ _ _ _ _ => (tupG K (n := 3) (pgs_cons (pg_name (i := 1) sc_Desk_titles.nd rfl (Or.inl rfl)) (pgs_cons (pg_name (i := 2) sc_Desk_titles.nd rfl (Or.inl rfl)) (pgs_cons (pg_name (i := 3) sc_Desk_titles.nd rfl (Or.inl rfl)) pgs_nil))))) (fun _ _ _ _ _ => pts_nil) (fun _ _ _ _ _ => (pv 1))))), ?_⟩
  refine inRet (inLc (goMeth (ev_var rfl) I (fun _ _ => rfl) ea_nil fun H1 e1 => ⟨o, names, r0, hs, rfl, I.ex e1, fun h H2 e2 hh => ?_⟩))
  refine el_lcG (K := K) hs (fun z => V.ref z.1) _ (fun _ => true) (fun z => V.str z.2.1) ev_c (sq_of hh.1) (by omega) (fun z hz H3 e3 Q k => g_three (ex_t e3 (hh.2 z hz).1) k) (fun _ _ => rfl) (fun _ _ _ _ => et_none rfl) (fun z hz H3 e3 _ => ev_var rfl) H2 (Ex.refl _) _ fun p H3 n3 e3 h3 => ?_
  rw [filter_all] at h3
  refine q p H3 (fresh_back (e1.trans e2) n3) ((e1.trans e2).trans e3) ?_
  rw [List.map_map]
  exact h3
def spRankBy (K : PySem.W.Frag) : Sp := fun vs H Q _ => ∃ (o : Addr) (names r0 : List Int) (hs : List HandP), vs = [.ref o, .str (rS r0)] ∧ DeskI K H o names r0 hs ∧ RetL (r0.map V.int) H Q
theorem c_Desk_ranking_by (T : Tx w K mg) (C_ranking_of : Callee P w K mg base "ranking_of" 4 ["word"] spRankOf) : Metd P w K mg base "ranking_by" 5 ["self", "word"] (spRankBy K) := by
  refine metd_of T.F_Desk_ranking_by T.m_ranking_by sc_Desk_ranking_by (fun _ _ _ _ _ _ us hl => match us, hl with | [_, _], _ => rfl) (fun vs H Q E h => ?_) fun cdv A outer s H vs Q E hr h => ?_
  · obtain ⟨o, names, r0, hs, rfl, I, q⟩ := h
    rfl
  obtain ⟨o, names, r0, hs, rfl, I, q⟩ := h
  refine ⟨_, (pss_cons (ps_set (i := 2) sc_Desk_ranking_by.nd rfl (Or.inl rfl) (pe_callC C_ranking_of hr (by decide) (by rfl) (pa_cons (pv 1) pa_nil)))
      (pss_cons (ps_if (PW.pt (pw_or (pt_cmpR op_isN (pv 2) pe_non (nomark _)) (pw_or1 (pt_cmpR (neD K hr.units) (pe_callB (srtI K) (by rfl) T.b_sorted (by decide +kernel) (pa_cons (pv 2) pa_nil)) (fldK K (pv 0) rfl) (nomark _))))) (pss_one (ps_ret pe_non)) pss_nil)
      (pss_one (ps_ret (pv 2))))), ?_⟩
  obtain ⟨dx, n, s', h, st, h1, h2, h3, h4, h5⟩ := I.ex_
  have f := I.W.few
  refine q_asgL (xs := r0.map V.int) (el_callL (ea_one (ev_var rfl)) fun H1 e1 Q q => ⟨r0, rfl, I.W.rk, I.W.okr, q⟩) fun p H1 n1 e1 k1 => ?_
  refine q_when (b := false) (et_or (a := false) (b := false) (et_test (ev_is (ev_op (ev_var rfl) ev_c (rv_of fun H2 e2 Q q => ⟨rfl, q⟩)) rfl)) fun _ => et_test (ev_opL1 (el_sortedN (ev_var rfl) (sq_of k1) I.W.perm I.W.up (by omega)) (fun H2 e2 => ev_fld (f := "names") (ev_var rfl) (e2 _ _ (e1 _ _ h1)) T.cl T.n_names rfl) fun p2 H2 k2 e2 =>
    rv_notsame (dp_I (sq_of k2)) (dp_I (sq_of (e2 _ _ (e1 _ _ h2)))) (flat_I names) (by omega))) (fun z => nomatch z) fun _ H2 e2 => ?_
  exact s_ret (ev_var rfl) fun H3 e3 => q.go (Ex.refl _) n1 ((e1.trans e2).trans e3) (e3 _ _ (e2 _ _ k1))
theorem c_Desk_must_rank (T : Tx w K mg) (CM_ranking_by : Metd P w K mg base "ranking_by" 5 ["self", "word"] (spRankBy K)) : Metd P w K mg base "must_rank" 6 ["self", "word"] (spRankBy K) := by
  refine metd_of T.F_Desk_must_rank T.m_must_rank sc_Desk_must_rank (fun _ _ _ _ _ _ us hl => match us, hl with | [_, _], _ => rfl) (fun vs H Q E h => ?_) fun cdv A outer s H vs Q E hr h => ?_
  · obtain ⟨o, names, r0, hs, rfl, I, q⟩ := h
    rfl
  obtain ⟨o, names, r0, hs, rfl, I, q⟩ := h
  refine ⟨_, (pss_cons (ps_set (i := 2) sc_Desk_must_rank.nd rfl (Or.inl rfl) (pe_methC T CM_ranking_by hr (by decide) (pv 0) (pa_cons (pv 1) pa_nil)))
      (pss_cons (ps_if (pt_cmpR op_isN (pv 2) pe_non (nomark _)) pss_never pss_nil)
      (pss_one (ps_ret (pv 2))))), ?_⟩
  refine q_asgL (xs := r0.map V.int) (el_methL (ev_var rfl) I (fun _ _ => rfl) (ea_one (ev_var rfl)) fun H1 e1 Q q => ⟨o, names, r0, hs, rfl, I.ex e1, q⟩) fun p H1 n1 e1 k1 => ?_
  refine q_when (b := false) (et_test (ev_is (ev_op (ev_var rfl) ev_c (rv_of fun H2 e2 Q q => ⟨rfl, q⟩)) rfl)) (fun z => nomatch z) fun _ H2 e2 => ?_
  exact s_ret (ev_var rfl) fun H3 e3 => q.go (Ex.refl _) n1 ((e1.trans e2).trans e3) (e3 _ _ (e2 _ _ k1))
theorem c_Desk_must_line (T : Tx w K mg) (CM_ranking_by : Metd P w K mg base "ranking_by" 5 ["self", "word"] (spRankBy K)) : Metd P w K mg base "must_line" 6 ["self", "word"] (spRankBy K) := by
  refine metd_of T.F_Desk_must_line T.m_must_line sc_Desk_must_line (fun _ _ _ _ _ _ us hl => match us, hl with | [_, _], _ => rfl) (fun vs H Q E h => ?_) fun cdv A outer s H vs Q E hr h => ?_
  · obtain ⟨o, names, r0, hs, rfl, I, q⟩ := h
    rfl
  obtain ⟨o, names, r0, hs, rfl, I, q⟩ := h
  refine ⟨_, (pss_cons (ps_set (i := 2) sc_Desk_must_line.nd rfl (Or.inl rfl) (pe_methC T CM_ranking_by hr (by decide) (pv 0) (pa_cons (pv 1) pa_nil)))
      (pss_cons (ps_if (pt_cmpR op_isN (pv 2) pe_non (nomark _)) pss_never pss_nil)
      (pss_one (ps_ret (pv 2))))), ?_⟩
  refine q_asgL (xs := r0.map V.int) (el_methL (ev_var rfl) I (fun _ _ => rfl) (ea_one (ev_var rfl)) fun H1 e1 Q q => ⟨o, names, r0, hs, rfl, I.ex e1, q⟩) fun p H1 n1 e1 k1 => ?_
  refine q_when (b := false) (et_test (ev_is (ev_op (ev_var rfl) ev_c (rv_of fun H2 e2 Q q => ⟨rfl, q⟩)) rfl)) (fun z => nomatch z) fun _ H2 e2 => ?_
  exact s_ret (ev_var rfl) fun H3 e3 => q.go (Ex.refl _) n1 ((e1.trans e2).trans e3) (e3 _ _ (e2 _ _ k1))
def spDone (K : PySem.W.Frag) : Sp := fun vs H Q _ => ∃ (o h : Addr) (names r0 : List Int) (hs hs1 : List HandP), vs = [.ref o, .ref h] ∧ DeskI K H o names r0 hs ∧ Hs K H h r0 hs1 ∧ hs1.length = hs.length + 1 ∧ hs.length ≤ 5 ∧ ∀ H', But o H H' → DeskI K H' o names r0 hs1 → Q (.str "ok") H'
theorem c_Desk_done (T : Tx w K mg)  : Metd P w K mg base "done" 1 ["self", "hands"] (spDone K) := by
  refine metd_of T.F_Desk_done T.m_done sc_Desk_done (fun _ _ _ _ _ _ us hl => match us, hl with | [_, _], _ => rfl) (fun vs H Q E h => ?_) fun cdv A outer s H vs Q E hr h => ?_
  · obtain ⟨o, h', names, r0, hs, hs1, rfl, I, N, len, few, q⟩ := h
    rfl
  obtain ⟨o, h', names, r0, hs, hs1, rfl, I, N, len, few, q⟩ := h
  refine ⟨_, (pss_cons (fldS K (pv 0) (pe_op op_cat (fldK K (pv 0) rfl) (pe_lst (pa_cons (pv 1) pa_nil))) rfl)
      (pss_one (ps_ret pe_str))), ?_⟩
  obtain ⟨dx, n, s', h, st, h1, h2, h3, h4, h5⟩ := I.ex_
  refine inSeq (inFld (goL (el_cat (ev_fld (f := "states") (ev_var rfl) h1 T.cl T.n_states rfl) h3 (el_lst (ea_one (ev_var rfl)) (by show 1 ≤ 100000; omega)) (by rw [List.length_append]; show st.length + 1 + 1 ≤ 100000; omega)) fun p H1 n1 e1 k1 => go (ev_var rfl) fun H2 e2 => ⟨o, dC K, dx, _, rfl, e2 _ _ (e1 _ _ h1), T.cl, T.n_states, by show 2 < 1000; omega, ?_⟩))
  dsimp only
  have e12 := e1.trans e2
  have ho := e12 _ _ h1
  have lst_ne : ∀ (x : Addr) xs, H2 x = some (.lst xs) → x ≠ o := fun x xs hx z => by rw [z, ho] at hx; cases hx
  have e : putF "states" (.ref p) (dFs n s') = dFs n p := by
    show (if ("names" : Str) = "states" then _ else _) = _
    rw [if_neg (by decide)]
    have e2 : putF "states" (V.ref p) [(("states" : Str), V.ref s')] = [(("states" : Str), V.ref p)] := by
      show (if ("states" : Str) = "states" then _ else _) = _
      rw [if_pos rfl]
    rw [e2]
    rfl
  refine s_ret ev_c fun H3 e3 => q H3 (((But.ex e12).trans But.upd).trans (But.ex e3)) ?_
  refine DeskI.ex ⟨I.W, dx, n, p, h', st ++ [.ref h], ?_, ?_, ?_, ?_, ?_, ?_⟩ e3
  · rw [upd_same, e]
  · rw [upd_ne (lst_ne n _ (e12 _ _ h2))]
    exact e12 _ _ h2
  · rw [upd_ne (lst_ne p _ (e2 _ _ k1))]
    exact e2 _ _ k1
  · rw [List.length_append, List.length_singleton]
    omega
  · rw [upd_ne (lst_ne h' _ (e12 _ _ N.1))]
    exact e12 _ _ N.1
  · intro z hz
    obtain ⟨k2, k3⟩ := (N.ex e12).2 z hz
    refine ⟨?_, ?_⟩
    · rcases k2 with (k2 | ⟨ob, k2⟩) | k2
      · refine .inl (.inl ?_)
        rw [upd_ne (fun zz => by rw [zz, ho] at k2; cases k2)]
        exact k2
      · refine .inl (.inr ⟨ob, ?_⟩)
        rw [upd_ne (fun zz => by rw [zz, ho] at k2; cases k2)]
        exact k2
      · exact .inr k2
    · rcases k3 with (k3 | ⟨ob, k3⟩) | k3
      · refine .inl (.inl ?_)
        rw [upd_ne (fun zz => by rw [zz, ho] at k3; cases k3)]
        exact k3
      · refine .inl (.inr ⟨ob, ?_⟩)
        rw [upd_ne (fun zz => by rw [zz, ho] at k3; cases k3)]
        exact k3
      · exact .inr k3
def spCome (K : PySem.W.Frag) : Sp := fun vs H Q _ => ∃ (o : Addr) (x : Str) (names r0 : List Int) (hs : List HandP), vs = [.ref o, .str x, .str (rS r0)] ∧ DeskI K H o names r0 hs ∧ (x = "a" ∨ x = "b") ∧ inV (.str x) ((hs.map (·.2.1)).map V.str) = false ∧ hs.length ≤ 4 ∧
  ∀ p r H', But o H H' → DeskI K H' o names r0 (hs ++ [(p, x, r)]) → Q (.str "ok") H'
theorem flat_strs : ∀ ns : List Str, (ns.map V.str).all flatV = true
  | [] => rfl
  | _ :: ns => flat_strs ns
theorem c_Desk_come (T : Tx w K mg) (C_is_title : Callee P w K mg base "is_title" 1 ["word"] spTitle) (CM_titles : Metd P w K mg base "titles" 2 ["self"] (spTitles K)) (CM_must_rank : Metd P w K mg base "must_rank" 6 ["self", "word"] (spRankBy K)) (CM_hands : Metd P w K mg base "hands" 1 ["self"] (spHands K)) (CM_done : Metd P w K mg base "done" 1 ["self", "hands"] (spDone K)) : Metd P w K mg base "come" 7 ["self", "title", "word"] (spCome K) := by
  refine metd_of T.F_Desk_come T.m_come sc_Desk_come (fun _ _ _ _ _ _ us hl => match us, hl with | [_, _, _], _ => rfl) (fun vs H Q E h => ?_) fun cdv A outer s H vs Q E hr h => ?_
  · obtain ⟨o, x, names, r0, hs, rfl, I, hx, hn, few, q⟩ := h
    rfl
  obtain ⟨o, x, names, r0, hs, rfl, I, hx, hn, few, q⟩ := h
  refine ⟨_, (pss_cons (ps_if (PW.pt (pw_or (pt_not (pt_val (pe_callC C_is_title hr (by decide) (by rfl) (pa_cons (pv 1) pa_nil)))) (pw_or1 (pt_cmpR (inS K) (pv 1) (pe_methC0 T CM_titles hr (by decide) (pv 0)) (by rfl))))) pss_never pss_nil)
      (pss_cons (ps_set (i := 3) sc_Desk_come.nd rfl (Or.inl rfl) (pe_methC T CM_must_rank hr (by decide) (pv 0) (pa_cons (pv 2) pa_nil)))
      (pss_cons (ps_if (pt_cmpR op_ge (pe_callB (lenS K) (by rfl) T.b_len (by decide +kernel) (pa_cons (pe_methC0 T CM_hands hr (by decide) (pv 0)) pa_nil)) (pe_globI (by rfl) T.i_MOST_HANDS) (nomark _)) pss_never pss_nil)
      (pss_one (ps_ret (pe_methC T CM_done hr (by decide) (pv 0) (pa_cons (pe_op op_cat (pe_methC0 T CM_hands hr (by decide) (pv 0)) (pe_lst (pa_cons (pe_tup (pa_cons (pv 1) (pa_cons (pv 3) (pa_cons pe_int pa_nil)))) pa_nil))) pa_nil))))))), ?_⟩
  refine q_when (b := false) (et_or (a := false) (b := false) (et_not (a := true) (et_B (ev_callV (ea_one (ev_var rfl)) fun H1 e1 Q q => ⟨x, rfl, hx, q⟩))) fun _ => et_test (ev_is (ev_opL (ev_var rfl) (el_methL (ev_var rfl) I (fun _ _ => rfl) ea_nil fun H1 e1 Q q => ⟨o, names, r0, hs, rfl, I.ex e1, by omega, q⟩) fun p H1 h1 e1 =>
    rv_isL (sq_of h1) rfl (flat_strs _)) (congrArg V.bl hn))) (fun z => nomatch z) fun _ H1 e1 => ?_
  refine q_asgL (xs := r0.map V.int) (el_methL (ev_var rfl) (I.ex e1) (fun _ _ => rfl) (ea_one (ev_var rfl)) fun H2 e2 Q q => ⟨o, names, r0, hs, rfl, I.ex (e1.trans e2), q⟩) fun r H2 n2 e2 h2 => ?_
  have e02 := e1.trans e2
  refine q_when (b := false) (et_test fun H3 e3 Q k => inOp (inCB (inCons (goMeth (ev_var rfl) (I.ex (e02.trans e3)) (fun _ _ => rfl) ea_nil fun H4 e4 => ⟨o, names, r0, hs, rfl, I.ex ((e02.trans e3).trans e4), fun h H5 e5 hh => ⟨h, _, rfl, .inl (sq_of hh.1), go ev_c fun H6 e6 => ⟨_, _, rfl, rfl, ?_⟩⟩⟩)))) (fun z => nomatch z) fun _ H3 e3 => ?_
  · rw [List.length_map]
    have e20 : decide ((20 : Int) ≤ (hs.length : Int)) = false := decide_eq_false (by omega)
    show Q (V.bl (decide ((20 : Int) ≤ (hs.length : Int)))) H6
    rw [e20]
    exact k H6 ((e4.trans e5).trans e6)
  · have e03 := e02.trans e3
    obtain ⟨dx, n, s', h0, st, k1, k2, k3, k4, k5⟩ := I.ex_
    refine inRet (inMeth (go (ev_var rfl) fun H4 e4 => ⟨o, dx, _, rfl, e4 _ _ (e03 _ _ k1), rfl, inCons (inOp (goMeth (ev_var rfl) (I.ex (e03.trans e4)) (fun _ _ => rfl) ea_nil fun H5 e5 => ⟨o, names, r0, hs, rfl, I.ex ((e03.trans e4).trans e5), fun h H6 e6 hh =>
      inLst (inCons (inTup (goA (ea_three (ev_var rfl) (ev_var rfl) ev_c) fun H7 e7 => ⟨by show 3 ≤ sizeLine; decide, fun t nt => ⟨by show 1 ≤ sizeLine; decide, fun l nl => ?_⟩⟩)))⟩))⟩))
    have e07 := ((((e03.trans e4).trans e5).trans e6).trans e7)
    have et : Ex H7 (upd (upd H7 t (.tup [.str x, .ref r, .int 1])) l (.lst [.ref t])) := (Ex.new nt).trans (Ex.new nl)
    have ht : (upd (upd H7 t (.tup [.str x, .ref r, .int 1])) l (.lst [.ref t])) t = some (.tup [.str x, .ref r, .int 1]) := Ex.new nl _ _ upd_same
    have hl : (upd (upd H7 t (.tup [.str x, .ref r, .int 1])) l (.lst [.ref t])) l = some (.lst [.ref t]) := upd_same
    generalize upd (upd H7 t (.tup [.str x, .ref r, .int 1])) l (.lst [.ref t]) = H8 at et ht hl
    have hh8 := (hh.ex e7).ex et
    refine ⟨h, l, _, _, rfl, rfl, hh8.1, hl, by rw [List.length_map]; exact sz_of (by show hs.length + 1 ≤ 100000; omega), fun p np => ?_⟩
    have e08 := (e07.trans et).trans (Ex.new (o := .lst (hs.map (fun z => V.ref z.1) ++ [.ref t])) np)
    have e8 : Ex H8 (upd H8 p (.lst (hs.map (fun z => V.ref z.1) ++ [.ref t]))) := Ex.new np
    refine ⟨o, p, names, r0, hs, hs ++ [(t, x, r)], rfl, I.ex e08, ⟨?_, fun z hz => ?_⟩, by rw [List.length_append]; rfl, by omega, fun H9 b9 D9 => q t r H9 ((But.ex e08).trans b9) D9⟩
    · rw [upd_same, List.map_append]
      rfl
    · rcases List.mem_append.mp hz with hz | hz
      · exact (hh8.ex e8).2 z hz
      · rw [List.mem_singleton.mp hz]
        exact ⟨st_of (e8 _ _ ht), sq_of (e8 _ _ (et _ _ (e7 _ _ (e6 _ _ (e5 _ _ (e4 _ _ (e3 _ _ h2)))))))⟩
def spHandBy (K : PySem.W.Frag) : Sp := fun vs H Q _ => ∃ (o p r : Addr) (x : Str) (names r0 : List Int) (hs : List HandP), vs = [.ref o, .str x] ∧ DeskI K H o names r0 ((p, x, r) :: hs) ∧ ∀ t H', Ex H H' → SqT K H' t [.ref r, .int 1] → LI K H' r r0 → Q (.ref t) H'
theorem c_Desk_hand_by (T : Tx w K mg) (CM_hands : Metd P w K mg base "hands" 1 ["self"] (spHands K)) : Metd P w K mg base "hand_by" 2 ["self", "title"] (spHandBy K) := by
  refine metd_of T.F_Desk_hand_by T.m_hand_by sc_Desk_hand_by (fun _ _ _ _ _ _ us hl => match us, hl with | [_, _], _ => rfl) (fun vs H Q E h => ?_) fun cdv A outer s H vs Q E hr h => ?_
  · obtain ⟨o, p, r, x, names, r0, hs, rfl, I, q⟩ := h
    rfl
  obtain ⟨o, p, r, x, names, r0, hs, rfl, I, q⟩ := h
  refine ⟨_, (pss_cons (ps_for PassesOwn.never rfl (piL K (pe_methC0 T CM_hands hr (by decide) (pv 0))) (tupG K (n := 3) (pgs_cons (pg_name (i := 2) sc_Desk_hand_by.nd rfl (Or.inl rfl)) (pgs_cons (pg_name (i := 3) sc_Desk_hand_by.nd rfl (Or.inl rfl)) (pgs_cons (pg_name (i := 4) sc_Desk_hand_by.nd rfl (Or.inl rfl)) pgs_nil)))) (pss_one (ps_if (pt_cmpR op_eq (pv 2) (pv 1) (nomark _)) (pss_one (ps_ret (pe_tup (pa_cons (pv 3) (pa_cons (pv 4) pa_nil))))) pss_nil)))
      pss_never), ?_⟩
  refine inSeq (inFor (goMeth (ev_var rfl) I (fun _ _ => rfl) ea_nil fun H1 e1 => ⟨o, names, r0, _, rfl, I.ex e1, fun h H2 e2 hh => ?_⟩))
  have e02 := e1.trans e2
  refine fo_M ((p, x, r) :: hs) (fun z => V.ref z.1) ev_c (sq_of hh.1) (fun pre σ' H' => pre = [] ∧ σ' = [some (.ref o), some (.str x), none, none, none]) (fun _ _ => ⟨rfl, rfl⟩) ?_ ?_
  · rintro pre z post σ' H' eq e ⟨rfl, rfl⟩
    injection eq with h1 _
    subst h1
    refine g_three (ex_t e (hh.2 _ List.mem_cons_self).1) ?_
    refine s_when (b := true) (et_test (ev_is (ev_op (ev_var rfl) (ev_var rfl) (rv_eq rfl)) (congrArg V.bl (decide_eq_true rfl)))) (fun _ H3 e3 => ?_) fun z => nomatch z
    exact s_retU (eu_tup (ea_two (ev_var rfl) (ev_var rfl)) (by show 2 ≤ 100000; omega)) fun t H4 n4 e4 h4 => q t H4 ((e02.trans e).trans (e3.trans e4)) (st_of h4) (ex_l (e.trans (e3.trans e4)) (hh.2 _ List.mem_cons_self).2)
  · rintro σ' H' e ⟨h1, _⟩
    cases h1
def spShow (K : PySem.W.Frag) : Sp := fun vs H Q _ => ∃ (o p r : Addr) (x : Str) (names r0 : List Int) (hs : List HandP), vs = [.ref o, .str x] ∧ DeskI K H o names r0 ((p, x, r) :: hs) ∧ RetV (.str (rS r0 ++ Str.ofString " " ++ nS 1)) H Q
theorem c_Desk_show (T : Tx w K mg) (CM_hand_by : Metd P w K mg base "hand_by" 2 ["self", "title"] (spHandBy K)) (C_in_one : Callee P w K mg base "in_one" 1 ["ranking"] (spInOne K)) : Metd P w K mg base "show" 3 ["self", "title"] (spShow K) := by
  refine metd_of T.F_Desk_show T.m_show sc_Desk_show (fun _ _ _ _ _ _ us hl => match us, hl with | [_, _], _ => rfl) (fun vs H Q E h => ?_) fun cdv A outer s H vs Q E hr h => ?_
  · obtain ⟨o, p, r, x, names, r0, hs, rfl, I, q⟩ := h
    rfl
  obtain ⟨o, p, r, x, names, r0, hs, rfl, I, q⟩ := h
  refine ⟨_, (pss_cons (ps_asg (pe_methC T CM_hand_by hr (by decide) (pv 0) (pa_cons (pv 1) pa_nil)) (tupG K (n := 2) (pgs_cons (pg_name (i := 2) sc_Desk_show.nd rfl (Or.inl rfl)) (pgs_cons (pg_name (i := 3) sc_Desk_show.nd rfl (Or.inl rfl)) pgs_nil))))
      (pss_one (ps_ret (pe_op op_add_str (pe_op op_add_str (pe_callC C_in_one hr (by decide) (by rfl) (pa_cons (pv 2) pa_nil)) pe_str) (pe_callTy call_str_int (by rfl) T.b_str (by decide +kernel) (pa_cons (pv 3) pa_nil)))))), ?_⟩
  have f : r0.length ≤ 10 := by rw [I.W.perm.length_eq]; exact I.W.few
  have l := (rS_len I.W.okr f).1
  have one : NumOk 1 := ⟨by decide, by decide⟩
  have l1 := (nS_len one).1
  have e1 : (Str.ofString " ").length = 1 := by decide +kernel
  refine inSeq (inAsg (goMeth (ev_var rfl) I (fun _ _ => rfl) (ea_one (ev_var rfl)) fun H1 e1 => ⟨o, p, r, x, names, r0, hs, rfl, I.ex e1, fun t H2 e2 ht hr => ?_⟩))
  refine g_pair ht ?_
  dsimp only
  exact s_ret (ev_addS (ev_addS (ev_callV (ea_one (ev_var rfl)) fun H3 e3 Q q => ⟨r, r0, rfl, ex_l e3 hr, I.W.okr, f, q⟩) ev_c (by omega)) (ev_strI (ev_var rfl) one) (by rw [TL.len_tl, TL.tl_append, List.length_append, ← TL.len_tl, ← TL.len_tl]; omega)) fun H3 e3 => q H3 ((e1.trans e2).trans e3)
def spAlong (K : PySem.W.Frag) : Sp := fun vs H Q _ => ∃ (o b : Addr) (names r0 : List Int) (hs : List HandP), vs = [.ref o, .str "falls", .ref b] ∧ DeskI K H o names r0 hs ∧ SqL K H b [.str (rS r0)] ∧ hs.length ≤ 5 ∧ (∀ z ∈ hs, z.2.1.length ≤ 8) ∧ RetV (.str (Txt.join (Str.ofString " ") (hs.map (·.2.1)))) H Q
theorem join_few {ys : List Str} (h : ys.length ≤ 5) (hl : ∀ z ∈ ys, z.length ≤ 8) : (ys.map (·.length)).sum + ys.length * (Str.ofString " ").length ≤ 16777216 := by
  have := (join_len (Str.ofString " ") ys hl).2
  have e1 : (Str.ofString " ").length = 1 := by decide +kernel
  rw [e1] at this ⊢
  have : (8 + 1) * ys.length ≤ 45 := by omega
  omega
theorem c_Desk_along (T : Tx w K mg) (CM_must_line : Metd P w K mg base "must_line" 6 ["self", "word"] (spRankBy K)) (CM_hands : Metd P w K mg base "hands" 1 ["self"] (spHands K)) (C_does_fall : Callee P w K mg base "does_fall" 1 ["line", "ranking"] (spFall K)) : Metd P w K mg base "along" 7 ["self", "word", "words"] (spAlong K) := by
  refine metd_of T.F_Desk_along T.m_along sc_Desk_along (fun _ _ _ _ _ _ us hl => match us, hl with | [_, _, _], _ => rfl) (fun vs H Q E h => ?_) fun cdv A outer s H vs Q E hr h => ?_
  · obtain ⟨o, b, names, r0, hs, rfl, I, hb, few, short, q⟩ := h
    rfl
  obtain ⟨o, b, names, r0, hs, rfl, I, hb, few, short, q⟩ := h
  refine ⟨_, (pss_cons (ps_set (i := 3) sc_Desk_along.nd rfl (Or.inr rfl) (pe_methC T CM_must_line hr (by decide) (pv 0) (pa_cons (pe_ix (ixL K) (pv 2) pe_int (fun _ _ => rfl)) pa_nil)))
      (pss_cons (ps_if (pt_cmpR op_eq (pv 1) pe_str (nomark _)) (pss_one (ps_ret (joinK K pe_str (pe_lc (own := [("title", 8), ("ranking", 9), ("weight", 10)]) rfl sc_Desk_along.nd (piL K (pe_methC0 T CM_hands hr (by decide) (pv 0))) (blkOk_by (by kernel_rfl)) (fun _ _ _ _ _ => (tupG K (n := 3) (pgs_cons (pg_name (i := 8) sc_Desk_along.nd rfl (Or.inl rfl)) (pgs_cons (pg_name (i := 9) sc_Desk_along.nd rfl (Or.inl rfl)) (pgs_cons (pg_name (i := 10) sc_Desk_along.nd rfl (Or.inl rfl)) pgs_nil))))) (fun _ _ _ _ _ => (pts_one (pt_val (pe_callC C_does_fall hr (by decide) (by rfl) (pa_cons (pv 3) (pa_cons (pv 9) pa_nil)))))) (fun _ _ _ _ _ => (pv 8)))))) pss_nil)
      pss_never)), ?_⟩
  refine q_asgL (xs := r0.map V.int) (el_methL (ev_var rfl) I (fun _ _ => rfl) (ea_one (ev_ixL (ev_var rfl) ev_c hb (atI_nat (j := 0) rfl))) fun H1 e1 Q q => ⟨o, names, r0, hs, rfl, I.ex e1, q⟩) fun r H1 n1 e1 h1 => ?_
  refine q_when (b := true) (et_test (ev_is (ev_op (ev_var rfl) ev_c (rv_eq rfl)) (congrArg V.bl (decide_eq_true rfl)))) (fun _ H2 e2 => ?_) fun z => nomatch z
  have e02 := e1.trans e2
  refine s_ret (ev_joinL (ys := hs.map (·.2.1)) ev_c (fun H3 e3 Q k => inLc (goMeth (ev_var rfl) (I.ex (e02.trans e3)) (fun _ _ => rfl) ea_nil fun H4 e4 => ⟨o, names, r0, hs, rfl, I.ex ((e02.trans e3).trans e4), fun h H5 e5 hh => ?_⟩)) (join_few (by rw [List.length_map]; exact few) fun z hz => by
    obtain ⟨y, hy, rfl⟩ := List.mem_map.mp hz
    exact short y hy)) fun H3 e3 => q H3 (e02.trans e3)
  have hr5 : LI K H5 r r0 := sq_of (e5 _ _ (e4 _ _ (e3 _ _ (e2 _ _ h1))))
  refine el_lcG (K := K) hs (fun z => V.ref z.1) _ (fun _ => true) (fun z => V.str z.2.1) ev_c (sq_of hh.1) (by omega) (fun z hz H6 e6 Q k => g_three (ex_t e6 (hh.2 z hz).1) k) (fun _ _ => rfl)
    (fun z hz H6 e6 => et_B (ev_callV (ea_two (ev_var rfl) (ev_var rfl)) fun H7 e7 Q q => ⟨r, z.2.2, r0, rfl, ex_l (e6.trans e7) hr5, ex_l (e6.trans e7) (hh.2 z hz).2, I.W.rk, q⟩)) (fun z hz H6 e6 _ => ev_var rfl) H5 (Ex.refl _) _ fun p H6 n6 e6 h6 => ?_
  rw [filter_all] at h6
  refine k p H6 (fresh_back (e4.trans e5) n6) ((e4.trans e5).trans e6) ?_
  rw [List.map_map]
  exact h6
def spDeed (K : PySem.W.Frag) : Sp := fun vs H Q _ => ∃ (o b : Addr) (x : Str) (names r0 : List Int) (hs : List HandP), vs = [.ref o, .str "come", .ref b] ∧ SqL K H b [.str x, .str (rS r0)] ∧ DeskI K H o names r0 hs ∧ (x = "a" ∨ x = "b") ∧ inV (.str x) ((hs.map (·.2.1)).map V.str) = false ∧ hs.length ≤ 4 ∧
  ∀ p r H', But o H H' → DeskI K H' o names r0 (hs ++ [(p, x, r)]) → Q (.str "ok") H'
theorem c_Desk_deed (T : Tx w K mg) (CM_come : Metd P w K mg base "come" 7 ["self", "title", "word"] (spCome K)) : Metd P w K mg base "deed" 8 ["self", "word", "words"] (spDeed K) := by
  refine metd_of T.F_Desk_deed T.m_deed sc_Desk_deed (fun _ _ _ _ _ _ us hl => match us, hl with | [_, _, _], _ => rfl) (fun vs H Q E h => ?_) fun cdv A outer s H vs Q E hr h => ?_
  · obtain ⟨o, b, x, names, r0, hs, rfl, hb, I, hx, hn, few, q⟩ := h
    rfl
  obtain ⟨o, b, x, names, r0, hs, rfl, hb, I, hx, hn, few, q⟩ := h
  refine ⟨_, (pss_cons (ps_if (pt_cmpR op_eq (pv 1) pe_str (nomark _)) (pss_one (ps_ret (pe_methC T CM_come hr (by decide) (pv 0) (pa_cons (pe_ix (ixL K) (pv 2) pe_int (fun _ _ => rfl)) (pa_cons (pe_ix (ixL K) (pv 2) pe_int (fun _ _ => rfl)) pa_nil))))) pss_nil)
      pss_never), ?_⟩
  refine q_when (b := true) (et_test (ev_is (ev_op (ev_var rfl) ev_c (rv_eq rfl)) (congrArg V.bl (decide_eq_true rfl)))) (fun _ H1 e1 => ?_) fun z => nomatch z
  exact inRet (goMeth (ev_var rfl) (I.ex e1) (fun _ _ => rfl) (ea_two (ev_ixL (ev_var rfl) ev_c (ex_l e1 hb) (atI_nat (j := 0) rfl)) (ev_ixL (ev_var rfl) ev_c (ex_l e1 hb) (atI_nat (j := 1) rfl))) fun H2 e2 => ⟨o, x, names, r0, hs, rfl, I.ex (e1.trans e2), hx, hn, few, fun p r H' b' D' => q p r H' ((But.ex (e1.trans e2)).trans b') D'⟩)
end
end Ol
namespace Ol
open PySem PySem.Spec PyProof.Rows L2 Evl
/-! ### rows told to the desk -/
theorem tl_falls : TL.tl (Str.ofString "falls ") = [102, 97, 108, 108, 115, 32] ∧ TL.tl (Str.ofString "falls") = [102, 97, 108, 108, 115] := by decide +kernel
theorem tl_come : TL.tl (Str.ofString "come a ") = [99, 111, 109, 101, 32, 97, 32] ∧ TL.tl (Str.ofString "come b ") = [99, 111, 109, 101, 32, 98, 32] ∧ TL.tl (Str.ofString "come") = [99, 111, 109, 101] ∧ TL.tl (Str.ofString "a") = [97] ∧ TL.tl (Str.ofString "b") = [98] := by decide +kernel
theorem split_falls {w : Str} (h : 32 ∉ TL.tl w) : Txt.split (Str.ofString "falls " ++ w) (Str.ofString " ") = [Str.ofString "falls", w] := by
  have e : Str.ofString "falls " ++ w = Txt.join (Str.ofString " ") [Str.ofString "falls", w] := by
    refine TL.ext_tl ?_
    rw [TL.tl_append, tl_join2, tl_bl, tl_falls.1]
    show _ = TL.joinL [32] [TL.tl (Str.ofString "falls"), TL.tl w]
    rw [tl_falls.2]
    rfl
  rw [e]
  refine TL.split_join (s := 32) (S := []) tl_bl (by decide +kernel) (List.cons_ne_nil _ _) fun p hp => ?_
  simp only [List.mem_cons, List.not_mem_nil, or_false] at hp
  rcases hp with rfl | rfl
  · rw [tl_falls.2]; decide
  · exact h
/-- the row that bids a hand come -/
def comeRow (x : Str) : Str := if x = "a" then Str.ofString "come a " else Str.ofString "come b "
theorem split_come {x w : Str} (hx : x = "a" ∨ x = "b") (h : 32 ∉ TL.tl w) : Txt.split (comeRow x ++ w) (Str.ofString " ") = [Str.ofString "come", x, w] := by
  obtain ⟨c, hc, ht⟩ : ∃ c, c ≠ 32 ∧ TL.tl x = [c] ∧ TL.tl (comeRow x) = [99, 111, 109, 101, 32, c, 32] := by
    rcases hx with rfl | rfl
    · exact ⟨97, by decide, by decide +kernel⟩
    · exact ⟨98, by decide, by decide +kernel⟩
  have e : comeRow x ++ w = Txt.join (Str.ofString " ") [Str.ofString "come", x, w] := by
    refine TL.ext_tl ?_
    rw [TL.tl_append, tl_join2, tl_bl, ht.2]
    show _ = TL.joinL [32] [TL.tl (Str.ofString "come"), TL.tl x, TL.tl w]
    rw [tl_come.2.2.1, ht.1]
    rfl
  rw [e]
  refine TL.split_join (s := 32) (S := []) tl_bl (by decide +kernel) (List.cons_ne_nil _ _) fun p hp => ?_
  simp only [List.mem_cons, List.not_mem_nil, or_false] at hp
  rcases hp with rfl | rfl | rfl
  · rw [tl_come.2.2.1]; decide
  · rw [ht.1]
    intro z
    exact hc (List.mem_singleton.mp z).symm
  · exact h
section
variable {P : Program} {w : World} {K : PySem.W.Frag} {mg : Str → Option Value} {base : Heap}
def spSay (K : PySem.W.Frag) : Sp := fun vs H Q _ => ∃ (o : Addr) (row : Str) (names r0 : List Int) (hs : List HandP), vs = [.ref o, .str row] ∧ DeskI K H o names r0 hs ∧ hs.length ≤ 4 ∧ (∀ z ∈ hs, z.2.1.length ≤ 8) ∧
  ((row = "hands" ∧ RetV (.str (Txt.join (Str.ofString " ") (hs.map (·.2.1)))) H Q) ∨ (row = "show a" ∧ (∃ p r hs1, hs = (p, Str.ofString "a", r) :: hs1) ∧ RetV (.str (rS r0 ++ Str.ofString " " ++ nS 1)) H Q) ∨
    (row = Str.ofString "falls " ++ rS r0 ∧ RetV (.str (Txt.join (Str.ofString " ") (hs.map (·.2.1)))) H Q) ∨
    (∃ x : Str, row = comeRow x ++ rS r0 ∧ (x = "a" ∨ x = "b") ∧ inV (.str x) ((hs.map (·.2.1)).map V.str) = false ∧ ∀ p r H', But o H H' → DeskI K H' o names r0 (hs ++ [(p, x, r)]) → Q (.str "ok") H'))
theorem c_Desk_say (T : Tx w K mg) (C_is_row : Callee P w K mg base "is_row" 1 ["words"] (spRow K)) (CM_titles : Metd P w K mg base "titles" 2 ["self"] (spTitles K)) (CM_show : Metd P w K mg base "show" 3 ["self", "title"] (spShow K)) (CM_along : Metd P w K mg base "along" 7 ["self", "word", "words"] (spAlong K)) (CM_deed : Metd P w K mg base "deed" 8 ["self", "word", "words"] (spDeed K)) : Metd P w K mg base "say" 9 ["self", "row"] (spSay K) := by
  refine metd_of T.F_Desk_say T.m_say sc_Desk_say (fun _ _ _ _ _ _ us hl => match us, hl with | [_, _], _ => rfl) (fun vs H Q E h => ?_) fun cdv A outer s H vs Q E hr h => ?_
  · obtain ⟨o, row, names, r0, hs, rfl, I, few, short, alt⟩ := h
    rfl
  obtain ⟨o, row, names, r0, hs, rfl, I, few, short, alt⟩ := h
  refine ⟨_, (pss_cons (ps_set (i := 2) sc_Desk_say.nd rfl (Or.inl rfl) (pe_split (pv 1) pe_str))
      (pss_cons (ps_set (i := 3) sc_Desk_say.nd rfl (Or.inl rfl) (pe_ix (ixL K) (pv 2) pe_int (fun _ _ => rfl)))
      (pss_cons (ps_if (pt_not (pt_val (pe_callC C_is_row hr (by decide) (by rfl) (pa_cons (pv 2) pa_nil)))) pss_never pss_nil)
      (pss_cons (ps_if (pt_cmpR op_eq (pv 3) pe_str (nomark _)) (pss_one (ps_ret (joinK K pe_str (pe_methC0 T CM_titles hr (by decide) (pv 0))))) pss_nil)
      (pss_cons (ps_if (pt_cmpR op_eq (pv 3) pe_str (nomark _)) (pss_one (ps_ret (pe_methC T CM_show hr (by decide) (pv 0) (pa_cons (pe_ix (ixL K) (pv 2) pe_int (fun _ _ => rfl)) pa_nil)))) pss_nil)
      (pss_cons (ps_if (pt_cmpR (inS K) (pv 3) (pe_lst (pa_cons pe_str (pa_cons pe_str pa_nil))) (by rfl)) pss_never pss_nil)
      (pss_cons (ps_if (pt_cmpR (inS K) (pv 3) (pe_lst (pa_cons pe_str (pa_cons pe_str pa_nil))) (by rfl)) pss_never pss_nil)
      (pss_cons (ps_if (PW.pt (pw_or (pt_cmpR op_eq (pv 3) pe_str (nomark _)) (pw_or1 (pt_cmpR (inKD K T.d_ALONG) (pv 3) (pe_glob (v := V.ref (He.ga K "ALONG")) (by rfl) T.g_ALONG rfl) (by rfl))))) (pss_one (ps_ret (pe_methC T CM_along hr (by decide) (pv 0) (pa_cons (pv 3) (pa_cons (pe_slice (slL K) (pv 2) (po_some pe_int) po_none) pa_nil))))) pss_nil)
      (pss_cons (ps_if (pt_cmpR (inKD K T.d_ASKED) (pv 3) (pe_glob (v := V.ref (He.ga K "ASKED")) (by rfl) T.g_ASKED rfl) (by rfl)) pss_never pss_nil)
      (pss_one (ps_ret (pe_methC T CM_deed hr (by decide) (pv 0) (pa_cons (pv 3) (pa_cons (pe_slice (slL K) (pv 2) (po_some pe_int) po_none) pa_nil)))))))))))))), ?_⟩
  have X := exs_of T.ex
  have f : r0.length ≤ 10 := by rw [I.W.perm.length_eq]; exact I.W.few
  have lr := (rS_len I.W.okr f).1
  have free : 32 ∉ TL.tl (rS r0) := rS_free (fun n hn => (I.W.okr n hn).1) (by omega)
  rcases alt with ⟨rfl, q⟩ | ⟨rfl, ⟨p, r, hs1, rfl⟩, q⟩ | ⟨rfl, q⟩ | ⟨x, rfl, hx, hn, q⟩
  · refine q_asgL (xs := [V.str (Str.ofString "hands")]) (el_is (el_split (ev_var rfl) ev_c (by decide +kernel) (by decide +kernel)) (by rw [show Txt.split (Str.ofString "hands") (Str.ofString " ") = [Str.ofString "hands"] from by decide +kernel]; rfl)) fun p1 H1 n1 e1 h1 => ?_
    refine q_asg (v := .str (Str.ofString "hands")) (ev_ixL (ev_var rfl) ev_c (sq_of h1) (atI_nat (j := 0) rfl)) fun H2 e2 => ?_
    refine q_when (b := false) (et_not (a := true) (et_B (ev_callV (ea_one (ev_var rfl)) fun H3 e3 Q q => ⟨p1, Str.ofString "hands", [], rfl, sq_of (e3 _ _ (e2 _ _ h1)), by decide +kernel, .inl X.cHands, q⟩))) (fun z => nomatch z) fun _ H3 e3 => ?_
    have e03 := (e1.trans e2).trans e3
    have h3 := e3 _ _ (e2 _ _ h1)
    refine q_when (b := true) (et_test (ev_is (ev_op (ev_var rfl) ev_c (rv_eq rfl)) (congrArg V.bl (by decide +kernel)))) (fun _ H4 e4 => ?_) fun z => nomatch z
    exact s_ret (ev_joinL ev_c (el_methL (ev_var rfl) (I.ex (e03.trans e4)) (fun _ _ => rfl) ea_nil fun H5 e5 Q q => ⟨o, names, r0, hs, rfl, I.ex ((e03.trans e4).trans e5), by omega, q⟩) (join_few (by rw [List.length_map]; omega) fun z hz => by
      obtain ⟨y, hy, rfl⟩ := List.mem_map.mp hz
      exact short y hy)) fun H5 e5 => q H5 ((e03.trans e4).trans e5)
  · refine q_asgL (xs := [V.str (Str.ofString "show"), V.str (Str.ofString "a")]) (el_is (el_split (ev_var rfl) ev_c (by decide +kernel) (by decide +kernel)) (by rw [show Txt.split (Str.ofString "show a") (Str.ofString " ") = [Str.ofString "show", Str.ofString "a"] from by decide +kernel]; rfl)) fun p1 H1 n1 e1 h1 => ?_
    refine q_asg (v := .str (Str.ofString "show")) (ev_ixL (ev_var rfl) ev_c (sq_of h1) (atI_nat (j := 0) rfl)) fun H2 e2 => ?_
    refine q_when (b := false) (et_not (a := true) (et_B (ev_callV (ea_one (ev_var rfl)) fun H3 e3 Q q => ⟨p1, Str.ofString "show", [Str.ofString "a"], rfl, sq_of (e3 _ _ (e2 _ _ h1)), by decide +kernel, .inl X.cShow, q⟩))) (fun z => nomatch z) fun _ H3 e3 => ?_
    have e03 := (e1.trans e2).trans e3
    have h3 := e3 _ _ (e2 _ _ h1)
    refine q_when (b := false) (et_test (ev_is (ev_op (ev_var rfl) ev_c (rv_eq rfl)) (congrArg V.bl (by decide +kernel)))) (fun z => nomatch z) fun _ H4 e4 => ?_
    refine q_when (b := true) (et_test (ev_is (ev_op (ev_var rfl) ev_c (rv_eq rfl)) (congrArg V.bl (by decide +kernel)))) (fun _ H5 e5 => ?_) fun z => nomatch z
    have e05 := (e03.trans e4).trans e5
    exact s_ret (ev_methV (ev_var rfl) (I.ex e05) (fun _ _ => rfl) (ea_one (ev_ixL (ev_var rfl) ev_c (sq_of (e5 _ _ (e4 _ _ h3))) (atI_nat (j := 1) rfl))) fun H6 e6 Q q => ⟨o, p, r, Str.ofString "a", names, r0, hs1, rfl, I.ex (e05.trans e6), q⟩) fun H6 e6 => q H6 (e05.trans e6)
  · refine q_asgL (xs := [V.str (Str.ofString "falls"), V.str (rS r0)]) (el_is (el_split (ev_var rfl) ev_c (by decide +kernel) (by
      have e1 : (Str.ofString "falls ").length = 6 := by decide +kernel
      rw [TL.len_tl, TL.tl_append, List.length_append, ← TL.len_tl, ← TL.len_tl, e1]
      omega)) (by rw [split_falls free]; rfl)) fun p1 H1 n1 e1 h1 => ?_
    refine q_asg (v := .str (Str.ofString "falls")) (ev_ixL (ev_var rfl) ev_c (sq_of h1) (atI_nat (j := 0) rfl)) fun H2 e2 => ?_
    refine q_when (b := false) (et_not (a := true) (et_B (ev_callV (ea_one (ev_var rfl)) fun H3 e3 Q q => ⟨p1, Str.ofString "falls", [rS r0], rfl, sq_of (e3 _ _ (e2 _ _ h1)), by decide +kernel, .inr ⟨X.cFalls, X.aFalls, X.lFalls⟩, q⟩))) (fun z => nomatch z) fun _ H3 e3 => ?_
    have e03 := (e1.trans e2).trans e3
    have h3 := e3 _ _ (e2 _ _ h1)
    refine q_when (b := false) (et_test (ev_is (ev_op (ev_var rfl) ev_c (rv_eq rfl)) (congrArg V.bl (by decide +kernel)))) (fun z => nomatch z) fun _ H4 e4 => ?_
    refine q_when (b := false) (et_test (ev_is (ev_op (ev_var rfl) ev_c (rv_eq rfl)) (congrArg V.bl (by decide +kernel)))) (fun z => nomatch z) fun _ H5 e5 => ?_
    refine q_when (b := false) (et_test (ev_is (ev_opL (ev_var rfl) (el_lst (ea_two ev_c ev_c) (by show 2 ≤ 100000; omega)) fun p H h e => rv_isL (sq_of h) rfl rfl) (congrArg V.bl (by decide +kernel)))) (fun z => nomatch z) fun _ H6 e6 => ?_
    refine q_when (b := false) (et_test (ev_is (ev_opL (ev_var rfl) (el_lst (ea_two ev_c ev_c) (by show 2 ≤ 100000; omega)) fun p H h e => rv_isL (sq_of h) rfl rfl) (congrArg V.bl (by decide +kernel)))) (fun z => nomatch z) fun _ H7 e7 => ?_
    obtain ⟨u, hu, ru⟩ := X.lFalls
    refine q_when (b := true) (et_or (a := false) (b := true) (et_test (ev_is (ev_op (ev_var rfl) ev_c (rv_eq rfl)) (congrArg V.bl (by decide +kernel)))) fun _ => et_test (ev_op (ev_var rfl) ev_c (rv_of fun H8 e8 Q q => ⟨Str.ofString "falls", some u, rfl, rfl, hu, q⟩))) (fun _ H8 e8 => ?_) fun z => nomatch z
    have e08 := ((((e03.trans e4).trans e5).trans e6).trans e7).trans e8
    have h8 := e8 _ _ (e7 _ _ (e6 _ _ (e5 _ _ (e4 _ _ h3))))
    refine inRet (inMeth (go (ev_var rfl) fun H9 e9 => ?_))
    obtain ⟨dx, n, s', h0, st, k1, k2, k3, k4, k5⟩ := I.ex_
    refine ⟨o, dx, _, rfl, e9 _ _ (e08 _ _ k1), rfl, inCons (go (ev_var rfl) fun H10 e10 => inCons (goL (el_sl (lo := some ((1 : Nat) : Int)) (hi := none) (ev_var rfl) (eo_some ev_c) eo_none (sq_of (e10 _ _ (e9 _ _ h8)))) fun p11 H11 n11 e11 h11 => ?_))⟩
    have e0B := ((e08.trans e9).trans e10).trans e11
    exact ⟨o, p11, names, r0, hs, rfl, I.ex e0B, sq_of h11, by omega, short, fun H12 e12 => q H12 (e0B.trans e12)⟩
  · refine q_asgL (xs := [V.str (Str.ofString "come"), V.str (x), V.str (rS r0)]) (el_is (el_split (ev_var rfl) ev_c (by decide +kernel) (by
      have e1 : (comeRow x).length = 7 := by rcases hx with rfl | rfl <;> decide +kernel
      rw [TL.len_tl, TL.tl_append, List.length_append, ← TL.len_tl, ← TL.len_tl, e1]
      omega)) (by rw [split_come hx free]; rfl)) fun p1 H1 n1 e1 h1 => ?_
    refine q_asg (v := .str (Str.ofString "come")) (ev_ixL (ev_var rfl) ev_c (sq_of h1) (atI_nat (j := 0) rfl)) fun H2 e2 => ?_
    refine q_when (b := false) (et_not (a := true) (et_B (ev_callV (ea_one (ev_var rfl)) fun H3 e3 Q q => ⟨p1, Str.ofString "come", [x, rS r0], rfl, sq_of (e3 _ _ (e2 _ _ h1)), by decide +kernel, .inl X.cCome, q⟩))) (fun z => nomatch z) fun _ H3 e3 => ?_
    have e03 := (e1.trans e2).trans e3
    have h3 := e3 _ _ (e2 _ _ h1)
    refine q_when (b := false) (et_test (ev_is (ev_op (ev_var rfl) ev_c (rv_eq rfl)) (congrArg V.bl (by decide +kernel)))) (fun z => nomatch z) fun _ H4 e4 => ?_
    refine q_when (b := false) (et_test (ev_is (ev_op (ev_var rfl) ev_c (rv_eq rfl)) (congrArg V.bl (by decide +kernel)))) (fun z => nomatch z) fun _ H5 e5 => ?_
    refine q_when (b := false) (et_test (ev_is (ev_opL (ev_var rfl) (el_lst (ea_two ev_c ev_c) (by show 2 ≤ 100000; omega)) fun p H h e => rv_isL (sq_of h) rfl rfl) (congrArg V.bl (by decide +kernel)))) (fun z => nomatch z) fun _ H6 e6 => ?_
    refine q_when (b := false) (et_test (ev_is (ev_opL (ev_var rfl) (el_lst (ea_two ev_c ev_c) (by show 2 ≤ 100000; omega)) fun p H h e => rv_isL (sq_of h) rfl rfl) (congrArg V.bl (by decide +kernel)))) (fun z => nomatch z) fun _ H7 e7 => ?_
    refine q_when (b := false) (et_or (a := false) (b := false) (et_test (ev_is (ev_op (ev_var rfl) ev_c (rv_eq rfl)) (congrArg V.bl (by decide +kernel)))) fun _ => et_test (ev_op (ev_var rfl) ev_c (rv_of fun H8 e8 Q q => ⟨Str.ofString "come", none, rfl, rfl, X.lCome, q⟩))) (fun z => nomatch z) fun _ H8 e8 => ?_
    refine q_when (b := false) (et_test (ev_op (ev_var rfl) ev_c (rv_of fun H8 e8 Q q => ⟨Str.ofString "come", none, rfl, rfl, X.aCome, q⟩))) (fun z => nomatch z) fun _ H9 e9 => ?_
    have e09 := (((((e03.trans e4).trans e5).trans e6).trans e7).trans e8).trans e9
    have h9 := e9 _ _ (e8 _ _ (e7 _ _ (e6 _ _ (e5 _ _ (e4 _ _ h3)))))
    refine inRet (inMeth (go (ev_var rfl) fun H10 e10 => ?_))
    obtain ⟨dx, n, s', h0, st, k1, k2, k3, k4, k5⟩ := I.ex_
    refine ⟨o, dx, _, rfl, e10 _ _ (e09 _ _ k1), rfl, inCons (go (ev_var rfl) fun H11 e11 => inCons (goL (el_sl (lo := some ((1 : Nat) : Int)) (hi := none) (ev_var rfl) (eo_some ev_c) eo_none (sq_of (e11 _ _ (e10 _ _ h9)))) fun p12 H12 n12 e12 h12 => ?_))⟩
    have e0C := ((e09.trans e10).trans e11).trans e12
    exact ⟨o, p12, x, names, r0, hs, rfl, sq_of h12, I.ex e0C, hx, hn, few, fun p r H' b' D' => q p r H' ((But.ex e0C).trans b') D'⟩
end
end Ol
namespace Ol
open PySem PySem.Spec PyProof.Rows L2 Evl
/-! ### digits drawn -/
theorem But.mut {s p : Addr} {H H' : Hp} {o : HO} (b : But s H H') (h : H p = none) : But s H (L2.upd H' p o) := fun c u hc hu => by
  rw [upd_ne (fun z => by rw [z, h] at hu; cases hu)]
  exact b c u hc hu
theorem But.none {s p : Addr} {H H' : Hp} (b : But s H H') (hs : H' s ≠ none) (h : H' p = none) : H p = none ∧ p ≠ s := by
  have hne : p ≠ s := fun z => hs (z ▸ h)
  refine ⟨?_, hne⟩
  cases hh : H p with
  | none => rfl
  | some o =>
    rw [b p o hne hh] at h
    cases h
theorem But.go {s : Addr} {H H1 H2 : Hp} (b : But s H H1) (e : Ex H1 H2) : But s H H2 := b.trans (But.ex e)
/-- the numbers' source: its number, its kind, how often it was asked -/
def Dr (H : Hp) (s : Addr) (b : Int) : Prop := ∃ n m k : Int, H s = some (.lst [.int n, .int m, .int k]) ∧ 0 ≤ n ∧ 0 ≤ k ∧ k ≤ b ∧ ((m = 0 ∧ n < 2147483629) ∨ m = 1)
theorem Dr.ex {H H' : Hp} {s : Addr} {b : Int} (h : Dr H s b) (e : Ex H H') : Dr H' s b := by
  obtain ⟨n, m, k, h1, h2⟩ := h
  exact ⟨n, m, k, e _ _ h1, h2⟩
theorem Dr.mono {H : Hp} {s : Addr} {b c : Int} (h : Dr H s b) (e : b ≤ c) : Dr H s c := by
  obtain ⟨n, m, k, h1, h2, h3, h4, h5⟩ := h
  exact ⟨n, m, k, h1, h2, h3, by omega, h5⟩
theorem Dr.other {H : Hp} {s p : Addr} {b : Int} {o : HO} (h : Dr H s b) (hne : p ≠ s) : Dr (upd H p o) s b := by
  obtain ⟨n, m, k, h1, h2⟩ := h
  exact ⟨n, m, k, by rw [upd_ne (Ne.symm hne)]; exact h1, h2⟩
theorem Dr.there {H : Hp} {s : Addr} {b : Int} (h : Dr H s b) : H s ≠ none := by
  obtain ⟨n, m, k, h1, h2⟩ := h
  rw [h1]
  exact fun z => nomatch z
section
variable {K : PySem.W.Frag} {σ : L2.St} {H : Hp} {to : TE} {t : TA} {ty : String} {r : V → List V → Hp → VK → Prop} {Q : VK}
theorem inBM (h : to σ H fun x H1 => tyV K ty x H1 ∧ t σ H1 fun xs H2 => r x xs H2 Q) : tBM K ty r to t σ H Q := h
theorem inBM0 (h : to σ H fun x H1 => tyV K ty x H1 ∧ r x [] H1 Q) : tBM0 K ty r to σ H Q := h
end
section
variable {P : Program} {w : World} {K : PySem.W.Frag} {mg : Str → Option Value} {base : Heap}
def spMix : Sp := fun vs H Q _ => ∃ n k : Int, vs = [.int n, .int k] ∧ 0 ≤ n ∧ n < 2147483629 ∧ 0 ≤ k ∧ k ≤ 1000001 ∧ ∀ d, 0 ≤ d → d < 2147483587 → RetV (.int d) H Q
theorem c__law_mix (T : Tx w K mg)  : Callee P w K mg base "_law_mix" 1 ["_law_number", "_law_k"] spMix := by
  refine callee_of T.F__law_mix T.g__law_mix sc__law_mix (fun _ _ _ _ _ _ us hl => match us, hl with | [_, _], _ => rfl) (fun vs H Q E h => ?_) fun cdv A outer s H vs Q E hr h => ?_
  · obtain ⟨n, k, rfl, n0, n1, k0, k1, q⟩ := h
    rfl
  obtain ⟨n, k, rfl, n0, n1, k0, k1, q⟩ := h
  refine ⟨_, (pss_cons (ps_set (i := 2) sc__law_mix.nd rfl (Or.inl rfl) (pe_op op_modN (pe_op op_mul (pe_op op_add (pe_op op_add (pe_op op_mul (pv 0) (pv 0)) (pe_op op_mul (pv 1) (pv 0))) (pe_op op_mul (pe_op op_mul pe_int (pv 1)) (pv 1))) pe_int) pe_int))
      (pss_one (ps_ret (pe_op op_modN (pe_op op_mul (pv 2) (pv 2)) pe_int)))), ?_⟩
  have f0 : ∀ a b : Int, 0 < b → 0 ≤ a.fmod b ∧ a.fmod b < b := fun a b hb => ⟨Int.fmod_nonneg_of_pos a hb, Int.fmod_lt_of_pos a hb⟩
  have e64 : (2 : Int) ^ 64 = 18446744073709551616 := by decide
  refine q_asg (ev_op (ev_op (ev_op (ev_op (ev_op (ev_var rfl) (ev_var rfl) (rv_I (.inl ⟨by omega, by omega⟩))) (ev_op (ev_var rfl) (ev_var rfl) (rv_I (.inr ⟨by omega, by omega⟩))) rv_I0) (ev_op (ev_op ev_c (ev_var rfl) (rv_I (.inl ⟨by omega, by omega⟩))) (ev_var rfl) (rv_I (.inr ⟨by omega, by omega⟩))) rv_I0)
    ev_c (rv_I (.inr ⟨by omega, by omega⟩))) ev_c (rv_I (by decide))) fun H1 e1 => ?_
  obtain ⟨g0, g1⟩ := f0 ((n * n + k * n + 7 * k * k) * 1103515245) 2147483629 (by decide)
  generalize ((n * n + k * n + 7 * k * k) * 1103515245).fmod 2147483629 = m at g0 g1 ⊢
  obtain ⟨h0, h1⟩ := f0 (m * m) 2147483587 (by decide)
  exact s_ret (ev_op (ev_op (ev_var rfl) (ev_var rfl) (rv_I (.inl ⟨by omega, by omega⟩))) ev_c (rv_I (by decide))) fun H2 e2 => q _ h0 h1 H2 (e1.trans e2)
def spLeft : Sp := fun vs H Q _ => ∃ c : Int, vs = [.int c] ∧ ∀ s H', H s = none → Ex H H' → Dr H' s 0 → Q (.ref s) H'
theorem c__law_left (T : Tx w K mg)  : Callee P w K mg base "_law_left" 1 ["_law_cell"] spLeft := by
  refine callee_of T.F__law_left T.g__law_left sc__law_left (fun _ _ _ _ _ _ us hl => match us, hl with | [_], _ => rfl) (fun vs H Q E h => ?_) fun cdv A outer s H vs Q E hr h => ?_
  · obtain ⟨c, rfl, q⟩ := h
    rfl
  obtain ⟨c, rfl, q⟩ := h
  refine ⟨_, (pss_cons (ps_if (pt_cmpR op_lt (pv 0) (pe_op op_powW pe_int pe_int) (nomark _)) (pss_one (ps_ret (pe_lst (pa_cons (pe_op op_modN (pv 0) pe_int) (pa_cons pe_int (pa_cons pe_int pa_nil)))))) pss_nil)
      (pss_one (ps_ret (pe_lst (pa_cons (pe_op op_modN (pe_op op_sub (pv 0) (pe_op op_powW pe_int pe_int)) (pe_op op_powW (pe_op op_powW (pe_op op_powW pe_int pe_int) pe_int) pe_int)) (pa_cons pe_int (pa_cons pe_int pa_nil))))))), ?_⟩
  have f0 : ∀ a b : Int, 0 < b → 0 ≤ a.fmod b ∧ a.fmod b < b := fun a b hb => ⟨Int.fmod_nonneg_of_pos a hb, Int.fmod_lt_of_pos a hb⟩
  refine q_when (et_test (ev_op (ev_var rfl) (ev_op ev_c ev_c (rv_I (C := CPowW) (by unfold CPowW; decide +kernel))) rv_I0)) (fun _ H1 e1 => ?_) fun _ H1 e1 => ?_
  · obtain ⟨h0, h1⟩ := f0 c 2147483629 (by decide)
    exact s_retL (el_lst (ea_three (ev_op (ev_var rfl) ev_c (rv_I (by decide))) ev_c ev_c) (by show 3 ≤ 100000; omega)) fun p H2 n2 e2 h2 => q p H2 (fresh_back e1 n2) (e1.trans e2) ⟨_, _, _, h2, h0, by decide, by decide, .inl ⟨rfl, h1⟩⟩
  · have pos : (0 : Int) < (((10 : Int) ^ (60 : Int).toNat) ^ (20 : Int).toNat) ^ (5 : Int).toNat := by decide +kernel
    obtain ⟨h0, h1⟩ := f0 (c - (10 : Int) ^ (18 : Int).toNat) _ pos
    exact s_retL (el_lst (ea_three (ev_op (ev_op (ev_var rfl) (ev_op ev_c ev_c (rv_I (C := CPowW) (by unfold CPowW; decide +kernel))) rv_I0) (ev_op (ev_op (ev_op ev_c ev_c (rv_I (C := CPowW) (by unfold CPowW; decide +kernel))) ev_c (rv_I (C := CPowW) (by unfold CPowW; decide +kernel))) ev_c (rv_I (C := CPowW) (by unfold CPowW; decide +kernel))) (rv_I (by omega))) ev_c ev_c) (by show 3 ≤ 100000; omega)) fun p H2 n2 e2 h2 =>
      q p H2 (fresh_back e1 n2) (e1.trans e2) ⟨_, _, _, h2, h0, by decide, by decide, .inr rfl⟩
def spDraw : Sp := fun vs H Q _ => ∃ (s : Addr) (b base : Int), vs = [.ref s, .int base] ∧ Dr H s b ∧ b ≤ 1000000 ∧ 0 < base ∧ base ≤ 1000000000 ∧ ∀ d H', But s H H' → Dr H' s (b + 1) → 0 ≤ d → d < base → Q (.int d) H'
theorem c__law_draw (T : Tx w K mg) (C__law_mix : Callee P w K mg base "_law_mix" 1 ["_law_number", "_law_k"] spMix) : Callee P w K mg base "_law_draw" 2 ["_law_left_here", "_law_base"] spDraw := by
  refine callee_of T.F__law_draw T.g__law_draw sc__law_draw (fun _ _ _ _ _ _ us hl => match us, hl with | [_, _], _ => rfl) (fun vs H Q E h => ?_) fun cdv A outer s H vs Q E hr h => ?_
  · obtain ⟨s', b, bs, rfl, D, bb, b0, b1, q⟩ := h
    rfl
  obtain ⟨s', b, bs, rfl, D, bb, b0, b1, q⟩ := h
  refine ⟨_, (pss_cons (ps_asg (pe_op op_add (pe_ix (ixL K) (pv 0) pe_int (fun _ _ => rfl)) pe_int) (pg_sub (pv 0) pe_int set_list))
      (pss_cons (ps_if (pt_cmpR op_eq (pe_ix (ixL K) (pv 0) pe_int (fun _ _ => rfl)) pe_int (nomark _)) (pss_cons (ps_set (i := 2) sc__law_draw.nd rfl (Or.inl rfl) (pe_callC C__law_mix hr (by decide) (by rfl) (pa_cons (pe_ix (ixL K) (pv 0) pe_int (fun _ _ => rfl)) (pa_cons (pe_ix (ixL K) (pv 0) pe_int (fun _ _ => rfl)) pa_nil))))
      (pss_cons (ps_if (pt_cmpR op_gt (pv 1) (pe_op op_powW pe_int pe_int) (nomark _)) pss_never pss_nil)
      (pss_one (ps_ret (pe_op op_modN (pe_op op_modN (pe_op op_mul (pv 2) (pe_op op_add (pv 2) pe_int)) pe_int) (pv 1)))))) pss_nil)
      (pss_cons (ps_set (i := 3) sc__law_draw.nd rfl (Or.inl rfl) (pe_op op_modN (pe_ix (ixL K) (pv 0) pe_int (fun _ _ => rfl)) (pv 1)))
      (pss_cons (ps_asg (pe_op op_fdivN (pe_ix (ixL K) (pv 0) pe_int (fun _ _ => rfl)) (pv 1)) (pg_sub (pv 0) pe_int set_list))
      (pss_one (ps_ret (pv 3))))))), ?_⟩
  have f0 : ∀ a b : Int, 0 < b → 0 ≤ a.fmod b ∧ a.fmod b < b := fun a b hb => ⟨Int.fmod_nonneg_of_pos a hb, Int.fmod_lt_of_pos a hb⟩
  obtain ⟨n, m, k, hs, n0, k0, k1, alt⟩ := D
  refine q_setL (j := 2) hs (ev_op (ev_ixL (i := 2) (v := .int k) (ev_var rfl) ev_c (sq_of hs) rfl) ev_c rv_I0) (ev_var rfl) ev_c (by show 2 < 3; omega) fun H1 e1 => ?_
  have hs2 : (upd H1 s' (.lst ([V.int n, .int m, .int k].set 2 (.int (k + 1))))) s' = some (.lst [.int n, .int m, .int (k + 1)]) := upd_same
  have b02 : But s' H (upd H1 s' (.lst ([V.int n, .int m, .int k].set 2 (.int (k + 1))))) := (But.ex e1).trans But.upd
  generalize upd H1 s' (.lst ([V.int n, .int m, .int k].set 2 (.int (k + 1)))) = H2 at hs2 b02
  refine q_when (et_test (ev_op (ev_ixL (i := 1) (v := .int m) (ev_var rfl) ev_c (sq_of hs2) rfl) ev_c (rv_eq rfl))) (fun hb H3 e3 => ?_) fun hb H3 e3 => ?_
  · have hb := V.int.inj (of_decide_eq_true hb)
    obtain ⟨_, n1⟩ : m = 0 ∧ n < 2147483629 := by
      rcases alt with h | h
      · exact h
      · omega
    have hs3 := e3 _ _ hs2
    refine inSeq (inSet (inCall (goA (ea_two (ev_ixL (i := 0) (v := .int n) (ev_var rfl) ev_c (sq_of hs3) rfl) (ev_ixL (i := 2) (v := .int (k + 1)) (ev_var rfl) ev_c (sq_of hs3) rfl)) fun H4 e4 => ⟨n, k + 1, rfl, n0, n1, by omega, by omega, fun d d0 d1 H5 e5 => ?_⟩)))
    have e25 := (e3.trans e4).trans e5
    have p9 : (10 : Int) ^ (9 : Int).toNat = 1000000000 := by decide +kernel
    refine q_when (b := false) (et_test (ev_is (ev_op (ev_var rfl) (ev_op ev_c ev_c (rv_I (C := CPowW) (by unfold CPowW; decide +kernel))) rv_I0) (congrArg V.bl (decide_eq_false (by rw [p9]; omega))))) (fun z => nomatch z) fun _ H6 e6 => ?_
    obtain ⟨h0, h1⟩ := f0 ((d * (d + 2)).fmod 2147483579) bs b0
    have e64 : (2 : Int) ^ 64 = 18446744073709551616 := by decide
    exact s_ret (ev_op (ev_op (ev_op (ev_var rfl) (ev_op (ev_var rfl) ev_c rv_I0) (rv_I (.inl ⟨by omega, by omega⟩))) ev_c (rv_I (by decide))) (ev_var rfl) (rv_I (by omega))) fun H7 e7 =>
      q _ H7 (b02.go ((e25.trans e6).trans e7)) ⟨n, m, k + 1, ((e25.trans e6).trans e7) _ _ hs2, n0, by omega, by omega, alt⟩ h0 h1
  · have hb := of_decide_eq_false hb
    have m1 : m = 1 := by
      rcases alt with h | h
      · exact absurd (congrArg V.int h.1) hb
      · exact h
    have hs3 := e3 _ _ hs2
    obtain ⟨h0, h1⟩ := f0 n bs b0
    have g0 : 0 ≤ n.fdiv bs := Int.fdiv_nonneg n0 (by omega)
    refine q_asg (ev_op (ev_ixL (i := 0) (v := .int n) (ev_var rfl) ev_c (sq_of hs3) rfl) (ev_var rfl) (rv_I (by omega))) fun H4 e4 => ?_
    have hs4 := e4 _ _ hs3
    refine q_setL (j := 0) hs4 (ev_op (ev_ixL (i := 0) (v := .int n) (ev_var rfl) ev_c (sq_of hs4) rfl) (ev_var rfl) (rv_I ⟨by omega, by omega⟩)) (ev_var rfl) ev_c (by show 0 < 3; omega) fun H5 e5 => ?_
    exact s_ret (ev_var rfl) fun H6 e6 => q _ H6 (((b02.go ((e3.trans e4).trans e5)).trans But.upd).go e6) ⟨n.fdiv bs, m, k + 1, e6 _ _ upd_same, g0, by omega, by omega, .inr m1⟩ h0 h1
/-! ### names, shuffled -/
def spLNames : Sp := fun vs H Q _ => ∃ (s : Addr) (b many : Int), vs = [.ref s, .int many] ∧ Dr H s b ∧ b ≤ 900000 ∧ 2 ≤ many ∧ many ≤ 6 ∧
  ∀ p (ns : List Int) H', H p = none → But s H H' → Dr H' s (b + 7) → H' p = some (.lst (ns.map V.int)) → ns.Pairwise (· < ·) → (ns.length : Int) = many → (∀ n ∈ ns, NumOk n) → Q (.ref p) H'
theorem c__law_names (T : Tx w K mg) (C__law_draw : Callee P w K mg base "_law_draw" 2 ["_law_left_here", "_law_base"] spDraw) : Callee P w K mg base "_law_names" 3 ["_law_left_here", "_law_many"] spLNames := by
  refine callee_of T.F__law_names T.g__law_names sc__law_names (fun _ _ _ _ _ _ us hl => match us, hl with | [_, _], _ => rfl) (fun vs H Q E h => ?_) fun cdv A outer s H vs Q E hr h => ?_
  · obtain ⟨s', b, many, rfl, D, bb, m0, m1, q⟩ := h
    rfl
  obtain ⟨s', b, many, rfl, D, bb, m0, m1, q⟩ := h
  refine ⟨_, (pss_cons (ps_set (i := 2) sc__law_names.nd rfl (Or.inl rfl) (pe_ix (ixL K) (pe_lst (pa_cons pe_int (pa_cons pe_int (pa_cons pe_int (pa_cons (pe_op op_powW pe_int pe_int) pa_nil))))) (pe_callC C__law_draw hr (by decide) (by rfl) (pa_cons (pv 0) (pa_cons pe_int pa_nil))) (fun _ _ => rfl)))
      (pss_cons (ps_set (i := 3) sc__law_names.nd rfl (Or.inl rfl) (pe_lst pa_nil))
      (pss_cons (ps_set (i := 4) sc__law_names.nd rfl (Or.inl rfl) (pe_un un_neg pe_int))
      (pss_cons (ps_for PassesOwn.never rfl (pi_range1 (by rfl) T.b_range (pa_cons (pv 1) pa_nil)) (pg_name (i := 5) sc__law_names.nd rfl (Or.inl rfl)) (pss_cons (ps_set (i := 4) sc__law_names.nd rfl (Or.inl rfl) (pe_op op_add (pe_op op_add (pv 4) pe_int) (pe_callC C__law_draw hr (by decide) (by rfl) (pa_cons (pv 0) (pa_cons (pv 2) pa_nil)))))
      (pss_one (ps_expr (bmK K PySem.F.plainAttrs_list PySem.F.slot_list_append PySem.F.type_list_append mt_append (pv 3) (pa_cons (pv 4) pa_nil))))))
      (pss_one (ps_ret (pv 3))))))), ?_⟩
  have p9 : (10 : Int) ^ (9 : Int).toNat = 1000000000 := by decide +kernel
  have p11 : (10 : Int) ^ 11 = 100000000000 := by decide
  refine inSeq (inSet (inOp (goL (el_lst (ea_cons ev_c (ea_three ev_c ev_c (ev_is (ev_op ev_c ev_c (rv_I (C := CPowW) (by unfold CPowW; decide +kernel))) (congrArg V.int p9)))) (by show 4 ≤ 100000; omega)) fun p H1 n1 e1 h1 =>
    inCall (goA (ea_two (ev_var rfl) ev_c) fun H2 e2 => ⟨s', b, 4, rfl, D.ex (e1.trans e2), by omega, by decide, by decide, fun d H3 b3 D3 d0 d1 => ?_⟩))))
  have hps : p ≠ s' := fun z => D.there (z ▸ n1)
  have b03 : But s' H H3 := (But.ex (e1.trans e2)).trans b3
  obtain ⟨far, hat, far0, far1⟩ : ∃ far : Int, atI [V.int 1, .int 1, .int 3, .int 1000000000] d = some (.int far) ∧ 0 < far ∧ far ≤ 1000000000 := by
    have : d = 0 ∨ d = 1 ∨ d = 2 ∨ d = 3 := by omega
    rcases this with rfl | rfl | rfl | rfl
    · exact ⟨1, rfl, by decide, by decide⟩
    · exact ⟨1, rfl, by decide, by decide⟩
    · exact ⟨3, rfl, by decide, by decide⟩
    · exact ⟨1000000000, rfl, by decide, by decide⟩
  refine ⟨p, _, d, .int far, rfl, rfl, sq_of (b3 _ _ hps (e2 _ _ h1)), hat, ?_⟩
  refine q_asgL (xs := []) (el_lst ea_nil (by show 0 ≤ 100000; omega)) fun fq H4 n4 e4 h4 => ?_
  obtain ⟨nf, fs⟩ := b03.none D3.there n4
  refine q_asg (ev_un ev_c ru_neg) fun H5 e5 => ?_
  refine q_forR1 (n := many) (ea_one (ev_var rfl)) (by omega) (fun i σ' H' => ∃ (ns : List Int) (last : Int) (y5 : Option V), σ' = [some (.ref s'), some (.int many), some (.int far), some (.ref fq), some (.int last), y5] ∧ But s' H H' ∧ Dr H' s' (b + 1 + i) ∧ H' fq = some (.lst (ns.map V.int)) ∧
      ns.Pairwise (· < ·) ∧ ns.length = i ∧ (∀ n ∈ ns, 0 ≤ n ∧ n ≤ last) ∧ -1 ≤ last ∧ last < (i : Int) * 1000000000) (fun H6 e6 => ⟨[], -1, _, rfl, b03.go ((e4.trans e5).trans e6), (D3.ex ((e4.trans e5).trans e6)).mono (by omega), e6 _ _ (e5 _ _ h4), List.Pairwise.nil, rfl, (fun _ h => nomatch h), by decide, by decide⟩) ?_ ?_
  · rintro i σ' H' hi ⟨ns, last, y5, rfl, bt, Dt, hf, up, len, bd, l0, l1⟩
    refine inSeq (inSet (inOp (go (ev_op (ev_var rfl) ev_c rv_I0) fun H6 e6 => inCall (goA (ea_two (ev_var rfl) (ev_var rfl)) fun H7 e7 => ⟨s', _, far, rfl, Dt.ex (e6.trans e7), by omega, far0, far1, fun d H8 b8 D8 d0 d1 => ⟨_, _, rfl, rfl, ?_⟩⟩))))
    have hf8 := b8 _ _ fs (e7 _ _ (e6 _ _ hf))
    have b08 := (bt.go (e6.trans e7)).trans b8
    refine s_app hf8 (ev_var rfl) (ev_var rfl) (by rw [List.length_map]; omega) fun H9 e9 => ⟨ns ++ [last + 1 + d], last + 1 + d, _, rfl, (b08.go e9).mut nf, ((D8.ex e9).other fs).mono (by omega), ?_, ?_, ?_, ?_, by omega, by omega⟩
    · rw [upd_same, List.map_append]
      rfl
    · refine List.pairwise_append.mpr ⟨up, List.pairwise_singleton _ _, fun x hx y hy => ?_⟩
      rw [List.mem_singleton.mp hy]
      have := (bd x hx).2
      omega
    · rw [List.length_append, len]
      rfl
    · intro x hx
      rcases List.mem_append.mp hx with hx | hx
      · have := bd x hx
        omega
      · rw [List.mem_singleton.mp hx]
        omega
  · rintro σ' H' ⟨ns, last, y5, rfl, bt, Dt, hf, up, len, bd, l0, l1⟩
    refine s_ret (ev_var rfl) fun H6 e6 => q fq ns H6 nf (bt.go e6) ((Dt.ex e6).mono (by omega)) (e6 _ _ hf) up (by omega) fun x hx => ?_
    have := bd x hx
    exact ⟨this.1, by omega⟩
def spShuf : Sp := fun vs H Q _ => ∃ (s a : Addr) (b : Int) (ns : List Int), vs = [.ref s, .ref a] ∧ Dr H s b ∧ b ≤ 900000 ∧ H a = some (.lst (ns.map V.int)) ∧ a ≠ s ∧ ns.length ≤ 6 ∧
  ∀ p (r : List Int) H', H p = none → But s H H' → Dr H' s (b + 6) → H' p = some (.lst (r.map V.int)) → r.Perm ns → Q (.ref p) H'
theorem c__law_shuffled (T : Tx w K mg) (C__law_draw : Callee P w K mg base "_law_draw" 2 ["_law_left_here", "_law_base"] spDraw) : Callee P w K mg base "_law_shuffled" 3 ["_law_left_here", "_law_things_here"] spShuf := by
  refine callee_of T.F__law_shuffled T.g__law_shuffled sc__law_shuffled (fun _ _ _ _ _ _ us hl => match us, hl with | [_, _], _ => rfl) (fun vs H Q E h => ?_) fun cdv A outer s H vs Q E hr h => ?_
  · obtain ⟨s', a, b, ns, rfl, D, bb, ha, has, few, q⟩ := h
    rfl
  obtain ⟨s', a, b, ns, rfl, D, bb, ha, has, few, q⟩ := h
  refine ⟨_, (pss_cons (ps_set (i := 2) sc__law_shuffled.nd rfl (Or.inl rfl) (pe_lst pa_nil))
      (pss_cons (ps_for PassesOwn.never rfl (piL K (pv 1)) (pg_name (i := 3) sc__law_shuffled.nd rfl (Or.inl rfl)) (pss_one (ps_expr (bmK K PySem.F.plainAttrs_list PySem.F.slot_list_insert PySem.F.type_list_insert mt_insert (pv 2) (pa_cons (pe_callC C__law_draw hr (by decide) (by rfl) (pa_cons (pv 0) (pa_cons (pe_op op_add (pe_callB (lenS K) (by rfl) T.b_len (by decide +kernel) (pa_cons (pv 2) pa_nil)) pe_int) pa_nil))) (pa_cons (pv 3) pa_nil))))))
      (pss_one (ps_ret (pv 2))))), ?_⟩
  refine q_asgL (xs := []) (el_lst ea_nil (by show 0 ≤ 100000; omega)) fun fq H1 n1 e1 h1 => ?_
  have fs : fq ≠ s' := fun z => D.there (z ▸ n1)
  refine inSeq (fo_W ns V.int (ev_var rfl) (sq_of (e1 _ _ ha)) (fun pre σ' H' => ∃ (xs : List Int) (y3 : Option V), σ' = [some (.ref s'), some (.ref a), some (.ref fq), y3] ∧ But s' H H' ∧ Dr H' s' (b + pre.length) ∧ H' fq = some (.lst (xs.map V.int)) ∧ xs.Perm pre ∧ pre.length ≤ 6)
    (fun pre σ' H' ⟨_, _, _, bt, _⟩ => sq_of (bt _ _ has ha)) (fun H2 e2 => ⟨[], _, rfl, But.ex (e1.trans e2), (D.ex (e1.trans e2)).mono (by show b ≤ b + 0; omega), e2 _ _ h1, List.Perm.refl _, by show 0 ≤ 6; omega⟩) ?_ ?_)
  · rintro pre z post σ' H' eq ⟨xs, y3, rfl, bt, Dt, hf, pm, l6⟩
    have hl : pre.length < ns.length := by rw [eq, List.length_append, List.length_cons]; omega
    have hx := pm.length_eq
    refine inDrop (inBM (go (ev_var rfl) fun H2 e2 => ⟨.inl ⟨rfl, _, sq_of (e2 _ _ hf)⟩, inCons (inCall (goA (ea_two (ev_var rfl) (ev_op (ev_len (ev_var rfl) (sq_of (e2 _ _ hf))) ev_c rv_I0)) fun H3 e3 => ⟨s', _, _, rfl, Dt.ex (e2.trans e3), by omega, by rw [List.length_map]; omega, by rw [List.length_map]; omega, fun d H4 b4 D4 d0 d1 =>
      goA (ea_one (ev_var rfl)) fun H5 e5 => ?_⟩))⟩))
    rw [List.length_map] at d1
    have hf4 := e5 _ _ (b4 _ _ fs (e3 _ _ (e2 _ _ hf)))
    have b05 := ((bt.go (e2.trans e3)).trans b4).go e5
    refine ⟨fq, xs.map V.int, d, .int z, rfl, rfl, hf4, by rw [List.length_map]; exact sz_lt (by omega), d0, by omega, xs.take d.toNat ++ [z] ++ xs.drop d.toNat, _, rfl, b05.mut n1, ((D4.ex e5).other fs).mono (by rw [List.length_append, List.length_singleton]; omega), ?_, ?_, by rw [List.length_append, List.length_singleton]; omega⟩
    · rw [upd_same, List.map_append, List.map_append, List.map_take, List.map_drop]
      rfl
    · have h1 : (xs.take d.toNat ++ [z] ++ xs.drop d.toNat).Perm (z :: (xs.take d.toNat ++ xs.drop d.toNat)) := by
        rw [List.append_assoc]
        exact List.perm_middle
      rw [List.take_append_drop] at h1
      refine h1.trans ((List.Perm.cons z pm).trans ?_)
      have h2 := (List.perm_middle (a := z) (l₁ := pre) (l₂ := [])).symm
      rw [List.append_nil] at h2
      exact h2
  · rintro σ' H' ⟨xs, y3, rfl, bt, Dt, hf, pm, l6⟩
    dsimp only
    exact s_ret (ev_var rfl) fun H2 e2 => q fq xs H2 n1 (bt.go e2) ((Dt.ex e2).mono (by omega)) (e2 _ _ hf) pm
end
end Ol
namespace Ol
open PySem PySem.Spec PyProof.Rows L2 Evl
/-! ### a tree of an order and of where each hangs -/
theorem tie_lt {x y : Int} (h : x ≠ y) : (tie x y).1 < (tie x y).2 := by
  show min x y < max x y
  omega
theorem tie_two {x y u v : Int} (h : tie x y = tie u v) : u = x ∨ u = y := by
  have h1 : min x y = min u v := congrArg Prod.fst h
  have h2 : max x y = max u v := congrArg Prod.snd h
  omega
theorem tie_has {x y : Int} {p : Int → Prop} (hx : p x) (hy : p y) : p (tie x y).1 ∧ p (tie x y).2 := by
  rcases Int.le_total x y with c | c
  · have e1 : (tie x y).1 = x := show min x y = x by omega
    have e2 : (tie x y).2 = y := show max x y = y by omega
    rw [e1, e2]
    exact ⟨hx, hy⟩
  · have e1 : (tie x y).1 = y := show min x y = y by omega
    have e2 : (tie x y).2 = x := show max x y = x by omega
    rw [e1, e2]
    exact ⟨hy, hx⟩
def tiesOf (r : List Int) (par : Nat → Nat) (m : Nat) : List Tie := (List.range m).map fun j => tie (r.getD (j + 1) 0) (r.getD (par (j + 1)) 0)
theorem tree_of {ns r : List Int} {par : Nat → Nat} {ties : List Tie} (pm : r.Perm ns) (up : ns.Pairwise (· < ·)) (ok : ∀ n ∈ ns, NumOk n) (few : ns.length ≤ 10) (some : 0 < ns.length) (hp : ∀ j, 0 < j → j < r.length → par j < j)
    (pm2 : ties.Perm (tiesOf r par (r.length - 1))) (srt : ties.Pairwise fun s t => ¬ lexT t s) : TreeW ns ties := by
  have nd : r.Nodup := pm.nodup_iff.mpr (up_nd up)
  have len := pm.length_eq
  have at_ : ∀ i, i < r.length → ∃ h : i < r.length, r.getD i 0 = r[i] := fun i hi => ⟨hi, by rw [List.getD_eq_getElem?_getD, List.getElem?_eq_getElem hi]; rfl⟩
  have inn : ∀ i, i < r.length → r.getD i 0 ∈ ns := fun i hi => by
    obtain ⟨h, e⟩ := at_ i hi
    rw [e]
    exact pm.mem_iff.mp (List.getElem_mem h)
  have inj : ∀ i j, i < r.length → j < r.length → r.getD i 0 = r.getD j 0 → i = j := fun i j hi hj e => by
    obtain ⟨h1, e1⟩ := at_ i hi
    obtain ⟨h2, e2⟩ := at_ j hj
    rw [e1, e2] at e
    have pw := List.pairwise_iff_getElem.mp nd
    rcases Nat.lt_trichotomy i j with c | c | c
    · exact absurd e (pw i j h1 h2 c)
    · exact c
    · exact absurd e.symm (pw j i h2 h1 c)
  have mem : ∀ t, t ∈ ties ↔ ∃ j, j < r.length - 1 ∧ tie (r.getD (j + 1) 0) (r.getD (par (j + 1)) 0) = t := fun t => by
    rw [pm2.mem_iff]
    unfold tiesOf
    rw [List.mem_map]
    exact ⟨fun ⟨j, h1, h2⟩ => ⟨j, List.mem_range.mp h1, h2⟩, fun ⟨j, h1, h2⟩ => ⟨j, List.mem_range.mpr h1, h2⟩⟩
  have nd2 : ties.Nodup := by
    refine pm2.nodup_iff.mpr ?_
    unfold tiesOf
    refine List.pairwise_map.mpr (List.Pairwise.imp_of_mem (fun {i j} hi hj h e => ?_) List.pairwise_lt_range)
    have hi := List.mem_range.mp hi
    have hj := List.mem_range.mp hj
    have h3 := hp (i + 1) (by omega) (by omega)
    rcases tie_two e with k | k
    · have := inj _ _ (by omega) (by omega) k
      omega
    · have := inj _ _ (by omega) (by omega) k
      omega
  refine ⟨up, fun n hn => (ok n hn).1, fun n hn => (ok n hn).2, few, some, ⟨fun i => r.getD i 0, par, up_nd up, fun i hi => inn i (by omega), fun x hx => ?_, fun i j hi hj e => inj i j (by omega) (by omega) e, fun i h0 hi => hp i h0 (by omega), fun i h0 hi => ?_, fun t ht => ?_⟩, ?_, fun t ht => ?_, ?_⟩
  · obtain ⟨i, hi, e⟩ := List.getElem_of_mem (pm.mem_iff.mpr hx)
    obtain ⟨h, e2⟩ := at_ i hi
    exact ⟨i, by omega, e2.trans e⟩
  · refine (mem _).mpr ⟨i - 1, by omega, ?_⟩
    have e : i - 1 + 1 = i := by omega
    rw [e]
  · obtain ⟨j, hj, e⟩ := (mem t).mp ht
    exact ⟨j + 1, by omega, by omega, e.symm⟩
  · rw [pm2.length_eq]
    unfold tiesOf
    rw [List.length_map, List.length_range]
    omega
  · obtain ⟨j, hj, rfl⟩ := (mem t).mp ht
    have h3 := hp (j + 1) (by omega) (by omega)
    have hne : r.getD (j + 1) 0 ≠ r.getD (par (j + 1)) 0 := fun e => by
      have := inj _ _ (by omega) (by omega) e
      omega
    have := tie_has (p := (· ∈ ns)) (inn (j + 1) (by omega)) (inn (par (j + 1)) (by omega))
    exact ⟨tie_lt hne, this.1, this.2⟩
  · refine List.Pairwise.imp (fun {s t} h => ?_) (srt.and nd2)
    obtain ⟨h1, h2⟩ := h
    unfold lexT at h1 ⊢
    have : s.1 ≠ t.1 ∨ s.2 ≠ t.2 := by
      rcases Classical.em (s.1 = t.1) with a | a
      · exact .inr fun b => h2 (Prod.ext a b)
      · exact .inl a
    omega
theorem atI_in {l : List Int} {d : Int} (h0 : 0 ≤ d) (h1 : d < l.length) : ∃ x ∈ l, atI (l.map V.int) d = some (.int x) := by
  have hlt : d.toNat < l.length := by omega
  refine ⟨l[d.toNat], List.getElem_mem hlt, ?_⟩
  have := atI_nat (xs := l.map V.int) (j := d.toNat) (v := .int l[d.toNat]) (by rw [List.getElem?_map, List.getElem?_eq_getElem hlt]; rfl)
  rwa [show ((d.toNat : Nat) : Int) = d by omega] at this
theorem atI_getD {l : List Int} {j : Nat} (h : j < l.length) : atI (l.map V.int) (j : Int) = some (.int (l.getD j 0)) := atI_nat (by
  rw [List.getElem?_map, List.getD_eq_getElem?_getD, List.getElem?_eq_getElem h]
  rfl)
section
variable {K : PySem.W.Frag} {σ : L2.St} {H : Hp} {te : TE}
theorem ev_intB {k : Bool} (h : Ev te σ H (.bl k)) : Ev (tCB (fun xs H Q => (∃ i, xs = [V.int i] ∧ Q (.int i) H) ∨ ∃ k, xs = [V.bl k] ∧ Q (.int (if k then 1 else 0)) H) (tCons te tNil)) σ H (.int (if k then 1 else 0)) :=
  ev_cb (ea_one h) (rc_of fun H1 e Q q => .inr ⟨k, rfl, q⟩)
end
section
variable {P : Program} {w : World} {K : PySem.W.Frag} {mg : Str → Option Value} {base : Heap}
def spLTree : Sp := fun vs H Q _ => ∃ (s a : Addr) (b : Int) (ns : List Int), vs = [.ref s, .ref a] ∧ Dr H s b ∧ b ≤ 800000 ∧ H a = some (.lst (ns.map V.int)) ∧ a ≠ s ∧ ns.Pairwise (· < ·) ∧ (∀ n ∈ ns, NumOk n) ∧ 2 ≤ ns.length ∧ ns.length ≤ 6 ∧
  ∀ p (ts : List (Addr × Tie)) H', H p = none → But s H H' → Dr H' s (b + 13) → H' p = some (.lst (ts.map fun t => V.ref t.1)) → (∀ t ∈ ts, H' t.1 = some (.tup [.int t.2.1, .int t.2.2])) → TreeW ns (ts.map (·.2)) → Q (.ref p) H'
theorem c__law_tree (T : Tx w K mg) (C__law_shuffled : Callee P w K mg base "_law_shuffled" 3 ["_law_left_here", "_law_things_here"] spShuf) (C__law_draw : Callee P w K mg base "_law_draw" 2 ["_law_left_here", "_law_base"] spDraw) : Callee P w K mg base "_law_tree" 4 ["_law_left_here", "_law_names_here"] spLTree := by
  refine callee_of T.F__law_tree T.g__law_tree sc__law_tree (fun _ _ _ _ _ _ us hl => match us, hl with | [_, _], _ => rfl) (fun vs H Q E h => ?_) fun cdv A outer s H vs Q E hr h => ?_
  · obtain ⟨s', a, b, ns, rfl, D, bb, ha, has, up, ok, two, few, q⟩ := h
    rfl
  obtain ⟨s', a, b, ns, rfl, D, bb, ha, has, up, ok, two, few, q⟩ := h
  refine ⟨_, (pss_cons (ps_set (i := 2) sc__law_tree.nd rfl (Or.inl rfl) (pe_callC C__law_shuffled hr (by decide) (by rfl) (pa_cons (pv 0) (pa_cons (pv 1) pa_nil))))
      (pss_cons (ps_set (i := 3) sc__law_tree.nd rfl (Or.inl rfl) (pe_callC C__law_draw hr (by decide) (by rfl) (pa_cons (pv 0) (pa_cons pe_int pa_nil))))
      (pss_cons (ps_set (i := 4) sc__law_tree.nd rfl (Or.inl rfl) (pe_lst pa_nil))
      (pss_cons (ps_for PassesOwn.never rfl (pi_range2 (by rfl) T.b_range (pa_cons pe_int (pa_cons (pe_callB (lenS K) (by rfl) T.b_len (by decide +kernel) (pa_cons (pv 2) pa_nil)) pa_nil))) (pg_name (i := 5) sc__law_tree.nd rfl (Or.inl rfl)) (pss_cons (ps_set (i := 6) sc__law_tree.nd rfl (Or.inl rfl) (pe_ix (ixL K) (pv 2) (pe_ix (ixL K) (pe_lst (pa_cons (pe_callC C__law_draw hr (by decide) (by rfl) (pa_cons (pv 0) (pa_cons (pv 5) pa_nil))) (pa_cons (pe_op op_sub (pv 5) pe_int) (pa_cons pe_int pa_nil)))) (pv 3) (fun _ _ => rfl)) (fun _ _ => rfl)))
      (pss_one (ps_expr (bmK K PySem.F.plainAttrs_list PySem.F.slot_list_append PySem.F.type_list_append mt_append (pv 4) (pa_cons (pe_tup (pa_cons (pe_callB (call_min2 rfl) (by rfl) T.b_min (by decide +kernel) (pa_cons (pe_ix (ixL K) (pv 2) (pv 5) (fun _ _ => rfl)) (pa_cons (pv 6) pa_nil))) (pa_cons (pe_callB (call_max2 rfl) (by rfl) T.b_max (by decide +kernel) (pa_cons (pe_ix (ixL K) (pv 2) (pv 5) (fun _ _ => rfl)) (pa_cons (pv 6) pa_nil))) pa_nil))) pa_nil))))))
      (pss_one (ps_ret (pe_callB (srtP K) (by rfl) T.b_sorted (by decide +kernel) (pa_cons (pv 4) pa_nil)))))))), ?_⟩
  refine inSeq (inSet (inCall (goA (ea_two (ev_var rfl) (ev_var rfl)) fun H1 e1 => ⟨s', a, b, ns, rfl, D.ex e1, by omega, e1 _ _ ha, has, few, fun od r H2 nod1 b2 D2 hod pm => ?_⟩)))
  have len := pm.length_eq
  have b02 := (But.ex e1).trans b2
  obtain ⟨nod, ods⟩ : H od = none ∧ od ≠ s' := ⟨fresh_back e1 nod1, fun z => (D.ex e1).there (z ▸ nod1)⟩
  refine inSeq (inSet (inCall (goA (ea_two (ev_var rfl) ev_c) fun H3 e3 => ⟨s', b + 6, 3, rfl, D2.ex e3, by omega, by decide, by decide, fun way H4 b4 D4 w0 w1 => ?_⟩)))
  have b04 := (b02.go e3).trans b4
  have hod4 := b4 _ _ ods (e3 _ _ hod)
  refine q_asgL (xs := []) (el_lst ea_nil (by show 0 ≤ 100000; omega)) fun fq H5 n5 e5 h5 => ?_
  obtain ⟨nf, fs⟩ := b04.none D4.there n5
  have fod : fq ≠ od := fun z => by rw [z, hod4] at n5; cases n5
  refine q_forR2 (lo := 1) (n := (r.length : Int)) (ea_two ev_c (ev_is (ev_len (ev_var rfl) (sq_of (e5 _ _ hod4))) (by rw [List.length_map]))) (by omega) (fun i σ' H' => ∃ (ts : List (Addr × Tie)) (par : Nat → Nat) (y5 y6 : Option V), σ' = [some (.ref s'), some (.ref a), some (.ref od), some (.int way), some (.ref fq), y5, y6] ∧ But s' H H' ∧ Dr H' s' (b + 7 + i) ∧
      H' od = some (.lst (r.map V.int)) ∧ H' fq = some (.lst (ts.map fun t => V.ref t.1)) ∧ (∀ t ∈ ts, H' t.1 = some (.tup [.int t.2.1, .int t.2.2])) ∧ ts.map (·.2) = tiesOf r par i ∧ ∀ j, 0 < j → j ≤ i → par j < j)
    (fun H6 e6 => ⟨[], fun _ => 0, _, _, rfl, b04.go (e5.trans e6), (D4.ex (e5.trans e6)).mono (by omega), e6 _ _ (e5 _ _ hod4), e6 _ _ h5, (fun _ h => nomatch h), rfl, fun j h1 h2 => by omega⟩) ?_ ?_
  · rintro i σ' H' hi ⟨ts, par, y5, y6, rfl, bt, Dt, hod', hf, hts, map, hpar⟩
    have lts : ts.length = i := by
      have := congrArg List.length map
      unfold tiesOf at this
      rw [List.length_map, List.length_map, List.length_range] at this
      exact this
    have ki : (1 : Int) + (i : Int) = ((i + 1 : Nat) : Int) := by omega
    refine inSeq (inSet (inOp (go (ev_var rfl) fun H6 e6 => inOp (inLst (inCons (inCall (goA (ea_two (ev_var rfl) (ev_var rfl)) fun H7 e7 => ⟨s', _, _, rfl, Dt.ex (e6.trans e7), by omega, by omega, by omega, fun d H8 b8 D8 d0 d1 =>
      goA (ea_two (ev_op (ev_var rfl) ev_c rv_I0) ev_c) fun H9 e9 => ⟨by show 3 ≤ sizeLine; decide, fun lp nlp => go (ev_var rfl) fun H10 e10 => ?_⟩⟩)))))))
    obtain ⟨jn, hj, hjn⟩ : ∃ jn : Nat, jn < i + 1 ∧ atI [V.int d, .int (1 + (i : Int) - 1), .int 0] way = some (.int (jn : Nat)) := by
      have : way = 0 ∨ way = 1 ∨ way = 2 := by omega
      rcases this with rfl | rfl | rfl
      · refine ⟨d.toNat, by omega, ?_⟩
        show some (V.int d) = _
        rw [show ((d.toNat : Nat) : Int) = d by omega]
      · refine ⟨i, by omega, ?_⟩
        show some (V.int (1 + (i : Int) - 1)) = _
        rw [show (1 : Int) + (i : Int) - 1 = ((i : Nat) : Int) by omega]
      · exact ⟨0, by omega, rfl⟩
    have od8 := b8 _ _ ods (e7 _ _ (e6 _ _ hod'))
    have e8A : Ex H8 H10 := (e9.trans (Ex.new nlp)).trans e10
    have hf8 := b8 _ _ fs (e7 _ _ (e6 _ _ hf))
    have b0A := ((bt.go (e6.trans e7)).trans b8).go e8A
    refine ⟨lp, _, way, .int (jn : Nat), rfl, rfl, sq_of (e10 _ _ upd_same), hjn, od, r.map V.int, (jn : Nat), _, rfl, rfl, sq_of (e8A _ _ od8), atI_getD (by omega), ?_⟩
    have odA := e8A _ _ od8
    have ordk : ∀ H11, Ex H10 H11 → Ev (tOp (rIxL K) (tVar 2) (tVar 5)) [some (.ref s'), some (.ref a), some (.ref od), some (.int way), some (.ref fq), some (.int (1 + (i : Int))), some (.int (r.getD jn 0))] H11 (.int (r.getD (i + 1) 0)) := fun H11 e11 =>
      ev_ixL (i := 1 + (i : Int)) (ev_var rfl) (ev_var rfl) (sq_of (e11 _ _ odA)) (by rw [ki]; exact atI_getD (by omega))
    refine s_appU (xs := ts.map fun t => V.ref t.1) (e8A _ _ hf8) (ev_var rfl) (eu_tup (ea_two (ev_min2 (ordk _ (Ex.refl _)) (ev_var rfl)) (ev_maxI (ordk _ (Ex.refl _)) (ev_var rfl))) (by show 2 ≤ 100000; omega)) (by rw [List.length_map]; omega) fun t H11 n11 e11 h11 => ?_
    have nft : fq ≠ t := fun z => by rw [← z, e8A _ _ hf8] at n11; cases n11
    refine ⟨ts ++ [(t, tie (r.getD (i + 1) 0) (r.getD jn 0))], fun j => if j = i + 1 then jn else par j, some (.int (1 + (i : Int))), some (.int (r.getD jn 0)), rfl, (b0A.go e11).mut nf, ((D8.ex (e8A.trans e11)).other fs).mono (by omega), ?_, ?_, ?_, ?_, ?_⟩
    · rw [upd_ne (Ne.symm fod)]
      exact e11 _ _ odA
    · rw [upd_same, List.map_append]
      rfl
    · intro z hz
      rcases List.mem_append.mp hz with hz | hz
      · have h1 := hts z hz
        have zs : z.1 ≠ s' := fun k => by
          obtain ⟨n, m, kk, hd, _⟩ := Dt
          rw [k, hd] at h1
          cases h1
        have zf : z.1 ≠ fq := fun k => by rw [k, hf] at h1; cases h1
        rw [upd_ne zf]
        exact e11 _ _ (e8A _ _ (b8 _ _ zs (e7 _ _ (e6 _ _ h1))))
      · rw [List.mem_singleton.mp hz, upd_ne (Ne.symm nft)]
        exact h11
    · rw [List.map_append, map]
      unfold tiesOf
      rw [List.range_succ, List.map_append]
      refine congr (congrArg _ (List.map_congr_left fun j hj => ?_)) ?_
      · have := List.mem_range.mp hj
        show tie (r.getD (j + 1) 0) (r.getD (par (j + 1)) 0) = tie (r.getD (j + 1) 0) (r.getD (if j + 1 = i + 1 then jn else par (j + 1)) 0)
        rw [if_neg (by omega)]
      · show [tie (r.getD (i + 1) 0) (r.getD jn 0)] = [tie (r.getD (i + 1) 0) (r.getD (if i + 1 = i + 1 then jn else par (i + 1)) 0)]
        rw [if_pos rfl]
    · intro j h1 h2
      show (if j = i + 1 then jn else par j) < j
      split
      · omega
      · exact hpar j h1 (by omega)
  · rintro σ' H' ⟨ts, par, y5, y6, rfl, bt, Dt, hod', hf, hts, map, hpar⟩
    have em : ((r.length : Int) - 1).toNat = r.length - 1 := by omega
    rw [em] at map hpar
    refine inRet (inCB (inCons (go (ev_var rfl) fun H6 e6 => ?_)))
    let k : V → Int × Int := fun v => match v with
      | .ref t => (match H6 t with
        | some (.tup [.int i, .int j]) => (i, j)
        | _ => (0, 0))
      | _ => (0, 0)
    have hk : ∀ t ∈ ts, k (.ref t.1) = t.2 := fun t ht => by
      show (match H6 t.1 with
        | some (.tup [.int i, .int j]) => ((i, j) : Int × Int)
        | _ => (0, 0)) = t.2
      rw [e6 _ _ (hts t ht)]
    refine ⟨fq, ts.map fun t => V.ref t.1, k, rfl, sq_of (e6 _ _ hf), fun x hx => ?_, fun ys p srt stb np => ?_⟩
    · obtain ⟨t, ht, rfl⟩ := List.mem_map.mp hx
      refine ⟨t.1, rfl, ?_⟩
      rw [hk t ht]
      exact e6 _ _ (hts t ht)
    · let inv : V → Addr × Tie := fun v => match v with
        | .ref t => (t, k v)
        | _ => (fq, (0, 0))
      have hinv : (ts.map fun t => V.ref t.1).map inv = ts := by
        rw [List.map_map]
        refine (List.map_congr_left fun t ht => ?_).trans (List.map_id ts)
        show (t.1, k (.ref t.1)) = t
        rw [hk t ht]
      have pm3 : (ys.map inv).Perm ts := by
        have := stb.perm.map inv
        rwa [hinv] at this
      have back : (ys.map inv).map (fun t => V.ref t.1) = ys := by
        rw [List.map_map]
        refine (List.map_congr_left fun y hy => ?_).trans (List.map_id ys)
        obtain ⟨t, ht, rfl⟩ := List.mem_map.mp (stb.perm.mem_iff.mp hy)
        rfl
      refine q p (ys.map inv) _ (bt.none Dt.there (fresh_back e6 np)).1 ((bt.go e6).go (Ex.new np)) (((Dt.ex e6).ex (Ex.new np)).mono (by omega)) (by rw [upd_same, back]) (fun t ht => Ex.new np _ _ (e6 _ _ (hts t (pm3.mem_iff.mp ht)))) ?_
      refine tree_of (par := par) pm up ok (by omega) (by omega) (fun j h1 h2 => hpar j h1 (by omega)) ?_ ?_
      · rw [← map]
        exact pm3.map _
      · rw [List.map_map, List.pairwise_map]
        refine List.Pairwise.imp_of_mem (fun {x y} hx hy h => ?_) srt
        obtain ⟨t1, ht1, rfl⟩ := List.mem_map.mp (stb.perm.mem_iff.mp hx)
        obtain ⟨t2, ht2, rfl⟩ := List.mem_map.mp (stb.perm.mem_iff.mp hy)
        exact SrtO.lexB_no.mp h
end
end Ol
namespace Ol
open PySem PySem.Spec PyProof.Rows L2 Evl
section
variable {P : Program} {w : World} {K : PySem.W.Frag} {mg : Str → Option Value} {base : Heap}
def spLFall (K : PySem.W.Frag) : Sp := fun vs H Q _ => ∃ (s a c : Addr) (b : Int) (ns : List Int) (ts : List (Addr × Tie)), vs = [.ref s, .ref a, .ref c] ∧ Dr H s b ∧ b ≤ 800000 ∧ H a = some (.lst (ns.map V.int)) ∧ a ≠ s ∧ H c = some (.lst (ts.map fun t => V.ref t.1)) ∧ c ≠ s ∧
  (∀ t ∈ ts, H t.1 = some (.tup [.int t.2.1, .int t.2.2])) ∧ TreeW ns (ts.map (·.2)) ∧ ns.length ≤ 6 ∧ ∀ p (r : List Int) H', H p = none → But s H H' → Dr H' s (b + 6) → H' p = some (.lst (r.map V.int)) → r.Perm ns → Q (.ref p) H'
theorem c__law_falling (T : Tx w K mg) (C__law_draw : Callee P w K mg base "_law_draw" 2 ["_law_left_here", "_law_base"] spDraw) : Callee P w K mg base "_law_falling" 3 ["_law_left_here", "_law_names_here", "_law_tree_here"] (spLFall K) := by
  refine callee_of T.F__law_falling T.g__law_falling sc__law_falling (fun _ _ _ _ _ _ us hl => match us, hl with | [_, _, _], _ => rfl) (fun vs H Q E h => ?_) fun cdv A outer s H vs Q E hr h => ?_
  · obtain ⟨s', a, c, b, ns, ts, rfl, D, bb, ha, has, hc, hcs, hts, W, few, q⟩ := h
    rfl
  obtain ⟨s', a, c, b, ns, ts, rfl, D, bb, ha, has, hc, hcs, hts, W, few, q⟩ := h
  refine ⟨_, (pss_cons (ps_set (i := 3) sc__law_falling.nd rfl (Or.inl rfl) (pe_lst (pa_cons (pe_ix (ixL K) (pv 1) (pe_callC C__law_draw hr (by decide) (by rfl) (pa_cons (pv 0) (pa_cons (pe_callB (lenS K) (by rfl) T.b_len (by decide +kernel) (pa_cons (pv 1) pa_nil)) pa_nil))) (fun _ _ => rfl)) pa_nil)))
      (pss_cons (ps_while PassesOwn.never (pt_cmpR op_lt (pe_callB (lenS K) (by rfl) T.b_len (by decide +kernel) (pa_cons (pv 3) pa_nil)) (pe_callB (lenS K) (by rfl) T.b_len (by decide +kernel) (pa_cons (pv 1) pa_nil)) (nomark _)) (pss_cons (ps_set (i := 4) sc__law_falling.nd rfl (Or.inl rfl) (pe_lst pa_nil))
      (pss_cons (ps_for PassesOwn.never rfl (piL K (pv 2)) (tupG K (n := 2) (pgs_cons (pg_name (i := 5) sc__law_falling.nd rfl (Or.inl rfl)) (pgs_cons (pg_name (i := 6) sc__law_falling.nd rfl (Or.inl rfl)) pgs_nil))) (pss_one (ps_if (pt_cmpR op_ne (pe_cmpR (inS K) (pv 5) (pv 3) (by rfl)) (pe_cmpR (inS K) (pv 6) (pv 3) (by rfl)) (nomark _)) (pss_one (ps_expr (bmK K PySem.F.plainAttrs_list PySem.F.slot_list_append PySem.F.type_list_append mt_append (pv 4) (pa_cons (pe_ix (ixL K) (pe_lst (pa_cons (pv 5) (pa_cons (pv 6) pa_nil))) (pe_callTy call_int1 (by rfl) T.b_int (by decide +kernel) (pa_cons (pe_cmpR (inS K) (pv 5) (pv 3) (by rfl)) pa_nil)) (fun _ _ => rfl)) pa_nil)))) pss_nil)))
      (pss_one (ps_expr (bmK K PySem.F.plainAttrs_list PySem.F.slot_list_append PySem.F.type_list_append mt_append (pv 3) (pa_cons (pe_ix (ixL K) (pv 4) (pe_callC C__law_draw hr (by decide) (by rfl) (pa_cons (pv 0) (pa_cons (pe_callB (lenS K) (by rfl) T.b_len (by decide +kernel) (pa_cons (pv 4) pa_nil)) pa_nil))) (fun _ _ => rfl)) pa_nil)))))))
      (pss_one (ps_ret (pv 3))))), ?_⟩
  have some_ := W.some
  obtain ⟨o, par, ok⟩ := W.ok
  have tss : ∀ t ∈ ts, t.1 ≠ s' := fun t ht z => by
    obtain ⟨n, m, kk, hd, _⟩ := D
    have := hts t ht
    rw [z, hd] at this
    cases this
  have tl : ts.length ≤ 6 := by
    have := W.len
    rw [List.length_map] at this
    omega
  refine inSeq (inSet (inLst (inCons (inOp (go (ev_var rfl) fun H1 e1 => inCall (goA (ea_two (ev_var rfl) (ev_len (ev_var rfl) (sq_of (e1 _ _ ha)))) fun H2 e2 => ⟨s', b, _, rfl, D.ex (e1.trans e2), by omega, by rw [List.length_map]; omega, by rw [List.length_map]; omega, fun d H3 b3 D3 d0 d1 => ?_⟩))))))
  rw [List.length_map] at d1
  obtain ⟨x, mx, hx⟩ := atI_in d0 d1
  have b03 := (But.ex (e1.trans e2)).trans b3
  refine ⟨a, _, d, .int x, rfl, rfl, sq_of (b03 _ _ has ha), hx, by show 1 ≤ sizeLine; decide, fun fq nf3 => ?_⟩
  obtain ⟨nf, fs⟩ := b03.none D3.there nf3
  have h4 : (upd H3 fq (.lst [V.int x])) fq = some (.lst ([x].map V.int)) := upd_same
  have b04 : But s' H (upd H3 fq (.lst [V.int x])) := b03.go (Ex.new nf3)
  have D4 : Dr (upd H3 fq (.lst [V.int x])) s' (b + 1) := D3.other fs
  generalize upd H3 fq (.lst [V.int x]) = H4 at h4 b04 D4
  refine q_while (fun m σ' H' => ∃ (f : List Int) (y4 y5 y6 : Option V), σ' = [some (.ref s'), some (.ref a), some (.ref c), some (.ref fq), y4, y5, y6] ∧ But s' H H' ∧ Dr H' s' (b + f.length) ∧ H' fq = some (.lst (f.map V.int)) ∧ f.Nodup ∧ (∀ z ∈ f, z ∈ ns) ∧ f ≠ [] ∧ f.length ≤ ns.length ∧ m = ns.length - f.length) (ns.length - 1)
    ⟨[x], _, _, _, rfl, b04, D4, h4, List.nodup_cons.mpr ⟨List.not_mem_nil, List.nodup_nil⟩, fun z hz => by rw [List.mem_singleton.mp hz]; exact mx, List.cons_ne_nil _ _, by show 1 ≤ ns.length; omega, rfl⟩ ?_
  rintro m σ' H' ⟨f, y4, y5, y6, rfl, bt, Dt, hf, nd, sub, ne, fl, rfl⟩
  refine ⟨decide ((f.length : Int) < (ns.length : Int)), et_test (ev_is (ev_op (ev_len (ev_var rfl) (sq_of hf)) (ev_len (ev_var rfl) (sq_of (bt _ _ has ha))) rv_I0) (by rw [List.length_map, List.length_map])), fun hb H5 e5 => ?_, fun hb H5 e5 => ?_⟩
  · have hb := of_decide_eq_true hb
    refine ⟨fun σ2 H2 => ∃ (f2 : List Int) (y4 y5 y6 : Option V), σ2 = [some (.ref s'), some (.ref a), some (.ref c), some (.ref fq), y4, y5, y6] ∧ But s' H H2 ∧ Dr H2 s' (b + f2.length) ∧ H2 fq = some (.lst (f2.map V.int)) ∧ f2.Nodup ∧ (∀ z ∈ f2, z ∈ ns) ∧ f2 ≠ [] ∧ f2.length ≤ ns.length ∧ f2.length = f.length + 1,
      fun σ2 H2 ⟨f2, y4, y5, y6, h1, h2, h3, h5, h6, h7, h8, h9, h10⟩ => ⟨ns.length - f2.length, by omega, f2, y4, y5, y6, h1, h2, h3, h5, h6, h7, h8, h9, rfl⟩, ?_⟩
    have hf5 := e5 _ _ hf
    refine q_asgL (xs := []) (el_lst ea_nil (by show 0 ≤ 100000; omega)) fun nq H6 n6 e6 h6 => ?_
    have b06 := (bt.go e5).go e6
    have D6 := (Dt.ex e5).ex e6
    obtain ⟨nn, nns⟩ := (bt.go e5).none (Dt.ex e5).there n6
    have nqf : nq ≠ fq := fun z => by rw [z, hf5] at n6; cases n6
    refine inSeq (fo_W ts (fun t => V.ref t.1) (ev_var rfl) (sq_of (b06 _ _ hcs hc)) (fun pre σ' H' => ∃ (near : List Int) (y5 y6 : Option V), σ' = [some (.ref s'), some (.ref a), some (.ref c), some (.ref fq), some (.ref nq), y5, y6] ∧ But s' H H' ∧ Dr H' s' (b + f.length) ∧ H' fq = some (.lst (f.map V.int)) ∧
        H' nq = some (.lst (near.map V.int)) ∧ (∀ z ∈ near, z ∈ ns ∧ z ∉ f) ∧ ((∃ t ∈ pre.map (·.2), ¬ (t.1 ∈ f ↔ t.2 ∈ f)) → near ≠ []) ∧ near.length ≤ pre.length)
      (fun pre σ' H' ⟨_, _, _, _, bt, _⟩ => sq_of (bt _ _ hcs hc)) (fun H7 e7 => ⟨[], _, _, rfl, b06.go e7, D6.ex e7, e7 _ _ (e6 _ _ hf5), e7 _ _ h6, (fun _ h => nomatch h), (fun ⟨_, h, _⟩ => nomatch h), Nat.le_refl _⟩) ?_ ?_)
    · rintro pre z post σ' H' eq ⟨near, y5, y6, rfl, bt, Dt, hf, hn, bd, some2, ln⟩
      have mz : z ∈ ts := by rw [eq]; exact List.mem_append_right _ List.mem_cons_self
      have hl : pre.length < ts.length := by rw [eq, List.length_append, List.length_cons]; omega
      obtain ⟨lt, m1, m2⟩ := W.lt z.2 (List.mem_map.mpr ⟨z, mz, rfl⟩)
      refine g_pair (st_of (bt _ _ (tss z mz) (hts z mz))) ?_
      refine s_when (b := !decide (decide (z.2.1 ∈ f) = decide (z.2.2 ∈ f))) (et_test (ev_is (ev_op (ev_inI (ev_var rfl) (ev_var rfl) (sq_of hf)) (ev_inI (ev_var rfl) (ev_var rfl) (sq_of hf)) (rv_ne rfl)) (by
        by_cases c1 : z.2.1 ∈ f <;> by_cases c2 : z.2.2 ∈ f <;> simp [c1, c2]))) (fun hb H8 e8 => ?_) fun hb H8 e8 => ?_
      · have hne : ¬ (z.2.1 ∈ f ↔ z.2.2 ∈ f) := by
          intro k
          simp only [Bool.not_eq_true', decide_eq_false_iff_not, decide_eq_decide] at hb
          exact hb k
        obtain ⟨y, my, nfy, hat⟩ : ∃ y, y ∈ ns ∧ y ∉ f ∧ atI [V.int z.2.1, .int z.2.2] (if decide (z.2.1 ∈ f) = true then 1 else 0) = some (.int y) := by
          by_cases c1 : z.2.1 ∈ f
          · refine ⟨z.2.2, m2, fun h => hne ⟨fun _ => h, fun _ => c1⟩, ?_⟩
            rw [if_pos (decide_eq_true c1)]
            rfl
          · refine ⟨z.2.1, m1, c1, ?_⟩
            rw [if_neg (by simpa using c1)]
            rfl
        refine s_app (e8 _ _ hn) (ev_var rfl) (ev_ixLN (el_lst (ea_two (ev_var rfl) (ev_var rfl)) (by show 2 ≤ 100000; omega)) (fun H9 e9 => ev_intB (ev_inI (ev_var rfl) (ev_var rfl) (sq_of (e9 _ _ (e8 _ _ hf))))) hat) (by rw [List.length_map]; omega) fun H9 e9 => ?_
        refine ⟨near ++ [y], _, _, rfl, ((bt.go e8).go e9).mut nn, ((Dt.ex e8).ex e9).other nns, ?_, ?_, fun u hu => ?_, fun _ => by simp, by rw [List.length_append, List.length_append]; show near.length + 1 ≤ pre.length + 1; omega⟩
        · rw [upd_ne (Ne.symm nqf)]
          exact e9 _ _ (e8 _ _ hf)
        · rw [upd_same, List.map_append]
          rfl
        · rcases List.mem_append.mp hu with hu | hu
          · exact bd u hu
          · rw [List.mem_singleton.mp hu]
            exact ⟨my, nfy⟩
      · have heq : (z.2.1 ∈ f ↔ z.2.2 ∈ f) := by
          simp only [Bool.not_eq_false', decide_eq_true_eq, decide_eq_decide] at hb
          exact hb
        refine ⟨near, _, _, rfl, bt.go e8, Dt.ex e8, e8 _ _ hf, e8 _ _ hn, bd, fun ⟨t, ht, hh⟩ => ?_, by rw [List.length_append]; omega⟩
        rw [List.map_append] at ht
        rcases List.mem_append.mp ht with ht | ht
        · exact some2 ⟨t, ht, hh⟩
        · rw [List.mem_singleton.mp ht] at hh
          exact absurd heq hh
    · rintro σ' H' ⟨near, y5, y6, rfl, bt, Dt, hf, hn, bd, some2, ln⟩
      have hne : near ≠ [] := some2 (ok.out sub ne (by omega))
      have hl : 0 < near.length := List.length_pos_iff.mpr hne
      dsimp only
      refine inDrop (inBM (go (ev_var rfl) fun H8 e8 => ⟨.inl ⟨rfl, _, sq_of (e8 _ _ hf)⟩, inCons (inOp (go (ev_var rfl) fun H9 e9 => inCall (goA (ea_two (ev_var rfl) (ev_len (ev_var rfl) (sq_of (e9 _ _ (e8 _ _ hn))))) fun HA eA => ⟨s', _, _, rfl, ((Dt.ex e8).ex e9).ex eA, by omega, by rw [List.length_map]; omega, by rw [List.length_map]; omega, fun d HB bB DB d0 d1 => ?_⟩)))⟩))
      rw [List.length_map] at d1
      obtain ⟨y, my, hy⟩ := atI_in d0 d1
      have hnB := bB _ _ nns (eA _ _ (e9 _ _ (e8 _ _ hn)))
      have hfB := bB _ _ fs (eA _ _ (e9 _ _ (e8 _ _ hf)))
      obtain ⟨y1, y2⟩ := bd y my
      refine ⟨nq, _, d, .int y, rfl, rfl, sq_of hnB, hy, goA ea_nil fun HC eC => ⟨fq, f.map V.int, .int y, rfl, rfl, eC _ _ hfB, by rw [List.length_map]; exact sz_lt (by omega), f ++ [y], _, _, _, rfl, ((((bt.go (e8.trans e9)).go eA).trans bB).go eC).mut nf, ((DB.ex eC).other fs).mono (by rw [List.length_append]; show b + (f.length : Int) + 1 ≤ b + ((f.length + 1 : Nat) : Int); omega), ?_, ?_, ?_, by simp, ?_, by rw [List.length_append]; rfl⟩⟩
      · rw [upd_same, List.map_append]
        rfl
      · refine List.nodup_append.mpr ⟨nd, List.nodup_cons.mpr ⟨List.not_mem_nil, List.nodup_nil⟩, fun u hu v hv e => ?_⟩
        rw [e, List.mem_singleton.mp hv] at hu
        exact y2 hu
      · intro u hu
        rcases List.mem_append.mp hu with hu | hu
        · exact sub u hu
        · rw [List.mem_singleton.mp hu]
          exact y1
      · rw [List.length_append]
        show f.length + 1 ≤ ns.length
        omega
  · have hb := of_decide_eq_false hb
    refine s_ret (ev_var rfl) fun H6 e6 => q fq f H6 nf (bt.go (e5.trans e6)) ((Dt.ex (e5.trans e6)).mono (by omega)) (e6 _ _ (e5 _ _ hf)) ?_
    have ndn := up_nd W.up
    exact (List.perm_ext_iff_of_nodup nd ndn).mpr fun z => ⟨sub z, sub_of_len nd sub (by omega) ndn z⟩
end
end Ol
/-! Comprehensions whose parts change what stands elsewhere. -/
namespace Ol
open PySem PySem.Spec PyProof.Rows L2 Evl
section
variable {K : PySem.W.Frag} {σ : L2.St} {H H' : Hp} {ta tb te tl : TE} {t u : TT} {x y z v : V} {a : Addr} {D : Ends} {tz tu : TS} {g : TG}
/-- over a range -/
theorem lc_R {m j : Nat} {vs : List Nat} (Pv : Addr → Nat → List V → Hp → Prop) (hm : m ≤ 1000) (hw : ∀ x, wipe ((wipe σ vs).set j (some x)) vs = wipe σ vs) (h0 : ∀ D, H D = none → Pv D 0 [] (upd H D (.lst [])))
    (hs : ∀ D i acc H', H D = none → i < m → Pv D i acc H' → H' D = some (.lst acc) → ∀ Q : VK, (∀ y H4, H4 D = some (.lst acc) → Pv D (i + 1) (acc ++ [y]) (upd H4 D (.lst (acc ++ [y]))) → Q y H4) → te ((wipe σ vs).set j (some (.int (i : Int)))) H' Q) {Q : VK}
    (hd : ∀ D acc H', H D = none → Pv D m acc H' → H' D = some (.lst acc) → acc.length = m → Q (.ref D) H') : tLc (iRng1 (tCons (tC (.int (m : Int))) tNil)) (gName j) tYes te vs σ H Q := ⟨(m : Int), rfl, by omega, by omega, fun Dl hD =>
  lc_range (lo := 0) (n := (m : Int).toNat) (fun i H' => ∃ acc, Pv Dl i acc H' ∧ H' Dl = some (.lst acc) ∧ acc.length = i) ⟨[], h0 Dl hD, upd_same, rfl⟩
    (fun i H' hi p => by
      obtain ⟨acc, p1, p2, p3⟩ := p
      have e0 : (0 : Int) + (i : Int) = (i : Int) := by omega
      rw [e0]
      refine ⟨hw _, iteT (B := ∃ acc, Pv Dl (i + 1) acc H' ∧ H' Dl = some (.lst acc) ∧ acc.length = i + 1) (hs Dl i acc H' hD (by omega) p1 p2 _ fun y H4 h4 p4 => ⟨acc, h4, sz_lt (by omega), _, p4, upd_same, by rw [List.length_append, p3]; rfl⟩)⟩)
    fun H' ⟨acc, p1, p2, p3⟩ => hd Dl acc H' hD (by rwa [Int.toNat_natCast] at p1) p2 (by rwa [Int.toNat_natCast] at p3)⟩
/-- over a list that the word keeps -/
theorem lc_LW {α : Type} {l : List α} {φ : α → V} {j : Nat} {vs : List Nat} (Pv : Addr → List α → List V → Hp → Prop) (hx : SqL K H a (l.map φ)) (hz : l.length ≤ 40000) (hw : ∀ x, wipe ((wipe σ vs).set j (some x)) vs = wipe σ vs) (hk : ∀ D pre acc H', Pv D pre acc H' → SqL K H' a (l.map φ))
    (h0 : ∀ D, H D = none → Pv D [] [] (upd H D (.lst [])))
    (hs : ∀ D pre z post acc H', H D = none → l = pre ++ z :: post → Pv D pre acc H' → H' D = some (.lst acc) → ∀ Q : Bool → Hp → Prop, (∀ H3, H3 D = some (.lst acc) → Pv D (pre ++ [z]) acc H3 → Q false H3) →
      (∀ H3, (∀ Q : VK, (∀ y H4, H4 D = some (.lst acc) → Pv D (pre ++ [z]) (acc ++ [y]) (upd H4 D (.lst (acc ++ [y]))) → Q y H4) → te ((wipe σ vs).set j (some (φ z))) H3 Q) → Q true H3) → t ((wipe σ vs).set j (some (φ z))) H' Q) {Q : VK}
    (hd : ∀ D acc H', H D = none → Pv D l acc H' → H' D = some (.lst acc) → acc.length ≤ l.length → Q (.ref D) H') : tLc (iList K (tC (.ref a))) (gName j) t te vs σ H Q := ⟨a, rfl, ⟨_, hx⟩, fun Dl hD =>
  lc_list (xs := l.map φ) (fun i H' => ∃ acc, Pv Dl (l.take i) acc H' ∧ H' Dl = some (.lst acc) ∧ acc.length ≤ i) ⟨[], by rw [List.take_zero]; exact h0 Dl hD, upd_same, Nat.le_refl _⟩ (fun i H' _ ⟨acc, p, _⟩ => hk _ _ _ _ p)
    (fun i x H' hi p => by
      obtain ⟨acc, p1, p2, p3⟩ := p
      rw [List.getElem?_map] at hi
      cases hz2 : l[i]? with
      | none => rw [hz2] at hi; cases hi
      | some z =>
        rw [hz2] at hi
        cases hi
        obtain ⟨hlt, e1⟩ := List.getElem?_eq_some_iff.mp hz2
        have split : l = l.take i ++ z :: l.drop (i + 1) := by
          rw [← e1, ← List.drop_eq_getElem_cons hlt, List.take_append_drop]
        refine ⟨hw _, ?_⟩
        rw [take_succ_of hz2]
        exact hs Dl (l.take i) z _ acc H' hD split p1 p2 _ (fun H3 h3 p4 => iteF ⟨acc, p4, h3, by omega⟩) fun H3 hh => iteT (hh _ fun y H4 h4 p4 => ⟨acc, h4, sz_lt (by omega), _, p4, upd_same, by rw [List.length_append, List.length_singleton]; omega⟩))
    fun H' ⟨acc, p1, p2, p3⟩ => hd Dl acc H' hD (by rwa [List.length_map, List.take_length] at p1) p2 (by rwa [List.length_map] at p3)⟩
theorem inLcR {vs : List Nat} {Q : VK} (h : ta σ H fun x H1 => tLc (iRng1 (tCons (tC x) tNil)) g t te vs σ H1 Q) : tLc (iRng1 (tCons ta tNil)) g t te vs σ H Q := h
theorem inForR {D : Ends} (h : ta σ H fun x H1 => tFor (iRng1 (tCons (tC x) tNil)) g tu D σ H1) : tFor (iRng1 (tCons ta tNil)) g tu D σ H := h
/-- digits drawn, as many as told -/
theorem lc_draws {s : Addr} {b bs : Int} {m j i0 : Nat} {vs : List Nat} (D : Dr H s b) (hb : b + m ≤ 900000) (hm : m ≤ 100) (b0 : 0 < bs) (b1 : bs ≤ 1000000000) (hw : ∀ x, wipe ((wipe σ vs).set j (some x)) vs = wipe σ vs) (hv : ∀ x, ((wipe σ vs).set j (some x))[i0]? = some (some (.ref s))) {Q : VK}
    (q : ∀ p (xs : List Int) H', H p = none → But s H H' → Dr H' s (b + m) → H' p = some (.lst (xs.map V.int)) → xs.length = m → (∀ x ∈ xs, 0 ≤ x ∧ x < bs) → Q (.ref p) H') :
    tLc (iRng1 (tCons (tC (.int (m : Int))) tNil)) (gName j) tYes (tCall spDraw [] E0 (tCons (tVar i0) (tCons (tC (.int bs)) tNil))) vs σ H Q :=
  lc_R (fun D i acc H' => But s H H' ∧ Dr H' s (b + i) ∧ ∃ xs : List Int, acc = xs.map V.int ∧ ∀ x ∈ xs, 0 ≤ x ∧ x < bs) (by omega) hw
    (fun Dl hD => ⟨But.ex (Ex.new hD), (D.ex (Ex.new hD)).mono (by omega), [], rfl, fun _ h => nomatch h⟩)
    (fun Dl i acc H' hD hi p h1 Q k => by
      obtain ⟨bt, Dt, xs, rfl, hx⟩ := p
      have hne : Dl ≠ s := fun z => D.there (z ▸ hD)
      refine inCall (goA (ea_two (ev_var (hv _)) ev_c) fun H2 e2 => ⟨s, b + i, bs, rfl, Dt.ex e2, by omega, b0, b1, fun d H3 b3 D3 d0 d1 => k _ _ (b3 _ _ hne (e2 _ _ h1)) ⟨((bt.go e2).trans b3).mut hD, (D3.other hne).mono (by omega), xs ++ [d], by rw [List.map_append]; rfl, fun x hx2 => ?_⟩⟩)
      rcases List.mem_append.mp hx2 with hx2 | hx2
      · exact hx x hx2
      · rw [List.mem_singleton.mp hx2]
        exact ⟨d0, d1⟩)
    (fun Dl acc H' hD p h1 hl => by
      obtain ⟨bt, Dt, xs, rfl, hx⟩ := p
      rw [List.length_map] at hl
      exact q Dl xs H' hD bt Dt h1 hl hx)
end
end Ol
namespace Ol
open PySem PySem.Spec PyProof.Rows L2 Evl
/-! ### the law's things -/
structure ThW (names : List Int) (ties : List Tie) (rs : List (List Int)) (gone : List Int) : Prop where
  tree : TreeW names ties
  ok : ∀ n ∈ names, NumOk n
  two : 2 ≤ names.length
  six : names.length ≤ 6
  perm : ∀ r ∈ rs, r.Perm names
  least : 0 < rs.length
  most : rs.length ≤ 6
  gone : gone.Sublist (names.drop 2)
def dPaper (a b c d e f g h : Int) : PyData := .list [.str "cross", dI [a, b, c, d], dL [[e, f], [g, h]]]
def dTh (names : List Int) (ties : List Tie) (rs : List (List Int)) (gone : List Int) (p : PyData) : PyData := .list [dI names, dT ties, dL rs, dI gone, p]
def ThD (x : PyData) : Prop := ∃ names ties rs gone a b c d e f g h, x = dTh names ties rs gone (dPaper a b c d e f g h) ∧ ThW names ties rs gone ∧ ∀ n ∈ [a, b, c, d, e, f, g, h], NumOk n
theorem own_ties {H : Hp} : ∀ ts : List (Addr × Tie), (∀ t ∈ ts, H t.1 = some (.tup [.int t.2.1, .int t.2.2])) → OwnAll H (ts.map fun t => V.ref t.1) (ts.map fun t => .tuple [.int t.2.1, .int t.2.2]) []
  | [], _ => .nil
  | t :: ts, h => .cons (S := []) (.tup (h t List.mem_cons_self) (.cons (S := []) (.int _) (.cons (S := []) (.int _) .nil))) (own_ties ts fun q hq => h q (List.mem_cons_of_mem _ hq))
theorem own_T {H : Hp} {a : Addr} {ts : List (Addr × Tie)} (h : H a = some (.lst (ts.map fun t => V.ref t.1))) (ht : ∀ t ∈ ts, H t.1 = some (.tup [.int t.2.1, .int t.2.2])) : Own H (.ref a) (dT (ts.map (·.2))) [a] := by
  unfold dT
  rw [List.map_map]
  exact .lst h (own_ties ts ht)
/-- what was made stands -/
structure Bs (H H' : Hp) (s a c : Addr) (ns : List Int) (ts : List (Addr × Tie)) : Prop where
  bt : But s H H'
  hs : H s ≠ none
  na : H a = none
  nc : H c = none
  ac : a ≠ c
  ha : H' a = some (.lst (ns.map V.int))
  hc : H' c = some (.lst (ts.map fun t => V.ref t.1))
  hts : ∀ t ∈ ts, t.1 ≠ s ∧ H' t.1 = some (.tup [.int t.2.1, .int t.2.2])
theorem Bs.ne {H H' : Hp} {s a c x : Addr} {ns : List Int} {ts : List (Addr × Tie)} (B : Bs H H' s a c ns ts) (h : H x = none) : x ≠ s := fun z => B.hs (z ▸ h)
theorem Bs.but {H H1 H2 : Hp} {s a c : Addr} {ns : List Int} {ts : List (Addr × Tie)} (B : Bs H H1 s a c ns ts) (b : But s H1 H2) : Bs H H2 s a c ns ts :=
  ⟨B.bt.trans b, B.hs, B.na, B.nc, B.ac, b _ _ (B.ne B.na) B.ha, b _ _ (B.ne B.nc) B.hc, fun t ht => ⟨(B.hts t ht).1, b _ _ (B.hts t ht).1 (B.hts t ht).2⟩⟩
theorem Bs.ex {H H1 H2 : Hp} {s a c : Addr} {ns : List Int} {ts : List (Addr × Tie)} (B : Bs H H1 s a c ns ts) (e : Ex H1 H2) : Bs H H2 s a c ns ts := B.but (But.ex e)
theorem Bs.put {H H1 : Hp} {s a c q : Addr} {ns : List Int} {ts : List (Addr × Tie)} {xs : List V} {o : HO} (B : Bs H H1 s a c ns ts) (nq : H q = none) (hq : H1 q = some (.lst xs)) (qa : q ≠ a) (qc : q ≠ c) : Bs H (upd H1 q o) s a c ns ts :=
  ⟨B.bt.mut nq, B.hs, B.na, B.nc, B.ac, by rw [upd_ne (Ne.symm qa)]; exact B.ha, by rw [upd_ne (Ne.symm qc)]; exact B.hc, fun t ht => ⟨(B.hts t ht).1, by
    have h := (B.hts t ht).2
    rw [upd_ne (fun z => by rw [z, hq] at h; cases h)]
    exact h⟩⟩
theorem ty_list {K : PySem.W.Frag} {H : Hp} {p : Addr} {xs : List V} (h : SqL K H p xs) : tyV K "list" (.ref p) H := .inl ⟨rfl, xs, h⟩
section
variable {P : Program} {w : World} {K : PySem.W.Frag} {mg : Str → Option Value} {base : Heap}
def spThings : Sp := fun vs H Q _ => ∃ (s : Addr) (b : Int), vs = [.ref s] ∧ Dr H s b ∧ b ≤ 500000 ∧ ∀ a d S H', But s H H' → Dr H' s (b + 300) → Own H' (.ref a) d S → (∀ x ∈ S, H x = none) → ThD d → Q (.ref a) H'
theorem c__law_things (T : Tx w K mg) (C__law_names : Callee P w K mg base "_law_names" 3 ["_law_left_here", "_law_many"] spLNames) (C__law_draw : Callee P w K mg base "_law_draw" 2 ["_law_left_here", "_law_base"] spDraw) (C__law_tree : Callee P w K mg base "_law_tree" 4 ["_law_left_here", "_law_names_here"] spLTree) (C__law_falling : Callee P w K mg base "_law_falling" 3 ["_law_left_here", "_law_names_here", "_law_tree_here"] (spLFall K)) (C__law_shuffled : Callee P w K mg base "_law_shuffled" 3 ["_law_left_here", "_law_things_here"] spShuf) : Callee P w K mg base "_law_things" 5 ["_law_left_here"] spThings := by
  refine callee_of T.F__law_things T.g__law_things sc__law_things (fun _ _ _ _ _ _ us hl => match us, hl with | [_], _ => rfl) (fun vs H Q E h => ?_) fun cdv A outer s H vs Q E hr h => ?_
  · obtain ⟨s', b, rfl, D, bb, q⟩ := h
    rfl
  obtain ⟨s', b, rfl, D, bb, q⟩ := h
  refine ⟨_, (pss_cons (ps_set (i := 1) sc__law_things.nd rfl (Or.inl rfl) (pe_callC C__law_names hr (by decide) (by rfl) (pa_cons (pv 0) (pa_cons (pe_op op_add pe_int (pe_callC C__law_draw hr (by decide) (by rfl) (pa_cons (pv 0) (pa_cons pe_int pa_nil)))) pa_nil))))
      (pss_cons (ps_set (i := 2) sc__law_things.nd rfl (Or.inl rfl) (pe_callC C__law_tree hr (by decide) (by rfl) (pa_cons (pv 0) (pa_cons (pv 1) pa_nil))))
      (pss_cons (ps_set (i := 3) sc__law_things.nd rfl (Or.inl rfl) (pe_lst pa_nil))
      (pss_cons (ps_for PassesOwn.never rfl (pi_range1 (by rfl) T.b_range (pa_cons (pe_op op_add pe_int (pe_callC C__law_draw hr (by decide) (by rfl) (pa_cons (pv 0) (pa_cons pe_int pa_nil)))) pa_nil)) (pg_name (i := 4) sc__law_things.nd rfl (Or.inl rfl)) (pss_cons (ps_set (i := 5) sc__law_things.nd rfl (Or.inl rfl) (pe_callC C__law_falling hr (by decide) (by rfl) (pa_cons (pv 0) (pa_cons (pv 1) (pa_cons (pv 2) pa_nil)))))
      (pss_one (ps_expr (bmK K PySem.F.plainAttrs_list PySem.F.slot_list_append PySem.F.type_list_append mt_append (pv 3) (pa_cons (pe_ix (ixL K) (pe_lst (pa_cons (pv 5) (pa_cons (pe_callC C__law_shuffled hr (by decide) (by rfl) (pa_cons (pv 0) (pa_cons (pv 1) pa_nil))) pa_nil))) (pe_callTy call_int1 (by rfl) T.b_int (by decide +kernel) (pa_cons (pe_cmpR op_eq (pe_callC C__law_draw hr (by decide) (by rfl) (pa_cons (pv 0) (pa_cons pe_int pa_nil))) pe_int (nomark _)) pa_nil)) (fun _ _ => rfl)) pa_nil))))))
      (pss_cons (ps_setLc (i := 6) (own := [("_law_name", 9)]) rfl sc__law_things.nd rfl rfl (sw_true rfl rfl rfl (by decide +kernel)) (piL K (pe_slice (slL K) (pv 1) (po_some pe_int) po_none)) (blkOk_by (by kernel_rfl)) (fun _ _ _ _ _ => (pg_name (i := 9) sc__law_things.nd rfl (Or.inl rfl))) (fun _ _ _ _ _ => (pts_one (pt_cmpR op_eq (pe_callC C__law_draw hr (by decide) (by rfl) (pa_cons (pv 0) (pa_cons pe_int pa_nil))) pe_int (nomark _)))) (fun _ _ _ _ _ => (pv 9)))
      (pss_cons (ps_setLc (i := 7) (own := [("_law_k", 10)]) rfl sc__law_things.nd rfl rfl (sw_true rfl rfl rfl (by decide +kernel)) (pi_range1 (by rfl) T.b_range (pa_cons pe_int pa_nil)) (blkOk_by (by kernel_rfl)) (fun _ _ _ _ _ => (pg_name (i := 10) sc__law_things.nd rfl (Or.inl rfl))) (fun _ _ _ _ _ => pts_nil) (fun _ _ _ _ _ => (pe_lc (own := [("_law_j", 11)]) rfl sc__law_things.nd (pi_range1 (by rfl) T.b_range (pa_cons pe_int pa_nil)) (blkOk_by (by kernel_rfl)) (fun _ _ _ _ _ => (pg_name (i := 11) sc__law_things.nd rfl (Or.inl rfl))) (fun _ _ _ _ _ => pts_nil) (fun _ _ _ _ _ => (pe_callC C__law_draw hr (by decide) (by rfl) (pa_cons (pv 0) (pa_cons pe_int pa_nil)))))))
      (pss_cons (ps_set (i := 8) sc__law_things.nd rfl (Or.inl rfl) (pe_lst (pa_cons pe_str (pa_cons (pe_lc (own := [("_law_k", 10)]) rfl sc__law_things.nd (pi_range1 (by rfl) T.b_range (pa_cons pe_int pa_nil)) (blkOk_by (by kernel_rfl)) (fun _ _ _ _ _ => (pg_name (i := 10) sc__law_things.nd rfl (Or.inl rfl))) (fun _ _ _ _ _ => pts_nil) (fun _ _ _ _ _ => (pe_callC C__law_draw hr (by decide) (by rfl) (pa_cons (pv 0) (pa_cons pe_int pa_nil))))) (pa_cons (pv 7) pa_nil)))))
      (pss_one (ps_ret (pe_lst (pa_cons (pv 1) (pa_cons (pv 2) (pa_cons (pv 3) (pa_cons (pv 6) (pa_cons (pv 8) pa_nil))))))))))))))), ?_⟩
  -- names
  refine inSeq (inSet (inCall (inCons (go (ev_var rfl) fun H1 e1 => inCons (inOp (go ev_c fun H2 e2 => inCall (goA (ea_two (ev_var rfl) ev_c) fun H3 e3 => ⟨s', b, 5, rfl, D.ex ((e1.trans e2).trans e3), by omega, by decide, by decide, fun d H4 b4 D4 d0 d1 => ⟨_, _, rfl, rfl, ?_⟩⟩)))))))
  have b04 := (But.ex ((e1.trans e2).trans e3)).trans b4
  refine ⟨s', b + 1, 2 + d, rfl, D4, by omega, by omega, by omega, fun a ns H5 na4 b5 D5 ha up len okn => ?_⟩
  obtain ⟨na, as⟩ := b04.none D4.there na4
  have b05 := b04.trans b5
  -- the tree
  refine inSeq (inSet (inCall (goA (ea_two (ev_var rfl) (ev_var rfl)) fun H6 e6 => ⟨s', a, b + 8, ns, rfl, (D5.ex e6).mono (by omega), by omega, e6 _ _ ha, as, up, okn, by omega, by omega, fun c ts H7 nc6 b7 D7 hc hts W => ?_⟩)))
  have b06 := b05.go e6
  obtain ⟨nc, cs⟩ := b06.none (D5.ex e6).there nc6
  have ac : a ≠ c := fun z => by rw [← z, e6 _ _ ha] at nc6; cases nc6
  have tss : ∀ t ∈ ts, t.1 ≠ s' := fun t ht z => by
    obtain ⟨n, m, kk, hd, _⟩ := D7
    have := hts t ht
    rw [z, hd] at this
    cases this
  have B7 : Bs H H7 s' a c ns ts := ⟨b06.trans b7, D.there, na, nc, ac, b7 _ _ as (e6 _ _ ha), hc, fun t ht => ⟨tss t ht, hts t ht⟩⟩
  refine q_asgL (xs := []) (el_lst ea_nil (by show 0 ≤ 100000; omega)) fun fq H8 n8 e8 h8 => ?_
  have B8 := B7.ex e8
  obtain ⟨nf, fs⟩ := B7.bt.none D7.there n8
  have fa : fq ≠ a := fun z => by rw [z, B7.ha] at n8; cases n8
  have fc : fq ≠ c := fun z => by rw [z, B7.hc] at n8; cases n8
  have six : ns.length ≤ 6 := by omega
  -- the folk
  refine inSeq (inForR (inOp (go ev_c fun H9 e9 => inCall (goA (ea_two (ev_var rfl) ev_c) fun HA eA => ⟨s', b + 21, 6, rfl, ((D7.ex e8).ex (e9.trans eA)).mono (by omega), by omega, by decide, by decide, fun dn HB bB DB dn0 dn1 => ⟨_, _, rfl, rfl, ?_⟩⟩))))
  have BB := (B8.ex (e9.trans eA)).but bB
  have hfB := bB _ _ fs (eA _ _ (e9 _ _ h8))
  refine s_forR1 (n := 1 + dn) (ea_one ev_c) (by omega) (fun i σ' H' => ∃ (ps : List (Addr × List Int)) (y4 y5 : Option V), σ' = [some (.ref s'), some (.ref a), some (.ref c), some (.ref fq), y4, y5, none, none, none, none, none, none] ∧ Bs H H' s' a c ns ts ∧ Dr H' s' (b + 22 + 13 * i) ∧ H' fq = some (.lst (ps.map fun p => V.ref p.1)) ∧ ps.length = i ∧
      ∀ p ∈ ps, H p.1 = none ∧ p.1 ≠ fq ∧ H' p.1 = some (.lst (p.2.map V.int)) ∧ p.2.Perm ns) (fun HC eC => ⟨[], _, _, rfl, BB.ex eC, (DB.ex eC).mono (by omega), eC _ _ hfB, rfl, fun _ h => nomatch h⟩) ?_ ?_
  · rintro i σ' H' hi ⟨ps, y4, y5, rfl, B', D', hf, pl, hps⟩
    refine inSeq (inSet (inCall (goA (ea_three (ev_var rfl) (ev_var rfl) (ev_var rfl)) fun HC eC => ⟨s', a, c, _, ns, ts, rfl, D'.ex eC, by omega, (B'.ex eC).ha, as, (B'.ex eC).hc, cs, fun t ht => ((B'.ex eC).hts t ht).2, W, six, fun p5 r5 HD n5 bD DD h5 pm5 => ?_⟩)))
    have BD := (B'.ex eC).but bD
    obtain ⟨n5H, p5s⟩ := (B'.ex eC).bt.none (D'.ex eC).there n5
    have p5f : p5 ≠ fq := fun z => by rw [z, eC _ _ hf] at n5; cases n5
    have hfD := bD _ _ fs (eC _ _ hf)
    refine inDrop (inBM (go (ev_var rfl) fun HE eE => ⟨ty_list (sq_of (eE _ _ hfD)), inCons (inOp (inLst (inCons (go (ev_var rfl) fun HF eF => inCons (inCall (goA (ea_two (ev_var rfl) (ev_var rfl)) fun HG eG => ⟨s', a, b + 28 + 13 * i, ns, rfl, (((DD.ex eE).ex eF).ex eG).mono (by omega), by omega, (((BD.ex eE).ex eF).ex eG).ha, as, six,
      fun p6 r6 HI n6 bI DI h6 pm6 => ⟨by show 2 ≤ sizeLine; decide, fun lp nlp => inCB (inCons (inOp (inCall (goA (ea_two (ev_var rfl) ev_c) fun HJ eJ => ⟨s', b + 34 + 13 * i, 6, rfl, ((DI.ex (Ex.new nlp)).ex eJ).mono (by omega), by omega, by decide, by decide, fun d HK bK DK d0 d1 => go ev_c fun HL eL => ⟨rfl, ?_⟩⟩))))⟩⟩))))))⟩))
    have BG := ((BD.ex eE).ex eF).ex eG
    have eDG := (eE.trans eF).trans eG
    obtain ⟨n6H, p6s⟩ := BG.bt.none (((DD.ex eE).ex eF).ex eG).there n6
    have p6f : p6 ≠ fq := fun z => by rw [z, eDG _ _ hfD] at n6; cases n6
    have BI := BG.but bI
    have hfI := bI _ _ fs (eDG _ _ hfD)
    have h5I := bI _ _ p5s (eDG _ _ h5)
    have lps : lp ≠ s' := fun z => DI.there (z ▸ nlp)
    have eIJ : Ex HI HJ := (Ex.new nlp).trans eJ
    have BL := ((BI.ex eIJ).but bK).ex eL
    have DL := (DK.ex eL).mono (c := b + 35 + 13 * i) (by omega)
    have hfL := eL _ _ (bK _ _ fs (eIJ _ _ hfI))
    have h5L := eL _ _ (bK _ _ p5s (eIJ _ _ h5I))
    have h6L := eL _ _ (bK _ _ p6s (eIJ _ _ h6))
    have hlL := eL _ _ (bK _ _ lps (eJ _ _ (show (upd HI lp (.lst [V.ref p5, .ref p6])) lp = some (.lst [V.ref p5, .ref p6]) from upd_same)))
    obtain ⟨z, hz, nz, zf, hzL, pmz⟩ : ∃ z : Addr × List Int, atI [V.ref p5, .ref p6] (if decide (V.int d = V.int 0) = true then 1 else 0) = some (.ref z.1) ∧ H z.1 = none ∧ z.1 ≠ fq ∧ HL z.1 = some (.lst (z.2.map V.int)) ∧ z.2.Perm ns := by
      by_cases hd : V.int d = V.int 0
      · rw [if_pos (decide_eq_true hd)]
        exact ⟨(p6, r6), rfl, n6H, p6f, h6L, pm6⟩
      · rw [if_neg (by simpa using hd)]
        exact ⟨(p5, r5), rfl, n5H, p5f, h5L, pm5⟩
    have keep : ∀ p ∈ ps, HL p.1 = some (.lst (p.2.map V.int)) := fun p hp => by
      obtain ⟨k1, k2, k3, _⟩ := hps p hp
      have ks := B'.ne k1
      exact eL _ _ (bK _ _ ks (eIJ _ _ (bI _ _ ks (eDG _ _ (bD _ _ ks (eC _ _ k3))))))
    refine .inr ⟨_, rfl, lp, _, _, _, rfl, rfl, sq_of hlL, hz, fq, _, _, rfl, rfl, hfL, by rw [List.length_map]; exact sz_lt (by omega), ps ++ [z], _, _, rfl, BL.put nf hfL fa fc, (DL.other fs).mono (by omega), ?_, by rw [List.length_append, pl]; rfl, fun p hp => ?_⟩
    · rw [upd_same, List.map_append]
      rfl
    · rcases List.mem_append.mp hp with hp | hp
      · obtain ⟨k1, k2, k3, k4⟩ := hps p hp
        exact ⟨k1, k2, by rw [upd_ne k2]; exact keep p hp, k4⟩
      · rw [List.mem_singleton.mp hp]
        exact ⟨nz, zf, by rw [upd_ne zf]; exact hzL, pmz⟩
  · rintro σ' H' ⟨ps, y4, y5, rfl, B', D', hf, pl, hps⟩
    dsimp only
    have pl2 : ps.length ≤ 6 ∧ 0 < ps.length := by omega
    have D2 := D'.mono (c := b + 100) (by omega)
    -- names taken out
    refine inSeq (inSet (inLc (goL (el_sl (lo := some ((2 : Nat) : Int)) (hi := none) (ev_var rfl) (eo_some ev_c) eo_none (sq_of B'.ha)) fun sl HC nsl eC hsl => ?_)))
    rw [cut_from, ← List.map_drop] at hsl
    have hslne : sl ≠ s' := fun z => D2.there (z ▸ nsl)
    have dl : (ns.drop 2).length ≤ 4 := by rw [List.length_drop]; omega
    have BC := B'.ex eC
    have DC := D2.ex eC
    refine lc_LW (K := K) (l := ns.drop 2) (φ := V.int) (fun D pre acc H2 => D ≠ sl ∧ But s' HC H2 ∧ Dr H2 s' (b + 100 + pre.length) ∧ ∃ g : List Int, acc = g.map V.int ∧ g.Sublist pre) (sq_of hsl) (by omega) (fun _ => rfl) (fun D pre acc H2 p => sq_of (p.2.1 _ _ hslne hsl))
      (fun Dl hD => ⟨(fun z => by rw [z, hsl] at hD; cases hD), But.ex (Ex.new hD), (DC.ex (Ex.new hD)).mono (by show b + 100 ≤ b + 100 + ((0 : Nat) : Int); omega), [], rfl, List.Sublist.slnil⟩) ?_ ?_
    · intro Dl pre z post acc H2 hD eq p h1 Q k1 k2
      obtain ⟨dsl, bt, Dt, g, rfl, sub⟩ := p
      have hne : Dl ≠ s' := fun z => DC.there (z ▸ hD)
      have lpre : pre.length ≤ 4 := by
        have := congrArg List.length eq
        rw [List.length_append, List.length_cons] at this
        omega
      refine inTest (inOp (inCall (goA (ea_two (ev_var rfl) ev_c) fun H3 e3 => ⟨s', b + 100 + pre.length, 2, rfl, Dt.ex e3, by omega, by decide, by decide, fun d H4 b4 D4 d0 d1 => go ev_c fun H5 e5 => ⟨rfl, _, rfl, ?_⟩⟩)))
      have h5 := e5 _ _ (b4 _ _ hne (e3 _ _ h1))
      have b5 := ((bt.go e3).trans b4).go e5
      have D5 := (D4.ex e5).mono (c := b + 100 + (pre ++ [z]).length) (by rw [List.length_append, List.length_singleton]; omega)
      cases decide (V.int d = V.int 0) with
      | false => exact k1 H5 h5 ⟨dsl, b5, D5, g, rfl, sub.trans (List.sublist_append_left _ _)⟩
      | true => exact k2 H5 fun Q k => go (ev_var rfl) fun H6 e6 => k _ _ (e6 _ _ h5) ⟨dsl, (b5.go e6).mut hD, (D5.ex e6).other hne, g ++ [z], by rw [List.map_append]; rfl, List.Sublist.append sub (List.Sublist.refl _)⟩
    · intro gq acc H2 ngq p hg lacc
      obtain ⟨_, bt, Dt, g, rfl, sub⟩ := p
      obtain ⟨ng, gs⟩ := BC.bt.none DC.there ngq
      have B2 := BC.but bt
      have keep2 : ∀ x xs, H x = none → H' x = some (.lst xs) → H2 x = some (.lst xs) := fun x xs hx h => bt _ _ (B'.ne hx) (eC _ _ h)
      have D3 := Dt.mono (c := b + 104) (by omega)
      -- pairs
      refine inSeq (inSet (lc_R (m := 2) (fun D i acc H3 => But s' H2 H3 ∧ Dr H3 s' (b + 104 + 2 * i) ∧ ∃ pz : List (Addr × List Int), acc = pz.map (fun p => V.ref p.1) ∧ ∀ p ∈ pz, H2 p.1 = none ∧ p.1 ≠ D ∧ H3 p.1 = some (.lst (p.2.map V.int)) ∧ p.2.length = 2 ∧ ∀ x ∈ p.2, 0 ≤ x ∧ x < 9) (by omega) (fun _ => rfl)
        (fun Dl hD => ⟨But.ex (Ex.new hD), (D3.ex (Ex.new hD)).mono (by omega), [], rfl, fun _ h => nomatch h⟩) ?_ ?_))
      · intro Dl i acc H3 hD hi p h1 Q k
        obtain ⟨bt3, Dt3, pz, rfl, hpz⟩ := p
        have hne : Dl ≠ s' := fun z => D3.there (z ▸ hD)
        refine lc_draws (bs := 9) (m := 2) (i0 := 0) Dt3 (by omega) (by omega) (by decide) (by decide) (fun _ => rfl) (fun _ => rfl) fun p xs H4 np b4 D4 hp lx hx => ?_
        obtain ⟨np2, ps2⟩ := bt3.none Dt3.there np
        have pD : p ≠ Dl := fun z => by rw [z, h1] at np; cases np
        refine k _ _ (b4 _ _ hne h1) ⟨(bt3.trans b4).mut hD, (D4.other hne).mono (by omega), pz ++ [(p, xs)], by rw [List.map_append]; rfl, fun z hz => ?_⟩
        rcases List.mem_append.mp hz with hz | hz
        · obtain ⟨k1, k2, k3, k4⟩ := hpz z hz
          exact ⟨k1, k2, by rw [upd_ne k2]; exact b4 _ _ (fun zz => D3.there (zz ▸ k1)) k3, k4⟩
        · rw [List.mem_singleton.mp hz]
          exact ⟨np2, pD, by rw [upd_ne pD]; exact hp, lx, hx⟩
      · intro pq acc H3 npq p hpq lacc2
        obtain ⟨bt3, Dt3, pz, rfl, hpz⟩ := p
        rw [List.length_map] at lacc2
        obtain ⟨npH, pqs⟩ := B2.bt.none D3.there npq
        have D4 := Dt3.mono (c := b + 108) (by omega)
        dsimp only
        -- the paper
        refine inSeq (inSet (inLst (inCons (go ev_c fun H4 e4 => inCons (lc_draws (bs := 9) (m := 4) (i0 := 0) (D4.ex e4) (by omega) (by omega) (by decide) (by decide) (fun _ => rfl) (fun _ => rfl) fun q4 xs H5 n5 b5 D5 h5 lx hx => goA (ea_one (ev_var rfl)) fun H6 e6 => ⟨by show 3 ≤ sizeLine; decide, fun pp npp => ?_⟩)))))
        have B3 := B2.but bt3
        have b36 : But s' H3 H6 := ((But.ex e4).trans b5).go e6
        have B6 := B3.but b36
        obtain ⟨n5H, q4s⟩ := (B3.ex e4).bt.none (D4.ex e4).there n5
        have D6 := D5.ex e6
        obtain ⟨nppH, pps⟩ := B6.bt.none D6.there npp
        have e67 : Ex H6 (upd H6 pp (.lst [.str "cross", .ref q4, .ref pq])) := Ex.new npp
        have hpp : (upd H6 pp (.lst [.str "cross", .ref q4, .ref pq])) pp = some (.lst [.str "cross", .ref q4, .ref pq]) := upd_same
        generalize upd H6 pp (.lst [.str "cross", .ref q4, .ref pq]) = H7 at e67 hpp
        have keep7 : ∀ x xs, x ≠ s' → H2 x = some (.lst xs) → H7 x = some (.lst xs) := fun x xs hx h => e67 _ _ (b36 _ _ hx (bt3 _ _ hx h))
        have keep37 : ∀ x xs, x ≠ s' → H3 x = some (.lst xs) → H7 x = some (.lst xs) := fun x xs hx h => e67 _ _ (b36 _ _ hx h)
        refine inRet (inLst (goA (ea_cons (ev_var rfl) (ea_cons (ev_var rfl) (ea_three (ev_var rfl) (ev_var rfl) (ev_var rfl)))) fun H8 e8 => ⟨by show 5 ≤ sizeLine; decide, fun lp nlp => ?_⟩))
        have e79 : Ex H7 (upd H8 lp (.lst [.ref a, .ref c, .ref fq, .ref gq, .ref pp])) := e8.trans (Ex.new nlp)
        have hlp : (upd H8 lp (.lst [.ref a, .ref c, .ref fq, .ref gq, .ref pp])) lp = some (.lst [.ref a, .ref c, .ref fq, .ref gq, .ref pp]) := upd_same
        have B9 := (B6.ex e67).ex e79
        have D9 := ((D6.ex e67).ex e79).mono (c := b + 300) (by omega)
        have nlpH := ((B6.ex e67).ex e8).bt.none ((D6.ex e67).ex e8).there nlp
        generalize upd H8 lp (.lst [.ref a, .ref c, .ref fq, .ref gq, .ref pp]) = H9 at e79 hlp B9 D9
        obtain ⟨⟨z1, l1⟩, ⟨z2, l2⟩, rfl⟩ : ∃ u v, pz = [u, v] := by
          match pz, lacc2 with
          | [u, v], _ => exact ⟨u, v, rfl⟩
        obtain ⟨u1, _, u3, u4, u5⟩ := hpz (z1, l1) (by simp)
        obtain ⟨v1, _, v3, v4, v5⟩ := hpz (z2, l2) (by simp)
        obtain ⟨e, f, rfl⟩ : ∃ e f, l1 = [e, f] := by
          match l1, u4 with
          | [e, f], _ => exact ⟨e, f, rfl⟩
        obtain ⟨g', h', rfl⟩ : ∃ e f, l2 = [e, f] := by
          match l2, v4 with
          | [e, f], _ => exact ⟨e, f, rfl⟩
        obtain ⟨x1, x2, x3, x4, rfl⟩ : ∃ a b c d, xs = [a, b, c, d] := by
          match xs, lx with
          | [a, b, c, d], _ => exact ⟨a, b, c, d, rfl⟩
        have u1H := B2.bt.none D3.there u1
        have v1H := B2.bt.none D3.there v1
        have p11 : (10 : Int) ^ 11 = 100000000000 := by decide
        have small : ∀ x : Int, 0 ≤ x ∧ x < 9 → NumOk x := fun x hx => ⟨hx.1, by omega⟩
        have fk9 : ∀ p ∈ ps, H9 p.1 = some (.lst (p.2.map V.int)) := fun p hp => by
          obtain ⟨k1, k2, k3, _⟩ := hps p hp
          exact e79 _ _ (keep7 _ _ (B'.ne k1) (keep2 _ _ k1 k3))
        refine q lp (dTh ns (ts.map (·.2)) (ps.map (·.2)) g (dPaper x1 x2 x3 x4 e f g' h')) _ H9 B9.bt D9 (.lst hlp (.cons (own_I B9.ha) (.cons (own_T B9.hc fun t ht => (B9.hts t ht).2) (.cons (own_L (e79 _ _ (keep7 _ _ fs (keep2 _ _ nf hf))) fk9) (.cons (own_I (e79 _ _ (keep7 _ _ gs hg)))
          (.cons (.lst (e79 _ _ hpp) (.cons (.str _) (.cons (own_I (e79 _ _ (e67 _ _ (e6 _ _ h5)))) (.cons (own_L (ps := [(z1, [e, f]), (z2, [g', h'])]) (e79 _ _ (keep37 _ _ pqs hpq)) fun p hp => ?_) .nil)))) .nil)))))) (fun x hx => ?_) ⟨ns, ts.map (·.2), ps.map (·.2), g, x1, x2, x3, x4, e, f, g', h', rfl, ⟨W, okn, by omega, six, fun r hr => ?_, by rw [List.length_map]; omega, by rw [List.length_map]; omega, sub⟩, fun n hn => ?_⟩
        · simp only [List.mem_cons, List.not_mem_nil, or_false] at hp
          rcases hp with rfl | rfl
          · exact e79 _ _ (keep37 _ _ u1H.2 u3)
          · exact e79 _ _ (keep37 _ _ v1H.2 v3)
        · simp only [List.mem_cons, List.mem_append, List.not_mem_nil, or_false, false_or, List.map_cons, List.map_nil] at hx
          rcases hx with rfl | rfl | rfl | (rfl | hx) | rfl | rfl | rfl | rfl | rfl | rfl
          · exact nlpH.1
          · exact na
          · exact nc
          · exact nf
          · obtain ⟨p, hp, rfl⟩ := List.mem_map.mp hx
            exact (hps p hp).1
          · exact ng
          · exact nppH
          · exact n5H
          · exact npH
          · exact u1H.1
          · exact v1H.1
        · obtain ⟨p, hp, rfl⟩ := List.mem_map.mp hr
          exact (hps p hp).2.2.2
        · simp only [List.mem_cons, List.not_mem_nil, or_false] at hn
          rcases hn with rfl | rfl | rfl | rfl | rfl | rfl | rfl | rfl
          · exact small _ (hx _ (by simp))
          · exact small _ (hx _ (by simp))
          · exact small _ (hx _ (by simp))
          · exact small _ (hx _ (by simp))
          · exact small _ (u5 _ (by simp))
          · exact small _ (u5 _ (by simp))
          · exact small _ (v5 _ (by simp))
          · exact small _ (v5 _ (by simp))
end
end Ol
namespace Ol
open PySem PySem.Spec PyProof.Rows L2 Evl
/-! ### data of not too many parts -/
mutual
def fewD : PyData → Bool
  | .list ds => decide (ds.length ≤ 1000) && fewAll ds
  | .tuple ds => decide (ds.length ≤ 1000) && fewAll ds
  | .dict _ => false
  | _ => true
def fewAll : List PyData → Bool
  | [] => true
  | d :: ds => fewD d && fewAll ds
end
theorem fewAll_iff : ∀ {ds : List PyData}, fewAll ds = true ↔ ∀ d ∈ ds, fewD d = true
  | [] => ⟨fun _ _ h => (nomatch h), fun _ => rfl⟩
  | d :: ds => by
    rw [fewAll, Bool.and_eq_true, fewAll_iff (ds := ds)]
    exact ⟨fun h x hx => (List.mem_cons.mp hx).elim (fun e => e ▸ h.1) (h.2 x), fun h => ⟨h d List.mem_cons_self, fun x hx => h x (List.mem_cons_of_mem _ hx)⟩⟩
theorem few_list {ds : List PyData} (h : fewD (.list ds) = true) : ds.length ≤ 1000 ∧ ∀ d ∈ ds, fewD d = true := by
  rw [fewD, Bool.and_eq_true, decide_eq_true_eq] at h
  exact ⟨h.1, fewAll_iff.mp h.2⟩
theorem few_tup {ds : List PyData} (h : fewD (.tuple ds) = true) : ds.length ≤ 1000 ∧ ∀ d ∈ ds, fewD d = true := by
  rw [fewD, Bool.and_eq_true, decide_eq_true_eq] at h
  exact ⟨h.1, fewAll_iff.mp h.2⟩
mutual
theorem tidy_few : ∀ d : PyData, tidy d = true → fewD d = true
  | .none, _ => rfl
  | .bool _, _ => rfl
  | .int _, _ => rfl
  | .str _, _ => rfl
  | .dict _, h => by rw [tidy] at h; cases h
  | .list ds, h => by
    rw [tidy, Bool.and_eq_true, Bool.and_eq_true] at h
    rw [fewD, Bool.and_eq_true]
    exact ⟨h.1, tidy_fewAll ds h.2.2⟩
  | .tuple ds, h => by
    rw [tidy, Bool.and_eq_true] at h
    rw [fewD, Bool.and_eq_true]
    exact ⟨h.1, tidy_fewAll ds h.2⟩
theorem tidy_fewAll : ∀ ds : List PyData, tidyAll ds = true → fewAll ds = true
  | [], _ => rfl
  | d :: ds, h => by
    rw [tidyAll, Bool.and_eq_true] at h
    rw [fewAll, Bool.and_eq_true]
    exact ⟨tidy_few d h.1, tidy_fewAll ds h.2⟩
end
theorem depth_all : ∀ {ds : List PyData} {d : PyData}, d ∈ ds → d.depth ≤ PyData.depthAll ds
  | [], _, h => nomatch h
  | x :: ds, d, h => by
    rw [PyData.depthAll]
    rcases List.mem_cons.mp h with rfl | h
    · omega
    · have := depth_all h
      omega
theorem depth_list {ds : List PyData} {d : PyData} {n : Nat} (h : (PyData.list ds).depth < n + 1) (hd : d ∈ ds) : d.depth < n := by
  rw [PyData.depth] at h
  have := depth_all hd
  omega
theorem depth_tup {ds : List PyData} {d : PyData} {n : Nat} (h : (PyData.tuple ds).depth < n + 1) (hd : d ∈ ds) : d.depth < n := by
  rw [PyData.depth] at h
  have := depth_all hd
  omega
theorem dpAll_pairs {K : PySem.W.Frag} {H : Hp} : ∀ {xs : List V} {ds : List PyData}, DpAll K H xs ds → ∃ l : List (V × PyData), xs = l.map (·.1) ∧ ds = l.map (·.2) ∧ ∀ z ∈ l, Dp K H z.1 z.2
  | _, _, .nil => ⟨[], rfl, rfl, fun _ h => nomatch h⟩
  | _, _, .cons h t => by
    obtain ⟨l, e1, e2, k⟩ := dpAll_pairs t
    refine ⟨(_, _) :: l, by rw [e1]; rfl, by rw [e2]; rfl, fun z hz => ?_⟩
    rcases List.mem_cons.mp hz with rfl | hz
    · exact h
    · exact k z hz
theorem ownAll_append {H : Hp} : ∀ {xs : List V} {ds : List PyData} {S : List Addr} {ys : List V} {es : List PyData} {S' : List Addr}, OwnAll H xs ds S → OwnAll H ys es S' → OwnAll H (xs ++ ys) (ds ++ es) (S ++ S')
  | _, _, _, _, _, _, .nil, h => h
  | _, _, _, _, _, _, .cons (S := S1) (S' := S2) h t, k => by
    rw [List.append_assoc]
    exact .cons h (ownAll_append t k)
section
variable {K : PySem.W.Frag} {σ : L2.St} {H H' : Hp} {ta tb te tl : TE} {t u : TT} {x y z v : V} {a : Addr} {D : Ends} {tz tu : TS} {g : TG}
/-- over a tuple that the word keeps -/
theorem lc_TW {α : Type} {l : List α} {φ : α → V} {j : Nat} {vs : List Nat} (Pv : Addr → List α → List V → Hp → Prop) (hx : SqT K H a (l.map φ)) (hz : l.length ≤ 40000) (hw : ∀ x, wipe ((wipe σ vs).set j (some x)) vs = wipe σ vs) (hk : ∀ D pre acc H', Pv D pre acc H' → SqT K H' a (l.map φ))
    (h0 : ∀ D, H D = none → Pv D [] [] (upd H D (.lst [])))
    (hs : ∀ D pre z post acc H', H D = none → l = pre ++ z :: post → Pv D pre acc H' → H' D = some (.lst acc) → ∀ Q : Bool → Hp → Prop, (∀ H3, H3 D = some (.lst acc) → Pv D (pre ++ [z]) acc H3 → Q false H3) →
      (∀ H3, (∀ Q : VK, (∀ y H4, H4 D = some (.lst acc) → Pv D (pre ++ [z]) (acc ++ [y]) (upd H4 D (.lst (acc ++ [y]))) → Q y H4) → te ((wipe σ vs).set j (some (φ z))) H3 Q) → Q true H3) → t ((wipe σ vs).set j (some (φ z))) H' Q) {Q : VK}
    (hd : ∀ D acc H', H D = none → Pv D l acc H' → H' D = some (.lst acc) → acc.length ≤ l.length → Q (.ref D) H') : tLc (iTup K (tC (.ref a))) (gName j) t te vs σ H Q := ⟨a, rfl, ⟨_, hx⟩, fun Dl hD =>
  lc_tup (xs := l.map φ) (fun i H' => ∃ acc, Pv Dl (l.take i) acc H' ∧ H' Dl = some (.lst acc) ∧ acc.length ≤ i) ⟨[], by rw [List.take_zero]; exact h0 Dl hD, upd_same, Nat.le_refl _⟩ (fun i H' _ ⟨acc, p, _⟩ => hk _ _ _ _ p)
    (fun i x H' hi p => by
      obtain ⟨acc, p1, p2, p3⟩ := p
      rw [List.getElem?_map] at hi
      cases hz2 : l[i]? with
      | none => rw [hz2] at hi; cases hi
      | some z =>
        rw [hz2] at hi
        cases hi
        obtain ⟨hlt, e1⟩ := List.getElem?_eq_some_iff.mp hz2
        have split : l = l.take i ++ z :: l.drop (i + 1) := by
          rw [← e1, ← List.drop_eq_getElem_cons hlt, List.take_append_drop]
        refine ⟨hw _, ?_⟩
        rw [take_succ_of hz2]
        exact hs Dl (l.take i) z _ acc H' hD split p1 p2 _ (fun H3 h3 p4 => iteF ⟨acc, p4, h3, by omega⟩) fun H3 hh => iteT (hh _ fun y H4 h4 p4 => ⟨acc, h4, sz_lt (by omega), _, p4, upd_same, by rw [List.length_append, List.length_singleton]; omega⟩))
    fun H' ⟨acc, p1, p2, p3⟩ => hd Dl acc H' hD (by rwa [List.length_map, List.take_length] at p1) p2 (by rwa [List.length_map] at p3)⟩
theorem inLcT {vs : List Nat} {Q : VK} (h : tl σ H fun x H1 => tLc (iTup K (tC x)) g t te vs σ H1 Q) : tLc (iTup K tl) g t te vs σ H Q := h
theorem inAltL {tl2 : TE} {vs : List Nat} {Q : VK} (h : tLc (iList K tl) g t te vs σ H Q) : tLc (fun σ H R => iList K tl σ H R ∨ iTup K tl2 σ H R) g t te vs σ H Q := .inl h
theorem inAltT {tl2 : TE} {vs : List Nat} {Q : VK} (h : tLc (iTup K tl2) g t te vs σ H Q) : tLc (fun σ H R => iList K tl σ H R ∨ iTup K tl2 σ H R) g t te vs σ H Q := .inr h
theorem inForL {tl2 : TE} {D : Ends} (h : tFor (iList K tl) g tu D σ H) : tFor (fun σ H R => iList K tl σ H R ∨ iTup K tl2 σ H R) g tu D σ H := .inl h
theorem inForT {tl2 : TE} {D : Ends} (h : tFor (iTup K tl2) g tu D σ H) : tFor (fun σ H R => iList K tl σ H R ∨ iTup K tl2 σ H R) g tu D σ H := .inr h
/-- what kind of thing it is: a list, a tuple, neither -/
def kindB : PyData → Bool × Bool
  | .list _ => (true, false)
  | .tuple _ => (false, true)
  | _ => (false, false)
def kindN : PyData → String
  | .none => "NoneType"
  | .bool _ => "bool"
  | .int _ => "int"
  | .str _ => "str"
  | .list _ => "list"
  | .tuple _ => "tuple"
  | .dict _ => "dict"
theorem dp_kind {d : PyData} (h : Dp K H x d) : TyX K H x (.type (kindN d)) ∧ kitB (kindN d) "list" = some (kindB d).1 ∧ kitB (kindN d) "tuple" = some (kindB d).2 := by
  cases h with
  | non => exact ⟨.base .non, by decide +kernel, by decide +kernel⟩
  | bl b => exact ⟨.base (.bl b), (by show kitB "bool" "list" = some false; decide +kernel), (by show kitB "bool" "tuple" = some false; decide +kernel)⟩
  | int i => exact ⟨.base (.int i), (by show kitB "int" "list" = some false; decide +kernel), (by show kitB "int" "tuple" = some false; decide +kernel)⟩
  | str w => exact ⟨.base (.str w), (by show kitB "str" "list" = some false; decide +kernel), (by show kitB "str" "tuple" = some false; decide +kernel)⟩
  | lst h a => exact ⟨tyx_list h, (by show kitB "list" "list" = some true; decide +kernel), (by show kitB "list" "tuple" = some false; decide +kernel)⟩
  | tup h a => exact ⟨tyx_tup h, (by show kitB "tuple" "list" = some false; decide +kernel), (by show kitB "tuple" "tuple" = some true; decide +kernel)⟩
theorem ev_isL {d : PyData} (h : Ev te σ H x) (hd : Dp K H x d) : Ev (tCB (rIsi K) (tCons te (tCons (tC (.ty "list")) tNil))) σ H (.bl (kindB d).1) := ev_isi h (dp_kind hd).1 (dp_kind hd).2.1 fun H1 e => (dp_kind (Dp.up e hd)).1
theorem ev_isT {d : PyData} (h : Ev te σ H x) (hd : Dp K H x d) : Ev (tCB (rIsi K) (tCons te (tCons (tC (.ty "tuple")) tNil))) σ H (.bl (kindB d).2) := ev_isi h (dp_kind hd).1 (dp_kind hd).2.2 fun H1 e => (dp_kind (Dp.up e hd)).1
theorem ev_isLT {d : PyData} (h : Ev te σ H x) (hd : Dp K H x d) : Ev (tCB (rIsiT K) (tCons te (tCons (tTup (tCons (tC (.ty "list")) (tCons (tC (.ty "tuple")) tNil))) tNil))) σ H (.bl ((kindB d).1 || (kindB d).2)) := fun H1 e Q q =>
  h H1 e _ fun H2 e2 => ⟨by show 2 ≤ sizeLine; decide, fun p np => by
    have hp : (upd H2 p (.tup [.ty "list", .ty "tuple"])) p = some (.tup [V.ty "list", .ty "tuple"]) := upd_same
    have e3 : Ex H2 (upd H2 p (.tup [V.ty "list", .ty "tuple"])) := Ex.new np
    obtain ⟨k1, k2, k3⟩ := dp_kind (Dp.up ((e.trans e2).trans e3) hd)
    exact ⟨x, p, _, .type (kindN d), [.type "list", .type "tuple"], (kindB d).1 || (kindB d).2, rfl, hp, .cons (.ty _) (.cons (.ty _) .nil), k1, kitAny_cons (kit_ty k2) (fun hb => kitAny_cons (kit_ty k3) (fun hb2 => by rw [kitAny_nil, hb, hb2]; rfl) fun hb2 => by rw [hb2, Bool.or_true]) fun hb => by rw [hb, Bool.true_or],
      q _ (e2.trans e3)⟩⟩
end
section
variable {P : Program} {w : World} {K : PySem.W.Frag} {mg : Str → Option Value} {base : Heap}
/-! ### _law_copied -/
def spCopied (K : PySem.W.Frag) (n : Nat) : Sp := fun vs H Q _ => ∃ (x : V) (d : PyData), vs = [x] ∧ Dp K H x d ∧ d.depth < n ∧ fewD d = true ∧ ∀ v S H', Ex H H' → Own H' v d S → S.Nodup → (∀ a ∈ S, H a = none) → Q v H'
theorem c__law_copied (T : Tx w K mg) : ∀ n, Callee P w K mg base "_law_copied" (n + 1) ["_law_thing"] (spCopied K n) := by
  intro n
  induction n with
  | zero =>
    refine callee_of T.F__law_copied T.g__law_copied sc__law_copied (fun _ _ _ _ _ _ us hl => match us, hl with | [_], _ => rfl) (fun vs H Q E h => ?_) fun cdv A outer s H vs Q E hr h => ?_
    · obtain ⟨x, d, rfl, _⟩ := h
      rfl
    · obtain ⟨x, d, _, _, h, _⟩ := h
      exact absurd h (Nat.not_lt_zero _)
  | succ n C__law_copied =>
    refine callee_of T.F__law_copied T.g__law_copied sc__law_copied (fun _ _ _ _ _ _ us hl => match us, hl with | [_], _ => rfl) (fun vs H Q E h => ?_) fun cdv A outer s H vs Q E hr h => ?_
    · obtain ⟨x, d, rfl, _⟩ := h
      rfl
    obtain ⟨x, d, rfl, hd, dep, few, q⟩ := h
    refine ⟨_, (pss_cons (ps_if (pt_val (pe_callB (isiR K) (by rfl) T.b_isinstance (by decide +kernel) (pa_cons (pv 0) (pa_cons (pe_bltn (v := .ty "tuple") (u := .type "tuple") (by rfl) T.b_tuple (by decide +kernel) rfl) pa_nil)))) (pss_one (ps_ret (pe_callTy (tupOf K) (by rfl) T.b_tuple (by decide +kernel) (pa_cons (pe_lc (own := [("_law_part", 1)]) rfl sc__law_copied.nd (pi_alt (piL K (pv 0)) (piT K (pv 0))) (blkOk_by (by kernel_rfl)) (fun _ _ _ _ _ => (pg_name (i := 1) sc__law_copied.nd rfl (Or.inl rfl))) (fun _ _ _ _ _ => pts_nil) (fun _ _ _ _ _ => (pe_callC C__law_copied hr (Nat.le_refl _) (by rfl) (pa_cons (pv 1) pa_nil)))) pa_nil)))) pss_nil)
      (pss_cons (ps_if (pt_val (pe_callB (isiR K) (by rfl) T.b_isinstance (by decide +kernel) (pa_cons (pv 0) (pa_cons (pe_bltn (v := .ty "list") (u := .type "list") (by rfl) T.b_list (by decide +kernel) rfl) pa_nil)))) (pss_one (ps_ret (pe_lc (own := [("_law_part", 1)]) rfl sc__law_copied.nd (pi_alt (piL K (pv 0)) (piT K (pv 0))) (blkOk_by (by kernel_rfl)) (fun _ _ _ _ _ => (pg_name (i := 1) sc__law_copied.nd rfl (Or.inl rfl))) (fun _ _ _ _ _ => pts_nil) (fun _ _ _ _ _ => (pe_callC C__law_copied hr (Nat.le_refl _) (by rfl) (pa_cons (pv 1) pa_nil)))))) pss_nil)
      (pss_one (ps_ret (pv 0))))), ?_⟩
    -- what the comprehension makes of the parts
    have part : ∀ (l : List (V × PyData)) (H1 : Hp), Ex H H1 → (∀ z ∈ l, Dp K H z.1 z.2) → (∀ z ∈ l, z.2.depth < n) → (∀ z ∈ l, fewD z.2 = true) →
        ∃ Pv : Addr → List (V × PyData) → List V → Hp → Prop, (∀ D pre acc H', Pv D pre acc H' → Ex H1 H') ∧ (∀ D, H1 D = none → Pv D [] [] (upd H1 D (.lst []))) ∧
          (∀ D pre z post acc H', H1 D = none → l = pre ++ z :: post → Pv D pre acc H' → H' D = some (.lst acc) → ∀ (σ1 : L2.St) (Q : Bool → Hp → Prop), σ1[1]? = some (some z.1) → (∀ H3, (∀ Q : VK, (∀ y H4, H4 D = some (.lst acc) → Pv D (pre ++ [z]) (acc ++ [y]) (upd H4 D (.lst (acc ++ [y]))) → Q y H4) →
            tCall (spCopied K n) [] E0 (tCons (tVar 1) tNil) σ1 H3 Q) → Q true H3) → tYes σ1 H' Q) ∧
          (∀ D acc H', Pv D l acc H' → ∃ S, OwnAll H' acc (l.map (·.2)) S ∧ S.Nodup ∧ ∀ b ∈ S, H1 b = none ∧ b ≠ D) := fun l H1 e1 hdp hdep hfew =>
      ⟨fun D pre acc H' => Ex H1 H' ∧ H1 D = none ∧ ∃ S, OwnAll H' acc (pre.map (·.2)) S ∧ S.Nodup ∧ ∀ b ∈ S, H1 b = none ∧ b ≠ D, fun D pre acc H' p => p.1, fun D hD => ⟨Ex.new hD, hD, [], .nil, List.nodup_nil, fun _ h => nomatch h⟩, (by
        intro D pre z post acc H' hD eq p h1 σ1 Q hv k
        obtain ⟨e, _, S, own, nd, fr⟩ := p
        have mz : z ∈ l := by rw [eq]; exact List.mem_append_right _ List.mem_cons_self
        refine (et_none (H := H') rfl) H' (Ex.refl _) _ fun H3 e3 => k H3 fun Q k2 => ?_
        refine inCall (goA (ea_one (ev_var hv)) fun H4 e4 => ⟨z.1, z.2, rfl, Dp.up (((e1.trans e).trans e3).trans e4) (hdp z mz), hdep z mz, hfew z mz, fun v S1 H5 e5 o1 nd1 fr1 => ?_⟩)
        have e35 := (e3.trans e4).trans e5
        have dn : ∀ b ∈ S ++ S1, H1 b = none ∧ b ≠ D := fun b hb => by
          rcases List.mem_append.mp hb with hb | hb
          · exact fr b hb
          · have hn := fr1 b hb
            refine ⟨fresh_back ((e.trans e3).trans e4) hn, fun zz => ?_⟩
            rw [zz, e4 _ _ (e3 _ _ h1)] at hn
            cases hn
        refine k2 v H5 (e35 _ _ h1) ⟨Ex.mut (e.trans e35) hD, hD, S ++ S1, ?_, ?_, dn⟩
        · rw [List.map_append]
          have stay : Stay (S ++ S1) H5 (upd H5 D (.lst (acc ++ [v]))) := ⟨fun b hb o ho => by rw [upd_ne (dn b hb).2]; exact ho, fun b xs ho => by
            rw [upd_ne (fun zz => by rw [zz, e35 _ _ h1] at ho; cases ho)]
            exact ho⟩
          have o3 : OwnAll H5 (acc ++ [v]) (pre.map (·.2) ++ [z.2]) (S ++ (S1 ++ [])) := ownAll_append (own.ex e35) (.cons o1 .nil)
          rw [List.append_nil] at o3
          exact o3.stay stay
        · refine List.nodup_append.mpr ⟨nd, nd1, fun b hb c hc ebc => ?_⟩
          obtain ⟨xs, hx⟩ := own.there b hb
          have := fr1 c hc
          rw [← ebc, e4 _ _ (e3 _ _ hx)] at this
          cases this), fun D acc H' p => p.2.2⟩
    cases hd with
    | non =>
      refine q_when (b := false) (et_B (ev_isT (ev_var rfl) .non)) (fun z => nomatch z) fun _ H1 e1 => q_when (b := false) (et_B (ev_isL (ev_var rfl) .non)) (fun z => nomatch z) fun _ H2 e2 => s_ret (ev_var rfl) fun H3 e3 => q _ [] H3 ((e1.trans e2).trans e3) .non List.nodup_nil fun _ h => nomatch h
    | bl b =>
      refine q_when (b := false) (et_B (ev_isT (ev_var rfl) (.bl b))) (fun z => nomatch z) fun _ H1 e1 => q_when (b := false) (et_B (ev_isL (ev_var rfl) (.bl b))) (fun z => nomatch z) fun _ H2 e2 => s_ret (ev_var rfl) fun H3 e3 => q _ [] H3 ((e1.trans e2).trans e3) (.bl b) List.nodup_nil fun _ h => nomatch h
    | int i =>
      refine q_when (b := false) (et_B (ev_isT (ev_var rfl) (.int i))) (fun z => nomatch z) fun _ H1 e1 => q_when (b := false) (et_B (ev_isL (ev_var rfl) (.int i))) (fun z => nomatch z) fun _ H2 e2 => s_ret (ev_var rfl) fun H3 e3 => q _ [] H3 ((e1.trans e2).trans e3) (.int i) List.nodup_nil fun _ h => nomatch h
    | str i =>
      refine q_when (b := false) (et_B (ev_isT (ev_var rfl) (.str i))) (fun z => nomatch z) fun _ H1 e1 => q_when (b := false) (et_B (ev_isL (ev_var rfl) (.str i))) (fun z => nomatch z) fun _ H2 e2 => s_ret (ev_var rfl) fun H3 e3 => q _ [] H3 ((e1.trans e2).trans e3) (.str i) List.nodup_nil fun _ h => nomatch h
    | @lst a xs ds hs ha =>
      obtain ⟨l, rfl, rfl, hl⟩ := dpAll_pairs ha
      obtain ⟨f1, f2⟩ := few_list few
      rw [List.length_map] at f1
      refine q_when (b := false) (et_B (ev_isT (ev_var rfl) (.lst hs ha))) (fun z => nomatch z) fun _ H1 e1 => q_when (b := true) (et_B (ev_isL (ev_var rfl) (Dp.up e1 (.lst hs ha)))) (fun _ H2 e2 => ?_) fun z => nomatch z
      refine inRet (inAltL (inLc (go (ev_var rfl) fun H3 e3 => ?_)))
      have e03 := (e1.trans e2).trans e3
      obtain ⟨Pv, p1, p2, p3, p4⟩ := part l H3 e03 hl (fun z hz => depth_list dep (List.mem_map.mpr ⟨z, hz, rfl⟩)) fun z hz => f2 _ (List.mem_map.mpr ⟨z, hz, rfl⟩)
      refine lc_LW (K := K) (l := l) (φ := fun z => z.1) Pv (ex_l e03 hs) (by omega) (fun _ => rfl) (fun D pre acc H' p => ex_l (e03.trans (p1 _ _ _ _ p)) hs) p2 (fun D pre z post acc H' hD eq p h1 Q k1 k2 => p3 D pre z post acc H' hD eq p h1 _ Q rfl k2) fun D acc H' hD p h1 _ => ?_
      obtain ⟨S, own, nd, fr⟩ := p4 D acc H' p
      refine q (.ref D) (D :: S) H' (e03.trans (p1 _ _ _ _ p)) (.lst h1 own) (List.nodup_cons.mpr ⟨fun hm => (fr D hm).2 rfl, nd⟩) fun b hb => ?_
      rcases List.mem_cons.mp hb with rfl | hb
      · exact fresh_back e03 hD
      · exact fresh_back e03 (fr b hb).1
    | @tup a xs ds hs ha =>
      obtain ⟨l, rfl, rfl, hl⟩ := dpAll_pairs ha
      obtain ⟨f1, f2⟩ := few_tup few
      rw [List.length_map] at f1
      refine q_when (b := true) (et_B (ev_isT (ev_var rfl) (.tup hs ha))) (fun _ H1 e1 => ?_) fun z => nomatch z
      refine inRet (inCB (inCons (inAltT (inLcT (go (ev_var rfl) fun H3 e3 => ?_)))))
      have e03 := e1.trans e3
      obtain ⟨Pv, p1, p2, p3, p4⟩ := part l H3 e03 hl (fun z hz => depth_tup dep (List.mem_map.mpr ⟨z, hz, rfl⟩)) fun z hz => f2 _ (List.mem_map.mpr ⟨z, hz, rfl⟩)
      refine lc_TW (K := K) (l := l) (φ := fun z => z.1) Pv (ex_t e03 hs) (by omega) (fun _ => rfl) (fun D pre acc H' p => ex_t (e03.trans (p1 _ _ _ _ p)) hs) p2 (fun D pre z post acc H' hD eq p h1 Q k1 k2 => p3 D pre z post acc H' hD eq p h1 _ Q rfl k2) fun D acc H' hD p h1 _ => ?_
      obtain ⟨S, own, nd, fr⟩ := p4 D acc H' p
      refine ⟨D, acc, rfl, sq_of h1, fun t nt => ?_⟩
      refine q (.ref t) S _ ((e03.trans (p1 _ _ _ _ p)).trans (Ex.new nt)) (.tup upd_same (own.ex (Ex.new nt))) nd fun b hb => fresh_back e03 (fr b hb).1
end
end Ol
namespace Ol
open PySem PySem.Spec PyProof.Rows L2 Evl
/-! ### marks -/
mutual
def markD : PyData → PyData
  | .list ds => .list (markAll ds ++ [.str "mark"])
  | .tuple ds => .tuple (markAll ds)
  | .none => .none
  | .bool b => .bool b
  | .int i => .int i
  | .str x => .str x
  | .dict k => .dict k
def markAll : List PyData → List PyData
  | [] => []
  | d :: ds => markD d :: markAll ds
end
theorem markAll_map : ∀ ds : List PyData, markAll ds = ds.map markD
  | [] => by rw [markAll]; rfl
  | d :: ds => by rw [markAll, markAll_map ds]; rfl
mutual
theorem mark_lay : ∀ d : PyData, d.canLay0 = true → (markD d).canLay0 = true
  | .none, h => by rw [markD]; exact h
  | .bool _, h => by rw [markD]; exact h
  | .int _, h => by rw [markD]; exact h
  | .str _, h => by rw [markD]; exact h
  | .dict _, h => by rw [markD]; exact h
  | .list ds, h => by
    rw [PyData.canLay0] at h
    rw [markD, PyData.canLay0]
    exact mark_layAll1 ds h
  | .tuple ds, h => by
    rw [PyData.canLay0] at h
    rw [markD, PyData.canLay0]
    exact mark_layAll ds h
theorem mark_layAll : ∀ ds : List PyData, PyData.canLayAll0 ds = true → PyData.canLayAll0 (markAll ds) = true
  | [], _ => by rw [markAll]; rfl
  | d :: ds, h => by
    rw [PyData.canLayAll0, Bool.and_eq_true] at h
    rw [markAll, PyData.canLayAll0, Bool.and_eq_true]
    exact ⟨mark_lay d h.1, mark_layAll ds h.2⟩
theorem mark_layAll1 : ∀ ds : List PyData, PyData.canLayAll0 ds = true → PyData.canLayAll0 (markAll ds ++ [.str "mark"]) = true
  | [], _ => by rw [markAll]; decide +kernel
  | d :: ds, h => by
    rw [PyData.canLayAll0, Bool.and_eq_true] at h
    rw [markAll, List.cons_append, PyData.canLayAll0, Bool.and_eq_true]
    exact ⟨mark_lay d h.1, mark_layAll1 ds h.2⟩
end
mutual
theorem mark_depth : ∀ d : PyData, (markD d).depth ≤ d.depth
  | .none => by rw [markD]; exact Nat.le_refl _
  | .bool _ => by rw [markD]; exact Nat.le_refl _
  | .int _ => by rw [markD]; exact Nat.le_refl _
  | .str _ => by rw [markD]; exact Nat.le_refl _
  | .dict _ => by rw [markD]; exact Nat.le_refl _
  | .list ds => by
    rw [markD, PyData.depth, PyData.depth]
    have := mark_depthAll1 ds
    omega
  | .tuple ds => by
    rw [markD, PyData.depth, PyData.depth]
    have := mark_depthAll ds
    omega
theorem mark_depthAll : ∀ ds : List PyData, PyData.depthAll (markAll ds) ≤ PyData.depthAll ds
  | [] => by rw [markAll]; exact Nat.le_refl _
  | d :: ds => by
    rw [markAll, PyData.depthAll, PyData.depthAll]
    have := mark_depth d
    have := mark_depthAll ds
    omega
theorem mark_depthAll1 : ∀ ds : List PyData, PyData.depthAll (markAll ds ++ [.str "mark"]) ≤ PyData.depthAll ds
  | [] => by rw [markAll]; exact Nat.le_refl _
  | d :: ds => by
    rw [markAll, List.cons_append, PyData.depthAll, PyData.depthAll]
    have := mark_depth d
    have := mark_depthAll1 ds
    omega
end
theorem mark_none (x : PyData) (h : isStr x = false) : PyData.eqv (markD x) (.str "mark") = false := by
  cases x with
  | none => rw [markD]; rfl
  | bool b => rw [markD]; rfl
  | int i => rw [markD]; rfl
  | str x => cases h
  | list ds => rw [markD, PyData.eqv] <;> simp
  | tuple ds => rw [markD, PyData.eqv] <;> simp
  | dict k => rw [markD, PyData.eqv] <;> simp
theorem mark_once {ds : List PyData} (h : ∀ d ∈ ds, isStr d = false) : (markAll ds ++ [PyData.str "mark"]).countP (fun z => PyData.eqv z (.str "mark")) = 1 := by
  rw [List.countP_append, markAll_map]
  have e0 : (ds.map markD).countP (fun z => PyData.eqv z (.str "mark")) = 0 := List.countP_eq_zero.mpr fun z hz => by
    obtain ⟨d, hd, rfl⟩ := List.mem_map.mp hz
    rw [mark_none d (h d hd)]
    decide
  have e1 : ([PyData.str "mark"]).countP (fun z => PyData.eqv z (.str "mark")) = 1 := by decide +kernel
  rw [e0, e1]
/-! ### what is changed at some lists alone -/
def Ch (S : List Addr) (H H' : Hp) : Prop := ∀ b, b ∉ S → ∀ o, H b = some o → H' b = some o
theorem Ch.ex {S : List Addr} {H H' : Hp} (e : Ex H H') : Ch S H H' := fun b _ o h => e b o h
theorem Ch.trans {S S' S2 : List Addr} {H H1 H2 : Hp} (a : Ch S H H1) (b : Ch S' H1 H2) (h1 : ∀ x ∈ S, x ∈ S2) (h2 : ∀ x ∈ S', x ∈ S2) : Ch S2 H H2 := fun c hc o h => b c (fun z => hc (h2 c z)) o (a c (fun z => hc (h1 c z)) o h)
/-- the parts of a thing, each with its data and its lists -/
abbrev Pt := V × PyData × List Addr
def flat (l : List Pt) : List Addr := (l.map (·.2.2)).flatten
theorem flat_app (l m : List Pt) : flat (l ++ m) = flat l ++ flat m := by
  unfold flat
  rw [List.map_append, List.flatten_append]
theorem mem_flat {l : List Pt} {b : Addr} : b ∈ flat l ↔ ∃ z ∈ l, b ∈ z.2.2 := by
  unfold flat
  rw [List.mem_flatten]
  constructor
  · rintro ⟨S, hS, hb⟩
    obtain ⟨z, hz, rfl⟩ := List.mem_map.mp hS
    exact ⟨z, hz, hb⟩
  · rintro ⟨z, hz, hb⟩
    exact ⟨z.2.2, List.mem_map.mpr ⟨z, hz, rfl⟩, hb⟩
theorem ownAll_parts {H : Hp} : ∀ {xs : List V} {ds : List PyData} {S : List Addr}, OwnAll H xs ds S → ∃ l : List Pt, xs = l.map (·.1) ∧ ds = l.map (·.2.1) ∧ S = flat l ∧ ∀ z ∈ l, Own H z.1 z.2.1 z.2.2
  | _, _, _, .nil => ⟨[], rfl, rfl, rfl, fun _ h => nomatch h⟩
  | _, _, _, .cons h t => by
    obtain ⟨l, e1, e2, e3, k⟩ := ownAll_parts t
    refine ⟨(_, _, _) :: l, by rw [e1]; rfl, by rw [e2]; rfl, by rw [e3]; rfl, fun z hz => ?_⟩
    rcases List.mem_cons.mp hz with rfl | hz
    · exact h
    · exact k z hz
theorem ownAll_of {H : Hp} : ∀ (l : List Pt), (∀ z ∈ l, Own H z.1 (markD z.2.1) z.2.2) → OwnAll H (l.map (·.1)) (markAll (l.map (·.2.1))) (flat l)
  | [], _ => by
    rw [List.map_nil, List.map_nil, markAll]
    exact .nil
  | z :: l, h => by
    rw [List.map_cons, List.map_cons, markAll]
    exact .cons (h z List.mem_cons_self) (ownAll_of l fun y hy => h y (List.mem_cons_of_mem _ hy))
section
variable {K : PySem.W.Frag} {σ : L2.St} {H H' : Hp} {ta tb te tl : TE} {t u : TT} {x y z v : V} {a : Addr} {D : Ends} {tz tu : TS} {g : TG}
theorem el_listT {p : Addr} {xs : List V} (ha : Ev te σ H (.ref p)) (h : SqT K H p xs) : EvL (tCB (rListS K) (tCons te tNil)) σ H xs := fun H1 e Q q =>
  ha H1 e _ fun H2 e2 => ⟨p, xs, rfl, .inr (ex_t (e.trans e2) h), fun l nl => q l _ (fresh_back e2 nl) (e2.trans (Ex.new nl)) upd_same⟩
theorem fo_MT {α : Type} (l : List α) (φ : α → V) (h : Ev tl σ H (.ref a)) (hx : SqT K H a (l.map φ)) (Pv : List α → L2.St → Hp → Prop) (h0 : ∀ H1, Ex H H1 → Pv [] σ H1)
    (hs : ∀ pre z post σ' H', l = pre ++ z :: post → Ex H H' → Pv pre σ' H' → g (φ z) σ' H' fun σ2 H2 => tu { D with nx := fun σ3 H3 => Ex H H3 ∧ Pv (pre ++ [z]) σ3 H3, ct := fun σ3 H3 => Ex H H3 ∧ Pv (pre ++ [z]) σ3 H3, bk := D.nx } σ2 H2)
    (hd : ∀ σ' H', Ex H H' → Pv l σ' H' → D.nx σ' H') : tFor (iTup K tl) g tu D σ H :=
  s_forT h hx (fun i σ' H' => Ex H H' ∧ Pv (l.take i) σ' H') (fun H1 e => ⟨e, h0 H1 e⟩) (fun i σ' H' _ p => ex_t p.1 hx)
    (fun i x σ' H' hi p => by
      rw [List.getElem?_map] at hi
      cases hz : l[i]? with
      | none => rw [hz] at hi; cases hi
      | some z =>
        rw [hz] at hi
        cases hi
        obtain ⟨hlt, e1⟩ := List.getElem?_eq_some_iff.mp hz
        have split : l = l.take i ++ z :: l.drop (i + 1) := by
          rw [← e1, ← List.drop_eq_getElem_cons hlt, List.take_append_drop]
        rw [take_succ_of hz]
        exact hs _ z _ σ' H' split p.1 p.2)
    (fun σ' H' p => hd σ' H' p.1 (by
      have e : l.take (l.map φ).length = l := by rw [List.length_map, List.take_length]
      have p2 := p.2
      rw [e] at p2
      exact p2))
/-! ### _law_marked -/
def spMarked (n : Nat) : Sp := fun vs H Q _ => ∃ (x : V) (d : PyData) (S : List Addr), vs = [x] ∧ Own H x d S ∧ S.Nodup ∧ d.depth < n ∧ fewD d = true ∧ ∀ H', Ch S H H' → Own H' x (markD d) S → Q .non H'
theorem mark_loop {n : Nat} {p : Addr} {l : List Pt} {y0 : Option V} (own : ∀ z ∈ l, Own H z.1 z.2.1 z.2.2) (nd : (flat l).Nodup) (hp : H p = some (.lst (l.map (·.1)))) (pn : p ∉ flat l) (dep : ∀ z ∈ l, z.2.1.depth < n) (few : ∀ z ∈ l, fewD z.2.1 = true)
    (k : ∀ y H', Ch (flat l) H H' → OwnAll H' (l.map (·.1)) (markAll (l.map (·.2.1))) (flat l) → D.nx [some x, y] H') : tFor (iList K (tC (.ref p))) (gName 1) (tDrop (tCall (spMarked n) [] E0 (tCons (tVar 1) tNil))) D [some x, y0] H := by
  refine fo_W l (fun z => z.1) ev_c (sq_of hp) (fun pre σ' H' => (∃ y, σ' = [some x, y]) ∧ (∀ z ∈ pre, z ∈ l) ∧ Ch (flat pre) H H' ∧ ∀ z ∈ pre, Own H' z.1 (markD z.2.1) z.2.2) (fun pre σ' H' ⟨_, sub, ch, _⟩ => sq_of (ch p (fun hm => ?_) _ hp)) (fun H1 e1 => ⟨⟨_, rfl⟩, (fun _ h => nomatch h), Ch.ex e1, fun _ h => nomatch h⟩) ?_ ?_
  · obtain ⟨z, hz, hb⟩ := mem_flat.mp hm
    exact pn (mem_flat.mpr ⟨z, sub z hz, hb⟩)
  · rintro pre z post σ' H' eq ⟨⟨y, rfl⟩, sub, ch, done⟩
    have mz : z ∈ l := by rw [eq]; exact List.mem_append_right _ List.mem_cons_self
    have nd2 := nd
    rw [eq, flat_app] at nd2
    obtain ⟨n1, n2, n3⟩ := List.nodup_append.mp nd2
    have n4 : z.2.2.Nodup := by
      have : flat (z :: post) = z.2.2 ++ flat post := rfl
      rw [this] at n2
      exact (List.nodup_append.mp n2).1
    have zin : ∀ b ∈ z.2.2, b ∈ flat (z :: post) := fun b hb => mem_flat.mpr ⟨z, List.mem_cons_self, hb⟩
    have tups : ∀ b xs, H b = some (.tup xs) → ∀ S : List Addr, (∀ c ∈ S, ∃ ys, H c = some (.lst ys)) → b ∉ S := fun b xs hb S hS hm => by
      obtain ⟨ys, hy⟩ := hS b hm
      rw [hb] at hy
      cases hy
    have lists : ∀ (m : List Pt), (∀ u ∈ m, u ∈ l) → ∀ c ∈ flat m, ∃ ys, H c = some (.lst ys) := fun m hm c hc => by
      obtain ⟨u, hu, hb⟩ := mem_flat.mp hc
      exact (own u (hm u hu)).there c hb
    have oz : Own H' z.1 z.2.1 z.2.2 := (own z mz).stay ⟨fun b hb o ho => ch b (fun hm => n3 b hm b (zin b hb) rfl) o ho, fun b xs hb => ch b (tups b xs hb _ (lists pre sub)) _ hb⟩
    refine inDrop (inCall (goA (ea_one (ev_var rfl)) fun H3 e3 => ⟨z.1, z.2.1, z.2.2, rfl, oz.ex e3, n4, dep z mz, few z mz, fun H4 ch4 o4 => ⟨⟨_, rfl⟩, fun u hu => ?_, ?_, fun u hu => ?_⟩⟩))
    · rcases List.mem_append.mp hu with hu | hu
      · exact sub u hu
      · rw [List.mem_singleton.mp hu]
        exact mz
    · rw [flat_app]
      have ch3 : Ch (flat pre) H H3 := fun b hb o ho => e3 _ _ (ch b hb o ho)
      exact ch3.trans ch4 (fun b hb => List.mem_append_left _ hb) fun b hb => List.mem_append_right _ (mem_flat.mpr ⟨z, List.mem_singleton.mpr rfl, hb⟩)
    · rcases List.mem_append.mp hu with hu | hu
      · have ou := (done u hu).ex e3
        refine ou.stay ⟨fun b hb o ho => ch4 b (fun hm => n3 b (mem_flat.mpr ⟨u, hu, hb⟩) b (zin b hm) rfl) o ho, fun b xs hb => ch4 b (fun hm => ?_) _ hb⟩
        obtain ⟨ys, hy⟩ := (oz.ex e3).there b hm
        rw [hb] at hy
        cases hy
      · rw [List.mem_singleton.mp hu]
        exact o4
  · rintro σ' H' ⟨⟨y, rfl⟩, sub, ch, done⟩
    exact k y H' ch (ownAll_of l done)
end
section
variable {P : Program} {w : World} {K : PySem.W.Frag} {mg : Str → Option Value} {base : Heap}
theorem c__law_marked (T : Tx w K mg) : ∀ n, Callee P w K mg base "_law_marked" (n + 1) ["_law_thing"] (spMarked n) := by
  intro n
  induction n with
  | zero =>
    refine callee_of T.F__law_marked T.g__law_marked sc__law_marked (fun _ _ _ _ _ _ us hl => match us, hl with | [_], _ => rfl) (fun vs H Q E h => ?_) fun cdv A outer s H vs Q E hr h => ?_
    · obtain ⟨x, d, S, rfl, _⟩ := h
      rfl
    · obtain ⟨x, d, S, _, _, _, h, _⟩ := h
      exact absurd h (Nat.not_lt_zero _)
  | succ n C__law_marked =>
    refine callee_of T.F__law_marked T.g__law_marked sc__law_marked (fun _ _ _ _ _ _ us hl => match us, hl with | [_], _ => rfl) (fun vs H Q E h => ?_) fun cdv A outer s H vs Q E hr h => ?_
    · obtain ⟨x, d, S, rfl, _⟩ := h
      rfl
    obtain ⟨x, d, S, rfl, hd, nd, dep, few, q⟩ := h
    refine ⟨_, (pss_cons (ps_if (pt_val (pe_callB (isiTR K) (by rfl) T.b_isinstance (by decide +kernel) (pa_cons (pv 0) (pa_cons (pe_tup (pa_cons (pe_bltn (v := .ty "list") (u := .type "list") (by rfl) T.b_list (by decide +kernel) rfl) (pa_cons (pe_bltn (v := .ty "tuple") (u := .type "tuple") (by rfl) T.b_tuple (by decide +kernel) rfl) pa_nil))) pa_nil)))) (pss_one (ps_for PassesOwn.never rfl (piL K (pe_callTy (listOf K) (by rfl) T.b_list (by decide +kernel) (pa_cons (pv 0) pa_nil))) (pg_name (i := 1) sc__law_marked.nd rfl (Or.inl rfl)) (pss_one (ps_expr (pe_callC C__law_marked hr (Nat.le_refl _) (by rfl) (pa_cons (pv 1) pa_nil)))))) pss_nil)
      (pss_one (ps_if (pt_val (pe_callB (isiR K) (by rfl) T.b_isinstance (by decide +kernel) (pa_cons (pv 0) (pa_cons (pe_bltn (v := .ty "list") (u := .type "list") (by rfl) T.b_list (by decide +kernel) rfl) pa_nil)))) (pss_one (ps_expr (bmK K PySem.F.plainAttrs_list PySem.F.slot_list_append PySem.F.type_list_append mt_append (pv 0) (pa_cons pe_str pa_nil)))) pss_nil))), ?_⟩
    cases hd with
    | non =>
      exact q_when (b := false) (et_B (ev_isLT (ev_var rfl) .non)) (fun z => nomatch z) fun _ H1 e1 => s_when (b := false) (et_B (ev_isL (ev_var rfl) .non)) (fun z => nomatch z) fun _ H2 e2 => q H2 (Ch.ex (e1.trans e2)) (by rw [markD]; exact .non)
    | bl b =>
      exact q_when (b := false) (et_B (ev_isLT (ev_var rfl) (.bl b))) (fun z => nomatch z) fun _ H1 e1 => s_when (b := false) (et_B (ev_isL (ev_var rfl) (.bl b))) (fun z => nomatch z) fun _ H2 e2 => q H2 (Ch.ex (e1.trans e2)) (by rw [markD]; exact .bl b)
    | int i =>
      exact q_when (b := false) (et_B (ev_isLT (ev_var rfl) (.int i))) (fun z => nomatch z) fun _ H1 e1 => s_when (b := false) (et_B (ev_isL (ev_var rfl) (.int i))) (fun z => nomatch z) fun _ H2 e2 => q H2 (Ch.ex (e1.trans e2)) (by rw [markD]; exact .int i)
    | str i =>
      exact q_when (b := false) (et_B (ev_isLT (ev_var rfl) (.str i))) (fun z => nomatch z) fun _ H1 e1 => s_when (b := false) (et_B (ev_isL (ev_var rfl) (.str i))) (fun z => nomatch z) fun _ H2 e2 => q H2 (Ch.ex (e1.trans e2)) (by rw [markD]; exact .str i)
    | @lst a xs ds S0 ha ho =>
      obtain ⟨l, rfl, rfl, rfl, hl⟩ := ownAll_parts ho
      obtain ⟨f1, f2⟩ := few_list few
      rw [List.length_map] at f1
      obtain ⟨an, nd0⟩ := List.nodup_cons.mp nd
      refine q_when (b := true) (et_B (ev_isLT (ev_var rfl) (Own.dp (.lst ha ho)))) (fun _ H1 e1 => ?_) fun z => nomatch z
      refine inFor (goL (el_list (ev_var rfl) (sq_of (e1 _ _ ha))) fun p H2 n2 e2 h2 => ?_)
      have e02 := e1.trans e2
      refine mark_loop (fun z hz => (hl z hz).ex e02) nd0 h2 (fun hm => ?_) (fun z hz => depth_list dep (List.mem_map.mpr ⟨z, hz, rfl⟩)) (fun z hz => f2 _ (List.mem_map.mpr ⟨z, hz, rfl⟩)) fun y H3 ch own3 => ?_
      · obtain ⟨ys, hy⟩ := ho.there p hm
        rw [e1 _ _ hy] at n2
        cases n2
      · have ha3 := ch a an _ (e02 _ _ ha)
        dsimp only
        refine s_when (b := true) (et_B (ev_isiL (ev_var rfl) (sq_of ha3) (by decide +kernel))) (fun _ H4 e4 => ?_) fun z => nomatch z
        refine s_app (e4 _ _ ha3) (ev_var rfl) ev_c (by rw [List.length_map]; omega) fun H5 e5 => q _ (fun b hb o hbo => ?_) ?_
        · have hba : b ≠ a := fun z => hb (z ▸ List.mem_cons_self)
          rw [upd_ne hba]
          exact e5 _ _ (e4 _ _ (ch b (fun hm => hb (List.mem_cons_of_mem _ hm)) _ (e02 _ _ hbo)))
        · rw [markD]
          have own5 := own3.ex (e4.trans e5)
          have ha5 := e5 _ _ (e4 _ _ ha3)
          have stay : Stay (flat l) H5 (upd H5 a (.lst (l.map (·.1) ++ [V.str "mark"]))) := ⟨fun b hb o hbo => by
            rw [upd_ne (show b ≠ a from fun z => an (z ▸ hb))]
            exact hbo, fun b xs hbo => by
            rw [upd_ne (fun z => by rw [z, ha5] at hbo; cases hbo)]
            exact hbo⟩
          have o6 := ownAll_append (own5.stay stay) (.cons (S := []) (.str "mark") .nil)
          rw [List.append_nil, List.append_nil] at o6
          exact .lst upd_same o6
    | @tup a xs ds S0 ha ho =>
      obtain ⟨l, rfl, rfl, rfl, hl⟩ := ownAll_parts ho
      obtain ⟨f1, f2⟩ := few_tup few
      rw [List.length_map] at f1
      refine q_when (b := true) (et_B (ev_isLT (ev_var rfl) (Own.dp (.tup ha ho)))) (fun _ H1 e1 => ?_) fun z => nomatch z
      refine inFor (goL (el_listT (ev_var rfl) (st_of (e1 _ _ ha))) fun p H2 n2 e2 h2 => ?_)
      have e02 := e1.trans e2
      refine mark_loop (fun z hz => (hl z hz).ex e02) nd h2 (fun hm => ?_) (fun z hz => depth_tup dep (List.mem_map.mpr ⟨z, hz, rfl⟩)) (fun z hz => f2 _ (List.mem_map.mpr ⟨z, hz, rfl⟩)) fun y H3 ch own3 => ?_
      · obtain ⟨ys, hy⟩ := ho.there p hm
        rw [e1 _ _ hy] at n2
        cases n2
      · have ha3 : H3 a = some (.tup (l.map (·.1))) := ch a (fun hm => by
          obtain ⟨ys, hy⟩ := ho.there a hm
          rw [ha] at hy
          cases hy) _ (e02 _ _ ha)
        dsimp only
        refine s_when (b := false) (et_B (ev_isiT (ev_var rfl) (st_of ha3) (by decide +kernel))) (fun z => nomatch z) fun _ H4 e4 => q _ (fun b hb o hbo => e4 _ _ (ch b hb _ (e02 _ _ hbo))) ?_
        rw [markD]
        exact .tup (e4 _ _ ha3) (own3.ex e4)
end
end Ol
namespace Ol
open PySem PySem.Spec PyProof.Rows L2 Evl
section
variable {K : PySem.W.Frag} {σ : L2.St} {H H' : Hp} {ta tb te tl : TE} {x y z v : V} {a : Addr}
theorem ev_cnt {ds : List PyData} {d : PyData} {xs : List V} (h : Ev ta σ H (.ref a)) (hx : SqL K H a xs) (h2 : Ev tb σ H y) (hd : Dp K H (.ref a) (.list ds)) (hy : Dp K H y d) (s1 : SeqAt.shaped (.list ds) = true) (s2 : SeqAt.shaped d = true) (hf : d.depth ≤ 60) :
    Ev (tBM K "list" (rCntD K) ta (tCons tb tNil)) σ H (.int ((ds.countP fun z => PyData.eqv z d : Nat) : Int)) := fun H1 e Q q => inBM (h H1 e _ fun H2 e2 => ⟨ty_list (ex_l (e.trans e2) hx), ea_one h2 H2 (e.trans e2) _ fun H3 e3 =>
  ⟨a, y, d, ds, rfl, rfl, Dp.up ((e.trans e2).trans e3) hd, Dp.up ((e.trans e2).trans e3) hy, s1, s2, hf, q H3 (e2.trans e3)⟩⟩)
end
section
variable {P : Program} {w : World} {K : PySem.W.Frag} {mg : Str → Option Value} {base : Heap}
/-! ### _law_once -/
/-- data whose marked form is asked -/
def OnceOk (d : PyData) : Prop := tidy d = true ∧ d.canLay0 = true ∧ d.depth ≤ 60
theorem lay_all : ∀ {ds : List PyData} {d : PyData}, PyData.canLayAll0 ds = true → d ∈ ds → d.canLay0 = true
  | [], _, _, h => nomatch h
  | x :: ds, d, hl, h => by
    rw [PyData.canLayAll0, Bool.and_eq_true] at hl
    rcases List.mem_cons.mp h with rfl | h
    · exact hl.1
    · exact lay_all hl.2 h
theorem once_part {ds : List PyData} (hl : PyData.canLayAll0 ds = true) (ht : ∀ d ∈ ds, tidy d = true) (hd : ∀ d ∈ ds, d.depth ≤ 60) : ∀ d ∈ ds, OnceOk d := fun d h => ⟨ht d h, lay_all hl h, hd d h⟩
def spOnce (K : PySem.W.Frag) (n : Nat) : Sp := fun vs H Q _ => ∃ (x : V) (d : PyData), vs = [x] ∧ Dp K H x (markD d) ∧ OnceOk d ∧ d.depth < n ∧ RetV (.bl true) H Q
theorem c__law_once (T : Tx w K mg) : ∀ n, Callee P w K mg base "_law_once" (n + 1) ["_law_thing"] (spOnce K n) := by
  intro n
  induction n with
  | zero =>
    refine callee_of T.F__law_once T.g__law_once sc__law_once (fun _ _ _ _ _ _ us hl => match us, hl with | [_], _ => rfl) (fun vs H Q E h => ?_) fun cdv A outer s H vs Q E hr h => ?_
    · obtain ⟨x, d, rfl, _⟩ := h
      rfl
    · obtain ⟨x, d, _, _, _, h, _⟩ := h
      exact absurd h (Nat.not_lt_zero _)
  | succ n C__law_once =>
    refine callee_of T.F__law_once T.g__law_once sc__law_once (fun _ _ _ _ _ _ us hl => match us, hl with | [_], _ => rfl) (fun vs H Q E h => ?_) fun cdv A outer s H vs Q E hr h => ?_
    · obtain ⟨x, d, rfl, _⟩ := h
      rfl
    obtain ⟨x, d, rfl, hd, ok, dep, q⟩ := h
    refine ⟨_, (pss_cons (ps_if (PW.pt (pw_and (pt_val (pe_callB (isiR K) (by rfl) T.b_isinstance (by decide +kernel) (pa_cons (pv 0) (pa_cons (pe_bltn (v := .ty "list") (u := .type "list") (by rfl) T.b_list (by decide +kernel) rfl) pa_nil)))) (pw_and1 (pt_cmpR op_ne (bmK K PySem.F.plainAttrs_list PySem.F.slot_list_count PySem.F.type_list_count (mtCnt K hr.units) (pv 0) (pa_cons pe_str pa_nil)) pe_int (nomark _))))) (pss_one (ps_ret pe_bl)) pss_nil)
      (pss_cons (ps_if (pt_val (pe_callB (isiTR K) (by rfl) T.b_isinstance (by decide +kernel) (pa_cons (pv 0) (pa_cons (pe_tup (pa_cons (pe_bltn (v := .ty "list") (u := .type "list") (by rfl) T.b_list (by decide +kernel) rfl) (pa_cons (pe_bltn (v := .ty "tuple") (u := .type "tuple") (by rfl) T.b_tuple (by decide +kernel) rfl) pa_nil))) pa_nil)))) (pss_one (ps_for PassesOwn.never rfl (pi_alt (piL K (pv 0)) (piT K (pv 0))) (pg_name (i := 1) sc__law_once.nd rfl (Or.inl rfl)) (pss_one (ps_if (pt_not (pt_val (pe_callC C__law_once hr (Nat.le_refl _) (by rfl) (pa_cons (pv 1) pa_nil)))) (pss_one (ps_ret pe_bl)) pss_nil)))) pss_nil)
      (pss_one (ps_ret pe_bl)))), ?_⟩
    obtain ⟨ti, lay, d60⟩ := ok
    cases d with
    | none =>
      rw [markD] at hd
      exact q_when (b := false) (et_and (a := false) (b := false) (et_B (ev_isL (ev_var rfl) hd)) fun z => nomatch z) (fun z => nomatch z) fun _ H1 e1 => q_when (b := false) (et_B (ev_isLT (ev_var rfl) (Dp.up e1 hd))) (fun z => nomatch z) fun _ H2 e2 => s_ret ev_c fun H3 e3 => q H3 ((e1.trans e2).trans e3)
    | bool b =>
      rw [markD] at hd
      exact q_when (b := false) (et_and (a := false) (b := false) (et_B (ev_isL (ev_var rfl) hd)) fun z => nomatch z) (fun z => nomatch z) fun _ H1 e1 => q_when (b := false) (et_B (ev_isLT (ev_var rfl) (Dp.up e1 hd))) (fun z => nomatch z) fun _ H2 e2 => s_ret ev_c fun H3 e3 => q H3 ((e1.trans e2).trans e3)
    | int i =>
      rw [markD] at hd
      exact q_when (b := false) (et_and (a := false) (b := false) (et_B (ev_isL (ev_var rfl) hd)) fun z => nomatch z) (fun z => nomatch z) fun _ H1 e1 => q_when (b := false) (et_B (ev_isLT (ev_var rfl) (Dp.up e1 hd))) (fun z => nomatch z) fun _ H2 e2 => s_ret ev_c fun H3 e3 => q H3 ((e1.trans e2).trans e3)
    | str i =>
      rw [markD] at hd
      exact q_when (b := false) (et_and (a := false) (b := false) (et_B (ev_isL (ev_var rfl) hd)) fun z => nomatch z) (fun z => nomatch z) fun _ H1 e1 => q_when (b := false) (et_B (ev_isLT (ev_var rfl) (Dp.up e1 hd))) (fun z => nomatch z) fun _ H2 e2 => s_ret ev_c fun H3 e3 => q H3 ((e1.trans e2).trans e3)
    | dict k =>
      rw [tidy] at ti
      cases ti
    | list ds =>
      rw [markD] at hd
      obtain ⟨t1, t2, t3⟩ := tidy_list_of ti
      have lay0 := lay
      rw [PyData.canLay0] at lay0
      have lay2 := mark_lay _ lay
      have dep2 := mark_depth (.list ds)
      rw [markD] at lay2 dep2
      have shp : SeqAt.shaped (.list (markAll ds ++ [.str "mark"])) = true := Flat.shaped (n := 60) ⟨lay2, by omega⟩ (by omega)
      have dpart : ∀ d ∈ ds, d.depth < n := fun d hd => depth_list dep hd
      have n0 : 0 < n := by
        rw [PyData.depth] at dep
        omega
      cases hd with
      | @lst a xs _ hs ha =>
        obtain ⟨l, rfl, e2, hl⟩ := dpAll_pairs ha
        refine q_when (b := false) (et_and (a := true) (b := false) (et_B (ev_isL (ev_var rfl) (.lst hs ha))) fun _ => et_test (ev_is (ev_op (ev_cnt (d := .str "mark") (ev_var rfl) hs ev_c (.lst hs ha) (.str _) shp ((flat_str (by decide +kernel)).shaped (by omega)) (by decide +kernel)) ev_c (rv_ne rfl)) ?_)) (fun z => nomatch z) fun _ H1 e1 => ?_
        · rw [mark_once t2]
          rfl
        refine q_when (b := true) (et_B (ev_isLT (ev_var rfl) (Dp.up e1 (.lst hs ha)))) (fun _ H2 e2' => ?_) fun z => nomatch z
        have e02 := e1.trans e2'
        refine inForL (fo_M l (fun z => z.1) (ev_var rfl) (ex_l e02 hs) (fun pre σ' H' => ∃ y, σ' = [some (.ref a), y]) (fun _ _ => ⟨_, rfl⟩) ?_ ?_)
        · rintro pre z post σ' H' eq e ⟨y, rfl⟩
          have mz : z ∈ l := by rw [eq]; exact List.mem_append_right _ List.mem_cons_self
          obtain ⟨d', hz, ok', dp'⟩ : ∃ d', z.2 = markD d' ∧ OnceOk d' ∧ d'.depth < n := by
            have hm : z.2 ∈ markAll ds ++ [.str "mark"] := by rw [e2]; exact List.mem_map.mpr ⟨z, mz, rfl⟩
            rcases List.mem_append.mp hm with hm | hm
            · rw [markAll_map] at hm
              obtain ⟨d', hd', e'⟩ := List.mem_map.mp hm
              exact ⟨d', e'.symm, once_part lay0 t3 (fun d hd => by have := dpart d hd; have := depth_list (n := 60) (by omega) hd; omega) d' hd', dpart d' hd'⟩
            · refine ⟨.str "mark", by rw [List.mem_singleton.mp hm, markD], ⟨rfl, by decide +kernel, by decide +kernel⟩, ?_⟩
              show 0 < n
              exact n0
          refine s_when (b := false) (et_not (a := true) (et_B (ev_callV (ea_one (ev_var rfl)) fun H3 e3 Q q => ⟨z.1, d', rfl, ?_, ok', dp', q⟩))) (fun z => nomatch z) fun _ H3 e3 => ⟨e.trans e3, _, rfl⟩
          rw [← hz]
          exact Dp.up ((e02.trans e).trans e3) (hl z mz)
        · rintro σ' H' e ⟨y, rfl⟩
          dsimp only
          exact s_ret ev_c fun H3 e3 => q H3 ((e02.trans e).trans e3)
    | tuple ds =>
      rw [markD] at hd
      obtain ⟨t1, t3⟩ := tidy_tup_of ti
      have lay0 := lay
      rw [PyData.canLay0] at lay0
      have dpart : ∀ d ∈ ds, d.depth < n := fun d hd => depth_tup dep hd
      cases hd with
      | @tup a xs _ hs ha =>
        obtain ⟨l, rfl, e2, hl⟩ := dpAll_pairs ha
        refine q_when (b := false) (et_and (a := false) (b := false) (et_B (ev_isL (ev_var rfl) (.tup hs ha))) fun z => nomatch z) (fun z => nomatch z) fun _ H1 e1 => ?_
        refine q_when (b := true) (et_B (ev_isLT (ev_var rfl) (Dp.up e1 (.tup hs ha)))) (fun _ H2 e2' => ?_) fun z => nomatch z
        have e02 := e1.trans e2'
        refine inForT (fo_MT l (fun z => z.1) (ev_var rfl) (ex_t e02 hs) (fun pre σ' H' => ∃ y, σ' = [some (.ref a), y]) (fun _ _ => ⟨_, rfl⟩) ?_ ?_)
        · rintro pre z post σ' H' eq e ⟨y, rfl⟩
          have mz : z ∈ l := by rw [eq]; exact List.mem_append_right _ List.mem_cons_self
          obtain ⟨d', hz, ok', dp'⟩ : ∃ d', z.2 = markD d' ∧ OnceOk d' ∧ d'.depth < n := by
            have hm : z.2 ∈ markAll ds := by rw [e2]; exact List.mem_map.mpr ⟨z, mz, rfl⟩
            rw [markAll_map] at hm
            obtain ⟨d', hd', e'⟩ := List.mem_map.mp hm
            exact ⟨d', e'.symm, once_part lay0 t3 (fun d hd => by have := depth_tup (n := 60) (by omega) hd; omega) d' hd', dpart d' hd'⟩
          refine s_when (b := false) (et_not (a := true) (et_B (ev_callV (ea_one (ev_var rfl)) fun H3 e3 Q q => ⟨z.1, d', rfl, ?_, ok', dp', q⟩))) (fun z => nomatch z) fun _ H3 e3 => ⟨e.trans e3, _, rfl⟩
          rw [← hz]
          exact Dp.up ((e02.trans e).trans e3) (hl z mz)
        · rintro σ' H' e ⟨y, rfl⟩
          dsimp only
          exact s_ret ev_c fun H3 e3 => q H3 ((e02.trans e).trans e3)
/-! ### _law_emptied -/
theorem c_emp0 (T : Tx w K mg) : Callee P w K mg base "_law_emptied" 1 ["_law_thing"] (fun _ _ _ _ => False) :=
  callee_of T.F__law_emptied T.g__law_emptied sc__law_emptied (fun _ _ _ _ _ _ us hl => match us, hl with | [_], _ => rfl) (fun vs H Q E h => h.elim) fun cdv A outer s H vs Q E hr h => h.elim
def spEmp1 : Sp := fun vs H Q _ => ∃ n : Int, vs = [.int n] ∧ RetV .non H Q
theorem c_emp1 (T : Tx w K mg) : Callee P w K mg base "_law_emptied" 2 ["_law_thing"] spEmp1 := by
  have C__law_emptied := c_emp0 (P := P) (base := base) T
  refine callee_of T.F__law_emptied T.g__law_emptied sc__law_emptied (fun _ _ _ _ _ _ us hl => match us, hl with | [_], _ => rfl) (fun vs H Q E h => ?_) fun cdv A outer s H vs Q E hr h => ?_
  · obtain ⟨n, rfl, _⟩ := h
    rfl
  obtain ⟨n, rfl, q⟩ := h
  refine ⟨_, (pss_cons (ps_if (pt_val (pe_callB (isiTR K) (by rfl) T.b_isinstance (by decide +kernel) (pa_cons (pv 0) (pa_cons (pe_tup (pa_cons (pe_bltn (v := .ty "list") (u := .type "list") (by rfl) T.b_list (by decide +kernel) rfl) (pa_cons (pe_bltn (v := .ty "tuple") (u := .type "tuple") (by rfl) T.b_tuple (by decide +kernel) rfl) pa_nil))) pa_nil)))) (pss_one (ps_for PassesOwn.never rfl (pi_alt (piL K (pv 0)) (piT K (pv 0))) (pg_name (i := 1) sc__law_emptied.nd rfl (Or.inl rfl)) (pss_one (ps_expr (pe_callC C__law_emptied hr (Nat.le_refl _) (by rfl) (pa_cons (pv 1) pa_nil)))))) pss_nil)
      (pss_one (ps_if (pt_val (pe_callB (isiR K) (by rfl) T.b_isinstance (by decide +kernel) (pa_cons (pv 0) (pa_cons (pe_bltn (v := .ty "list") (u := .type "list") (by rfl) T.b_list (by decide +kernel) rfl) pa_nil)))) (pss_one (ps_expr (bm0K K PySem.F.plainAttrs_list PySem.F.slot_list_clear PySem.F.type_list_clear mt_clear (pv 0)))) pss_nil))), ?_⟩
  exact q_when (b := false) (et_B (ev_isLT (ev_var rfl) (.int n))) (fun z => nomatch z) fun _ H1 e1 => s_when (b := false) (et_B (ev_isL (ev_var rfl) (.int n))) (fun z => nomatch z) fun _ H2 e2 => q H2 (e1.trans e2)
def spEmp2 : Sp := fun vs H Q _ => ∃ (a : Addr) (ns : List Int), vs = [.ref a] ∧ H a = some (.lst (ns.map V.int)) ∧ ∀ H', But a H H' → Q .non H'
theorem c_emp2 (T : Tx w K mg) : Callee P w K mg base "_law_emptied" 3 ["_law_thing"] spEmp2 := by
  have C__law_emptied := c_emp1 (P := P) (base := base) T
  refine callee_of T.F__law_emptied T.g__law_emptied sc__law_emptied (fun _ _ _ _ _ _ us hl => match us, hl with | [_], _ => rfl) (fun vs H Q E h => ?_) fun cdv A outer s H vs Q E hr h => ?_
  · obtain ⟨a, ns, rfl, _⟩ := h
    rfl
  obtain ⟨a, ns, rfl, ha, q⟩ := h
  refine ⟨_, (pss_cons (ps_if (pt_val (pe_callB (isiTR K) (by rfl) T.b_isinstance (by decide +kernel) (pa_cons (pv 0) (pa_cons (pe_tup (pa_cons (pe_bltn (v := .ty "list") (u := .type "list") (by rfl) T.b_list (by decide +kernel) rfl) (pa_cons (pe_bltn (v := .ty "tuple") (u := .type "tuple") (by rfl) T.b_tuple (by decide +kernel) rfl) pa_nil))) pa_nil)))) (pss_one (ps_for PassesOwn.never rfl (pi_alt (piL K (pv 0)) (piT K (pv 0))) (pg_name (i := 1) sc__law_emptied.nd rfl (Or.inl rfl)) (pss_one (ps_expr (pe_callC C__law_emptied hr (Nat.le_refl _) (by rfl) (pa_cons (pv 1) pa_nil)))))) pss_nil)
      (pss_one (ps_if (pt_val (pe_callB (isiR K) (by rfl) T.b_isinstance (by decide +kernel) (pa_cons (pv 0) (pa_cons (pe_bltn (v := .ty "list") (u := .type "list") (by rfl) T.b_list (by decide +kernel) rfl) pa_nil)))) (pss_one (ps_expr (bm0K K PySem.F.plainAttrs_list PySem.F.slot_list_clear PySem.F.type_list_clear mt_clear (pv 0)))) pss_nil))), ?_⟩
  refine q_when (b := true) (et_B (ev_isLT (ev_var rfl) (dp_I (sq_of ha)))) (fun _ H1 e1 => ?_) fun z => nomatch z
  refine inForL (fo_M ns V.int (ev_var rfl) (sq_of (e1 _ _ ha)) (fun pre σ' H' => ∃ y, σ' = [some (.ref a), y]) (fun _ _ => ⟨_, rfl⟩) ?_ ?_)
  · rintro pre z post σ' H' eq e ⟨y, rfl⟩
    exact s_drop (ev_callV (v := .non) (ea_one (ev_var rfl)) fun H3 e3 Q q => ⟨z, rfl, q⟩) fun H3 e3 => ⟨e.trans e3, _, rfl⟩
  · rintro σ' H' e ⟨y, rfl⟩
    dsimp only
    have ha2 := e _ _ (e1 _ _ ha)
    refine s_when (b := true) (et_B (ev_isiL (ev_var rfl) (sq_of ha2) (by decide +kernel))) (fun _ H3 e3 => ?_) fun z => nomatch z
    exact inDrop (inBM0 (go (ev_var rfl) fun H4 e4 => ⟨ty_list (sq_of (e4 _ _ (e3 _ _ ha2))), a, _, rfl, rfl, e4 _ _ (e3 _ _ ha2), q _ ((But.ex (((e1.trans e).trans e3).trans e4)).trans But.upd)⟩))
end
end Ol
namespace Ol
open PySem PySem.Spec PyProof.Rows L2 Evl
/-! ### things, read off their data -/
theorem own_ints_inv {H : Hp} : ∀ {ns : List Int} {xs : List V} {S : List Addr}, OwnAll H xs (ns.map PyData.int) S → xs = ns.map V.int ∧ S = []
  | [], _, _, .nil => ⟨rfl, rfl⟩
  | n :: ns, _, _, .cons (.int _) t => by
    obtain ⟨h1, h2⟩ := own_ints_inv t
    rw [h1, h2]
    exact ⟨rfl, rfl⟩
theorem own_I_inv {H : Hp} {v : V} {ns : List Int} {S : List Addr} (h : Own H v (dI ns) S) : ∃ a, v = .ref a ∧ H a = some (.lst (ns.map V.int)) ∧ S = [a] := by
  unfold dI at h
  cases h with
  | lst h k =>
    obtain ⟨e1, e2⟩ := own_ints_inv k
    subst e1 e2
    exact ⟨_, rfl, h, rfl⟩
theorem own_ties_inv {H : Hp} : ∀ {ts : List Tie} {xs : List V} {S : List Addr}, OwnAll H xs (ts.map fun t => PyData.tuple [.int t.1, .int t.2]) S → ∃ l : List (Addr × Tie), xs = l.map (fun t => V.ref t.1) ∧ l.map (·.2) = ts ∧ (∀ t ∈ l, H t.1 = some (.tup [.int t.2.1, .int t.2.2])) ∧ S = []
  | [], _, _, .nil => ⟨[], rfl, rfl, (fun _ h => nomatch h), rfl⟩
  | t :: ts, _, _, .cons h k => by
    obtain ⟨l, e1, e2, e3, e4⟩ := own_ties_inv k
    cases h with
    | @tup a _ _ _ h kk =>
      cases kk with
      | cons a1 k1 =>
        cases a1
        cases k1 with
        | cons a2 k2 =>
          cases a2
          cases k2
          refine ⟨(a, t) :: l, by rw [e1]; rfl, by rw [List.map_cons, e2], fun z hz => ?_, by rw [e4]; rfl⟩
          rcases List.mem_cons.mp hz with rfl | hz
          · exact h
          · exact e3 z hz
theorem own_T_inv {H : Hp} {v : V} {ts : List Tie} {S : List Addr} (h : Own H v (dT ts) S) : ∃ a, ∃ l : List (Addr × Tie), v = .ref a ∧ H a = some (.lst (l.map fun t => V.ref t.1)) ∧ l.map (·.2) = ts ∧ (∀ t ∈ l, H t.1 = some (.tup [.int t.2.1, .int t.2.2])) ∧ S = [a] := by
  unfold dT at h
  cases h with
  | lst h k =>
    obtain ⟨l, e1, e2, e3, e4⟩ := own_ties_inv k
    subst e1 e4
    exact ⟨_, l, rfl, h, e2, e3, rfl⟩
theorem own_lists_inv {H : Hp} : ∀ {rs : List (List Int)} {xs : List V} {S : List Addr}, OwnAll H xs (rs.map dI) S → ∃ l : List (Addr × List Int), xs = l.map (fun t => V.ref t.1) ∧ l.map (·.2) = rs ∧ (∀ t ∈ l, H t.1 = some (.lst (t.2.map V.int))) ∧ S = l.map (·.1)
  | [], _, _, .nil => ⟨[], rfl, rfl, (fun _ h => nomatch h), rfl⟩
  | r :: rs, _, _, .cons (S := S1) h k => by
    obtain ⟨a, rfl, ha, rfl⟩ := own_I_inv h
    obtain ⟨l, e1, e2, e3, e4⟩ := own_lists_inv k
    refine ⟨(a, r) :: l, by rw [e1]; rfl, by rw [List.map_cons, e2], fun z hz => ?_, by rw [e4]; rfl⟩
    rcases List.mem_cons.mp hz with rfl | hz
    · exact ha
    · exact e3 z hz
theorem own_L_inv {H : Hp} {v : V} {rs : List (List Int)} {S : List Addr} (h : Own H v (dL rs) S) : ∃ a, ∃ l : List (Addr × List Int), v = .ref a ∧ H a = some (.lst (l.map fun t => V.ref t.1)) ∧ l.map (·.2) = rs ∧ (∀ t ∈ l, H t.1 = some (.lst (t.2.map V.int))) ∧ S = a :: l.map (·.1) := by
  unfold dL at h
  cases h with
  | lst h k =>
    obtain ⟨l, e1, e2, e3, e4⟩ := own_lists_inv k
    subst e1 e4
    exact ⟨_, l, rfl, h, e2, e3, rfl⟩
/-- the law's things, part by part -/
structure ThP (H : Hp) (c n t f g p q1 q2 z1 z2 : Addr) (ts : List (Addr × Tie)) (ps : List (Addr × List Int)) (names gone : List Int) (a b x d e y u v : Int) : Prop where
  hc : H c = some (.lst [.ref n, .ref t, .ref f, .ref g, .ref p])
  hn : H n = some (.lst (names.map V.int))
  ht : H t = some (.lst (ts.map fun t => V.ref t.1))
  hts : ∀ t ∈ ts, H t.1 = some (.tup [.int t.2.1, .int t.2.2])
  hf : H f = some (.lst (ps.map fun p => V.ref p.1))
  hps : ∀ p ∈ ps, H p.1 = some (.lst (p.2.map V.int))
  hg : H g = some (.lst (gone.map V.int))
  hp : H p = some (.lst [.str "cross", .ref q1, .ref q2])
  h1 : H q1 = some (.lst ([a, b, x, d].map V.int))
  h2 : H q2 = some (.lst [.ref z1, .ref z2])
  h3 : H z1 = some (.lst ([e, y].map V.int))
  h4 : H z2 = some (.lst ([u, v].map V.int))
theorem ThP.ex {H H' : Hp} {c n t f g p q1 q2 z1 z2 : Addr} {ts : List (Addr × Tie)} {ps : List (Addr × List Int)} {names gone : List Int} {a b x d e y u v : Int} (T : ThP H c n t f g p q1 q2 z1 z2 ts ps names gone a b x d e y u v) (k : Ex H H') : ThP H' c n t f g p q1 q2 z1 z2 ts ps names gone a b x d e y u v :=
  ⟨k _ _ T.hc, k _ _ T.hn, k _ _ T.ht, fun z hz => k _ _ (T.hts z hz), k _ _ T.hf, fun z hz => k _ _ (T.hps z hz), k _ _ T.hg, k _ _ T.hp, k _ _ T.h1, k _ _ T.h2, k _ _ T.h3, k _ _ T.h4⟩
theorem own_th {H : Hp} {w : V} {names : List Int} {ties : List Tie} {rs : List (List Int)} {gone : List Int} {a b x d e y u v : Int} {S : List Addr} (h : Own H w (dTh names ties rs gone (dPaper a b x d e y u v)) S) :
    ∃ c n t f g p q1 q2 z1 z2 ts ps, w = .ref c ∧ ThP H c n t f g p q1 q2 z1 z2 ts ps names gone a b x d e y u v ∧ ts.map (·.2) = ties ∧ ps.map (·.2) = rs ∧ n ∈ S ∧ (S.Nodup → f ≠ n ∧ ∀ z ∈ ps, z.1 ≠ n) := by
  unfold dTh dPaper at h
  cases h with
  | lst hc k =>
    cases k with
    | cons o1 k =>
      cases k with
      | cons o2 k =>
        cases k with
        | cons o3 k =>
          cases k with
          | cons o4 k =>
            cases k with
            | cons o5 k =>
              cases k
              obtain ⟨n, rfl, hn, rfl⟩ := own_I_inv o1
              obtain ⟨t, ts, rfl, ht, e2, hts, rfl⟩ := own_T_inv o2
              obtain ⟨f, ps, rfl, hf, e3, hps, rfl⟩ := own_L_inv o3
              obtain ⟨g, rfl, hg, rfl⟩ := own_I_inv o4
              cases o5 with
              | lst hp k =>
                cases k with
                | cons s1 k =>
                  cases k with
                  | cons s2 k =>
                    cases k with
                    | cons s3 k =>
                      cases k
                      cases s1
                      obtain ⟨q1, rfl, h1, rfl⟩ := own_I_inv s2
                      obtain ⟨q2, l, rfl, h2, e4, h34, rfl⟩ := own_L_inv s3
                      obtain ⟨⟨z1, l1⟩, ⟨z2, l2⟩, rfl⟩ : ∃ u v, l = [u, v] := by
                        have := congrArg List.length e4
                        match l, this with
                        | [u, v], _ => exact ⟨u, v, rfl⟩
                      injection e4 with m1 m2
                      injection m2 with m2 _
                      have h3 := h34 (z1, l1) (by simp)
                      have h4 := h34 (z2, l2) (by simp)
                      have m1 : l1 = [e, y] := m1
                      have m2 : l2 = [u, v] := m2
                      subst m1 m2
                      refine ⟨_, n, t, f, g, _, q1, q2, z1, z2, ts, ps, rfl, ⟨hc, hn, ht, hts, hf, hps, hg, hp, h1, h2, h3, h4⟩, e2, e3, List.mem_cons_of_mem _ (List.mem_append_left _ (List.mem_singleton.mpr rfl)), fun nd => ?_⟩
                      have nd1 := (List.nodup_cons.mp nd).2
                      obtain ⟨_, _, dis⟩ := List.nodup_append.mp nd1
                      have key : ∀ b ∈ f :: ps.map (·.1), b ≠ n := fun b hb e => by
                        refine dis n (List.mem_singleton.mpr rfl) b ?_ e.symm
                        exact List.mem_append_right _ (List.mem_append_left _ hb)
                      exact ⟨key f List.mem_cons_self, fun z hz => key z.1 (List.mem_cons_of_mem _ (List.mem_map.mpr ⟨z, hz, rfl⟩))⟩
theorem gUnl5 {K : PySem.W.Frag} {σ : L2.St} {H : Hp} {p : Addr} {x1 x2 x3 x4 x5 : V} {i1 i2 i3 i4 i5 : Nat} {Q : L2.St → Hp → Prop} (h : SqL K H p [x1, x2, x3, x4, x5]) (q : Q (((((σ.set i1 (some x1)).set i2 (some x2)).set i3 (some x3)).set i4 (some x4)).set i5 (some x5)) H) :
    gUnl K 5 (gCons (gName i1) (gCons (gName i2) (gCons (gName i3) (gCons (gName i4) (gCons (gName i5) gNil))))) (.ref p) σ H Q := ⟨p, _, rfl, h, rfl, x1, _, rfl, x2, _, rfl, x3, _, rfl, x4, _, rfl, x5, [], rfl, rfl, q⟩
theorem ThW.fk {names : List Int} {ts : List (Addr × Tie)} {ps : List (Addr × List Int)} {gone : List Int} (W : ThW names (ts.map (·.2)) (ps.map (·.2)) gone) : Fk names ps :=
  ⟨W.tree.up, W.tree.pos, W.tree.few, W.tree.some, fun p hp => W.perm p.2 (List.mem_map.mpr ⟨p, hp, rfl⟩), by have := W.least; rwa [List.length_map] at this, by have := W.most; rw [List.length_map] at this; omega⟩
section
variable {P : Program} {w : World} {K : PySem.W.Frag} {mg : Str → Option Value} {base : Heap}
/-! ### _law_call -/
def spCall : Sp := fun vs H Q _ => ∃ (i : Int) (x : V) (d : PyData) (S : List Addr), vs = [.int i, x] ∧ 0 ≤ i ∧ i ≤ 10 ∧ Own H x d S ∧ ThD d ∧ Told H Q
theorem c__law_call (T : Tx w K mg) (C_is_tree : Callee P w K mg base "is_tree" 5 ["names", "thing"] (spTreeOk K (.bl true))) (C_first_apart : Callee P w K mg base "first_apart" 5 ["tree", "ranking"] (spFirst K)) (C_options : Callee P w K mg base "options" 7 ["folk", "gone", "name"] (spOptions K)) (C_tree_told : Callee P w K mg base "tree_told" 6 ["folk"] (spTold K)) (C_tree_judged : Callee P w K mg base "tree_judged" 7 ["folk", "paper"] (spJudged K)) (C_trees_many : Callee P w K mg base "trees_many" 6 ["folk"] (spMany K)) (C_tree_by : Callee P w K mg base "tree_by" 7 ["folk", "number"] (spTreeBy K)) (C_balance : Callee P w K mg base "balance" 7 ["folk", "tree"] (spBalance K)) (C_folk_text : Callee P w K mg base "folk_text" 6 ["folk"] (spFolkText K)) (C_read_folk : Callee P w K mg base "read_folk" 5 ["text"] spReadFolk) (C_paper_text : Callee P w K mg base "paper_text" 6 ["paper"] (spPaperT K)) (C_read_paper : Callee P w K mg base "read_paper" 4 ["text"] spReadPaper) (C_read_ranking : Callee P w K mg base "read_ranking" 5 ["word"] spRankOf) : Callee P w K mg base "_law_call" 8 ["_law_which", "_law_things_here"] spCall := by
  refine callee_of T.F__law_call T.g__law_call sc__law_call (fun _ _ _ _ _ _ us hl => match us, hl with | [_, _], _ => rfl) (fun vs H Q E h => ?_) fun cdv A outer s H vs Q E hr h => ?_
  · obtain ⟨i, x0, d0, S, rfl, i0, i1, own, th, q⟩ := h
    rfl
  obtain ⟨i, x0, d0, S, rfl, i0, i1, own, th, q⟩ := h
  refine ⟨_, (pss_cons (ps_asg (pv 1) (unlG K (n := 5) (pgs_cons (pg_name (i := 2) sc__law_call.nd rfl (Or.inl rfl)) (pgs_cons (pg_name (i := 3) sc__law_call.nd rfl (Or.inl rfl)) (pgs_cons (pg_name (i := 4) sc__law_call.nd rfl (Or.inr rfl)) (pgs_cons (pg_name (i := 5) sc__law_call.nd rfl (Or.inl rfl)) (pgs_cons (pg_name (i := 6) sc__law_call.nd rfl (Or.inl rfl)) pgs_nil)))))))
      (pss_cons (ps_if (pt_cmpR op_eq (pv 0) pe_int (nomark _)) (pss_one (ps_ret (pe_callC C_is_tree hr (by decide) (by rfl) (pa_cons (pv 2) (pa_cons (pv 3) pa_nil))))) pss_nil)
      (pss_cons (ps_if (pt_cmpR op_eq (pv 0) pe_int (nomark _)) (pss_one (ps_ret (pe_callC C_first_apart hr (by decide) (by rfl) (pa_cons (pv 3) (pa_cons (pe_ix (ixL K) (pv 4) pe_int (fun _ _ => rfl)) pa_nil))))) pss_nil)
      (pss_cons (ps_if (pt_cmpR op_eq (pv 0) pe_int (nomark _)) (pss_one (ps_ret (pe_callC C_options hr (by decide) (by rfl) (pa_cons (pv 4) (pa_cons (pv 5) (pa_cons (pe_ix (ixL K) (pv 2) pe_int (fun _ _ => rfl)) pa_nil)))))) pss_nil)
      (pss_cons (ps_if (pt_cmpR op_eq (pv 0) pe_int (nomark _)) (pss_one (ps_ret (pe_callC C_tree_told hr (by decide) (by rfl) (pa_cons (pv 4) pa_nil)))) pss_nil)
      (pss_cons (ps_if (pt_cmpR op_eq (pv 0) pe_int (nomark _)) (pss_one (ps_ret (pe_callC C_tree_judged hr (by decide) (by rfl) (pa_cons (pv 4) (pa_cons (pe_tup (pa_cons pe_str (pa_cons (pv 3) pa_nil))) pa_nil))))) pss_nil)
      (pss_cons (ps_if (pt_cmpR op_eq (pv 0) pe_int (nomark _)) (pss_one (ps_ret (pe_lc (own := [("_law_k", 7)]) rfl sc__law_call.nd (pi_range1 (by rfl) T.b_range (pa_cons (pe_callTy call_int1 (by rfl) T.b_int (by decide +kernel) (pa_cons (pe_cmpR op_gt (pe_callC C_trees_many hr (by decide) (by rfl) (pa_cons (pv 4) pa_nil)) pe_int (nomark _)) pa_nil)) pa_nil)) (blkOk_by (by kernel_rfl)) (fun _ _ _ _ _ => (pg_name (i := 7) sc__law_call.nd rfl (Or.inl rfl))) (fun _ _ _ _ _ => pts_nil) (fun _ _ _ _ _ => (pe_callC C_tree_by hr (by decide) (by rfl) (pa_cons (pv 4) (pa_cons pe_int pa_nil))))))) pss_nil)
      (pss_cons (ps_if (pt_cmpR op_eq (pv 0) pe_int (nomark _)) (pss_one (ps_ret (pe_callC C_balance hr (by decide) (by rfl) (pa_cons (pv 4) (pa_cons (pv 3) pa_nil))))) pss_nil)
      (pss_cons (ps_if (pt_cmpR op_eq (pv 0) pe_int (nomark _)) (pss_one (ps_ret (pe_callC C_read_folk hr (by decide) (by rfl) (pa_cons (pe_callC C_folk_text hr (by decide) (by rfl) (pa_cons (pv 4) pa_nil)) pa_nil)))) pss_nil)
      (pss_cons (ps_if (pt_cmpR op_eq (pv 0) pe_int (nomark _)) (pss_one (ps_ret (pe_callC C_read_paper hr (by decide) (by rfl) (pa_cons (pe_callC C_paper_text hr (by decide) (by rfl) (pa_cons (pe_tup (pa_cons (pe_ix (ixL K) (pv 6) pe_int (fun _ _ => rfl)) (pa_cons (pe_ix (ixL K) (pv 6) pe_int (fun _ _ => rfl)) (pa_cons (pe_ix (ixL K) (pv 6) pe_int (fun _ _ => rfl)) pa_nil)))) pa_nil)) pa_nil)))) pss_nil)
      (pss_cons (ps_if (pt_cmpR op_eq (pv 0) pe_int (nomark _)) (pss_one (ps_ret (pe_callC C_read_ranking hr (by decide) (by rfl) (pa_cons (joinK K pe_str (pe_lc (own := [("_law_name", 8)]) rfl sc__law_call.nd (piL K (pe_ix (ixL K) (pv 4) pe_int (fun _ _ => rfl))) (blkOk_by (by kernel_rfl)) (fun _ _ _ _ _ => (pg_name (i := 8) sc__law_call.nd rfl (Or.inl rfl))) (fun _ _ _ _ _ => pts_nil) (fun _ _ _ _ _ => (pe_callTy call_str_int (by rfl) T.b_str (by decide +kernel) (pa_cons (pv 8) pa_nil))))) pa_nil)))) pss_nil)
      (pss_one (ps_ret (pe_callC C_tree_judged hr (by decide) (by rfl) (pa_cons (pv 4) (pa_cons (pe_tup (pa_cons pe_str (pa_cons (pe_slice (slL K) (pv 2) po_none (po_some pe_int)) pa_nil))) pa_nil)))))))))))))))), ?_⟩
  obtain ⟨names, ties, rs, gone, a, b, x, d, e, y, u, v, rfl, W, ok⟩ := th
  obtain ⟨c, n, t, f, g, p, q1, q2, z1, z2, ts, ps, rfl, Z, rfl, rfl, _, _⟩ := own_th own
  have F := W.fk
  have f1 := F.least
  have six := W.six
  have two := W.two
  obtain ⟨p0, hp0⟩ : ∃ p0, ps[0]? = some p0 := ⟨ps[0], List.getElem?_eq_getElem f1⟩
  have m0 : p0 ∈ ps := List.mem_of_getElem? hp0
  have pm0 := F.perm p0 m0
  have ok0 : ∀ n ∈ p0.2, NumOk n := fun n hn => W.ok n (pm0.mem_iff.mp hn)
  have len0 : p0.2.length ≤ 10 := by rw [pm0.length_eq]; omega
  have LLf : ∀ H1, Ex H H1 → LL K H1 f ps := fun H1 e => ⟨sq_of (e _ _ Z.hf), fun z hz => sq_of (e _ _ (Z.hps z hz))⟩
  have LTt : ∀ H1, Ex H H1 → LT K H1 t ts := fun H1 e => ⟨sq_of (e _ _ Z.ht), fun z hz => st_of (e _ _ (Z.hts z hz))⟩
  have LIn : ∀ H1, Ex H H1 → LI K H1 n names := fun H1 e => sq_of (e _ _ Z.hn)
  refine inSeq (inAsg (go (ev_var rfl) fun H1 e1 => gUnl5 (sq_of (e1 _ _ Z.hc)) ?_))
  dsimp only
  have fst : ∀ H2, Ex H H2 → Ev (tOp (rIxL K) (tVar 4) (tC (.int 0))) [some (.int i), some (.ref c), some (.ref n), some (.ref t), some (.ref f), some (.ref g), some (.ref p), none, none] H2 (.ref p0.1) := fun H2 e => ev_ixL (ev_var rfl) ev_c (LLf H2 e).1 (at0 (fun z : Addr × List Int => V.ref z.1) hp0)
  -- 0
  refine q_when (et_test (ev_op (ev_var rfl) ev_c (rv_eq rfl))) (fun _ H2 e2 => ?_) fun b0 H2 e2 => ?_
  · have e02 := e1.trans e2
    exact inRet (inCall (goA (ea_two (ev_var rfl) (ev_var rfl)) fun H3 e3 => ⟨n, t, names, ts, rfl, LIn _ (e02.trans e3), LTt _ (e02.trans e3), W.tree, fun H4 e4 => q.bl ((e02.trans e3).trans e4) true⟩))
  -- 1
  refine q_when (et_test (ev_op (ev_var rfl) ev_c (rv_eq rfl))) (fun _ H3 e3 => ?_) fun b1 H3 e3 => ?_
  · have e03 := (e1.trans e2).trans e3
    refine inRet (inCall (goA (ea_two (ev_var rfl) (fst H3 e03)) fun H4 e4 => ⟨t, p0.1, names, ts, p0.2, rfl, LTt _ (e03.trans e4), (LLf _ (e03.trans e4)).2 p0 m0, pm0, W.tree, fun v H5 e5 hv => ?_⟩))
    rcases hv with rfl | ⟨m, rfl⟩
    · exact q.non ((e03.trans e4).trans e5)
    · exact q.int ((e03.trans e4).trans e5) m
  -- 2
  refine q_when (et_test (ev_op (ev_var rfl) ev_c (rv_eq rfl))) (fun _ H4 e4 => ?_) fun b2 H4 e4 => ?_
  · have e04 := ((e1.trans e2).trans e3).trans e4
    obtain ⟨x1, x2, more, hnm⟩ : ∃ x1 x2 more, names = x1 :: x2 :: more := by
      match names, two with
      | x1 :: x2 :: more, _ => exact ⟨x1, x2, more, rfl⟩
    have ndn := up_nd W.tree.up
    have hn1 : names[0]? = some x1 := by rw [hnm]; rfl
    have gsub : gone.Sublist more := by have := W.gone; rw [hnm] at this; exact this
    rw [hnm] at ndn
    obtain ⟨k1, k2⟩ := List.nodup_cons.mp ndn
    obtain ⟨k3, k4⟩ := List.nodup_cons.mp k2
    have hin : ∀ z ∈ gone, z ∈ more := fun z hz => gsub.subset hz
    refine inRet (inCall (goA (ea_three (ev_var rfl) (ev_var rfl) (ev_ixL (ev_var rfl) ev_c (LIn _ e04) (at0 V.int hn1))) fun H5 e5 => ⟨f, g, ps, names, gone, x1, x2, rfl, LLf _ (e04.trans e5), F, sq_of ((e04.trans e5) _ _ Z.hg), k4.sublist gsub, fun z hz => by rw [hnm]; exact List.mem_cons_of_mem _ (List.mem_cons_of_mem _ (hin z hz)),
      by rw [hnm]; exact List.mem_cons_self, by rw [hnm]; exact List.mem_cons_of_mem _ List.mem_cons_self, fun z => k1 (z ▸ List.mem_cons_self), fun hz => k1 (List.mem_cons_of_mem _ (hin _ hz)), fun hz => k3 (hin _ hz), fun ns hl p6 H6 n6 e6 h6 => q.ints ((e04.trans e5).trans e6) (fresh_back (e04.trans e5) n6) h6 (by omega)⟩))
  -- 3
  refine q_when (et_test (ev_op (ev_var rfl) ev_c (rv_eq rfl))) (fun _ H5 e5 => ?_) fun b3 H5 e5 => ?_
  · have e05 := (((e1.trans e2).trans e3).trans e4).trans e5
    exact inRet (inCall (goA (ea_one (ev_var rfl)) fun H6 e6 => ⟨f, ps, names, rfl, LLf _ (e05.trans e6), F, q.go (e05.trans e6)⟩))
  -- 4
  refine q_when (et_test (ev_op (ev_var rfl) ev_c (rv_eq rfl))) (fun _ H6 e6 => ?_) fun b4 H6 e6 => ?_
  · have e06 := ((((e1.trans e2).trans e3).trans e4).trans e5).trans e6
    refine inRet (inCall (inCons (go (ev_var rfl) fun H7 e7 => inCons (inTup (goA (ea_two ev_c (ev_var rfl)) fun H8 e8 => ⟨by show 2 ≤ sizeLine; decide, fun tp nt => ?_⟩)))))
    have e09 : Ex H (upd H8 tp (.tup [.str "tree", .ref t])) := ((e06.trans e7).trans e8).trans (Ex.new nt)
    exact ⟨f, tp, t, _, ps, names, rfl, LLf _ e09, F, st_of upd_same, .inl ⟨rfl, ts, LTt _ e09, W.tree⟩, q.go e09⟩
  -- 5
  refine q_when (et_test (ev_op (ev_var rfl) ev_c (rv_eq rfl))) (fun _ H7 e7 => ?_) fun b5 H7 e7 => ?_
  · have e07 := (((((e1.trans e2).trans e3).trans e4).trans e5).trans e6).trans e7
    refine inRet (inLcR (inCB (inCons (inOp (inCall (goA (ea_one (ev_var rfl)) fun H8 e8 => ⟨f, ps, names, rfl, LLf _ (e07.trans e8), F, fun H9 e9 => go ev_c fun HA eA => ⟨_, _, rfl, rfl, .inr ⟨_, rfl, ?_⟩⟩⟩))))))
    have e0A := ((e07.trans e8).trans e9).trans eA
    by_cases pos : 0 < prodM (takenM (ps.map (·.2)) names.length names)
    · have hb : decide (((prodM (takenM (ps.map (·.2)) names.length names) : Nat) : Int) > 0) = true := decide_eq_true (by omega)
      rw [hb]
      refine lc_R (m := 1) (fun D i acc H' => Ex HA H' ∧ H' D = some (.lst acc) ∧ ((i = 0 ∧ acc = []) ∨ (i = 1 ∧ ∃ pq ys, acc = [V.ref pq] ∧ HA pq = none ∧ pq ≠ D ∧ H' pq = some (.lst ys) ∧ Pairs H' ys ∧ ys.length ≤ 10))) (by omega) (fun _ => rfl) (fun D hD => ⟨Ex.new hD, upd_same, .inl ⟨rfl, rfl⟩⟩) ?_ ?_
      · intro D i acc H' hD hi pv h1 Q k
        obtain ⟨ee, _, alt⟩ := pv
        obtain ⟨rfl, rfl⟩ : i = 0 ∧ acc = [] := by
          rcases alt with h | h
          · exact h
          · omega
        refine inCall (goA (ea_two (ev_var rfl) ev_c) fun HB eB => ⟨f, ps, names, rfl, LLf _ ((e0A.trans ee).trans eB), F, pos, fun pq ys HC nq eC hq pr ly => ?_⟩)
        have qD : pq ≠ D := fun zz => by rw [zz, eB _ _ h1] at nq; cases nq
        have hDC := eC _ _ (eB _ _ h1)
        refine k _ _ hDC ⟨Ex.mut (((ee.trans eB).trans eC)) hD, upd_same, .inr ⟨rfl, pq, ys, rfl, fresh_back (ee.trans eB) nq, qD, by rw [upd_ne qD]; exact hq, fun z hz => ?_, ly⟩⟩
        obtain ⟨t2, j1, j2, rfl, k2⟩ := pr z hz
        refine ⟨t2, j1, j2, rfl, ?_⟩
        rw [upd_ne (fun zz => by rw [zz, hDC] at k2; cases k2)]
        exact k2
      · intro D acc H' hD pv h1 hl
        obtain ⟨ee, _, alt⟩ := pv
        rcases alt with ⟨h, _⟩ | ⟨_, pq, ys, rfl, nq, qD, hq, pr, ly⟩
        · cases h
        · obtain ⟨ds, od, ld, kd⟩ := own_pairs pr
          obtain ⟨fl, ti⟩ := pairs_ok kd (by omega)
          exact q (.ref D) (.list [.list ds]) [D, pq] H' (e0A.trans ee) (.lst h1 (.cons (S := [pq]) (S' := []) (.lst hq od) .nil)) (List.nodup_cons.mpr ⟨fun hm => qD (List.mem_singleton.mp hm).symm, List.nodup_cons.mpr ⟨List.not_mem_nil, List.nodup_nil⟩⟩) (fun z hz => by
            rcases List.mem_cons.mp hz with rfl | hz
            · exact fresh_back e0A hD
            · rw [List.mem_singleton.mp hz]
              exact fresh_back e0A nq) (flat_list (n := 3) fun d hd => by rw [List.mem_singleton.mp hd]; exact fl.mono (by omega)) (tidy_list (by show 1 ≤ 1000; omega) (fun d hd => by rw [List.mem_singleton.mp hd]; rfl) fun d hd => by rw [List.mem_singleton.mp hd]; exact ti)
    · have hb : decide (((prodM (takenM (ps.map (·.2)) names.length names) : Nat) : Int) > 0) = false := decide_eq_false (by omega)
      rw [hb]
      refine lc_R (m := 0) (fun D i acc H' => Ex HA H' ∧ i = 0 ∧ acc = []) (by omega) (fun _ => rfl) (fun D hD => ⟨Ex.new hD, rfl, rfl⟩) (fun D i acc H' hD hi => absurd hi (by omega)) ?_
      rintro D acc H' hD ⟨ee, _, rfl⟩ h1 hl
      exact q (.ref D) (.list []) [D] H' (e0A.trans ee) (.lst h1 .nil) (List.nodup_cons.mpr ⟨List.not_mem_nil, List.nodup_nil⟩) (fun z hz => by rw [List.mem_singleton.mp hz]; exact fresh_back e0A hD) (flat_nil.mono (by omega)) rfl
  -- 6
  refine q_when (et_test (ev_op (ev_var rfl) ev_c (rv_eq rfl))) (fun _ H8 e8 => ?_) fun b6 H8 e8 => ?_
  · have e08 := ((((((e1.trans e2).trans e3).trans e4).trans e5).trans e6).trans e7).trans e8
    exact inRet (inCall (goA (ea_two (ev_var rfl) (ev_var rfl)) fun H9 e9 => ⟨f, t, ps, names, ts, rfl, LLf _ (e08.trans e9), LTt _ (e08.trans e9), F, W.tree, q.go (e08.trans e9)⟩))
  have e08 := ((((((e1.trans e2).trans e3).trans e4).trans e5).trans e6).trans e7).trans e8
  -- 7
  refine q_when (et_test (ev_op (ev_var rfl) ev_c (rv_eq rfl))) (fun _ H9 e9 => ?_) fun b7 H9 e9 => ?_
  · refine inRet (inCall (inCons (inCall (goA (ea_one (ev_var rfl)) fun HA eA => ⟨f, ps, names, rfl, LLf _ ((e08.trans e9).trans eA), F, W.ok, fun HB eB => ?_⟩))))
    exact ⟨ps.map (·.2), names, rfl, W.perm, W.tree.up, W.ok, by omega, by omega, W.least, by have := W.most; omega, q.go (((e08.trans e9).trans eA).trans eB)⟩
  -- 8
  refine q_when (et_test (ev_op (ev_var rfl) ev_c (rv_eq rfl))) (fun _ HA eA => ?_) fun b8 HA eA => ?_
  · have e0A := (e08.trans e9).trans eA
    have ZA := Z.ex e0A
    refine inRet (inCall (inCons (inCall (inCons (inTup (goA (ea_three (ev_ixL (i := 0) (v := .str "cross") (ev_var rfl) ev_c (sq_of ZA.hp) rfl) (ev_ixL (i := 1) (v := .ref q1) (ev_var rfl) ev_c (sq_of ZA.hp) rfl) (ev_ixL (i := 2) (v := .ref q2) (ev_var rfl) ev_c (sq_of ZA.hp) rfl)) fun HB eB => ⟨by show 3 ≤ sizeLine; decide, fun tp nt => ?_⟩))))))
    have e0C : Ex H (upd HB tp (.tup [.str "cross", .ref q1, .ref q2])) := (e0A.trans eB).trans (Ex.new nt)
    have ZC := Z.ex e0C
    refine ⟨tp, q1, q2, z1, z2, a, b, x, d, e, y, u, v, rfl, ⟨st_of upd_same, sq_of ZC.h1, ZC.h2, sq_of ZC.h3, sq_of ZC.h4⟩, ok, fun HD eD => ?_⟩
    exact ⟨a, b, x, d, e, y, u, v, rfl, ok, q.go (e0C.trans eD)⟩
  -- 9
  refine q_when (et_test (ev_op (ev_var rfl) ev_c (rv_eq rfl))) (fun _ HB eB => ?_) fun b9 HB eB => ?_
  · have e0B := ((e08.trans e9).trans eA).trans eB
    refine inRet (inCall (goA (ea_one (ev_joinL (ys := p0.2.map nS) ev_c (el_is (el_lcM p0.2 V.int (fun _ => true) (fun n => V.str (nS n)) (fst HB e0B) ((LLf _ e0B).2 p0 m0) (by omega) (fun _ => rfl) (fun _ _ _ _ => et_none rfl) fun n hn H1 e1 _ => ev_strI (ev_var rfl) (ok0 n hn)) (by rw [filter_all, List.map_map]; rfl)) (rS_len ok0 len0).2)) fun HC eC => ?_))
    exact ⟨p0.2, rfl, F.rk m0, ok0, fun p6 H6 n6 e6 h6 => q.ints ((e0B.trans eC).trans e6) (fresh_back (e0B.trans eC) n6) h6 (by omega)⟩
  -- 10
  have e0B := ((e08.trans e9).trans eA).trans eB
  obtain ⟨x1, more, hnm⟩ : ∃ x1 more, names = x1 :: more := by
    match names, two with
    | x1 :: more, _ => exact ⟨x1, more, rfl⟩
  refine inRet (inCall (inCons (go (ev_var rfl) fun HC eC => inCons (inTup (inCons (go ev_c fun HD eD => inCons (goL (el_sl (lo := none) (hi := some ((1 : Nat) : Int)) (ev_var rfl) eo_none (eo_some ev_c) (LIn _ ((e0B.trans eC).trans eD))) fun sl HE nE eE hsl => ⟨by show 2 ≤ sizeLine; decide, fun tp nt => ?_⟩)))))))
  rw [take_cut, ← List.map_take, hnm] at hsl
  have eF : Ex HE (upd HE tp (.tup [.str "gone", .ref sl])) := Ex.new nt
  have e0F := (((e0B.trans eC).trans eD).trans eE).trans eF
  exact ⟨f, tp, sl, _, ps, names, rfl, LLf _ e0F, F, st_of upd_same, .inr ⟨rfl, x1, sq_of (eF _ _ hsl), by rw [hnm]; exact List.mem_cons_self, by omega⟩, q.go e0F⟩
end
end Ol
namespace Ol
open PySem PySem.Spec PyProof.Rows L2 Evl
theorem few_mk {ds : List PyData} (hl : ds.length ≤ 1000) (h : ∀ d ∈ ds, fewD d = true) : fewD (.list ds) = true := by
  rw [fewD, Bool.and_eq_true, decide_eq_true_eq]
  exact ⟨hl, fewAll_iff.mpr h⟩
theorem th_flat {d : PyData} (h : ThD d) : Flat 4 d ∧ fewD d = true := by
  obtain ⟨names, ties, rs, gone, a, b, x, dd, e, y, u, v, rfl, W, ok⟩ := h
  have six := W.six
  have lt := W.tree.len
  have lg := W.gone.length_le
  rw [List.length_drop] at lg
  have lr := W.most
  have lrr : ∀ r ∈ rs, r.length ≤ 6 := fun r hr => by rw [(W.perm r hr).length_eq]; exact six
  refine ⟨flat_list (n := 3) fun d hd => ?_, few_mk (by show 5 ≤ 1000; omega) fun d hd => ?_⟩
  · simp only [List.mem_cons, List.not_mem_nil, or_false] at hd
    rcases hd with rfl | rfl | rfl | rfl | rfl
    · exact (flat_I _).mono (by omega)
    · exact (flat_T _).mono (by omega)
    · exact (flat_L _).mono (by omega)
    · exact (flat_I _).mono (by omega)
    · refine flat_list (n := 2) fun d hd => ?_
      simp only [List.mem_cons, List.not_mem_nil, or_false] at hd
      rcases hd with rfl | rfl | rfl
      · exact (flat_str (by decide +kernel)).mono (by omega)
      · exact (flat_I _).mono (by omega)
      · exact flat_L _
  · simp only [List.mem_cons, List.not_mem_nil, or_false] at hd
    rcases hd with rfl | rfl | rfl | rfl | rfl
    · exact tidy_few _ (tidy_I _ (by omega))
    · exact tidy_few _ (pairs_ok (fun d hd => by
        obtain ⟨t, _, rfl⟩ := List.mem_map.mp hd
        exact ⟨_, _, rfl⟩) (by rw [List.length_map]; omega)).2
    · exact tidy_few _ (tidy_L _ (by omega) fun r hr => by have := lrr r hr; omega)
    · exact tidy_few _ (tidy_I _ (by omega))
    · refine few_mk (by show 3 ≤ 1000; omega) fun d hd => ?_
      simp only [List.mem_cons, List.not_mem_nil, or_false] at hd
      rcases hd with rfl | rfl | rfl
      · rfl
      · exact tidy_few _ (tidy_I _ (by show 4 ≤ 1000; omega))
      · exact tidy_few _ (tidy_L _ (by show 2 ≤ 1000; omega) fun r hr => by
          simp only [List.mem_cons, List.not_mem_nil, or_false] at hr
          rcases hr with rfl | rfl
          · show 2 ≤ 1000; omega
          · show 2 ≤ 1000; omega)
theorem Ch.exOf {S : List Addr} {H0 H1 H2 : Hp} (e : Ex H0 H1) (fr : ∀ a ∈ S, H0 a = none) (c : Ch S H1 H2) : Ex H0 H2 := fun a o h => c a (fun hm => by rw [fr a hm] at h; cases h) o (e a o h)
theorem But.exOf {s : Addr} {H0 H1 H2 : Hp} (e : Ex H0 H1) (fr : H0 s = Option.none) (b : But s H1 H2) : Ex H0 H2 := fun a o h => b a o (fun z => by rw [z, fr] at h; cases h) (e a o h)
section
variable {P : Program} {w : World} {K : PySem.W.Frag} {mg : Str → Option Value} {base : Heap}
/-! ### _law_stays, _law_kept -/
def spStays (K : PySem.W.Frag) : Sp := fun vs H Q _ => ∃ (i : Int) (x : V) (d : PyData), vs = [.int i, x] ∧ 0 ≤ i ∧ i ≤ 10 ∧ Dp K H x d ∧ ThD d ∧ RetV (.bl true) H Q
theorem c__law_stays (T : Tx w K mg) (C__law_copied : Callee P w K mg base "_law_copied" 6 ["_law_thing"] (spCopied K 5)) (C__law_call : Callee P w K mg base "_law_call" 8 ["_law_which", "_law_things_here"] spCall) (C__law_marked : Callee P w K mg base "_law_marked" 6 ["_law_thing"] (spMarked 5)) (C__law_once : Callee P w K mg base "_law_once" 6 ["_law_thing"] (spOnce K 5)) : Callee P w K mg base "_law_stays" 9 ["_law_which", "_law_things_here"] (spStays K) := by
  refine callee_of T.F__law_stays T.g__law_stays sc__law_stays (fun _ _ _ _ _ _ us hl => match us, hl with | [_, _], _ => rfl) (fun vs H Q E h => ?_) fun cdv A outer s H vs Q E hr h => ?_
  · obtain ⟨i, x, d, rfl, i0, i1, hd, th, q⟩ := h
    rfl
  obtain ⟨i, x, d, rfl, i0, i1, hd, th, q⟩ := h
  refine ⟨_, (pss_cons (ps_set (i := 2) sc__law_stays.nd rfl (Or.inl rfl) (pe_callC C__law_copied hr (by decide) (by rfl) (pa_cons (pv 1) pa_nil)))
      (pss_cons (ps_set (i := 3) sc__law_stays.nd rfl (Or.inl rfl) (pe_callC C__law_call hr (by decide) (by rfl) (pa_cons (pv 0) (pa_cons (pv 2) pa_nil))))
      (pss_cons (ps_if (pt_cmpR (neD K hr.units) (pv 2) (pv 1) (nomark _)) (pss_one (ps_ret pe_bl)) pss_nil)
      (pss_cons (ps_expr (pe_callC C__law_marked hr (by decide) (by rfl) (pa_cons (pv 3) pa_nil)))
      (pss_one (ps_ret (pe_and (pe_callC C__law_once hr (by decide) (by rfl) (pa_cons (pv 3) pa_nil)) (pe_one (pe_cmpR (eqD K hr.units) (pv 2) (pv 1) (nomark _)))))))))), ?_⟩
  obtain ⟨fl, few⟩ := th_flat th
  have dep : d.depth < 5 := by have := fl.2; omega
  refine inSeq (inSet (inCall (goA (ea_one (ev_var rfl)) fun H1 e1 => ⟨x, d, rfl, Dp.up e1 hd, dep, few, fun c S H2 e2 own nd fr => ?_⟩)))
  refine inSeq (inSet (inCall (goA (ea_two (ev_var rfl) (ev_var rfl)) fun H3 e3 => ⟨i, c, d, S, rfl, i0, i1, own.ex e3, th, fun v d2 S2 H4 e4 own2 nd2 fr2 fl2 ti2 => ?_⟩)))
  have e03 := (e1.trans e2).trans e3
  have dc : Dp K H3 c d := (own.ex e3).dp
  have dx : Dp K H3 x d := Dp.up e03 hd
  refine q_when (b := false) (et_test (ev_op (ev_var rfl) (ev_var rfl) (rv_notsame (Dp.up e4 dc) (Dp.up e4 dx) fl (by omega)))) (fun z => nomatch z) fun _ H5 e5 => ?_
  refine inSeq (inDrop (inCall (goA (ea_one (ev_var rfl)) fun H6 e6 => ⟨v, d2, S2, rfl, own2.ex (e5.trans e6), nd2, by have := fl2.2; omega, tidy_few _ ti2, fun H7 ch own7 => ?_⟩)))
  have e37 : Ex H3 H7 := ch.exOf ((e4.trans e5).trans e6) fr2
  exact s_ret (ev_andV (a := true) (b := true) (ev_callV (ea_one (ev_var rfl)) fun H8 e8 Q q => ⟨v, d2, rfl, (own7.ex e8).dp, ⟨ti2, fl2.1, by have := fl2.2; omega⟩, by have := fl2.2; omega, q⟩) fun _ => ev_op (ev_var rfl) (ev_var rfl) (rv_same (Dp.up e37 dc) (Dp.up e37 dx) fl (by omega))) fun H8 e8 => q H8 ((e03.trans e37).trans e8)
def spKept (K : PySem.W.Frag) : Sp := fun vs H Q _ => ∃ (i : Int) (x x' : V) (d d' : PyData), vs = [.int i, x, x'] ∧ 0 ≤ i ∧ i ≤ 10 ∧ Dp K H x d ∧ ThD d ∧ Dp K H x' d' ∧ ThD d' ∧ RetV (.bl true) H Q
theorem c__law_kept (T : Tx w K mg) (C__law_copied : Callee P w K mg base "_law_copied" 6 ["_law_thing"] (spCopied K 5)) (C__law_call : Callee P w K mg base "_law_call" 8 ["_law_which", "_law_things_here"] spCall) : Callee P w K mg base "_law_kept" 9 ["_law_which", "_law_things_here", "_law_others"] (spKept K) := by
  refine callee_of T.F__law_kept T.g__law_kept sc__law_kept (fun _ _ _ _ _ _ us hl => match us, hl with | [_, _, _], _ => rfl) (fun vs H Q E h => ?_) fun cdv A outer s H vs Q E hr h => ?_
  · obtain ⟨i, x, x', d, d', rfl, i0, i1, hd, th, hd', th', q⟩ := h
    rfl
  obtain ⟨i, x, x', d, d', rfl, i0, i1, hd, th, hd', th', q⟩ := h
  refine ⟨_, (pss_cons (ps_set (i := 3) sc__law_kept.nd rfl (Or.inl rfl) (pe_callC C__law_call hr (by decide) (by rfl) (pa_cons (pv 0) (pa_cons (pe_callC C__law_copied hr (by decide) (by rfl) (pa_cons (pv 1) pa_nil)) pa_nil))))
      (pss_cons (ps_set (i := 4) sc__law_kept.nd rfl (Or.inl rfl) (pe_callC C__law_copied hr (by decide) (by rfl) (pa_cons (pv 3) pa_nil)))
      (pss_cons (ps_expr (pe_callC C__law_call hr (by decide) (by rfl) (pa_cons (pv 0) (pa_cons (pe_callC C__law_copied hr (by decide) (by rfl) (pa_cons (pv 2) pa_nil)) pa_nil))))
      (pss_one (ps_ret (pe_cmpR (eqD K hr.units) (pv 3) (pv 4) (nomark _))))))), ?_⟩
  obtain ⟨fl, few⟩ := th_flat th
  obtain ⟨fl', few'⟩ := th_flat th'
  refine inSeq (inSet (inCall (inCons (go (ev_var rfl) fun H1 e1 => inCons (inCall (goA (ea_one (ev_var rfl)) fun H2 e2 => ⟨x, d, rfl, Dp.up (e1.trans e2) hd, by have := fl.2; omega, few, fun c S H3 e3 own nd fr => ?_⟩))))))
  have e03 := (e1.trans e2).trans e3
  refine ⟨i, c, d, S, rfl, i0, i1, own, th, fun v d2 S2 H4 e4 own2 nd2 fr2 fl2 ti2 => ?_⟩
  have e04 := e03.trans e4
  refine inSeq (inSet (inCall (goA (ea_one (ev_var rfl)) fun H5 e5 => ⟨v, d2, rfl, (own2.ex e5).dp, by have := fl2.2; omega, tidy_few _ ti2, fun v2 S3 H6 e6 own3 nd3 fr3 => ?_⟩)))
  have e46 := e5.trans e6
  refine inSeq (inDrop (inCall (inCons (go (ev_var rfl) fun H7 e7 => inCons (inCall (goA (ea_one (ev_var rfl)) fun H8 e8 => ⟨x', d', rfl, Dp.up (((e04.trans e46).trans e7).trans e8) hd', by have := fl'.2; omega, few', fun c' S' H9 e9 own' nd' fr' => ?_⟩))))))
  refine ⟨i, c', d', S', rfl, i0, i1, own', th', fun v3 d3 S3 HA eA _ _ _ _ _ => ?_⟩
  have e6A := ((e7.trans e8).trans e9).trans eA
  exact s_ret (ev_op (ev_var rfl) (ev_var rfl) (rv_same ((own2.ex (e46.trans e6A)).dp) ((own3.ex e6A).dp) fl2 (by omega))) fun HB eB => q HB (((e04.trans e46).trans e6A).trans eB)
/-! ### _law_desk_goes_on -/
theorem inMake {C : Addr} {sp : Sp} {E : XK} {t : TA} {σ : L2.St} {H : Hp} {Q : VK} (h : t σ H fun vs H1 => ∀ x dx, H1 x = none → H1 dx = none → dx ≠ x → sp (.ref x :: (vs ++ [])) (upd (upd H1 dx (.own x)) x (.ins C dx [])) (fun v H2 => v = .non ∧ Q (.ref x) H2) E) : tMake C sp [] E t σ H Q := h
theorem inOr {t u : TT} {σ : L2.St} {H : Hp} {Q : Bool → Hp → Prop} (h : t σ H fun c H1 => if c = true then Q true H1 else u σ H1 Q) : tOr t u σ H Q := h
theorem one_row {r : Str} : r ++ Str.ofString " " ++ nS 1 = r ++ Str.ofString " 1" := by
  refine TL.ext_tl ?_
  rw [TL.tl_append, TL.tl_append, TL.tl_append, tl_bl]
  have e1 : TL.tl (nS 1) = [49] := by
    rw [tl_nS (by decide)]
    decide +kernel
  have e2 : TL.tl (Str.ofString " 1") = [32, 49] := by decide +kernel
  rw [e1, e2, List.append_assoc]
  rfl
def spDesk (K : PySem.W.Frag) : Sp := fun vs H Q _ => ∃ (x : V) (d : PyData), vs = [x] ∧ Dp K H x d ∧ ThD d ∧ RetV (.bl true) H Q
theorem c__law_desk_goes_on (T : Tx w K mg) (C__law_copied : Callee P w K mg base "_law_copied" 6 ["_law_thing"] (spCopied K 5)) (CD_init : Initd P w K mg base 4 ["self", "names"] (spInit K)) (C__law_emptied : Callee P w K mg base "_law_emptied" 3 ["_law_thing"] spEmp2) (CM_say : Metd P w K mg base "say" 9 ["self", "row"] (spSay K)) : Callee P w K mg base "_law_desk_goes_on" 10 ["_law_things_here"] (spDesk K) := by
  refine callee_of T.F__law_desk_goes_on T.g__law_desk_goes_on sc__law_desk_goes_on (fun _ _ _ _ _ _ us hl => match us, hl with | [_], _ => rfl) (fun vs H Q E h => ?_) fun cdv A outer s H vs Q E hr h => ?_
  · obtain ⟨x, d0, rfl, hd, th, q⟩ := h
    rfl
  obtain ⟨x, d0, rfl, hd, th, q⟩ := h
  refine ⟨_, (pss_cons (ps_asg (pe_callC C__law_copied hr (by decide) (by rfl) (pa_cons (pv 0) pa_nil)) (unlG K (n := 5) (pgs_cons (pg_name (i := 1) sc__law_desk_goes_on.nd rfl (Or.inl rfl)) (pgs_cons (pg_name (i := 2) sc__law_desk_goes_on.nd rfl (Or.inl rfl)) (pgs_cons (pg_name (i := 3) sc__law_desk_goes_on.nd rfl (Or.inl rfl)) (pgs_cons (pg_name (i := 4) sc__law_desk_goes_on.nd rfl (Or.inl rfl)) (pgs_cons (pg_name (i := 5) sc__law_desk_goes_on.nd rfl (Or.inl rfl)) pgs_nil)))))))
      (pss_cons (ps_set (i := 6) sc__law_desk_goes_on.nd rfl (Or.inl rfl) (pe_makeC T CD_init hr (by decide) (by rfl) (pa_cons (pv 1) pa_nil)))
      (pss_cons (ps_expr (pe_callC C__law_emptied hr (by decide) (by rfl) (pa_cons (pv 1) pa_nil)))
      (pss_cons (ps_set (i := 7) sc__law_desk_goes_on.nd rfl (Or.inl rfl) (joinK K pe_str (pe_lc (own := [("_law_name", 8)]) rfl sc__law_desk_goes_on.nd (piL K (pe_ix (ixL K) (pv 3) pe_int (fun _ _ => rfl))) (blkOk_by (by kernel_rfl)) (fun _ _ _ _ _ => (pg_name (i := 8) sc__law_desk_goes_on.nd rfl (Or.inl rfl))) (fun _ _ _ _ _ => pts_nil) (fun _ _ _ _ _ => (pe_callTy call_str_int (by rfl) T.b_str (by decide +kernel) (pa_cons (pv 8) pa_nil))))))
      (pss_cons (ps_if (PW.pt (pw_or (pt_cmpR op_ne (pe_methC T CM_say hr (by decide) (pv 6) (pa_cons (pe_op op_add_str pe_str (pv 7)) pa_nil)) pe_str (nomark _)) (pw_or1 (pt_cmpR op_ne (pe_methC T CM_say hr (by decide) (pe_makeC T CD_init hr (by decide) (by rfl) (pa_cons (pe_lst (pa_cons pe_int pa_nil)) pa_nil)) (pa_cons pe_str pa_nil)) pe_str (nomark _))))) (pss_one (ps_ret pe_bl)) pss_nil)
      (pss_cons (ps_if (PW.pt (pw_or (pt_cmpR op_ne (pe_methC T CM_say hr (by decide) (pv 6) (pa_cons (pe_op op_add_str pe_str (pv 7)) pa_nil)) pe_str (nomark _)) (pw_or1 (pt_cmpR op_ne (pe_methC T CM_say hr (by decide) (pv 6) (pa_cons (pe_op op_add_str pe_str (pv 7)) pa_nil)) pe_str (nomark _))))) (pss_one (ps_ret pe_bl)) pss_nil)
      (pss_one (ps_ret (pe_and (pe_cmpR op_eq (pe_methC T CM_say hr (by decide) (pv 6) (pa_cons pe_str pa_nil)) (pe_op op_add_str (pv 7) pe_str) (nomark _)) (pe_one (pe_cmpR op_eq (pe_methC T CM_say hr (by decide) (pv 6) (pa_cons pe_str pa_nil)) pe_str (nomark _)))))))))))), ?_⟩
  obtain ⟨fl, few⟩ := th_flat th
  refine inSeq (inAsg (inCall (goA (ea_one (ev_var rfl)) fun H1 e1 => ⟨x, d0, rfl, Dp.up e1 hd, by have := fl.2; omega, few, fun c S H2 e2 own nd fr => ?_⟩)))
  obtain ⟨names, ties, rs, gone, a, b, x1, d, e, y, u, v, rfl, W, ok⟩ := th
  obtain ⟨c, n, t, f, g, p, q1, q2, z1, z2, ts, ps, rfl, Z, rfl, rfl, nS_, dis⟩ := own_th own
  obtain ⟨fn_, pn⟩ := dis nd
  refine gUnl5 (sq_of Z.hc) ?_
  dsimp only
  have F := W.fk
  have f1 := F.least
  have six := W.six
  obtain ⟨p0, hp0⟩ : ∃ p0, ps[0]? = some p0 := ⟨ps[0], List.getElem?_eq_getElem f1⟩
  have m0 : p0 ∈ ps := List.mem_of_getElem? hp0
  have pm0 := F.perm p0 m0
  have ok0 : ∀ n ∈ p0.2, NumOk n := fun n hn => W.ok n (pm0.mem_iff.mp hn)
  have len0 : p0.2.length ≤ 10 := by rw [pm0.length_eq]; omega
  have hn : H n = none := fresh_back e1 (fr n nS_)
  have e02 := e1.trans e2
  have DW : DeskW names p0.2 := ⟨W.tree.up, W.ok, by omega, W.tree.some, pm0⟩
  have lr := (rS_len ok0 len0).1
  -- the desk
  refine inSeq (inSet (inMake (goA (ea_one (ev_var rfl)) fun H3 e3 => fun o dx no ndx hne => ?_)))
  have e34 : Ex H3 (upd (upd H3 dx (.own o)) o (.ins (dC K) dx [])) := (Ex.new ndx).trans (Ex.new (by rw [upd_ne (Ne.symm hne)]; exact no))
  have hn3 := e3 _ _ Z.hn
  have nno : n ≠ o := fun z => by rw [z, no] at hn3; cases hn3
  refine ⟨o, n, dx, names, p0.2, rfl, upd_same, sq_of (e34 _ _ hn3), DW, fun H5 b5 _ st5 => ⟨rfl, ?_⟩⟩
  have e35 : Ex H3 H5 := But.exOf e34 no b5
  -- its names emptied
  refine inSeq (inDrop (inCall (goA (ea_one (ev_var rfl)) fun H6 e6 => ⟨n, names, rfl, e6 _ _ (e35 _ _ hn3), fun H7 b7 => ?_⟩)))
  have D7 : DeskI K H7 o names p0.2 [] := st5 n H7 nno (fun z => nomatch (e34 _ _ hn3).symm.trans z) ((But.ex e6).trans b7)
  have e26 : Ex H2 H6 := (e3.trans e35).trans e6
  have e07 : Ex H H7 := But.exOf (e02.trans e26) hn b7
  have hf7 : H7 f = some (.lst (ps.map fun p => V.ref p.1)) := b7 _ _ fn_ (e26 _ _ Z.hf)
  have hp7 : H7 p0.1 = some (.lst (p0.2.map V.int)) := b7 _ _ (pn p0 m0) (e26 _ _ (Z.hps p0 m0))
  refine q_asg (v := .str (rS p0.2)) (ev_joinL (ys := p0.2.map nS) ev_c (el_is (el_lcM p0.2 V.int (fun _ => true) (fun n => V.str (nS n)) (ev_ixL (ev_var rfl) ev_c (sq_of hf7) (at0 (fun z : Addr × List Int => V.ref z.1) hp0)) (sq_of hp7) (by omega) (fun _ => rfl) (fun _ _ _ _ => et_none rfl) fun n hn H1 e1 _ => ev_strI (ev_var rfl) (ok0 n hn)) (by rw [filter_all, List.map_map]; rfl)) (rS_len ok0 len0).2) fun H8 e8 => ?_
  have D8 := D7.ex e8
  have lc : (Str.ofString "come a ").length = 7 ∧ (Str.ofString "come b ").length = 7 ∧ (Str.ofString "falls ").length = 6 := by decide +kernel
  have okk : decide (V.str (Str.ofString "ok") = V.str (Str.ofString "ok")) = true := decide_eq_true rfl
  -- come a, and another desk
  refine inSeq (inIf (inOr (inTest (inOp (goMeth (ev_var rfl) D8 (fun _ _ => rfl) (ea_one (ev_addS ev_c (ev_var rfl) (by rw [lc.1]; omega))) fun H9 e9 => ⟨o, _, names, p0.2, [], rfl, D8.ex e9, by show 0 ≤ 4; omega, (fun _ h => nomatch h), .inr (.inr (.inr ⟨Str.ofString "a", by unfold comeRow; rw [if_pos rfl], .inl rfl, rfl, fun pa ra HA bA DA => go ev_c fun HB eB => ⟨rfl, _, rfl, ?_⟩⟩))⟩)))))
  rw [okk]
  refine iteF ?_
  have no0 : H o = none := fresh_back (e02.trans e3) no
  have e0B : Ex H HB := (But.exOf ((e07.trans e8).trans e9) no0 bA).trans eB
  have DB := DA.ex eB
  refine inTest (inOp (inMeth (inMake (inCons (inLst (goA (ea_one ev_c) fun HC eC => ⟨by show 1 ≤ sizeLine; decide, fun lp nlp => fun o2 dx2 no2 ndx2 hne2 => ?_⟩))))))
  have hl : (upd HC lp (.lst [V.int 1])) lp = some (.lst ([1].map V.int)) := upd_same
  have eCl : Ex HC (upd HC lp (.lst [V.int 1])) := Ex.new nlp
  generalize upd HC lp (.lst [V.int 1]) = HD at hl eCl no2 ndx2
  have eDE : Ex HD (upd (upd HD dx2 (.own o2)) o2 (.ins (dC K) dx2 [])) := (Ex.new ndx2).trans (Ex.new (by rw [upd_ne (Ne.symm hne2)]; exact no2))
  refine ⟨o2, lp, dx2, [1], [1], rfl, upd_same, sq_of (eDE _ _ hl), ⟨List.pairwise_singleton _ _, fun z hz => by rw [List.mem_singleton.mp hz]; exact ⟨by decide, by decide⟩, by show 1 ≤ 10; omega, by show 0 < 1; omega, List.Perm.refl _⟩, fun HF bF DF _ => ⟨rfl, ?_⟩⟩
  have eDF : Ex HD HF := But.exOf eDE no2 bF
  have eBF : Ex HB HF := (eC.trans eCl).trans eDF
  obtain ⟨dx3, n3, s3, h3, st3, k1, k2⟩ := DF.ex_
  refine ⟨o2, dx3, _, rfl, k1, rfl, goA (ea_one ev_c) fun HG eG => ⟨o2, _, [1], [1], [], rfl, DF.ex eG, by show 0 ≤ 4; omega, (fun _ h => nomatch h), .inl ⟨rfl, fun HH eH => go ev_c fun HI eI => ⟨rfl, _, rfl, ?_⟩⟩⟩⟩
  have emp : decide (V.str (Txt.join (Str.ofString " ") (([] : List HandP).map (·.2.1))) = V.str (Str.ofString "")) = true := by decide +kernel
  rw [emp]
  refine iteF ?_
  have eBI : Ex HB HI := ((eBF.trans eG).trans eH).trans eI
  have DI := DB.ex eBI
  -- come b, falls
  dsimp only [tNext]
  refine inSeq (inIf (inOr (inTest (inOp (goMeth (ev_var rfl) DI (fun _ _ => rfl) (ea_one (ev_addS ev_c (ev_var rfl) (by rw [lc.2.1]; omega))) fun HJ eJ => ⟨o, _, names, p0.2, _, rfl, DI.ex eJ, by show 1 ≤ 4; omega, (fun z hz => by rw [List.mem_singleton.mp hz]; show (Str.ofString "a").length ≤ 8; decide +kernel), .inr (.inr (.inr ⟨Str.ofString "b", by unfold comeRow; rw [if_neg (by decide)],   .inr rfl, (show inV (V.str (Str.ofString "b")) [V.str (Str.ofString "a")] = false from by decide +kernel), fun pb rb HK bK DK => go ev_c fun HL eL => ⟨rfl, _, rfl, ?_⟩⟩))⟩)))))
  rw [okk]
  refine iteF ?_
  have e0L : Ex H HL := (But.exOf ((e0B.trans eBI).trans eJ) no0 bK).trans eL
  have DL := DK.ex eL
  have short : ∀ z ∈ ([] ++ [(pa, Str.ofString "a", ra)] ++ [(pb, Str.ofString "b", rb)] : List HandP), z.2.1.length ≤ 8 := fun z hz => by
    have hz : z ∈ [(pa, Str.ofString "a", ra), (pb, Str.ofString "b", rb)] := hz
    simp only [List.mem_cons, List.not_mem_nil, or_false] at hz
    rcases hz with rfl | rfl
    · show (Str.ofString "a").length ≤ 8; decide +kernel
    · show (Str.ofString "b").length ≤ 8; decide +kernel
  have jab : ∀ pa ra pb rb, Txt.join (Str.ofString " ") (([] ++ [(pa, Str.ofString "a", ra)] ++ [(pb, Str.ofString "b", rb)] : List HandP).map (·.2.1)) = Str.ofString "a b" := fun _ _ _ _ => by
    show Txt.join (Str.ofString " ") [Str.ofString "a", Str.ofString "b"] = Str.ofString "a b"
    decide +kernel
  have abab : decide (V.str (Str.ofString "a b") = V.str (Str.ofString "a b")) = true := decide_eq_true rfl
  refine inTest (inOp (go (ev_methV (ev_var rfl) DL (fun _ _ => rfl) (ea_one (ev_addS ev_c (ev_var rfl) (by rw [lc.2.2]; omega))) fun HM eM Q q => ⟨o, _, names, p0.2, _, rfl, DL.ex eM, by show 2 ≤ 4; omega, short, .inr (.inr (.inl ⟨rfl, q⟩))⟩) fun HM eM => go ev_c fun HN eN => ⟨rfl, _, rfl, ?_⟩))
  rw [jab, abab]
  refine iteF ?_
  have DN := DL.ex (eM.trans eN)
  have l1 : (Str.ofString " 1").length = 2 := by decide +kernel
  dsimp only [tNext]
  refine s_ret (ev_andV (a := true) (b := true) (ev_is (ev_op (ev_methV (v := .str (rS p0.2 ++ Str.ofString " " ++ nS 1)) (ev_var rfl) DN (fun _ _ => rfl) (ea_one ev_c) fun HO eO Q q => ⟨o, _, names, p0.2, _, rfl, DN.ex eO, by show 2 ≤ 4; omega, short, .inr (.inl ⟨rfl, ⟨pa, ra, _, rfl⟩, q⟩)⟩) (ev_addS (ev_var rfl) ev_c (by rw [l1]; omega)) (rv_eq rfl)) (congrArg V.bl (decide_eq_true (congrArg V.str one_row)))) fun _ =>
    ev_is (ev_op (ev_methV (v := .str (Str.ofString "a b")) (ev_var rfl) DN (fun _ _ => rfl) (ea_one ev_c) fun HO eO Q q => ⟨o, _, names, p0.2, _, rfl, DN.ex eO, by show 2 ≤ 4; omega, short, .inl ⟨rfl, by rw [jab]; exact q⟩⟩) ev_c (rv_eq rfl)) (congrArg V.bl abab)) fun HO eO => q HO ((e0L.trans (eM.trans eN)).trans eO)
end
end Ol
namespace Ol
open PySem PySem.Spec PyProof.Rows L2 Evl
section
variable {P : Program} {w : World} {K : PySem.W.Frag} {mg : Str → Option Value} {base : Heap}
/-! ### law -/
def spLaw (K : PySem.W.Frag) : Sp := fun vs H Q _ => ∃ (a : Addr) (ns : List Int), vs = [.ref a] ∧ SqL K H a (ns.map V.int) ∧ ∀ H', Q (.bl true) H'
theorem b_law (T : Tx w K mg) (C__law_left : Callee P w K mg base "_law_left" 1 ["_law_cell"] spLeft) (C__law_things : Callee P w K mg base "_law_things" 5 ["_law_left_here"] spThings) (C__law_stays : Callee P w K mg base "_law_stays" 9 ["_law_which", "_law_things_here"] (spStays K)) (C__law_kept : Callee P w K mg base "_law_kept" 9 ["_law_which", "_law_things_here", "_law_others"] (spKept K)) (C__law_desk_goes_on : Callee P w K mg base "_law_desk_goes_on" 10 ["_law_things_here"] (spDesk K)) : Body P w K mg base ["_law_script", "_law_cell", "_law_left_here", "_law_things_here", "_law_others", "_law_which"] "law" s_law (He.ga K "law") 10 (spLaw K) := by
  intro cdv A outer s H vs Q E hr h
  obtain ⟨a, ns, rfl, ha, q⟩ := h
  refine ⟨_, (pss_cons (ps_for PassesOwn.never rfl (piL K (pe_op op_cat (pe_lst (pa_cons pe_int pa_nil)) (pe_slice (slL K) (pv 0) po_none (po_some pe_int)))) (pg_name (i := 1) sc_law.nd rfl (Or.inl rfl)) (pss_cons (ps_set (i := 2) sc_law.nd rfl (Or.inl rfl) (pe_callC C__law_left hr (by decide) (by rfl) (pa_cons (pv 1) pa_nil)))
      (pss_cons (ps_set (i := 3) sc_law.nd rfl (Or.inl rfl) (pe_callC C__law_things hr (by decide) (by rfl) (pa_cons (pv 2) pa_nil)))
      (pss_cons (ps_set (i := 4) sc_law.nd rfl (Or.inl rfl) (pe_callC C__law_things hr (by decide) (by rfl) (pa_cons (pv 2) pa_nil)))
      (pss_cons (ps_for PassesOwn.never rfl (pi_range1 (by rfl) T.b_range (pa_cons pe_int pa_nil)) (pg_name (i := 5) sc_law.nd rfl (Or.inl rfl)) (pss_one (ps_if (PW.pt (pw_or (pt_not (pt_val (pe_callC C__law_stays hr (by decide) (by rfl) (pa_cons (pv 5) (pa_cons (pv 3) pa_nil))))) (pw_or1 (pt_not (pt_val (pe_callC C__law_kept hr (by decide) (by rfl) (pa_cons (pv 5) (pa_cons (pv 3) (pa_cons (pv 4) pa_nil))))))))) (pss_one (ps_ret pe_bl)) pss_nil)))
      (pss_one (ps_if (pt_not (pt_val (pe_callC C__law_desk_goes_on hr (by decide) (by rfl) (pa_cons (pv 3) pa_nil)))) (pss_one (ps_ret pe_bl)) pss_nil)))))))
      (pss_one (ps_ret pe_bl))), ?_⟩
  refine inSeq (inFor (goL (el_catN (xs := [V.int 53]) (ys := cutV (ns.map V.int) none (some ((2 : Nat) : Int))) (el_lst (ea_one ev_c) (by show 1 ≤ 100000; omega)) (fun H1 e1 => el_sl (lo := none) (hi := some ((2 : Nat) : Int)) (ev_var rfl) eo_none (eo_some ev_c) (ex_l e1 ha)) ?_) fun p H1 n1 e1 h1 => ?_))
  · rw [take_cut]
    have := List.length_take_le 2 (ns.map V.int)
    show 1 + (List.take 2 (ns.map V.int)).length ≤ 100000
    omega
  have h1 : H1 p = some (.lst ((53 :: ns.take 2).map V.int)) := by
    rw [h1, take_cut, List.map_cons, List.map_take]
    rfl
  refine fo_M (53 :: ns.take 2) V.int ev_c (sq_of h1) (fun pre σ' H' => ∃ y1 y2 y3 y4 y5, σ' = [some (.ref a), y1, y2, y3, y4, y5]) (fun _ _ => ⟨_, _, _, _, _, rfl⟩) ?_ ?_
  · rintro pre z post σ' H' eq e ⟨y1, y2, y3, y4, y5, rfl⟩
    refine inSeq (inSet (inCall (goA (ea_one (ev_var rfl)) fun H3 e3 => ⟨z, rfl, fun s' H4 ns4 e4 D4 => ?_⟩)))
    have nsH : H' s' = none := fresh_back e3 ns4
    have e04 : Ex H' H4 := e3.trans e4
    refine inSeq (inSet (inCall (goA (ea_one (ev_var rfl)) fun H5 e5 => ⟨s', 0, rfl, D4.ex e5, by decide, fun t d S H6 b6 D6 own fr th => ?_⟩)))
    have e06 : Ex H' H6 := But.exOf (e04.trans e5) nsH b6
    refine inSeq (inSet (inCall (goA (ea_one (ev_var rfl)) fun H7 e7 => ⟨s', _, rfl, D6.ex e7, by decide, fun t2 d2 S2 H8 b8 D8 own2 fr2 th2 => ?_⟩)))
    have e08 : Ex H' H8 := But.exOf (e06.trans e7) nsH b8
    have stay : Stay S H7 H8 := ⟨fun b hb o ho => b8 b o (fun zz => (D4.ex e5).there (zz ▸ fr b hb)) ho, fun b xs hb => b8 b _ (fun zz => by
      obtain ⟨n, m, k, hd, _⟩ := D6.ex e7
      rw [zz, hd] at hb
      cases hb) hb⟩
    have dp1 : Dp K H8 (.ref t) d := ((own.ex e7).stay stay).dp
    have dp2 : Dp K H8 (.ref t2) d2 := own2.dp
    refine q_forR1 (n := 11) (ea_one ev_c) (by omega) (fun i σ' H' => Ex H8 H' ∧ ∃ y5, σ' = [some (.ref a), some (.int z), some (.ref s'), some (.ref t), some (.ref t2), y5]) (fun H9 e9 => ⟨e9, _, rfl⟩) ?_ ?_
    · rintro i σ' H9 hi ⟨e9, y5, rfl⟩
      refine s_when (b := false) (et_or (a := false) (b := false) (et_not (a := true) (et_B (ev_callV (ea_two (ev_var rfl) (ev_var rfl)) fun HA eA Q q => ⟨_, _, d, rfl, by omega, by omega, Dp.up (e9.trans eA) dp1, th, q⟩))) fun _ => et_not (a := true) (et_B (ev_callV (ea_three (ev_var rfl) (ev_var rfl) (ev_var rfl)) fun HA eA Q q =>
        ⟨_, _, _, d, d2, rfl, by omega, by omega, Dp.up (e9.trans eA) dp1, th, Dp.up (e9.trans eA) dp2, th2, q⟩))) (fun z => nomatch z) fun _ HB eB => ⟨e9.trans eB, _, rfl⟩
    · rintro σ' H9 ⟨e9, y5, rfl⟩
      exact s_when (b := false) (et_not (a := true) (et_B (ev_callV (ea_one (ev_var rfl)) fun HA eA Q q => ⟨_, d, rfl, Dp.up (e9.trans eA) dp1, th, q⟩))) (fun z => nomatch z) fun _ HB eB => ⟨(e.trans e08).trans (e9.trans eB), _, _, _, _, _, rfl⟩
  · rintro σ' H' e ⟨y1, y2, y3, y4, y5, rfl⟩
    dsimp only
    exact s_ret ev_c fun H2 e2 => q H2
/-- the law, all its defs walked -/
theorem law_ok (T : Tx w K mg) {fd : FuncData} (F : FunD K "law" "law" (defArgs s_law) (defBody s_law) (defScope s_law) [] [] (He.ga K "law") fd) : FnOk P w K mg base CX0 11 (He.ga K "law") fd ["_law_script"] (spLaw K) := by
  have k_is_number := c_is_number (P := P) (base := base) T 
  have k_are_unlike_names := c_are_unlike_names (P := P) (base := base) T k_is_number
  have k_is_ranking := c_is_ranking (P := P) (base := base) T k_are_unlike_names
  have k_must_be_ranking := c_must_be_ranking (P := P) (base := base) T k_is_ranking
  have k_is_folk := c_is_folk (P := P) (base := base) T k_is_ranking
  have k_must_be_folk := c_must_be_folk (P := P) (base := base) T k_is_folk
  have k_names_by := c_names_by (P := P) (base := base) T k_must_be_folk
  have k_is_tie := c_is_tie (P := P) (base := base) T k_is_number
  have k_reached := c_reached (P := P) (base := base) T 
  have k_hang_together := c_hang_together (P := P) (base := base) T k_reached
  have k_is_right_tree := c_is_right_tree (P := P) (base := base) T k_is_tie k_hang_together
  have k_is_tree := c_is_tree (P := P) (base := base) T k_is_ranking k_is_right_tree
  have k_must_be_tree := c_must_be_tree (P := P) (base := base) T k_is_right_tree
  have k_apart_at := c_apart_at (P := P) (base := base) T k_hang_together
  have k_first_apart := c_first_apart (P := P) (base := base) T k_must_be_ranking k_must_be_tree k_apart_at
  have k_allowed := c_allowed (P := P) (base := base) T 
  have k_hangs_at := c_hangs_at (P := P) (base := base) T k_allowed
  have k_lasts := c_lasts (P := P) (base := base) T 
  have k_taken_out := c_taken_out (P := P) (base := base) T k_lasts k_hangs_at
  have k_tie_of := c_tie_of (P := P) (base := base) T 
  have k_tree_told := c_tree_told (P := P) (base := base) T k_must_be_folk k_taken_out k_tie_of
  have k_options := c_options (P := P) (base := base) T k_names_by k_hangs_at
  have k_tree_wrong := c_tree_wrong (P := P) (base := base) T k_is_right_tree k_apart_at
  have k_gone_wrong := c_gone_wrong (P := P) (base := base) T k_are_unlike_names k_lasts k_hangs_at
  have k_tree_judged := c_tree_judged (P := P) (base := base) T k_names_by k_tree_wrong k_gone_wrong
  have k_trees_many := c_trees_many (P := P) (base := base) T k_must_be_folk k_taken_out
  have k_tree_by := c_tree_by (P := P) (base := base) T k_trees_many k_taken_out k_tie_of
  have k_is_balance := c_is_balance (P := P) (base := base) T k_reached
  have k_balance := c_balance (P := P) (base := base) T k_names_by k_must_be_tree k_is_balance
  have k_does_fall := c_does_fall (P := P) (base := base) T 
  have k_number_of := c_number_of (P := P) (base := base) T 
  have k_ranking_of := c_ranking_of (P := P) (base := base) T k_number_of k_is_ranking
  have k_in_one := c_in_one (P := P) (base := base) T 
  have k_read_ranking := c_read_ranking (P := P) (base := base) T k_ranking_of
  have k_folk_text := c_folk_text (P := P) (base := base) T k_must_be_folk k_in_one
  have k_read_folk := c_read_folk (P := P) (base := base) T k_ranking_of
  have k_is_written := c_is_written (P := P) (base := base) T k_is_number
  have k_are_written := c_are_written (P := P) (base := base) T k_is_written
  have k_is_bar := c_is_bar (P := P) (base := base) T k_are_written
  have k_is_paper := c_is_paper (P := P) (base := base) T k_is_bar
  have k_words_of := c_words_of (P := P) (base := base) T 
  have k_paper_text := c_paper_text (P := P) (base := base) T k_is_paper k_words_of
  have k_numbers_by := c_numbers_by (P := P) (base := base) T k_number_of
  have k_lists_by := c_lists_by (P := P) (base := base) T k_numbers_by
  have k_read_paper := c_read_paper (P := P) (base := base) T k_lists_by
  have k_is_title := c_is_title (P := P) (base := base) T 
  have k_is_row := c_is_row (P := P) (base := base) T 
  have k_init := c_Desk_init (P := P) (base := base) T k_is_ranking
  have kM_hands := c_Desk_hands (P := P) (base := base) T 
  have kM_titles := c_Desk_titles (P := P) (base := base) T kM_hands
  have kM_ranking_by := c_Desk_ranking_by (P := P) (base := base) T k_ranking_of
  have kM_must_rank := c_Desk_must_rank (P := P) (base := base) T kM_ranking_by
  have kM_must_line := c_Desk_must_line (P := P) (base := base) T kM_ranking_by
  have kM_done := c_Desk_done (P := P) (base := base) T 
  have kM_come := c_Desk_come (P := P) (base := base) T k_is_title kM_titles kM_must_rank kM_hands kM_done
  have kM_hand_by := c_Desk_hand_by (P := P) (base := base) T kM_hands
  have kM_show := c_Desk_show (P := P) (base := base) T kM_hand_by k_in_one
  have kM_along := c_Desk_along (P := P) (base := base) T kM_must_line kM_hands k_does_fall
  have kM_deed := c_Desk_deed (P := P) (base := base) T kM_come
  have kM_say := c_Desk_say (P := P) (base := base) T k_is_row kM_titles kM_show kM_along kM_deed
  have k__law_mix := c__law_mix (P := P) (base := base) T 
  have k__law_left := c__law_left (P := P) (base := base) T 
  have k__law_draw := c__law_draw (P := P) (base := base) T k__law_mix
  have k__law_names := c__law_names (P := P) (base := base) T k__law_draw
  have k__law_shuffled := c__law_shuffled (P := P) (base := base) T k__law_draw
  have k__law_tree := c__law_tree (P := P) (base := base) T k__law_shuffled k__law_draw
  have k__law_falling := c__law_falling (P := P) (base := base) T k__law_draw
  have k__law_things := c__law_things (P := P) (base := base) T k__law_names k__law_draw k__law_tree k__law_falling k__law_shuffled
  have k__law_copied := c__law_copied (P := P) (base := base) T 5
  have k__law_marked := c__law_marked (P := P) (base := base) T 5
  have k__law_once := c__law_once (P := P) (base := base) T 5
  have k__law_emptied := c_emp2 (P := P) (base := base) T
  have k__law_call := c__law_call (P := P) (base := base) T k_is_tree k_first_apart k_options k_tree_told k_tree_judged k_trees_many k_tree_by k_balance k_folk_text k_read_folk k_paper_text k_read_paper k_read_ranking
  have k__law_stays := c__law_stays (P := P) (base := base) T k__law_copied k__law_call k__law_marked k__law_once
  have k__law_kept := c__law_kept (P := P) (base := base) T k__law_copied k__law_call
  have k__law_desk_goes_on := c__law_desk_goes_on (P := P) (base := base) T k__law_copied k_init k__law_emptied kM_say
  refine fnOk_of F sc_law (fun vs H Q E h => ?_) (b_law (P := P) (base := base) T k__law_left k__law_things k__law_stays k__law_kept k__law_desk_goes_on)
  obtain ⟨a, ns, rfl, _⟩ := h
  rfl
end
end Ol
open PySem PySem.W PySem.Calls PyProof.Rows
theorem PySem.Challenge.cw_ontheline_k89_whole_answers_held_holds : PySem.Challenge.rw_ontheline_k89_whole_answers_held.Holds := by
  w_on; o_law
  refine HandSHeadRun.head_any (r := Ol.Row) (q := Ol.qv) (H := Ol.hk) (ob := Ol.ob) (M := 9000) (loose := Ol.loose) (d := HandSHeadRun.topDef Ol.Row.prog 160) (kwd := []) Ol.ob_eq
    (by kernel_rfl) (fun s => by kernel_rfl) Ol.run (by kernel_rfl) (by kernel_rfl) (by kernel_rfl) (by rfl) (by first | assumption | decide +kernel) (by decide +kernel) ⟨rfl, rfl, rfl, rfl, rfl, by decide +kernel⟩ ?hw ?hc
  case hw => w_witness2
  case hc =>
    refine L2.walk_ofE (l := PySem.Challenge.rw_ontheline_k89_whole_answers_held) (n := 63) (k := 11) (x := "_law_script") (CX := L2.CX0) rfl (by decide) (by kernel_rfl) ⟨rfl, by decide, by decide⟩ ?F (fun _ _ _ _ z => z)
    intro w mg fa h Y G hmg0
    obtain ⟨K, KX, c⟩ := Y
    have T := Ol.tx_of KX G c
    have hmg : mg ("law" : PySem.Str) = some (.ref fa) := by
      have e : (HandSHeadRun.topDef Ol.Row.prog 160).name = ("law" : PySem.Str) := by kernel_rfl
      rw [← e]
      exact hmg0
    obtain ⟨fd, F⟩ := T.F_law
    have e := hmg.symm.trans T.g_law
    cases e
    have b := L2.FunD.bindsA (ps := ["_law_script"]) F fun _ _ _ _ _ _ us hl => match us, hl with | [_], _ => rfl
    exact ⟨K, fd, Ol.spLaw K, KX, fun s v => b s [v] rfl, fun H a ns hl _ hS => ⟨a, ns, rfl, hS, fun _ => rfl⟩, fun base _ _ => Ol.law_ok T F⟩
