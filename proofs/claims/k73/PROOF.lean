import PyProof.Rows.All
import Wide.All
import OpenK.AllK
import Wide.FinOn
import KE.KStateDown
import HandS.ForMost
import HandS.Defaults
import HandS.MakeKw
import HandS.Codes
import HandS.IsInst
import HandS.Head0
import HandS.Head1
import HandS.Head2
import HandS.HeadEnd
import HandS.HeadHook1
import HandS.HeadHook2
import HandS.HeadHook3
import PySem.Challenge.RW_paperkin_k73_whole_sums_hang_together
import HandS.HeadHook4
import HandS.Strs
import HandS.SetKeys
import HandS.StrMore
import HandS.Zip
import HandS.Small
import HandS.Walk
import HandS.CallLocal
import KE.GoesEnum
import KE.GoesMore
import HandS.SortKw
import KE.GoesZip
import KE.GoesEnumKw
import HandS.SetFor
import HandS.OwnEq
import HandS.More
import KE.KCallOwn
import HandS.WordsDict
import HandS.NoneIn
set_option Elab.async false
set_option linter.all false
set_option maxRecDepth 100000
set_option maxHeartbeats 4000000
/-! ## the text by places, the head's facts by name -/
namespace K73
open PySem PySem.Spec PyProof.Rows L2
def top (i : Nat) : Stmt := PySem.Challenge.pw_paperkin_k73_whole_sums_hang_together.main.body.getD i (.Pass ⟨0, 0, 0, 0⟩)
abbrev s_is_whole : Stmt := top 17
abbrev s_is_name : Stmt := top 18
abbrev s_is_text : Stmt := top 19
abbrev s_need_day : Stmt := top 20
abbrev s_are_answers : Stmt := top 25
abbrev s_is_of : Stmt := top 26
abbrev s_Q_init : Stmt := inClass (top 27) 0
abbrev s_Q_is_kin : Stmt := inClass (top 27) 9
abbrev s_need_question : Stmt := top 28
abbrev s_need_questions : Stmt := top 29
abbrev s_toil_sum : Stmt := top 30
abbrev s_B_init : Stmt := inClass (top 33) 0
abbrev s_B_need_there : Stmt := inClass (top 33) 1
abbrev s_B_added : Stmt := inClass (top 33) 2
abbrev s_B_taken_out : Stmt := inClass (top 33) 4
abbrev s_B_used_on : Stmt := inClass (top 33) 7
abbrev s_B_names : Stmt := inClass (top 33) 9
abbrev s_B_names_in : Stmt := inClass (top 33) 10
abbrev s_B_question : Stmt := inClass (top 33) 12
abbrev s_B_last_day : Stmt := inClass (top 33) 14
abbrev s_B_rests : Stmt := inClass (top 33) 16
abbrev s_B_found : Stmt := inClass (top 33) 17
abbrev s_need_bank : Stmt := top 34
abbrev s_resting : Stmt := top 35
abbrev s_is_paper : Stmt := top 38
abbrev s_need_paper : Stmt := top 39
abbrev s_need_ready : Stmt := top 40
abbrev s_paper_of : Stmt := top 41
abbrev s_questions_of : Stmt := top 42
abbrev s_shared : Stmt := top 43
abbrev s_is_number : Stmt := top 50
abbrev s_may_name : Stmt := top 51
abbrev s_W_init : Stmt := inClass (top 52) 0
abbrev s_W_eq : Stmt := inClass (top 52) 1
abbrev s_W_str_ : Stmt := inClass (top 52) 2
abbrev s_W_moved : Stmt := inClass (top 52) 5
abbrev s_need_wish : Stmt := top 53
abbrev s_need_wishes : Stmt := top 54
abbrev s_figures_in : Stmt := top 55
abbrev s_wish_of : Stmt := top 56
abbrev s_of_matter : Stmt := top 58
abbrev s_many_of : Stmt := top 59
abbrev s_toil_of : Stmt := top 60
abbrev s_marks_of : Stmt := top 61
abbrev s_kin_pairs : Stmt := top 62
abbrev s_is_with : Stmt := top 63
abbrev s_does_rest : Stmt := top 65
abbrev s_sum_in : Stmt := top 66
abbrev s_is_met : Stmt := top 67
abbrev s_sum_by : Stmt := top 68
abbrev s_meets : Stmt := top 69
abbrev s_sums_told : Stmt := top 70
abbrev s_lacking : Stmt := top 71
abbrev s_sums_of : Stmt := top 72
abbrev s_l_draws : Stmt := top 74
abbrev s_l_take : Stmt := top 75
abbrev s_l_names : Stmt := top 76
abbrev s_l_rows : Stmt := top 77
abbrev s_l_question : Stmt := top 78
abbrev s_l_bank : Stmt := top 79
abbrev s_l_paper : Stmt := top 80
abbrev s_l_whole_right : Stmt := top 81
abbrev s_l_met_right : Stmt := top 82
abbrev s_l_days_right : Stmt := top 83
abbrev s_law : Stmt := top 84
abbrev N_is_whole : List Str := ["thing", "least", "most"]
theorem sc_is_whole : FnScope N_is_whole ["thing", "least", "most"] (defScope s_is_whole) := ⟨rfl, rfl, rfl, by decide +kernel, rfl, by decide +kernel, by decide +kernel⟩
abbrev N_is_name : List Str := ["thing", "sign"]
theorem sc_is_name : FnScope N_is_name ["thing"] (defScope s_is_name) := ⟨rfl, rfl, rfl, by decide +kernel, rfl, by decide +kernel, by decide +kernel⟩
abbrev N_is_text : List Str := ["thing", "sign"]
theorem sc_is_text : FnScope N_is_text ["thing"] (defScope s_is_text) := ⟨rfl, rfl, rfl, by decide +kernel, rfl, by decide +kernel, by decide +kernel⟩
abbrev N_need_day : List Str := ["thing"]
theorem sc_need_day : FnScope N_need_day ["thing"] (defScope s_need_day) := ⟨rfl, rfl, rfl, by decide +kernel, rfl, by decide +kernel, by decide +kernel⟩
abbrev N_are_answers : List Str := ["thing", "at", "one"]
theorem sc_are_answers : FnScope N_are_answers ["thing"] (defScope s_are_answers) := ⟨rfl, rfl, rfl, by decide +kernel, rfl, by decide +kernel, by decide +kernel⟩
abbrev N_is_of : List Str := ["kin"]
theorem sc_is_of : FnScope N_is_of ["kin"] (defScope s_is_of) := ⟨rfl, rfl, rfl, by decide +kernel, rfl, by decide +kernel, by decide +kernel⟩
abbrev N_Q_init : List Str := ["self", "name", "matter", "answers", "right", "toil", "marks", "kin"]
theorem sc_Q_init : FnScope N_Q_init ["self", "name", "matter", "answers", "right", "toil", "marks", "kin"] (defScope s_Q_init) := ⟨rfl, rfl, rfl, by decide +kernel, rfl, by decide +kernel, by decide +kernel⟩
abbrev N_Q_is_kin : List Str := ["self", "other"]
theorem sc_Q_is_kin : FnScope N_Q_is_kin ["self", "other"] (defScope s_Q_is_kin) := ⟨rfl, rfl, rfl, by decide +kernel, rfl, by decide +kernel, by decide +kernel⟩
abbrev N_need_question : List Str := ["thing"]
theorem sc_need_question : FnScope N_need_question ["thing"] (defScope s_need_question) := ⟨rfl, rfl, rfl, by decide +kernel, rfl, by decide +kernel, by decide +kernel⟩
abbrev N_need_questions : List Str := ["thing", "one"]
theorem sc_need_questions : FnScope N_need_questions ["thing"] (defScope s_need_questions) := ⟨rfl, rfl, rfl, by decide +kernel, rfl, by decide +kernel, by decide +kernel⟩
abbrev N_toil_sum : List Str := ["questions", "start", "one"]
theorem sc_toil_sum : FnScope N_toil_sum ["questions", "start"] (defScope s_toil_sum) := ⟨rfl, rfl, rfl, by decide +kernel, rfl, by decide +kernel, by decide +kernel⟩
abbrev N_B_init : List Str := ["self", "questions", "question"]
theorem sc_B_init : FnScope N_B_init ["self", "questions"] (defScope s_B_init) := ⟨rfl, rfl, rfl, by decide +kernel, rfl, by decide +kernel, by decide +kernel⟩
abbrev N_B_need_there : List Str := ["self", "name"]
theorem sc_B_need_there : FnScope N_B_need_there ["self", "name"] (defScope s_B_need_there) := ⟨rfl, rfl, rfl, by decide +kernel, rfl, by decide +kernel, by decide +kernel⟩
abbrev N_B_added : List Str := ["self", "question"]
theorem sc_B_added : FnScope N_B_added ["self", "question"] (defScope s_B_added) := ⟨rfl, rfl, rfl, by decide +kernel, rfl, by decide +kernel, by decide +kernel⟩
abbrev N_B_taken_out : List Str := ["self", "name", "why"]
theorem sc_B_taken_out : FnScope N_B_taken_out ["self", "name", "why"] (defScope s_B_taken_out) := ⟨rfl, rfl, rfl, by decide +kernel, rfl, by decide +kernel, by decide +kernel⟩
abbrev N_B_used_on : List Str := ["self", "name", "day"]
theorem sc_B_used_on : FnScope N_B_used_on ["self", "name", "day"] (defScope s_B_used_on) := ⟨rfl, rfl, rfl, by decide +kernel, rfl, by decide +kernel, by decide +kernel⟩
abbrev N_B_names : List Str := ["self"]
theorem sc_B_names : FnScope N_B_names ["self"] (defScope s_B_names) := ⟨rfl, rfl, rfl, by decide +kernel, rfl, by decide +kernel, by decide +kernel⟩
abbrev N_B_names_in : List Str := ["self", "name"]
theorem sc_B_names_in : FnScope N_B_names_in ["self"] (defScope s_B_names_in) := ⟨rfl, rfl, rfl, by decide +kernel, rfl, by decide +kernel, by decide +kernel⟩
abbrev N_B_question : List Str := ["self", "name"]
theorem sc_B_question : FnScope N_B_question ["self", "name"] (defScope s_B_question) := ⟨rfl, rfl, rfl, by decide +kernel, rfl, by decide +kernel, by decide +kernel⟩
abbrev N_B_last_day : List Str := ["self", "name", "day", "one"]
theorem sc_B_last_day : FnScope N_B_last_day ["self", "name", "day"] (defScope s_B_last_day) := ⟨rfl, rfl, rfl, by decide +kernel, rfl, by decide +kernel, by decide +kernel⟩
abbrev N_B_rests : List Str := ["self", "name", "day", "rest", "last"]
theorem sc_B_rests : FnScope N_B_rests ["self", "name", "day", "rest"] (defScope s_B_rests) := ⟨rfl, rfl, rfl, by decide +kernel, rfl, by decide +kernel, by decide +kernel⟩
abbrev N_B_found : List Str := ["self", "matter", "least", "most", "kin", "day", "rest", "told", "name", "one", "is_so"]
theorem sc_B_found : FnScope N_B_found ["self", "matter", "least", "most", "kin", "day", "rest"] (defScope s_B_found) := ⟨rfl, rfl, rfl, by decide +kernel, rfl, by decide +kernel, by decide +kernel⟩
abbrev N_need_bank : List Str := ["thing"]
theorem sc_need_bank : FnScope N_need_bank ["thing"] (defScope s_need_bank) := ⟨rfl, rfl, rfl, by decide +kernel, rfl, by decide +kernel, by decide +kernel⟩
abbrev N_resting : List Str := ["bank", "day", "rest", "name"]
theorem sc_resting : FnScope N_resting ["bank", "day", "rest"] (defScope s_resting) := ⟨rfl, rfl, rfl, by decide +kernel, rfl, by decide +kernel, by decide +kernel⟩
abbrev N_is_paper : List Str := ["thing", "one", "other", "name"]
theorem sc_is_paper : FnScope N_is_paper ["thing"] (defScope s_is_paper) := ⟨rfl, rfl, rfl, by decide +kernel, rfl, by decide +kernel, by decide +kernel⟩
abbrev N_need_paper : List Str := ["thing"]
theorem sc_need_paper : FnScope N_need_paper ["thing"] (defScope s_need_paper) := ⟨rfl, rfl, rfl, by decide +kernel, rfl, by decide +kernel, by decide +kernel⟩
abbrev N_need_ready : List Str := ["bank", "paper", "there", "name"]
theorem sc_need_ready : FnScope N_need_ready ["bank", "paper"] (defScope s_need_ready) := ⟨rfl, rfl, rfl, by decide +kernel, rfl, by decide +kernel, by decide +kernel⟩
abbrev N_paper_of : List Str := ["names", "name", "place"]
theorem sc_paper_of : FnScope N_paper_of ["names"] (defScope s_paper_of) := ⟨rfl, rfl, rfl, by decide +kernel, rfl, by decide +kernel, by decide +kernel⟩
abbrev N_questions_of : List Str := ["bank", "paper", "name"]
theorem sc_questions_of : FnScope N_questions_of ["bank", "paper"] (defScope s_questions_of) := ⟨rfl, rfl, rfl, by decide +kernel, rfl, by decide +kernel, by decide +kernel⟩
abbrev N_shared : List Str := ["one", "other", "name"]
theorem sc_shared : FnScope N_shared ["one", "other"] (defScope s_shared) := ⟨rfl, rfl, rfl, by decide +kernel, rfl, by decide +kernel, by decide +kernel⟩
abbrev N_is_number : List Str := ["thing"]
theorem sc_is_number : FnScope N_is_number ["thing"] (defScope s_is_number) := ⟨rfl, rfl, rfl, by decide +kernel, rfl, by decide +kernel, by decide +kernel⟩
abbrev N_may_name : List Str := ["word", "what"]
theorem sc_may_name : FnScope N_may_name ["word", "what"] (defScope s_may_name) := ⟨rfl, rfl, rfl, by decide +kernel, rfl, by decide +kernel, by decide +kernel⟩
abbrev N_W_init : List Str := ["self", "word", "what", "least", "most"]
theorem sc_W_init : FnScope N_W_init ["self", "word", "what", "least", "most"] (defScope s_W_init) := ⟨rfl, rfl, rfl, by decide +kernel, rfl, by decide +kernel, by decide +kernel⟩
abbrev N_W_eq : List Str := ["self", "other", "mine"]
theorem sc_W_eq : FnScope N_W_eq ["self", "other"] (defScope s_W_eq) := ⟨rfl, rfl, rfl, by decide +kernel, rfl, by decide +kernel, by decide +kernel⟩
abbrev N_W_str_ : List Str := ["self"]
theorem sc_W_str_ : FnScope N_W_str_ ["self"] (defScope s_W_str_) := ⟨rfl, rfl, rfl, by decide +kernel, rfl, by decide +kernel, by decide +kernel⟩
abbrev N_W_moved : List Str := ["self", "by", "least", "most", "bound"]
theorem sc_W_moved : FnScope N_W_moved ["self", "by"] (defScope s_W_moved) := ⟨rfl, rfl, rfl, by decide +kernel, rfl, by decide +kernel, by decide +kernel⟩
abbrev N_need_wish : List Str := ["thing"]
theorem sc_need_wish : FnScope N_need_wish ["thing"] (defScope s_need_wish) := ⟨rfl, rfl, rfl, by decide +kernel, rfl, by decide +kernel, by decide +kernel⟩
abbrev N_need_wishes : List Str := ["thing", "number", "one"]
theorem sc_need_wishes : FnScope N_need_wishes ["thing"] (defScope s_need_wishes) := ⟨rfl, rfl, rfl, by decide +kernel, rfl, by decide +kernel, by decide +kernel⟩
abbrev N_figures_in : List Str := ["word", "sign"]
theorem sc_figures_in : FnScope N_figures_in ["word"] (defScope s_figures_in) := ⟨rfl, rfl, rfl, by decide +kernel, rfl, by decide +kernel, by decide +kernel⟩
abbrev N_wish_of : List Str := ["text", "words", "least", "most", "word"]
theorem sc_wish_of : FnScope N_wish_of ["text"] (defScope s_wish_of) := ⟨rfl, rfl, rfl, by decide +kernel, rfl, by decide +kernel, by decide +kernel⟩
abbrev N_of_matter : List Str := ["questions", "what", "question"]
theorem sc_of_matter : FnScope N_of_matter ["questions", "what"] (defScope s_of_matter) := ⟨rfl, rfl, rfl, by decide +kernel, rfl, by decide +kernel, by decide +kernel⟩
abbrev N_many_of : List Str := ["questions", "wish"]
theorem sc_many_of : FnScope N_many_of ["questions", "wish"] (defScope s_many_of) := ⟨rfl, rfl, rfl, by decide +kernel, rfl, by decide +kernel, by decide +kernel⟩
abbrev N_toil_of : List Str := ["questions", "wish", "question"]
theorem sc_toil_of : FnScope N_toil_of ["questions", "wish"] (defScope s_toil_of) := ⟨rfl, rfl, rfl, by decide +kernel, rfl, by decide +kernel, by decide +kernel⟩
abbrev N_marks_of : List Str := ["questions", "wish", "question"]
theorem sc_marks_of : FnScope N_marks_of ["questions", "wish"] (defScope s_marks_of) := ⟨rfl, rfl, rfl, by decide +kernel, rfl, by decide +kernel, by decide +kernel⟩
abbrev N_kin_pairs : List Str := ["questions", "wish", "counts", "question", "many"]
theorem sc_kin_pairs : FnScope N_kin_pairs ["questions", "wish"] (defScope s_kin_pairs) := ⟨rfl, rfl, rfl, by decide +kernel, rfl, by decide +kernel, by decide +kernel⟩
abbrev N_is_with : List Str := ["questions", "wish", "question"]
theorem sc_is_with : FnScope N_is_with ["questions", "wish"] (defScope s_is_with) := ⟨rfl, rfl, rfl, by decide +kernel, rfl, by decide +kernel, by decide +kernel⟩
abbrev N_does_rest : List Str := ["bank", "name", "day", "rest", "last"]
theorem sc_does_rest : FnScope N_does_rest ["bank", "name", "day", "rest"] (defScope s_does_rest) := ⟨rfl, rfl, rfl, by decide +kernel, rfl, by decide +kernel, by decide +kernel⟩
abbrev N_sum_in : List Str := ["bank", "paper", "wish", "day", "told", "name"]
theorem sc_sum_in : FnScope N_sum_in ["bank", "paper", "wish", "day"] (defScope s_sum_in) := ⟨rfl, rfl, rfl, by decide +kernel, rfl, by decide +kernel, by decide +kernel⟩
abbrev N_is_met : List Str := ["wish", "found"]
theorem sc_is_met : FnScope N_is_met ["wish", "found"] (defScope s_is_met) := ⟨rfl, rfl, rfl, by decide +kernel, rfl, by decide +kernel, by decide +kernel⟩
abbrev N_sum_by : List Str := ["bank", "paper", "wish", "day"]
theorem sc_sum_by : FnScope N_sum_by ["bank", "paper", "wish", "day"] (defScope s_sum_by) := ⟨rfl, rfl, rfl, by decide +kernel, rfl, by decide +kernel, by decide +kernel⟩
abbrev N_meets : List Str := ["bank", "paper", "wish", "day"]
theorem sc_meets : FnScope N_meets ["bank", "paper", "wish", "day"] (defScope s_meets) := ⟨rfl, rfl, rfl, by decide +kernel, rfl, by decide +kernel, by decide +kernel⟩
abbrev N_sums_told : List Str := ["bank", "paper", "wishes", "day", "wish"]
theorem sc_sums_told : FnScope N_sums_told ["bank", "paper", "wishes", "day"] (defScope s_sums_told) := ⟨rfl, rfl, rfl, by decide +kernel, rfl, by decide +kernel, by decide +kernel⟩
abbrev N_lacking : List Str := ["bank", "paper", "wishes", "day", "some", "number", "found"]
theorem sc_lacking : FnScope N_lacking ["bank", "paper", "wishes", "day"] (defScope s_lacking) := ⟨rfl, rfl, rfl, by decide +kernel, rfl, by decide +kernel, by decide +kernel⟩
abbrev N_sums_of : List Str := ["bank", "paper", "wishes", "day", "found", "wish", "one"]
theorem sc_sums_of : FnScope N_sums_of ["bank", "paper", "wishes", "day"] (defScope s_sums_of) := ⟨rfl, rfl, rfl, by decide +kernel, rfl, by decide +kernel, by decide +kernel⟩
abbrev N_l_draws : List Str := ["_law_script", "_law_cells", "_law_found", "_law_k", "_law_cell"]
theorem sc_l_draws : FnScope N_l_draws ["_law_script"] (defScope s_l_draws) := ⟨rfl, rfl, rfl, by decide +kernel, rfl, by decide +kernel, by decide +kernel⟩
abbrev N_l_take : List Str := ["_law_draw", "_law_many", "_law_found", "_law_at", "_law_cells", "_law_number"]
theorem sc_l_take : FnScope N_l_take ["_law_draw", "_law_many"] (defScope s_l_take) := ⟨rfl, rfl, rfl, by decide +kernel, rfl, by decide +kernel, by decide +kernel⟩
abbrev N_l_names : List Str := ["_law_draw", "_law_many", "_law_letters", "_law_words", "_law_size", "_law_at", "_law_word", "_law_first", "_law_step", "_law_k"]
theorem sc_l_names : FnScope N_l_names ["_law_draw", "_law_many"] (defScope s_l_names) := ⟨rfl, rfl, rfl, by decide +kernel, rfl, by decide +kernel, by decide +kernel⟩
abbrev N_l_rows : List Str := ["_law_draw", "_law_own_most", "_law_names_here", "_law_matters", "_law_kins", "_law_found", "_law_name", "_law_row"]
theorem sc_l_rows : FnScope N_l_rows ["_law_draw", "_law_own_most"] (defScope s_l_rows) := ⟨rfl, rfl, rfl, by decide +kernel, rfl, by decide +kernel, by decide +kernel⟩
abbrev N_l_question : List Str := ["_law_row", "_law_answers", "_law_at", "_law_family"]
theorem sc_l_question : FnScope N_l_question ["_law_row"] (defScope s_l_question) := ⟨rfl, rfl, rfl, by decide +kernel, rfl, by decide +kernel, by decide +kernel⟩
abbrev N_l_bank : List Str := ["_law_draw", "_law_rows_here", "_law_row", "_law_bank_here", "_law_turn", "_law_own_day", "_law_one"]
theorem sc_l_bank : FnScope N_l_bank ["_law_draw", "_law_rows_here"] (defScope s_l_bank) := ⟨rfl, rfl, rfl, by decide +kernel, rfl, by decide +kernel, by decide +kernel⟩
abbrev N_l_paper : List Str := ["_law_draw", "_law_rows_here", "_law_there", "_law_found", "_law_name", "_law_row"]
theorem sc_l_paper : FnScope N_l_paper ["_law_draw", "_law_rows_here"] (defScope s_l_paper) := ⟨rfl, rfl, rfl, by decide +kernel, rfl, by decide +kernel, by decide +kernel⟩
abbrev N_l_whole_right : List Str := ["_law_bank_here", "_law_paper_here", "_law_rows_here", "_law_row", "_law_some", "_law_matters", "_law_word", "_law_whole", "_law_due", "_law_pairs", "_law_at", "_law_one", "_law_kins", "_law_by_kin", "_law_own_kin", "_law_other", "_law_own_matter"]
theorem sc_l_whole_right : FnScope N_l_whole_right ["_law_bank_here", "_law_paper_here", "_law_rows_here"] (defScope s_l_whole_right) := ⟨rfl, rfl, rfl, by decide +kernel, rfl, by decide +kernel, by decide +kernel⟩
abbrev N_l_met_right : List Str := ["_law_draw", "_law_bank_here", "_law_paper_here", "_law_rows_here", "_law_own_day", "_law_wishes", "_law_word", "_law_own_what", "_law_found", "_law_just", "_law_due", "_law_table", "_law_at", "_law_wish", "_law_pair"]
theorem sc_l_met_right : FnScope N_l_met_right ["_law_draw", "_law_bank_here", "_law_paper_here", "_law_rows_here", "_law_own_day"] (defScope s_l_met_right) := ⟨rfl, rfl, rfl, by decide +kernel, rfl, by decide +kernel, by decide +kernel⟩
abbrev N_l_days_right : List Str := ["_law_draw", "_law_bank_here", "_law_paper_here", "_law_own_day", "_law_own_rest", "_law_names_here", "_law_told", "_law_awake", "_law_name"]
theorem sc_l_days_right : FnScope N_l_days_right ["_law_draw", "_law_bank_here", "_law_paper_here"] (defScope s_l_days_right) := ⟨rfl, rfl, rfl, by decide +kernel, rfl, by decide +kernel, by decide +kernel⟩
abbrev N_law : List Str := ["_law_script", "_law_draw", "_law_rows_here", "_law_bank_here", "_law_paper_here", "_law_other", "_law_both", "_law_some", "_law_row", "_law_there", "_law_name"]
theorem sc_law : FnScope N_law ["_law_script"] (defScope s_law) := ⟨rfl, rfl, rfl, by decide +kernel, rfl, by decide +kernel, by decide +kernel⟩
def D_is_whole : He.DefD := ⟨("is_whole", none), "is_whole", "is_whole", defArgs s_is_whole, defBody s_is_whole, defScope s_is_whole, [.int 0, .int 9999], []⟩
def D_is_name : He.DefD := ⟨("is_name", none), "is_name", "is_name", defArgs s_is_name, defBody s_is_name, defScope s_is_name, [], []⟩
def D_is_text : He.DefD := ⟨("is_text", none), "is_text", "is_text", defArgs s_is_text, defBody s_is_text, defScope s_is_text, [], []⟩
def D_need_day : He.DefD := ⟨("need_day", none), "need_day", "need_day", defArgs s_need_day, defBody s_need_day, defScope s_need_day, [], []⟩
def D_are_answers : He.DefD := ⟨("are_answers", none), "are_answers", "are_answers", defArgs s_are_answers, defBody s_are_answers, defScope s_are_answers, [], []⟩
def D_is_of : He.DefD := ⟨("is_of", none), "is_of", "is_of", defArgs s_is_of, defBody s_is_of, defScope s_is_of, [], []⟩
def D_Q_init : He.DefD := ⟨("Question", some "__init__"), "__init__", "Question.__init__", defArgs s_Q_init, defBody s_Q_init, defScope s_Q_init, [.int 0, .int 5, .int 1, .str ""], []⟩
def D_Q_is_kin : He.DefD := ⟨("Question", some "is_kin"), "is_kin", "Question.is_kin", defArgs s_Q_is_kin, defBody s_Q_is_kin, defScope s_Q_is_kin, [], []⟩
def D_need_question : He.DefD := ⟨("need_question", none), "need_question", "need_question", defArgs s_need_question, defBody s_need_question, defScope s_need_question, [], []⟩
def D_need_questions : He.DefD := ⟨("need_questions", none), "need_questions", "need_questions", defArgs s_need_questions, defBody s_need_questions, defScope s_need_questions, [], []⟩
def D_toil_sum : He.DefD := ⟨("toil_sum", none), "toil_sum", "toil_sum", defArgs s_toil_sum, defBody s_toil_sum, defScope s_toil_sum, [.int 0], []⟩
def D_B_init : He.DefD := ⟨("Bank", some "__init__"), "__init__", "Bank.__init__", defArgs s_B_init, defBody s_B_init, defScope s_B_init, [.non], []⟩
def D_B_need_there : He.DefD := ⟨("Bank", some "need_there"), "need_there", "Bank.need_there", defArgs s_B_need_there, defBody s_B_need_there, defScope s_B_need_there, [], []⟩
def D_B_added : He.DefD := ⟨("Bank", some "added"), "added", "Bank.added", defArgs s_B_added, defBody s_B_added, defScope s_B_added, [], []⟩
def D_B_taken_out : He.DefD := ⟨("Bank", some "taken_out"), "taken_out", "Bank.taken_out", defArgs s_B_taken_out, defBody s_B_taken_out, defScope s_B_taken_out, [.str "wrong"], []⟩
def D_B_used_on : He.DefD := ⟨("Bank", some "used_on"), "used_on", "Bank.used_on", defArgs s_B_used_on, defBody s_B_used_on, defScope s_B_used_on, [], []⟩
def D_B_names : He.DefD := ⟨("Bank", some "names"), "names", "Bank.names", defArgs s_B_names, defBody s_B_names, defScope s_B_names, [], []⟩
def D_B_names_in : He.DefD := ⟨("Bank", some "names_in"), "names_in", "Bank.names_in", defArgs s_B_names_in, defBody s_B_names_in, defScope s_B_names_in, [], []⟩
def D_B_question : He.DefD := ⟨("Bank", some "question"), "question", "Bank.question", defArgs s_B_question, defBody s_B_question, defScope s_B_question, [], []⟩
def D_B_last_day : He.DefD := ⟨("Bank", some "last_day"), "last_day", "Bank.last_day", defArgs s_B_last_day, defBody s_B_last_day, defScope s_B_last_day, [.int 9999], []⟩
def D_B_rests : He.DefD := ⟨("Bank", some "rests"), "rests", "Bank.rests", defArgs s_B_rests, defBody s_B_rests, defScope s_B_rests, [], []⟩
def D_B_found : He.DefD := ⟨("Bank", some "found"), "found", "Bank.found", defArgs s_B_found, defBody s_B_found, defScope s_B_found, [.str "", .int 1, .int 9, .str "", .non, .int 0], []⟩
def D_need_bank : He.DefD := ⟨("need_bank", none), "need_bank", "need_bank", defArgs s_need_bank, defBody s_need_bank, defScope s_need_bank, [], []⟩
def D_resting : He.DefD := ⟨("resting", none), "resting", "resting", defArgs s_resting, defBody s_resting, defScope s_resting, [], []⟩
def D_is_paper : He.DefD := ⟨("is_paper", none), "is_paper", "is_paper", defArgs s_is_paper, defBody s_is_paper, defScope s_is_paper, [], []⟩
def D_need_paper : He.DefD := ⟨("need_paper", none), "need_paper", "need_paper", defArgs s_need_paper, defBody s_need_paper, defScope s_need_paper, [], []⟩
def D_need_ready : He.DefD := ⟨("need_ready", none), "need_ready", "need_ready", defArgs s_need_ready, defBody s_need_ready, defScope s_need_ready, [], []⟩
def D_paper_of : He.DefD := ⟨("paper_of", none), "paper_of", "paper_of", defArgs s_paper_of, defBody s_paper_of, defScope s_paper_of, [], []⟩
def D_questions_of : He.DefD := ⟨("questions_of", none), "questions_of", "questions_of", defArgs s_questions_of, defBody s_questions_of, defScope s_questions_of, [], []⟩
def D_shared : He.DefD := ⟨("shared", none), "shared", "shared", defArgs s_shared, defBody s_shared, defScope s_shared, [], []⟩
def D_is_number : He.DefD := ⟨("is_number", none), "is_number", "is_number", defArgs s_is_number, defBody s_is_number, defScope s_is_number, [], []⟩
def D_may_name : He.DefD := ⟨("may_name", none), "may_name", "may_name", defArgs s_may_name, defBody s_may_name, defScope s_may_name, [], []⟩
def D_W_init : He.DefD := ⟨("Wish", some "__init__"), "__init__", "Wish.__init__", defArgs s_W_init, defBody s_W_init, defScope s_W_init, [.str "", .int 0, .int 999], []⟩
def D_W_eq : He.DefD := ⟨("Wish", some "__eq__"), "__eq__", "Wish.__eq__", defArgs s_W_eq, defBody s_W_eq, defScope s_W_eq, [], []⟩
def D_W_str_ : He.DefD := ⟨("Wish", some "__str__"), "__str__", "Wish.__str__", defArgs s_W_str_, defBody s_W_str_, defScope s_W_str_, [], []⟩
def D_W_moved : He.DefD := ⟨("Wish", some "moved"), "moved", "Wish.moved", defArgs s_W_moved, defBody s_W_moved, defScope s_W_moved, [], []⟩
def D_need_wish : He.DefD := ⟨("need_wish", none), "need_wish", "need_wish", defArgs s_need_wish, defBody s_need_wish, defScope s_need_wish, [], []⟩
def D_need_wishes : He.DefD := ⟨("need_wishes", none), "need_wishes", "need_wishes", defArgs s_need_wishes, defBody s_need_wishes, defScope s_need_wishes, [], []⟩
def D_figures_in : He.DefD := ⟨("figures_in", none), "figures_in", "figures_in", defArgs s_figures_in, defBody s_figures_in, defScope s_figures_in, [], []⟩
def D_wish_of : He.DefD := ⟨("wish_of", none), "wish_of", "wish_of", defArgs s_wish_of, defBody s_wish_of, defScope s_wish_of, [], []⟩
def D_of_matter : He.DefD := ⟨("of_matter", none), "of_matter", "of_matter", defArgs s_of_matter, defBody s_of_matter, defScope s_of_matter, [], []⟩
def D_many_of : He.DefD := ⟨("many_of", none), "many_of", "many_of", defArgs s_many_of, defBody s_many_of, defScope s_many_of, [], []⟩
def D_toil_of : He.DefD := ⟨("toil_of", none), "toil_of", "toil_of", defArgs s_toil_of, defBody s_toil_of, defScope s_toil_of, [], []⟩
def D_marks_of : He.DefD := ⟨("marks_of", none), "marks_of", "marks_of", defArgs s_marks_of, defBody s_marks_of, defScope s_marks_of, [], []⟩
def D_kin_pairs : He.DefD := ⟨("kin_pairs", none), "kin_pairs", "kin_pairs", defArgs s_kin_pairs, defBody s_kin_pairs, defScope s_kin_pairs, [], []⟩
def D_is_with : He.DefD := ⟨("is_with", none), "is_with", "is_with", defArgs s_is_with, defBody s_is_with, defScope s_is_with, [], []⟩
def D_does_rest : He.DefD := ⟨("does_rest", none), "does_rest", "does_rest", defArgs s_does_rest, defBody s_does_rest, defScope s_does_rest, [], []⟩
def D_sum_in : He.DefD := ⟨("sum_in", none), "sum_in", "sum_in", defArgs s_sum_in, defBody s_sum_in, defScope s_sum_in, [], []⟩
def D_is_met : He.DefD := ⟨("is_met", none), "is_met", "is_met", defArgs s_is_met, defBody s_is_met, defScope s_is_met, [], []⟩
def D_sum_by : He.DefD := ⟨("sum_by", none), "sum_by", "sum_by", defArgs s_sum_by, defBody s_sum_by, defScope s_sum_by, [.int 0], []⟩
def D_meets : He.DefD := ⟨("meets", none), "meets", "meets", defArgs s_meets, defBody s_meets, defScope s_meets, [.int 0], []⟩
def D_sums_told : He.DefD := ⟨("sums_told", none), "sums_told", "sums_told", defArgs s_sums_told, defBody s_sums_told, defScope s_sums_told, [], []⟩
def D_lacking : He.DefD := ⟨("lacking", none), "lacking", "lacking", defArgs s_lacking, defBody s_lacking, defScope s_lacking, [.int 0], []⟩
def D_sums_of : He.DefD := ⟨("sums_of", none), "sums_of", "sums_of", defArgs s_sums_of, defBody s_sums_of, defScope s_sums_of, [.int 0], []⟩
def D_l_draws : He.DefD := ⟨("_law_draws", none), "_law_draws", "_law_draws", defArgs s_l_draws, defBody s_l_draws, defScope s_l_draws, [], []⟩
def D_l_take : He.DefD := ⟨("_law_take", none), "_law_take", "_law_take", defArgs s_l_take, defBody s_l_take, defScope s_l_take, [], []⟩
def D_l_names : He.DefD := ⟨("_law_names", none), "_law_names", "_law_names", defArgs s_l_names, defBody s_l_names, defScope s_l_names, [], []⟩
def D_l_rows : He.DefD := ⟨("_law_rows", none), "_law_rows", "_law_rows", defArgs s_l_rows, defBody s_l_rows, defScope s_l_rows, [], []⟩
def D_l_question : He.DefD := ⟨("_law_question", none), "_law_question", "_law_question", defArgs s_l_question, defBody s_l_question, defScope s_l_question, [], []⟩
def D_l_bank : He.DefD := ⟨("_law_bank", none), "_law_bank", "_law_bank", defArgs s_l_bank, defBody s_l_bank, defScope s_l_bank, [], []⟩
def D_l_paper : He.DefD := ⟨("_law_paper", none), "_law_paper", "_law_paper", defArgs s_l_paper, defBody s_l_paper, defScope s_l_paper, [], []⟩
def D_l_whole_right : He.DefD := ⟨("_law_whole_right", none), "_law_whole_right", "_law_whole_right", defArgs s_l_whole_right, defBody s_l_whole_right, defScope s_l_whole_right, [], []⟩
def D_l_met_right : He.DefD := ⟨("_law_met_right", none), "_law_met_right", "_law_met_right", defArgs s_l_met_right, defBody s_l_met_right, defScope s_l_met_right, [], []⟩
def D_l_days_right : He.DefD := ⟨("_law_days_right", none), "_law_days_right", "_law_days_right", defArgs s_l_days_right, defBody s_l_days_right, defScope s_l_days_right, [], []⟩
def D_law : He.DefD := ⟨("law", none), "law", "law", defArgs s_law, defBody s_law, defScope s_law, [], []⟩
def fn : List He.DefD := [D_is_whole, D_is_name, D_is_text, D_need_day, D_are_answers, D_is_of, D_Q_init, D_Q_is_kin, D_need_question, D_need_questions, D_toil_sum, D_B_init, D_B_need_there, D_B_added, D_B_taken_out, D_B_used_on, D_B_names, D_B_names_in, D_B_question, D_B_last_day, D_B_rests, D_B_found, D_need_bank, D_resting, D_is_paper, D_need_paper, D_need_ready, D_paper_of, D_questions_of, D_shared, D_is_number, D_may_name, D_W_init, D_W_eq, D_W_str_, D_W_moved, D_need_wish, D_need_wishes, D_figures_in, D_wish_of, D_of_matter, D_many_of, D_toil_of, D_marks_of, D_kin_pairs, D_is_with, D_does_rest, D_sum_in, D_is_met, D_sum_by, D_meets, D_sums_told, D_lacking, D_sums_of, D_l_draws, D_l_take, D_l_names, D_l_rows, D_l_question, D_l_bank, D_l_paper, D_l_whole_right, D_l_met_right, D_l_days_right, D_law]
def v_LETTERS : Str := "abcdefghijklmnopqrstuvwxyz"
def v_SIGNS : Str := " !\"#$&'()*+,-./0123456789:;<=>?@ABCDEFGHIJKLMNOPQRSTUVWXYZ[\\]^_`abcdefghijklmnopqrstuvwxyz{|}~"
def v_FIGURES : Str := "0123456789"
def fa0 : List He.Fa := [.glo "is_whole", .glo "is_name", .glo "is_text", .glo "need_day", .glo "are_answers", .glo "is_of", .glo "need_question", .glo "need_questions", .glo "toil_sum", .glo "need_bank", .glo "resting", .glo "is_paper", .glo "need_paper", .glo "need_ready", .glo "paper_of", .glo "questions_of", .glo "shared", .glo "is_number", .glo "may_name", .glo "need_wish", .glo "need_wishes", .glo "figures_in", .glo "wish_of", .glo "of_matter", .glo "many_of", .glo "toil_of", .glo "marks_of", .glo "kin_pairs", .glo "is_with", .glo "does_rest"]
def fa1 : List He.Fa := [.glo "sum_in", .glo "is_met", .glo "sum_by", .glo "meets", .glo "sums_told", .glo "lacking", .glo "sums_of", .glo "_law_draws", .glo "_law_take", .glo "_law_names", .glo "_law_rows", .glo "_law_question", .glo "_law_bank", .glo "_law_paper", .glo "_law_whole_right", .glo "_law_met_right", .glo "_law_days_right", .glo "law", .glo "Question", .glo "Bank", .glo "Wish", .glo "WORDS", .glo "BY_WORDS", .free "isinstance", .free "int", .free "bool", .free "str", .free "len", .free "all", .free "list"]
def fa2 : List He.Fa := [.free "tuple", .free "enumerate", .free "zip", .free "sum", .free "sorted", .free "set", .free "max", .free "min", .free "range", .int "LONGEST_NAME" 8, .int "LONGEST_TEXT" 30, .int "FEWEST" 2, .int "MOST" 6, .int "TOP" 9, .int "MOST_QUESTIONS" 60, .int "MOST_NAMES" 40, .int "MOST_SUM" 999, .int "MOST_WISHES" 12, .str "LETTERS" v_LETTERS, .str "SIGNS" v_SIGNS, .str "FIGURES" v_FIGURES, .cls "Question", .mkr "Question", .noat "Question" "name", .noat "Question" "matter", .noat "Question" "answers", .noat "Question" "right", .noat "Question" "toil", .noat "Question" "marks", .noat "Question" "kin"]
def fa3 : List He.Fa := [.meth "Question" "is_kin", .cls "Bank", .mkr "Bank", .noat "Bank" "kept_here", .noat "Bank" "out_here", .noat "Bank" "days_here", .meth "Bank" "need_there", .meth "Bank" "added", .meth "Bank" "taken_out", .meth "Bank" "used_on", .meth "Bank" "names", .meth "Bank" "names_in", .meth "Bank" "question", .meth "Bank" "last_day", .meth "Bank" "rests", .meth "Bank" "found", .cls "Wish", .mkr "Wish", .noat "Wish" "word", .noat "Wish" "what", .noat "Wish" "least", .noat "Wish" "most", .meth "Wish" "__eq__", .meth "Wish" "__str__", .meth "Wish" "moved"]
def fa : List He.Fa := fa0 ++ fa1 ++ fa2 ++ fa3
def ts : List He.Tab := [((fun K => He.ga K "BY_WORDS"), ["many", "toil", "marks", "kin", "with"])]
/-- what isinstance, !=, the tables ask besides -/
def insB (K : PySem.W.Frag) (x : Str) : Bool := He.eqO (PySem.W.findIn K (.ref (He.ga K x)) "__class__") (some (some (.builtin "object.__class__"))) && (decide (PySem.W.mroIn K (He.ga K x) (.type "object") = some true) && decide (PySem.W.kitOne K (.ref (He.ga K x)) (.ref (He.ga K x)) = some true))
def byW : List (Str × He.Dv) := [("many", .glo "many_of"), ("toil", .glo "toil_of"), ("marks", .glo "marks_of"), ("kin", .glo "kin_pairs"), ("with", .glo "is_with")]
def wordsD : List He.Dv := [.str "many", .str "toil", .str "marks", .str "rest", .str "kin", .str "with"]
def ex (K : PySem.W.Frag) : Bool := (He.eqO (PySem.W.specialIn K (.builtin "object.__class__") "__get__") (some (some (.builtin "getset_descriptor.__get__"))) && decide (PySem.W.takesIn K (.builtin "object.__class__") = some true)) && ((insB K "Question" && (insB K "Bank" && insB K "Wish")) && (He.tupB K "WORDS" wordsD && (He.valsB K (He.ga K "BY_WORDS") byW && He.eqO (PySem.W.findIn K (.ref (He.ga K "Wish")) "__ne__") (some (some (.builtin "object.__ne__"))))))
/-- what the walks lean on -/
structure Top (w : World) (K : PySem.W.Frag) (mg : Str → Option Value) : Prop where
  t : He.SaysT fa fn ts w K
  more : ex K = true
  glo : ∀ {x : Str} (i : Nat), fa[i]? = some (.glo x) → mg x = some (.ref (He.ga K x))
  free : ∀ {x : Str} (i : Nat), fa[i]? = some (.free x) → mg x = none
  int : ∀ {x : Str} {v : Int} (i : Nat), fa[i]? = some (.int x v) → ∃ u, mg x = some u ∧ RelV (.int v) u
  str : ∀ {x z : Str} (i : Nat), fa[i]? = some (.str x z) → ∃ u, mg x = some u ∧ RelV (.str z) u
theorem Top.of {w : World} {K : PySem.W.Frag} {h : Heap} {mg : Str → Option Value} (X : K.In h) (G : h.Ns mainGlobals mg) (t : He.SaysT fa fn ts w K) (more : ex K = true) : Top w K mg :=
  ⟨t, more, fun i e => He.glo_ok X G (t.d.fact i e), fun i e => He.free_ok X G (t.d.fact i e), fun i e => by
    obtain ⟨u, hu⟩ := He.int_ok X G (t.d.fact i e)
    exact ⟨_, hu, u, rfl⟩, fun i e => by
    obtain ⟨u, hu⟩ := He.str_ok X G (t.d.fact i e)
    exact ⟨_, hu, u, rfl⟩⟩
section
variable {w : World} {K : PySem.W.Frag} {mg : Str → Option Value}
theorem Top.g_is_whole (T : Top w K mg) : mg "is_whole" = some (.ref (He.ga K "is_whole")) := T.glo 0 rfl
theorem Top.g_is_name (T : Top w K mg) : mg "is_name" = some (.ref (He.ga K "is_name")) := T.glo 1 rfl
theorem Top.g_is_text (T : Top w K mg) : mg "is_text" = some (.ref (He.ga K "is_text")) := T.glo 2 rfl
theorem Top.g_need_day (T : Top w K mg) : mg "need_day" = some (.ref (He.ga K "need_day")) := T.glo 3 rfl
theorem Top.g_are_answers (T : Top w K mg) : mg "are_answers" = some (.ref (He.ga K "are_answers")) := T.glo 4 rfl
theorem Top.g_is_of (T : Top w K mg) : mg "is_of" = some (.ref (He.ga K "is_of")) := T.glo 5 rfl
theorem Top.g_need_question (T : Top w K mg) : mg "need_question" = some (.ref (He.ga K "need_question")) := T.glo 6 rfl
theorem Top.g_need_questions (T : Top w K mg) : mg "need_questions" = some (.ref (He.ga K "need_questions")) := T.glo 7 rfl
theorem Top.g_toil_sum (T : Top w K mg) : mg "toil_sum" = some (.ref (He.ga K "toil_sum")) := T.glo 8 rfl
theorem Top.g_need_bank (T : Top w K mg) : mg "need_bank" = some (.ref (He.ga K "need_bank")) := T.glo 9 rfl
theorem Top.g_resting (T : Top w K mg) : mg "resting" = some (.ref (He.ga K "resting")) := T.glo 10 rfl
theorem Top.g_is_paper (T : Top w K mg) : mg "is_paper" = some (.ref (He.ga K "is_paper")) := T.glo 11 rfl
theorem Top.g_need_paper (T : Top w K mg) : mg "need_paper" = some (.ref (He.ga K "need_paper")) := T.glo 12 rfl
theorem Top.g_need_ready (T : Top w K mg) : mg "need_ready" = some (.ref (He.ga K "need_ready")) := T.glo 13 rfl
theorem Top.g_paper_of (T : Top w K mg) : mg "paper_of" = some (.ref (He.ga K "paper_of")) := T.glo 14 rfl
theorem Top.g_questions_of (T : Top w K mg) : mg "questions_of" = some (.ref (He.ga K "questions_of")) := T.glo 15 rfl
theorem Top.g_shared (T : Top w K mg) : mg "shared" = some (.ref (He.ga K "shared")) := T.glo 16 rfl
theorem Top.g_is_number (T : Top w K mg) : mg "is_number" = some (.ref (He.ga K "is_number")) := T.glo 17 rfl
theorem Top.g_may_name (T : Top w K mg) : mg "may_name" = some (.ref (He.ga K "may_name")) := T.glo 18 rfl
theorem Top.g_need_wish (T : Top w K mg) : mg "need_wish" = some (.ref (He.ga K "need_wish")) := T.glo 19 rfl
theorem Top.g_need_wishes (T : Top w K mg) : mg "need_wishes" = some (.ref (He.ga K "need_wishes")) := T.glo 20 rfl
theorem Top.g_figures_in (T : Top w K mg) : mg "figures_in" = some (.ref (He.ga K "figures_in")) := T.glo 21 rfl
theorem Top.g_wish_of (T : Top w K mg) : mg "wish_of" = some (.ref (He.ga K "wish_of")) := T.glo 22 rfl
theorem Top.g_of_matter (T : Top w K mg) : mg "of_matter" = some (.ref (He.ga K "of_matter")) := T.glo 23 rfl
theorem Top.g_many_of (T : Top w K mg) : mg "many_of" = some (.ref (He.ga K "many_of")) := T.glo 24 rfl
theorem Top.g_toil_of (T : Top w K mg) : mg "toil_of" = some (.ref (He.ga K "toil_of")) := T.glo 25 rfl
theorem Top.g_marks_of (T : Top w K mg) : mg "marks_of" = some (.ref (He.ga K "marks_of")) := T.glo 26 rfl
theorem Top.g_kin_pairs (T : Top w K mg) : mg "kin_pairs" = some (.ref (He.ga K "kin_pairs")) := T.glo 27 rfl
theorem Top.g_is_with (T : Top w K mg) : mg "is_with" = some (.ref (He.ga K "is_with")) := T.glo 28 rfl
theorem Top.g_does_rest (T : Top w K mg) : mg "does_rest" = some (.ref (He.ga K "does_rest")) := T.glo 29 rfl
theorem Top.g_sum_in (T : Top w K mg) : mg "sum_in" = some (.ref (He.ga K "sum_in")) := T.glo 30 rfl
theorem Top.g_is_met (T : Top w K mg) : mg "is_met" = some (.ref (He.ga K "is_met")) := T.glo 31 rfl
theorem Top.g_sum_by (T : Top w K mg) : mg "sum_by" = some (.ref (He.ga K "sum_by")) := T.glo 32 rfl
theorem Top.g_meets (T : Top w K mg) : mg "meets" = some (.ref (He.ga K "meets")) := T.glo 33 rfl
theorem Top.g_sums_told (T : Top w K mg) : mg "sums_told" = some (.ref (He.ga K "sums_told")) := T.glo 34 rfl
theorem Top.g_lacking (T : Top w K mg) : mg "lacking" = some (.ref (He.ga K "lacking")) := T.glo 35 rfl
theorem Top.g_sums_of (T : Top w K mg) : mg "sums_of" = some (.ref (He.ga K "sums_of")) := T.glo 36 rfl
theorem Top.g_l_draws (T : Top w K mg) : mg "_law_draws" = some (.ref (He.ga K "_law_draws")) := T.glo 37 rfl
theorem Top.g_l_take (T : Top w K mg) : mg "_law_take" = some (.ref (He.ga K "_law_take")) := T.glo 38 rfl
theorem Top.g_l_names (T : Top w K mg) : mg "_law_names" = some (.ref (He.ga K "_law_names")) := T.glo 39 rfl
theorem Top.g_l_rows (T : Top w K mg) : mg "_law_rows" = some (.ref (He.ga K "_law_rows")) := T.glo 40 rfl
theorem Top.g_l_question (T : Top w K mg) : mg "_law_question" = some (.ref (He.ga K "_law_question")) := T.glo 41 rfl
theorem Top.g_l_bank (T : Top w K mg) : mg "_law_bank" = some (.ref (He.ga K "_law_bank")) := T.glo 42 rfl
theorem Top.g_l_paper (T : Top w K mg) : mg "_law_paper" = some (.ref (He.ga K "_law_paper")) := T.glo 43 rfl
theorem Top.g_l_whole_right (T : Top w K mg) : mg "_law_whole_right" = some (.ref (He.ga K "_law_whole_right")) := T.glo 44 rfl
theorem Top.g_l_met_right (T : Top w K mg) : mg "_law_met_right" = some (.ref (He.ga K "_law_met_right")) := T.glo 45 rfl
theorem Top.g_l_days_right (T : Top w K mg) : mg "_law_days_right" = some (.ref (He.ga K "_law_days_right")) := T.glo 46 rfl
theorem Top.g_law (T : Top w K mg) : mg "law" = some (.ref (He.ga K "law")) := T.glo 47 rfl
theorem Top.g_Question (T : Top w K mg) : mg "Question" = some (.ref (He.ga K "Question")) := T.glo 48 rfl
theorem Top.g_Bank (T : Top w K mg) : mg "Bank" = some (.ref (He.ga K "Bank")) := T.glo 49 rfl
theorem Top.g_Wish (T : Top w K mg) : mg "Wish" = some (.ref (He.ga K "Wish")) := T.glo 50 rfl
theorem Top.g_WORDS (T : Top w K mg) : mg "WORDS" = some (.ref (He.ga K "WORDS")) := T.glo 51 rfl
theorem Top.g_BY_WORDS (T : Top w K mg) : mg "BY_WORDS" = some (.ref (He.ga K "BY_WORDS")) := T.glo 52 rfl
theorem Top.f_isinstance (T : Top w K mg) : mg "isinstance" = none := T.free 53 rfl
theorem Top.f_int (T : Top w K mg) : mg "int" = none := T.free 54 rfl
theorem Top.f_bool (T : Top w K mg) : mg "bool" = none := T.free 55 rfl
theorem Top.f_str (T : Top w K mg) : mg "str" = none := T.free 56 rfl
theorem Top.f_len (T : Top w K mg) : mg "len" = none := T.free 57 rfl
theorem Top.f_all (T : Top w K mg) : mg "all" = none := T.free 58 rfl
theorem Top.f_list (T : Top w K mg) : mg "list" = none := T.free 59 rfl
theorem Top.f_tuple (T : Top w K mg) : mg "tuple" = none := T.free 60 rfl
theorem Top.f_enumerate (T : Top w K mg) : mg "enumerate" = none := T.free 61 rfl
theorem Top.f_zip (T : Top w K mg) : mg "zip" = none := T.free 62 rfl
theorem Top.f_sum (T : Top w K mg) : mg "sum" = none := T.free 63 rfl
theorem Top.f_sorted (T : Top w K mg) : mg "sorted" = none := T.free 64 rfl
theorem Top.f_set (T : Top w K mg) : mg "set" = none := T.free 65 rfl
theorem Top.f_max (T : Top w K mg) : mg "max" = none := T.free 66 rfl
theorem Top.f_min (T : Top w K mg) : mg "min" = none := T.free 67 rfl
theorem Top.f_range (T : Top w K mg) : mg "range" = none := T.free 68 rfl
theorem Top.i_LONGEST_NAME (T : Top w K mg) : ∃ u, mg "LONGEST_NAME" = some u ∧ RelV (.int 8) u := T.int 69 rfl
theorem Top.i_LONGEST_TEXT (T : Top w K mg) : ∃ u, mg "LONGEST_TEXT" = some u ∧ RelV (.int 30) u := T.int 70 rfl
theorem Top.i_FEWEST (T : Top w K mg) : ∃ u, mg "FEWEST" = some u ∧ RelV (.int 2) u := T.int 71 rfl
theorem Top.i_MOST (T : Top w K mg) : ∃ u, mg "MOST" = some u ∧ RelV (.int 6) u := T.int 72 rfl
theorem Top.i_TOP (T : Top w K mg) : ∃ u, mg "TOP" = some u ∧ RelV (.int 9) u := T.int 73 rfl
theorem Top.i_MOST_QUESTIONS (T : Top w K mg) : ∃ u, mg "MOST_QUESTIONS" = some u ∧ RelV (.int 60) u := T.int 74 rfl
theorem Top.i_MOST_NAMES (T : Top w K mg) : ∃ u, mg "MOST_NAMES" = some u ∧ RelV (.int 40) u := T.int 75 rfl
theorem Top.i_MOST_SUM (T : Top w K mg) : ∃ u, mg "MOST_SUM" = some u ∧ RelV (.int 999) u := T.int 76 rfl
theorem Top.i_MOST_WISHES (T : Top w K mg) : ∃ u, mg "MOST_WISHES" = some u ∧ RelV (.int 12) u := T.int 77 rfl
theorem Top.s_LETTERS (T : Top w K mg) : ∃ u, mg "LETTERS" = some u ∧ RelV (.str v_LETTERS) u := T.str 78 rfl
theorem Top.s_SIGNS (T : Top w K mg) : ∃ u, mg "SIGNS" = some u ∧ RelV (.str v_SIGNS) u := T.str 79 rfl
theorem Top.s_FIGURES (T : Top w K mg) : ∃ u, mg "FIGURES" = some u ∧ RelV (.str v_FIGURES) u := T.str 80 rfl
theorem Top.c_Question (T : Top w K mg) : Cls K (He.ga K "Question") := He.cls_ok (T.t.d.fact 81 rfl)
theorem Top.k_Question (T : Top w K mg) : Mk K (He.ga K "Question") (He.ma K (He.ga K "Question") "__init__") := He.mkr_ok (T.t.d.fact 82 rfl)
theorem Top.n_Question_name (T : Top w K mg) : NoAttr K (He.ga K "Question") "name" := He.noat_ok (T.t.d.fact 83 rfl)
theorem Top.n_Question_matter (T : Top w K mg) : NoAttr K (He.ga K "Question") "matter" := He.noat_ok (T.t.d.fact 84 rfl)
theorem Top.n_Question_answers (T : Top w K mg) : NoAttr K (He.ga K "Question") "answers" := He.noat_ok (T.t.d.fact 85 rfl)
theorem Top.n_Question_right (T : Top w K mg) : NoAttr K (He.ga K "Question") "right" := He.noat_ok (T.t.d.fact 86 rfl)
theorem Top.n_Question_toil (T : Top w K mg) : NoAttr K (He.ga K "Question") "toil" := He.noat_ok (T.t.d.fact 87 rfl)
theorem Top.n_Question_marks (T : Top w K mg) : NoAttr K (He.ga K "Question") "marks" := He.noat_ok (T.t.d.fact 88 rfl)
theorem Top.n_Question_kin (T : Top w K mg) : NoAttr K (He.ga K "Question") "kin" := He.noat_ok (T.t.d.fact 89 rfl)
theorem Top.m_Q_is_kin (T : Top w K mg) : Meth K (He.ga K "Question") "is_kin" (He.ma K (He.ga K "Question") "is_kin") := He.meth_ok (T.t.d.fact 90 rfl)
theorem Top.c_Bank (T : Top w K mg) : Cls K (He.ga K "Bank") := He.cls_ok (T.t.d.fact 91 rfl)
theorem Top.k_Bank (T : Top w K mg) : Mk K (He.ga K "Bank") (He.ma K (He.ga K "Bank") "__init__") := He.mkr_ok (T.t.d.fact 92 rfl)
theorem Top.n_Bank_kept_here (T : Top w K mg) : NoAttr K (He.ga K "Bank") "kept_here" := He.noat_ok (T.t.d.fact 93 rfl)
theorem Top.n_Bank_out_here (T : Top w K mg) : NoAttr K (He.ga K "Bank") "out_here" := He.noat_ok (T.t.d.fact 94 rfl)
theorem Top.n_Bank_days_here (T : Top w K mg) : NoAttr K (He.ga K "Bank") "days_here" := He.noat_ok (T.t.d.fact 95 rfl)
theorem Top.m_B_need_there (T : Top w K mg) : Meth K (He.ga K "Bank") "need_there" (He.ma K (He.ga K "Bank") "need_there") := He.meth_ok (T.t.d.fact 96 rfl)
theorem Top.m_B_added (T : Top w K mg) : Meth K (He.ga K "Bank") "added" (He.ma K (He.ga K "Bank") "added") := He.meth_ok (T.t.d.fact 97 rfl)
theorem Top.m_B_taken_out (T : Top w K mg) : Meth K (He.ga K "Bank") "taken_out" (He.ma K (He.ga K "Bank") "taken_out") := He.meth_ok (T.t.d.fact 98 rfl)
theorem Top.m_B_used_on (T : Top w K mg) : Meth K (He.ga K "Bank") "used_on" (He.ma K (He.ga K "Bank") "used_on") := He.meth_ok (T.t.d.fact 99 rfl)
theorem Top.m_B_names (T : Top w K mg) : Meth K (He.ga K "Bank") "names" (He.ma K (He.ga K "Bank") "names") := He.meth_ok (T.t.d.fact 100 rfl)
theorem Top.m_B_names_in (T : Top w K mg) : Meth K (He.ga K "Bank") "names_in" (He.ma K (He.ga K "Bank") "names_in") := He.meth_ok (T.t.d.fact 101 rfl)
theorem Top.m_B_question (T : Top w K mg) : Meth K (He.ga K "Bank") "question" (He.ma K (He.ga K "Bank") "question") := He.meth_ok (T.t.d.fact 102 rfl)
theorem Top.m_B_last_day (T : Top w K mg) : Meth K (He.ga K "Bank") "last_day" (He.ma K (He.ga K "Bank") "last_day") := He.meth_ok (T.t.d.fact 103 rfl)
theorem Top.m_B_rests (T : Top w K mg) : Meth K (He.ga K "Bank") "rests" (He.ma K (He.ga K "Bank") "rests") := He.meth_ok (T.t.d.fact 104 rfl)
theorem Top.m_B_found (T : Top w K mg) : Meth K (He.ga K "Bank") "found" (He.ma K (He.ga K "Bank") "found") := He.meth_ok (T.t.d.fact 105 rfl)
theorem Top.c_Wish (T : Top w K mg) : Cls K (He.ga K "Wish") := He.cls_ok (T.t.d.fact 106 rfl)
theorem Top.k_Wish (T : Top w K mg) : Mk K (He.ga K "Wish") (He.ma K (He.ga K "Wish") "__init__") := He.mkr_ok (T.t.d.fact 107 rfl)
theorem Top.n_Wish_word (T : Top w K mg) : NoAttr K (He.ga K "Wish") "word" := He.noat_ok (T.t.d.fact 108 rfl)
theorem Top.n_Wish_what (T : Top w K mg) : NoAttr K (He.ga K "Wish") "what" := He.noat_ok (T.t.d.fact 109 rfl)
theorem Top.n_Wish_least (T : Top w K mg) : NoAttr K (He.ga K "Wish") "least" := He.noat_ok (T.t.d.fact 110 rfl)
theorem Top.n_Wish_most (T : Top w K mg) : NoAttr K (He.ga K "Wish") "most" := He.noat_ok (T.t.d.fact 111 rfl)
theorem Top.m_W_eq (T : Top w K mg) : Meth K (He.ga K "Wish") "__eq__" (He.ma K (He.ga K "Wish") "__eq__") := He.meth_ok (T.t.d.fact 112 rfl)
theorem Top.m_W_str_ (T : Top w K mg) : Meth K (He.ga K "Wish") "__str__" (He.ma K (He.ga K "Wish") "__str__") := He.meth_ok (T.t.d.fact 113 rfl)
theorem Top.m_W_moved (T : Top w K mg) : Meth K (He.ga K "Wish") "moved" (He.ma K (He.ga K "Wish") "moved") := He.meth_ok (T.t.d.fact 114 rfl)
theorem Top.d_is_whole (T : Top w K mg) : ∃ fd, FunD K "is_whole" "is_whole" (defArgs s_is_whole) (defBody s_is_whole) (defScope s_is_whole) [.int 0, .int 9999] [] (He.ga K "is_whole") fd := T.t.d.def_ 0 (d := D_is_whole) rfl
theorem Top.d_is_name (T : Top w K mg) : ∃ fd, FunD K "is_name" "is_name" (defArgs s_is_name) (defBody s_is_name) (defScope s_is_name) [] [] (He.ga K "is_name") fd := T.t.d.def_ 1 (d := D_is_name) rfl
theorem Top.d_is_text (T : Top w K mg) : ∃ fd, FunD K "is_text" "is_text" (defArgs s_is_text) (defBody s_is_text) (defScope s_is_text) [] [] (He.ga K "is_text") fd := T.t.d.def_ 2 (d := D_is_text) rfl
theorem Top.d_need_day (T : Top w K mg) : ∃ fd, FunD K "need_day" "need_day" (defArgs s_need_day) (defBody s_need_day) (defScope s_need_day) [] [] (He.ga K "need_day") fd := T.t.d.def_ 3 (d := D_need_day) rfl
theorem Top.d_are_answers (T : Top w K mg) : ∃ fd, FunD K "are_answers" "are_answers" (defArgs s_are_answers) (defBody s_are_answers) (defScope s_are_answers) [] [] (He.ga K "are_answers") fd := T.t.d.def_ 4 (d := D_are_answers) rfl
theorem Top.d_is_of (T : Top w K mg) : ∃ fd, FunD K "is_of" "is_of" (defArgs s_is_of) (defBody s_is_of) (defScope s_is_of) [] [] (He.ga K "is_of") fd := T.t.d.def_ 5 (d := D_is_of) rfl
theorem Top.d_Q_init (T : Top w K mg) : ∃ fd, FunD K "__init__" "Question.__init__" (defArgs s_Q_init) (defBody s_Q_init) (defScope s_Q_init) [.int 0, .int 5, .int 1, .str ""] [] (He.ma K (He.ga K "Question") "__init__") fd := T.t.d.def_ 6 (d := D_Q_init) rfl
theorem Top.d_Q_is_kin (T : Top w K mg) : ∃ fd, FunD K "is_kin" "Question.is_kin" (defArgs s_Q_is_kin) (defBody s_Q_is_kin) (defScope s_Q_is_kin) [] [] (He.ma K (He.ga K "Question") "is_kin") fd := T.t.d.def_ 7 (d := D_Q_is_kin) rfl
theorem Top.d_need_question (T : Top w K mg) : ∃ fd, FunD K "need_question" "need_question" (defArgs s_need_question) (defBody s_need_question) (defScope s_need_question) [] [] (He.ga K "need_question") fd := T.t.d.def_ 8 (d := D_need_question) rfl
theorem Top.d_need_questions (T : Top w K mg) : ∃ fd, FunD K "need_questions" "need_questions" (defArgs s_need_questions) (defBody s_need_questions) (defScope s_need_questions) [] [] (He.ga K "need_questions") fd := T.t.d.def_ 9 (d := D_need_questions) rfl
theorem Top.d_toil_sum (T : Top w K mg) : ∃ fd, FunD K "toil_sum" "toil_sum" (defArgs s_toil_sum) (defBody s_toil_sum) (defScope s_toil_sum) [.int 0] [] (He.ga K "toil_sum") fd := T.t.d.def_ 10 (d := D_toil_sum) rfl
theorem Top.d_B_init (T : Top w K mg) : ∃ fd, FunD K "__init__" "Bank.__init__" (defArgs s_B_init) (defBody s_B_init) (defScope s_B_init) [.non] [] (He.ma K (He.ga K "Bank") "__init__") fd := T.t.d.def_ 11 (d := D_B_init) rfl
theorem Top.d_B_need_there (T : Top w K mg) : ∃ fd, FunD K "need_there" "Bank.need_there" (defArgs s_B_need_there) (defBody s_B_need_there) (defScope s_B_need_there) [] [] (He.ma K (He.ga K "Bank") "need_there") fd := T.t.d.def_ 12 (d := D_B_need_there) rfl
theorem Top.d_B_added (T : Top w K mg) : ∃ fd, FunD K "added" "Bank.added" (defArgs s_B_added) (defBody s_B_added) (defScope s_B_added) [] [] (He.ma K (He.ga K "Bank") "added") fd := T.t.d.def_ 13 (d := D_B_added) rfl
theorem Top.d_B_taken_out (T : Top w K mg) : ∃ fd, FunD K "taken_out" "Bank.taken_out" (defArgs s_B_taken_out) (defBody s_B_taken_out) (defScope s_B_taken_out) [.str "wrong"] [] (He.ma K (He.ga K "Bank") "taken_out") fd := T.t.d.def_ 14 (d := D_B_taken_out) rfl
theorem Top.d_B_used_on (T : Top w K mg) : ∃ fd, FunD K "used_on" "Bank.used_on" (defArgs s_B_used_on) (defBody s_B_used_on) (defScope s_B_used_on) [] [] (He.ma K (He.ga K "Bank") "used_on") fd := T.t.d.def_ 15 (d := D_B_used_on) rfl
theorem Top.d_B_names (T : Top w K mg) : ∃ fd, FunD K "names" "Bank.names" (defArgs s_B_names) (defBody s_B_names) (defScope s_B_names) [] [] (He.ma K (He.ga K "Bank") "names") fd := T.t.d.def_ 16 (d := D_B_names) rfl
theorem Top.d_B_names_in (T : Top w K mg) : ∃ fd, FunD K "names_in" "Bank.names_in" (defArgs s_B_names_in) (defBody s_B_names_in) (defScope s_B_names_in) [] [] (He.ma K (He.ga K "Bank") "names_in") fd := T.t.d.def_ 17 (d := D_B_names_in) rfl
theorem Top.d_B_question (T : Top w K mg) : ∃ fd, FunD K "question" "Bank.question" (defArgs s_B_question) (defBody s_B_question) (defScope s_B_question) [] [] (He.ma K (He.ga K "Bank") "question") fd := T.t.d.def_ 18 (d := D_B_question) rfl
theorem Top.d_B_last_day (T : Top w K mg) : ∃ fd, FunD K "last_day" "Bank.last_day" (defArgs s_B_last_day) (defBody s_B_last_day) (defScope s_B_last_day) [.int 9999] [] (He.ma K (He.ga K "Bank") "last_day") fd := T.t.d.def_ 19 (d := D_B_last_day) rfl
theorem Top.d_B_rests (T : Top w K mg) : ∃ fd, FunD K "rests" "Bank.rests" (defArgs s_B_rests) (defBody s_B_rests) (defScope s_B_rests) [] [] (He.ma K (He.ga K "Bank") "rests") fd := T.t.d.def_ 20 (d := D_B_rests) rfl
theorem Top.d_B_found (T : Top w K mg) : ∃ fd, FunD K "found" "Bank.found" (defArgs s_B_found) (defBody s_B_found) (defScope s_B_found) [.str "", .int 1, .int 9, .str "", .non, .int 0] [] (He.ma K (He.ga K "Bank") "found") fd := T.t.d.def_ 21 (d := D_B_found) rfl
theorem Top.d_need_bank (T : Top w K mg) : ∃ fd, FunD K "need_bank" "need_bank" (defArgs s_need_bank) (defBody s_need_bank) (defScope s_need_bank) [] [] (He.ga K "need_bank") fd := T.t.d.def_ 22 (d := D_need_bank) rfl
theorem Top.d_resting (T : Top w K mg) : ∃ fd, FunD K "resting" "resting" (defArgs s_resting) (defBody s_resting) (defScope s_resting) [] [] (He.ga K "resting") fd := T.t.d.def_ 23 (d := D_resting) rfl
theorem Top.d_is_paper (T : Top w K mg) : ∃ fd, FunD K "is_paper" "is_paper" (defArgs s_is_paper) (defBody s_is_paper) (defScope s_is_paper) [] [] (He.ga K "is_paper") fd := T.t.d.def_ 24 (d := D_is_paper) rfl
theorem Top.d_need_paper (T : Top w K mg) : ∃ fd, FunD K "need_paper" "need_paper" (defArgs s_need_paper) (defBody s_need_paper) (defScope s_need_paper) [] [] (He.ga K "need_paper") fd := T.t.d.def_ 25 (d := D_need_paper) rfl
theorem Top.d_need_ready (T : Top w K mg) : ∃ fd, FunD K "need_ready" "need_ready" (defArgs s_need_ready) (defBody s_need_ready) (defScope s_need_ready) [] [] (He.ga K "need_ready") fd := T.t.d.def_ 26 (d := D_need_ready) rfl
theorem Top.d_paper_of (T : Top w K mg) : ∃ fd, FunD K "paper_of" "paper_of" (defArgs s_paper_of) (defBody s_paper_of) (defScope s_paper_of) [] [] (He.ga K "paper_of") fd := T.t.d.def_ 27 (d := D_paper_of) rfl
theorem Top.d_questions_of (T : Top w K mg) : ∃ fd, FunD K "questions_of" "questions_of" (defArgs s_questions_of) (defBody s_questions_of) (defScope s_questions_of) [] [] (He.ga K "questions_of") fd := T.t.d.def_ 28 (d := D_questions_of) rfl
theorem Top.d_shared (T : Top w K mg) : ∃ fd, FunD K "shared" "shared" (defArgs s_shared) (defBody s_shared) (defScope s_shared) [] [] (He.ga K "shared") fd := T.t.d.def_ 29 (d := D_shared) rfl
theorem Top.d_is_number (T : Top w K mg) : ∃ fd, FunD K "is_number" "is_number" (defArgs s_is_number) (defBody s_is_number) (defScope s_is_number) [] [] (He.ga K "is_number") fd := T.t.d.def_ 30 (d := D_is_number) rfl
theorem Top.d_may_name (T : Top w K mg) : ∃ fd, FunD K "may_name" "may_name" (defArgs s_may_name) (defBody s_may_name) (defScope s_may_name) [] [] (He.ga K "may_name") fd := T.t.d.def_ 31 (d := D_may_name) rfl
theorem Top.d_W_init (T : Top w K mg) : ∃ fd, FunD K "__init__" "Wish.__init__" (defArgs s_W_init) (defBody s_W_init) (defScope s_W_init) [.str "", .int 0, .int 999] [] (He.ma K (He.ga K "Wish") "__init__") fd := T.t.d.def_ 32 (d := D_W_init) rfl
theorem Top.d_W_eq (T : Top w K mg) : ∃ fd, FunD K "__eq__" "Wish.__eq__" (defArgs s_W_eq) (defBody s_W_eq) (defScope s_W_eq) [] [] (He.ma K (He.ga K "Wish") "__eq__") fd := T.t.d.def_ 33 (d := D_W_eq) rfl
theorem Top.d_W_str_ (T : Top w K mg) : ∃ fd, FunD K "__str__" "Wish.__str__" (defArgs s_W_str_) (defBody s_W_str_) (defScope s_W_str_) [] [] (He.ma K (He.ga K "Wish") "__str__") fd := T.t.d.def_ 34 (d := D_W_str_) rfl
theorem Top.d_W_moved (T : Top w K mg) : ∃ fd, FunD K "moved" "Wish.moved" (defArgs s_W_moved) (defBody s_W_moved) (defScope s_W_moved) [] [] (He.ma K (He.ga K "Wish") "moved") fd := T.t.d.def_ 35 (d := D_W_moved) rfl
theorem Top.d_need_wish (T : Top w K mg) : ∃ fd, FunD K "need_wish" "need_wish" (defArgs s_need_wish) (defBody s_need_wish) (defScope s_need_wish) [] [] (He.ga K "need_wish") fd := T.t.d.def_ 36 (d := D_need_wish) rfl
theorem Top.d_need_wishes (T : Top w K mg) : ∃ fd, FunD K "need_wishes" "need_wishes" (defArgs s_need_wishes) (defBody s_need_wishes) (defScope s_need_wishes) [] [] (He.ga K "need_wishes") fd := T.t.d.def_ 37 (d := D_need_wishes) rfl
theorem Top.d_figures_in (T : Top w K mg) : ∃ fd, FunD K "figures_in" "figures_in" (defArgs s_figures_in) (defBody s_figures_in) (defScope s_figures_in) [] [] (He.ga K "figures_in") fd := T.t.d.def_ 38 (d := D_figures_in) rfl
theorem Top.d_wish_of (T : Top w K mg) : ∃ fd, FunD K "wish_of" "wish_of" (defArgs s_wish_of) (defBody s_wish_of) (defScope s_wish_of) [] [] (He.ga K "wish_of") fd := T.t.d.def_ 39 (d := D_wish_of) rfl
theorem Top.d_of_matter (T : Top w K mg) : ∃ fd, FunD K "of_matter" "of_matter" (defArgs s_of_matter) (defBody s_of_matter) (defScope s_of_matter) [] [] (He.ga K "of_matter") fd := T.t.d.def_ 40 (d := D_of_matter) rfl
theorem Top.d_many_of (T : Top w K mg) : ∃ fd, FunD K "many_of" "many_of" (defArgs s_many_of) (defBody s_many_of) (defScope s_many_of) [] [] (He.ga K "many_of") fd := T.t.d.def_ 41 (d := D_many_of) rfl
theorem Top.d_toil_of (T : Top w K mg) : ∃ fd, FunD K "toil_of" "toil_of" (defArgs s_toil_of) (defBody s_toil_of) (defScope s_toil_of) [] [] (He.ga K "toil_of") fd := T.t.d.def_ 42 (d := D_toil_of) rfl
theorem Top.d_marks_of (T : Top w K mg) : ∃ fd, FunD K "marks_of" "marks_of" (defArgs s_marks_of) (defBody s_marks_of) (defScope s_marks_of) [] [] (He.ga K "marks_of") fd := T.t.d.def_ 43 (d := D_marks_of) rfl
theorem Top.d_kin_pairs (T : Top w K mg) : ∃ fd, FunD K "kin_pairs" "kin_pairs" (defArgs s_kin_pairs) (defBody s_kin_pairs) (defScope s_kin_pairs) [] [] (He.ga K "kin_pairs") fd := T.t.d.def_ 44 (d := D_kin_pairs) rfl
theorem Top.d_is_with (T : Top w K mg) : ∃ fd, FunD K "is_with" "is_with" (defArgs s_is_with) (defBody s_is_with) (defScope s_is_with) [] [] (He.ga K "is_with") fd := T.t.d.def_ 45 (d := D_is_with) rfl
theorem Top.d_does_rest (T : Top w K mg) : ∃ fd, FunD K "does_rest" "does_rest" (defArgs s_does_rest) (defBody s_does_rest) (defScope s_does_rest) [] [] (He.ga K "does_rest") fd := T.t.d.def_ 46 (d := D_does_rest) rfl
theorem Top.d_sum_in (T : Top w K mg) : ∃ fd, FunD K "sum_in" "sum_in" (defArgs s_sum_in) (defBody s_sum_in) (defScope s_sum_in) [] [] (He.ga K "sum_in") fd := T.t.d.def_ 47 (d := D_sum_in) rfl
theorem Top.d_is_met (T : Top w K mg) : ∃ fd, FunD K "is_met" "is_met" (defArgs s_is_met) (defBody s_is_met) (defScope s_is_met) [] [] (He.ga K "is_met") fd := T.t.d.def_ 48 (d := D_is_met) rfl
theorem Top.d_sum_by (T : Top w K mg) : ∃ fd, FunD K "sum_by" "sum_by" (defArgs s_sum_by) (defBody s_sum_by) (defScope s_sum_by) [.int 0] [] (He.ga K "sum_by") fd := T.t.d.def_ 49 (d := D_sum_by) rfl
theorem Top.d_meets (T : Top w K mg) : ∃ fd, FunD K "meets" "meets" (defArgs s_meets) (defBody s_meets) (defScope s_meets) [.int 0] [] (He.ga K "meets") fd := T.t.d.def_ 50 (d := D_meets) rfl
theorem Top.d_sums_told (T : Top w K mg) : ∃ fd, FunD K "sums_told" "sums_told" (defArgs s_sums_told) (defBody s_sums_told) (defScope s_sums_told) [] [] (He.ga K "sums_told") fd := T.t.d.def_ 51 (d := D_sums_told) rfl
theorem Top.d_lacking (T : Top w K mg) : ∃ fd, FunD K "lacking" "lacking" (defArgs s_lacking) (defBody s_lacking) (defScope s_lacking) [.int 0] [] (He.ga K "lacking") fd := T.t.d.def_ 52 (d := D_lacking) rfl
theorem Top.d_sums_of (T : Top w K mg) : ∃ fd, FunD K "sums_of" "sums_of" (defArgs s_sums_of) (defBody s_sums_of) (defScope s_sums_of) [.int 0] [] (He.ga K "sums_of") fd := T.t.d.def_ 53 (d := D_sums_of) rfl
theorem Top.d_l_draws (T : Top w K mg) : ∃ fd, FunD K "_law_draws" "_law_draws" (defArgs s_l_draws) (defBody s_l_draws) (defScope s_l_draws) [] [] (He.ga K "_law_draws") fd := T.t.d.def_ 54 (d := D_l_draws) rfl
theorem Top.d_l_take (T : Top w K mg) : ∃ fd, FunD K "_law_take" "_law_take" (defArgs s_l_take) (defBody s_l_take) (defScope s_l_take) [] [] (He.ga K "_law_take") fd := T.t.d.def_ 55 (d := D_l_take) rfl
theorem Top.d_l_names (T : Top w K mg) : ∃ fd, FunD K "_law_names" "_law_names" (defArgs s_l_names) (defBody s_l_names) (defScope s_l_names) [] [] (He.ga K "_law_names") fd := T.t.d.def_ 56 (d := D_l_names) rfl
theorem Top.d_l_rows (T : Top w K mg) : ∃ fd, FunD K "_law_rows" "_law_rows" (defArgs s_l_rows) (defBody s_l_rows) (defScope s_l_rows) [] [] (He.ga K "_law_rows") fd := T.t.d.def_ 57 (d := D_l_rows) rfl
theorem Top.d_l_question (T : Top w K mg) : ∃ fd, FunD K "_law_question" "_law_question" (defArgs s_l_question) (defBody s_l_question) (defScope s_l_question) [] [] (He.ga K "_law_question") fd := T.t.d.def_ 58 (d := D_l_question) rfl
theorem Top.d_l_bank (T : Top w K mg) : ∃ fd, FunD K "_law_bank" "_law_bank" (defArgs s_l_bank) (defBody s_l_bank) (defScope s_l_bank) [] [] (He.ga K "_law_bank") fd := T.t.d.def_ 59 (d := D_l_bank) rfl
theorem Top.d_l_paper (T : Top w K mg) : ∃ fd, FunD K "_law_paper" "_law_paper" (defArgs s_l_paper) (defBody s_l_paper) (defScope s_l_paper) [] [] (He.ga K "_law_paper") fd := T.t.d.def_ 60 (d := D_l_paper) rfl
theorem Top.d_l_whole_right (T : Top w K mg) : ∃ fd, FunD K "_law_whole_right" "_law_whole_right" (defArgs s_l_whole_right) (defBody s_l_whole_right) (defScope s_l_whole_right) [] [] (He.ga K "_law_whole_right") fd := T.t.d.def_ 61 (d := D_l_whole_right) rfl
theorem Top.d_l_met_right (T : Top w K mg) : ∃ fd, FunD K "_law_met_right" "_law_met_right" (defArgs s_l_met_right) (defBody s_l_met_right) (defScope s_l_met_right) [] [] (He.ga K "_law_met_right") fd := T.t.d.def_ 62 (d := D_l_met_right) rfl
theorem Top.d_l_days_right (T : Top w K mg) : ∃ fd, FunD K "_law_days_right" "_law_days_right" (defArgs s_l_days_right) (defBody s_l_days_right) (defScope s_l_days_right) [] [] (He.ga K "_law_days_right") fd := T.t.d.def_ 63 (d := D_l_days_right) rfl
theorem Top.d_law (T : Top w K mg) : ∃ fd, FunD K "law" "law" (defArgs s_law) (defBody s_law) (defScope s_law) [] [] (He.ga K "law") fd := T.t.d.def_ 64 (d := D_law) rfl
theorem Top.ins_aux (T : Top w K mg) : (PySem.W.specialIn K (.builtin "object.__class__") "__get__" = some (some (.builtin "getset_descriptor.__get__")) ∧ PySem.W.takesIn K (.builtin "object.__class__") = some true) ∧ (insB K "Question" = true ∧ insB K "Bank" = true ∧ insB K "Wish" = true) ∧ He.tupB K "WORDS" wordsD = true ∧ He.valsB K (He.ga K "BY_WORDS") byW = true ∧ PySem.W.findIn K (.ref (He.ga K "Wish")) "__ne__" = some (some (.builtin "object.__ne__")) := by
  obtain ⟨h1, h2⟩ := He.ba T.more
  obtain ⟨a, b⟩ := He.ba h1
  obtain ⟨h3, h4⟩ := He.ba h2
  obtain ⟨c, h5⟩ := He.ba h3
  obtain ⟨d, e⟩ := He.ba h5
  obtain ⟨f, h6⟩ := He.ba h4
  obtain ⟨g, i⟩ := He.ba h6
  exact ⟨⟨He.eqO_ok a, of_decide_eq_true b⟩, ⟨c, d, e⟩, f, g, He.eqO_ok i⟩
theorem Top.insOf (T : Top w K mg) {x : Str} (c : Cls K (He.ga K x)) (h : insB K x = true) : C8.InsC K (He.ga K x) := by
  obtain ⟨⟨a, b⟩, _⟩ := T.ins_aux
  obtain ⟨h1, h2⟩ := He.ba h
  obtain ⟨h3, h4⟩ := He.ba h2
  exact ⟨c, He.eqO_ok h1, a, b, of_decide_eq_true h3, of_decide_eq_true h4⟩
theorem Top.is_Question (T : Top w K mg) : C8.InsC K (He.ga K "Question") := T.insOf T.c_Question T.ins_aux.2.1.1
theorem Top.is_Bank (T : Top w K mg) : C8.InsC K (He.ga K "Bank") := T.insOf T.c_Bank T.ins_aux.2.1.2.1
theorem Top.is_Wish (T : Top w K mg) : C8.InsC K (He.ga K "Wish") := T.insOf T.c_Wish T.ins_aux.2.1.2.2
theorem Top.words (T : Top w K mg) (H : Hp) : SqT K H (He.ga K "WORDS") [.str "many", .str "toil", .str "marks", .str "rest", .str "kin", .str "with"] := He.tupB_ok T.ins_aux.2.2.1 H
theorem Top.ne_Wish (T : Top w K mg) : PySem.W.findIn K (.ref (He.ga K "Wish")) "__ne__" = some (some (.builtin "object.__ne__")) := T.ins_aux.2.2.2.2
theorem Top.byWords (T : Top w K mg) : (∃ es n, KDict K w (He.ga K "BY_WORDS") es n) ∧ ∀ q ∈ byW, ∃ u, PySem.W.nsIn K (He.ga K "BY_WORDS") q.1 = some (some u) ∧ RelV (q.2.v K) u :=
  ⟨T.t.tab 0 (t := ((fun K => He.ga K "BY_WORDS"), ["many", "toil", "marks", "kin", "with"])) rfl, fun _ hq => He.valsB_ok T.ins_aux.2.2.2.1 hq⟩
end
end K73

set_option Elab.async false
set_option linter.all false
set_option maxRecDepth 100000
set_option maxHeartbeats 0
namespace K73
open PySem PySem.Spec PyProof.Rows L2
def loose1 : List Str := ["__name__", "_wall", "BankError", "BadWish", "BadPaper", "BadQuestion", "BadText", "NoSuch", "NoPlace", "TooMany", "BadKind", "Twice", "LETTERS", "SIGNS", "LONGEST_NAME", "LONGEST_TEXT", "is_whole", "is_name", "is_text", "need_day", "FEWEST", "MOST", "TOP", "are_answers", "is_of", "Question", "need_question", "need_questions", "toil_sum"]
def loose2 : List Str := ["MOST_QUESTIONS", "Bank", "need_bank", "resting", "MOST_NAMES", "is_paper", "need_paper", "need_ready", "paper_of", "questions_of", "shared", "WORDS", "OF_THE_WHOLE", "MOST_SUM", "MOST_WISHES", "FIGURES", "is_number", "may_name", "Wish", "need_wish", "need_wishes", "figures_in", "wish_of"]
def loose3 : List Str := ["of_matter", "many_of", "toil_of", "marks_of", "kin_pairs", "is_with", "BY_WORDS", "does_rest", "sum_in", "is_met", "sum_by", "meets", "sums_told", "lacking", "sums_of", "_law_draws", "_law_take", "_law_names", "_law_rows", "_law_question", "_law_bank", "_law_paper", "_law_whole_right", "_law_met_right", "_law_days_right"]
def loose : List Str := loose1 ++ (loose2 ++ loose3)
abbrev R : PySem.W.OpenRow := PySem.W.OpenLaw.row PySem.Challenge.rw_paperkin_k73_whole_sums_hang_together
/-! what the names reach in four steps, each address once: those seen are the bits of a number -/
def addL {α : Type} : List Addr → List Addr → Nat → (List Addr → Nat → α) → α
  | [], l, m, k => k l m
  | a :: r, l, m, k => match Nat.beq (Nat.land (Nat.shiftRight m a) 1) 1 with
    | true => addL r l m k
    | false => addL r (a :: l) (Nat.lor m (Nat.shiftLeft 1 a)) k
def stepL {α : Type} (g : Addr → Option Obj) : List Addr → List Addr → Nat → (List Addr → Nat → α) → α
  | [], l, m, k => k l m
  | a :: r, l, m, k => addL (match g a with
    | some o => He.refsD o
    | none => []) l m fun l m => stepL g r l m k
def reachL (g : Addr → Option Obj) : Nat → List Addr → List Addr → Nat → List Addr
  | 0, f, all, _ => f ++ all
  | n + 1, f, all, m => stepL g f [] m fun l m => reachL g n l (f ++ all) m
def KK (g : Addr → Option Obj) : PySem.W.Frag := He.frT g (reachL g 4 [mainGlobals] [] (Nat.shiftLeft 1 mainGlobals))
def obG (g : Addr → Option Obj) : He.AlX := (He.obsT fa fn ts (KK g), ex (KK g))
theorem says_of {w : World} {h : Heap} (e : obG h.get? = He.valX fn ts w) : He.SaysX fa fn ts [] ex w h (KK h.get?) :=
  ⟨congrArg (fun z : He.AlX => z.1) e, congrArg (fun z : He.AlX => z.2) e, fun _ hp => (nomatch hp), fun _ hp => (nomatch hp), fun _ hp => (nomatch hp)⟩
/-- the kit's hook, looking at those addresses in place of its own -/
def hk : PySem.W.Hook := { He.hookX 4 fa fn ts [] ex with
  obs := fun s => obG s.heap.get?
  of := fun _ _ e => ⟨_, He.frT_in, says_of e⟩ }
def ob (s : PySem.W.SharedT) : hk.α := obG (HandSHeadRun.getT s)
theorem ob_eq (s : PySem.W.SharedT) : ob s = hk.obs s.abs := by
  have e : HandSHeadRun.getT s = s.abs.heap.get? := funext (HandSHeadRun.getT_eq s)
  show obG (HandSHeadRun.getT s) = obG s.abs.heap.get?
  rw [e]
/-! the head's run, in two parts -/
end K73
namespace K73
open PySem PySem.W PySem.Calls PyProof.Rows HandSHeadRun
noncomputable abbrev EE (w : World) (os : OsState) : Option SharedT := endF (stepQ (denQ tabQ) R.prog w) 8000 R.prog w os
abbrev QQ : Program := view R.prog [84]
theorem join2 {s b c d : Type} {x : Option s} {f : s → b} {g : s → c} {h : s → d} {vb : b} {vc : c} {vd : d} (p : x.map (fun s => (f s, g s)) = some (vb, vc)) (q : x.map h = some vd) : x.map (fun s => (f s, g s, h s)) = some (vb, vc, vd) := by
  cases x with
  | none => cases p
  | some z =>
    have p2 : (f z, g z) = (vb, vc) := Option.some.inj p
    have q2 : h z = vd := Option.some.inj q
    obtain ⟨p3, p4⟩ := Prod.mk.inj p2
    show some (f z, g z, h z) = _
    rw [p3, p4, q2]
theorem runA0 (w : World) (os : OsState) : (EE (w.withFollow "special-get-raises" false) os).map (fun s => (looksF R.prog (boot_heap (w.withFollow "special-get-raises" false).params) s.abs, seenQ QQ loose (importedModules R.prog.main.body) (fun s => xlAt QQ [] s && recOk R.toRowW.records s) s.abs)) = some (true, openGood QQ loose) := by
  kernel_rfl
theorem runB0 (w : World) (os : OsState) : (EE (w.withFollow "special-get-raises" false) os).map ob = some (hk.val (w.withFollow "special-get-raises" false)) := by
  kernel_rfl
theorem run0 (w : World) : RunEq R QQ hk ob 8000 loose (w.withFollow "special-get-raises" false) := fun os => join2 (runA0 w os) (runB0 w os)
theorem runA1 (w : World) (os : OsState) : (EE (w.withFollow "special-get-raises" true) os).map (fun s => (looksF R.prog (boot_heap (w.withFollow "special-get-raises" true).params) s.abs, seenQ QQ loose (importedModules R.prog.main.body) (fun s => xlAt QQ [] s && recOk R.toRowW.records s) s.abs)) = some (true, openGood QQ loose) := by
  kernel_rfl
theorem runB1 (w : World) (os : OsState) : (EE (w.withFollow "special-get-raises" true) os).map ob = some (hk.val (w.withFollow "special-get-raises" true)) := by
  kernel_rfl
theorem run1 (w : World) : RunEq R QQ hk ob 8000 loose (w.withFollow "special-get-raises" true) := fun os => join2 (runA1 w os) (runB1 w os)
theorem run (w : World) : RunEq R QQ hk ob 8000 loose w :=
  byRow2 "special-get-raises" (P := fun w => RunEq R QQ hk ob 8000 loose w) run0 run1 w
end K73

set_option Elab.async false
set_option linter.all false
set_option maxRecDepth 100000
set_option maxHeartbeats 4000000
/-! ## calls: own defs, methods, classes, by place and by keywords -/
namespace K73
open PySem PySem.Spec PyProof.Rows L2
section
variable (P : Program) (w : World) (K : PySem.W.Frag) (mg : Str → Option Value) (base : Heap)
/-- a def that may be called with n values by place and keywords ks; gV: all values in the parameters' order -/
structure CalN (k : Nat) (x : Str) (n : Nat) (ks : List Str) (sp : Sp) (gV : List V → List V → List V) : Prop where
  ex : ∃ (f : Addr) (fd : FuncData) (ps : List Str) (g : List Value → List Value → List Value), FnOk P w K mg base C8.CX0 k f fd ps sp ∧ mg x = some (.ref f) ∧ PySem.W.keepIn K (.ref f) = true ∧ KBn K fd ps n ks g gV
structure MetN (k : Nat) (C : Addr) (m : Str) (n : Nat) (ks : List Str) (sp : Sp) (gV : List V → List V → List V) : Prop where
  ex : ∃ (f : Addr) (fd : FuncData) (ps : List Str) (g : List Value → List Value → List Value), Cls K C ∧ Meth K C m f ∧ FnOk P w K mg base C8.CX0 k f fd ps sp ∧ KBn K fd ps (n + 1) ks g gV
structure MakN (k : Nat) (x : Str) (C : Addr) (n : Nat) (ks : List Str) (sp : Sp) (gV : List V → List V → List V) : Prop where
  ex : ∃ (f : Addr) (fd : FuncData) (ps : List Str) (g : List Value → List Value → List Value), Mk K C f ∧ FnOk P w K mg base C8.CX0 k f fd ps sp ∧ mg x = some (.ref C) ∧ KBn K fd ps (n + 1) ks g gV
end
/-- o.m(e, .., k = v, ..) -/
def tMethN (C : Addr) (m : Str) (n j : Nat) (sp : Sp) (gV : List V → List V → List V) (ta : TE) (t tk : TA) : TE := fun σ H Q => ta σ H fun x H1 => ∃ a dx fs, x = .ref a ∧ H1 a = some (.ins C dx fs) ∧ fs.lookup m = none ∧
  t σ H1 fun vs H2 => tk σ H2 fun zs H3 => vs.length = n ∧ zs.length = j ∧ sp (gV (.ref a :: vs) zs) H3 Q C8.E0
section
variable {X : Cx} {k j n : Nat} {C : Addr} {x m : Str} {ks : List Str} {sp : Sp} {gV : List V → List V → List V} {p pos apos : Pos} {e o : Expr} {es : List Expr} {kws : List Keyword} {ta : TE} {t tk : TA}
theorem pe_cN (c : CalN X.prog X.w X.K X.mg X.base k x n ks sp gV) (hr : Room j X.A) (hk : k ≤ j) (hg : Gl X x) (ha : PA X (e :: es) t) (hkw : PK X kws tk)
    (hall : (backToKw pos (keywordEach kws X.env)).all (·.1.isSome) = true := by rfl) (hks : (backToKw pos (keywordEach kws X.env)).filterMap (·.1) = ks := by rfl)
    (hdb : (x == ("__debug__" : Str)) = false := by decide) (he : starEach (e :: es) X.env = (false, eval e X.env) :: starEach es X.env := by rfl)
    (hpl : ((backTo pos (starEach (e :: es) X.env)).any (·.1) || (backToKw pos (keywordEach kws X.env)).any (·.1.isNone)) = false := by rfl) :
    PE X (.Call (.Name x p) (e :: es) kws pos) (tCallN n ks.length sp gV C8.E0 t tk) := by
  obtain ⟨f, fd, ps, g, F, hm, kp, hb⟩ := c.ex
  exact pe_callN F (hr.mono hk) hg hm kp hb C8.pass0 ha hkw hall hks hdb he hpl
theorem pe_mkN (c : MakN X.prog X.w X.K X.mg X.base k x C n ks sp gV) (hr : Room j X.A) (hk : k + 1 ≤ j) (hg : Gl X x) (ha : PA X (e :: es) t) (hkw : PK X kws tk)
    (hall : (backToKw pos (keywordEach kws X.env)).all (·.1.isSome) = true := by rfl) (hks : (backToKw pos (keywordEach kws X.env)).filterMap (·.1) = ks := by rfl)
    (hdb : (x == ("__debug__" : Str)) = false := by decide) (he : starEach (e :: es) X.env = (false, eval e X.env) :: starEach es X.env := by rfl)
    (hpl : ((backTo pos (starEach (e :: es) X.env)).any (·.1) || (backToKw pos (keywordEach kws X.env)).any (·.1.isNone)) = false := by rfl) :
    PE X (.Call (.Name x p) (e :: es) kws pos) (tMakeN C n ks.length sp gV C8.E0 t tk) := by
  obtain ⟨f, fd, ps, g, M, F, hm, hb⟩ := c.ex
  exact pe_makeN M F (hr.mono hk) hg hm hb C8.pass0 ha hkw hall hks hdb he hpl
theorem pe_mtN {pl : Sem Bool} (c : MetN X.prog X.w X.K X.mg X.base k C m n ks sp gV) (hr : Room j X.A) (hk : k ≤ j) (ho : PE X o ta) (ha : PA X (e :: es) t) (hkw : PK X kws tk)
    (hall : (backToKw pos (keywordEach kws X.env)).all (·.1.isSome) = true := by rfl) (hks : (backToKw pos (keywordEach kws X.env)).filterMap (·.1) = ks := by rfl)
    (he : starEach (e :: es) X.env = (false, eval e X.env) :: starEach es X.env := by rfl)
    (hpl : ((backTo pos (starEach (e :: es) X.env)).any (·.1) || (backToKw pos (keywordEach kws X.env)).any (·.1.isNone)) = false := by rfl)
    (ht : eval (.Call (.Attribute o m apos) (e :: es) kws pos) X.env = (do
      let ov ← eval o X.env
      standAt apos.atName
      let (f, first) ← holding [ov] (getMethod ov m pl)
      callWith pos f first (backTo pos (starEach (e :: es) X.env)) (backToKw pos (keywordEach kws X.env))) := by rfl) :
    PE X (.Call (.Attribute o m apos) (e :: es) kws pos) (tMethN C m n ks.length sp gV ta t tk) := by
  obtain ⟨f, fd, ps, g, hc, hm, F, hb⟩ := c.ex
  refine ⟨fun pins s σ H Q I h => ?_⟩
  refine PySem.W.methodCall_KW (pl := pl) (thn (ho.run pins s σ H _ I h) fun u s1 ⟨x, H1, I1, rx, a, dx, fs, ex, ea, l, q⟩ => ?_) ht
  subst ex
  obtain rfl : u = Value.ref a := rx
  refine getmeth_ok I1 ea hc hm l ?_
  refine PySem.W.callWith_KW (first := [.ref a]) (h₀ := X.base) I.ok.mod.kin hm.kp hall (thn (ha.run pos pins s1 σ H1 _ I1 q) fun us s2 ⟨vs, H2, I2, r, q2⟩ => ?_) hpl he
  refine thn (hkw.run pos pins s2 σ H2 _ I2 q2) fun ws s3 ⟨zs, H3, I3, rz, l1, l2, q3⟩ => ⟨I3.kIn, ?_⟩
  rw [hks]
  exact run_fnN (us := .ref a :: us) (vs := .ref a :: vs) F (hr.mono hk) hb C8.pass0 I3 (.cons rfl r) rz (congrArg Nat.succ l1) l2 q3
theorem pe_mtN0 {pl : Sem Bool} (c : MetN X.prog X.w X.K X.mg X.base k C m 0 ks sp gV) (hr : Room j X.A) (hk : k ≤ j) (ho : PE X o ta) (hkw : PK X kws tk)
    (hall : (backToKw pos (keywordEach kws X.env)).all (·.1.isSome) = true := by rfl) (hks : (backToKw pos (keywordEach kws X.env)).filterMap (·.1) = ks := by rfl)
    (hpl : ((backTo pos (starEach [] X.env)).any (·.1) || (backToKw pos (keywordEach kws X.env)).any (·.1.isNone)) = false := by rfl)
    (ht : eval (.Call (.Attribute o m apos) [] kws pos) X.env = (do
      let ov ← eval o X.env
      standAt apos.atName
      let (f, first) ← holding [ov] (getMethod ov m pl)
      callWith pos f first (backTo pos (starEach [] X.env)) (backToKw pos (keywordEach kws X.env))) := by rfl) :
    PE X (.Call (.Attribute o m apos) [] kws pos) (tMethN C m 0 ks.length sp gV ta tNil tk) := by
  obtain ⟨f, fd, ps, g, hc, hm, F, hb⟩ := c.ex
  refine ⟨fun pins s σ H Q I h => ?_⟩
  refine PySem.W.methodCall_KW (pl := pl) (thn (ho.run pins s σ H _ I h) fun u s1 ⟨x, H1, I1, rx, a, dx, fs, ex, ea, l, q⟩ => ?_) ht
  subst ex
  obtain rfl : u = Value.ref a := rx
  refine getmeth_ok I1 ea hc hm l ?_
  refine PySem.W.callWith_KW0 (first := [.ref a]) (h₀ := X.base) I.ok.mod.kin hm.kp hall (thn (hkw.run pos pins s1 σ H1 _ I1 q) fun ws s3 ⟨zs, H3, I3, rz, l1, l2, q3⟩ => ⟨I3.kIn, ?_⟩) hpl
  rw [hks]
  exact run_fnN (us := [.ref a]) (vs := [.ref a]) F (hr.mono hk) hb C8.pass0 I3 (.cons rfl .nil) rz rfl l2 q3
end
section
variable {P : Program} {w : World} {K : PySem.W.Frag} {mg : Str → Option Value} {base : Heap} {x qual : Str} {params : Arguments} {body : List Stmt} {scope : Scope} {dvs : List V} {fd : FuncData} {ps : List Str} {k n : Nat} {sp : Sp} {C : Addr}
/-- the promise of a def by its body -/
theorem ok_of {f : Addr} {N : List Str} (F : FunD K x qual params body scope dvs [] f fd) (S : FnScope N ps scope) (len : ∀ vs H Q E, sp vs H Q E → vs.length = ps.length)
    (hbody : ∀ (cdv : Value) (A : Around) (outer : List Env) (s : Shared) (H : Hp) (vs : List V) (Q : VK) (E : XK), Room k (A.deeper (envOfC qual scope s.heap.objs.size f cdv)) → sp vs H Q E →
      ∃ t, PSs (cxOf C8.CX0 P w K mg base N qual scope f cdv A outer s H E).nox body t ∧ t { nx := fun _ H' => Q .non H', rt := Q } (start N vs) H) : FnOk P w K mg base C8.CX0 (k + 1) f fd ps sp :=
  F.ok S len fun cdv A outer s H vs Q E hr h => by
    obtain ⟨t, h1, h2⟩ := hbody cdv A outer s H vs Q E hr h
    exact ⟨t, h1.nox, h2⟩
theorem cal_of (F : FunD K x qual params body scope dvs [] (He.ga K x) fd) (hm : mg x = some (.ref (He.ga K x))) (G : FnOk P w K mg base C8.CX0 k (He.ga K x) fd ps sp) (b : ∃ ds, Vals dvs ds ∧ Binds K fd ps ds) : C8.Cal P w K mg base k x sp dvs := by
  obtain ⟨ds, v, b⟩ := b
  exact ⟨_, fd, ps, ds, G, hm, F.kp, b, v⟩
/-- no defaults -/
theorem cal0_of (F : FunD K x qual params body scope [] [] (He.ga K x) fd) (hm : mg x = some (.ref (He.ga K x))) (G : FnOk P w K mg base C8.CX0 k (He.ga K x) fd ps sp)
    (h : ∀ (kV doc pm : Value) (an : Option Addr) (cdv ct : Value) (us : List Value), us.length = ps.length → bindArgs (PySem.W.fnOf x qual params body scope .none kV doc pm an cdv ct) ⟨us, []⟩ = pure (ps.zip us)) : C8.Cal P w K mg base k x sp [] :=
  ⟨_, fd, ps, [], G, hm, F.kp, F.bindsN h, .nil⟩
/-- with the defaults behind the first j -/
theorem calD_of (j : Nat) (F : FunD K x qual params body scope dvs [] (He.ga K x) fd) (hm : mg x = some (.ref (He.ga K x))) (G : FnOk P w K mg base C8.CX0 k (He.ga K x) fd ps sp) (hd : dvs ≠ []) (hn : n + (dvs.length - j) = ps.length)
    (h : ∀ (T : Addr) (kV doc pm : Value) (an : Option Addr) (cdv ct : Value) (us its : List Value), us.length = n → its.length = dvs.length →
      ∃ k, bindArgs (PySem.W.fnOf x qual params body scope (.ref T) kV doc pm an cdv ct) ⟨us, []⟩ = seqItems? (.ref T) >>= k ∧ k (some its.toArray) = pure (ps.zip (us ++ its.drop j))) : C8.Cal P w K mg base k x sp (dvs.drop j) := by
  obtain ⟨ds, v, b⟩ := F.binds1 n j hd hn h
  exact ⟨_, fd, ps, ds, G, hm, F.kp, b, v⟩
theorem calN_of (n : Nat) (ks : List Str) (g : {α : Type} → List α → List α → List α → List α) (F : FunD K x qual params body scope dvs [] (He.ga K x) fd) (hm : mg x = some (.ref (He.ga K x))) (G : FnOk P w K mg base C8.CX0 k (He.ga K x) fd ps sp) (hd : dvs ≠ [])
    (hrel : ∀ {vs ds zs : List V} {us its ws : List Value}, Vals vs us → Vals ds its → Vals zs ws → Vals (g vs ds zs) (g us its ws))
    (h : ∀ (T : Addr) (kV doc pm : Value) (an : Option Addr) (cdv ct : Value) (us its ws : List Value), us.length = n → its.length = dvs.length → ws.length = ks.length →
      ∃ k, bindArgs (PySem.W.fnOf x qual params body scope (.ref T) kV doc pm an cdv ct) ⟨us, ks.zip ws⟩ = seqItems? (.ref T) >>= k ∧ k (some its.toArray) = pure (ps.zip (g us its ws))) : CalN P w K mg base k x n ks sp (fun vs zs => g vs dvs zs) := by
  obtain ⟨its, b⟩ := F.kbindsD n ks g hd hrel h
  exact ⟨_, fd, ps, _, G, hm, F.kp, b⟩
theorem met0_of {f : Addr} (c : Cls K C) (hm : Meth K C x f) (F : FunD K x qual params body scope [] [] f fd) (G : FnOk P w K mg base C8.CX0 k f fd ps sp)
    (h : ∀ (kV doc pm : Value) (an : Option Addr) (cdv ct : Value) (us : List Value), us.length = ps.length → bindArgs (PySem.W.fnOf x qual params body scope .none kV doc pm an cdv ct) ⟨us, []⟩ = pure (ps.zip us)) : C8.Met P w K mg base k C x sp [] :=
  ⟨_, fd, ps, [], c, hm, G, F.bindsN h, .nil⟩
theorem metD_of {f : Addr} (j : Nat) (c : Cls K C) (hm : Meth K C x f) (F : FunD K x qual params body scope dvs [] f fd) (G : FnOk P w K mg base C8.CX0 k f fd ps sp) (hd : dvs ≠ []) (hn : n + (dvs.length - j) = ps.length)
    (h : ∀ (T : Addr) (kV doc pm : Value) (an : Option Addr) (cdv ct : Value) (us its : List Value), us.length = n → its.length = dvs.length →
      ∃ k, bindArgs (PySem.W.fnOf x qual params body scope (.ref T) kV doc pm an cdv ct) ⟨us, []⟩ = seqItems? (.ref T) >>= k ∧ k (some its.toArray) = pure (ps.zip (us ++ its.drop j))) : C8.Met P w K mg base k C x sp (dvs.drop j) := by
  obtain ⟨ds, v, b⟩ := F.binds1 n j hd hn h
  exact ⟨_, fd, ps, ds, c, hm, G, b, v⟩
theorem metN_of {f : Addr} (n : Nat) (ks : List Str) (g : {α : Type} → List α → List α → List α → List α) (c : Cls K C) (hm : Meth K C x f) (F : FunD K x qual params body scope dvs [] f fd) (G : FnOk P w K mg base C8.CX0 k f fd ps sp) (hd : dvs ≠ [])
    (hrel : ∀ {vs ds zs : List V} {us its ws : List Value}, Vals vs us → Vals ds its → Vals zs ws → Vals (g vs ds zs) (g us its ws))
    (h : ∀ (T : Addr) (kV doc pm : Value) (an : Option Addr) (cdv ct : Value) (us its ws : List Value), us.length = n + 1 → its.length = dvs.length → ws.length = ks.length →
      ∃ k, bindArgs (PySem.W.fnOf x qual params body scope (.ref T) kV doc pm an cdv ct) ⟨us, ks.zip ws⟩ = seqItems? (.ref T) >>= k ∧ k (some its.toArray) = pure (ps.zip (g us its ws))) : MetN P w K mg base k C x n ks sp (fun vs zs => g vs dvs zs) := by
  obtain ⟨its, b⟩ := F.kbindsD (n + 1) ks g hd hrel h
  exact ⟨_, fd, ps, _, c, hm, G, b⟩
theorem makD_of {f : Addr} (y : Str) (j : Nat) (M : Mk K C f) (hm : mg y = some (.ref C)) (F : FunD K x qual params body scope dvs [] f fd) (G : FnOk P w K mg base C8.CX0 k f fd ps sp) (hd : dvs ≠ []) (hn : n + (dvs.length - j) = ps.length)
    (h : ∀ (T : Addr) (kV doc pm : Value) (an : Option Addr) (cdv ct : Value) (us its : List Value), us.length = n → its.length = dvs.length →
      ∃ k, bindArgs (PySem.W.fnOf x qual params body scope (.ref T) kV doc pm an cdv ct) ⟨us, []⟩ = seqItems? (.ref T) >>= k ∧ k (some its.toArray) = pure (ps.zip (us ++ its.drop j))) : C8.Mak P w K mg base k y C sp (dvs.drop j) := by
  obtain ⟨ds, v, b⟩ := F.binds1 n j hd hn h
  exact ⟨_, fd, ps, ds, M, G, hm, b, v⟩
theorem makN_of {f : Addr} (y : Str) (n : Nat) (ks : List Str) (g : {α : Type} → List α → List α → List α → List α) (M : Mk K C f) (hm : mg y = some (.ref C)) (F : FunD K x qual params body scope dvs [] f fd) (G : FnOk P w K mg base C8.CX0 k f fd ps sp) (hd : dvs ≠ [])
    (hrel : ∀ {vs ds zs : List V} {us its ws : List Value}, Vals vs us → Vals ds its → Vals zs ws → Vals (g vs ds zs) (g us its ws))
    (h : ∀ (T : Addr) (kV doc pm : Value) (an : Option Addr) (cdv ct : Value) (us its ws : List Value), us.length = n + 1 → its.length = dvs.length → ws.length = ks.length →
      ∃ k, bindArgs (PySem.W.fnOf x qual params body scope (.ref T) kV doc pm an cdv ct) ⟨us, ks.zip ws⟩ = seqItems? (.ref T) >>= k ∧ k (some its.toArray) = pure (ps.zip (g us its ws))) : MakN P w K mg base k y C n ks sp (fun vs zs => g vs dvs zs) := by
  obtain ⟨its, b⟩ := F.kbindsD (n + 1) ks g hd hrel h
  exact ⟨_, fd, ps, _, M, G, hm, b⟩
end
end K73

set_option Elab.async false
set_option linter.all false
set_option maxRecDepth 100000
set_option maxHeartbeats 4000000
/-! ## small facts; comprehensions and loops that only lay new objects -/
namespace K73
open PySem PySem.Spec PyProof.Rows L2
theorem b_isinstance : bootBuiltins "isinstance" = some (.builtin "isinstance") := by decide +kernel
theorem b_len : bootBuiltins "len" = some (.builtin "len") := by decide +kernel
theorem b_all : bootBuiltins "all" = some (.builtin "all") := by decide +kernel
theorem b_sum : bootBuiltins "sum" = some (.builtin "sum") := by decide +kernel
theorem b_sorted : bootBuiltins "sorted" = some (.builtin "sorted") := by decide +kernel
theorem b_max : bootBuiltins "max" = some (.builtin "max") := by decide +kernel
theorem b_min : bootBuiltins "min" = some (.builtin "min") := by decide +kernel
theorem b_int : bootBuiltins "int" = some (.type "int") := by decide +kernel
theorem b_bool : bootBuiltins "bool" = some (.type "bool") := by decide +kernel
theorem b_str : bootBuiltins "str" = some (.type "str") := by decide +kernel
theorem b_list : bootBuiltins "list" = some (.type "list") := by decide +kernel
theorem b_tuple : bootBuiltins "tuple" = some (.type "tuple") := by decide +kernel
theorem b_set : bootBuiltins "set" = some (.type "set") := by decide +kernel
section
variable {K : PySem.W.Frag}
theorem ki_int_int : PySem.W.kitOne K (.type "int") (.type "int") = some true := kit_ty (by decide +kernel)
theorem ki_int_bool : PySem.W.kitOne K (.type "int") (.type "bool") = some false := kit_ty (by decide +kernel)
theorem ki_str_str : PySem.W.kitOne K (.type "str") (.type "str") = some true := kit_ty (by decide +kernel)
theorem ki_tup_tup : PySem.W.kitOne K (.type "tuple") (.type "tuple") = some true := kit_ty (by decide +kernel)
theorem ki_list_list : PySem.W.kitOne K (.type "list") (.type "list") = some true := kit_ty (by decide +kernel)
theorem ki_tup_list : PySem.W.kitOne K (.type "tuple") (.type "list") = some false := kit_ty (by decide +kernel)
theorem ka_list : PySem.W.kitAny K (.type "list") [.type "list", .type "tuple"] = some true := kitAny_cons ki_list_list (fun z => nomatch z) fun _ => rfl
theorem ka_tup : PySem.W.kitAny K (.type "tuple") [.type "list", .type "tuple"] = some true := kitAny_cons ki_tup_list (fun _ => kitAny_cons ki_tup_tup (fun z => nomatch z) fun _ => rfl) fun z => nomatch z
theorem cls2 : Paired ClsV [.ty "list", .ty "tuple"] [.type "list", .type "tuple"] := .cons (.ty _) (.cons (.ty _) .nil)
theorem tyx_ins {H : Hp} {a C dx : Addr} {fs : List (Str × V)} (e : H a = some (.ins C dx fs)) (c : C8.InsC K C) : TyX K H (.ref a) (.ref C) := .base (.ins e c.cl c.ha c.hn c.htk c.hm)
theorem same_new {H : Hp} {p : Addr} {o : HO} (h : H p = none) : Same H (upd H p o) := fun b u e => by
  rw [upd_ne (ne_of_none e h)]
  exact e
theorem Same.tseq {H H' : Hp} {a : Addr} {xs : List V} (e : Same H H') (h : SqT K H a xs) : SqT K H' a xs := by
  rcases h with (h | ⟨o, h⟩) | h
  · exact .inl (.inl (e _ _ h))
  · exact .inl (.inr ⟨o, e _ _ h⟩)
  · exact .inr h
theorem Same.rd {H H' : Hp} {a : Addr} {u : HO} (e : Same H H') (h : Rd H a u) : Rd H' a u := by
  rcases h with h | ⟨o, h⟩
  · exact .inl (e _ _ h)
  · exact .inr ⟨o, e _ _ h⟩
theorem mem_same {H : Hp} {a : Addr} {o : HO} (h : H a = some o) : H a = some o := h
theorem SqL.is {H : Hp} {a : Addr} {xs : List V} (h : H a = some (.lst xs)) : SqL K H a xs := .inl (.inl h)
theorem SqT.is {H : Hp} {a : Addr} {xs : List V} (h : H a = some (.tup xs)) : SqT K H a xs := .inl (.inl h)
theorem putF_new {f : Str} {v : V} : ∀ {fs : List (Str × V)}, f ∉ fs.map (·.1) → putF f v fs = fs ++ [(f, v)]
  | [], _ => rfl
  | (g, x) :: r, h => by
    have h1 : ¬ g = f := fun e => h (by rw [e]; exact List.mem_cons_self)
    have h2 : f ∉ r.map (·.1) := fun e => h (List.mem_cons_of_mem _ e)
    show (if g = f then (g, v) :: r else (g, x) :: putF f v r) = (g, x) :: (r ++ [(f, v)])
    rw [if_neg h1, putF_new h2]
/-- a comprehension whose turns lay new objects alone: out i is the list behind i turns -/
theorem lc_ext {J : It} {n : Nat} {G : Hp → Prop} {Y : Nat → Hp → V → Hp → Prop} (w : Walk J n G Y) {g : TG} {tt : TT} {te : TE} {vs : List Nat} {σ : L2.St} {H1 : Hp} {D : Addr} {Qd : Hp → Prop} (hD : H1 D = none) (out : Nat → List V) (h0 : out 0 = [])
    (hG : ∀ H, Same H1 H → G H) (hn : ∀ i, i ≤ n → (out i).length < sizeLine)
    (hs : ∀ i x H H', i < n → Same H1 H → Y i H x H' → ∀ R : VK, (∀ y H4, Same H H4 → out (i + 1) = out i ++ [y] → R y H4) → ∀ R0 : Hp → Prop, (∀ H3, Same H H3 → out (i + 1) = out i → R0 H3) →
      g x (wipe σ vs) H' fun σ2 H2 => wipe σ2 vs = wipe σ vs ∧ tt σ2 H2 fun b H3 => if b = true then te σ2 H3 R else R0 H3)
    (hd : ∀ H, Same H1 H → H D = some (.lst (out n)) → Qd H) :
    ∃ W : Nat → Nat → Hp → Prop, (∃ m, W 0 m (upd H1 D (.lst []))) ∧ ∀ i m H, W i m H →
      (J.stop i H ∧ Qd H) ∨ (J.go i H ∧ ∃ Nx : Hp → Prop, (∀ H', Nx H' → ∃ m', m' < m ∧ W (i + 1) m' H') ∧ ∀ x H', J.yld i H x H' → g x (wipe σ vs) H' fun σ2 H2 => wipe σ2 vs = wipe σ vs ∧ tt σ2 H2 fun b H3 =>
        if b = true then te σ2 H3 fun y H4 => ∃ acc, H4 D = some (.lst acc) ∧ acc.length < sizeLine ∧ Nx (upd H4 D (.lst (acc ++ [y]))) else Nx H3) := by
  refine lc_it w (fun i H => Same H1 H ∧ H D = some (.lst (out i))) ⟨same_new hD, by rw [h0]; exact upd_same⟩ (fun i H _ p => hG H p.1) (fun i x H H' hi p y => ?_) fun H p => hd H p.1 p.2
  refine hs i x H H' hi p.1 y _ (fun z H4 s4 e4 => ?_) _ fun H3 s3 e3 => ?_
  · refine ⟨out i, s4 _ _ p.2, hn i (Nat.le_of_lt hi), fun b u e => ?_, ?_⟩
    · rw [upd_ne (ne_of_none e hD)]
      exact s4 _ _ (p.1 _ _ e)
    · rw [e4]
      exact upd_same
  · exact ⟨p.1.trans s3, by rw [e3]; exact s3 _ _ p.2⟩
end
end K73

set_option Elab.async false
set_option linter.all false
set_option maxRecDepth 100000
set_option maxHeartbeats 4000000
/-! ## words: whole numbers, names, texts, days -/
namespace K73
open PySem PySem.Spec PyProof.Rows L2
/-- a name: one to eight small letters -/
def NameP (s : Str) : Prop := 1 ≤ s.length ∧ s.length ≤ 8 ∧ ∀ c ∈ s.cps.toList, 97 ≤ c ∧ c ≤ 122
def spIsWhole : Sp := fun vs H Q _ => ∃ i a b : Int, vs = [.int i, .int a, .int b] ∧ Q (.bl (decide (a ≤ i ∧ i ≤ b))) H
def spIsName : Sp := fun vs H Q _ => ∃ z : Str, vs = [.str z] ∧ NameP z ∧ ∀ H', Same H H' → Q (.bl true) H'
/-- a text of ours: no blank at its ends -/
def TextP (s : Str) : Prop := 1 ≤ s.length ∧ s.length ≤ 30 ∧ (∀ c ∈ s.cps.toList, c ∈ v_SIGNS.cps.toList) ∧ Txt.stripChars s " " = s
def spIsText : Sp := fun vs H Q _ => ∃ z : Str, vs = [.str z] ∧ TextP z ∧ ∀ H', Same H H' → Q (.bl true) H'
def spNeedDay : Sp := fun vs H Q _ => ∃ d : Int, vs = [.int d] ∧ 0 ≤ d ∧ d ≤ 9999 ∧ Q .non H
theorem mem_letters {c : Nat} (h : 97 ≤ c ∧ c ≤ 122) : c ∈ v_LETTERS.cps.toList := by
  have e : v_LETTERS.cps.toList = [97, 98, 99, 100, 101, 102, 103, 104, 105, 106, 107, 108, 109, 110, 111, 112, 113, 114, 115, 116, 117, 118, 119, 120, 121, 122] := by decide +kernel
  rw [e]
  obtain ⟨h1, h2⟩ := h
  have hc : c = 97 ∨ c = 98 ∨ c = 99 ∨ c = 100 ∨ c = 101 ∨ c = 102 ∨ c = 103 ∨ c = 104 ∨ c = 105 ∨ c = 106 ∨ c = 107 ∨ c = 108 ∨ c = 109 ∨ c = 110 ∨ c = 111 ∨ c = 112 ∨ c = 113 ∨ c = 114 ∨ c = 115 ∨ c = 116 ∨ c = 117 ∨ c = 118 ∨ c = 119 ∨ c = 120 ∨ c = 121 ∨ c = 122 := by omega
  simp only [List.mem_cons, List.not_mem_nil, or_false]
  exact hc
theorem size8 {z : Str} (h : z.length ≤ 30) : z.length ≤ sizeLine := Nat.le_trans h (by decide)
theorem all_rep (n : Nat) : (List.replicate n true).all id = true := by
  induction n with
  | zero => rfl
  | succ n ih => rw [List.replicate_succ, List.all_cons, ih] <;> rfl
theorem map_rep (n : Nat) : (List.replicate n true).map V.bl = List.replicate n (V.bl true) := by
  rw [List.map_replicate]
theorem rep_succ (n : Nat) : List.replicate (n + 1) (V.bl true) = List.replicate n (V.bl true) ++ [V.bl true] := List.replicate_succ'
section
variable {P : Program} {w : World} {K : PySem.W.Frag} {mg : Str → Option Value} {base : Heap}
theorem fn_is_whole (T : Top w K mg) : ∃ fd, FunD K "is_whole" "is_whole" (defArgs s_is_whole) (defBody s_is_whole) (defScope s_is_whole) [.int 0, .int 9999] [] (He.ga K "is_whole") fd ∧ FnOk P w K mg base C8.CX0 1 (He.ga K "is_whole") fd ["thing", "least", "most"] spIsWhole := by
  obtain ⟨fd, F⟩ := T.d_is_whole
  refine ⟨fd, F, ok_of F sc_is_whole (fun vs H Q E h => ?_) fun cdv A outer s H vs Q E hr h => ?_⟩
  · obtain ⟨i, a, b, rfl, _⟩ := h
    rfl
  · obtain ⟨i, a, b, rfl, q⟩ := h
    refine ⟨_, (pss_one (ps_ret (pe_and (pe_callB call_isi (by rfl) T.f_isinstance b_isinstance (pa_cons (pv 0) (pa_cons (pe_bltn (v := .ty "int") (by rfl) T.f_int b_int rfl) pa_nil))) (pe_and (pe_not (pe_callB call_isi (by rfl) T.f_isinstance b_isinstance (pa_cons (pv 0) (pa_cons (pe_bltn (v := .ty "bool") (by rfl) T.f_bool b_bool rfl) pa_nil)))) (pe_one (pe_chain op_le op_le (pv 1) (pv 0) (pv 2))))))), ?_⟩
    refine ⟨_, rfl, _, _, _, _, true, rfl, .ty _, .base (.int _), ki_int_int, true, rfl, iteT ?_⟩
    refine ⟨_, rfl, _, _, _, _, false, rfl, .ty _, .base (.int _), ki_int_bool, false, rfl, true, rfl, iteT ?_⟩
    refine ⟨_, rfl, _, rfl, _, _, rfl, rfl, _, rfl, ?_⟩
    by_cases h1 : a ≤ i
    · rw [decide_eq_true h1]
      refine iteT ⟨_, rfl, _, _, rfl, rfl, ?_⟩
      by_cases h2 : i ≤ b
      · rw [decide_eq_true (show a ≤ i ∧ i ≤ b from ⟨h1, h2⟩)] at q
        show Q (.bl (decide (i ≤ b))) H
        rw [decide_eq_true h2]
        exact q
      · rw [decide_eq_false (fun z : a ≤ i ∧ i ≤ b => h2 z.2)] at q
        show Q (.bl (decide (i ≤ b))) H
        rw [decide_eq_false h2]
        exact q
    · rw [decide_eq_false (fun z : a ≤ i ∧ i ≤ b => h1 z.1)] at q
      rw [decide_eq_false h1]
      exact iteF q
theorem cal_is_whole (T : Top w K mg) : C8.Cal P w K mg base 1 "is_whole" spIsWhole [.int 0, .int 9999] := by
  obtain ⟨fd, F, G⟩ := fn_is_whole (P := P) (base := base) T
  exact calD_of (n := 1) 0 F T.g_is_whole G (List.cons_ne_nil _ _) rfl fun _ _ _ _ _ _ _ us its hl hi => match us, its, hl, hi with | [_], [_, _], _, _ => ⟨_, rfl, rfl⟩
theorem cal_is_whole_p1 (T : Top w K mg) : C8.Cal P w K mg base 1 "is_whole" spIsWhole [.int 0, .int 9999] := cal_is_whole T
theorem calN_is_whole_1_most (T : Top w K mg) : CalN P w K mg base 1 "is_whole" 1 ["most"] spIsWhole (fun vs zs => vs ++ [.int 0] ++ zs) := by
  obtain ⟨fd, F, G⟩ := fn_is_whole (P := P) (base := base) T
  exact calN_of 1 ["most"] (fun us its ws => us ++ its.take 1 ++ ws) F T.g_is_whole G (List.cons_ne_nil _ _) (fun r1 r2 r3 => (r1.append (r2.take 1)).append r3) fun _ _ _ _ _ _ _ us its ws h1 h2 h3 => match us, its, ws, h1, h2, h3 with | [_], [_, _], [_], _, _, _ => ⟨_, rfl, rfl⟩
theorem calN_is_whole_1_least_most (T : Top w K mg) : CalN P w K mg base 1 "is_whole" 1 ["least", "most"] spIsWhole (fun vs zs => vs ++ zs) := by
  obtain ⟨fd, F, G⟩ := fn_is_whole (P := P) (base := base) T
  exact calN_of 1 ["least", "most"] (fun us its ws => us ++ ws) F T.g_is_whole G (List.cons_ne_nil _ _) (fun r1 r2 r3 => r1.append r3) fun _ _ _ _ _ _ _ us its ws h1 h2 h3 => match us, its, ws, h1, h2, h3 with | [_], [_, _], [_, _], _, _, _ => ⟨_, rfl, rfl⟩
theorem cal_is_name (T : Top w K mg) : C8.Cal P w K mg base 1 "is_name" spIsName [] := by
  obtain ⟨fd, F⟩ := T.d_is_name
  refine cal0_of F T.g_is_name (ok_of F sc_is_name (fun vs H Q E h => ?_) fun cdv A outer s H vs Q E hr h => ?_) fun _ _ _ _ _ _ us hl => match us, hl with | [_], _ => rfl
  · obtain ⟨z, rfl, _⟩ := h
    rfl
  · obtain ⟨z, rfl, ⟨n1, n2, n3⟩, q⟩ := h
    refine ⟨_, (pss_cons (ps_if (PW.pt (pw_or (pt_not (pt_val (pe_callB call_isi (by rfl) T.f_isinstance b_isinstance (pa_cons (pv 0) (pa_cons (pe_bltn (v := .ty "str") (by rfl) T.f_str b_str rfl) pa_nil))))) (pw_or1 (pt_not (pt_chain op_le op_le pe_int (pe_callB call_len_str (by rfl) T.f_len b_len (pa_cons (pv 0) pa_nil)) (C8.pe_gc (by rfl) T.i_LONGEST_NAME)))))) (pss_one (ps_ret pe_bl)) pss_nil)
      (pss_one (ps_ret (pe_callB (cr_all rfl) (by rfl) T.f_all b_all (pa_cons (pe_lc (own := [("sign", 1)]) (g := gName 1) (tt := tYes) rfl sc_is_name.nd (pi_str (pv 0)) (blkOk_by (N := N_is_name) (sc := defScope s_is_name) (by decide +kernel)) (fun _ _ _ _ _ => (pg_name (i := 1) sc_is_name.nd rfl (Or.inl rfl))) (fun _ _ _ _ _ => pts_nil) (fun _ _ _ _ _ => (pe_cmpR op_in_sign (pv 1) (C8.pe_gc (by rfl) T.s_LETTERS) (by rfl)))) pa_nil))))), ?_⟩
    refine ⟨_, rfl, _, _, _, _, true, rfl, .ty _, .base (.str _), ki_str_str, true, rfl, iteF ?_⟩
    refine ⟨_, rfl, _, rfl, size8 (by omega), _, _, rfl, rfl, _, rfl, ?_⟩
    rw [decide_eq_true (show (1 : Int) ≤ (z.length : Int) by omega)]
    refine iteT ⟨_, _, rfl, rfl, _, rfl, ?_⟩
    rw [decide_eq_true (show (z.length : Int) ≤ 8 by omega)]
    refine iteF ?_
    refine ⟨_, rfl, _, rfl, fun D hD => ?_⟩
    refine lc_ext walk_str hD (fun i => List.replicate i (.bl true)) rfl (fun _ _ => trivial) (fun i hi => ?_) (fun i x H1 H2 hi sm y R kR R0 _ => ?_) fun H1 sm eD => ?_
    · rw [List.length_replicate]
      have : z.length = z.cps.size := rfl
      exact Nat.lt_of_le_of_lt (show i ≤ 8 by omega) (by decide)
    · obtain ⟨rfl, c, hc, rfl⟩ := y
      have hm : c ∈ z.cps.toList := by
        rw [Array.mem_toList_iff]
        exact Array.mem_of_getElem? hc
      refine ⟨rfl, _, rfl, c, _, rfl, rfl, ?_⟩
      rw [decide_eq_true (mem_letters (n3 c hm))]
      exact kR _ _ (Same.refl _) (rep_succ i)
    · refine ⟨D, List.replicate z.cps.size true, rfl, ?_, ?_⟩
      · rw [map_rep]
        exact SqL.is eD
      · rw [all_rep]
        exact q _ sm
theorem cal_is_text (T : Top w K mg) : C8.Cal P w K mg base 1 "is_text" spIsText [] := by
  obtain ⟨fd, F⟩ := T.d_is_text
  refine cal0_of F T.g_is_text (ok_of F sc_is_text (fun vs H Q E h => ?_) fun cdv A outer s H vs Q E hr h => ?_) fun _ _ _ _ _ _ us hl => match us, hl with | [_], _ => rfl
  · obtain ⟨z, rfl, _⟩ := h
    rfl
  · obtain ⟨z, rfl, ⟨n1, n2, n3, n4⟩, q⟩ := h
    refine ⟨_, (pss_cons (ps_if (PW.pt (pw_or (pt_not (pt_val (pe_callB call_isi (by rfl) T.f_isinstance b_isinstance (pa_cons (pv 0) (pa_cons (pe_bltn (v := .ty "str") (by rfl) T.f_str b_str rfl) pa_nil))))) (pw_or1 (pt_not (pt_chain op_le op_le pe_int (pe_callB call_len_str (by rfl) T.f_len b_len (pa_cons (pv 0) pa_nil)) (C8.pe_gc (by rfl) T.i_LONGEST_TEXT)))))) (pss_one (ps_ret pe_bl)) pss_nil)
      (pss_one (ps_ret (pe_and (pe_callB (cr_all rfl) (by rfl) T.f_all b_all (pa_cons (pe_lc (own := [("sign", 1)]) (g := gName 1) (tt := tYes) rfl sc_is_text.nd (pi_str (pv 0)) (blkOk_by (N := N_is_text) (sc := defScope s_is_text) (by decide +kernel)) (fun _ _ _ _ _ => (pg_name (i := 1) sc_is_text.nd rfl (Or.inl rfl))) (fun _ _ _ _ _ => pts_nil) (fun _ _ _ _ _ => (pe_cmpR op_in_sign (pv 1) (C8.pe_gc (by rfl) T.s_SIGNS) (by rfl)))) pa_nil)) (pe_one (pe_cmpR op_eq (pv 0) (pe_bm PySem.F.plainAttrs_str PySem.F.slot_str_strip PySem.F.type_str_strip mt_stripChars (pv 0) (pa_cons pe_str pa_nil)) (nomark _))))))), ?_⟩
    refine ⟨_, rfl, _, _, _, _, true, rfl, .ty _, .base (.str _), ki_str_str, true, rfl, iteF ?_⟩
    refine ⟨_, rfl, _, rfl, size8 (by omega), _, _, rfl, rfl, _, rfl, ?_⟩
    rw [decide_eq_true (show (1 : Int) ≤ (z.length : Int) by omega)]
    refine iteT ⟨_, _, rfl, rfl, _, rfl, ?_⟩
    rw [decide_eq_true (show (z.length : Int) ≤ 30 by omega)]
    refine iteF ?_
    refine ⟨_, rfl, _, rfl, fun D hD => ?_⟩
    refine lc_ext walk_str hD (fun i => List.replicate i (.bl true)) rfl (fun _ _ => trivial) (fun i hi => ?_) (fun i x H1 H2 hi sm y R kR R0 _ => ?_) fun H1 sm eD => ?_
    · rw [List.length_replicate]
      have : z.length = z.cps.size := rfl
      exact Nat.lt_of_le_of_lt (show i ≤ 30 by omega) (by decide)
    · obtain ⟨rfl, c, hc, rfl⟩ := y
      have hm : c ∈ z.cps.toList := by
        rw [Array.mem_toList_iff]
        exact Array.mem_of_getElem? hc
      refine ⟨rfl, _, rfl, c, _, rfl, rfl, ?_⟩
      rw [decide_eq_true (n3 c hm)]
      exact kR _ _ (Same.refl _) (rep_succ i)
    · refine ⟨D, List.replicate z.cps.size true, rfl, ?_, true, ?_, iteT ?_⟩
      · rw [map_rep]
        exact SqL.is eD
      · rw [all_rep]
      · refine ⟨_, rfl, _, rfl, rfl, z, _, rfl, rfl, size8 n2, rfl, ?_⟩
        rw [n4, decide_eq_true rfl]
        exact q _ sm
theorem cal_need_day (T : Top w K mg) : C8.Cal P w K mg base 2 "need_day" spNeedDay [] := by
  obtain ⟨fd, F⟩ := T.d_need_day
  refine cal0_of F T.g_need_day (ok_of F sc_need_day (fun vs H Q E h => ?_) fun cdv A outer s H vs Q E hr h => ?_) fun _ _ _ _ _ _ us hl => match us, hl with | [_], _ => rfl
  · obtain ⟨z, rfl, _⟩ := h
    rfl
  · obtain ⟨d, rfl, h0, h1, q⟩ := h
    refine ⟨_, (pss_one (ps_if (pt_not (pt_val (C8.pe_c (cal_is_whole_p1 T) hr (by decide) (by rfl) (pa_cons (pv 0) pa_nil)))) (pss_one ps_never) pss_nil)), ?_⟩
    refine ⟨_, rfl, d, 0, 9999, rfl, _, rfl, ?_⟩
    rw [decide_eq_true (show (0 : Int) ≤ d ∧ d ≤ 9999 from ⟨h0, h1⟩)]
    exact iteF q
end
end K73

set_option Elab.async false
set_option linter.all false
set_option maxRecDepth 100000
set_option maxHeartbeats 4000000
/-! ## enumerate(a tuple) -/
namespace PySem
open Sem (wp)
open AutoSeq1 (wpAny_loadPart')
theorem k73_enum1 {v : Value} {o : Obj} {H : Heap → Prop} (B : Begins v o H) :
    Meets (Builtin.«enumerate.__new__» ⟨[.type "enumerate", v], []⟩) (fun _ R s => H s.heap ∧
      R (.ok (.ret (.ref (s.heap.push o).objs.size))) { s with heap := (s.heap.push o).push { cls := .type "enumerate", data := .fields #[.none, .bool false, .ref s.heap.objs.size, rawInt 0, .none, .none] } }) :=
  .of_wp fun prog w A R s h => by
    obtain ⟨hp, g, d, tk, os⟩ := s
    obtain ⟨h1, h⟩ := h
    have hsub := sub_enumerate
    have q1 : ∀ {A' : Around} {E : Value → Shared → Prop} {Q : Value → Shared → Prop}, Q (.ref hp.objs.size) ⟨hp.push o, g, d, tk, os⟩ → wpAny (model prog w) A' (pyIter v) Q E ⟨hp, g, d, tk, os⟩ :=
      fun q => B.iter prog w _ _ ⟨hp, g, d, tk, os⟩ _ h1 q
    wp_walk using q1
    refine wpAny_stack_any fun st => wpAny_pure ?_
    split
    · rename_i c _ _ _ _ _
      cases (c == Value.type "enumerate")
      · wp_walk using q1
        exact ⟨_, rfl, h⟩
      · wp_walk using q1
        exact ⟨_, rfl, h⟩
    · wp_walk using q1
      exact ⟨_, rfl, h⟩
section
variable {prog : Program} {w : World} {A : Around} {E : Value → Shared → Prop} {s : Shared}
theorem k73_call_enum1 {v : Value} {o : Obj} {H : Heap → Prop} {Q : Value → Shared → Prop} (B : Begins v o H) (h1 : H s.heap)
    (h : ∀ h', IsEnum h' (s.heap.objs.size + 1) s.heap.objs.size 0 .none → h'.get? s.heap.objs.size = some o → h'.objs.size = s.heap.objs.size + 2 →
      (∀ b o, s.heap.get? b = some o → h'.get? b = some o) → Q (.ref (s.heap.objs.size + 1)) { s with heap := h' }) :
    wpAny (model prog w) A (call (.type "enumerate") [v]) Q E s := by
  refine callType_new F.called_enumerate (by decide) (F.typeCall_enumerate_1 _) (F.newCall_enumerate_1 _) (fun obj => F.args_object_init_2 obj _) F.entry_enumerate_new
    (k73_enum1 B) ⟨h1, ?_⟩
  have hz : (s.heap.push o).objs.size = s.heap.objs.size + 1 := Heap.size_push ..
  show _ ∧ _
  rw [hz]
  have he : IsEnum ((s.heap.push o).push { cls := .type "enumerate", data := .fields #[.none, .bool false, .ref s.heap.objs.size, rawInt 0, .none, .none] }) (s.heap.objs.size + 1) s.heap.objs.size 0 .none := by
    have := Heap.get?_push_size (s.heap.push o) (o := { cls := .type "enumerate", data := .fields #[.none, .bool false, .ref s.heap.objs.size, rawInt 0, .none, .none] }) rfl
    rw [hz] at this
    exact this
  exact ⟨⟨_, he, rfl⟩, h _ he (Heap.get?_push_of_some _ (Heap.get?_push_size _ B.free)) (by rw [Heap.size_push, hz]) fun b o x => Heap.get?_push_of_some _ (Heap.get?_push_of_some _ x)⟩
end
end PySem
namespace K73
open PySem PySem.Spec PyProof.Rows L2
/-- the tuple at a, each item in a new pair -/
def Itet (K : PySem.W.Frag) (a : Addr) : It :=
  ⟨fun i H => ∃ (xs : List V) (x : V), SqT K H a xs ∧ xs[i]? = some x, fun i H v H' => ∃ T x, v = .ref T ∧ H T = none ∧ H' = upd H T (.tup [.int (i : Nat), x]) ∧ ∀ xs, SqT K H a xs → xs[i]? = some x, fun i H => ∃ xs : List V, SqT K H a xs ∧ xs.length = i⟩
theorem turn_enumT {P : Program} {w : World} {K : PySem.W.Frag} {elts : List Expr} {kk : Nat} {tpos : Pos} (a e it : Addr) :
    Turn P w K (.Tuple elts kk tpos) (Itet K a) [e, it] e (fun i h => (∃ old, IsEnum h e it ((i : Nat) : Int) old) ∧ h.IsTupleIter it a i ∧ e ≠ it) where
  mem := by simp
  obj := fun i h st b hb => by
    obtain ⟨⟨old, he⟩, ⟨o, ho, hc, hd⟩, _⟩ := st
    have e' : b = e ∨ b = it := by simpa using hb
    rcases e' with z | z
    · rw [z]
      exact ⟨_, he, fun v q => nomatch q⟩
    · rw [z]
      exact ⟨o, ho, fun v q => by rw [hd] at q; cases q⟩
  keep := fun i h h' st k => let ⟨⟨old, he⟩, hi, hne⟩ := st; ⟨⟨old, k e (by simp) _ he⟩, hi.at fun o q => k it (by simp) o q, hne⟩
  item := by
    intro X hP hw hK hc i pins s σ H E I hf st hg
    subst hP hw hK
    obtain ⟨⟨old, he⟩, hit, hne⟩ := st
    obtain ⟨xs, x, hq, hx⟩ := hg
    obtain ⟨its, rv, p, hz⟩ := I.tuple hq
    obtain ⟨u, hu, ru⟩ := rv.get hx
    have hel : e < s.heap.objs.size := Heap.lt_size he
    have hil : it < s.heap.objs.size := by
      obtain ⟨_, q, _⟩ := hit
      exact Heap.lt_size q
    have hai : a ≠ it := by
      rintro rfl
      obtain ⟨o, q, c, _⟩ := hit
      obtain ⟨o', q', c', _⟩ := p
      rw [q] at q'
      cases q'
      rw [c] at c'
      injection c' with e0
      exact absurd e0 (by decide)
    have hae : e ∉ [it, a] := by
      have : e ≠ a := by
        rintro rfl
        obtain ⟨o', q', c', _⟩ := p
        rw [he] at q'
        cases q'
        injection c' with e0
        exact absurd e0 (by decide)
      simp [hne, this]
    have hi : i < its.toArray.size := by
      have := (List.getElem?_eq_some_iff.mp hu).1
      simpa using this
    refine wpAny_pyNext_enum_itemD (Draws.tuple (A := X.A.in1) (show X.A.in1.handled = none from I.ok.hd hc) it a hai its.toArray) he ⟨hit, (show s.heap.IsTuple a its.toArray from p)⟩ hi hne hae fun y h' tk hy ho hst' hT hsz hk => ?_
    have hy' : y = u := by
      have h1 : its.toArray[i]? = some y := hy
      rw [List.getElem?_toArray, hu] at h1
      exact (Option.some.inj h1).symm
    subst hy'
    refine ⟨_, rfl, wpAny_letOwnedTupleGo_enum (s := { s with heap := h', toks := tk + 1 }) ho fun h'' he' sb => ?_⟩
    have hT2 : h''.get? s.heap.objs.size = some { cls := .type "tuple", data := .seq #[.int i tk, y] } := (sb.2 _ (Nat.ne_of_gt hel)).trans hT
    have new : ObjOk X.prog X.w (upd H s.heap.objs.size (.tup [.int (i : Nat), x])) h'' s.heap.objs.size (.tup [.int (i : Nat), x]) :=
      ⟨by show 2 ≤ sizeLine; decide, [.int i tk, y], .cons ⟨_, rfl⟩ (.cons ru .nil), ⟨_, hT2, rfl, _, rfl⟩⟩
    have I1 : Inv X pins σ (upd H s.heap.objs.size (.tup [.int (i : Nat), x])) { s with heap := h'', toks := tk + 1 } :=
      I.turnedNew (ch := [e, it]) (fun b ob hb q => (sb.2 b (fun z => hb (by simp [z]))).trans (hk b ob (fun z => hb (by simp [z])) (fun z => hb (by simp [z])) q)) hf (Nat.le_refl _) new
    refine ⟨.ref s.heap.objs.size, _, I1, rfl, ⟨_, x, rfl, I.hok.fresh (Nat.le_refl _), rfl, fun ys hy => by rw [I.tuple_inj hy hq]; exact hx⟩, ⟨⟨y, ?_⟩, hst'.1.at fun o q => (sb.2 it (Ne.symm hne)).trans q, hne⟩, fun b hb => ?_⟩
    · have e1 : ((i + 1 : Nat) : Int) = (i : Int) + 1 := by omega
      rw [e1]
      exact he'
    · have hb' : b < s.heap.objs.size := by
        have e' : b = e ∨ b = it := by simpa using hb
        rcases e' with z | z
        · rw [z]
          exact hel
        · rw [z]
          exact hil
      rw [upd_ne (Nat.ne_of_lt hb')]
      exact (hf b hb).1
  done := by
    intro X hP hw hK hc i pins s σ H E I hf st hg
    subst hP hw hK
    obtain ⟨⟨old, he⟩, hit, hne⟩ := st
    obtain ⟨xs, hq, hx⟩ := hg
    obtain ⟨its, rv, p, hz⟩ := I.tuple hq
    obtain ⟨f0, f1, f2, f3, f4, f5⟩ := hf it (by simp)
    have hai : a ≠ it := by
      rintro rfl
      obtain ⟨o, q, c, _⟩ := hit
      obtain ⟨o', q', c', _⟩ := p
      rw [q] at q'
      cases q'
      rw [c] at c'
      injection c' with e0
      exact absurd e0 (by decide)
    have hl : its.toArray.size = i := by
      have := rv.length
      simp
      omega
    subst hl
    exact wpAny_pyNext_enum_endD (Draws.tuple (A := X.A.in1) (show X.A.in1.handled = none from I.ok.hd hc) it a hai its.toArray) he ⟨hit, (show s.heap.IsTuple a its.toArray from p)⟩ fun h' eb => ⟨rfl, I.turned (t' := s.toks) (fun b o hb q => eb b o hb q) f0 f1 f3 f4 f5⟩
  self := fun A i s Q E st h => let ⟨⟨_, he⟩, _⟩ := st; wpAny_pyIter_enum he h
def iEnumT (K : PySem.W.Frag) (ta : TA) : TI := fun σ H R => ta σ H fun vs H1 => ∃ a xs, vs = [.ref a] ∧ SqT K H1 a xs ∧ R (Itet K a) H1
theorem pi_enumT {X : Cx} {e : Expr} {ta : TA} {p pos tpos : Pos} {elts : List Expr} {kk : Nat} (hg : Gl X "enumerate") (hm : X.mg "enumerate" = none) (ha : PA X [e] ta) (hs : starEach [e] X.env = [(false, eval e X.env)] := by rfl) :
    PI X (.Tuple elts kk tpos) (.Call (.Name "enumerate" p) [e] [] pos) (iEnumT X.K ta) := by
  refine ⟨fun pins s σ H R I h => ?_⟩
  refine Call_ (ld_blt I hg hm boot_enumerate (PyProof.Rows.callWith_type1 (thn (ha.run pos pins s σ H _ I h) fun us s1 ⟨vs, H1, I1, r1, q1⟩ => ?_) hs rfl))
  obtain ⟨a, xs, ex, hq, q⟩ := q1
  subst ex
  cases r1 with
  | cons r rr =>
    cases rr
    cases r
    obtain ⟨its, rv, p', hz⟩ := I1.tuple hq
    refine k73_call_enum1 (begins_tuple a its.toArray) (show s1.heap.IsTuple a its.toArray from p') fun h' he hit hsz hk => wpAny_pyIter_enum he ?_
    have I2 : Inv X pins σ H1 { s1 with heap := h' } := I1.kept (t' := s1.toks) hk
    refine ⟨s1.heap.objs.size + 1, [s1.heap.objs.size + 1, s1.heap.objs.size], _, _, H1, rfl, I2, turn_enumT a (s1.heap.objs.size + 1) s1.heap.objs.size, ⟨⟨.none, he⟩, ⟨_, hit, rfl, rfl⟩, Nat.succ_ne_self _⟩, fun b hb => ?_, q⟩
    have e' : b = s1.heap.objs.size + 1 ∨ b = s1.heap.objs.size := by simpa using hb
    have hle : s1.heap.objs.size ≤ b := by
      rcases e' with z | z
      · rw [z]
        exact Nat.le_add_right _ _
      · rw [z]
        exact Nat.le_refl _
    exact I1.fpOk hle (I1.hok.fresh hle)
theorem walk_enumT {K : PySem.W.Frag} {a : Addr} {xs : List V} : Walk (Itet K a) xs.length (fun H => SqT K H a xs) (YPair (fun i => some (.int (i : Nat))) (fun i => xs[i]?)) := by
  refine ⟨fun i _ hi q => ⟨xs, xs[i], q, by simp [hi]⟩, fun _ q => ⟨xs, q, rfl⟩, fun i H v H' _ q y => ?_⟩
  obtain ⟨T, x, h1, h2, h3, h4⟩ := y
  exact ⟨T, .int (i : Nat), x, h1, h2, h3, rfl, h4 xs q⟩
/-! ### a tuple whose object is known: t.index(x) -/
/-- a written tuple, its object known -/
def tTupF (t : TA) : TE := fun σ H Q => t σ H fun xs H1 => xs.length ≤ sizeLine ∧ ∀ p o, H1 p = none → o.cls = .type "tuple" → o.dict = none → Q (.ref p) (upd H1 p (.frz o (.tup xs)))
section
variable {X : Cx} {es : List Expr} {t : TA} {pos : Pos}
theorem pe_tupF {x1} (h : PA X es t) : PE X (.Tuple es x1 pos) (tTupF t) := by
  refine ⟨fun pins s σ H Q I hq => ?_⟩
  refine wpAny_Tuple_spliced (thn (h.run pos pins s σ H _ I hq) fun us s1 ⟨xs, H1, I1, r, z, q⟩ => ⟨by rw [← r.length]; exact z, ?_⟩)
  have hf : H1 s1.heap.objs.size = none := I1.hok.fresh (Nat.le_refl _)
  refine ⟨.ref s1.heap.objs.size, upd H1 s1.heap.objs.size (.frz { cls := .type "tuple", data := .seq us.toArray } (.tup xs)), I1.laid (t' := s1.toks) (fun b u e => Heap.get?_push_of_some _ e) (Nat.le_refl _) ?_, rfl, q _ _ hf rfl rfl⟩
  exact ⟨Heap.get?_push_size _ rfl, z, us, r, ⟨_, Heap.get?_push_size _ rfl, rfl, _, rfl⟩⟩
def tTIndex (to te : TE) : TE := fun σ H Q => to σ H fun x H1 => ∃ (p : Addr) (o : Obj) (ys : List Str), x = .ref p ∧ H1 p = some (.frz o (.tup (ys.map V.str))) ∧ o.dict = none ∧ te σ H1 fun y H2 => ∃ (z : Str) (j : Nat), y = .str z ∧ H2 p = some (.frz o (.tup (ys.map V.str))) ∧
  ys[j]? = some z ∧ (∀ m, m < j → ys[m]? ≠ some z) ∧ Q (.int (j : Nat)) H2
theorem pe_tindex {o e : Expr} {to te : TE} {apos cpos : Pos} (ho : PE X o to) (he : PE X e te) (hbase : attributeBase o "index" X.env (eval o X.env) = eval o X.env := by rfl)
    (hfew : ((backTo cpos (starEach [e] X.env)).all (fun x => !x.1) && (backToKw cpos (keywordEach [] X.env)).all (fun x => x.1.isSome)
      && decide (([e] : List Expr).length + ([] : List Keyword).length + (if ([] : List Keyword).isEmpty then 0 else 1) < 30)) = true := by rfl)
    (hline : (apos.endLine == cpos.line) = true := by rfl) (hs : starEach [e] X.env = (false, eval e X.env) :: starEach [] X.env := by rfl) :
    PE X (.Call (.Attribute o "index" apos) [e] [] cpos) (tTIndex to te) := by
  refine ⟨fun pins s σ H Q I h => ?_⟩
  refine wpAny_Call_method_late hbase hfew hline rfl (thn (ho.run pins s σ H _ I h) fun v s1 ⟨x, H1, I1, r1, p, ob, ys, ex, hp, hd, q1⟩ => ?_)
  subst ex
  obtain rfl : v = Value.ref p := r1
  obtain ⟨hob, z, its, rv, ob', h1, h2, h3⟩ := (show ObjOk X.prog X.w H1 s1.heap p (.frz ob (.tup (ys.map V.str))) from I1.hok p _ hp)
  have eo : ob' = ob := Option.some.inj (h1.symm.trans hob)
  subst eo
  have hty : s1.TypeIs (.ref p) "tuple" := ⟨_, h1, h2⟩
  refine ⟨"tuple", "tuple.index", PySem.F.plainAttrs_tuple, PySem.F.slot_tuple_index, PySem.F.type_tuple_index, hty, fun a ea => by cases ea; exact ⟨_, h1, hd⟩, ?_⟩
  have hA := (pa_cons (te := te) he (pa_nil (X := X)) hs).run cpos pins s1 σ H1 (fun xs H2 => ∃ y, xs = [y] ∧ ∃ (z : Str) (j : Nat), y = .str z ∧ H2 p = some (.frz ob' (.tup (ys.map V.str))) ∧ ys[j]? = some z ∧ (∀ m, m < j → ys[m]? ≠ some z) ∧ Q (.int (j : Nat)) H2) I1 ?_
  · rw [hs] at hA ⊢
    refine Calls.callWith_builtin rfl (Calls.evalArgs_plain ?_)
    refine thn hA fun us s2 ⟨vs, H2, I2, r2, y, ey, z, j, ez, hp2, e1, e2, q2⟩ => ?_
    subst ey ez
    exact mt_tup_index pins s2 σ H2 (.ref p) [.str z] (.ref p) us Q I2 rfl r2 ⟨p, ys, z, j, rfl, rfl, .inl (.inr ⟨_, hp2⟩), e1, e2, q2⟩
  · show te σ H1 fun y H2 => _
    exact (show te σ H1 (fun y H2 => ∃ y', [y] = [y'] ∧ ∃ (z : Str) (j : Nat), y' = .str z ∧ H2 p = some (.frz ob' (.tup (ys.map V.str))) ∧ ys[j]? = some z ∧ (∀ m, m < j → ys[m]? ≠ some z) ∧ Q (.int (j : Nat)) H2) from by
      have eq1 : (fun (y : V) (H2 : Hp) => ∃ y', [y] = [y'] ∧ ∃ (z : Str) (j : Nat), y' = .str z ∧ H2 p = some (.frz ob' (.tup (ys.map V.str))) ∧ ys[j]? = some z ∧ (∀ m, m < j → ys[m]? ≠ some z) ∧ Q (.int (j : Nat)) H2) =
          fun y H2 => ∃ (z : Str) (j : Nat), y = .str z ∧ H2 p = some (.frz ob' (.tup (ys.map V.str))) ∧ ys[j]? = some z ∧ (∀ m, m < j → ys[m]? ≠ some z) ∧ Q (.int (j : Nat)) H2 := by
        funext y H2
        refine propext ⟨fun ⟨y', e, r⟩ => ?_, fun r => ⟨y, rfl, r⟩⟩
        injection e with e _
        rw [e]
        exact r
      rw [eq1]
      exact q1)
end
end K73

set_option Elab.async false
set_option linter.all false
set_option maxRecDepth 100000
set_option maxHeartbeats 4000000
/-! ## sum(a list of ints, start=k), max(a list of ints, default=None) -/
namespace PySem
open Sem (wp)
def k73_off (k0 : Int) (val : Nat → Int) : Nat → Int
  | 0 => k0
  | i + 1 => k73_off k0 val i + val i
theorem k73_off_eq (k0 : Int) (val : Nat → Int) : ∀ n, k73_off k0 val n = k0 + preSum val n
  | 0 => by simp [k73_off, preSum]
  | n + 1 => by
    show k73_off k0 val n + val n = _
    rw [k73_off_eq k0 val n]
    show k0 + preSum val n + val n = k0 + (preSum val n + val n)
    omega
section
variable {prog : Program} {w : World} {A : Around} {R : Result → Shared → Prop} {I : Addr} {fp wr : List Addr} {n : Nat} {P : Nat → Value → Prop} {St : Nat → Heap → Prop}
theorem k73_sum_loop (W : Walks prog w A.in1 I fp wr n P St) (k0 : Int) (val : Nat → Int) (hval : ∀ i v, P i v → ∃ t, v = .int (val i) t) (S : Addr) (hSf : S ∉ fp) :
    ∀ (k i : Nat) (s : Shared) (tA : Tok) (c : Nat) (stage : Int), (stage = 0 ∨ stage = 2) → n - i = k → i ≤ n → St i s.heap → s.heap.get? S = some { cls := .type "list", dict := none, data := .seq #[.int (k73_off k0 val i) tA] c, slots := #[] } →
    (∀ h' tk t', (∀ b o, b ∉ wr → b ≠ S → s.heap.get? b = some o → h'.get? b = some o) → R (.ok (.ret (.int (k73_off k0 val n) t'))) { s with heap := h', toks := tk }) →
    codeAny (model prog w) A (.builtin "sum.loop" ⟨[.ref I, .ref S, rawInt stage, rawInt 0], []⟩) R s := by
  have hSw : S ∉ wr := fun h => hSf (W.sub _ h)
  intro k
  induction k with
  | zero =>
    intro i s tA c stage hstage hk hi hst hS hR
    have hin : i = n := by omega
    subst hin
    refine codeAny_builtin F.entry_sum_loop ?_
    rw [Around.under_plainId F.plain_sum_loop _]
    show wpAny _ A.in1 (seqItems? (.ref S) >>= _) _ _ s
    refine wpAny_bind (wpAny_seqItems hS rfl ?_)
    show wpAny _ A.in1 (tryCatch (pyNext (.ref I)) _ >>= _) _ _ s
    refine wpAny_bind (wpAny_tryCatch (W.done s _ _ hst fun h' tk hk' => ?_))
    exact wpAny_pure (hR h' tk tA fun b o hbw _ e => hk' b o hbw e)
  | succ k ih =>
    intro i s tA c stage hstage hk hi hst hS hR
    have hlt : i < n := by omega
    refine codeAny_builtin F.entry_sum_loop ?_
    rw [Around.under_plainId F.plain_sum_loop _]
    show wpAny _ A.in1 (seqItems? (.ref S) >>= _) _ _ s
    refine wpAny_bind (wpAny_seqItems hS rfl ?_)
    show wpAny _ A.in1 (tryCatch (pyNext (.ref I)) _ >>= _) _ _ s
    refine wpAny_bind (wpAny_tryCatch (W.item i s _ _ hlt hst fun v h' tk hP hst' hk' => ?_))
    obtain ⟨t, rfl⟩ := hval i v hP
    have hS' := hk' S _ hSw hS
    rcases hstage with rfl | rfl
    · show wpAny _ A.in1 (if (_ : Bool) = true then (mkInt (k73_off k0 val i + val i) >>= _) else _) _ _ _
      split
      · refine wpAny_bind (wpAny_mkInt ?_)
        show wpAny _ A.in1 (updateSeq S (fun _ => #[.int (k73_off k0 val i + val i) tk]) >>= _) _ _ _
        refine wpAny_bind ?_
        refine wpAny_updateSeq hS' rfl (wpAny_pure ⟨plainId_quiet F.plain_sum_loop _, ih (i + 1) _ tk _ 0 (Or.inl rfl) (by omega) hlt (W.frame _ _ _ hst' fun b hb o e => ?_) (Heap.get?_update_self _ hS' rfl) fun h'' tk'' t'' hk'' => ?_⟩)
        · exact (Heap.get?_update_other _ _ (fun h : S = b => hSf (by rw [h]; exact hb))).trans e
        · exact hR h'' tk'' t'' fun b o hbw hbS e => hk'' b o hbw hbS ((Heap.get?_update_other _ _ (Ne.symm hbS)).trans (hk' b o hbw e))
      · refine wpAny_bind (wpAny_rule ?_)
        refine wpAny_bind (wpAny_attempt (wpAny_holding (PySem.P.add_int ?_)))
        show wpAny _ A.in1 (updateSeq S (fun _ => #[.int (k73_off k0 val i + val i) tk]) >>= _) _ _ _
        refine wpAny_bind ?_
        refine wpAny_updateSeq hS' rfl ?_
        have hS2 := Heap.get?_update_self (Obj.mapSeq fun _ => #[Value.int (k73_off k0 val i + val i) tk]) hS' rfl
        refine wpAny_bind (wpAny_letGo ?_)
        refine wpAny_bind ?_
        refine wpAny_updateSeq hS2 rfl (wpAny_pure ⟨plainId_quiet F.plain_sum_loop _, ih (i + 1) _ tk _ 2 (Or.inr rfl) (by omega) hlt (W.frame _ _ _ hst' fun b hb o e => ?_) (Heap.get?_update_self _ hS2 rfl) fun h'' tk'' t'' hk'' => ?_⟩)
        · exact (Heap.get?_update_other _ _ (fun h : S = b => hSf (by rw [h]; exact hb))).trans ((Heap.get?_update_other _ _ (fun h : S = b => hSf (by rw [h]; exact hb))).trans e)
        · exact hR h'' tk'' t'' fun b o hbw hbS e => hk'' b o hbw hbS ((Heap.get?_update_other _ _ (Ne.symm hbS)).trans ((Heap.get?_update_other _ _ (Ne.symm hbS)).trans (hk' b o hbw e)))
    · show wpAny _ A.in1 ((holding [Value.int (val i) t] (binaryOp .Add (.int (k73_off k0 val i) tA) (.int (val i) t))).attempt >>= _) _ _ _
      refine wpAny_bind (wpAny_attempt (wpAny_holding (PySem.P.add_int ?_)))
      show wpAny _ A.in1 (updateSeq S (fun _ => #[.int (k73_off k0 val i + val i) tk]) >>= _) _ _ _
      refine wpAny_bind ?_
      refine wpAny_updateSeq hS' rfl ?_
      have hS2 := Heap.get?_update_self (Obj.mapSeq fun _ => #[Value.int (k73_off k0 val i + val i) tk]) hS' rfl
      refine wpAny_bind (wpAny_letGo ?_)
      refine wpAny_bind ?_
      refine wpAny_updateSeq hS2 rfl (wpAny_pure ⟨plainId_quiet F.plain_sum_loop _, ih (i + 1) _ tk _ 2 (Or.inr rfl) (by omega) hlt (W.frame _ _ _ hst' fun b hb o e => ?_) (Heap.get?_update_self _ hS2 rfl) fun h'' tk'' t'' hk'' => ?_⟩)
      · exact (Heap.get?_update_other _ _ (fun h : S = b => hSf (by rw [h]; exact hb))).trans ((Heap.get?_update_other _ _ (fun h : S = b => hSf (by rw [h]; exact hb))).trans e)
      · exact hR h'' tk'' t'' fun b o hbw hbS e => hk'' b o hbw hbS ((Heap.get?_update_other _ _ (Ne.symm hbS)).trans ((Heap.get?_update_other _ _ (Ne.symm hbS)).trans (hk' b o hbw e)))
/-! max's loop with a default -/
theorem k73_max_loop (W : Walks prog w A.in1 I fp wr n P St) (d : Value) (bt : Nat → Nat → Bool) (hcmp : CmpOf prog w A.in1 .Gt P bt) (S : Addr) (hSf : S ∉ fp) :
    ∀ (k j : Nat) (s : Shared) (vb : Value) (c : Nat), n - (j + 1) = k → j + 1 ≤ n → St (j + 1) s.heap → P (argBest bt j) vb →
    s.heap.get? S = some { cls := .type "list", dict := none, data := .seq #[vb, vb] c, slots := #[] } →
    (∀ v h' tk, P (argBest bt (n - 1)) v → (∀ b o, b ∉ wr → b ≠ S → s.heap.get? b = some o → h'.get? b = some o) → R (.ok (.ret v)) { s with heap := h', toks := tk }) →
    codeAny (model prog w) A (.builtin "max.loop" ⟨[.ref I, .none, .ref S], [(("default" : Str), d)]⟩) R s := by
  have hSw : S ∉ wr := fun h => hSf (W.sub _ h)
  have hname : (toString "max" ++ toString ".loop" : String) = "max.loop" := by decide
  intro k
  induction k with
  | zero =>
    intro j s vb c hk hj hst hPb hS hR
    have hin : j + 1 = n := by omega
    refine codeAny_builtin F.entry_max_loop ?_
    rw [Around.under_plainId F.plain_max_loop _]
    show wpAny _ A.in1 (seqItems? (.ref S) >>= _) _ _ s
    refine wpAny_bind (wpAny_seqItems hS rfl ?_)
    show wpAny _ A.in1 (tryCatch (pyNext (.ref I)) _ >>= _) _ _ s
    refine wpAny_bind (wpAny_tryCatch (W.done s _ _ (hin ▸ hst) fun h' tk hk' => ?_))
    have hS' := hk' S _ hSw hS
    show wpAny _ A.in1 (updateSeq S (fun _ => #[]) >>= _) _ _ _
    refine wpAny_bind ?_
    refine wpAny_updateSeq hS' rfl (wpAny_bind (wpAny_letGo (wpAny_pure ?_)))
    refine hR vb _ tk (by rw [← hin]; exact hPb) fun b o hbw hbS e => (Heap.get?_update_other _ _ (Ne.symm hbS)).trans (hk' b o hbw e)
  | succ k ih =>
    intro j s vb c hk hj hst hPb hS hR
    have hlt : j + 1 < n := by omega
    refine codeAny_builtin F.entry_max_loop ?_
    rw [Around.under_plainId F.plain_max_loop _]
    show wpAny _ A.in1 (seqItems? (.ref S) >>= _) _ _ s
    refine wpAny_bind (wpAny_seqItems hS rfl ?_)
    show wpAny _ A.in1 (tryCatch (pyNext (.ref I)) _ >>= _) _ _ s
    refine wpAny_bind (wpAny_tryCatch (W.item (j + 1) s _ _ hlt hst fun v h' tk hP hst' hk' => ?_))
    have hS' := hk' S _ hSw hS
    show wpAny _ A.in1 (tryCatch (holding [v, v] (richCompare .Gt v vb >>= _)) _ >>= _) _ _ _
    refine wpAny_bind (wpAny_tryCatch (wpAny_holding (wpAny_bind (hcmp (j + 1) (argBest bt j) v vb _ _ _ hP hPb ?_))))
    refine wpAny_bind (wpAny_holding (wpAny_truthy_bool ?_))
    refine wpAny_bind (wpAny_letGo (wpAny_pure ?_))
    cases hb : bt (j + 1) (argBest bt j) with
    | true =>
      simp only [if_true]
      refine wpAny_bind ?_
      refine wpAny_updateSeq hS' rfl (wpAny_bind (wpAny_letGo ?_))
      rw [hname]
      refine wpAny_pure ⟨plainId_quiet F.plain_max_loop _, ih (j + 1) _ v _ (by omega) hlt (W.frame _ _ _ hst' fun b hbf o e => ?_) (by simp only [argBest, hb, if_true]; exact hP) (Heap.get?_update_self _ hS' rfl)
        fun v' h'' tk'' hP' hk'' => ?_⟩
      · exact (Heap.get?_update_other _ _ (fun h : S = b => hSf (by rw [h]; exact hbf))).trans e
      · exact hR v' h'' tk'' hP' fun b o hbw hbS e => hk'' b o hbw hbS ((Heap.get?_update_other _ _ (Ne.symm hbS)).trans (hk' b o hbw e))
    | false =>
      simp only [Bool.false_eq_true, if_false]
      refine wpAny_bind (wpAny_letGo ?_)
      rw [hname]
      refine wpAny_pure ⟨plainId_quiet F.plain_max_loop _, ih (j + 1) _ vb c (by omega) hlt hst' (by simp only [argBest, hb, Bool.false_eq_true, if_false]; exact hPb) hS' fun v' h'' tk'' hP' hk'' => ?_⟩
      exact hR v' h'' tk'' hP' fun b o hbw hbS e => hk'' b o hbw hbS (hk' b o hbw e)
theorem k73_max_first (W : Walks prog w A.in1 I fp wr n P St) (d : Value) (bt : Nat → Nat → Bool) (hcmp : CmpOf prog w A.in1 .Gt P bt) (S : Addr) (hSf : S ∉ fp) {s : Shared} {c : Nat} (hst : St 0 s.heap)
    (hS : s.heap.get? S = some { cls := .type "list", dict := none, data := .seq #[] c, slots := #[] })
    (hR0 : n = 0 → ∀ h' tk, (∀ b o, b ∉ wr → b ≠ S → s.heap.get? b = some o → h'.get? b = some o) → R (.ok (.ret d)) { s with heap := h', toks := tk })
    (hR : 0 < n → ∀ v h' tk, P (argBest bt (n - 1)) v → (∀ b o, b ∉ wr → b ≠ S → s.heap.get? b = some o → h'.get? b = some o) → R (.ok (.ret v)) { s with heap := h', toks := tk }) :
    codeAny (model prog w) A (.builtin "max.loop" ⟨[.ref I, .none, .ref S], [(("default" : Str), d)]⟩) R s := by
  have hSw : S ∉ wr := fun h => hSf (W.sub _ h)
  have hname : (toString "max" ++ toString ".loop" : String) = "max.loop" := by decide
  refine codeAny_builtin F.entry_max_loop ?_
  rw [Around.under_plainId F.plain_max_loop _]
  show wpAny _ A.in1 (seqItems? (.ref S) >>= _) _ _ s
  refine wpAny_bind (wpAny_seqItems hS rfl ?_)
  show wpAny _ A.in1 (tryCatch (pyNext (.ref I)) _ >>= _) _ _ s
  by_cases hn : 0 < n
  · refine wpAny_bind (wpAny_tryCatch (W.item 0 s _ _ hn hst fun v h' tk hP hst' hk' => ?_))
    have hS' := hk' S _ hSw hS
    show wpAny _ A.in1 (updateSeq S (fun _ => #[v, v]) >>= _) _ _ _
    refine wpAny_bind ?_
    refine wpAny_updateSeq hS' rfl ?_
    rw [hname]
    refine wpAny_pure ⟨plainId_quiet F.plain_max_loop _, k73_max_loop W d bt hcmp S hSf _ 0 _ v _ rfl hn (W.frame _ _ _ hst' fun b hbf o e => ?_) hP (Heap.get?_update_self _ hS' rfl) fun v' h'' tk'' hP' hk'' => ?_⟩
    · exact (Heap.get?_update_other _ _ (fun h : S = b => hSf (by rw [h]; exact hbf))).trans e
    · exact hR hn v' h'' tk'' hP' fun b o hbw hbS e => hk'' b o hbw hbS ((Heap.get?_update_other _ _ (Ne.symm hbS)).trans (hk' b o hbw e))
  · have h0 : n = 0 := by omega
    subst h0
    refine wpAny_bind (wpAny_tryCatch (W.done s _ _ hst fun h' tk hk' => ?_))
    show wpAny _ A.in1 (rule _ >>= _) _ _ _
    refine wpAny_bind (wpAny_rule (wpAny_pure ?_))
    exact hR0 rfl h' tk fun b o hbw _ e => hk' b o hbw e
end
section
variable {prog : Program} {w : World} {A : Around} {E : Value → Shared → Prop} {s : Shared}
theorem k73_args_sum (a v : Value) : argsOk "sum" ⟨[a], [(("start" : Str), v)]⟩ := by unfold argsOk; kernel_rfl
theorem k73_args_max (a v : Value) : argsOk "max" ⟨[a], [(("default" : Str), v)]⟩ := by unfold argsOk; kernel_rfl
theorem k73_call_tree {id : String} {b : Builtin} {args : List Value} {kw : List (Str × Value)} {Q : Value → Shared → Prop} (hk : builtinKind id = none) (hp : plainId id = true)
    (hb : entryFor table id = some b) (ha : argsOk id ⟨args, kw⟩)
    (hc : wpAny (model prog w) A.in1 (b ⟨args, kw⟩) (fun fin s' => match fin with
      | .done f => (match (Except.ok f : Result) with | .ok (.ret v) => Q v s' | .ok _ => False | .error e => E e s')
      | .again c' => c'.quiet = true ∧ codeAny (model prog w) A c' (fun r s' => match r with | .ok (.ret v) => Q v s' | .ok _ => False | .error e => E e s') s') E s) :
    wpAny (model prog w) A (call (.builtin id) args kw) Q E s := by
  refine wpAny_call (codeAny_call_builtin hp hb ?_)
  simp only [checkBuiltinCall, hk]
  cases hsig : Manifest.signature? id with
  | none => exact wpAny_pure hc
  | some sig =>
    have h2 : Bind.checkArgs id sig ⟨args, kw⟩ = pure () := by simpa only [argsOk, hsig] using ha
    simp only [h2]
    exact wpAny_pure hc
theorem k73_call_sum {x : Value} {k0 : Int} {tk0 : Tok} {Q : Value → Shared → Prop}
    (h : wpAny (model prog w) A.in1 (pyIter x) (fun it s₂ => ∃ I fp wr n P St val, it = .ref I ∧ Walks prog w A.in1 I fp wr n P St ∧ St 0 s₂.heap ∧ (∀ b ∈ fp, b < s₂.heap.objs.size) ∧
      (∀ i v, P i v → ∃ t, v = .int (val i) t) ∧
      ∀ h' tk t', (∀ b o, b ∉ wr → s₂.heap.get? b = some o → h'.get? b = some o) → Q (.int (k73_off k0 val n) t') { s₂ with heap := h', toks := tk }) E s) :
    wpAny (model prog w) A (call (.builtin "sum") [x] [(("start" : Str), .int k0 tk0)]) Q E s := by
  refine k73_call_tree F.kind_sum F.plain_sum F.entry_sum (k73_args_sum _ _) ?_
  unfold Builtin.«sum»
  simp only [List.length_cons, List.length_nil]
  rw [if_neg (by decide)]
  refine wpAny_bind (wpAny_of_eq (show Builtin.Builtins.bindParams "sum" ["start"] 0 ⟨[], [(("start" : Str), .int k0 tk0)]⟩ = pure [some (.int k0 tk0)] from rfl) ?_)
  refine wpAny_bind (wpAny_mono h (fun it s₂ h₂ => ?_) fun _ _ e => e)
  obtain ⟨I, fp, wr, n, P, St, val, rfl, W, hst, hfp, hval, hQ⟩ := h₂
  dsimp only
  split
  all_goals
    (first
       | (refine wpAny_bind (wpAny_bind (wpAny_rule (wpAny_pure (wpAny_bind (wpAny_mkInt (wpAny_bind (wpAny_pure ?_)))))))
          refine wpAny_bind (wpAny_pure ?_))
       | refine wpAny_bind (wpAny_pure ?_)
     simp only [List.forIn_cons, List.forIn_nil]
     refine wpAny_bind (wpAny_bind (wpAny_bind (wpAny_isInstance (T := "int") (b := false) (typeIs_int _ _ _) sub_int_str ?_)))
     simp only [Bool.false_eq_true, if_false]
     refine wpAny_pure (wpAny_bind (wpAny_bind (wpAny_isInstance (T := "int") (b := false) (typeIs_int _ _ _) sub_int_bytes ?_)))
     simp only [Bool.false_eq_true, if_false]
     refine wpAny_pure (wpAny_bind (wpAny_bind (wpAny_isInstance (T := "int") (b := false) (typeIs_int _ _ _) sub_int_bytearray ?_)))
     simp only [Bool.false_eq_true, if_false]
     refine wpAny_pure (wpAny_pure ?_)
     refine wpAny_bind (wpAny_newObj_type ?_)
     have hSf : s₂.heap.objs.size ∉ fp := fun hm => Nat.lt_irrefl _ (hfp _ hm)
     refine wpAny_pure ⟨plainId_quiet F.plain_sum_loop _, k73_sum_loop W k0 val hval s₂.heap.objs.size hSf n 0 _ _ 0 _ (by first | exact Or.inl rfl | exact Or.inr rfl) rfl (Nat.zero_le _)
       (W.frame _ _ _ hst fun b _ o e => Heap.get?_push_of_some _ e) (Heap.get?_push_size _ rfl) fun h' tk t' hk => ?_⟩
     exact hQ h' tk t' fun b o hbw e => hk b o hbw (Nat.ne_of_lt (Heap.lt_size e)) (Heap.get?_push_of_some _ e))
theorem k73_call_max {x d : Value} {Q : Value → Shared → Prop}
    (h : wpAny (model prog w) A.in1 (pyIter x) (fun it s₂ => ∃ I fp wr n P St bt, it = .ref I ∧ Walks prog w A.in1 I fp wr n P St ∧ St 0 s₂.heap ∧ (∀ b ∈ fp, b < s₂.heap.objs.size) ∧ CmpOf prog w A.in1 .Gt P bt ∧
      (n = 0 → ∀ h' tk, (∀ b o, b ∉ wr → s₂.heap.get? b = some o → h'.get? b = some o) → Q d { s₂ with heap := h', toks := tk }) ∧
      (0 < n → ∀ v h' tk, P (argBest bt (n - 1)) v → (∀ b o, b ∉ wr → s₂.heap.get? b = some o → h'.get? b = some o) → Q v { s₂ with heap := h', toks := tk })) E s) :
    wpAny (model prog w) A (call (.builtin "max") [x] [(("default" : Str), d)]) Q E s := by
  have hname : (toString "max" ++ toString ".loop" : String) = "max.loop" := by decide
  refine k73_call_tree F.kind_max F.plain_max F.entry_max (k73_args_max _ _) ?_
  show wpAny _ A.in1 (Builtin.Builtins.bindParams "max" ["key", "default"] 0 ⟨[], [(("default" : Str), d)]⟩ >>= _) _ _ s
  refine wpAny_bind (wpAny_of_eq (show Builtin.Builtins.bindParams "max" ["key", "default"] 0 ⟨[], [(("default" : Str), d)]⟩ = pure [none, some d] from rfl) ?_)
  refine wpAny_bind (wpAny_pure ?_)
  refine wpAny_bind (wpAny_mono h (fun it s₂ h₂ => ?_) fun _ _ e => e)
  obtain ⟨I, fp, wr, n, P, St, bt, rfl, W, hst, hfp, hcmp, hQ0, hQ⟩ := h₂
  refine wpAny_bind (wpAny_newObj_type ?_)
  have hSf : s₂.heap.objs.size ∉ fp := fun hm => Nat.lt_irrefl _ (hfp _ hm)
  rw [hname]
  refine wpAny_pure ⟨plainId_quiet F.plain_max_loop _, k73_max_first W d bt hcmp s₂.heap.objs.size hSf (W.frame _ _ _ hst fun b _ o e => Heap.get?_push_of_some _ e) (Heap.get?_push_size _ rfl) (fun h0 h' tk hk => ?_) fun hn v h' tk hP hk => ?_⟩
  · exact hQ0 h0 h' tk fun b o hbw e => hk b o hbw (Nat.ne_of_lt (Heap.lt_size e)) (Heap.get?_push_of_some _ e)
  · exact hQ hn v h' tk hP fun b o hbw e => hk b o hbw (Nat.ne_of_lt (Heap.lt_size e)) (Heap.get?_push_of_some _ e)
end
end PySem
namespace K73
open PySem PySem.Spec PyProof.Rows L2
theorem k73_preSum (val : Nat → Int) (xs : List Int) (h : ∀ i, i < xs.length → xs[i]? = some (val i)) : preSum val xs.length = xs.sum := by
  have g : ∀ n, n ≤ xs.length → preSum val n = (xs.take n).sum := by
    intro n
    induction n with
    | zero => intro _; simp [preSum]
    | succ n ih =>
      intro hn
      have hx := h n hn
      show preSum val n + val n = _
      rw [ih (Nat.le_of_lt hn), List.take_add_one, hx]
      simp
  rw [g _ (Nat.le_refl _), List.take_length]
section
variable {prog : Program} {w : World} {A : Around} {E : Value → Shared → Prop} {s : Shared} {l : Addr} {its : List Value} {ns : List Int} {Q : Value → Shared → Prop}
theorem sumK_raw {k0 : Int} {tk0 : Tok} (hh : A.handled = none) (hl : s.heap.IsList l its.toArray) (hi : IntsAre its ns)
    (h : ∀ h' tk t', (∀ b o, s.heap.get? b = some o → h'.get? b = some o) → Q (.int (k0 + ns.sum) t') { s with heap := h', toks := tk }) : wpAny (model prog w) A (call (.builtin "sum") [.ref l] [(("start" : Str), .int k0 tk0)]) Q E s := by
  obtain ⟨xs, e⟩ := hi.allInts.items
  have hn : numsOf (intItems xs).toList = ns := by rw [← e]; exact hi.numsOf
  rw [nums_intItems] at hn
  rw [e] at hl
  refine k73_call_sum (iter_intList hl fun s₂ e2 st hfp hlI => ?_)
  subst e2
  refine ⟨_, _, _, _, _, _, numAt xs, rfl, Walks.list (A := A.in1) hh _ l hlI (intItems xs), st, hfp, (fun _ _ => intItems_at), fun h' tk t' hk => ?_⟩
  have q := h h' tk t' (old_kept hk)
  have hz : (intItems xs).size = ns.length := by
    rw [← hn]
    simp [intItems]
  rw [k73_off_eq, hz, k73_preSum (numAt xs) ns fun i hi' => ?_]
  · exact q
  · subst hn
    have hi2 : i < xs.size := by simpa using hi'
    simp [numAt, hi2]
theorem maxK_raw {d : Value} (hh : A.handled = none) (hl : s.heap.IsList l its.toArray) (hi : IntsAre its ns)
    (h0 : ns = [] → ∀ h' tk, (∀ b o, s.heap.get? b = some o → h'.get? b = some o) → Q d { s with heap := h', toks := tk })
    (h : ∀ h' tk M t', (∀ b o, s.heap.get? b = some o → h'.get? b = some o) → M ∈ ns → (∀ a, a ∈ ns → a ≤ M) → Q (.int M t') { s with heap := h', toks := tk }) : wpAny (model prog w) A (call (.builtin "max") [.ref l] [(("default" : Str), d)]) Q E s := by
  obtain ⟨xs, e⟩ := hi.allInts.items
  have hn : numsOf (intItems xs).toList = ns := by rw [← e]; exact hi.numsOf
  rw [nums_intItems] at hn
  subst hn
  rw [e] at hl
  refine k73_call_max (iter_intList hl fun s₂ e2 st hfp hlI => ?_)
  subst e2
  refine ⟨_, _, _, _, _, _, _, rfl, Walks.list (A := A.in1) hh _ l hlI (intItems xs), st, hfp, CmpOf.ints_gt (numAt xs) (fun _ _ => intItems_at), fun hz h' tk hk => ?_, fun hz v h' tk hP hk => ?_⟩
  · refine h0 ?_ h' tk (old_kept hk)
    have : xs.size = 0 := by simpa [intItems] using hz
    have e0 : xs = #[] := Array.eq_empty_of_size_eq_zero this
    subst e0
    rfl
  · have hsz : 0 < xs.size := by simpa [intItems] using hz
    have hv : (intItems xs)[argBest (fun i j => decide (numAt xs i > numAt xs j)) (xs.size - 1)]? = some v := by simpa [intItems] using hP
    obtain ⟨t, rfl⟩ := intItems_at hv
    obtain ⟨h1, h2⟩ := argBest_gt (numAt xs) (xs.size - 1)
    refine h h' tk _ t (old_kept hk) ?_ fun a ha => ?_
    · rw [numAt_eq]; exact PySem.getD_mem (by rw [List.length_map, Array.length_toList]; omega)
    · obtain ⟨j, hj, rfl⟩ := mem_getD ha
      rw [List.length_map, Array.length_toList] at hj
      rw [← numAt_eq]; exact h2 j (by omega)
end
section
variable {X : Cx}
def rSumK (K : PySem.W.Frag) : List V → List V → Hp → VK → Prop := fun vs zs H Q => ∃ (a : Addr) (ns : List Int) (k : Int), vs = [V.ref a] ∧ zs = [.int k] ∧ SqL K H a (ns.map V.int) ∧ Q (.int (k + ns.sum)) H
theorem cr_sumK (hc : X.calm = true) : CallRK X (.builtin "sum") ["start"] (rSumK X.K) := by
  intro pins s σ H vs zs us ws Q I r rz h
  obtain ⟨a, ns, k, rfl, rfl, hs, q⟩ := h
  obtain ⟨its, rv, hl, _⟩ := I.list hs
  rw [Vals.ref1 r]
  obtain ⟨w1, rfl, e1⟩ := vals1 rz
  obtain ⟨t, rfl⟩ := e1
  exact sumK_raw (I.ok.hd hc) hl.isList rv.ints fun h' tk t' hk => ⟨.int _, H, I.kept hk, ⟨_, rfl⟩, q⟩
def rMaxK (K : PySem.W.Frag) : List V → List V → Hp → VK → Prop := fun vs zs H Q => ∃ (a : Addr) (ns : List Int), vs = [V.ref a] ∧ zs = [.non] ∧ SqL K H a (ns.map V.int) ∧ (ns = [] → Q .non H) ∧ ∀ m, m ∈ ns → (∀ y, y ∈ ns → y ≤ m) → Q (.int m) H
theorem cr_maxK (hc : X.calm = true) : CallRK X (.builtin "max") ["default"] (rMaxK X.K) := by
  intro pins s σ H vs zs us ws Q I r rz h
  obtain ⟨a, ns, rfl, rfl, hs, q0, q⟩ := h
  obtain ⟨its, rv, hl, _⟩ := I.list hs
  rw [Vals.ref1 r]
  obtain ⟨w1, rfl, e1⟩ := vals1 rz
  obtain rfl : w1 = Value.none := e1
  exact maxK_raw (I.ok.hd hc) hl.isList rv.ints (fun h0 h' tk hk => ⟨.non, H, I.kept hk, rfl, q0 h0⟩) fun h' tk m t' hk h1 h2 => ⟨.int _, H, I.kept hk, ⟨_, rfl⟩, q m h1 h2⟩
end
end K73

set_option Elab.async false
set_option linter.all false
set_option maxRecDepth 100000
set_option maxHeartbeats 4000000
/-! ## zip(.., strict=True) of two lists of one length; zip(a tuple, a list) -/
namespace PySem
open Sem (wp)
abbrev K73IsZipS (h : Heap) (z TI TO : Addr) (f0 : Value) : Prop :=
  h.get? z = some { cls := .type "zip", dict := none, data := .fields #[f0, .bool false, .bool true, .ref TI, .ref TO], slots := #[] }
section
variable {prog : Program} {w : World} {A : Around} {E : Value → Shared → Prop} {s : Shared} {z TI TO i1 i2 : Addr} {fp1 fp2 : List Addr} {n1 n2 i : Nat} {P1 P2 : Nat → Value → Prop} {St1 St2 : Nat → Heap → Prop} {a1 a2 : Value}
theorem k73_zipS_next_item {Q : Value → Shared → Prop} (S : ZipSep2 z TI TO i1 i2 fp1 fp2) (D1 : Draws prog w A i1 fp1 n1 P1 St1) (D2 : Draws prog w A i2 fp2 n2 P2 St2)
    (hz : K73IsZipS s.heap z TI TO .none) (hTI : IsTupOf2 s.heap TI (.ref i1) (.ref i2)) (hTO : IsTupOf2 s.heap TO a1 a2) (st1 : St1 i s.heap) (st2 : St2 i s.heap) (hlt1 : i < n1) (hlt2 : i < n2)
    (hQ : ∀ x1 x2 h' tk, P1 i x1 → P2 i x2 → K73IsZipS h' z TI TO (rawInt s.heap.objs.size) → IsTupOf2 h' TO x1 x2 → St1 (i + 1) h' → St2 (i + 1) h' → IsTupOf2 h' s.heap.objs.size x1 x2 → h'.objs.size = s.heap.objs.size + 1 →
      (∀ c o, c ≠ z → c ≠ TO → c ≠ i1 → c ≠ i2 → s.heap.get? c = some o → h'.get? c = some o) → Q (.ref s.heap.objs.size) { s with heap := h', toks := tk }) :
    wpAny (model prog w) A (Builtin.«zip.__next__» ⟨[.ref z], []⟩) (fun fin s' => ∃ v, fin = .done (.ret v) ∧ Q v s') E s := by
  obtain ⟨hp, g, d, tk0, os⟩ := s
  show wpAny _ _ (field (.ref z) 2 >>= _) _ _ _
  refine wpAny_bind (wpAny_field hz rfl (x := .bool true) rfl ?_)
  show wpAny _ _ (field (.ref z) 3 >>= _) _ _ _
  refine wpAny_bind (wpAny_field hz rfl (x := .ref TI) rfl ?_)
  refine wpAny_bind (wpAny_seqItems hTI rfl ?_)
  show wpAny _ _ (Builtin.SmallTypes.ownedTupleIsFree (.ref z) >>= _) _ _ _
  refine wpAny_bind ?_
  unfold Builtin.SmallTypes.ownedTupleIsFree
  refine wpAny_bind (wpAny_field hz rfl (x := .none) rfl (wpAny_pure ?_))
  simp only [if_true]
  refine wpAny_bind (wpAny_rule ?_)
  refine wpAny_bind (wpAny_field hz rfl (x := .ref TO) rfl ?_)
  refine wpAny_bind (wpAny_setField_rec hz (by simp) fun g0 hz0 hs0 => ?_)
  replace hz0 : K73IsZipS g0 z TI TO .ellipsis := hz0
  replace hs0 : Heap.SameBut z hp g0 := hs0
  refine wpAny_bind ?_
  simp only [List.zipIdx_cons, List.zipIdx_nil, List.forIn_cons, List.forIn_nil]
  refine wpAny_bind (wpAny_bind (wpAny_onRaise ?_))
  show wpAny _ _ (Builtin.SmallTypes.nextOrEnd (.ref i1)) _ _ ⟨g0, g, d, tk0, os⟩
  unfold Builtin.SmallTypes.nextOrEnd
  refine wpAny_bind (wpAny_attempt (D1.item i _ _ _ hlt1 (D1.over st1 hs0 S.zf1) fun x1 p1 tk1 hx1 sn1 hp1 => wpAny_pure ?_))
  replace hp1 : Heap.SameBut i1 g0 p1 := hp1
  have hU1 : IsTupOf2 p1 TO a1 a2 := hp1.extBut _ _ S.Ti1 (hs0.extBut _ _ S.TOz hTO)
  refine wpAny_bind (wpAny_seqItems (s := ⟨p1, g, d, tk1, os⟩) hU1 rfl ?_)
  refine wpAny_bind (updateSeq_IsTupOf2 (s := ⟨p1, g, d, tk1, os⟩) hU1 fun g1 hT1 hs1 => ?_)
  replace hT1 : IsTupOf2 g1 TO x1 a2 := hT1
  replace hs1 : Heap.SameBut TO p1 g1 := hs1
  refine wpAny_bind (wpAny_letGo (wpAny_pure ?_))
  refine wpAny_bind (wpAny_bind (wpAny_onRaise ?_))
  show wpAny _ _ (Builtin.SmallTypes.nextOrEnd (.ref i2)) _ _ ⟨g1, g, d, tk1, os⟩
  unfold Builtin.SmallTypes.nextOrEnd
  refine wpAny_bind (wpAny_attempt (D2.item i _ _ _ hlt2 (D2.over (D2.over (D2.over st2 hs0 S.zf2) hp1 S.sep1_2) hs1 S.Tf2) fun x2 p2 tk2 hx2 sn2 hp2 => wpAny_pure ?_))
  replace hp2 : Heap.SameBut i2 g1 p2 := hp2
  have hU2 : IsTupOf2 p2 TO x1 a2 := hp2.extBut _ _ S.Ti2 hT1
  refine wpAny_bind (wpAny_seqItems (s := ⟨p2, g, d, tk2, os⟩) hU2 rfl ?_)
  refine wpAny_bind (updateSeq_IsTupOf2 (s := ⟨p2, g, d, tk2, os⟩) hU2 fun g2 hT2 hs2 => ?_)
  replace hT2 : IsTupOf2 g2 TO x1 x2 := hT2
  replace hs2 : Heap.SameBut TO p2 g2 := hs2
  refine wpAny_bind (wpAny_letGo (wpAny_pure (wpAny_pure ?_)))
  refine wpAny_bind (wpAny_seqItems (s := ⟨g2, g, d, tk2, os⟩) hT2 rfl ?_)
  refine wpAny_bind (wpAny_newTuple ?_)
  have hsz : g2.objs.size = hp.objs.size := by rw [hs2.1, hp2.1, hs1.1, hp1.1, hs0.1]
  have hzz : K73IsZipS g2 z TI TO .ellipsis := (hs2.extBut _ _ S.TOz.symm (hp2.extBut _ _ S.zi2 (hs1.extBut _ _ S.TOz.symm (hp1.extBut _ _ S.zi1 hz0))))
  have hkk : ∀ c o, c ≠ z → c ≠ TO → c ≠ i1 → c ≠ i2 → hp.get? c = some o → g2.get? c = some o := fun c o cz cT c1 c2 e =>
    (hs2.extBut _ _ cT (hp2.extBut _ _ c2 (hs1.extBut _ _ cT (hp1.extBut _ _ c1 (hs0.extBut _ _ cz e)))))
  have hj1 : St1 (i + 1) g2 := (D1.over (D1.over (D1.over sn1 hs1 S.Tf1) hp2 S.sep2_1) hs2 S.Tf1)
  have hj2 : St2 (i + 1) g2 := (D2.over sn2 hs2 S.Tf2)
  have hzlt : z < g2.objs.size := Heap.lt_size hzz
  show wpAny _ _ (Builtin.SmallTypes.ownedTupleHandOut (.ref z) (.ref g2.objs.size) >>= _) _ _ ⟨g2.push { cls := .type "tuple", data := .seq #[x1, x2] }, g, d, tk2, os⟩
  refine wpAny_bind ?_
  unfold Builtin.SmallTypes.ownedTupleHandOut
  have hz₆ : K73IsZipS (g2.push { cls := .type "tuple", data := .seq #[x1, x2] }) z TI TO .ellipsis := Heap.get?_push_of_some _ hzz
  refine wpAny_bind (wpAny_setField_rec hz₆ (by simp) fun h₇ hz₇ hs₇ => ?_)
  replace hz₇ : K73IsZipS h₇ z TI TO (rawInt g2.objs.size) := hz₇
  refine wpAny_setField_rec hz₇ (by simp) fun h₈ hz₈ hs₈ => ?_
  replace hz₈ : K73IsZipS h₈ z TI TO (rawInt g2.objs.size) := hz₈
  replace hs₇ : Heap.SameBut z (g2.push { cls := .type "tuple", data := .seq #[x1, x2] }) h₇ := hs₇
  replace hs₈ : Heap.SameBut z h₇ h₈ := hs₈
  have up : ∀ c o, c ≠ z → g2.get? c = some o → h₈.get? c = some o := fun c o c1 e => hs₈.extBut _ _ c1 (hs₇.extBut _ _ c1 (Heap.get?_push_of_some _ e))
  have hT₈ : IsTupOf2 h₈ g2.objs.size x1 x2 := hs₈.extBut _ _ (Nat.ne_of_gt hzlt) (hs₇.extBut _ _ (Nat.ne_of_gt hzlt) (Heap.get?_push_size _ rfl))
  have hz8 : h₈.objs.size = g2.objs.size + 1 := by rw [hs₈.1, hs₇.1, Heap.size_push]
  rw [hsz] at hz₈ hT₈ hz8
  refine wpAny_pure ⟨_, rfl, ?_⟩
  show Q (.ref g2.objs.size) ⟨h₈, g, d, tk2, os⟩
  rw [hsz]
  exact hQ x1 x2 h₈ tk2 hx1 hx2 hz₈ (up _ _ S.TOz hT2) (D1.frame _ _ _ hj1 fun b hb o e => up b o (fun q => S.zf1 (q ▸ hb)) e) (D2.frame _ _ _ hj2 fun b hb o e => up b o (fun q => S.zf2 (q ▸ hb)) e) hT₈ hz8 fun c o cz cT c1 c2 e => up c o cz (hkk c o cz cT c1 c2 e)

theorem k73_zipS_next_end {Q : Fin → Shared → Prop} (hh : A.handled = none) (S : ZipSep2 z TI TO i1 i2 fp1 fp2) (D1 : Draws prog w A i1 fp1 n1 P1 St1) (D2 : Draws prog w A i2 fp2 n2 P2 St2)
    (hz : K73IsZipS s.heap z TI TO .none) (hTI : IsTupOf2 s.heap TI (.ref i1) (.ref i2)) (hTO : IsTupOf2 s.heap TO a1 a2) (st1 : St1 n1 s.heap) (st2 : St2 n2 s.heap)
    (hE : ∀ h' e, (∀ c o, c ≠ z → c ≠ TO → c ≠ i1 → c ≠ i2 → s.heap.get? c = some o → h'.get? c = some o) → (∃ o, h'.get? e = some o ∧ o.cls = .type "StopIteration") → E (.ref e) { s with heap := h' }) :
    wpAny (model prog w) A (Builtin.«zip.__next__» ⟨[.ref z], []⟩) Q E s := by
  obtain ⟨hp, g, d, tk0, os⟩ := s
  show wpAny _ _ (field (.ref z) 2 >>= _) _ _ _
  refine wpAny_bind (wpAny_field hz rfl (x := .bool true) rfl ?_)
  show wpAny _ _ (field (.ref z) 3 >>= _) _ _ _
  refine wpAny_bind (wpAny_field hz rfl (x := .ref TI) rfl ?_)
  refine wpAny_bind (wpAny_seqItems hTI rfl ?_)
  show wpAny _ _ (Builtin.SmallTypes.ownedTupleIsFree (.ref z) >>= _) _ _ _
  refine wpAny_bind ?_
  unfold Builtin.SmallTypes.ownedTupleIsFree
  refine wpAny_bind (wpAny_field hz rfl (x := .none) rfl (wpAny_pure ?_))
  simp only [if_true]
  refine wpAny_bind (wpAny_rule ?_)
  refine wpAny_bind (wpAny_field hz rfl (x := .ref TO) rfl ?_)
  refine wpAny_bind (wpAny_setField_rec hz (by simp) fun g0 hz0 hs0 => ?_)
  replace hz0 : K73IsZipS g0 z TI TO .ellipsis := hz0
  replace hs0 : Heap.SameBut z hp g0 := hs0
  refine wpAny_bind ?_
  simp only [List.zipIdx_cons, List.zipIdx_nil, List.forIn_cons, List.forIn_nil]
  refine wpAny_bind (wpAny_bind (wpAny_onRaise ?_))
  show wpAny _ _ (Builtin.SmallTypes.nextOrEnd (.ref i1)) _ _ ⟨g0, g, d, tk0, os⟩
  unfold Builtin.SmallTypes.nextOrEnd
  refine wpAny_bind (wpAny_attempt (D1.done ⟨g0, g, d, tk0, os⟩ _ _ (D1.over st1 hs0 S.zf1) fun q e hq he => ?_))
  replace hq : Heap.ExtBut i1 g0 q := hq
  obtain ⟨oe, hoe, hce⟩ := he
  replace hoe : q.get? e = some oe := hoe
  refine wpAny_bind (wpAny_isInstance (T := "StopIteration") (b := true) ⟨oe, hoe, hce⟩ isSubtype_stop ?_)
  simp only [if_true]
  refine wpAny_pure ?_
  have hzq : K73IsZipS q z TI TO .ellipsis := hq _ _ S.zi1 hz0
  refine wpAny_bind (wpAny_setField_rec (s := ⟨q, g, d, tk0, os⟩) hzq (by simp) fun q' _ hq' => ?_)
  replace hq' : Heap.SameBut z q q' := hq'
  have k1 : ∀ c o, c ≠ z → c ≠ i1 → hp.get? c = some o → q'.get? c = some o := fun c o cz c1 x => hq'.extBut _ _ cz (hq _ _ c1 (hs0.extBut _ _ cz x))
  have hi12 : i2 ≠ i1 := fun e => S.sep2_1 (e ▸ S.mem1)
  have st2' : St2 n2 q' := D2.frame _ _ _ st2 fun b hb o x => k1 b o (fun y => S.zf2 (y ▸ hb)) (fun y => S.sep1_2 (y ▸ hb)) x
  refine wpAny_bind ?_
  show wpAny _ _ (Bind.bind (forIn [((Value.ref i2 : Value), (1 : Nat))] PUnit.unit _) _) _ _ _
  simp only [List.forIn_cons, List.forIn_nil]
  refine wpAny_bind (wpAny_bind (wpAny_bind ?_))
  show wpAny _ _ (Builtin.SmallTypes.nextOrEnd (.ref i2)) _ _ ⟨q', g, d, tk0, os⟩
  unfold Builtin.SmallTypes.nextOrEnd
  refine wpAny_bind (wpAny_attempt (D2.done ⟨q', g, d, tk0, os⟩ _ _ st2' fun r e2 hr he2 => ?_))
  replace hr : Heap.ExtBut i2 q' r := hr
  obtain ⟨oe2, hoe2, hce2⟩ := he2
  replace hoe2 : r.get? e2 = some oe2 := hoe2
  refine wpAny_bind (wpAny_isInstance (T := "StopIteration") (b := true) ⟨oe2, hoe2, hce2⟩ isSubtype_stop ?_)
  simp only [if_true]
  refine wpAny_pure ?_
  simp only [Option.isSome_none, Bool.false_eq_true, if_false]
  refine wpAny_pure (wpAny_pure ?_)
  refine wpAny_bind (wpAny_rule ?_)
  show wpAny _ _ (newExc (.type "StopIteration") [] >>= _) _ _ _
  refine wpAny_bind ?_
  simp only [newExc, newTuple]
  refine wpAny_bind (wpAny_newObj_type ?_ (by size_fits))
  refine wpAny_bind (m := firstArgMember _ _) (wpAny_of_eq (a := Value.none) (by first | rfl | (simp only [firstArgMember]; rfl)) ?_)
  refine wpAny_newObj_type ?_ (by size_fits)
  simp only [raiseNew]
  refine wpAny_bind (wpAny_handled ?_)
  rw [hh]
  refine wpAny_bind (wpAny_pure (wpAny_throw ?_))
  exact hE _ _ (fun c o cz _ c1 c2 x => Heap.get?_push_of_some _ (Heap.get?_push_of_some _ (hr _ _ c2 (k1 c o cz c1 x)))) ⟨_, Heap.get?_push_size _ rfl, rfl⟩
theorem k73_letGo_zipS {elts : List Expr} {x1} {pos : Pos} {T : Addr} {Q : Unit → Shared → Prop} (hz : K73IsZipS s.heap z TI TO (rawInt T))
    (hQ : ∀ h', K73IsZipS h' z TI TO .none → Heap.SameBut z s.heap h' → Q () { s with heap := h' }) :
    wpAny (model prog w) A (letOwnedTupleGo (.Tuple elts x1 pos) (.ref z) (.ref T)) Q E s := by
  unfold letOwnedTupleGo
  refine wpAny_bind (wpAny_load hz ?_)
  show wpAny _ _ (if (["enumerate", "zip", "dict_itemiterator", "dict_reverseitemiterator", "odict_iterator", "itertools.zip_longest", "itertools.pairwise"].contains "zip" &&
      (#[rawInt T, .bool false, .bool true, .ref TI, .ref TO] : Array Value)[0]? == some (rawInt T)) = true then _ else _) Q E s
  rw [if_pos (by simp)]
  refine wpAny_bind (wpAny_rule ?_)
  show wpAny _ _ (setField (.ref z) 0 .none) Q E s
  exact wpAny_setField_rec hz (by simp) fun h' hz' hs' => hQ h' hz' hs'
theorem k73_pyIter_zipS {f0 : Value} {Q : Value → Shared → Prop} (hz : K73IsZipS s.heap z TI TO f0) (h : Q (.ref z) s) : wpAny (model prog w) A (pyIter (.ref z)) Q E s := by
  have hT : s.TypeIs (.ref z) "zip" := ⟨_, hz, rfl⟩
  refine wpAny_pyIter_slot hT F.slot_zip_iter (wpAny_call_entry F.slot_zip_iter hT F.entry_zip_iter ?_ (F.args_zip_iter_1 _))
  show wpAny _ _ (ret (.ref z)) _ _ s
  exact wpAny_pure ⟨_, rfl, "zip", _, hT, F.slot_zip_next.lookup, h⟩
theorem k73_pyNext_zipS_item {Q : Option Value → Shared → Prop} (S : ZipSep2 z TI TO i1 i2 fp1 fp2) (D1 : Draws prog w A.in1 i1 fp1 n1 P1 St1) (D2 : Draws prog w A.in1 i2 fp2 n2 P2 St2)
    (hz : K73IsZipS s.heap z TI TO .none) (hTI : IsTupOf2 s.heap TI (.ref i1) (.ref i2)) (hTO : IsTupOf2 s.heap TO a1 a2) (st1 : St1 i s.heap) (st2 : St2 i s.heap) (hlt1 : i < n1) (hlt2 : i < n2)
    (hQ : ∀ x1 x2 h' tk, P1 i x1 → P2 i x2 → K73IsZipS h' z TI TO (rawInt s.heap.objs.size) → IsTupOf2 h' TO x1 x2 → St1 (i + 1) h' → St2 (i + 1) h' → IsTupOf2 h' s.heap.objs.size x1 x2 → h'.objs.size = s.heap.objs.size + 1 →
      (∀ c o, c ≠ z → c ≠ TO → c ≠ i1 → c ≠ i2 → s.heap.get? c = some o → h'.get? c = some o) → Q (some (.ref s.heap.objs.size)) { s with heap := h', toks := tk }) :
    wpAny (model prog w) A (pyNext (.ref z)) Q E s := by
  have hT : s.TypeIs (.ref z) "zip" := ⟨_, hz, rfl⟩
  unfold pyNext
  exact wpAny_bind (wpAny_attempt (wpAny_callSpecial?_slot (name := Str.ofString "__next__") hT F.slot_zip_next
    (wpAny_call_entry F.slot_zip_next hT F.entry_zip_next
      (k73_zipS_next_item S D1 D2 hz hTI hTO st1 st2 hlt1 hlt2 fun x1 x2 h' tk y1 y2 b1 b2 d1 d2 b5 b6 b7 => wpAny_pure (hQ x1 x2 h' tk y1 y2 b1 b2 d1 d2 b5 b6 b7)) (F.args_zip_next_1 _))))
theorem k73_pyNext_zipS_end {Q : Option Value → Shared → Prop} (hh : A.handled = none) (S : ZipSep2 z TI TO i1 i2 fp1 fp2) (D1 : Draws prog w A.in1 i1 fp1 n1 P1 St1) (D2 : Draws prog w A.in1 i2 fp2 n2 P2 St2)
    (hz : K73IsZipS s.heap z TI TO .none) (hTI : IsTupOf2 s.heap TI (.ref i1) (.ref i2)) (hTO : IsTupOf2 s.heap TO a1 a2) (st1 : St1 n1 s.heap) (st2 : St2 n2 s.heap)
    (hQ : ∀ h', (∀ c o, c ≠ z → c ≠ TO → c ≠ i1 → c ≠ i2 → s.heap.get? c = some o → h'.get? c = some o) → Q none { s with heap := h' }) : wpAny (model prog w) A (pyNext (.ref z)) Q E s := by
  have hT : s.TypeIs (.ref z) "zip" := ⟨_, hz, rfl⟩
  unfold pyNext
  refine wpAny_bind (wpAny_attempt (wpAny_callSpecial?_slot (name := Str.ofString "__next__") hT F.slot_zip_next
    (wpAny_call_entry F.slot_zip_next hT F.entry_zip_next (k73_zipS_next_end (A := A.in1) hh S D1 D2 hz hTI hTO st1 st2 fun h' e hk he => ?_) (F.args_zip_next_1 _))))
  obtain ⟨o, ho, hc⟩ := he
  refine wpAny_bind (wpAny_isInstance (T := "StopIteration") (b := true) ⟨o, ho, hc⟩ isSubtype_stop ?_)
  exact wpAny_pure (hQ _ hk)
end
namespace F
theorem k73_typeCall_zip (a b c : Value) : checkTypeCall "zip" ⟨[a, b], [(("strict" : Str), c)]⟩ = pure () := by kernel_rfl
theorem k73_newCall_zip (a b c : Value) : checkBuiltinCall "zip.__new__" ⟨[.type "zip", a, b], [(("strict" : Str), c)]⟩ = pure () := by kernel_rfl
theorem k73_init_zip (obj a b c : Value) : argsOk "object.__init__" ⟨[obj, a, b], [(("strict" : Str), c)]⟩ := by unfold argsOk; kernel_rfl
end F
abbrev k73gzZ2 (h : Heap) (o1 o2 : Obj) : Heap := (gzO2 h o1 o2).push { cls := .type "zip", data := .fields #[.none, .bool false, .bool true, .ref ((h.push o1).push o2).objs.size, .ref (gzT2 h o1 o2).objs.size] }
theorem k73_zip_new {v1 v2 : Value} {o1 o2 : Obj} {H1 H2 : Heap → Prop} (B1 : Begins v1 o1 H1) (B2 : Begins v2 o2 H2) :
    Meets (Builtin.«zip.__new__» ⟨[.type "zip", v1, v2], [(("strict" : Str), .bool true)]⟩) (fun _ R s => (H1 s.heap ∧ H2 s.heap) ∧
      R (.ok (.ret (.ref (gzO2 s.heap o1 o2).objs.size))) { s with heap := k73gzZ2 s.heap o1 o2 }) :=
  .of_wp fun prog w A R s h => by
    obtain ⟨hp, g, d, tk, os⟩ := s
    obtain ⟨⟨h1, h2⟩, h⟩ := h
    have hsub := sub_zip
    have q1 : ∀ {A' : Around} {E : Value → Shared → Prop} {Q : Value → Shared → Prop}, Q (.ref hp.objs.size) ⟨(hp.push o1), g, d, tk, os⟩ → wpAny (model prog w) A' (pyIter v1) Q E ⟨hp, g, d, tk, os⟩ :=
      fun q => B1.iter prog w _ _ ⟨hp, g, d, tk, os⟩ _ (B1.keeps _ _ h1 fun b o' e => e) q
    have q2 : ∀ {A' : Around} {E : Value → Shared → Prop} {Q : Value → Shared → Prop}, Q (.ref (hp.push o1).objs.size) ⟨((hp.push o1).push o2), g, d, tk, os⟩ → wpAny (model prog w) A' (pyIter v2) Q E ⟨(hp.push o1), g, d, tk, os⟩ :=
      fun q => B2.iter prog w _ _ ⟨(hp.push o1), g, d, tk, os⟩ _ (B2.keeps _ _ h2 fun b o' e => (Heap.get?_push_of_some _ e)) q
    have e1 : (("strict" : Str) != ("strict" : Str)) = false := by decide +kernel
    wp_walk using q1, q2
    exact ⟨_, rfl, h⟩
section
variable {prog : Program} {w : World} {A : Around} {E : Value → Shared → Prop} {s : Shared}
theorem k73_call_zipS {v1 v2 : Value} {o1 o2 : Obj} {H1 H2 : Heap → Prop} {Q : Value → Shared → Prop} (B1 : Begins v1 o1 H1) (B2 : Begins v2 o2 H2) (h1 : H1 s.heap) (h2 : H2 s.heap)
    (h : ∀ h', K73IsZipS h' (s.heap.objs.size + 4) (s.heap.objs.size + 2) (s.heap.objs.size + 3) .none → IsTupOf2 h' (s.heap.objs.size + 2) (.ref s.heap.objs.size) (.ref (s.heap.objs.size + 1)) →
      IsTupOf2 h' (s.heap.objs.size + 3) .none .none → h'.get? s.heap.objs.size = some o1 → h'.get? (s.heap.objs.size + 1) = some o2 → h'.objs.size = s.heap.objs.size + 5 →
      (∀ c o, s.heap.get? c = some o → h'.get? c = some o) → Q (.ref (s.heap.objs.size + 4)) { s with heap := h' }) :
    wpAny (model prog w) A (call (.type "zip") [v1, v2] [(("strict" : Str), .bool true)]) Q E s := by
  refine callType_newKw F.called_zip (by decide) (F.k73_typeCall_zip _ _ _) (F.k73_newCall_zip _ _ _) (fun obj => F.k73_init_zip obj _ _ _) F.entry_zip_new
    (k73_zip_new B1 B2) ⟨⟨h1, h2⟩, ?_⟩
  have z1 : (s.heap.push o1).objs.size = s.heap.objs.size + 1 := by rw [Heap.size_push]
  have z2 : ((s.heap.push o1).push o2).objs.size = s.heap.objs.size + 2 := by rw [Heap.size_push, z1]
  have zT : (gzT2 s.heap o1 o2).objs.size = s.heap.objs.size + 3 := by rw [Heap.size_push, z2]
  have zO : (gzO2 s.heap o1 o2).objs.size = s.heap.objs.size + 4 := by rw [Heap.size_push, zT]
  have zZ : (k73gzZ2 s.heap o1 o2).objs.size = s.heap.objs.size + 5 := by rw [Heap.size_push, zO]
  have gZ : (k73gzZ2 s.heap o1 o2).get? (gzO2 s.heap o1 o2).objs.size = some { cls := .type "zip", data := .fields #[.none, .bool false, .bool true, .ref ((s.heap.push o1).push o2).objs.size, .ref (gzT2 s.heap o1 o2).objs.size] } := Heap.get?_push_size _ rfl
  have gO : (k73gzZ2 s.heap o1 o2).get? (gzT2 s.heap o1 o2).objs.size = some { cls := .type "tuple", data := .seq #[.none, .none] } := Heap.get?_push_of_some _ (Heap.get?_push_size _ rfl)
  have gT : (k73gzZ2 s.heap o1 o2).get? ((s.heap.push o1).push o2).objs.size = some { cls := .type "tuple", data := .seq #[.ref s.heap.objs.size, .ref (s.heap.push o1).objs.size] } := Heap.get?_push_of_some _ (Heap.get?_push_of_some _ (Heap.get?_push_size _ rfl))
  have g1 : (k73gzZ2 s.heap o1 o2).get? s.heap.objs.size = some o1 := Heap.get?_push_of_some _ (Heap.get?_push_of_some _ (Heap.get?_push_of_some _ (Heap.get?_push_of_some _ (Heap.get?_push_size _ B1.free))))
  have g2 : (k73gzZ2 s.heap o1 o2).get? (s.heap.push o1).objs.size = some o2 := Heap.get?_push_of_some _ (Heap.get?_push_of_some _ (Heap.get?_push_of_some _ (Heap.get?_push_size _ B2.free)))
  rw [zO, zT, z2] at gZ
  rw [zT] at gO
  rw [z2, z1] at gT
  rw [z1] at g2
  show _ ∧ _
  rw [zO]
  exact ⟨⟨_, gZ, rfl⟩, h _ gZ gT gO g1 g2 zZ fun c o e => Heap.get?_push_of_some _ (Heap.get?_push_of_some _ (Heap.get?_push_of_some _ (Heap.get?_push_of_some _ (Heap.get?_push_of_some _ e))))⟩
/-- a built-in class called with keywords -/
theorem k73_callWith_typeKw {M : Model} {pos : Pos} {T : String} {args : List (Bool × Sem Value)} {keywords : List (Option Str × Sem Value)} {Q : Value → Shared → Prop}
    (hplain : args.any (·.1) = false) (hkw : keywords.any (·.1.isNone) = false)
    (h : wpAny M A (evalArgs (.type T) true args keywords) (fun a s₁ => wpAny M A (call (.type T) ([] ++ a.pos) a.kw) Q E s₁) E s) :
    wpAny M A (callWith pos (.type T) [] args keywords) Q E s := by
  unfold callWith
  refine wpAny_bind (wpAny_holding (wpAny_mono h (fun a s₁ h₁ => wpAny_bind (wpAny_standAt ?_)) fun _ _ x => x))
  simp only [hplain, hkw, Bool.or_false]
  refine wpAny_bind (wpAny_pure ?_)
  exact wpAny_bind (wpAny_mono h₁ (fun r s₂ hr => wpAny_bind (wpAny_holding (wpAny_point (wpAny_pure hr)))) fun _ _ x => x)
end
end PySem
namespace K73
open PySem PySem.Spec PyProof.Rows L2
theorem k73_sep {z TI TO i1 i2 a b : Addr} (D : ZipApart z TI TO i1 i2 a b) : ZipSep2 z TI TO i1 i2 [i1, a] [i2, b] where
  TIz := D.TIz
  TOz := D.TOz
  TITO := D.TITO
  TIi1 := D.TIi1
  mem1 := by simp
  zf1 := by simp [D.i1z.symm, D.l1z.symm]
  Tf1 := by simp [D.TOi1, D.l1TO.symm]
  TIi2 := D.TIi2
  mem2 := by simp
  zf2 := by simp [D.i2z.symm, D.l2z.symm]
  Tf2 := by simp [D.TOi2, D.l2TO.symm]
  sep1_2 := by simp [D.i12, D.l2i1.symm]
  sep2_1 := by simp [D.i12.symm, D.l1i2.symm]

/-- the list at a and the list at b, the items in new pairs -/
def ItzS (K : PySem.W.Frag) (a b : Addr) : It :=
  ⟨fun i H => ∃ (xs ys : List V) (x y : V), SqL K H a xs ∧ SqL K H b ys ∧ xs[i]? = some x ∧ ys[i]? = some y,
    fun i H v H' => ∃ T x y, v = .ref T ∧ H T = none ∧ H' = upd H T (.tup [x, y]) ∧ (∀ xs, SqL K H a xs → xs[i]? = some x) ∧ ∀ ys, SqL K H b ys → ys[i]? = some y,
    fun i H => ∃ xs ys : List V, SqL K H a xs ∧ SqL K H b ys ∧ xs.length = i ∧ ys.length = i⟩
theorem turn_zipS {P : Program} {w : World} {K : PySem.W.Frag} {elts : List Expr} {kk : Nat} {tpos : Pos} {a b z TI TO i1 i2 : Addr} (D : ZipApart z TI TO i1 i2 a b) :
    Turn P w K (.Tuple elts kk tpos) (ItzS K a b) [z, TI, TO, i1, i2] z (fun i h => K73IsZipS h z TI TO .none ∧ IsPair h TI (.ref i1) (.ref i2) ∧ (∃ x y, IsPair h TO x y) ∧ h.IsListIter i1 a i ∧ h.IsListIter i2 b i) where
  mem := by simp
  obj := fun i h st c hc => by
    obtain ⟨hz, hTI, ⟨x, y, hTO⟩, ⟨o1, e1, _, d1⟩, ⟨o2, e2, _, d2⟩⟩ := st
    have e' : c = z ∨ c = TI ∨ c = TO ∨ c = i1 ∨ c = i2 := by simpa using hc
    rcases e' with q | q | q | q | q
    · rw [q]; exact ⟨_, hz, fun v q => nomatch q⟩
    · rw [q]; exact ⟨_, hTI, fun v q => nomatch q⟩
    · rw [q]; exact ⟨_, hTO, fun v q => nomatch q⟩
    · rw [q]; exact ⟨o1, e1, fun v q => by rw [d1] at q; cases q⟩
    · rw [q]; exact ⟨o2, e2, fun v q => by rw [d2] at q; cases q⟩
  keep := fun i h h' st k => by
    obtain ⟨hz, hTI, ⟨x, y, hTO⟩, h1, h2⟩ := st
    exact ⟨k z (by simp) _ hz, k TI (by simp) _ hTI, ⟨x, y, k TO (by simp) _ hTO⟩, h1.at fun o q => k i1 (by simp) o q, h2.at fun o q => k i2 (by simp) o q⟩
  item := by
    intro X hP hw hK hc i pins s σ H E I hf st hg
    subst hP hw hK
    obtain ⟨hz, hTI, ⟨x0, y0, hTO⟩, h1, h2⟩ := st
    obtain ⟨xs, ys, x, y, hqx, hqy, hx, hy⟩ := hg
    obtain ⟨its, rv, p1, _⟩ := I.list hqx
    obtain ⟨its2, rv2, p2, _⟩ := I.list hqy
    obtain ⟨u, hu, ru⟩ := rv.get hx
    obtain ⟨u2, hu2, ru2⟩ := rv2.get hy
    have hzl : z < s.heap.objs.size := Heap.lt_size hz
    have hi1 : i < its.toArray.size := by
      have := (List.getElem?_eq_some_iff.mp hu).1
      simpa using this
    have hi2 : i < its2.toArray.size := by
      have := (List.getElem?_eq_some_iff.mp hu2).1
      simpa using this
    refine k73_pyNext_zipS_item (k73_sep D) (Draws.list (A := X.A.in1) (show X.A.in1.handled = none from I.ok.hd hc) i1 a D.l1i1 its.toArray) (Draws.list (A := X.A.in1) (show X.A.in1.handled = none from I.ok.hd hc) i2 b D.l2i2 its2.toArray) hz hTI hTO ⟨h1, (show s.heap.IsList a its.toArray from p1.isList)⟩ ⟨h2, (show s.heap.IsList b its2.toArray from p2.isList)⟩ hi1 hi2 fun v1 v2 h' tk w1 w2 z' TO' st1' st2' hT hsz hk => ?_
    have e1 : v1 = u := by
      have q : its.toArray[i]? = some v1 := w1
      rw [List.getElem?_toArray, hu] at q
      exact (Option.some.inj q).symm
    have e2 : v2 = u2 := by
      have q : its2.toArray[i]? = some v2 := w2
      rw [List.getElem?_toArray, hu2] at q
      exact (Option.some.inj q).symm
    subst e1
    subst e2
    refine ⟨_, rfl, k73_letGo_zipS (s := { s with heap := h', toks := tk }) z' fun h'' z'' sb => ?_⟩
    have hT2 : h''.get? s.heap.objs.size = some { cls := .type "tuple", data := .seq #[v1, v2] } := (sb.2 _ (Nat.ne_of_gt hzl)).trans hT
    have new : ObjOk X.prog X.w (upd H s.heap.objs.size (.tup [x, y])) h'' s.heap.objs.size (.tup [x, y]) :=
      ⟨by show 2 ≤ sizeLine; decide, [v1, v2], .cons ru (.cons ru2 .nil), ⟨_, hT2, rfl, _, rfl⟩⟩
    have I1 : Inv X pins σ (upd H s.heap.objs.size (.tup [x, y])) { s with heap := h'', toks := tk } :=
      I.turnedNew (t' := tk) (ch := [z, TI, TO, i1, i2]) (fun c o hb q => (sb.2 c (fun q' => hb (by simp [q']))).trans (hk c o (fun q' => hb (by simp [q'])) (fun q' => hb (by simp [q'])) (fun q' => hb (by simp [q'])) (fun q' => hb (by simp [q'])) q)) hf (Nat.le_refl _) new
    refine ⟨.ref s.heap.objs.size, _, I1, rfl, ⟨_, x, y, rfl, I.hok.fresh (Nat.le_refl _), rfl, fun l hl => by rw [I.list_inj hl hqx]; exact hx, fun l hl => by rw [I.list_inj hl hqy]; exact hy⟩, ⟨z'', ?_, ⟨v1, v2, ?_⟩, ?_, ?_⟩, fun c hcm => ?_⟩
    · exact (sb.2 _ D.TIz).trans (hk _ _ D.TIz D.TITO D.TIi1 D.TIi2 hTI)
    · exact (sb.2 _ D.TOz).trans TO'
    · exact st1'.1.at fun o q => (sb.2 _ D.i1z).trans q
    · exact st2'.1.at fun o q => (sb.2 _ D.i2z).trans q
    · have hlt : c < s.heap.objs.size := by
        have e' : c = z ∨ c = TI ∨ c = TO ∨ c = i1 ∨ c = i2 := by simpa using hcm
        rcases e' with q | q | q | q | q
        · rw [q]; exact hzl
        · rw [q]; exact Heap.lt_size hTI
        · rw [q]; exact Heap.lt_size hTO
        · rw [q]; obtain ⟨_, e1, _⟩ := h1; exact Heap.lt_size e1
        · rw [q]; obtain ⟨_, e2, _⟩ := h2; exact Heap.lt_size e2
      rw [upd_ne (Nat.ne_of_lt hlt)]
      exact (hf c hcm).1
  done := by
    intro X hP hw hK hc i pins s σ H E I hf st hg
    subst hP hw hK
    obtain ⟨hz, hTI, ⟨x0, y0, hTO⟩, h1, h2⟩ := st
    obtain ⟨xs, ys, hqx, hqy, e1, e2⟩ := hg
    obtain ⟨its, rv, p1, _⟩ := I.list hqx
    obtain ⟨its2, rv2, p2, _⟩ := I.list hqy
    have l1 : its.toArray.size = i := by
      have := rv.length
      simp
      omega
    have l2 : its2.toArray.size = i := by
      have := rv2.length
      simp
      omega
    exact k73_pyNext_zipS_end (I.ok.hd hc) (k73_sep D) (Draws.list (A := X.A.in1) (show X.A.in1.handled = none from I.ok.hd hc) i1 a D.l1i1 its.toArray) (Draws.list (A := X.A.in1) (show X.A.in1.handled = none from I.ok.hd hc) i2 b D.l2i2 its2.toArray) hz hTI hTO ⟨by rw [l1]; exact h1, (show s.heap.IsList a its.toArray from p1.isList)⟩ ⟨by rw [l2]; exact h2, (show s.heap.IsList b its2.toArray from p2.isList)⟩ fun h' hk => ⟨rfl, I.turnedL (t' := s.toks) (ch := [z, TI, TO, i1, i2]) (fun c o hb q =>
      hk c o (fun q' => hb (by simp [q'])) (fun q' => hb (by simp [q'])) (fun q' => hb (by simp [q'])) (fun q' => hb (by simp [q'])) q) hf⟩
  self := fun A i s Q E st h => k73_pyIter_zipS st.1 h
theorem walk_zipS {K : PySem.W.Frag} {a b : Addr} {xs ys : List V} (hn : xs.length = ys.length) : Walk (ItzS K a b) xs.length (fun H => SqL K H a xs ∧ SqL K H b ys) (YPair (fun i => xs[i]?) (fun i => ys[i]?)) := by
  refine ⟨fun i _ hi q => ?_, fun _ q => ⟨xs, ys, q.1, q.2, rfl, hn.symm⟩, fun i H v H' _ q y => ?_⟩
  · have h2 : i < ys.length := by omega
    exact ⟨xs, ys, xs[i], ys[i], q.1, q.2, by simp [hi], by simp [h2]⟩
  · obtain ⟨T, x, z, h1, h2, h3, h4, h5⟩ := y
    exact ⟨T, x, z, h1, h2, h3, h4 xs q.1, h5 ys q.2⟩
def iZipS (K : PySem.W.Frag) (ta : TA) (tk : TA) : TI := fun σ H R => ta σ H fun vs H1 => tk σ H1 fun zs H1 => zs = [.bl true] ∧ ∃ a b xs ys, vs = [.ref a, .ref b] ∧ SqL K H1 a xs ∧ SqL K H1 b ys ∧ R (ItzS K a b) H1
theorem pi_zipS {X : Cx} {e e2 : Expr} {kws : List Keyword} {ta tk : TA} {p pos tpos : Pos} {elts : List Expr} {kk : Nat} (hg : Gl X "zip") (hm : X.mg "zip" = none) (ha : PA X [e, e2] ta) (hk : PK X kws tk)
    (hs : backTo pos (starEach [e, e2] X.env) = (false, eval e X.env) :: backTo pos (starEach [e2] X.env) := by rfl) (hpl : (backTo pos (starEach [e, e2] X.env)).any (·.1) = false := by rfl)
    (hall : (backToKw pos (keywordEach kws X.env)).all (·.1.isSome) = true := by rfl) (hnone : (backToKw pos (keywordEach kws X.env)).any (·.1.isNone) = false := by rfl) (hks : (backToKw pos (keywordEach kws X.env)).filterMap (·.1) = [("strict" : Str)] := by rfl) :
    PI X (.Tuple elts kk tpos) (.Call (.Name "zip" p) [e, e2] kws pos) (iZipS X.K ta tk) := by
  refine ⟨fun pins s σ H R I h => ?_⟩
  refine wpAny_Call_Name_kw (ld_blt I hg hm PyProof.Rows.boot_zip ?_)
  refine k73_callWith_typeKw hpl hnone ?_
  have hA := ha.run pos pins s σ H _ I h
  rw [hs] at hA ⊢
  refine PyProof.Rows.evalArgs_kwB hall (thn hA fun us s0 ⟨vs, H0, I0, r0, q0⟩ => thn (hk.run pos pins s0 σ H0 _ I0 q0) fun ws s1 ⟨zs, H1, I1, rz, q1⟩ => ?_)
  rw [hks]
  obtain ⟨ez, a, b, xs, ys, ex, hqx, hqy, q⟩ := q1
  subst ez ex
  obtain ⟨w1, rfl, e1⟩ := vals1 rz
  obtain rfl : w1 = Value.bool true := e1
  cases r0 with
  | cons r rr =>
    cases rr with
    | cons r' rr =>
      cases rr
      cases r
      cases r'
      have fresh5 : ∀ c, c ∈ [s1.heap.objs.size + 4, s1.heap.objs.size + 2, s1.heap.objs.size + 3, s1.heap.objs.size, s1.heap.objs.size + 1] → FpOk X pins H1 c := fun c hcm => by
        have e' : c = s1.heap.objs.size + 4 ∨ c = s1.heap.objs.size + 2 ∨ c = s1.heap.objs.size + 3 ∨ c = s1.heap.objs.size ∨ c = s1.heap.objs.size + 1 := by simpa using hcm
        have hle : s1.heap.objs.size ≤ c := by
          rcases e' with z | z | z | z | z
          · rw [z]; exact Nat.le_add_right _ _
          · rw [z]; exact Nat.le_add_right _ _
          · rw [z]; exact Nat.le_add_right _ _
          · rw [z]; exact Nat.le_refl _
          · rw [z]; exact Nat.le_add_right _ _
        exact I1.fpOk hle (I1.hok.fresh hle)
      obtain ⟨its, rv, p1, _⟩ := I1.list hqx
      obtain ⟨its2, rv2, p2, _⟩ := I1.list hqy
      refine k73_call_zipS (begins_list a its.toArray) (begins_list b its2.toArray) (show s1.heap.IsList a its.toArray from p1.isList) (show s1.heap.IsList b its2.toArray from p2.isList) fun h' hz hTI hTO h1 h2 hsz hk => k73_pyIter_zipS hz ?_
      have I2 : Inv X pins σ H1 { s1 with heap := h' } := I1.kept (t' := s1.toks) hk
      exact ⟨s1.heap.objs.size + 4, [s1.heap.objs.size + 4, s1.heap.objs.size + 2, s1.heap.objs.size + 3, s1.heap.objs.size, s1.heap.objs.size + 1], _, _, H1, rfl, I2, turn_zipS (PySem.W.ktu_apart s1.heap.objs.size a b p1.lt p2.lt), ⟨hz, hTI, ⟨_, _, hTO⟩, ⟨_, h1, rfl, rfl⟩, ⟨_, h2, rfl, rfl⟩⟩, fresh5, q⟩
/-- the tuple at a and the list at b, the items in new pairs -/
def ItzM (K : PySem.W.Frag) (a b : Addr) : It :=
  ⟨fun i H => ∃ (xs ys : List V) (x y : V), SqT K H a xs ∧ SqL K H b ys ∧ xs[i]? = some x ∧ ys[i]? = some y,
    fun i H v H' => ∃ T x y, v = .ref T ∧ H T = none ∧ H' = upd H T (.tup [x, y]) ∧ (∀ xs, SqT K H a xs → xs[i]? = some x) ∧ ∀ ys, SqL K H b ys → ys[i]? = some y,
    fun i H => ∃ xs ys : List V, SqT K H a xs ∧ SqL K H b ys ∧ xs.length = i ∧ ys.length = i⟩
theorem turn_zipM {P : Program} {w : World} {K : PySem.W.Frag} {elts : List Expr} {kk : Nat} {tpos : Pos} {a b z TI TO i1 i2 : Addr} (D : ZipApart z TI TO i1 i2 a b) :
    Turn P w K (.Tuple elts kk tpos) (ItzM K a b) [z, TI, TO, i1, i2] z (fun i h => IsZip h z TI TO .none ∧ IsPair h TI (.ref i1) (.ref i2) ∧ (∃ x y, IsPair h TO x y) ∧ h.IsTupleIter i1 a i ∧ h.IsListIter i2 b i) where
  mem := by simp
  obj := fun i h st c hc => by
    obtain ⟨hz, hTI, ⟨x, y, hTO⟩, ⟨o1, e1, _, d1⟩, ⟨o2, e2, _, d2⟩⟩ := st
    have e' : c = z ∨ c = TI ∨ c = TO ∨ c = i1 ∨ c = i2 := by simpa using hc
    rcases e' with q | q | q | q | q
    · rw [q]; exact ⟨_, hz, fun v q => nomatch q⟩
    · rw [q]; exact ⟨_, hTI, fun v q => nomatch q⟩
    · rw [q]; exact ⟨_, hTO, fun v q => nomatch q⟩
    · rw [q]; exact ⟨o1, e1, fun v q => by rw [d1] at q; cases q⟩
    · rw [q]; exact ⟨o2, e2, fun v q => by rw [d2] at q; cases q⟩
  keep := fun i h h' st k => by
    obtain ⟨hz, hTI, ⟨x, y, hTO⟩, h1, h2⟩ := st
    exact ⟨k z (by simp) _ hz, k TI (by simp) _ hTI, ⟨x, y, k TO (by simp) _ hTO⟩, h1.at fun o q => k i1 (by simp) o q, h2.at fun o q => k i2 (by simp) o q⟩
  item := by
    intro X hP hw hK hc i pins s σ H E I hf st hg
    subst hP hw hK
    obtain ⟨hz, hTI, ⟨x0, y0, hTO⟩, h1, h2⟩ := st
    obtain ⟨xs, ys, x, y, hqx, hqy, hx, hy⟩ := hg
    obtain ⟨its, rv, p1, _⟩ := I.tuple hqx
    obtain ⟨its2, rv2, p2, _⟩ := I.list hqy
    obtain ⟨u, hu, ru⟩ := rv.get hx
    obtain ⟨u2, hu2, ru2⟩ := rv2.get hy
    have hzl : z < s.heap.objs.size := Heap.lt_size hz
    have hi1 : i < its.toArray.size := by
      have := (List.getElem?_eq_some_iff.mp hu).1
      simpa using this
    have hi2 : i < its2.toArray.size := by
      have := (List.getElem?_eq_some_iff.mp hu2).1
      simpa using this
    refine wpAny_pyNext_zipD2_item (k73_sep D) (Draws.tuple (A := X.A.in1) (show X.A.in1.handled = none from I.ok.hd hc) i1 a D.l1i1 its.toArray) (Draws.list (A := X.A.in1) (show X.A.in1.handled = none from I.ok.hd hc) i2 b D.l2i2 its2.toArray) hz hTI hTO ⟨h1, (show s.heap.IsTuple a its.toArray from p1)⟩ ⟨h2, (show s.heap.IsList b its2.toArray from p2.isList)⟩ hi1 hi2 fun v1 v2 h' tk w1 w2 z' TO' st1' st2' hT hsz hk => ?_
    have e1 : v1 = u := by
      have q : its.toArray[i]? = some v1 := w1
      rw [List.getElem?_toArray, hu] at q
      exact (Option.some.inj q).symm
    have e2 : v2 = u2 := by
      have q : its2.toArray[i]? = some v2 := w2
      rw [List.getElem?_toArray, hu2] at q
      exact (Option.some.inj q).symm
    subst e1
    subst e2
    refine ⟨_, rfl, wpAny_letOwnedTupleGo_zip (s := { s with heap := h', toks := tk }) z' fun h'' z'' sb => ?_⟩
    have hT2 : h''.get? s.heap.objs.size = some { cls := .type "tuple", data := .seq #[v1, v2] } := (sb.2 _ (Nat.ne_of_gt hzl)).trans hT
    have new : ObjOk X.prog X.w (upd H s.heap.objs.size (.tup [x, y])) h'' s.heap.objs.size (.tup [x, y]) :=
      ⟨by show 2 ≤ sizeLine; decide, [v1, v2], .cons ru (.cons ru2 .nil), ⟨_, hT2, rfl, _, rfl⟩⟩
    have I1 : Inv X pins σ (upd H s.heap.objs.size (.tup [x, y])) { s with heap := h'', toks := tk } :=
      I.turnedNew (t' := tk) (ch := [z, TI, TO, i1, i2]) (fun c o hb q => (sb.2 c (fun q' => hb (by simp [q']))).trans (hk c o (fun q' => hb (by simp [q'])) (fun q' => hb (by simp [q'])) (fun q' => hb (by simp [q'])) (fun q' => hb (by simp [q'])) q)) hf (Nat.le_refl _) new
    refine ⟨.ref s.heap.objs.size, _, I1, rfl, ⟨_, x, y, rfl, I.hok.fresh (Nat.le_refl _), rfl, fun l hl => by rw [I.tuple_inj hl hqx]; exact hx, fun l hl => by rw [I.list_inj hl hqy]; exact hy⟩, ⟨z'', ?_, ⟨v1, v2, ?_⟩, ?_, ?_⟩, fun c hcm => ?_⟩
    · exact (sb.2 _ D.TIz).trans (hk _ _ D.TIz D.TITO D.TIi1 D.TIi2 hTI)
    · exact (sb.2 _ D.TOz).trans TO'
    · exact st1'.1.at fun o q => (sb.2 _ D.i1z).trans q
    · exact st2'.1.at fun o q => (sb.2 _ D.i2z).trans q
    · have hlt : c < s.heap.objs.size := by
        have e' : c = z ∨ c = TI ∨ c = TO ∨ c = i1 ∨ c = i2 := by simpa using hcm
        rcases e' with q | q | q | q | q
        · rw [q]; exact hzl
        · rw [q]; exact Heap.lt_size hTI
        · rw [q]; exact Heap.lt_size hTO
        · rw [q]; obtain ⟨_, e1, _⟩ := h1; exact Heap.lt_size e1
        · rw [q]; obtain ⟨_, e2, _⟩ := h2; exact Heap.lt_size e2
      rw [upd_ne (Nat.ne_of_lt hlt)]
      exact (hf c hcm).1
  done := by
    intro X hP hw hK hc i pins s σ H E I hf st hg
    subst hP hw hK
    obtain ⟨hz, hTI, ⟨x0, y0, hTO⟩, h1, h2⟩ := st
    obtain ⟨xs, ys, hqx, hqy, e1, e2⟩ := hg
    obtain ⟨its, rv, p1, _⟩ := I.tuple hqx
    obtain ⟨its2, rv2, p2, _⟩ := I.list hqy
    have l1 : its.toArray.size = i := by
      have := rv.length
      simp
      omega
    have l2 : its2.toArray.size = i := by
      have := rv2.length
      simp
      omega
    exact wpAny_pyNext_zipD2_end (i := i) (k73_sep D) (Draws.tuple (A := X.A.in1) (show X.A.in1.handled = none from I.ok.hd hc) i1 a D.l1i1 its.toArray) (Draws.list (A := X.A.in1) (show X.A.in1.handled = none from I.ok.hd hc) i2 b D.l2i2 its2.toArray) hz hTI hTO ⟨h1, (show s.heap.IsTuple a its.toArray from p1)⟩ ⟨h2, (show s.heap.IsList b its2.toArray from p2.isList)⟩ (by omega) (by omega) (Or.inl l1.symm) fun h' tk hk => ⟨rfl, I.turnedL (t' := tk) (ch := [z, TI, TO, i1, i2]) (fun c o hb q =>
      hk c o (fun q' => hb (by simp [q'])) (fun q' => hb (by simp [q'])) (fun q' => hb (by simp [q'])) (fun q' => hb (by simp [q'])) q) hf⟩
  self := fun A i s Q E st h => wpAny_pyIter_zip st.1 h
theorem walk_zipM {K : PySem.W.Frag} {a b : Addr} {xs ys : List V} (hn : xs.length = ys.length) : Walk (ItzM K a b) xs.length (fun H => SqT K H a xs ∧ SqL K H b ys) (YPair (fun i => xs[i]?) (fun i => ys[i]?)) := by
  refine ⟨fun i _ hi q => ?_, fun _ q => ⟨xs, ys, q.1, q.2, rfl, hn.symm⟩, fun i H v H' _ q y => ?_⟩
  · have h2 : i < ys.length := by omega
    exact ⟨xs, ys, xs[i], ys[i], q.1, q.2, by simp [hi], by simp [h2]⟩
  · obtain ⟨T, x, z, h1, h2, h3, h4, h5⟩ := y
    exact ⟨T, x, z, h1, h2, h3, h4 xs q.1, h5 ys q.2⟩
def iZipM (K : PySem.W.Frag) (ta : TA) : TI := fun σ H R => ta σ H fun vs H1 => ∃ a b xs ys, vs = [.ref a, .ref b] ∧ SqT K H1 a xs ∧ SqL K H1 b ys ∧ R (ItzM K a b) H1
theorem pi_zipM {X : Cx} {e e2 : Expr} {ta : TA} {p pos tpos : Pos} {elts : List Expr} {kk : Nat} (hg : Gl X "zip") (hm : X.mg "zip" = none) (ha : PA X [e, e2] ta)
    (hs : starEach [e, e2] X.env = (false, eval e X.env) :: starEach [e2] X.env := by rfl) (hpl : (backTo pos (starEach [e2] X.env)).any (·.1) = false := by rfl) :
    PI X (.Tuple elts kk tpos) (.Call (.Name "zip" p) [e, e2] [] pos) (iZipM X.K ta) := by
  refine ⟨fun pins s σ H R I h => ?_⟩
  refine Call_ (ld_blt I hg hm PyProof.Rows.boot_zip (PyProof.Rows.callWith_type1 (thn (ha.run pos pins s σ H _ I h) fun us s1 ⟨vs, H1, I1, r1, q1⟩ => ?_) hs hpl))
  obtain ⟨a, b, xs, ys, ex, hqx, hqy, q⟩ := q1
  subst ex
  cases r1 with
  | cons r rr =>
    cases rr with
    | cons r' rr =>
      cases rr
      cases r
      cases r'
      have fresh5 : ∀ c, c ∈ [s1.heap.objs.size + 4, s1.heap.objs.size + 2, s1.heap.objs.size + 3, s1.heap.objs.size, s1.heap.objs.size + 1] → FpOk X pins H1 c := fun c hcm => by
        have e' : c = s1.heap.objs.size + 4 ∨ c = s1.heap.objs.size + 2 ∨ c = s1.heap.objs.size + 3 ∨ c = s1.heap.objs.size ∨ c = s1.heap.objs.size + 1 := by simpa using hcm
        have hle : s1.heap.objs.size ≤ c := by
          rcases e' with z | z | z | z | z
          · rw [z]; exact Nat.le_add_right _ _
          · rw [z]; exact Nat.le_add_right _ _
          · rw [z]; exact Nat.le_add_right _ _
          · rw [z]; exact Nat.le_refl _
          · rw [z]; exact Nat.le_add_right _ _
        exact I1.fpOk hle (I1.hok.fresh hle)
      obtain ⟨its, rv, p1, _⟩ := I1.tuple hqx
      obtain ⟨its2, rv2, p2, _⟩ := I1.list hqy
      refine zip_begins2 (begins_tuple a its.toArray) (begins_list b its2.toArray) (show s1.heap.IsTuple a its.toArray from p1) (show s1.heap.IsList b its2.toArray from p2.isList) fun h' hz hTI hTO h1 h2 hsz hk => wpAny_pyIter_zip hz ?_
      have I2 : Inv X pins σ H1 { s1 with heap := h' } := I1.kept (t' := s1.toks) hk
      exact ⟨s1.heap.objs.size + 4, [s1.heap.objs.size + 4, s1.heap.objs.size + 2, s1.heap.objs.size + 3, s1.heap.objs.size, s1.heap.objs.size + 1], _, _, H1, rfl, I2, turn_zipM (PySem.W.ktu_apart s1.heap.objs.size a b (by obtain ⟨_, ho, _⟩ := id p1; exact Heap.lt_size ho) p2.lt), ⟨hz, hTI, ⟨_, _, hTO⟩, ⟨_, h1, rfl, rfl⟩, ⟨_, h2, rfl, rfl⟩⟩, fresh5, q⟩
end K73

set_option Elab.async false
set_option linter.all false
set_option maxRecDepth 100000
set_option maxHeartbeats 4000000
/-! ## sets of texts: made of a list, sorted -/
namespace K73
open PySem PySem.Spec PyProof.Rows L2
/-- the text of an entry -/
def keyX (e : Int × Value) : Str := match e.2 with
  | .str k _ => k
  | _ => Str.empty
def GoodX (w : World) (e : Int × Value) : Prop := ∃ k tk, e.2 = Value.str k tk ∧ e.1 = hashStr w k
/-- the set of texts at a: S its members, n their number -/
def SetX (w : World) (h : Heap) (a : Addr) (S : Str → Bool) (n : Nat) : Prop :=
  ∃ o es ep t, h.get? a = some o ∧ o.ExactSet ∧ o.data = .set es ep t ∧ (∀ e ∈ es.toList, GoodX w e) ∧ (es.toList.map keyX).Nodup ∧ (∀ k, S k = true ↔ k ∈ es.toList.map keyX) ∧
    es.size < scanBound ∧ t.fits es.size = true ∧ es.size = n ∧ Ris t.place.toList ∧ (w.params.followText "set-order" = true ∨ t.led = true)

section
variable {P : Program} {w : World} {h h' : Heap} {a : Addr} {S : Str → Bool} {n : Nat}

theorem SetX.at (R : SetX w h a S n) (k : ∀ o, h.get? a = some o → h'.get? a = some o) : SetX w h' a S n := by
  obtain ⟨o, es, ep, t, ho, r⟩ := R
  exact ⟨o, es, ep, t, k o ho, r⟩
theorem SetX.lt (R : SetX w h a S n) : a < h.objs.size := by
  obtain ⟨o, es, ep, t, ho, r⟩ := R
  exact Heap.lt_size ho
theorem SetX.congr {S' : Str → Bool} (R : SetX w h a S n) (e : ∀ k, S' k = S k) : SetX w h a S' n := by
  have q : S' = S := funext e
  rw [q]; exact R
theorem goodX_elems {l : List (Int × Value)} (g : ∀ e ∈ l, GoodX w e) : ElemsOf (strKind P w) l := fun e he => by
  obtain ⟨k, tk, h1, h2⟩ := g e he
  exact ⟨⟨k, by rw [h1]; exact strKind_is P w k tk, h2⟩, by rw [h1] <;> rfl⟩
theorem goodX_is {e : Int × Value} (g : GoodX w e) (k : Str) : (strKind P w).is k e.2 = true ↔ keyX e = k := by
  obtain ⟨k0, tk, h1, _⟩ := g
  unfold keyX
  rw [h1]
  show (Value.isStrOf k (.str k0 tk) = true) ↔ k0 = k
  simp [Value.isStrOf]
theorem goodX_mem {l : List (Int × Value)} (g : ∀ e ∈ l, GoodX w e) (k : Str) : k ∈ l.map keyX ↔ ∃ e ∈ l, (strKind P w).is k e.2 = true := by
  rw [List.mem_map]
  constructor
  · rintro ⟨e, he, q⟩
    exact ⟨e, he, (goodX_is (g e he) k).2 q⟩
  · rintro ⟨e, he, q⟩
    exact ⟨e, he, (goodX_is (g e he) k).1 q⟩
theorem SetX.setOf (R : SetX w h a S n) : h.SetOf (strKind P w) a S n := by
  obtain ⟨o, es, ep, t, ho, hx, hd, g, nd, hm, hb, hf, hn, _⟩ := R
  exact ⟨o, es, ep, t, ho, hx, hd, goodX_elems g, fun k => (hm k).trans (goodX_mem g k), hb, hf, hn⟩
end

section
variable {P : Program} {w : World} {A : Around} {E : Value → Shared → Prop} {s : Shared} {a : Addr} {S : Str → Bool} {n : Nat}

/-! ### add -/
theorem setX_add_tail {g : Bool → Sem Unit} (hg : ∀ (b : Bool) (s₁ : Shared) (Q' : Unit → Shared → Prop), Q' () s₁ → wpAny (model P w) A (g b) Q' E s₁)
    {o : Obj} {es : Array (Int × Value)} {ep : Nat} {t : SetTable} (ho : s.heap.get? a = some o) (hex : o.ExactSet) (hd : o.data = .set es ep t)
    {es1 : Array (Int × Value)} {t2 : SetTable} {S' : Str → Bool} (g1 : ∀ e ∈ es1.toList, GoodX w e) (nd1 : (es1.toList.map keyX).Nodup) (m1 : ∀ k, S' k = true ↔ k ∈ es1.toList.map keyX)
    (hb1 : es1.size < scanBound) (hf2 : t2.fits es1.size = true) (hr : Ris t2.place.toList) (hl : w.params.followText "set-order" = true ∨ t2.led = true) {wasDummy : Bool} {R : Option Bool → Shared → Prop}
    (hR : ∀ h', Heap.SameBut a s.heap h' → SetX w h' a S' es1.size → R (some true) { s with heap := h' }) :
    wpAny (model P w) A (do
        storeSet a es1 t2
        if (!wasDummy && t2.tooFull) = true then do
            g (relayAll t2 es1 (SetTable.grown es1.size)).2.2
            storeSet a (relayAll t2 es1 (SetTable.grown es1.size)).1 (relayAll t2 es1 (SetTable.grown es1.size)).2.1
            pure (some true)
          else pure (some true)) R E s := by
  refine wpAny_bind (wpAny_storeSet_of ho hd ?_ (fits_of_scanBound hb1))
  have ho1 := store_at (es' := es1) (t' := t2) ho hd
  have sb1 := Heap.SameBut.update s.heap a (Obj.putSet es1 t2)
  split
  · have pm := relayAll_perm t2 es1 (SetTable.grown es1.size)
    have hf3 := relayAll_fits t2 es1 (SetTable.grown es1.size)
    have hr3 := relayAll_ris t2 es1 (SetTable.grown es1.size)
    have hl3 := relayAll_led t2 es1 (SetTable.grown es1.size)
    generalize relayAll t2 es1 (SetTable.grown es1.size) = Z at pm hf3 hr3 hl3 ⊢
    obtain ⟨es2, t3, gave⟩ := Z
    dsimp only at pm hf3 hr3 hl3 ⊢
    have hsz : es2.size = es1.size := by rw [← Array.length_toList, pm.length_eq, Array.length_toList]
    have hb2 : es2.size < scanBound := by rw [hsz]; exact hb1
    refine wpAny_bind (hg _ _ _ ?_)
    refine wpAny_bind (wpAny_storeSet_of ho1 rfl ?_ (fits_of_scanBound hb2))
    have ho2 := store_at (es' := es2) (t' := t3) ho1 rfl
    refine wpAny_pure (hR _ (sb1.trans (Heap.SameBut.update _ a _)) ?_)
    exact ⟨_, es2, _, t3, ho2, hex, rfl, fun e he => g1 e (pm.mem_iff.mp he), (pm.map keyX).nodup_iff.mpr nd1, fun k => (m1 k).trans (pm.map keyX).mem_iff.symm, hb2, hf3, hsz, hr3,
      hl.imp id fun z => by rw [hl3]; exact z⟩
  · exact wpAny_pure (hR _ sb1 ⟨_, es1, _, t2, ho1, hex, rfl, g1, nd1, m1, hb1, hf2, rfl, hr, hl⟩)

theorem setX_add_hashed {k : Str} {tk : Tok} {Q : Bool → Shared → Prop} (R : SetX w s.heap a S n) (room : n + 1 < scanBound)
    (hQ : ∀ h', Heap.SameBut a s.heap h' → SetX w h' a (fun j => S j || decide (j = k)) (if S k = true then n else n + 1) → Q (!S k) { s with heap := h' }) :
    wpAny (model P w) A (setAddHashed a (.str k tk) ((strKind P w).hash k)) Q E s := by
  obtain ⟨o, es, ep, t, ho, hex, hd, g, nd, hm, hb, hf, hn, hr, hl⟩ := R
  have hkey : (strKind P w).is k (.str k tk) = true := strKind_is P w k tk
  have hsc : (Value.str k tk).scannable = true := rfl
  have hel : ElemsOf (strKind P w) es.toList := goodX_elems g
  unfold setAddHashed setAddHashedIn
  refine wpAny_holding (wpAny_bind (wpAny_setState_of ho hd hf ?_))
  dsimp only
  rw [byScan_of hsc hb hel]
  simp only [↓reduceIte]
  unfold setAddByScan
  refine wpAny_bind ?_
  refine wpAny_bind (wpAny_rule ?_)
  refine wpAny_bind (wpAny_setScan_of hkey ho hd hf hel ?_)
  cases hfi : List.findIdx? (fun e => (strKind P w).is k e.2) es.toList with
  | some j =>
    dsimp only
    obtain ⟨hj, pj, _⟩ := List.findIdx?_eq_some_iff_getElem.mp hfi
    have hSk : S k = true := (hm k).2 ((goodX_mem (P := P) (w := w) g k).2 ⟨es.toList[j], List.getElem_mem hj, pj⟩)
    refine wpAny_pure (wpAny_pure ?_)
    have q := hQ s.heap (Heap.SameBut.refl a s.heap) ⟨o, es, ep, t, ho, hex, hd, g, nd, fun i => by
      rw [Bool.or_eq_true, decide_eq_true_eq, ← hm i]
      exact ⟨fun z => z.elim id (fun e => e ▸ hSk), .inl⟩, hb, hf, by rw [if_pos hSk]; exact hn, hr, hl⟩
    rw [hSk] at q
    exact q
  | none =>
    dsimp only
    have hnk : k ∉ es.toList.map keyX := fun z => by
      obtain ⟨e, he, q⟩ := (goodX_mem (P := P) (w := w) g k).1 z
      have c := List.findIdx?_eq_none_iff.mp hfi e he
      rw [q] at c
      cases c
    have hSk : S k = false := by
      cases q : S k with
      | false => rfl
      | true => exact absurd ((hm k).1 q) hnk
    have hgw : ∀ (b : Bool) {s₁ : Shared} {Q' : Unit → Shared → Prop}, Q' () s₁ → wpAny (model P w) A (match b with | true => rule "set.scan.the-table-gave-way" | false => pure ()) Q' E s₁ :=
      fun b s₁ Q' q => by cases b <;> first | exact wpAny_pure q | exact wpAny_rule q
    have pm := layNew_perm t es ((strKind P w).hash k) (.str k tk)
    have hf1 := layNew_fits t es ((strKind P w).hash k) (.str k tk)
    have hr1 := layNew_ris t es ((strKind P w).hash k) (.str k tk) hr
    have hl1 := layNew_led t es ((strKind P w).hash k) (.str k tk)
    generalize layNew t es ((strKind P w).hash k) (.str k tk) = Z at pm hf1 hr1 hl1 ⊢
    obtain ⟨es1, t1, wasDummy, gave⟩ := Z
    dsimp only at pm hf1 hr1 hl1 ⊢
    rw [Array.toList_push] at pm
    have pc : es1.toList.Perm (((strKind P w).hash k, Value.str k tk) :: es.toList) := pm.trans (List.perm_append_singleton _ _)
    have pk : (es1.toList.map keyX).Perm (k :: es.toList.map keyX) := pc.map keyX
    have g1 : ∀ e ∈ es1.toList, GoodX w e := fun e he => by
      rcases List.mem_cons.mp (pc.mem_iff.mp he) with z | z
      · rw [z]; exact ⟨k, tk, rfl, rfl⟩
      · exact g e z
    have nd1 : (es1.toList.map keyX).Nodup := pk.nodup_iff.mpr (List.nodup_cons.mpr ⟨hnk, nd⟩)
    have m1 : ∀ i, (S i || decide (i = k)) = true ↔ i ∈ es1.toList.map keyX := fun i => by
      rw [Bool.or_eq_true, decide_eq_true_eq, hm i, pk.mem_iff, List.mem_cons]
      exact Or.comm
    have hsz : es1.size = n + 1 := by rw [← Array.length_toList, pc.length_eq, List.length_cons, Array.length_toList, hn]
    have hb1 : es1.size < scanBound := by rw [hsz]; exact room
    have hled : w.params.followText "set-order" = true ∨ t1.led = true := hl.imp id fun z => by rw [hl1]; exact z
    have fin : ∀ h', Heap.SameBut a s.heap h' → SetX w h' a (fun j => S j || decide (j = k)) es1.size → Q true { s with heap := h' } := fun h' sb r => by
      have q := hQ h' sb
      rw [hSk] at q
      rw [hsz] at r
      exact q r
    refine wpAny_bind (hgw _ ?_)
    split
    · refine wpAny_bind ?_
      rw [hashByValue_scannable 8 hsc]
      refine wpAny_pure ?_
      refine setX_add_tail ?_ ho hex hd g1 nd1 m1 hb1 ?_ ?_ ?_ ?_
      · intro b s₁ Q' q; cases b <;> first | exact wpAny_pure q | exact wpAny_rule q
      · first | (split <;> first | exact hf1 | exact SetTable.fits_plain_off hf1) | exact hf1
      · first | (split <;> exact hr1) | exact hr1
      · first | (split <;> exact hled) | exact hled
      · intro h' sb r; dsimp only; exact wpAny_pure (fin h' sb r)
    · refine wpAny_bind (wpAny_pure ?_)
      simp only [↓reduceIte]
      refine setX_add_tail ?_ ho hex hd g1 nd1 m1 hb1 hf1 hr1 hled ?_
      · intro b s₁ Q' q; cases b <;> first | exact wpAny_pure q | exact wpAny_rule q
      · intro h' sb r; dsimp only; exact wpAny_pure (fin h' sb r)

end

theorem setX_new_at {w : World} {h : Heap} {a : Addr} {ns : List Str} (ho : h.get? a = some { cls := .type "set", dict := none, data := .set #[] 0 (.fresh 0 0 (!w.params.followText "set-order")) }) : SetX w h a (fun j => decide (j ∈ ns.take 0)) 0 :=
  ⟨_, #[], 0, _, ho, ⟨rfl, rfl, rfl⟩, rfl, (fun e he => by simp at he), (by simp), (fun k => by simp), (by decide), (by rfl), rfl, List.Pairwise.nil, by
    show _ ∨ (!w.params.followText "set-order") = true
    cases w.params.followText "set-order"
    · exact .inr rfl
    · exact .inl rfl⟩
section
variable {P : Program} {w : World} {A : Around} {E : Value → Shared → Prop} {s : Shared}
theorem set_update_strs {I : Addr} {fp wr : List Addr} {G : Array GenState → Array GenState → Prop} {n : Nat} {Pv : Nat → Value → Prop} {St : Nat → Shared → Prop} {R : Result → Shared → Prop}
    (W : WalksS P w A.in1 I fp wr G n Pv St) (S : Addr) (hSf : S ∉ fp) (ns : List Str) (hn : n = ns.length) (hb : ns.length + 1 < scanBound) (hval : ∀ i v, Pv i v → ∃ k t, ns[i]? = some k ∧ v = .str k t) :
    ∀ (k i : Nat) (s : Shared), n - i = k → i ≤ n → St i s → (∃ c, c ≤ i ∧ SetX w s.heap S (fun j => decide (j ∈ ns.take i)) c) →
      (∀ s' c, Moved (S :: wr) G s s' → c ≤ n → SetX w s'.heap S (fun j => decide (j ∈ ns)) c → R (.ok (.ret .none)) s') →
      codeAny (model P w) A (.builtin "set.update.loop" ⟨[.ref S, .ref I], []⟩) R s := by
  have hSw : S ∉ wr := fun h => hSf (W.sub _ h)
  have hsub : ∀ b ∈ wr, b ∈ S :: wr := fun b hb => List.mem_cons_of_mem _ hb
  intro k
  induction k with
  | zero =>
    intro i s hk' hi hst ⟨c, hc, hS⟩ hR
    have hin : i = n := by omega
    subst hin
    refine codeAny_builtin F.entry_set_update_loop ?_
    rw [Around.under_plainId F.plain_set_update_loop _]
    show wpAny _ A.in1 (pyNext (.ref I) >>= _) _ _ s
    refine wpAny_bind (W.done s _ _ hst fun s' hm => ?_)
    show wpAny _ A.in1 (ret Value.none) _ _ s'
    have e : ns.take i = ns := List.take_of_length_le (by omega)
    rw [e] at hS
    exact wpAny_pure (hR s' c (hm.mono hsub) hc (hS.at fun o e => hm.heap S o hSw e))
  | succ k ih =>
    intro i s hk' hi hst ⟨c, hc, hS⟩ hR
    have hlt : i < n := by omega
    refine codeAny_builtin F.entry_set_update_loop ?_
    rw [Around.under_plainId F.plain_set_update_loop _]
    show wpAny _ A.in1 (pyNext (.ref I) >>= _) _ _ s
    refine wpAny_bind (W.item i s _ _ hlt hst fun v s' hP hst' hm => ?_)
    obtain ⟨z, t, hz, rfl⟩ := hval i v hP
    have hS' : SetX w s'.heap S (fun j => decide (j ∈ ns.take i)) c := hS.at fun o e => hm.heap S o hSw e
    show wpAny _ A.in1 (holding [Value.str z t] (setAdd S (.str z t)) >>= _) _ _ s'
    refine wpAny_bind (wpAny_holding ?_)
    unfold setAdd
    refine wpAny_holding ?_
    refine wpAny_bind ((strKind P w).pyHash (k := z) (strKind_is _ _ _ _) ?_)
    refine setX_add_hashed (s := { s' with toks := s'.toks + 1 }) hS' (by omega) fun h' hsb hS2 => ?_
    have hS3 : SetX w h' S (fun j => decide (j ∈ ns.take (i + 1))) (if decide (z ∈ ns.take i) = true then c else c + 1) := hS2.congr fun j => by
      rw [List.take_add_one, hz]
      simp [List.mem_append]
    have hc3 : (if decide (z ∈ ns.take i) = true then c else c + 1) ≤ i + 1 := by
      split <;> omega
    refine wpAny_pure ⟨plainId_quiet F.plain_set_update_loop _, ih (i + 1) _ (by omega) hlt (W.frame _ s' _ _ hst' (Nat.le_succ _) fun b hb o e => ?_) ⟨_, hc3, hS3⟩ fun s'' c2 hm'' hc'' hS'' => ?_⟩
    · rw [hsb.2 b (fun h : b = S => hSf (by rw [← h]; exact hb))]; exact e
    · refine hR s'' c2 (Moved.trans W.gtrans ((hm.mono hsub).then_heap (Nat.le_succ _) fun b o hb e => ?_) hm'') hc'' hS''
      rw [hsb.2 b (fun h : b = S => hb (by rw [h]; exact List.mem_cons_self))]; exact e

end

section
variable {P : Program} {w : World} {A : Around} {E : Value → Shared → Prop} {s : Shared}
set_option maxRecDepth 100000 in
set_option maxHeartbeats 3200000 in
theorem call_set_lstX {l : Addr} {items : Array Value} (ns : List Str) {Q : Value → Shared → Prop} (hh : A.handled = none) (hl : s.heap.IsList l items) (hit : StrsAre items.toList ns) (hb : ns.length + 1 < scanBound)
    (h : ∀ (h' : Heap) (tk c : Nat), SetX w h' s.heap.objs.size (fun j => decide (j ∈ ns)) c → c ≤ ns.length → (∀ b o, s.heap.get? b = some o → h'.get? b = some o) → Q (.ref s.heap.objs.size) { s with heap := h', toks := tk }) :
    wpAny (model P w) A (call (.type "set") [.ref l]) Q E s := by
  have hisz : items.size = ns.length := by
    have q := StrsAre.len_eq hit
    rw [Array.length_toList] at q
    exact q
  obtain ⟨c, tl, hmro⟩ := F.called_set.mro
  have hmade := F.called_set.made
  have hsub := F.called_set.sub
  refine wpAny_call (codeAny_of_tree ?_)
  show wpAny _ _ (callAny (.type "set") _) _ _ _
  refine wpAny_pure ⟨Code.quiet_builtin _ (by decide +kernel), codeAny_builtin F.entry_type_call ?_⟩
  rw [Around.under_plain (weight_type_call_type "set" [.ref l] []) rfl]
  have h1 := F.called_set.notType
  have h2 := F.called_set.canCreate
  have hct := F.typeCall_set_1 (.ref l)
  repeat (any_goals (first | assumption | wp_step))

  refine codeAny_mono (code_set_led1 (.ref l) (E := E) (Q₁ := fun obj s₁ => obj = .ref s.heap.objs.size ∧ s₁ = { s with heap := s.heap.push { cls := .type "set", dict := none, data := .set #[] 0 (.fresh 0 0 (!w.params.followText "set-order")) } }) ⟨rfl, rfl⟩) fun r s₁ hr => ?_
  cases r with
  | error e => exact hr
  | ok fl =>
    cases fl with
    | ret obj =>
      obtain ⟨rfl, rfl⟩ := hr
      have hS : (s.heap.push { cls := .type "set", dict := none, data := .set #[] 0 (.fresh 0 0 (!w.params.followText "set-order")) }).get? s.heap.objs.size = some { cls := .type "set", dict := none, data := .set #[] 0 (.fresh 0 0 (!w.params.followText "set-order")) } := Heap.get?_push_size _ rfl
      have hT : Shared.TypeIs { s with heap := s.heap.push { cls := .type "set", dict := none, data := .set #[] 0 (.fresh 0 0 (!w.params.followText "set-order")) } } (.ref s.heap.objs.size) "set" := ⟨_, hS, rfl⟩
      have hli := F.called_set.init.lookup
      have hbi := F.called_set.init.bind (.ref s.heap.objs.size)
      repeat (any_goals (first | assumption | wp_step))

      refine codeAny_mono (codeAny_call_builtin (R := wants (fun r s₂ => r = .none ∧ ∃ h' tk c, s₂ = { s with heap := h', toks := tk } ∧ SetX w h' s.heap.objs.size (fun j => decide (j ∈ ns)) c ∧ c ≤ ns.length ∧
          (∀ b o, s.heap.get? b = some o → h'.get? b = some o)) E) F.called_set.init.plain F.entry_set_init (check_set_init_1 hT ?_)) fun r₂ s₂ hr₂ => ?_
      · obtain ⟨ol, hol, hcl, nl, hdl⟩ := hl
        obtain ⟨ocls, odict, odata, oslots⟩ := ol
        simp only at hcl hdl
        subst hcl; subst hdl
        have hol' : (s.heap.push { cls := .type "set", dict := none, data := .set #[] 0 (.fresh 0 0 (!w.params.followText "set-order")) }).get? l = some { cls := .type "list", dict := odict, data := .seq items nl, slots := oslots } := Heap.get?_push_of_some _ hol
        have hsls := F.sub_list_set
        have hslf := F.sub_list_frozenset
        have hne : (Value.type "list" == Value.type "dict") = false := by decide
        have hl1 : (s.heap.push { cls := .type "set", dict := none, data := .set #[] 0 (.fresh 0 0 (!w.params.followText "set-order")) }).IsList l items := ⟨_, hol', rfl, nl, rfl⟩
        unfold Builtin.«set.__init__» noKeywords Builtin.Frozenset.updateFrom
        generalize hPI : pyIter = PI
        wp_walk
        subst hPI

        refine wpAny_pyIter_list hl1 ?_
        refine wpAny_bind (wpAny_runValue ?_)
        have hlS : l < s.heap.objs.size := Heap.lt_size hol
        have hh3 : A.in1.in1.in1.handled = none := by simp [hh]
        have hz1 : (s.heap.push { cls := .type "set", dict := none, data := .set #[] 0 (.fresh 0 0 (!w.params.followText "set-order")) }).objs.size = s.heap.objs.size + 1 := Heap.size_push ..
        have hneI : l ≠ (s.heap.push { cls := .type "set", dict := none, data := .set #[] 0 (.fresh 0 0 (!w.params.followText "set-order")) }).objs.size := by
          rw [Heap.size_push]; exact Nat.ne_of_lt (Nat.lt_succ_of_lt hlS)
        have hSf : s.heap.objs.size ∉ [(s.heap.push { cls := .type "set", dict := none, data := .set #[] 0 (.fresh 0 0 (!w.params.followText "set-order")) }).objs.size, l] := by
          rw [Heap.size_push]; simp only [List.mem_cons, List.mem_singleton, List.not_mem_nil, or_false, not_or]
          exact ⟨Nat.ne_of_lt (Nat.lt_succ_self _), Nat.ne_of_gt hlS⟩
        have hval : ∀ (i : Nat) (v : Value), items[i]? = some v → ∃ k t, ns[i]? = some k ∧ v = .str k t := fun i v hv => by
          have hi : i < ns.length := by rw [← hisz]; exact (Array.getElem?_eq_some_iff.mp hv).1
          obtain ⟨y, t, e1, e2⟩ := PyProof.Rows.StrsAre.item hit i v (by rw [Array.getElem?_toList]; exact hv)
          exact ⟨y, t, e2, e1⟩
        refine set_update_strs ((Walks.list hh3 _ l hneI items).toS) s.heap.objs.size
          hSf ns hisz hb hval (items.size - 0) 0 _ (by omega) (Nat.zero_le _)
          ⟨⟨_, Heap.get?_push_size _ rfl, rfl, rfl⟩, (hl1.push _)⟩ ?hS0 ?hR
        case hS0 =>
          have hget : ((s.heap.push { cls := .type "set", dict := none, data := .set #[] 0 (.fresh 0 0 (!w.params.followText "set-order")) }).push { cls := .type "list_iterator", data := .fields #[.ref l, .int 0 0] }).get? s.heap.objs.size
              = some { cls := .type "set", dict := none, data := .set #[] 0 (.fresh 0 0 (!w.params.followText "set-order")) } := Heap.get?_push_of_some _ hS
          exact ⟨0, Nat.le_refl 0, setX_new_at hget⟩
        case hR =>
          intro s' c' hm hc' hS'
          obtain ⟨h', g2, d', tk', os'⟩ := s'
          have eg : g2 = s.gens := hm.gens
          have ed : d' = s.drawn := hm.drawn
          have eo : os' = s.os := hm.os
          subst eg; subst ed; subst eo
          show wpAny _ _ _ _ _ _
          refine wpAny_pure ?_
          show wpAny _ _ (ret Value.none) _ _ _
          rw [hisz] at hc'
          refine wpAny_pure ⟨rfl, h', tk', c', rfl, hS', hc', fun b o e => ?_⟩
          have hb0 : b < s.heap.objs.size := Heap.lt_size e
          have hb1 : b ≠ s.heap.objs.size := Nat.ne_of_lt hb0
          have hb2 : b ≠ (s.heap.push { cls := .type "set", dict := none, data := .set #[] 0 (.fresh 0 0 (!w.params.followText "set-order")) }).objs.size := by
            rw [Heap.size_push]; exact Nat.ne_of_lt (Nat.lt_succ_of_lt hb0)
          exact hm.heap b o (by simp only [List.mem_cons, List.mem_singleton, List.not_mem_nil, or_false, not_or]; exact ⟨hb1, hb2⟩) (Heap.get?_push_of_some _ (Heap.get?_push_of_some _ e))

      · cases r₂ with
        | error e => exact hr₂
        | ok fl₂ =>
          cases fl₂ with
          | ret r =>
            obtain ⟨rfl, h', tk, c', rfl, hS', hc', hk'⟩ := hr₂
            repeat (any_goals (first | assumption | wp_step))
            exact h _ _ _ hS' hc' hk'
          | _ => exact hr₂.elim
    | _ => exact hr.elim


theorem sorted_setX {a : Addr} {S : Str → Bool} {n : Nat} {Q : Value → Shared → Prop} (R : SetX w s.heap a S n) (hh : A.handled = none) (h64 : n < 64)
    (hQ : ∀ s' p (out : Array Value) (c : Nat) (ss : List Str), (∀ b o, s.heap.get? b = some o → s'.heap.get? b = some o) → s'.gens = s.gens → s'.os = s.os → s.heap.objs.size ≤ p →
      s'.heap.get? p = some (seqObj "list" out c) → StrsAre out.toList ss → sortedS ss = true → ss.Nodup → (∀ k, k ∈ ss ↔ S k = true) → ss.length = n → Q (.ref p) s') :
    wpAny (model P w) A (call (.builtin "sorted") [.ref a]) Q E s := by
  obtain ⟨o, es, ep, t, ho, hex, hd, g, nd, hm, hb, hf, hn, hr, hl⟩ := R
  refine Calls.call_function_entry kind_sorted plain_sorted entry_sorted (args_sorted1 _) ?_
  unfold Builtin.«sorted»
  refine wpAny_bind (m := checkCount "sorted" 1 1 _) (wpAny_pure ?_)
  refine wpAny_bind (collect_set (A := A.in1) hh ⟨o, ho, hex.1, hd⟩ hf hb hr hl fun s1 vs k1 hz g1 o1 pm => ?_)
  have hvl : vs.length = n := by rw [pm.length_eq, List.length_map, Array.length_toList]; exact hn
  have hall : ∀ v ∈ vs, ∃ k tk, v = Value.str k tk := fun v hv => by
    obtain ⟨e, he, q⟩ := List.mem_map.mp (pm.mem_iff.mp hv)
    obtain ⟨k, tk, h1, _⟩ := g e he
    exact ⟨k, tk, by rw [← q]; exact h1⟩
  have hI : StrsAre vs (vs.map strOf) := by
    have q := strsAre_map vs hall
    simpa using q
  have pk : (vs.map strOf).Perm (es.toList.map keyX) := by
    have q := pm.map strOf
    rw [List.map_map] at q
    have e : es.toList.map (strOf ∘ fun e => e.2) = es.toList.map keyX := List.map_congr_left fun e he => by
      obtain ⟨k, tk, h1, _⟩ := g e he
      show strOf e.2 = keyX e
      unfold keyX
      rw [h1] <;> rfl
    rw [← e]
    exact q
  refine wpAny_bind (wpAny_newList ?_ (by rw [hvl, sizeLine_eq]; omega))
  have hoL : (s1.heap.push (seqObj "list" vs.toArray 0)).get? s1.heap.objs.size = some (seqObj "list" vs.toArray 0) := Heap.get?_push_size _ rfl
  refine wpAny_bind (wpAny_holding (wpAny_call_entry slot_list_sort ⟨_, hoL, rfl⟩ entry_list_sort (list_sort_treeK strKind_oneLt hoL hI.keysOf (fun v₁ v₂ rest e => keyKind_strs (by rw [← e]; exact hI)) (by rw [hvl]; exact h64) fun st' a1 a2 => ⟨_, rfl, ?_⟩) (args_list_sort _)))
  obtain ⟨ss', b1, b2, b3⟩ := sorted_out_str hI a1 a2
  obtain ⟨c, hc⟩ := sortedHeap_at (vs := vs) (out := ((arrOf st').map (·.2))) hoL
  have pn : ss'.Perm (es.toList.map keyX) := b2.trans pk
  refine wpAny_pure ⟨_, rfl, hQ _ s1.heap.objs.size _ c ss' (fun b u e => ?_) g1 o1 hz hc b1 b3 (pn.nodup_iff.mpr nd) (fun k => by rw [pn.mem_iff, ← hm k]) (by rw [pn.length_eq, List.length_map, Array.length_toList]; exact hn)⟩
  have q := k1 b u e
  have hlt := Heap.lt_size q
  show (sortedHeap (s1.heap.push (seqObj "list" vs.toArray 0)) s1.heap.objs.size vs _).get? b = some u
  rw [sortedHeap_old (Nat.ne_of_lt hlt) (by rw [size_push']; exact Nat.lt_succ_of_lt hlt)]
  exact Heap.get?_push_of_some _ q
end
/-! ### sorted(set(xs)), xs a list of texts -/
section
variable {X : Cx}
def SetTx (w : World) (a : Addr) (S : Str → Bool) (n : Nat) : HO := .ext fun h => SetX w h a S n
def rSetL (K : PySem.W.Frag) (w : World) : List V → Hp → VK → Prop := fun xs H Q => ∃ (l : Addr) (ss : List Str), xs = [.ref l] ∧ SqL K H l (ss.map V.str) ∧ ss.length < 64 ∧
  ∀ p c, H p = none → c ≤ ss.length → Q (.ref p) (upd H p (SetTx w p (fun j => decide (j ∈ ss)) c))
theorem cr_setL (hc : X.calm = true) : CallR X (.type "set") (rSetL X.K X.w) := by
  intro pins s σ H xs us Q I r h
  obtain ⟨l, ss, rfl, hs, h64, q⟩ := h
  rw [Vals.ref1 r]
  obtain ⟨its, rv, hl, _⟩ := I.list hs
  refine call_set_lstX ss (I.ok.hd hc) hl.isList (by simpa using strsAre_of rv) (by unfold scanBound; omega) fun h' tk c hS hc' hk => ?_
  have new : ObjOk X.prog X.w (upd H s.heap.objs.size (SetTx X.w s.heap.objs.size (fun j => decide (j ∈ ss)) c)) h' s.heap.objs.size (SetTx X.w s.heap.objs.size (fun j => decide (j ∈ ss)) c) :=
    ⟨hS, by
      obtain ⟨o, _, _, _, ho, _⟩ := hS
      exact ⟨o, ho⟩, fun h1 h2 p k => SetX.at p k⟩
  exact ⟨.ref _, upd H s.heap.objs.size (SetTx X.w s.heap.objs.size (fun j => decide (j ∈ ss)) c), I.laid (t' := tk) hk (Nat.le_refl _) new, rfl, q _ c (I.hok.fresh (Nat.le_refl _)) hc'⟩
def rSortX (w : World) : List V → Hp → VK → Prop := fun xs H Q => ∃ (a : Addr) (S : Str → Bool) (n : Nat), xs = [.ref a] ∧ H a = some (SetTx w a S n) ∧ n < 64 ∧
  ∀ p (ss : List Str), H p = none → sortedS ss = true → ss.Nodup → (∀ k, k ∈ ss ↔ S k = true) → Q (.ref p) (upd H p (.lst (ss.map V.str)))
theorem cr_sortX (hc : X.calm = true) : CallR X (.builtin "sorted") (rSortX X.w) := by
  intro pins s σ H xs us Q I r h
  obtain ⟨a, S, n, rfl, ha, h64, q⟩ := h
  rw [Vals.ref1 r]
  have R : SetX X.w s.heap a S n := (I.hok a _ ha).1
  refine sorted_setX R (I.ok.hd hc) h64 fun s' p out c ss k g o hp hg hi hs hnd hm hl => ?_
  have hlen : (ss.map V.str).length ≤ sizeLine := by rw [List.length_map, hl, sizeLine_eq]; omega
  have hn : H p = none := I.hok.fresh hp
  have J : Inv X pins σ (upd H p (.lst (ss.map V.str))) { s with heap := s'.heap, gens := s'.gens, drawn := s'.drawn, toks := s'.toks } :=
    I.call (ch := []) (Un.laid k hp hn) (I.hok.laid k hp ⟨hlen, out.toList, c, vals_of_strs hi, hg⟩) (by rw [g]; exact I.bare) (fun _ z => nomatch z)
  have e : s' = { s with heap := s'.heap, gens := s'.gens, drawn := s'.drawn, toks := s'.toks } := by
    cases s'
    cases s
    cases o
    rfl
  rw [e]
  exact ⟨.ref p, _, J, rfl, q p ss hn hs hnd hm⟩
end
end K73

set_option Elab.async false
set_option linter.all false
set_option maxRecDepth 100000
set_option maxHeartbeats 4000000
/-! ## str(own instance), x != y by an own == -/
namespace K73
open PySem PySem.Spec PyProof.Rows L2
section
variable {X : Cx} {n k : Nat}
/-- an own def called somewhere below the body X -/
theorem run_below {f : Addr} {fd : FuncData} {ps : List Str} {sp : Sp} {A : Around} {pins : List (Addr × Obj)} {s : Shared} {σ : L2.St} {H : Hp} {vs : List V} {us : List Value} {Q : VK}
    (F : FnOk X.prog X.w X.K X.mg X.base C8.CX0 n f fd ps sp) (hb : Binds X.K fd ps []) (hr : Room n A) (hfr : A.frames = X.A.frames) (I : Inv X pins σ H s) (r : Vals vs us) (hsp : sp vs H Q C8.E0) :
    wpAny (model X.prog X.w) A (call (.ref f) us) (fun v s' => ∃ z H', Inv X pins σ H' s' ∧ RelV z v ∧ Q z H') X.xe s := by
  have e0 : Env0 X.prog X.w X.K X.mg X.base A X.stack s H := by
    have e := I.env0
    exact ⟨by rw [hfr]; exact e.frames, e.mod, e.bs, e.bsz, e.funs, e.frf, e.hok, e.bare⟩
  have hl := F.len _ _ _ _ hsp
  refine wpAny_call (codeAny_mono (F.run A X.stack s H ⟨us, []⟩ us vs _ C8.E0 hr e0 (by
    have q := hb s us I.kIn (by
      rw [List.append_nil, ← r.length]
      exact hl)
    simpa using q) r hsp) fun r s' hq => ?_)
  cases r with
  | error e => exact C8.pass0 (E := C8.E0) pins σ H s e s' I hq
  | ok fl =>
    cases fl with
    | ret w =>
      obtain ⟨z, H', I', rz, q⟩ := I.after hq
      exact ⟨z, H', I', rz, q⟩
    | next => exact False.elim hq
    | brk => exact False.elim hq
    | cont => exact False.elim hq
/-! ### str(x) -/
def tStrW (C : Addr) (sp : Sp) (t : TA) : TE := fun σ H Q => t σ H fun vs H1 => ∃ a dx fs, vs = [.ref a] ∧ H1 a = some (.ins C dx fs) ∧ sp [.ref a] H1 (fun v H2 => ∃ y, v = .str y ∧ Q (.str y) H2) C8.E0
theorem pe_strI {C f : Addr} {fd : FuncData} {ps : List Str} {sp : Sp} {e : Expr} {t : TA} {p pos : Pos} (F : FnOk X.prog X.w X.K X.mg X.base C8.CX0 n f fd ps sp) (hb : Binds X.K fd ps []) (M : Meth X.K C "__str__" f) (hr : Room k X.A) (hk : n + 2 ≤ k)
    (hg : Gl X "str") (hm : X.mg "str" = none) (ha : PA X [e] t) (hs : starEach [e] X.env = (false, eval e X.env) :: starEach [] X.env := by rfl) :
    PE X (.Call (.Name "str" p) [e] [] pos) (tStrW C sp t) := by
  refine ⟨fun pins s σ H Q I h => ?_⟩
  refine Call_ (ld_blt I hg hm b_str (PyProof.Rows.callWith_type1 (thn (ha.run pos pins s σ H _ I h) fun us s1 ⟨vs, H1, I1, r1, q1⟩ => ?_) hs rfl))
  obtain ⟨a, dx, fs, ex, ha, q⟩ := q1
  subst ex
  rw [Vals.ref1 r1]
  obtain ⟨mA, J, _⟩ := ins_get I1.hok ha
  obtain ⟨od, J, _⟩ := J.look
  have hr2 : Room n X.A.in1.in1 := (hr.mono hk).in1.in1
  refine PySem.W.kso_call hr2.units0 I1.kIn J M.at_ M.fn ?_
  refine wpAny_mono (run_below F hb hr2 rfl I1 (vs := [.ref a]) (us := [.ref a]) (.cons rfl .nil) q) (fun v s' z => ?_) fun _ _ z => z
  obtain ⟨z, H2, I2, rz, y, ez, q2⟩ := z
  subst ez
  obtain ⟨t, rfl⟩ := rz
  exact ⟨.str y, H2, I2, ⟨t, rfl⟩, q2⟩
/-! ### x != y, equal by the own == -/
theorem ifBound_B {M : Model} {A : Around} {E : Value → Shared → Prop} {s : Shared} {K : PySem.W.Frag} {x C : Addr} {ox : Obj} {od : Option Obj} {name : Str} {id : String} {args : List Value} {Q : Option Value → Shared → Prop} (X : K.In s.heap) (I : PySem.W.InstAt s.heap x ox C od) (hs : PySem.W.findIn K (.ref C) name = some (some (.builtin id)))
    (hb : ∀ self, bindSpecial (.builtin id) self = pure (.builtin id, [self])) (h : wpAny M A (call (.builtin id) (.ref x :: args)) (fun v => Q (some v)) E s) : wpAny M A (callSpecialIfBound? (.ref x) name args) Q E s := by
  simp only [callSpecialIfBound?, bindSpecialIfBound?]
  refine wpAny_holding (wpAny_bind (wpAny_bind (wpAny_bind (I.type.here ((PySem.W.looks_findIn X hs).here ?_)))))
  refine wpAny_bind (wpAny_askSetting (wpAny_ite ?_))
  have fin : wpAny M A (call (.builtin id) ([.ref x] ++ args) >>= fun v => pure (some v)) Q E s := wpAny_bind (wpAny_mono h (fun v s' h' => wpAny_pure h') fun _ _ h' => h')
  split
  · exact wpAny_bind (wpAny_of_eq (hb _) (wpAny_pure (by exact fin)))
  · exact wpAny_tryCatch (wpAny_bind (wpAny_of_eq (hb _) (wpAny_pure (by exact fin))))
def rNeI (C : Addr) (R : Addr → Addr → Hp → Prop) : R2 := fun x y H Q => DIns C R x y H ∧ ∀ H', Ext H H' → Q (.bl false) H'
theorem op_neI {C f : Addr} {fd : FuncData} {ps : List Str} {R : Addr → Addr → Hp → Prop} (F : FnOk X.prog X.w X.K X.mg X.base C8.CX0 n f fd ps (spEq R)) (hb : Binds X.K fd ps []) (M : Meth X.K C "__eq__" f)
    (hne : PySem.W.findIn X.K (.ref C) "__ne__" = some (some (.builtin "object.__ne__"))) (c : C8.InsC X.K C) (hr : Room k X.A) (hk : n + 2 ≤ k) : OpR X (compareOp .NotEq) (rNeI C R) := by
  intro pins s σ H x y v u Q I rx ry hq
  obtain ⟨⟨a, b, dx, dy, fs, gs, rfl, rfl, ha, hb', hR⟩, q⟩ := hq
  cases rx
  cases ry
  obtain ⟨mA, J, _⟩ := ins_get I.hok ha
  obtain ⟨mB, J', _⟩ := ins_get I.hok hb'
  obtain ⟨od, J, _⟩ := J.look
  obtain ⟨od', J', _⟩ := J'.look
  have hr1 : Room n X.A.in1 := (hr.mono (show n + 1 ≤ k by omega)).in1
  have own : wpAny (model X.prog X.w) X.A.in1 (call (.ref f) [.ref a, .ref b]) (fun v s' => v = .bool true ∧ ∃ H', Inv X pins σ H' s' ∧ Ext H H') X.xe s := by
    refine wpAny_mono (run_below (Q := fun v H' => v = .bl true ∧ Ext H H') F hb hr1 rfl I (vs := [.ref a, .ref b]) (us := [.ref a, .ref b]) (.cons rfl (.cons rfl .nil)) ⟨a, b, rfl, hR, fun H' e => ⟨rfl, e⟩⟩) (fun v s' z => ?_) fun _ _ z => z
    obtain ⟨z, H', I', rz, ez, ex⟩ := z
    subst ez
    cases rz
    exact ⟨rfl, H', I', ex⟩
  have body : wpAny (model X.prog X.w) X.A.in1 (Builtin.«object.__ne__» ⟨[.ref a, .ref b], []⟩) (fun fin s' => ∃ v, fin = .done (.ret v) ∧ v = .bool false ∧ ∃ H', Inv X pins σ H' s' ∧ Ext H H') X.xe s := by
    unfold Builtin.«object.__ne__»
    refine wpAny_bind (m := slotArgs "__ne__" 1 _) (wpAny_pure ?_)
    refine wpAny_bind (m := cRoomFor _ _) (wpAny_cRoomFor hr1.units0 ?_)
    refine wpAny_bind (m := callSpecialIfBound? (.ref a) (Str.ofString "__eq__") [.ref b]) (PySem.W.ifBound_K I.kIn J M.at_ M.fn (wpAny_mono own (fun v s' z => ?_) fun _ _ e => e))
    obtain ⟨rfl, z⟩ := z
    refine wpAny_bind (m := truthy (.bool true)) (wpAny_truthy_bool ?_)
    exact wpAny_pure ⟨_, rfl, rfl, z⟩
  have one : wpAny (model X.prog X.w) X.A (tryCompare (.ref a) "__ne__" (.ref b)) (fun r s' => r = some (.bool false) ∧ ∃ H', Inv X pins σ H' s' ∧ Ext H H') X.xe s := by
    unfold tryCompare
    refine wpAny_bind (ifBound_B I.kIn J hne (PySem.F.cmp_object.ne.bind) (wpAny_call (codeAny_call_builtin PySem.F.cmp_object.ne.plain PySem.F.cmpEntry_ne (PySem.W.check_slot PySem.F.cmpKind_ne PySem.F.cmpSplit_ne (J.type.andThen (PySem.W.looks_mroIn I.kIn c.hm)) (PySem.F.cmpArgs_ne _ _) (wpAny_mono body (fun fin s' z => ?_) fun _ _ e => e)))))
    obtain ⟨v, rfl, rfl, z⟩ := z
    exact wpAny_pure ⟨rfl, z⟩
  show wpAny (model X.prog X.w) X.A (richCompare .NotEq (.ref a) (.ref b)) (EP X pins σ Q) X.xe s
  unfold richCompare
  simp only [oneThing_ref]
  refine wpAny_holding (wpAny_bind (wpAny_cRoomFor (hr.mono (Nat.zero_le _)).units0 ?_))
  refine wpAny_bind (J.type.here (wpAny_bind (J'.type.here ?_)))
  have e1 : (Value.ref C != Value.ref C) = false := by simp
  rw [e1]
  simp only [Bool.false_eq_true, if_false]
  refine wpAny_bind (wpAny_pure ?_)
  simp only [Bool.false_eq_true, if_false]
  refine wpAny_bind (wpAny_mono one (fun r s' z => ?_) fun _ _ e => e)
  obtain ⟨rfl, H', I', ex⟩ := z
  exact wpAny_pure ⟨.bl false, H', I', rfl, q H' ex⟩
end
end K73

set_option Elab.async false
set_option linter.all false
set_option maxRecDepth 100000
set_option maxHeartbeats 4000000
/-! ## rules with the text's fragment named (for the blocks of comprehensions) -/
namespace K73
open PySem PySem.Spec PyProof.Rows L2
section
variable {X : Cx} {e : Expr} {ta : TE} {f : Str} {pos : Pos}
theorem pe_fldK (K : PySem.W.Frag) (he : PE X e ta) (hb : attributeBase e f X.env (eval e X.env) = eval e X.env) (hK : X.K = K := by rfl) : PE X (.Attribute e f pos) (tFld K ta f) := hK ▸ pe_fld he hb
theorem op_in_seqK (K : PySem.W.Frag) (hK : X.K = K := by rfl) : OpR X (compareOp .In) (rIn K false) := hK ▸ op_in_seq
theorem op_notIn_seqK (K : PySem.W.Frag) (hK : X.K = K := by rfl) : OpR X (compareOp .NotIn) (rIn K true) := hK ▸ op_notIn_seq
theorem ix_listK (K : PySem.W.Frag) (hK : X.K = K := by rfl) : IxR X (rIxL K) := hK ▸ ix_list
theorem ix_tupK (K : PySem.W.Frag) (hK : X.K = K := by rfl) : IxR X (rIxT K) := hK ▸ ix_tup
theorem call_len_seqK (K : PySem.W.Frag) (hK : X.K = K := by rfl) : CallR X (.builtin "len") (fun xs H Q => ∃ p ys, xs = [.ref p] ∧ (SqL K H p ys ∨ SqT K H p ys) ∧ Q (.int ys.length) H) := hK ▸ call_len_seq
theorem pe_bmK (K : PySem.W.Frag) {T id : String} {name : Str} {r : V → List V → Hp → VK → Prop} {o : Expr} {to : TE} {es : List Expr} {t : TA} {apos cpos : Pos} (pa : PlainAttrs T) (slot : Slot T name id) (hty : typeOf (.builtin id) = pure (.type "method_descriptor")) (hm : MtR X id r) (ho : PE X o to) (ha : PA X (e :: es) t)
    (hbase : attributeBase o name X.env (eval o X.env) = eval o X.env := by rfl)
    (hfew : ((backTo cpos (starEach (e :: es) X.env)).all (fun x => !x.1) && (backToKw cpos (keywordEach [] X.env)).all (fun x => x.1.isSome)
      && decide ((e :: es).length + ([] : List Keyword).length + (if ([] : List Keyword).isEmpty then 0 else 1) < 30)) = true := by rfl)
    (hline : (apos.endLine == cpos.line) = true := by rfl) (hs : starEach (e :: es) X.env = (false, eval e X.env) :: starEach es X.env := by rfl) (hplain : (backTo cpos (starEach es X.env)).any (·.1) = false := by rfl) (hK : X.K = K := by rfl) :
    PE X (.Call (.Attribute o name apos) (e :: es) [] cpos) (tBM K T r to t) := hK ▸ pe_bm pa slot hty hm ho ha hbase hfew hline hs hplain
end
end K73

set_option Elab.async false
set_option linter.all false
set_option maxRecDepth 100000
set_option maxHeartbeats 4000000
/-! ## questions -/
namespace K73
open PySem PySem.Spec PyProof.Rows L2
/-- a question, as far as the sums look at it -/
structure Qd where
  name : Str
  matter : Str
  toil : Int
  marks : Int
  kin : Str
def qFlds (q : Qd) (ans : Addr) (right : Int) : List (Str × V) := [("name", .str q.name), ("matter", .str q.matter), ("answers", .ref ans), ("right", .int right), ("toil", .int q.toil), ("marks", .int q.marks), ("kin", .str q.kin)]
def QAt (K : PySem.W.Frag) (H : Hp) (a : Addr) (q : Qd) : Prop := ∃ dx ans right, H a = some (.ins (He.ga K "Question") dx (qFlds q ans right))
/-- the answers: a written tuple of texts, all unlike -/
def AnsAt (H : Hp) (p : Addr) (ys : List Str) : Prop := ∃ o, H p = some (.frz o (.tup (ys.map V.str))) ∧ o.cls = .type "tuple" ∧ o.dict = none ∧ 2 ≤ ys.length ∧ ys.length ≤ 6 ∧ (∀ y ∈ ys, TextP y) ∧ ys.Nodup
def KinP (k : Str) : Prop := k = ("" : Str) ∨ NameP k
theorem upd2 {H : Hp} {a : Addr} {x y : HO} : upd (upd H a x) a y = upd H a y := by
  funext b
  unfold upd
  split <;> rfl
theorem same_upd {H H' : Hp} {a : Addr} {o : HO} (s : Same H H') : Same (upd H a o) (upd H' a o) := fun b u e => by
  unfold upd at e ⊢
  split
  · rename_i h
    rw [if_pos h] at e
    exact e
  · rename_i h
    rw [if_neg h] at e
    exact s b u e
theorem QAt.same {K : PySem.W.Frag} {H H' : Hp} {a : Addr} {q : Qd} (h : QAt K H a q) (s : Same H H') : QAt K H' a q := by
  obtain ⟨dx, ans, right, e⟩ := h
  exact ⟨dx, ans, right, s _ _ e⟩
theorem AnsAt.same {H H' : Hp} {p : Addr} {ys : List Str} (h : AnsAt H p ys) (s : Same H H') : AnsAt H' p ys := by
  obtain ⟨o, e, r⟩ := h
  exact ⟨o, s _ _ e, r⟩
theorem AnsAt.sq {K : PySem.W.Frag} {H : Hp} {p : Addr} {ys : List Str} (h : AnsAt H p ys) : SqT K H p (ys.map V.str) := by
  obtain ⟨o, e, r⟩ := h
  exact .inl (.inr ⟨o, e⟩)
theorem str_at {ys : List Str} {i : Nat} {x : V} (h : (ys.map V.str)[i]? = some x) : ∃ z, ys[i]? = some z ∧ x = .str z := by
  rw [List.getElem?_map] at h
  cases e : ys[i]? with
  | none => rw [e] at h; cases h
  | some z =>
    rw [e] at h
    exact ⟨z, rfl, (Option.some.inj h).symm⟩
def spAreAnswers : Sp := fun vs H Q _ => ∃ p ys, vs = [.ref p] ∧ AnsAt H p ys ∧ ∀ H', Same H H' → Q (.bl true) H'
def spIsOf : Sp := fun vs H Q _ => ∃ z : Str, vs = [.str z] ∧ KinP z ∧ ∀ H', Same H H' → Q (.bl true) H'
section
variable {P : Program} {w : World} {K : PySem.W.Frag} {mg : Str → Option Value} {base : Heap}
theorem cal_is_of (T : Top w K mg) : C8.Cal P w K mg base 2 "is_of" spIsOf [] := by
  obtain ⟨fd, F⟩ := T.d_is_of
  refine cal0_of F T.g_is_of (ok_of F sc_is_of (fun vs H Q E h => ?_) fun cdv A outer s H vs Q E hr h => ?_) fun _ _ _ _ _ _ us hl => match us, hl with | [_], _ => rfl
  · obtain ⟨z, rfl, _⟩ := h
    rfl
  · obtain ⟨z, rfl, hk, q⟩ := h
    refine ⟨_, (pss_one (ps_ret (pe_or (pe_and (pe_callB call_isi (by rfl) T.f_isinstance b_isinstance (pa_cons (pv 0) (pa_cons (pe_bltn (v := .ty "str") (by rfl) T.f_str b_str rfl) pa_nil))) (pe_one (pe_cmpR op_eq (pv 0) pe_str (nomark _)))) (pe_one (C8.pe_c (cal_is_name T) hr (by decide) (by rfl) (pa_cons (pv 0) pa_nil)))))), ?_⟩
    refine ⟨_, rfl, _, _, _, _, true, rfl, .ty _, .base (.str _), ki_str_str, true, rfl, iteT ?_⟩
    refine ⟨_, rfl, rfl, _, rfl, ?_⟩
    rcases hk with rfl | hk
    · rw [decide_eq_true rfl]
      exact iteT (q H (Same.refl _))
    · rw [decide_eq_false (fun e : V.str z = V.str (Str.ofString "") => ?_)]
      · exact iteF ⟨_, rfl, z, rfl, hk, q⟩
      · injection e with e
        rw [e] at hk
        exact absurd hk.1 (by decide)
theorem cal_are_answers (T : Top w K mg) : C8.Cal P w K mg base 2 "are_answers" spAreAnswers [] := by
  obtain ⟨fd, F⟩ := T.d_are_answers
  refine cal0_of F T.g_are_answers (ok_of F sc_are_answers (fun vs H Q E h => ?_) fun cdv A outer s H vs Q E hr h => ?_) fun _ _ _ _ _ _ us hl => match us, hl with | [_], _ => rfl
  · obtain ⟨p, ys, rfl, _⟩ := h
    rfl
  · obtain ⟨p, ys, rfl, ha, q⟩ := h
    obtain ⟨o, hp, hc, hd, n1, n2, hx, hn⟩ := id ha
    refine ⟨_, (pss_cons (ps_if (PW.pt (pw_or (pt_not (pt_val (pe_callB call_isi (by rfl) T.f_isinstance b_isinstance (pa_cons (pv 0) (pa_cons (pe_bltn (v := .ty "tuple") (by rfl) T.f_tuple b_tuple rfl) pa_nil))))) (pw_or (pt_not (pt_chain op_le op_le (C8.pe_gc (by rfl) T.i_FEWEST) (pe_callB call_len_seq (by rfl) T.f_len b_len (pa_cons (pv 0) pa_nil)) (C8.pe_gc (by rfl) T.i_MOST))) (pw_or1 (pt_not (pt_val (pe_callB (cr_all rfl) (by rfl) T.f_all b_all (pa_cons (pe_lc (own := [("one", 2)]) (g := gName 2) (tt := tYes) rfl sc_are_answers.nd (pi_tup (pv 0)) (blkOk_by (N := N_are_answers) (sc := defScope s_are_answers) (by decide +kernel)) (fun _ _ _ _ _ => (pg_name (i := 2) sc_are_answers.nd rfl (Or.inl rfl))) (fun _ _ _ _ _ => pts_nil) (fun _ _ _ _ _ => (C8.pe_c (cal_is_text T) hr (by decide) (by rfl) (pa_cons (pv 2) pa_nil)))) pa_nil)))))))) (pss_one (ps_ret pe_bl)) pss_nil)
      (pss_one (ps_ret (pe_callB (cr_all rfl) (by rfl) T.f_all b_all (pa_cons (pe_lc (own := [("at", 1), ("one", 2)]) (g := gTup K 2 (gCons (gName 1) (gCons (gName 2) gNil))) (tt := tYes) rfl sc_are_answers.nd (pi_enumT (by rfl) T.f_enumerate (pa_cons (pv 0) pa_nil)) (blkOk_by (N := N_are_answers) (sc := defScope s_are_answers) (by decide +kernel)) (fun _ _ _ _ _ => (pg_tup rfl (pgs_cons (pg_name (i := 1) sc_are_answers.nd rfl (Or.inl rfl)) (pgs_cons (pg_name (i := 2) sc_are_answers.nd rfl (Or.inl rfl)) pgs_nil)))) (fun _ _ _ _ _ => pts_nil) (fun _ _ _ _ _ => (pe_cmpR op_eq (pe_tindex (pv 0) (pv 2)) (pv 1) (nomark _)))) pa_nil))))), ?_⟩
    refine ⟨_, rfl, _, _, _, _, true, rfl, .ty _, .fTuple hp, ki_tup_tup, true, rfl, iteF ?_⟩
    refine ⟨_, rfl, p, _, rfl, .inr ha.sq, _, _, rfl, rfl, _, rfl, ?_⟩
    have hl : (ys.map V.str).length = ys.length := List.length_map _
    rw [hl, decide_eq_true (show (2 : Int) ≤ (ys.length : Int) by omega)]
    refine iteT ⟨_, _, rfl, rfl, _, rfl, ?_⟩
    rw [decide_eq_true (show (ys.length : Int) ≤ 6 by omega)]
    refine iteF ?_
    refine ⟨_, rfl, p, rfl, ⟨_, ha.sq⟩, fun D hD => ?_⟩
    refine lc_ext (walk_tup (xs := ys.map V.str)) hD (fun i => List.replicate i (.bl true)) rfl (fun H s1 => (ha.same s1).sq) (fun i hi => ?_) (fun i x H1 H2 hi sm y R kR R0 _ => ?_) fun H1 sm eD => ?_
    · rw [List.length_replicate]
      exact Nat.lt_of_le_of_lt (show i ≤ 6 by omega) (by decide)
    · obtain ⟨rfl, hx0⟩ := y
      obtain ⟨z, hz, rfl⟩ := str_at hx0
      refine ⟨rfl, _, rfl, z, rfl, hx z (List.mem_of_getElem? hz), fun H4 s4 => ?_⟩
      exact kR _ _ s4 (rep_succ i)
    · rw [hl] at eD
      refine ⟨D, List.replicate ys.length true, rfl, by rw [map_rep]; exact SqL.is eD, true, by rw [all_rep], iteF ?_⟩
      refine ⟨_, rfl, p, _, rfl, (ha.same sm).sq, fun D2 hD2 => ?_⟩
      refine lc_ext (walk_enumT (xs := ys.map V.str)) hD2 (fun i => List.replicate i (.bl true)) rfl (fun H s1 => ((ha.same sm).same s1).sq) (fun i hi => ?_) (fun i x H2 H3 hi sm2 y R kR R0 _ => ?_) fun H2 sm2 eD2 => ?_
      · rw [List.length_replicate]
        exact Nat.lt_of_le_of_lt (show i ≤ 6 by omega) (by decide)
      · obtain ⟨T', x1, x2, rfl, hT, rfl, e1, e2⟩ := y
        obtain rfl := Option.some.inj e1
        obtain ⟨z, hz, rfl⟩ := str_at e2
        have hp3 := fun o' : HO => ((sm.trans sm2).trans (same_new (o := o') hT)) _ _ hp
        refine ⟨T', _, rfl, .inl (.inl upd_same), rfl, _, _, rfl, _, _, rfl, rfl, rfl, ?_⟩
        refine ⟨_, rfl, p, o, ys, rfl, hp3 _, hd, _, rfl, z, i, rfl, hp3 _, hz, fun m hm hq => ?_, ?_⟩
        · have hi' := (List.getElem?_eq_some_iff.mp hz).1
          have hm' := (List.getElem?_eq_some_iff.mp hq).1
          obtain ⟨_, e3⟩ := List.getElem?_eq_some_iff.mp hz
          obtain ⟨_, e4⟩ := List.getElem?_eq_some_iff.mp hq
          exact List.pairwise_iff_getElem.mp hn m i hm' hi' hm (e4.trans e3.symm)
        · refine ⟨_, rfl, rfl, ?_⟩
          rw [decide_eq_true rfl]
          exact kR _ _ (same_new hT) (rep_succ i)
      · rw [hl] at eD2
        refine ⟨D2, List.replicate ys.length true, rfl, by rw [map_rep]; exact SqL.is eD2, ?_⟩
        rw [all_rep]
        exact q _ (sm.trans sm2)
theorem putF_b {f : Str} {v : V} {n : Nat} : ∀ {fs : List (Str × V)}, fs.length < n → (putF f v fs).length < n + 1
  | [], _ => Nat.succ_lt_succ (by omega)
  | (g, x) :: r, h => by
    show (if g = f then (g, v) :: r else (g, x) :: putF f v r).length < n + 1
    split
    · exact Nat.lt_succ_of_lt h
    · cases n with
      | zero => exact absurd h (Nat.not_lt_zero _)
      | succ m => exact Nat.succ_lt_succ (putF_b (Nat.lt_of_succ_lt_succ h))
def spQInit (C : Addr) : Sp := fun vs H Q _ => ∃ (a p : Addr) (q : Qd) (r : Int) (ys : List Str) (dx : Addr), vs = [.ref a, .str q.name, .str q.matter, .ref p, .int r, .int q.toil, .int q.marks, .str q.kin] ∧ H a = some (.ins C dx []) ∧ NameP q.name ∧ NameP q.matter ∧ AnsAt H p ys ∧
  0 ≤ r ∧ r < ys.length ∧ 1 ≤ q.toil ∧ q.toil ≤ 9 ∧ 1 ≤ q.marks ∧ q.marks ≤ 9 ∧ KinP q.kin ∧ ∀ H', Same (upd H a (.ins C dx (qFlds q p r))) H' → Q .non H'
theorem makN_Q_init_5_marks_kin (T : Top w K mg) : MakN P w K mg base 3 "Question" (He.ga K "Question") 5 ["marks", "kin"] (spQInit (He.ga K "Question")) (fun vs zs => vs ++ zs) := by
  obtain ⟨fd, F⟩ := T.d_Q_init
  refine makN_of "Question" 5 ["marks", "kin"] (fun us its ws => us ++ ws) T.k_Question T.g_Question F (ok_of F sc_Q_init (fun vs H Q E h => ?_) fun cdv A outer s H vs Q E hr h => ?_) (List.cons_ne_nil _ _) (fun r1 r2 r3 => r1.append r3) fun _ _ _ _ _ _ _ us its ws h1 h2 h3 => match us, its, ws, h1, h2, h3 with | [_, _, _, _, _, _], [_, _, _, _], [_, _], _, _, _ => ⟨_, rfl, rfl⟩
  · obtain ⟨a, p, q, r, ys, dx, rfl, _⟩ := h
    rfl
  · obtain ⟨a, p, q, r, ys, dx, rfl, ha, g1, g2, g3, g4, g5, g6, g7, g8, g9, g10, k⟩ := h
    have hsq := g3
    obtain ⟨o, hp, hc, hd, n1, n2, hx, hn⟩ := g3
    refine ⟨_, (pss_cons (ps_if (pt_not (pt_val (C8.pe_c (cal_is_name T) hr (by decide) (by rfl) (pa_cons (pv 1) pa_nil)))) (pss_one ps_never) pss_nil)
      (pss_cons (ps_if (pt_not (pt_val (C8.pe_c (cal_is_name T) hr (by decide) (by rfl) (pa_cons (pv 2) pa_nil)))) (pss_one ps_never) pss_nil)
      (pss_cons (ps_if (pt_not (pt_val (C8.pe_c (cal_are_answers T) hr (by decide) (by rfl) (pa_cons (pv 3) pa_nil)))) (pss_one ps_never) pss_nil)
      (pss_cons (ps_if (pt_not (pt_val (pe_cN (calN_is_whole_1_most T) hr (by decide) (by rfl) (pa_cons (pv 4) pa_nil) (pk_cons (pe_op op_sub (pe_callB call_len_seq (by rfl) T.f_len b_len (pa_cons (pv 3) pa_nil)) pe_int) pk_nil)))) (pss_one ps_never) pss_nil)
      (pss_cons (ps_if (pt_not (pt_val (pe_cN (calN_is_whole_1_least_most T) hr (by decide) (by rfl) (pa_cons (pv 5) pa_nil) (pk_cons pe_int (pk_cons (C8.pe_gc (by rfl) T.i_TOP) pk_nil))))) (pss_one ps_never) pss_nil)
      (pss_cons (ps_if (pt_not (pt_val (pe_cN (calN_is_whole_1_least_most T) hr (by decide) (by rfl) (pa_cons (pv 6) pa_nil) (pk_cons pe_int (pk_cons (C8.pe_gc (by rfl) T.i_TOP) pk_nil))))) (pss_one ps_never) pss_nil)
      (pss_cons (ps_if (pt_not (pt_val (C8.pe_c (cal_is_of T) hr (by decide) (by rfl) (pa_cons (pv 7) pa_nil)))) (pss_one ps_never) pss_nil)
      (pss_cons (ps_fld (pv 0) (pv 1) rfl)
      (pss_cons (ps_fld (pv 0) (pv 2) rfl)
      (pss_cons (ps_fld (pv 0) (pv 3) rfl)
      (pss_cons (ps_fld (pv 0) (pv 4) rfl)
      (pss_cons (ps_fld (pv 0) (pv 5) rfl)
      (pss_cons (ps_fld (pv 0) (pv 6) rfl)
      (pss_one (ps_fld (pv 0) (pv 7) rfl))))))))))))))), ?_⟩
    refine ⟨_, rfl, _, rfl, g1, fun H1 s1 => ⟨true, rfl, iteF ?_⟩⟩
    refine ⟨_, rfl, _, rfl, g2, fun H2 s2 => ⟨true, rfl, iteF ?_⟩⟩
    have s02 := s1.trans s2
    refine ⟨_, rfl, p, ys, rfl, hsq.same s02, fun H3 s3 => ⟨true, rfl, iteF ?_⟩⟩
    have s03 := s02.trans s3
    refine ⟨_, rfl, _, rfl, p, ys.map V.str, rfl, .inr (hsq.same s03).sq, _, _, rfl, rfl, rfl, rfl, r, 0, _, rfl, true, ?_, iteF ?_⟩
    · exact congrArg V.bl (decide_eq_true ⟨g4, by rw [List.length_map]; omega⟩)
    refine ⟨_, rfl, rfl, rfl, q.toil, 1, 9, rfl, true, congrArg V.bl (decide_eq_true ⟨g6, g7⟩), iteF ?_⟩
    refine ⟨_, rfl, rfl, rfl, q.marks, 1, 9, rfl, true, congrArg V.bl (decide_eq_true ⟨g8, g9⟩), iteF ?_⟩
    refine ⟨_, rfl, _, rfl, g10, fun H4 s4 => ⟨true, rfl, iteF ?_⟩⟩
    have s04 := s03.trans s4
    refine ⟨_, rfl, _, rfl, a, _, dx, [], rfl, s04 _ _ ha, T.c_Question, T.n_Question_name, by decide, ?_⟩
    refine ⟨_, rfl, _, rfl, a, _, dx, _, rfl, upd_same, T.c_Question, T.n_Question_matter, (by (repeat' apply putF_b); decide), ?_⟩
    refine ⟨_, rfl, _, rfl, a, _, dx, _, rfl, upd_same, T.c_Question, T.n_Question_answers, (by (repeat' apply putF_b); decide), ?_⟩
    refine ⟨_, rfl, _, rfl, a, _, dx, _, rfl, upd_same, T.c_Question, T.n_Question_right, (by (repeat' apply putF_b); decide), ?_⟩
    refine ⟨_, rfl, _, rfl, a, _, dx, _, rfl, upd_same, T.c_Question, T.n_Question_toil, (by (repeat' apply putF_b); decide), ?_⟩
    refine ⟨_, rfl, _, rfl, a, _, dx, _, rfl, upd_same, T.c_Question, T.n_Question_marks, (by (repeat' apply putF_b); decide), ?_⟩
    refine ⟨_, rfl, _, rfl, a, _, dx, _, rfl, upd_same, T.c_Question, T.n_Question_kin, (by (repeat' apply putF_b); decide), ?_⟩
    refine k _ ?_
    rw [upd2, upd2, upd2, upd2, upd2, upd2]
    exact same_upd s04
def kinB (q r : Qd) : Bool := decide (q.name = r.name) || (!decide (q.kin = ("" : Str)) && decide (q.kin = r.kin))
def spNeedQ (K : PySem.W.Frag) : Sp := fun vs H Q _ => ∃ a q, vs = [.ref a] ∧ QAt K H a q ∧ Q .non H
def spIsKin (K : PySem.W.Frag) : Sp := fun vs H Q _ => ∃ a b q r, vs = [.ref a, .ref b] ∧ QAt K H a q ∧ QAt K H b r ∧ Q (.bl (kinB q r)) H
theorem lk_name (q : Qd) (p : Addr) (r : Int) : (qFlds q p r).lookup ("name" : Str) = some (V.str q.name) := by kernel_rfl
theorem lk_matter (q : Qd) (p : Addr) (r : Int) : (qFlds q p r).lookup ("matter" : Str) = some (V.str q.matter) := by kernel_rfl
theorem lk_toil (q : Qd) (p : Addr) (r : Int) : (qFlds q p r).lookup ("toil" : Str) = some (V.int q.toil) := by kernel_rfl
theorem lk_marks (q : Qd) (p : Addr) (r : Int) : (qFlds q p r).lookup ("marks" : Str) = some (V.int q.marks) := by kernel_rfl
theorem lk_kin (q : Qd) (p : Addr) (r : Int) : (qFlds q p r).lookup ("kin" : Str) = some (V.str q.kin) := by kernel_rfl
theorem lk_is_kin (q : Qd) (p : Addr) (r : Int) : (qFlds q p r).lookup ("is_kin" : Str) = none := by kernel_rfl
theorem dstr {a b : Str} : decide (V.str a = V.str b) = decide (a = b) := decide_eq_decide.mpr ⟨fun h => by injection h, fun h => by rw [h]⟩
/-- the places -/
abbrev rfs {α : Type} (L : List (Addr × α)) : List V := L.map fun x => V.ref x.1
/-- questions, each with its place -/
abbrev Qs := List (Addr × Qd)
def QsAt (K : PySem.W.Frag) (H : Hp) (l : Addr) (L : Qs) : Prop := SqL K H l (rfs L) ∧ (∀ x ∈ L, QAt K H x.1 x.2) ∧ L.length ≤ 60
theorem Same.lseq {H H' : Hp} {a : Addr} {xs : List V} (e : Same H H') (h : SqL K H a xs) : SqL K H' a xs := by
  rcases h with (h | ⟨o, h⟩) | h
  · exact .inl (.inl (e _ _ h))
  · exact .inl (.inr ⟨o, e _ _ h⟩)
  · exact .inr h
theorem QsAt.same {H H' : Hp} {l : Addr} {L : Qs} (h : QsAt K H l L) (s : Same H H') : QsAt K H' l L := ⟨Same.lseq s h.1, fun x hx => (h.2.1 x hx).same s, h.2.2⟩
theorem refs_at {α : Type} {L : List (Addr × α)} {i : Nat} {x : V} (h : (rfs L)[i]? = some x) : ∃ y, L[i]? = some y ∧ x = .ref y.1 := by
  rw [List.getElem?_map] at h
  cases e : L[i]? with
  | none => rw [e] at h; cases h
  | some z =>
    rw [e] at h
    exact ⟨z, rfl, (Option.some.inj h).symm⟩
theorem cal_need_question (T : Top w K mg) : C8.Cal P w K mg base 1 "need_question" (spNeedQ K) [] := by
  obtain ⟨fd, F⟩ := T.d_need_question
  refine cal0_of F T.g_need_question (ok_of F sc_need_question (fun vs H Q E h => ?_) fun cdv A outer s H vs Q E hr h => ?_) fun _ _ _ _ _ _ us hl => match us, hl with | [_], _ => rfl
  · obtain ⟨a, q, rfl, _⟩ := h
    rfl
  · obtain ⟨a, q, rfl, ⟨dx, ans, r, ea⟩, k⟩ := h
    refine ⟨_, (pss_one (ps_if (pt_not (pt_val (pe_callB call_isi (by rfl) T.f_isinstance b_isinstance (pa_cons (pv 0) (pa_cons (C8.pe_gc (v := .ref (He.ga _ "Question")) (by rfl) ⟨_, T.g_Question, rfl⟩) pa_nil))))) (pss_one ps_never) pss_nil)), ?_⟩
    exact ⟨_, rfl, _, _, _, _, true, rfl, .own _, tyx_ins ea T.is_Question, T.is_Question.me, true, rfl, iteF k⟩
theorem met_Q_is_kin (T : Top w K mg) : C8.Met P w K mg base 2 (He.ga K "Question") "is_kin" (spIsKin K) [] := by
  obtain ⟨fd, F⟩ := T.d_Q_is_kin
  refine met0_of T.c_Question T.m_Q_is_kin F (ok_of F sc_Q_is_kin (fun vs H Q E h => ?_) fun cdv A outer s H vs Q E hr h => ?_) fun _ _ _ _ _ _ us hl => match us, hl with | [_, _], _ => rfl
  · obtain ⟨a, b, q, r, rfl, _⟩ := h
    rfl
  · obtain ⟨a, b, q, r, rfl, ha, hb, k⟩ := h
    have hb2 := hb
    obtain ⟨dx, ans, g, ea⟩ := ha
    obtain ⟨dx2, ans2, g2, eb⟩ := hb
    refine ⟨_, (pss_cons (ps_expr (C8.pe_c (cal_need_question T) hr (by decide) (by rfl) (pa_cons (pv 1) pa_nil)))
      (pss_one (ps_ret (pe_or (pe_cmpR op_eq (pe_fld (pv 0) rfl) (pe_fld (pv 1) rfl) (nomark _)) (pe_one (pe_and (pe_cmpR op_ne (pe_fld (pv 0) rfl) pe_str (nomark _)) (pe_one (pe_cmpR op_eq (pe_fld (pv 0) rfl) (pe_fld (pv 1) rfl) (nomark _))))))))), ?_⟩
    refine ⟨_, rfl, b, r, rfl, hb2, ?_⟩
    refine ⟨_, rfl, a, _, dx, _, _, rfl, ea, T.c_Question, T.n_Question_name, lk_name _ _ _, _, rfl, b, _, dx2, _, _, rfl, eb, T.c_Question, T.n_Question_name, lk_name _ _ _, rfl, _, rfl, ?_⟩
    rw [dstr]
    by_cases h1 : q.name = r.name
    · rw [decide_eq_true h1]
      have e : kinB q r = true := by unfold kinB; rw [decide_eq_true h1]; rfl
      rw [e] at k
      exact iteT k
    · rw [decide_eq_false h1]
      have e : kinB q r = (!decide (q.kin = ("" : Str)) && decide (q.kin = r.kin)) := by unfold kinB; rw [decide_eq_false h1]; rfl
      rw [e] at k
      refine iteF ?_
      refine ⟨_, rfl, a, _, dx, _, _, rfl, ea, T.c_Question, T.n_Question_kin, lk_kin _ _ _, rfl, _, rfl, ?_⟩
      rw [dstr]
      by_cases h2 : q.kin = ("" : Str)
      · rw [decide_eq_true h2] at k ⊢
        exact iteF k
      · rw [decide_eq_false h2] at k ⊢
        refine iteT ⟨_, rfl, a, _, dx, _, _, rfl, ea, T.c_Question, T.n_Question_kin, lk_kin _ _ _, _, rfl, b, _, dx2, _, _, rfl, eb, T.c_Question, T.n_Question_kin, lk_kin _ _ _, rfl, ?_⟩
        rw [dstr]
        exact k
def spNeedQs (K : PySem.W.Frag) : Sp := fun vs H Q _ => ∃ l L, vs = [.ref l] ∧ H l = some (.lst (rfs L)) ∧ QsAt K H l L ∧ ∀ H', Same H H' → Q .non H'
def spToilSum (K : PySem.W.Frag) : Sp := fun vs H Q _ => ∃ l L k, vs = [.ref l, .int k] ∧ H l = some (.lst (rfs L)) ∧ QsAt K H l L ∧ ∀ H', Same H H' → Q (.int (k + (L.map fun x => x.2.toil).sum)) H'
theorem cal_need_questions (T : Top w K mg) : C8.Cal P w K mg base 2 "need_questions" (spNeedQs K) [] := by
  obtain ⟨fd, F⟩ := T.d_need_questions
  refine cal0_of F T.g_need_questions (ok_of F sc_need_questions (fun vs H Q E h => ?_) fun cdv A outer s H vs Q E hr h => ?_) fun _ _ _ _ _ _ us hl => match us, hl with | [_], _ => rfl
  · obtain ⟨l, L, rfl, _⟩ := h
    rfl
  · obtain ⟨l, L, rfl, hl, hL, k⟩ := h
    refine ⟨_, (pss_cons (ps_if (pt_not (pt_val (pe_callB call_isiT (by rfl) T.f_isinstance b_isinstance (pa_cons (pv 0) (pa_cons (pe_tup (pa_cons (pe_bltn (v := .ty "list") (by rfl) T.f_list b_list rfl) (pa_cons (pe_bltn (v := .ty "tuple") (by rfl) T.f_tuple b_tuple rfl) pa_nil))) pa_nil))))) (pss_one ps_never) pss_nil)
      (pss_one (ps_for PassesOwn.never rfl (pi_list (pv 0)) (pg_name (i := 1) sc_need_questions.nd rfl (Or.inl rfl)) (pss_one (ps_expr (C8.pe_c (cal_need_question T) hr (by decide) (by rfl) (pa_cons (pv 1) pa_nil))))))), ?_⟩
    refine ⟨_, rfl, (by decide : 2 ≤ sizeLine), fun tp htp => ⟨_, tp, _, _, _, true, rfl, upd_same, cls2, .base (.lst (same_new htp _ _ hl)), ka_list, true, rfl, iteF ?_⟩⟩
    have s1 : Same H (upd H tp (.tup [.ty "list", .ty "tuple"])) := same_new htp
    refine ⟨_, rfl, l, rfl, ⟨_, (hL.same s1).1⟩, ?_⟩
    refine for_it (walk_list (K := K) (a := l) (xs := rfs L)) (fun i σ H' => Same H H' ∧ ∃ y, σ = [some (.ref l), y]) ⟨s1, none, rfl⟩ (fun i σ H' _ p => (hL.same p.1).1) (fun i x σ H1 H2 hi p y => ?_) fun σ H1 p => k _ p.1
    obtain ⟨s2, z, rfl⟩ := p
    obtain ⟨rfl, hx⟩ := y
    obtain ⟨q, hq, rfl⟩ := refs_at hx
    exact ⟨_, rfl, q.1, q.2, rfl, (hL.2.1 q (List.mem_of_getElem? hq)).same s2, s2, _, rfl⟩
theorem fn_toil_sum (T : Top w K mg) : ∃ fd, FunD K "toil_sum" "toil_sum" (defArgs s_toil_sum) (defBody s_toil_sum) (defScope s_toil_sum) [.int 0] [] (He.ga K "toil_sum") fd ∧ FnOk P w K mg base C8.CX0 3 (He.ga K "toil_sum") fd ["questions", "start"] (spToilSum K) := by
  obtain ⟨fd, F⟩ := T.d_toil_sum
  refine ⟨fd, F, ok_of F sc_toil_sum (fun vs H Q E h => ?_) fun cdv A outer s H vs Q E hr h => ?_⟩
  · obtain ⟨l, L, k0, rfl, _⟩ := h
    rfl
  · obtain ⟨l, L, k0, rfl, hl, hL, k⟩ := h
    refine ⟨_, (pss_cons (ps_expr (C8.pe_c (cal_need_questions T) hr (by decide) (by rfl) (pa_cons (pv 0) pa_nil)))
      (pss_one (ps_ret (pe_callBK (cr_sumK rfl) (by rfl) T.f_sum b_sum (pa_cons (pe_lc (own := [("one", 2)]) (g := gName 2) (tt := tYes) rfl sc_toil_sum.nd (pi_list (pv 0)) (blkOk_by (N := N_toil_sum) (sc := defScope s_toil_sum) (by decide +kernel)) (fun _ _ _ _ _ => (pg_name (i := 2) sc_toil_sum.nd rfl (Or.inl rfl))) (fun _ _ _ _ _ => pts_nil) (fun _ _ _ _ _ => (pe_fldK K (pv 2) rfl))) pa_nil) (pk_cons (pv 1) pk_nil))))), ?_⟩
    refine ⟨_, rfl, l, L, rfl, hl, hL, fun H1 s1 => ?_⟩
    refine ⟨_, rfl, l, rfl, ⟨_, (hL.same s1).1⟩, fun D hD => ?_⟩
    refine lc_ext (walk_list (K := K) (a := l) (xs := rfs L)) hD (fun i => (L.take i).map fun x => V.int x.2.toil) rfl (fun H2 s2 => ((hL.same s1).same s2).1) (fun i hi => ?_) (fun i x H2 H3 hi sm y R kR R0 _ => ?_) fun H2 sm eD => ?_
    · rw [List.length_map, List.length_take]
      exact Nat.lt_of_le_of_lt (show min i L.length ≤ 60 from Nat.le_trans (Nat.min_le_right _ _) hL.2.2) (by decide)
    · obtain ⟨rfl, hx⟩ := y
      obtain ⟨q, hq, rfl⟩ := refs_at hx
      obtain ⟨dx, ans, g, ea⟩ := ((hL.2.1 q (List.mem_of_getElem? hq)).same s1).same sm
      refine ⟨rfl, _, rfl, q.1, _, dx, _, _, rfl, ea, T.c_Question, T.n_Question_toil, lk_toil _ _ _, kR _ _ (Same.refl _) ?_⟩
      rw [List.take_add_one, hq, List.map_append]
      rfl
    · rw [List.length_map, List.take_length] at eD
      refine ⟨_, rfl, D, L.map fun x => x.2.toil, k0, rfl, rfl, ?_, k _ (s1.trans sm)⟩
      rw [List.map_map]
      exact SqL.is eD
theorem cal_toil_sum_p1 (T : Top w K mg) : C8.Cal P w K mg base 3 "toil_sum" (spToilSum K) [.int 0] := by
  obtain ⟨fd, F, G⟩ := fn_toil_sum (P := P) (base := base) T
  exact calD_of (n := 1) 0 F T.g_toil_sum G (List.cons_ne_nil _ _) rfl fun _ _ _ _ _ _ _ us its hl hi => match us, its, hl, hi with | [_], [_], _, _ => ⟨_, rfl, rfl⟩
theorem calN_toil_sum_1_start (T : Top w K mg) : CalN P w K mg base 3 "toil_sum" 1 ["start"] (spToilSum K) (fun vs zs => vs ++ zs) := by
  obtain ⟨fd, F, G⟩ := fn_toil_sum (P := P) (base := base) T
  exact calN_of 1 ["start"] (fun us its ws => us ++ ws) F T.g_toil_sum G (List.cons_ne_nil _ _) (fun r1 r2 r3 => r1.append r3) fun _ _ _ _ _ _ _ us its ws h1 h2 h3 => match us, its, ws, h1, h2, h3 with | [_], [_], [_], _, _, _ => ⟨_, rfl, rfl⟩
end
end K73

set_option Elab.async false
set_option linter.all false
set_option maxRecDepth 100000
set_option maxHeartbeats 4000000
/-! ## plain facts: texts in order, days, kin -/
namespace K73
open PySem PySem.Spec PyProof.Rows L2
/-! ### the order of texts -/
def leS (a b : Str) : Prop := a.cps.toList ≤ b.cps.toList
theorem str_ext {a b : Str} (h : a.cps.toList = b.cps.toList) : a = b := by
  cases a
  cases b
  have := Array.toList_inj.mp h
  simp only at this
  rw [this]
theorem leS_total (a b : Str) : leS a b ∨ leS b a := List.le_total _ _
theorem leS_trans {a b c : Str} (h : leS a b) (g : leS b c) : leS a c := List.le_trans h g
theorem leS_anti {a b : Str} (h : leS a b) (g : leS b a) : a = b := str_ext (List.le_antisymm h g)
theorem leS_refl (a : Str) : leS a a := List.le_refl _
theorem lt_leS {a b : Str} : ltCps b.cps.toList a.cps.toList = false ↔ leS a b := by
  rw [ltCps_eq, decide_eq_false_iff_not]
  exact Iff.rfl
theorem rising_iff : ∀ (p : Str) (l : List Str), risingS p l = true ↔ (∀ x, l.head? = some x → leS p x) ∧ sortedS l = true
  | p, [] => by simp [risingS, sortedS]
  | p, x :: r => by
    show (!ltCps x.cps.toList p.cps.toList && risingS x r) = true ↔ _
    rw [Bool.and_eq_true, Bool.not_eq_true', lt_leS]
    simp [sortedS]
theorem sorted_pw : ∀ (l : List Str), sortedS l = true → l.Pairwise leS
  | [], _ => List.Pairwise.nil
  | x :: r, h => by
    have h1 := (rising_iff x r).mp h
    have ih := sorted_pw r h1.2
    refine List.pairwise_cons.mpr ⟨fun y hy => ?_, ih⟩
    cases r with
    | nil => cases hy
    | cons z r =>
      have hz := h1.1 z rfl
      rcases List.mem_cons.mp hy with rfl | hy
      · exact hz
      · exact leS_trans hz ((List.pairwise_cons.mp ih).1 y hy)
theorem perm_pw_eq : ∀ {xs ys : List Str}, xs.Perm ys → xs.Pairwise leS → ys.Pairwise leS → xs = ys
  | [], ys, p, _, _ => (List.Perm.nil_eq p)
  | x :: r, [], p, _, _ => absurd p.length_eq (by simp)
  | x :: r, y :: t, p, h, g => by
    have hx := List.pairwise_cons.mp h
    have hy := List.pairwise_cons.mp g
    have e : x = y := by
      have m1 : x ∈ y :: t := p.mem_iff.mp List.mem_cons_self
      have m2 : y ∈ x :: r := p.mem_iff.mpr List.mem_cons_self
      rcases List.mem_cons.mp m1 with e | m1
      · exact e
      · rcases List.mem_cons.mp m2 with e | m2
        · exact e.symm
        · exact leS_anti (hx.1 y m2) (hy.1 x m1)
    subst e
    rw [perm_pw_eq (List.Perm.cons_inv p) hx.2 hy.2]
theorem sorted_one {xs ys : List Str} (p : xs.Perm ys) (h : sortedS xs = true) (g : sortedS ys = true) : xs = ys := perm_pw_eq p (sorted_pw xs h) (sorted_pw ys g)
/-- put in its place -/
def insS (x : Str) : List Str → List Str
  | [] => [x]
  | y :: r => if ltCps y.cps.toList x.cps.toList = true then y :: insS x r else x :: y :: r
def srtS : List Str → List Str
  | [] => []
  | x :: r => insS x (srtS r)
theorem ins_perm (x : Str) : ∀ l : List Str, (insS x l).Perm (x :: l)
  | [] => List.Perm.refl _
  | y :: r => by
    unfold insS
    split
    · exact ((ins_perm x r).cons y).trans (List.Perm.swap x y r)
    · exact List.Perm.refl _
theorem srt_perm : ∀ l : List Str, (srtS l).Perm l
  | [] => List.Perm.refl _
  | x :: r => (ins_perm x _).trans ((srt_perm r).cons x)
theorem ins_pw (x : Str) : ∀ l : List Str, l.Pairwise leS → (insS x l).Pairwise leS
  | [], _ => List.pairwise_singleton _ _
  | y :: r, h => by
    have hy := List.pairwise_cons.mp h
    unfold insS
    split
    · rename_i c
      refine List.pairwise_cons.mpr ⟨fun z hz => ?_, ins_pw x r hy.2⟩
      rcases List.mem_cons.mp ((ins_perm x r).mem_iff.mp hz) with rfl | hz
      · rw [ltCps_eq, decide_eq_true_eq] at c
        exact List.le_of_lt c
      · exact hy.1 z hz
    · rename_i c
      have c1 : leS x y := lt_leS.mp (by simpa using c)
      refine List.pairwise_cons.mpr ⟨fun z hz => ?_, h⟩
      rcases List.mem_cons.mp hz with rfl | hz
      · exact c1
      · exact leS_trans c1 (hy.1 z hz)
theorem srt_pw : ∀ l : List Str, (srtS l).Pairwise leS
  | [] => List.Pairwise.nil
  | x :: r => ins_pw x _ (srt_pw r)
/-- the sorted list of such texts -/
theorem sorted_is {xs ys : List Str} (p : ys.Perm xs) (h : sortedS ys = true) : ys = srtS xs := perm_pw_eq (p.trans (srt_perm xs).symm) (sorted_pw ys h) (srt_pw xs)
end K73

set_option Elab.async false
set_option linter.all false
set_option maxRecDepth 100000
set_option maxHeartbeats 4000000
/-! ## banks -/
namespace K73
open PySem PySem.Spec PyProof.Rows L2
structure Bk where
  k : Addr
  o : Addr
  d : Addr
  dx : Addr
  L : Qs
  outs : Str → Bool
  days : Str → List Int
  c : Nat
def Bk.names (B : Bk) : List Str := B.L.map fun x => x.2.name
def Bk.N (B : Bk) : List Str := srtS B.names
def Bk.inN (B : Bk) : List Str := B.N.filter fun n => !B.outs n
def Bk.flds (B : Bk) : List (Str × V) := [("kept_here", .ref B.k), ("out_here", .ref B.o), ("days_here", .ref B.d)]
def kvK (L : Qs) : List (Key × V) := L.map fun x => (Sum.inr x.2.name, .ref x.1)
structure BankAt (K : PySem.W.Frag) (H : Hp) (b : Addr) (B : Bk) : Prop where
  ins : H b = some (.ins (He.ga K "Bank") B.dx B.flds)
  kept : H B.k = some (.dK (kvK B.L))
  outd : ∃ ok, H B.o = some (.dK ok) ∧ ok.length ≤ B.c ∧ ∀ n, (valV ok (Sum.inr n)).isSome = B.outs n
  dayd : ∃ dk, H B.d = some (.dK dk) ∧ dk.length ≤ B.c ∧ ∀ x ∈ B.L, ∃ p, valV dk (Sum.inr x.2.name) = some (.ref p) ∧ H p = some (.lst ((B.days x.2.name).map V.int))
  qs : ∀ x ∈ B.L, QAt K H x.1 x.2
  few : B.L.length ≤ 30
  nod : B.names.Nodup
  cfew : B.c ≤ 60
  dfew : ∀ n, (B.days n).length ≤ B.c
  ko : B.k ≠ B.o
  kd : B.k ≠ B.d
  od : B.o ≠ B.d
theorem BankAt.same {K : PySem.W.Frag} {H H' : Hp} {b : Addr} {B : Bk} (h : BankAt K H b B) (s : Same H H') : BankAt K H' b B where
  ins := s _ _ h.ins
  kept := s _ _ h.kept
  outd := by
    obtain ⟨ok, e, r⟩ := h.outd
    exact ⟨ok, s _ _ e, r⟩
  dayd := by
    obtain ⟨dk, e, l, r⟩ := h.dayd
    refine ⟨dk, s _ _ e, l, fun x hx => ?_⟩
    obtain ⟨p, e1, e2⟩ := r x hx
    exact ⟨p, e1, s _ _ e2⟩
  qs := fun x hx => (h.qs x hx).same s
  few := h.few
  nod := h.nod
  cfew := h.cfew
  dfew := h.dfew
  ko := h.ko
  kd := h.kd
  od := h.od
theorem val_none {L : Qs} {n : Str} (h : n ∉ L.map fun x => x.2.name) : valV (kvK L) (Sum.inr n) = none := by
  induction L with
  | nil => rfl
  | cons y r ih =>
    simp only [List.map_cons, List.mem_cons, not_or] at h
    show valV ((Sum.inr y.2.name, V.ref y.1) :: kvK r) (Sum.inr n) = none
    rw [valV_neg (fun e => h.1 (by injection e with e; exact e.symm))]
    exact ih h.2
theorem val_some {L : Qs} {x : Addr × Qd} (hx : x ∈ L) (hn : (L.map fun x => x.2.name).Nodup) : valV (kvK L) (Sum.inr x.2.name) = some (.ref x.1) := by
  induction L with
  | nil => cases hx
  | cons y r ih =>
    have hc := List.nodup_cons.mp hn
    show valV ((Sum.inr y.2.name, V.ref y.1) :: kvK r) (Sum.inr x.2.name) = _
    rcases List.mem_cons.mp hx with e | e
    · rw [valV_pos (by rw [e]), e]
    · rw [valV_neg (fun z => hc.1 (by
        injection z with z
        show y.2.name ∈ _
        rw [z]
        exact List.mem_map.mpr ⟨x, e, rfl⟩))]
      exact ih e hc.2
theorem BankAt.get {K : PySem.W.Frag} {H : Hp} {b : Addr} {B : Bk} (h : BankAt K H b B) {x : Addr × Qd} (hx : x ∈ B.L) : valV (kvK B.L) (Sum.inr x.2.name) = some (.ref x.1) := val_some hx h.nod
theorem mem_names {B : Bk} {n : Str} (h : n ∈ B.names) : ∃ x ∈ B.L, x.2.name = n := by
  obtain ⟨x, hx, e⟩ := List.mem_map.mp h
  exact ⟨x, hx, e⟩
theorem mem_N {B : Bk} {n : Str} : n ∈ B.N ↔ n ∈ B.names := (srt_perm _).mem_iff
theorem mem_inN {B : Bk} {n : Str} : n ∈ B.inN ↔ n ∈ B.names ∧ B.outs n = false := by
  unfold Bk.inN
  rw [List.mem_filter, mem_N]
  simp
theorem lk_kept (B : Bk) : B.flds.lookup ("kept_here" : Str) = some (V.ref B.k) := by kernel_rfl
theorem lk_out (B : Bk) : B.flds.lookup ("out_here" : Str) = some (V.ref B.o) := by kernel_rfl
theorem lk_days (B : Bk) : B.flds.lookup ("days_here" : Str) = some (V.ref B.d) := by kernel_rfl
theorem lk_b_need_there (B : Bk) : B.flds.lookup ("need_there" : Str) = none := by kernel_rfl
theorem lk_b_names (B : Bk) : B.flds.lookup ("names" : Str) = none := by kernel_rfl
theorem lk_b_names_in (B : Bk) : B.flds.lookup ("names_in" : Str) = none := by kernel_rfl
theorem lk_b_question (B : Bk) : B.flds.lookup ("question" : Str) = none := by kernel_rfl
theorem lk_b_last_day (B : Bk) : B.flds.lookup ("last_day" : Str) = none := by kernel_rfl
theorem lk_b_rests (B : Bk) : B.flds.lookup ("rests" : Str) = none := by kernel_rfl
theorem lk_b_found (B : Bk) : B.flds.lookup ("found" : Str) = none := by kernel_rfl
theorem lk_b_added (B : Bk) : B.flds.lookup ("added" : Str) = none := by kernel_rfl
theorem lk_b_used_on (B : Bk) : B.flds.lookup ("used_on" : Str) = none := by kernel_rfl
theorem lk_b_taken_out (B : Bk) : B.flds.lookup ("taken_out" : Str) = none := by kernel_rfl
theorem Same.none {H H' : Hp} {a : Addr} (s : Same H H') (h : H' a = none) : H a = none := by
  cases e : H a with
  | none => rfl
  | some u => rw [s _ _ e] at h; cases h
theorem ne_none {H : Hp} {a b : Addr} {u : HO} (h : H a = none) (g : H b = some u) : b ≠ a := fun e => by
  rw [e, h] at g
  cases g
theorem take_yes {α : Type} {l : List α} {i : Nat} {x : α} {p : α → Bool} (h : l[i]? = some x) (hp : p x = true) : (l.take (i + 1)).filter p = (l.take i).filter p ++ [x] := by
  rw [List.take_add_one, h, List.filter_append]
  simp [hp]
theorem take_no {α : Type} {l : List α} {i : Nat} {x : α} {p : α → Bool} (h : l[i]? = some x) (hp : p x = false) : (l.take (i + 1)).filter p = (l.take i).filter p := by
  rw [List.take_add_one, h, List.filter_append]
  simp [hp]
theorem take_map {α β : Type} {l : List α} {i : Nat} {x : α} {f : α → β} (h : l[i]? = some x) : (l.take (i + 1)).map f = (l.take i).map f ++ [f x] := by
  rw [List.take_add_one, h, List.map_append]
  rfl
theorem len_filter {α : Type} {l : List α} {i m : Nat} {p : α → Bool} (h : l.length ≤ m) : ((l.take i).filter p).length ≤ m :=
  Nat.le_trans (List.length_filter_le _ _) (by rw [List.length_take]; omega)
theorem BankAt.lenN {K : PySem.W.Frag} {H : Hp} {b : Addr} {B : Bk} (h : BankAt K H b B) : B.N.length ≤ 30 := by
  have e : B.N.length = B.names.length := (srt_perm _).length_eq
  rw [e]
  unfold Bk.names
  rw [List.length_map]
  exact h.few
def spThere (K : PySem.W.Frag) : Sp := fun vs H Q _ => ∃ b B n, vs = [.ref b, .str n] ∧ BankAt K H b B ∧ n ∈ B.names ∧ Q .non H
def spNames (K : PySem.W.Frag) : Sp := fun vs H Q _ => ∃ b B, vs = [.ref b] ∧ BankAt K H b B ∧ ∀ p, H p = none → Q (.ref p) (upd H p (.lst (B.N.map V.str)))
def spNamesIn (K : PySem.W.Frag) : Sp := fun vs H Q _ => ∃ b B, vs = [.ref b] ∧ BankAt K H b B ∧ ∀ p H', Same H H' → H p = none → H' p = some (.lst (B.inN.map V.str)) → Q (.ref p) H'
def spQuestion (K : PySem.W.Frag) : Sp := fun vs H Q _ => ∃ b B x, vs = [.ref b, .str x.2.name] ∧ BankAt K H b B ∧ x ∈ B.L ∧ Q (.ref x.1) H
section
variable {P : Program} {w : World} {K : PySem.W.Frag} {mg : Str → Option Value} {base : Heap}
theorem met_B_need_there (T : Top w K mg) : C8.Met P w K mg base 1 (He.ga K "Bank") "need_there" (spThere K) [] := by
  obtain ⟨fd, F⟩ := T.d_B_need_there
  refine met0_of T.c_Bank T.m_B_need_there F (ok_of F sc_B_need_there (fun vs H Q E h => ?_) fun cdv A outer s H vs Q E hr h => ?_) fun _ _ _ _ _ _ us hl => match us, hl with | [_, _], _ => rfl
  · obtain ⟨b, B, n, rfl, _⟩ := h
    rfl
  · obtain ⟨b, B, n, rfl, hB, hn, k⟩ := h
    obtain ⟨x, hx, rfl⟩ := mem_names hn
    have hu := hu_of hr
    refine ⟨_, (pss_one (ps_if (PW.pt (pw_or (pt_not (pt_val (pe_callB call_isi (by rfl) T.f_isinstance b_isinstance (pa_cons (pv 1) (pa_cons (pe_bltn (v := .ty "str") (by rfl) T.f_str b_str rfl) pa_nil))))) (pw_or1 (pt_cmp (pc_dnotin hu (pv 1) (pe_fld (pv 0) rfl)))))) (pss_one ps_never) pss_nil)), ?_⟩
    refine ⟨_, rfl, _, _, _, _, true, rfl, .ty _, .base (.str _), ki_str_str, true, rfl, iteF ?_⟩
    refine ⟨_, rfl, _, rfl, b, _, B.dx, _, _, rfl, hB.ins, T.c_Bank, T.n_Bank_kept_here, lk_kept B, B.k, _, rfl, DGet.k (k := Sum.inr x.2.name) hB.kept, _, rfl, ?_⟩
    rw [hB.get hx]
    exact iteF k
theorem met_B_names (T : Top w K mg) : C8.Met P w K mg base 1 (He.ga K "Bank") "names" (spNames K) [] := by
  obtain ⟨fd, F⟩ := T.d_B_names
  refine met0_of T.c_Bank T.m_B_names F (ok_of F sc_B_names (fun vs H Q E h => ?_) fun cdv A outer s H vs Q E hr h => ?_) fun _ _ _ _ _ _ us hl => match us, hl with | [_], _ => rfl
  · obtain ⟨b, B, rfl, _⟩ := h
    rfl
  · obtain ⟨b, B, rfl, hB, k⟩ := h
    refine ⟨_, (pss_one (ps_ret (pe_callB (call_sortedD rfl) (by rfl) T.f_sorted b_sorted (pa_cons (pe_fld (pv 0) rfl) pa_nil)))), ?_⟩
    refine ⟨_, rfl, b, _, B.dx, _, _, rfl, hB.ins, T.c_Bank, T.n_Bank_kept_here, lk_kept B, B.k, _, B.names, rfl, .inl hB.kept, ?_, ?_, fun ys p hp hs hn => ?_⟩
    · unfold kvK Bk.names
      rw [List.map_map, List.map_map]
      rfl
    · unfold Bk.names
      rw [List.length_map]
      exact Nat.lt_of_le_of_lt hB.few (by decide)
    · rw [sorted_is hp hs]
      exact k p hn
theorem met_B_names_in (T : Top w K mg) : C8.Met P w K mg base 2 (He.ga K "Bank") "names_in" (spNamesIn K) [] := by
  obtain ⟨fd, F⟩ := T.d_B_names_in
  refine met0_of T.c_Bank T.m_B_names_in F (ok_of F sc_B_names_in (fun vs H Q E h => ?_) fun cdv A outer s H vs Q E hr h => ?_) fun _ _ _ _ _ _ us hl => match us, hl with | [_], _ => rfl
  · obtain ⟨b, B, rfl, _⟩ := h
    rfl
  · obtain ⟨b, B, rfl, hB, k⟩ := h
    have hu := hu_of hr
    refine ⟨_, (pss_one (ps_ret (pe_lc (own := [("name", 1)]) (g := gName 1) rfl sc_B_names_in.nd (pi_list (C8.pe_mt0 (met_B_names T) hr (by decide) (pv 0))) (blkOk_by (N := N_B_names_in) (sc := defScope s_B_names_in) (by decide +kernel)) (fun _ _ _ _ _ => (pg_name (i := 1) sc_B_names_in.nd rfl (Or.inl rfl))) (fun _ _ _ _ _ => (pts_one (pt_cmp (pc_dnotin hu (pv 1) (pe_fldK K (pv 0) rfl))))) (fun _ _ _ _ _ => (pv 1))))), ?_⟩
    refine ⟨_, rfl, b, B.dx, _, rfl, hB.ins, lk_b_names B, b, B, rfl, hB, fun p hp => ?_⟩
    refine ⟨p, rfl, ⟨_, SqL.is upd_same⟩, fun D hD => ?_⟩
    have s0 : Same H (upd H p (.lst (B.N.map V.str))) := same_new hp
    refine lc_ext (walk_list (K := K) (a := p) (xs := B.N.map V.str)) hD (fun i => ((B.N.take i).filter fun n => !B.outs n).map V.str) rfl (fun H2 s2 => SqL.is (s2 _ _ upd_same)) (fun i hi => ?_) (fun i x H2 H3 hi sm y R kR R0 kR0 => ?_) fun H2 sm eD => ?_
    · rw [List.length_map]
      exact Nat.lt_of_le_of_lt (len_filter hB.lenN) (by decide)
    · obtain ⟨rfl, hx⟩ := y
      obtain ⟨n, hn, rfl⟩ := str_at hx
      have hB2 := (hB.same s0).same sm
      obtain ⟨ok, ho, _, hs⟩ := hB2.outd
      refine ⟨rfl, _, rfl, _, rfl, b, _, B.dx, _, _, rfl, hB2.ins, T.c_Bank, T.n_Bank_out_here, lk_out B, B.o, _, rfl, DGet.k (k := Sum.inr n) ho, _, rfl, ?_⟩
      rw [hs n]
      cases e : B.outs n with
      | true => exact iteF (kR0 _ (Same.refl _) (by rw [take_no hn (by rw [e]; rfl)]))
      | false => exact iteT ⟨_, rfl, kR _ _ (Same.refl _) (by rw [take_yes hn (by rw [e]; rfl), List.map_append]; rfl)⟩
    · rw [List.length_map, List.take_length] at eD
      exact k D _ (s0.trans sm) (Same.none s0 hD) eD
theorem met_B_question (T : Top w K mg) : C8.Met P w K mg base 2 (He.ga K "Bank") "question" (spQuestion K) [] := by
  obtain ⟨fd, F⟩ := T.d_B_question
  refine met0_of T.c_Bank T.m_B_question F (ok_of F sc_B_question (fun vs H Q E h => ?_) fun cdv A outer s H vs Q E hr h => ?_) fun _ _ _ _ _ _ us hl => match us, hl with | [_, _], _ => rfl
  · obtain ⟨b, B, x, rfl, _⟩ := h
    rfl
  · obtain ⟨b, B, x, rfl, hB, hx, k⟩ := h
    have hu := hu_of hr
    have hn : x.2.name ∈ B.names := List.mem_map.mpr ⟨x, hx, rfl⟩
    refine ⟨_, (pss_cons (ps_expr (C8.pe_mt (met_B_need_there T) hr (by decide) (pv 0) (pa_cons (pv 1) pa_nil)))
      (pss_one (ps_ret (pe_dget hu (pe_fld (pv 0) rfl) (pv 1) (fun _ _ => rfl))))), ?_⟩
    refine ⟨_, rfl, b, B.dx, _, rfl, hB.ins, lk_b_need_there B, _, rfl, b, B, _, rfl, hB, hn, ?_⟩
    exact ⟨_, rfl, b, _, B.dx, _, _, rfl, hB.ins, T.c_Bank, T.n_Bank_kept_here, lk_kept B, _, rfl, B.k, _, rfl, by
      rw [← hB.get hx]
      exact DGet.k (k := Sum.inr x.2.name) hB.kept, k⟩
/-! ### days -/
def maxO : List Int → Option Int
  | [] => none
  | x :: r => match maxO r with
    | none => some x
    | some m => some (max x m)
theorem maxO_none {l : List Int} : maxO l = none ↔ l = [] := by
  cases l with
  | nil => simp [maxO]
  | cons x r =>
    unfold maxO
    cases maxO r <;> simp
theorem maxO_spec : ∀ {l : List Int} {m : Int}, maxO l = some m → m ∈ l ∧ ∀ y ∈ l, y ≤ m
  | [], m, h => by cases h
  | x :: r, m, h => by
    unfold maxO at h
    cases e : maxO r with
    | none =>
      rw [e] at h
      obtain rfl := Option.some.inj h
      rw [maxO_none.mp e]
      simp
    | some a =>
      rw [e] at h
      obtain rfl := Option.some.inj h
      obtain ⟨h1, h2⟩ := maxO_spec e
      refine ⟨?_, fun y hy => ?_⟩
      · rcases Int.le_total x a with q | q
        · rw [Int.max_eq_right q]
          exact List.mem_cons_of_mem _ h1
        · rw [Int.max_eq_left q]
          exact List.mem_cons_self
      · rcases List.mem_cons.mp hy with rfl | hy
        · exact Int.le_max_left _ _
        · exact Int.le_trans (h2 y hy) (Int.le_max_right _ _)
theorem maxO_is {l : List Int} {m : Int} (h1 : m ∈ l) (h2 : ∀ y ∈ l, y ≤ m) : maxO l = some m := by
  cases e : maxO l with
  | none =>
    rw [maxO_none.mp e] at h1
    cases h1
  | some a =>
    obtain ⟨g1, g2⟩ := maxO_spec e
    rw [Int.le_antisymm (h2 a g1) (g2 m h1)]
def lastD (ds : List Int) (day : Int) : Option Int := maxO (ds.filter fun x => decide (x ≤ day))
def restsB (ds : List Int) (day rest : Int) : Bool := match lastD ds day with
  | none => false
  | some l => decide (day - l < rest)
def optV : Option Int → V
  | none => .non
  | some i => .int i
def spLast (K : PySem.W.Frag) : Sp := fun vs H Q _ => ∃ b B n day, vs = [.ref b, .str n, .int day] ∧ BankAt K H b B ∧ n ∈ B.names ∧ 0 ≤ day ∧ day ≤ 9999 ∧ ∀ H', Same H H' → Q (optV (lastD (B.days n) day)) H'
def spRests (K : PySem.W.Frag) : Sp := fun vs H Q _ => ∃ b B n day rest, vs = [.ref b, .str n, .int day, .int rest] ∧ BankAt K H b B ∧ n ∈ B.names ∧ 0 ≤ day ∧ day ≤ 9999 ∧ ∀ H', Same H H' → Q (.bl (restsB (B.days n) day rest)) H'
theorem metN_B_last_day_1_day (T : Top w K mg) : MetN P w K mg base 3 (He.ga K "Bank") "last_day" 1 ["day"] (spLast K) (fun vs zs => vs ++ zs) := by
  obtain ⟨fd, F⟩ := T.d_B_last_day
  refine metN_of 1 ["day"] (fun us its ws => us ++ ws) T.c_Bank T.m_B_last_day F (ok_of F sc_B_last_day (fun vs H Q E h => ?_) fun cdv A outer s H vs Q E hr h => ?_) (List.cons_ne_nil _ _) (fun r1 r2 r3 => r1.append r3) fun _ _ _ _ _ _ _ us its ws h1 h2 h3 => match us, its, ws, h1, h2, h3 with | [_, _], [_], [_], _, _, _ => ⟨_, rfl, rfl⟩
  · obtain ⟨b, B, n, day, rfl, _⟩ := h
    rfl
  · obtain ⟨b, B, n, day, rfl, hB, hn, d0, d1, k⟩ := h
    obtain ⟨x, hx, rfl⟩ := mem_names hn
    have hu := hu_of hr
    obtain ⟨dk, hd, _, hds⟩ := hB.dayd
    obtain ⟨p, e1, e2⟩ := hds x hx
    refine ⟨_, (pss_cons (ps_expr (C8.pe_mt (met_B_need_there T) hr (by decide) (pv 0) (pa_cons (pv 1) pa_nil)))
      (pss_cons (ps_expr (C8.pe_c (cal_need_day T) hr (by decide) (by rfl) (pa_cons (pv 2) pa_nil)))
      (pss_one (ps_ret (pe_callBK (cr_maxK rfl) (by rfl) T.f_max b_max (pa_cons (pe_lc (own := [("one", 3)]) (g := gName 3) rfl sc_B_last_day.nd (pi_list (pe_dget hu (pe_fld (pv 0) rfl) (pv 1) (fun _ _ => rfl))) (blkOk_by (N := N_B_last_day) (sc := defScope s_B_last_day) (by decide +kernel)) (fun _ _ _ _ _ => (pg_name (i := 3) sc_B_last_day.nd rfl (Or.inl rfl))) (fun _ _ _ _ _ => (pts_one (pt_cmpR op_le (pv 3) (pv 2) (nomark _)))) (fun _ _ _ _ _ => (pv 3))) pa_nil) (pk_cons pe_non pk_nil)))))), ?_⟩
    refine ⟨_, rfl, b, B.dx, _, rfl, hB.ins, lk_b_need_there B, _, rfl, b, B, _, rfl, hB, hn, ?_⟩
    refine ⟨_, rfl, day, rfl, d0, d1, ?_⟩
    refine ⟨_, rfl, b, _, B.dx, _, _, rfl, hB.ins, T.c_Bank, T.n_Bank_days_here, lk_days B, _, rfl, B.d, _, rfl, by
      rw [← e1]
      exact DGet.k (k := Sum.inr x.2.name) hd, p, rfl, ⟨_, SqL.is e2⟩, fun D hD => ?_⟩
    refine lc_ext (walk_list (K := K) (a := p) (xs := (B.days x.2.name).map V.int)) hD (fun i => (((B.days x.2.name).take i).filter fun y => decide (y ≤ day)).map V.int) rfl (fun H2 s2 => SqL.is (s2 _ _ e2)) (fun i hi => ?_) (fun i z H2 H3 hi sm y R kR R0 kR0 => ?_) fun H2 sm eD => ?_
    · rw [List.length_map]
      exact Nat.lt_of_le_of_lt (len_filter (Nat.le_trans (hB.dfew _) hB.cfew)) (by decide)
    · obtain ⟨rfl, hz⟩ := y
      rw [List.getElem?_map] at hz
      cases ez : (B.days x.2.name)[i]? with
      | none => rw [ez] at hz; cases hz
      | some v =>
        rw [ez] at hz
        obtain rfl := Option.some.inj hz
        refine ⟨rfl, _, rfl, _, rfl, v, day, rfl, rfl, _, rfl, ?_⟩
        by_cases c : v ≤ day
        · rw [decide_eq_true c]
          exact iteT ⟨_, rfl, kR _ _ (Same.refl _) (by rw [take_yes ez (decide_eq_true c), List.map_append]; rfl)⟩
        · rw [decide_eq_false c]
          exact iteF (kR0 _ (Same.refl _) (by rw [take_no ez (decide_eq_false c)]))
    · rw [List.length_map, List.take_length] at eD
      refine ⟨D, _, rfl, rfl, SqL.is eD, fun h0 => ?_, fun m h1 h2 => ?_⟩
      · have e : lastD (B.days x.2.name) day = none := maxO_none.mpr h0
        have := k H2 sm
        rw [e] at this
        exact this
      · have e : lastD (B.days x.2.name) day = some m := maxO_is h1 h2
        have := k H2 sm
        rw [e] at this
        exact this
theorem met_B_rests (T : Top w K mg) : C8.Met P w K mg base 4 (He.ga K "Bank") "rests" (spRests K) [] := by
  obtain ⟨fd, F⟩ := T.d_B_rests
  refine met0_of T.c_Bank T.m_B_rests F (ok_of F sc_B_rests (fun vs H Q E h => ?_) fun cdv A outer s H vs Q E hr h => ?_) fun _ _ _ _ _ _ us hl => match us, hl with | [_, _, _, _], _ => rfl
  · obtain ⟨b, B, n, day, rest, rfl, _⟩ := h
    rfl
  · obtain ⟨b, B, n, day, rest, rfl, hB, hn, d0, d1, k⟩ := h
    refine ⟨_, (pss_cons (ps_set (i := 4) sc_B_rests.nd rfl (Or.inl rfl) (pe_mtN (metN_B_last_day_1_day T) hr (by decide) (pv 0) (pa_cons (pv 1) pa_nil) (pk_cons (pv 2) pk_nil)))
      (pss_one (ps_ret (pe_and (pe_cmpR op_notN (pv 4) pe_non (nomark _)) (pe_one (pe_cmpR op_lt (pe_op op_sub (pv 2) (pv 4)) (pv 3) (nomark _))))))), ?_⟩
    refine ⟨_, rfl, b, B.dx, _, rfl, hB.ins, lk_b_last_day B, _, rfl, _, rfl, rfl, rfl, b, B, n, day, rfl, hB, hn, d0, d1, fun H1 s1 => ?_⟩
    refine ⟨_, rfl, rfl, _, rfl, ?_⟩
    have k1 := k H1 s1
    unfold restsB at k1
    cases e : lastD (B.days n) day with
    | none =>
      rw [e] at k1
      exact iteF k1
    | some l =>
      rw [e] at k1
      exact iteT ⟨_, rfl, _, rfl, day, l, rfl, rfl, _, rfl, _, rest, rfl, rfl, k1⟩
/-- a truth value, laid objects alone on the way -/
def EvB (t : TE) (σ : L2.St) (H : Hp) (c : Bool) : Prop := ∀ Q : VK, (∀ H', Same H H' → Q (.bl c) H') → t σ H Q
theorem EvB.and {ta tb : TE} {σ : L2.St} {H : Hp} {c d : Bool} (h1 : EvB ta σ H c) (h2 : ∀ H', Same H H' → EvB tb σ H' d) : EvB (tAndV ta tb) σ H (c && d) := fun Q q => by
  refine h1 _ fun H1 s1 => ⟨c, rfl, ?_⟩
  cases c with
  | false => exact iteF (q H1 s1)
  | true => exact iteT (h2 H1 s1 _ fun H2 s2 => q H2 (s1.trans s2))
theorem inV_str {a : Str} : ∀ {xs : List Str}, inV (.str a) (xs.map V.str) = decide (a ∈ xs)
  | [] => rfl
  | x :: r => by
    show (eqV (.str x) (.str a) || inV (.str a) (r.map V.str)) = _
    rw [inV_str (xs := r)]
    have e : eqV (.str x) (.str a) = decide (a = x) := by
      show (x == a) = _
      by_cases h : a = x
      · rw [h]
        simp
      · rw [decide_eq_false h]
        exact beq_eq_false_iff_ne.mpr fun z => h z.symm
    rw [e]
    simp [List.mem_cons]
/-- of that matter, kin and toil -/
def fB (q : Qd) (m : Str) (least most : Int) (kin : Str) : Bool := decide (m ∈ [("" : Str), q.matter]) && (decide (kin ∈ [("" : Str), q.kin]) && decide (least ≤ q.toil ∧ q.toil ≤ most))
theorem ev_in2 {σ : L2.St} {H : Hp} {i : Nat} {j : Nat} {m z f : Str} {a C dx : Addr} {fs : List (Str × V)} (e1 : σ[i]? = some (some (.str m))) (e2 : σ[j]? = some (some (.ref a))) (ha : H a = some (.ins C dx fs)) (c : Cls K C) (n : NoAttr K C f) (l : fs.lookup f = some (.str z)) :
    EvB (tOp (rIn K false) (tVar i) (tTup (tCons (tC (.str ("" : Str))) (tCons (tFld K (tVar j) f) tNil)))) σ H (decide (m ∈ [("" : Str), z])) := fun Q q => by
  refine ⟨_, e1, _, e2, a, C, dx, fs, _, rfl, ha, c, n, l, (by decide : 2 ≤ sizeLine), fun tp htp => ⟨tp, _, rfl, .inr (SqT.is upd_same), rfl, rfl, ?_⟩⟩
  have e : inV (.str m) [.str ("" : Str), .str z] = decide (m ∈ [("" : Str), z]) := inV_str (xs := [("" : Str), z])
  have q1 := q (upd H tp (.tup [.str ("" : Str), .str z])) (same_new htp)
  rw [← e] at q1
  exact q1
theorem ev_chain {σ : L2.St} {H : Hp} {i j k : Nat} {x y a : Int} {b C dx : Addr} {fs : List (Str × V)} {f : Str} (e1 : σ[i]? = some (some (.int x))) (e2 : σ[j]? = some (some (.ref b))) (e3 : σ[k]? = some (some (.int y))) (ha : H b = some (.ins C dx fs)) (c : Cls K C) (n : NoAttr K C f) (l : fs.lookup f = some (.int a)) :
    EvB (tChain (rI0 fun i j => V.bl (decide (i ≤ j))) (rI0 fun i j => V.bl (decide (i ≤ j))) (tVar i) (tFld K (tVar j) f) (tVar k)) σ H (decide (x ≤ a ∧ a ≤ y)) := fun Q q => by
  refine ⟨_, e1, _, e2, b, C, dx, fs, _, rfl, ha, c, n, l, x, a, rfl, rfl, _, rfl, ?_⟩
  have q1 := q H (Same.refl _)
  by_cases h1 : x ≤ a
  · rw [decide_eq_true h1]
    refine iteT ⟨_, e3, a, y, rfl, rfl, ?_⟩
    have e : decide (x ≤ a ∧ a ≤ y) = decide (a ≤ y) := decide_eq_decide.mpr ⟨fun z => z.2, fun z => ⟨h1, z⟩⟩
    rw [e] at q1
    exact q1
  · rw [decide_eq_false h1]
    rw [decide_eq_false (fun z : x ≤ a ∧ a ≤ y => h1 z.1)] at q1
    exact iteF q1
def Bk.ofN (B : Bk) (n : Str) : Option Qd := (B.L.find? fun x => decide (x.2.name = n)).map (·.2)
def awakeB (B : Bk) (day : Option Int) (rest : Int) (n : Str) : Bool := match day with
  | none => true
  | some d => !restsB (B.days n) d rest
def foundB (B : Bk) (m : Str) (least most : Int) (kin : Str) (day : Option Int) (rest : Int) (n : Str) : Bool := match B.ofN n with
  | none => false
  | some q => fB q m least most kin && awakeB B day rest n
theorem ofN_some {K : PySem.W.Frag} {H : Hp} {b : Addr} {B : Bk} (h : BankAt K H b B) {x : Addr × Qd} (hx : x ∈ B.L) : B.ofN x.2.name = some x.2 := by
  unfold Bk.ofN
  have e : B.L.find? (fun y => decide (y.2.name = x.2.name)) = some x := by
    have hn := h.nod
    unfold Bk.names at hn
    generalize B.L = L at hx hn
    induction L with
    | nil => cases hx
    | cons y r ih =>
      have hc := List.nodup_cons.mp hn
      rcases List.mem_cons.mp hx with e | e
      · rw [e, List.find?_cons_of_pos (by simp)]
      · rw [List.find?_cons_of_neg]
        · exact ih e hc.2
        · intro z
          have z1 : y.2.name = x.2.name := by simpa using z
          refine hc.1 ?_
          show y.2.name ∈ _
          rw [z1]
          exact List.mem_map.mpr ⟨x, e, rfl⟩
  rw [e]
  rfl
def spFound (K : PySem.W.Frag) : Sp := fun vs H Q _ => ∃ b B m least most kin day rest, vs = [.ref b, .str m, .int least, .int most, .str kin, optV day, .int rest] ∧ BankAt K H b B ∧ (∀ d, day = some d → 0 ≤ d ∧ d ≤ 9999) ∧
  ∀ p H', Same H H' → H p = none → H' p = some (.lst ((B.inN.filter (foundB B m least most kin day rest)).map V.str)) → Q (.ref p) H'
theorem fn_B_found (T : Top w K mg) : ∃ fd, FunD K "found" "Bank.found" (defArgs s_B_found) (defBody s_B_found) (defScope s_B_found) [.str "", .int 1, .int 9, .str "", .non, .int 0] [] (He.ma K (He.ga K "Bank") "found") fd ∧ FnOk P w K mg base C8.CX0 5 (He.ma K (He.ga K "Bank") "found") fd ["self", "matter", "least", "most", "kin", "day", "rest"] (spFound K) := by
  obtain ⟨fd, F⟩ := T.d_B_found
  refine ⟨fd, F, ok_of F sc_B_found (fun vs H Q E h => ?_) fun cdv A outer s H vs Q E hr h => ?_⟩
  · obtain ⟨b, B, m, least, most, kin, day, rest, rfl, _⟩ := h
    rfl
  · obtain ⟨b, B, m, least, most, kin, day, rest, rfl, hB, hday, k⟩ := h
    have hu := hu_of hr
    refine ⟨_, (pss_cons (ps_set (i := 7) sc_B_found.nd rfl (Or.inl rfl) (pe_lst pa_nil))
      (pss_cons (ps_for PassesOwn.never rfl (pi_list (C8.pe_mt0 (met_B_names_in T) hr (by decide) (pv 0))) (pg_name (i := 8) sc_B_found.nd rfl (Or.inl rfl)) (pss_cons (ps_set (i := 9) sc_B_found.nd rfl (Or.inl rfl) (pe_dget hu (pe_fld (pv 0) rfl) (pv 8) (fun _ _ => rfl)))
      (pss_cons (ps_set (i := 10) sc_B_found.nd rfl (Or.inl rfl) (pe_and (pe_cmpR op_in_seq (pv 1) (pe_tup (pa_cons pe_str (pa_cons (pe_fld (pv 9) rfl) pa_nil))) (by rfl)) (pe_and (pe_cmpR op_in_seq (pv 4) (pe_tup (pa_cons pe_str (pa_cons (pe_fld (pv 9) rfl) pa_nil))) (by rfl)) (pe_one (pe_chain op_le op_le (pv 2) (pe_fld (pv 9) rfl) (pv 3))))))
      (pss_one (ps_if (PW.pt (pw_and (pt_val (pv 10)) (pw_and1 (PW.pt (pw_or (pt_cmpR op_isN (pv 5) pe_non (nomark _)) (pw_or1 (pt_not (pt_val (C8.pe_mt (met_B_rests T) hr (by decide) (pv 0) (pa_cons (pv 8) (pa_cons (pv 5) (pa_cons (pv 6) pa_nil)))))))))))) (pss_one (ps_expr (pe_bm PySem.F.plainAttrs_list PySem.F.slot_list_append PySem.F.type_list_append mt_append (pv 7) (pa_cons (pv 8) pa_nil)))) pss_nil)))))
      (pss_one (ps_ret (pv 7))))), ?_⟩
    refine ⟨(by decide : 0 ≤ sizeLine), fun t ht => ?_⟩
    have s0 : Same H (upd H t (.lst [])) := same_new ht
    refine ⟨_, rfl, b, B.dx, _, rfl, (hB.same s0).ins, lk_b_names_in B, b, B, rfl, hB.same s0, fun p H1 s1 hpn hp => ?_⟩
    have htp : t ≠ p := ne_none hpn upd_same
    refine ⟨p, rfl, ⟨_, SqL.is hp⟩, ?_⟩
    refine for_it (walk_list (K := K) (a := p) (xs := B.inN.map V.str)) (fun i σ H' => Same H H' ∧ H' p = some (.lst (B.inN.map V.str)) ∧ H' t = some (.lst (((B.inN.take i).filter (foundB B m least most kin day rest)).map V.str)) ∧
      ∃ y8 y9 y10, σ = [some (.ref b), some (.str m), some (.int least), some (.int most), some (.str kin), some (optV day), some (.int rest), some (.ref t), y8, y9, y10]) ⟨s0.trans s1, hp, s1 _ _ upd_same, _, _, _, rfl⟩ (fun i σ H' _ p => SqL.is p.2.1) (fun i x σ H2 H3 hi pp y => ?_) fun σ H2 pp => ?_
    · obtain ⟨s2, hp2, ht2, y8, y9, y10, rfl⟩ := pp
      obtain ⟨rfl, hx⟩ := y
      obtain ⟨n, hn, rfl⟩ := str_at hx
      have hmem := mem_inN.mp (List.mem_of_getElem? hn)
      obtain ⟨x, hxL, rfl⟩ := mem_names hmem.1
      have hB2 := hB.same s2
      obtain ⟨dq, ans, g, ea⟩ := hB2.qs x hxL
      refine ⟨_, rfl, b, _, B.dx, _, _, rfl, hB2.ins, T.c_Bank, T.n_Bank_kept_here, lk_kept B, _, rfl, B.k, .ref x.1, rfl, by
        rw [← hB2.get hxL]
        exact DGet.k (k := Sum.inr x.2.name) hB2.kept, ?_⟩
      refine EvB.and (ev_in2 rfl rfl ea T.c_Question T.n_Question_matter (lk_matter _ _ _)) (fun H4 s4 => EvB.and (ev_in2 rfl rfl (s4 _ _ ea) T.c_Question T.n_Question_kin (lk_kin _ _ _)) fun H5 s5 => ev_chain rfl rfl rfl (s5 _ _ (s4 _ _ ea)) T.c_Question T.n_Question_toil (lk_toil _ _ _)) _ fun H4 s4 => ?_
      have hB4 := hB2.same s4
      have hl : (((B.inN.take i).filter (foundB B m least most kin day rest)).map V.str).length < sizeLine := by
        rw [List.length_map]
        refine Nat.lt_of_le_of_lt (len_filter (m := 30) ?_) (by decide)
        exact Nat.le_trans (List.length_filter_le _ _) hB.lenN
      have hf : foundB B m least most kin day rest x.2.name = (fB x.2 m least most kin && awakeB B day rest x.2.name) := by
        unfold foundB
        rw [ofN_some hB hxL]
      have app : ∀ (c : Bool) (H5 : Hp), Same H4 H5 → foundB B m least most kin day rest x.2.name = c →
          (c = true → Same H (upd H5 t (.lst (((B.inN.take i).filter (foundB B m least most kin day rest)).map V.str ++ [.str x.2.name]))) ∧ upd H5 t (.lst (((B.inN.take i).filter (foundB B m least most kin day rest)).map V.str ++ [.str x.2.name])) p = some (.lst (B.inN.map V.str)) ∧
            upd H5 t (.lst (((B.inN.take i).filter (foundB B m least most kin day rest)).map V.str ++ [.str x.2.name])) t = some (.lst (((B.inN.take (i + 1)).filter (foundB B m least most kin day rest)).map V.str))) ∧
          (c = false → Same H H5 ∧ H5 p = some (.lst (B.inN.map V.str)) ∧ H5 t = some (.lst (((B.inN.take (i + 1)).filter (foundB B m least most kin day rest)).map V.str))) := by
        intro c H5 s5 hc
        refine ⟨fun ec => ⟨fun a u e => ?_, ?_, ?_⟩, fun ec => ⟨(s2.trans s4).trans s5, s5 _ _ (s4 _ _ hp2), ?_⟩⟩
        · rw [upd_ne (ne_none ht e)]
          exact s5 _ _ (s4 _ _ (s2 _ _ e))
        · rw [upd_ne htp.symm]
          exact s5 _ _ (s4 _ _ hp2)
        · rw [upd_same, take_yes hn (hc.trans ec), List.map_append]
          rfl
        · rw [take_no hn (hc.trans ec)]
          exact s5 _ _ (s4 _ _ ht2)
      refine ⟨_, rfl, _, rfl, ?_⟩
      unfold fB at hf
      generalize (decide (m ∈ [("" : Str), x.2.matter]) && (decide (kin ∈ [("" : Str), x.2.kin]) && decide (least ≤ x.2.toil ∧ x.2.toil ≤ most))) = c at hf ⊢
      cases c with
      | false =>
        obtain ⟨g1, g2, g3⟩ := (app false H4 (Same.refl _) (by rw [hf]; rfl)).2 rfl
        exact iteF (iteF ⟨g1, g2, g3, _, _, _, rfl⟩)
      | true =>
        refine iteT ⟨_, rfl, rfl, _, rfl, ?_⟩
        cases day with
        | none =>
          refine iteT (iteT ?_)
          obtain ⟨g1, g2, g3⟩ := (app true H4 (Same.refl _) (by rw [hf]; rfl)).1 rfl
          exact ⟨_, rfl, .inl ⟨rfl, _, SqL.is (s4 _ _ ht2)⟩, _, rfl, t, _, _, rfl, rfl, s4 _ _ ht2, hl, g1, g2, g3, _, _, _, rfl⟩
        | some d =>
          obtain ⟨d0, d1⟩ := hday d rfl
          refine iteF ⟨_, rfl, b, B.dx, _, rfl, hB4.ins, lk_b_rests B, _, rfl, _, rfl, _, rfl, b, B, x.2.name, d, rest, rfl, hB4, hmem.1, d0, d1, fun H5 s5 => ⟨_, rfl, ?_⟩⟩
          have hf' : foundB B m least most kin (some d) rest x.2.name = !restsB (B.days x.2.name) d rest := by
            rw [hf]
            rfl
          cases e : restsB (B.days x.2.name) d rest with
          | true =>
            obtain ⟨g1, g2, g3⟩ := (app false H5 s5 (by rw [hf', e]; rfl)).2 rfl
            exact iteF ⟨g1, g2, g3, _, _, _, rfl⟩
          | false =>
            refine iteT ?_
            obtain ⟨g1, g2, g3⟩ := (app true H5 s5 (by rw [hf', e]; rfl)).1 rfl
            exact ⟨_, rfl, .inl ⟨rfl, _, SqL.is (s5 _ _ (s4 _ _ ht2))⟩, _, rfl, t, _, _, rfl, rfl, s5 _ _ (s4 _ _ ht2), hl, g1, g2, g3, _, _, _, rfl⟩
    · obtain ⟨s2, hp2, ht2, y8, y9, y10, rfl⟩ := pp
      rw [List.length_map, List.take_length] at ht2
      exact ⟨_, rfl, k t H2 s2 ht ht2⟩
theorem metN_B_found_0_day_rest (T : Top w K mg) : MetN P w K mg base 5 (He.ga K "Bank") "found" 0 ["day", "rest"] (spFound K) (fun vs zs => vs ++ [.str "", .int 1, .int 9, .str ""] ++ zs) := by
  obtain ⟨fd, F, G⟩ := fn_B_found (P := P) (base := base) T
  exact metN_of 0 ["day", "rest"] (fun us its ws => us ++ its.take 4 ++ ws) T.c_Bank T.m_B_found F G (List.cons_ne_nil _ _) (fun r1 r2 r3 => (r1.append (r2.take 4)).append r3) fun _ _ _ _ _ _ _ us its ws h1 h2 h3 => match us, its, ws, h1, h2, h3 with | [_], [_, _, _, _, _, _], [_, _], _, _, _ => ⟨_, rfl, rfl⟩
theorem metN_B_found_0_matter_least_most (T : Top w K mg) : MetN P w K mg base 5 (He.ga K "Bank") "found" 0 ["matter", "least", "most"] (spFound K) (fun vs zs => vs ++ zs ++ [.str "", .non, .int 0]) := by
  obtain ⟨fd, F, G⟩ := fn_B_found (P := P) (base := base) T
  exact metN_of 0 ["matter", "least", "most"] (fun us its ws => us ++ ws ++ its.drop 3) T.c_Bank T.m_B_found F G (List.cons_ne_nil _ _) (fun r1 r2 r3 => (r1.append r3).append (r2.drop 3)) fun _ _ _ _ _ _ _ us its ws h1 h2 h3 => match us, its, ws, h1, h2, h3 with | [_], [_, _, _, _, _, _], [_, _, _], _, _, _ => ⟨_, rfl, rfl⟩
def spNeedBank (K : PySem.W.Frag) : Sp := fun vs H Q _ => ∃ b B, vs = [.ref b] ∧ BankAt K H b B ∧ Q .non H
theorem cal_need_bank (T : Top w K mg) : C8.Cal P w K mg base 1 "need_bank" (spNeedBank K) [] := by
  obtain ⟨fd, F⟩ := T.d_need_bank
  refine cal0_of F T.g_need_bank (ok_of F sc_need_bank (fun vs H Q E h => ?_) fun cdv A outer s H vs Q E hr h => ?_) fun _ _ _ _ _ _ us hl => match us, hl with | [_], _ => rfl
  · obtain ⟨b, B, rfl, _⟩ := h
    rfl
  · obtain ⟨b, B, rfl, hB, k⟩ := h
    refine ⟨_, (pss_one (ps_if (pt_not (pt_val (pe_callB call_isi (by rfl) T.f_isinstance b_isinstance (pa_cons (pv 0) (pa_cons (C8.pe_gc (v := .ref (He.ga _ "Bank")) (by rfl) ⟨_, T.g_Bank, rfl⟩) pa_nil))))) (pss_one ps_never) pss_nil)), ?_⟩
    exact ⟨_, rfl, _, _, _, _, true, rfl, .own _, tyx_ins hB.ins T.is_Bank, T.is_Bank.me, true, rfl, iteF k⟩
def spResting (K : PySem.W.Frag) : Sp := fun vs H Q _ => ∃ b B day rest, vs = [.ref b, .int day, .int rest] ∧ BankAt K H b B ∧ 0 ≤ day ∧ day ≤ 9999 ∧ 0 ≤ rest ∧ rest ≤ 9999 ∧
  ∀ p H', Same H H' → H p = none → H' p = some (.lst ((B.inN.filter fun n => restsB (B.days n) day rest).map V.str)) → Q (.ref p) H'
theorem cal_resting (T : Top w K mg) : C8.Cal P w K mg base 5 "resting" (spResting K) [] := by
  obtain ⟨fd, F⟩ := T.d_resting
  refine cal0_of F T.g_resting (ok_of F sc_resting (fun vs H Q E h => ?_) fun cdv A outer s H vs Q E hr h => ?_) fun _ _ _ _ _ _ us hl => match us, hl with | [_, _, _], _ => rfl
  · obtain ⟨b, B, day, rest, rfl, _⟩ := h
    rfl
  · obtain ⟨b, B, day, rest, rfl, hB, d0, d1, r0, r1, k⟩ := h
    refine ⟨_, (pss_cons (ps_expr (C8.pe_c (cal_need_bank T) hr (by decide) (by rfl) (pa_cons (pv 0) pa_nil)))
      (pss_cons (ps_expr (C8.pe_c (cal_need_day T) hr (by decide) (by rfl) (pa_cons (pv 1) pa_nil)))
      (pss_cons (ps_if (pt_not (pt_val (C8.pe_c (cal_is_whole_p1 T) hr (by decide) (by rfl) (pa_cons (pv 2) pa_nil)))) (pss_one ps_never) pss_nil)
      (pss_one (ps_ret (pe_lc (own := [("name", 3)]) (g := gName 3) rfl sc_resting.nd (pi_list (C8.pe_mt0 (met_B_names_in T) hr (by decide) (pv 0))) (blkOk_by (N := N_resting) (sc := defScope s_resting) (by decide +kernel)) (fun _ _ _ _ _ => (pg_name (i := 3) sc_resting.nd rfl (Or.inl rfl))) (fun _ _ _ _ _ => (pts_one (pt_val (C8.pe_mt (met_B_rests T) hr (by decide) (pv 0) (pa_cons (pv 3) (pa_cons (pv 1) (pa_cons (pv 2) pa_nil))))))) (fun _ _ _ _ _ => (pv 3)))))))), ?_⟩
    refine ⟨_, rfl, b, B, rfl, hB, ?_⟩
    refine ⟨_, rfl, day, rfl, d0, d1, ?_⟩
    refine ⟨_, rfl, rest, 0, 9999, rfl, true, congrArg V.bl (decide_eq_true ⟨r0, r1⟩), iteF ?_⟩
    refine ⟨_, rfl, b, B.dx, _, rfl, hB.ins, lk_b_names_in B, b, B, rfl, hB, fun p H1 s1 hpn hp => ?_⟩
    refine ⟨p, rfl, ⟨_, SqL.is hp⟩, fun D hD => ?_⟩
    refine lc_ext (walk_list (K := K) (a := p) (xs := B.inN.map V.str)) hD (fun i => ((B.inN.take i).filter fun n => restsB (B.days n) day rest).map V.str) rfl (fun H2 s2 => SqL.is (s2 _ _ hp)) (fun i hi => ?_) (fun i x H2 H3 hi sm y R kR R0 kR0 => ?_) fun H2 sm eD => ?_
    · rw [List.length_map]
      exact Nat.lt_of_le_of_lt (len_filter (Nat.le_trans (List.length_filter_le _ _) hB.lenN)) (by decide)
    · obtain ⟨rfl, hx⟩ := y
      obtain ⟨n, hn, rfl⟩ := str_at hx
      have hmem := mem_inN.mp (List.mem_of_getElem? hn)
      have hB2 := (hB.same s1).same sm
      refine ⟨rfl, _, rfl, b, B.dx, _, rfl, hB2.ins, lk_b_rests B, _, rfl, _, rfl, _, rfl, b, B, n, day, rest, rfl, hB2, hmem.1, d0, d1, fun H4 s4 => ⟨_, rfl, ?_⟩⟩
      cases e : restsB (B.days n) day rest with
      | true => exact iteT ⟨_, rfl, kR _ _ s4 (by rw [take_yes hn e, List.map_append]; rfl)⟩
      | false => exact iteF (kR0 _ s4 (by rw [take_no hn e]))
    · rw [List.length_map, List.take_length] at eD
      exact k D _ (s1.trans sm) (Same.none s1 hD) eD
/-! ### banks change -/
theorem putK_none {kvs : List (Key × V)} {k : Key} {v : V} (h : valV kvs k = none) : putK kvs k v = kvs ++ [(k, v)] := by
  unfold putK
  rw [if_neg]
  rw [valV_any, h]
  simp
theorem putK_len {kvs : List (Key × V)} {k : Key} {v : V} : (putK kvs k v).length ≤ kvs.length + 1 := by
  unfold putK
  split
  · rw [List.length_map]
    exact Nat.le_succ _
  · rw [List.length_append]
    exact Nat.le_refl _
/-- all stands but the bank's own three tables -/
def KeepB (B : Bk) (H H' : Hp) : Prop := ∀ a u, a ≠ B.k → a ≠ B.o → a ≠ B.d → H a = some u → H' a = some u
def Bk.more (B : Bk) (a : Addr) (q : Qd) : Bk := { B with L := B.L ++ [(a, q)], days := fun n => if n = q.name then [] else B.days n, c := B.c + 1 }
def Bk.used (B : Bk) (n : Str) (ds : List Int) : Bk := { B with days := fun m => if m = n then ds else B.days m, c := B.c + 1 }
def Bk.less (B : Bk) (n : Str) : Bk := { B with outs := fun m => decide (m = n) || B.outs m, c := B.c + 1 }
theorem BankAt.apart {H H' : Hp} {b : Addr} {B : Bk} (h : BankAt K H b B) (kb : KeepB B H H') {a : Addr} {u : HO} (e : H a = some u) (hu : ∀ kvs, u ≠ .dK kvs) : H' a = some u := by
  obtain ⟨ok, ho, _⟩ := h.outd
  obtain ⟨dk, hd, _⟩ := h.dayd
  exact kb a u (ne_of e h.kept (hu _)) (ne_of e ho (hu _)) (ne_of e hd (hu _)) e
theorem BankAt.keepIns {H H' : Hp} {b : Addr} {B : Bk} (h : BankAt K H b B) (kb : KeepB B H H') : H' b = some (.ins (He.ga K "Bank") B.dx B.flds) := h.apart kb h.ins (fun _ => nofun)
theorem BankAt.keepQs {H H' : Hp} {b : Addr} {B : Bk} (h : BankAt K H b B) (kb : KeepB B H H') {a : Addr} {q : Qd} (e : QAt K H a q) : QAt K H' a q := by
  obtain ⟨dx, ans, r, ea⟩ := e
  exact ⟨dx, ans, r, h.apart kb ea (fun _ => nofun)⟩
theorem BankAt.keepLst {H H' : Hp} {b : Addr} {B : Bk} (h : BankAt K H b B) (kb : KeepB B H H') {a : Addr} {xs : List V} (e : H a = some (.lst xs)) : H' a = some (.lst xs) := h.apart kb e (fun _ => nofun)
def spAdded (K : PySem.W.Frag) : Sp := fun vs H Q _ => ∃ b B a q, vs = [.ref b, .ref a] ∧ BankAt K H b B ∧ QAt K H a q ∧ q.name ∉ B.names ∧ B.L.length < 30 ∧ B.c < 60 ∧ ∀ H', BankAt K H' b (B.more a q) → KeepB B H H' → Q .non H'
def spUsed (K : PySem.W.Frag) : Sp := fun vs H Q _ => ∃ b B n day, vs = [.ref b, .str n, .int day] ∧ BankAt K H b B ∧ n ∈ B.names ∧ 0 ≤ day ∧ day ≤ 9999 ∧ B.c < 60 ∧ ∀ ds H', BankAt K H' b (B.used n ds) → KeepB B H H' → Q .non H'
def spTaken (K : PySem.W.Frag) : Sp := fun vs H Q _ => ∃ b B n, vs = [.ref b, .str n, .str "wrong"] ∧ BankAt K H b B ∧ n ∈ B.names ∧ B.c < 60 ∧ ∀ H', BankAt K H' b (B.less n) → KeepB B H H' → Q .non H'
theorem text_wrong : TextP ("wrong" : Str) := ⟨by decide +kernel, by decide +kernel, by decide +kernel, by decide +kernel⟩
theorem met_B_taken_out_p1 (T : Top w K mg) : C8.Met P w K mg base 2 (He.ga K "Bank") "taken_out" (spTaken K) [.str "wrong"] := by
  obtain ⟨fd, F⟩ := T.d_B_taken_out
  refine metD_of (n := 2) 0 T.c_Bank T.m_B_taken_out F (ok_of F sc_B_taken_out (fun vs H Q E h => ?_) fun cdv A outer s H vs Q E hr h => ?_) (List.cons_ne_nil _ _) rfl fun _ _ _ _ _ _ _ us its hl hi => match us, its, hl, hi with | [_, _], [_], _, _ => ⟨_, rfl, rfl⟩
  · obtain ⟨b, B, n, rfl, _⟩ := h
    rfl
  · obtain ⟨b, B, n, rfl, hB, hn, hc, k⟩ := h
    have hu := hu_of hr
    obtain ⟨ok, ho, hl, hs⟩ := id hB.outd
    refine ⟨_, (pss_cons (ps_expr (C8.pe_mt (met_B_need_there T) hr (by decide) (pv 0) (pa_cons (pv 1) pa_nil)))
      (pss_cons (ps_if (pt_not (pt_val (C8.pe_c (cal_is_text T) hr (by decide) (by rfl) (pa_cons (pv 2) pa_nil)))) (pss_one ps_never) pss_nil)
      (pss_one (ps_dput hu (pe_fld (pv 0) rfl) (pv 1) (pv 2) rfl)))), ?_⟩
    refine ⟨_, rfl, b, B.dx, _, rfl, hB.ins, lk_b_need_there B, _, rfl, b, B, n, rfl, hB, hn, ?_⟩
    refine ⟨_, rfl, _, rfl, text_wrong, fun H1 s1 => ⟨true, rfl, iteF ?_⟩⟩
    have hB1 := hB.same s1
    refine ⟨_, rfl, _, rfl, b, _, B.dx, _, _, rfl, hB1.ins, T.c_Bank, T.n_Bank_out_here, lk_out B, _, rfl, B.o, _, rfl, DPut.k (k := Sum.inr n) (s1 _ _ ho) (Nat.lt_of_le_of_lt (Nat.le_trans hl hB.cfew) (by decide)), ?_⟩
    have kb : KeepB B H (upd H1 B.o (.dK (putK ok (Sum.inr n) (.str "wrong")))) := fun a u _ h2 _ e => by
      rw [upd_ne h2]
      exact s1 _ _ e
    refine k _ ⟨hB.keepIns kb, ?_, ⟨_, upd_same, Nat.le_trans (length_putK _ _ _) (Nat.succ_le_succ hl), fun m => ?_⟩, ?_, fun x hx => hB.keepQs kb (hB.qs x hx), hB.few, hB.nod, hc, fun m => Nat.le_succ_of_le (hB.dfew m), hB.ko, hB.kd, hB.od⟩ kb
    · show upd H1 B.o _ B.k = _
      rw [upd_ne hB.ko]
      exact hB1.kept
    · rw [valV_put]
      show _ = (decide (m = n) || B.outs m)
      by_cases e : m = n
      · rw [e, if_pos rfl, decide_eq_true rfl]
        rfl
      · rw [if_neg (fun z => e (by injection z)), decide_eq_false e]
        exact hs m
    · obtain ⟨dk, hd, hdl, hds⟩ := id hB.dayd
      refine ⟨dk, ?_, Nat.le_succ_of_le hdl, fun x hx => ?_⟩
      · show upd H1 B.o _ B.d = _
        rw [upd_ne hB.od.symm]
        exact s1 _ _ hd
      · obtain ⟨p, e1, e2⟩ := hds x hx
        exact ⟨p, e1, hB.keepLst kb e2⟩
theorem met_B_used_on (T : Top w K mg) : C8.Met P w K mg base 3 (He.ga K "Bank") "used_on" (spUsed K) [] := by
  obtain ⟨fd, F⟩ := T.d_B_used_on
  refine met0_of T.c_Bank T.m_B_used_on F (ok_of F sc_B_used_on (fun vs H Q E h => ?_) fun cdv A outer s H vs Q E hr h => ?_) fun _ _ _ _ _ _ us hl => match us, hl with | [_, _, _], _ => rfl
  · obtain ⟨b, B, n, day, rfl, _⟩ := h
    rfl
  · obtain ⟨b, B, n, day, rfl, hB, hn, d0, d1, hc, k⟩ := h
    have hu := hu_of hr
    obtain ⟨x, hx, rfl⟩ := mem_names hn
    obtain ⟨dk, hd, hdl, hds⟩ := id hB.dayd
    obtain ⟨p, e1, e2⟩ := hds x hx
    have same : ∀ ds : List Int, ds = B.days x.2.name → ∀ m, (B.used x.2.name ds).days m = B.days m := fun ds e m => by
      show (if m = x.2.name then ds else B.days m) = B.days m
      split
      · rename_i h
        rw [h, e]
      · rfl
    refine ⟨_, (pss_cons (ps_expr (C8.pe_mt (met_B_need_there T) hr (by decide) (pv 0) (pa_cons (pv 1) pa_nil)))
      (pss_cons (ps_expr (C8.pe_c (cal_need_day T) hr (by decide) (by rfl) (pa_cons (pv 2) pa_nil)))
      (pss_one (ps_if (pt_cmpR op_notIn_seq (pv 2) (pe_dget hu (pe_fld (pv 0) rfl) (pv 1) (fun _ _ => rfl)) (by rfl)) (pss_one (ps_dput hu (pe_fld (pv 0) rfl) (pv 1) (pe_callB cr_sorted (by rfl) T.f_sorted b_sorted (pa_cons (pe_op op_cat (pe_dget hu (pe_fld (pv 0) rfl) (pv 1) (fun _ _ => rfl)) (pe_lst (pa_cons (pv 2) pa_nil))) pa_nil)) rfl)) pss_nil)))), ?_⟩
    refine ⟨_, rfl, b, B.dx, _, rfl, hB.ins, lk_b_need_there B, _, rfl, b, B, _, rfl, hB, hn, ?_⟩
    refine ⟨_, rfl, day, rfl, d0, d1, ?_⟩
    have hg : DGet H B.d (.str x.2.name) (some (.ref p)) := by
      rw [← e1]
      exact DGet.k (k := Sum.inr x.2.name) hd
    have hfl : ((B.days x.2.name).map V.int).all flatV = true := by
      rw [List.all_map]
      exact List.all_eq_true.mpr fun _ _ => rfl
    refine ⟨_, rfl, _, rfl, b, _, B.dx, _, _, rfl, hB.ins, T.c_Bank, T.n_Bank_days_here, lk_days B, _, rfl, B.d, _, rfl, hg, p, _, rfl, .inl (SqL.is e2), rfl, hfl, _, rfl, ?_⟩
    cases hin : inV (.int day) ((B.days x.2.name).map V.int) with
    | true =>
      refine iteF (k (B.days x.2.name) H ⟨hB.ins, hB.kept, ?_, ⟨dk, hd, Nat.le_succ_of_le hdl, fun y hy => ?_⟩, hB.qs, hB.few, hB.nod, hc, fun m => ?_, hB.ko, hB.kd, hB.od⟩ fun a u _ _ _ e => e)
      · obtain ⟨ok, ho, hl, hs⟩ := id hB.outd
        exact ⟨ok, ho, Nat.le_succ_of_le hl, hs⟩
      · rw [same _ rfl]
        exact hds y hy
      · rw [same _ rfl]
        exact Nat.le_succ_of_le (hB.dfew m)
    | false =>
      refine iteT ?_
      have hlen : (B.days x.2.name).length ≤ 60 := Nat.le_trans (hB.dfew _) hB.cfew
      refine ⟨_, rfl, b, _, B.dx, _, _, rfl, hB.ins, T.c_Bank, T.n_Bank_days_here, lk_days B, _, rfl, B.d, _, rfl, hg, _, rfl, (by decide : 1 ≤ sizeLine), fun p1 hp1 => ?_⟩
      have s1 : Same H (upd H p1 (.lst [.int day])) := same_new hp1
      have hcat : ((B.days x.2.name).map V.int).length + 1 ≤ sizeLine := by
        rw [List.length_map]
        exact Nat.le_trans (Nat.succ_le_succ hlen) (by decide)
      refine ⟨p, p1, _, _, rfl, rfl, s1 _ _ e2, upd_same, hcat, fun p2 hp2 => ?_⟩
      have s2 := s1.trans (same_new hp2 (o := .lst ((B.days x.2.name).map V.int ++ [.int day])))
      refine ⟨p2, B.days x.2.name ++ [day], rfl, SqL.is (by rw [upd_same, List.map_append]; rfl), ?_, fun ns p3 hp hs hp3 => ?_⟩
      · rw [List.length_append]
        exact Nat.lt_of_le_of_lt (Nat.succ_le_succ hlen) (by decide)
      · have s3 := s2.trans (same_new hp3 (o := .lst (ns.map V.int)))
        have hB3 := hB.same s3
        have hdl2 : dk.length < sizeLine := Nat.lt_of_le_of_lt (Nat.le_trans hdl hB.cfew) (by decide)
        refine ⟨_, rfl, b, _, B.dx, _, _, rfl, hB3.ins, T.c_Bank, T.n_Bank_days_here, lk_days B, _, rfl, B.d, _, rfl, DPut.k (k := Sum.inr x.2.name) (s3 _ _ hd) hdl2, ?_⟩
        have hp3H : H p3 = none := Same.none s2 hp3
        have nd : p3 ≠ B.d := fun e => by
          rw [e, hd] at hp3H
          cases hp3H
        have kb : ∀ Z, KeepB B H (upd (upd (upd (upd H p1 (.lst [.int day])) p2 (.lst ((B.days x.2.name).map V.int ++ [.int day]))) p3 (.lst (ns.map V.int))) B.d Z) := fun Z a u _ _ h3 e => by
          rw [upd_ne h3]
          exact s3 _ _ e
        refine k ns _ ⟨hB.keepIns (kb _), ?_, ?_, ⟨_, upd_same, Nat.le_trans (length_putK _ _ _) (Nat.succ_le_succ hdl), fun y hy => ?_⟩, fun y hy => hB.keepQs (kb _) (hB.qs y hy), hB.few, hB.nod, hc, fun m => ?_, hB.ko, hB.kd, hB.od⟩ (kb _)
        · show upd _ B.d _ B.k = _
          rw [upd_ne hB.kd]
          exact hB3.kept
        · obtain ⟨ok, ho, hl, hs⟩ := id hB3.outd
          refine ⟨ok, ?_, Nat.le_succ_of_le hl, hs⟩
          show upd _ B.d _ B.o = _
          rw [upd_ne hB.od]
          exact ho
        · rw [valV_put]
          show ∃ q, _ ∧ _ = some (HO.lst ((if y.2.name = x.2.name then ns else B.days y.2.name).map V.int))
          by_cases e : y.2.name = x.2.name
          · rw [if_pos e, if_pos (by rw [e])]
            refine ⟨p3, rfl, ?_⟩
            rw [upd_ne nd]
            exact upd_same
          · rw [if_neg e, if_neg (fun z => e (by injection z))]
            obtain ⟨q, g1, g2⟩ := hds y hy
            exact ⟨q, g1, hB.keepLst (kb _) g2⟩
        · show (if m = x.2.name then ns else B.days m).length ≤ B.c + 1
          split
          · rw [hp.length_eq, List.length_append]
            exact Nat.succ_le_succ (hB.dfew _)
          · exact Nat.le_succ_of_le (hB.dfew m)
theorem met_B_added (T : Top w K mg) : C8.Met P w K mg base 2 (He.ga K "Bank") "added" (spAdded K) [] := by
  obtain ⟨fd, F⟩ := T.d_B_added
  refine met0_of T.c_Bank T.m_B_added F (ok_of F sc_B_added (fun vs H Q E h => ?_) fun cdv A outer s H vs Q E hr h => ?_) fun _ _ _ _ _ _ us hl => match us, hl with | [_, _], _ => rfl
  · obtain ⟨b, B, a, q, rfl, _⟩ := h
    rfl
  · obtain ⟨b, B, a, q, rfl, hB, hq, hn, hL, hc, k⟩ := h
    have hu := hu_of hr
    obtain ⟨dk, hd, hdl, hds⟩ := id hB.dayd
    obtain ⟨dq, ans, g, ea⟩ := id hq
    have hv : valV (kvK B.L) (Sum.inr q.name) = none := val_none hn
    refine ⟨_, (pss_cons (ps_expr (C8.pe_c (cal_need_question T) hr (by decide) (by rfl) (pa_cons (pv 1) pa_nil)))
      (pss_cons (ps_if (pt_cmp (pc_din hu (pe_fld (pv 1) rfl) (pe_fld (pv 0) rfl))) (pss_one ps_never) pss_nil)
      (pss_cons (ps_if (pt_cmpR op_eq (pe_callB call_lenD (by rfl) T.f_len b_len (pa_cons (pe_fld (pv 0) rfl) pa_nil)) (C8.pe_gc (by rfl) T.i_MOST_QUESTIONS) (nomark _)) (pss_one ps_never) pss_nil)
      (pss_cons (ps_dput hu (pe_fld (pv 0) rfl) (pe_fld (pv 1) rfl) (pv 1) rfl)
      (pss_one (ps_dput hu (pe_fld (pv 0) rfl) (pe_fld (pv 1) rfl) (pe_lst pa_nil) rfl)))))), ?_⟩
    refine ⟨_, rfl, a, q, rfl, hq, ?_⟩
    refine ⟨_, rfl, a, _, dq, _, _, rfl, ea, T.c_Question, T.n_Question_name, lk_name _ _ _, _, rfl, b, _, B.dx, _, _, rfl, hB.ins, T.c_Bank, T.n_Bank_kept_here, lk_kept B, B.k, _, rfl, DGet.k (k := Sum.inr q.name) hB.kept, _, rfl, ?_⟩
    rw [hv]
    refine iteF ?_
    have hlk : (kvK B.L).length = B.L.length := List.length_map _
    refine ⟨_, rfl, b, _, B.dx, _, _, rfl, hB.ins, T.c_Bank, T.n_Bank_kept_here, lk_kept B, B.k, _, rfl, hB.kept, rfl, _, rfl, ?_⟩
    rw [decide_eq_false (fun e : V.int ((kvK B.L).length : Nat) = V.int 60 => by
      injection e with e
      omega)]
    refine iteF ?_
    refine ⟨_, rfl, _, rfl, b, _, B.dx, _, _, rfl, hB.ins, T.c_Bank, T.n_Bank_kept_here, lk_kept B, _, rfl, a, _, dq, _, _, rfl, ea, T.c_Question, T.n_Question_name, lk_name _ _ _, B.k, _, rfl, DPut.k (k := Sum.inr q.name) hB.kept (by
      rw [hlk]
      exact Nat.lt_of_le_of_lt hB.few (by decide)), ?_⟩
    rw [putK_none hv]
    have ek : kvK B.L ++ [(Sum.inr q.name, V.ref a)] = kvK (B.L ++ [(a, q)]) := by
      unfold kvK
      rw [List.map_append]
      rfl
    rw [ek]
    have kb1 : KeepB B H (upd H B.k (.dK (kvK (B.L ++ [(a, q)])))) := fun c u h1 _ _ e => by
      rw [upd_ne h1]
      exact e
    have ea1 : upd H B.k (.dK (kvK (B.L ++ [(a, q)]))) a = some (.ins (He.ga K "Question") dq (qFlds q ans g)) := hB.apart kb1 ea (fun _ => nofun)
    have hd1 : upd H B.k (.dK (kvK (B.L ++ [(a, q)]))) B.d = some (.dK dk) := by
      rw [upd_ne hB.kd.symm]
      exact hd
    refine ⟨(by decide : 0 ≤ sizeLine), fun p hp => ?_⟩
    have sp := same_new hp (o := .lst [])
    have hdl2 : dk.length < sizeLine := Nat.lt_of_le_of_lt (Nat.le_trans hdl hB.cfew) (by decide)
    refine ⟨_, rfl, b, _, B.dx, _, _, rfl, sp _ _ (hB.keepIns kb1), T.c_Bank, T.n_Bank_days_here, lk_days B, _, rfl, a, _, dq, _, _, rfl, sp _ _ ea1, T.c_Question, T.n_Question_name, lk_name _ _ _, B.d, _, rfl, DPut.k (k := Sum.inr q.name) (sp _ _ hd1) hdl2, ?_⟩
    have np : p ≠ B.d := fun e => by
      rw [e, hd1] at hp
      cases hp
    have hpH : H p = none := by
      cases e : H p with
      | none => rfl
      | some u =>
        by_cases h : p = B.k
        · rw [h, upd_same] at hp
          cases hp
        · rw [upd_ne h, e] at hp
          cases hp
    have npk : p ≠ B.k := fun e => by
      rw [e, hB.kept] at hpH
      cases hpH
    have kb : ∀ Z, KeepB B H (upd (upd (upd H B.k (.dK (kvK (B.L ++ [(a, q)])))) p (.lst [])) B.d Z) := fun Z c u h1 h2 h3 e => by
      rw [upd_ne h3]
      exact sp _ _ (kb1 c u h1 h2 h3 e)
    have hnames : (B.more a q).names = B.names ++ [q.name] := by
      show (B.L ++ [(a, q)]).map (fun x => x.2.name) = _
      rw [List.map_append]
      rfl
    refine k _ ⟨hB.keepIns (kb _), ?_, ?_, ⟨_, upd_same, Nat.le_trans (length_putK _ _ _) (Nat.succ_le_succ hdl), fun y hy => ?_⟩, fun y hy => ?_, ?_, ?_, hc, fun m => ?_, hB.ko, hB.kd, hB.od⟩ (kb _)
    · show upd _ B.d _ B.k = _
      rw [upd_ne hB.kd, upd_ne npk.symm]
      exact upd_same
    · obtain ⟨ok, ho, hl, hs⟩ := id hB.outd
      refine ⟨ok, ?_, Nat.le_succ_of_le hl, hs⟩
      show upd _ B.d _ B.o = _
      rw [upd_ne hB.od]
      refine sp _ _ ?_
      rw [upd_ne hB.ko.symm]
      exact ho
    · rw [valV_put]
      show ∃ r, _ ∧ _ = some (HO.lst ((if y.2.name = q.name then [] else B.days y.2.name).map V.int))
      by_cases e : y.2.name = q.name
      · rw [if_pos e, if_pos (by rw [e])]
        refine ⟨p, rfl, ?_⟩
        rw [upd_ne np]
        exact upd_same
      · rw [if_neg e, if_neg (fun z => e (by injection z))]
        have hy1 : y ∈ B.L := by
          rcases List.mem_append.mp hy with h | h
          · exact h
          · rw [List.mem_singleton.mp h] at e
            exact absurd rfl e
        obtain ⟨r, g1, g2⟩ := hds y hy1
        exact ⟨r, g1, hB.keepLst (kb _) g2⟩
    · rcases List.mem_append.mp hy with h | h
      · exact hB.keepQs (kb _) (hB.qs y h)
      · rw [List.mem_singleton.mp h]
        exact hB.keepQs (kb _) hq
    · show (B.L ++ [(a, q)]).length ≤ 30
      rw [List.length_append]
      exact hL
    · rw [hnames, List.nodup_append]
      refine ⟨hB.nod, by simp, fun x hx y hy => ?_⟩
      rw [List.mem_singleton.mp hy]
      exact fun e => hn (e ▸ hx)
    · show (if m = q.name then [] else B.days m).length ≤ B.c + 1
      split
      · exact Nat.zero_le _
      · exact Nat.le_succ_of_le (hB.dfew m)
def spBInit (K : PySem.W.Frag) : Sp := fun vs H Q _ => ∃ b l L dx, vs = [.ref b, .ref l] ∧ H b = some (.ins (He.ga K "Bank") dx []) ∧ H l = some (.lst (rfs L)) ∧ QsAt K H l L ∧ (L.map fun x => x.2.name).Nodup ∧ L.length ≤ 20 ∧
  ∀ B H', BankAt K H' b B → B.L = L → B.outs = (fun _ => false) → B.c ≤ 20 → H B.k = none → H B.o = none → H B.d = none → (∀ a u, a ≠ b → H a = some u → H' a = some u) → Q .non H'
theorem mak_B_init (T : Top w K mg) : C8.Mak P w K mg base 3 "Bank" (He.ga K "Bank") (spBInit K) [] := by
  obtain ⟨fd, F⟩ := T.d_B_init
  refine makD_of (n := 2) "Bank" 1 T.k_Bank T.g_Bank F (ok_of F sc_B_init (fun vs H Q E h => ?_) fun cdv A outer s H vs Q E hr h => ?_) (List.cons_ne_nil _ _) rfl fun _ _ _ _ _ _ _ us its hl hi => match us, its, hl, hi with | [_, _], [_], _, _ => ⟨_, rfl, rfl⟩
  · obtain ⟨b, l, L, dx, rfl, _⟩ := h
    rfl
  · obtain ⟨b, l, L, dx, rfl, hb, hl, hL, hn, h20, k⟩ := h
    refine ⟨_, (pss_cons (ps_fld (pv 0) pe_dnewK rfl)
      (pss_cons (ps_fld (pv 0) pe_dnewK rfl)
      (pss_cons (ps_fld (pv 0) pe_dnewK rfl)
      (pss_cons (ps_if (pt_cmpR op_isN (pv 1) pe_non (nomark _)) (pss_one (ps_set (i := 1) sc_B_init.nd rfl (Or.inl rfl) (pe_lst pa_nil))) pss_nil)
      (pss_cons (ps_if (pt_not (pt_val (pe_callB call_isiT (by rfl) T.f_isinstance b_isinstance (pa_cons (pv 1) (pa_cons (pe_tup (pa_cons (pe_bltn (v := .ty "list") (by rfl) T.f_list b_list rfl) (pa_cons (pe_bltn (v := .ty "tuple") (by rfl) T.f_tuple b_tuple rfl) pa_nil))) pa_nil))))) (pss_one ps_never) pss_nil)
      (pss_one (ps_for PassesOwn.never rfl (pi_list (pv 1)) (pg_name (i := 2) sc_B_init.nd rfl (Or.inl rfl)) (pss_one (ps_expr (C8.pe_mt (met_B_added T) hr (by decide) (pv 0) (pa_cons (pv 2) pa_nil))))))))))), ?_⟩
    refine fun p1 hp1 => ⟨_, rfl, b, _, dx, [], rfl, same_new hp1 _ _ hb, T.c_Bank, T.n_Bank_kept_here, by decide, ?_⟩
    have f1 : ∀ a u, a ≠ b → H a = some u → upd (upd H p1 (.dK [])) b (.ins (He.ga K "Bank") dx (putF "kept_here" (.ref p1) [])) a = some u := fun a u h e => by
      rw [upd_ne h]
      exact same_new hp1 _ _ e
    have g1 : upd (upd H p1 (.dK [])) b (.ins (He.ga K "Bank") dx (putF "kept_here" (.ref p1) [])) b = some (.ins (He.ga K "Bank") dx [("kept_here", .ref p1)]) := upd_same
    have k1 : upd (upd H p1 (.dK [])) b (.ins (He.ga K "Bank") dx (putF "kept_here" (.ref p1) [])) p1 = some (.dK []) := by
      rw [upd_ne (ne_none hp1 hb).symm]
      exact upd_same
    generalize upd (upd H p1 (.dK [])) b (.ins (He.ga K "Bank") dx (putF "kept_here" (.ref p1) [])) = H1 at f1 g1 k1 ⊢
    refine fun p2 hp2 => ⟨_, rfl, b, _, dx, _, rfl, same_new hp2 _ _ g1, T.c_Bank, T.n_Bank_out_here, (by decide : (1 : Nat) < 1000), ?_⟩
    have n2 : H p2 = none := by
      cases e : H p2 with
      | none => rfl
      | some u =>
        by_cases h : p2 = b
        · rw [h, g1] at hp2
          cases hp2
        · rw [f1 _ _ h e] at hp2
          cases hp2
    have f2 : ∀ a u, a ≠ b → H1 a = some u → upd (upd H1 p2 (.dK [])) b (.ins (He.ga K "Bank") dx (putF "out_here" (.ref p2) [("kept_here", .ref p1)])) a = some u := fun a u h e => by
      rw [upd_ne h]
      exact same_new hp2 _ _ e
    have g2 : upd (upd H1 p2 (.dK [])) b (.ins (He.ga K "Bank") dx (putF "out_here" (.ref p2) [("kept_here", .ref p1)])) b = some (.ins (He.ga K "Bank") dx [("kept_here", .ref p1), ("out_here", .ref p2)]) := upd_same
    have k2 : upd (upd H1 p2 (.dK [])) b (.ins (He.ga K "Bank") dx (putF "out_here" (.ref p2) [("kept_here", .ref p1)])) p2 = some (.dK []) := by
      rw [upd_ne (ne_none hp2 g1).symm]
      exact upd_same
    have e12 : p1 ≠ p2 := ne_none hp2 k1
    generalize upd (upd H1 p2 (.dK [])) b (.ins (He.ga K "Bank") dx (putF "out_here" (.ref p2) [("kept_here", .ref p1)])) = H2 at f2 g2 k2 ⊢
    refine fun p3 hp3 => ⟨_, rfl, b, _, dx, _, rfl, same_new hp3 _ _ g2, T.c_Bank, T.n_Bank_days_here, (by decide : (2 : Nat) < 1000), ?_⟩
    have pb1 : p1 ≠ b := (ne_none hp1 hb).symm
    have pb2 : p2 ≠ b := (ne_none n2 hb).symm
    have n3 : H p3 = none := by
      cases e : H p3 with
      | none => rfl
      | some u =>
        by_cases h : p3 = b
        · rw [h, g2] at hp3
          cases hp3
        · rw [f2 _ _ h (f1 _ _ h e)] at hp3
          cases hp3
    have f3 : ∀ a u, a ≠ b → H2 a = some u → upd (upd H2 p3 (.dK [])) b (.ins (He.ga K "Bank") dx (putF "days_here" (.ref p3) [("kept_here", .ref p1), ("out_here", .ref p2)])) a = some u := fun a u h e => by
      rw [upd_ne h]
      exact same_new hp3 _ _ e
    have g3 : upd (upd H2 p3 (.dK [])) b (.ins (He.ga K "Bank") dx (putF "days_here" (.ref p3) [("kept_here", .ref p1), ("out_here", .ref p2)])) b = some (.ins (He.ga K "Bank") dx [("kept_here", .ref p1), ("out_here", .ref p2), ("days_here", .ref p3)]) := upd_same
    have k3 : upd (upd H2 p3 (.dK [])) b (.ins (He.ga K "Bank") dx (putF "days_here" (.ref p3) [("kept_here", .ref p1), ("out_here", .ref p2)])) p3 = some (.dK []) := by
      rw [upd_ne (ne_none hp3 g2).symm]
      exact upd_same
    have e13 : p1 ≠ p3 := ne_none hp3 (f2 _ _ pb1 k1)
    have e23 : p2 ≠ p3 := ne_none hp3 k2
    have k31 := f3 _ _ pb1 (f2 _ _ pb1 k1)
    have k32 := f3 _ _ pb2 k2
    have f0 : ∀ a u, a ≠ b → H a = some u → upd (upd H2 p3 (.dK [])) b (.ins (He.ga K "Bank") dx (putF "days_here" (.ref p3) [("kept_here", .ref p1), ("out_here", .ref p2)])) a = some u := fun a u h e => f3 _ _ h (f2 _ _ h (f1 _ _ h e))
    generalize upd (upd H2 p3 (.dK [])) b (.ins (He.ga K "Bank") dx (putF "days_here" (.ref p3) [("kept_here", .ref p1), ("out_here", .ref p2)])) = H3 at g3 k3 k31 k32 f0 ⊢
    have lb : l ≠ b := ne_of hl hb nofun
    have hB0 : BankAt K H3 b ⟨p1, p2, p3, dx, [], fun _ => false, fun _ => [], 0⟩ := ⟨g3, k31, ⟨[], k32, Nat.le_refl _, fun _ => rfl⟩, ⟨[], k3, Nat.le_refl _, fun _ h => (nomatch h)⟩, (fun _ h => (nomatch h)), Nat.zero_le _, List.nodup_nil, Nat.zero_le _, fun _ => Nat.le_refl _, e12, e13, e23⟩
    refine ⟨_, rfl, rfl, _, rfl, ?_⟩
    rw [decide_eq_false (fun e : V.ref l = V.non => by cases e)]
    refine iteF ?_
    refine ⟨_, rfl, (by decide : 2 ≤ sizeLine), fun tp htp => ⟨_, tp, _, _, _, true, rfl, upd_same, cls2, .base (.lst (same_new htp _ _ (f0 _ _ lb hl))), ka_list, true, rfl, iteF ?_⟩⟩
    have s4 := same_new htp (o := .tup [.ty "list", .ty "tuple"])
    refine ⟨_, rfl, l, rfl, ⟨_, SqL.is (s4 _ _ (f0 _ _ lb hl))⟩, ?_⟩
    refine for_it (walk_list (K := K) (a := l) (xs := rfs L)) (fun i σ H' => (∃ B, BankAt K H' b B ∧ B.L = L.take i ∧ B.outs = (fun _ => false) ∧ B.c = i ∧ B.k = p1 ∧ B.o = p2 ∧ B.d = p3) ∧ (∀ a u, a ≠ b → H a = some u → H' a = some u) ∧ ∃ y, σ = [some (.ref b), some (.ref l), y])
      ⟨⟨_, hB0.same s4, by rw [List.take_zero], rfl, rfl, rfl, rfl, rfl⟩, fun a u h e => s4 _ _ (f0 a u h e), _, rfl⟩ (fun i σ H' _ p => SqL.is (p.2.1 _ _ lb hl)) (fun i x σ H4 H5 hi p y => ?_) fun σ H4 p => ?_
    · obtain ⟨⟨B, hB, eL, eo, ec, ek, eo2, ed⟩, fr, z, rfl⟩ := p
      obtain ⟨rfl, hx⟩ := y
      obtain ⟨q, hq, rfl⟩ := refs_at hx
      have hi' : i < L.length := (List.getElem?_eq_some_iff.mp hq).1
      have hlen : B.L.length = i := by rw [eL, List.length_take]; omega
      have hqA : QAt K H5 q.1 q.2 := by
        obtain ⟨dq, ans, g, ea⟩ := hL.2.1 q (List.mem_of_getElem? hq)
        exact ⟨dq, ans, g, fr _ _ (ne_of ea hb (fun e => by injection e with _ _ e; cases e)) ea⟩
      have hnn : q.2.name ∉ B.names := by
        unfold Bk.names
        rw [eL]
        have e : (L.map fun x => x.2.name) = (L.take i).map (fun x => x.2.name) ++ (L.drop i).map fun x => x.2.name := by
          rw [← List.map_append, List.take_append_drop]
        rw [e] at hn
        have hd : q.2.name ∈ (L.drop i).map fun x => x.2.name := by
          refine List.mem_map.mpr ⟨q, ?_, rfl⟩
          rw [List.mem_drop_iff_getElem]
          obtain ⟨_, e2⟩ := List.getElem?_eq_some_iff.mp hq
          exact ⟨0, by omega, by simpa using e2⟩
        intro hm
        exact (List.nodup_append.mp hn).2.2 _ hm _ hd rfl
      refine ⟨_, rfl, b, B.dx, _, rfl, hB.ins, lk_b_added B, _, rfl, b, B, q.1, q.2, rfl, hB, hqA, hnn, by omega, by omega, fun H6 hB6 kb => ?_⟩
      refine ⟨⟨B.more q.1 q.2, hB6, ?_, eo, congrArg Nat.succ ec, ek, eo2, ed⟩, fun a u h e => ?_, _, rfl⟩
      · show B.L ++ [(q.1, q.2)] = _
        rw [eL, List.take_add_one, hq]
        rfl
      · refine kb a u ?_ ?_ ?_ (fr a u h e)
        · rw [ek]
          exact ne_none hp1 e
        · rw [eo2]
          exact ne_none n2 e
        · rw [ed]
          exact ne_none n3 e
    · obtain ⟨⟨B, hB, eL, eo, ec, ek, eo2, ed⟩, fr, z, rfl⟩ := p
      have hlen : (rfs L).length = L.length := List.length_map _
      refine k B _ hB (by rw [eL, hlen, List.take_length]) eo (by omega) (by rw [ek]; exact hp1) (by rw [eo2]; exact n2) (by rw [ed]; exact n3) fr
end
end K73

set_option Elab.async false
set_option linter.all false
set_option maxRecDepth 100000
set_option maxHeartbeats 4000000
/-! ## papers -/
namespace K73
open PySem PySem.Spec PyProof.Rows L2
theorem cutV_drop (xs : List V) (k : Nat) : cutV xs (some (k : Int)) none = xs.drop k := by
  unfold cutV
  rw [HT.sIx_nat, HT.sIx_none]
  by_cases h : k ≤ xs.length
  · rw [Nat.min_eq_left h, List.take_of_length_le (by rw [List.length_drop]; exact Nat.le_refl _)]
  · rw [Nat.min_eq_right (by omega), List.drop_length, List.take_nil, List.drop_of_length_le (by omega)]
theorem cutV_take (xs : List V) (k : Nat) : cutV xs none (some (k : Int)) = xs.take k := by
  unfold cutV
  rw [HT.sIx_nat, HT.sIx_none, List.drop_zero, Nat.sub_zero]
  by_cases h : k ≤ xs.length
  · rw [Nat.min_eq_left h]
  · rw [Nat.min_eq_right (by omega), List.take_length, List.take_of_length_le (by omega)]
theorem walk_zipTT {K : PySem.W.Frag} {a b : Addr} {xs ys : List V} {n : Nat} (hn : n = min xs.length ys.length) : Walk (RZ.ItzT K a b) n (fun H => SqT K H a xs ∧ SqT K H b ys) (YPair (fun i => xs[i]?) (fun i => ys[i]?)) := by
  subst hn
  refine ⟨fun i _ hi q => ?_, fun _ q => ⟨xs, ys, q.1, q.2, by omega⟩, fun i H v H' _ q y => ?_⟩
  · have h1 : i < xs.length := by omega
    have h2 : i < ys.length := by omega
    exact ⟨xs, ys, xs[i], ys[i], q.1, q.2, by simp [h1], by simp [h2]⟩
  · obtain ⟨T, x, z, h1, h2, h3, h4, h5⟩ := y
    exact ⟨T, x, z, h1, h2, h3, h4 xs q.1, h5 ys q.2⟩
def ltS (a b : Str) : Prop := a.cps.toList < b.cps.toList
/-- a paper: one to forty names, rising -/
structure PaperP (ns : List Str) : Prop where
  one : 1 ≤ ns.length
  most : ns.length ≤ 40
  name : ∀ n ∈ ns, NameP n
  ris : ns.Pairwise ltS
def PapAt (H : Hp) (p : Addr) (ns : List Str) : Prop := H p = some (.tup (ns.map V.str)) ∧ PaperP ns
theorem PapAt.same {H H' : Hp} {p : Addr} {ns : List Str} (h : PapAt H p ns) (s : Same H H') : PapAt H' p ns := ⟨s _ _ h.1, h.2⟩
def spIsPaper : Sp := fun vs H Q _ => ∃ p ns, vs = [.ref p] ∧ PapAt H p ns ∧ ∀ H', Same H H' → Q (.bl true) H'
def spNeedPaper : Sp := fun vs H Q _ => ∃ p ns, vs = [.ref p] ∧ PapAt H p ns ∧ ∀ H', Same H H' → Q .non H'
def spNeedReady (K : PySem.W.Frag) : Sp := fun vs H Q _ => ∃ b B p ns, vs = [.ref b, .ref p] ∧ BankAt K H b B ∧ PapAt H p ns ∧ (∀ n ∈ ns, n ∈ B.inN) ∧ ∀ H', Same H H' → Q .non H'
/-- the questions of such names -/
def Bk.place (B : Bk) (n : Str) : Option (Addr × Qd) := B.L.find? fun x => decide (x.2.name = n)
def Bk.qsOf (B : Bk) (ns : List Str) : Qs := ns.filterMap B.place
def spQuestionsOf (K : PySem.W.Frag) : Sp := fun vs H Q _ => ∃ b B p ns, vs = [.ref b, .ref p] ∧ BankAt K H b B ∧ PapAt H p ns ∧ (∀ n ∈ ns, n ∈ B.inN) ∧ ∀ l H', Same H H' → H l = none → H' l = some (.lst (rfs (B.qsOf ns))) → Q (.ref l) H'
def spShared : Sp := fun vs H Q _ => ∃ p ns r ms, vs = [.ref p, .ref r] ∧ PapAt H p ns ∧ PapAt H r ms ∧ ∀ l H', Same H H' → H l = none → H' l = some (.lst ((ns.filter fun n => decide (n ∈ ms)).map V.str)) → Q (.ref l) H'
def spPaperOf : Sp := fun vs H Q _ => ∃ l ns, vs = [.ref l] ∧ H l = some (.lst (ns.map V.str)) ∧ 1 ≤ ns.length ∧ ns.length ≤ 40 ∧ (∀ n ∈ ns, NameP n) ∧ ns.Nodup ∧ ∀ p H', Same H H' → H p = none → H' p = some (.tup ((srtS ns).map V.str)) → Q (.ref p) H'
section
variable {P : Program} {w : World} {K : PySem.W.Frag} {mg : Str → Option Value} {base : Heap}
theorem cal_is_paper (T : Top w K mg) : C8.Cal P w K mg base 2 "is_paper" spIsPaper [] := by
  obtain ⟨fd, F⟩ := T.d_is_paper
  refine cal0_of F T.g_is_paper (ok_of F sc_is_paper (fun vs H Q E h => ?_) fun cdv A outer s H vs Q E hr h => ?_) fun _ _ _ _ _ _ us hl => match us, hl with | [_], _ => rfl
  · obtain ⟨p, ns, rfl, _⟩ := h
    rfl
  · obtain ⟨p, ns, rfl, hp, k⟩ := h
    obtain ⟨hp0, h1, h40, hna, hri⟩ := id hp
    have hl : (ns.map V.str).length = ns.length := List.length_map _
    refine ⟨_, (pss_cons (ps_if (PW.pt (pw_or (pt_not (pt_val (pe_callB call_isi (by rfl) T.f_isinstance b_isinstance (pa_cons (pv 0) (pa_cons (pe_bltn (v := .ty "tuple") (by rfl) T.f_tuple b_tuple rfl) pa_nil))))) (pw_or (pt_not (pt_chain op_le op_le pe_int (pe_callB call_len_seq (by rfl) T.f_len b_len (pa_cons (pv 0) pa_nil)) (C8.pe_gc (by rfl) T.i_MOST_NAMES))) (pw_or1 (pt_not (pt_val (pe_callB (cr_all rfl) (by rfl) T.f_all b_all (pa_cons (pe_lc (own := [("name", 3)]) (g := gName 3) (tt := tYes) rfl sc_is_paper.nd (pi_tup (pv 0)) (blkOk_by (N := N_is_paper) (sc := defScope s_is_paper) (by decide +kernel)) (fun _ _ _ _ _ => (pg_name (i := 3) sc_is_paper.nd rfl (Or.inl rfl))) (fun _ _ _ _ _ => pts_nil) (fun _ _ _ _ _ => (C8.pe_c (cal_is_name T) hr (by decide) (by rfl) (pa_cons (pv 3) pa_nil)))) pa_nil)))))))) (pss_one (ps_ret pe_bl)) pss_nil)
      (pss_one (ps_ret (pe_callB (cr_all rfl) (by rfl) T.f_all b_all (pa_cons (pe_lc (own := [("one", 1), ("other", 2)]) (g := gTup K 2 (gCons (gName 1) (gCons (gName 2) gNil))) (tt := tYes) rfl sc_is_paper.nd (RZ.pi_zipA (by rfl) T.f_zip (pa_cons (pv 0) (pa_cons (pe_slice sl_tup (pv 0) (po_some pe_int) po_none) pa_nil))) (blkOk_by (N := N_is_paper) (sc := defScope s_is_paper) (by decide +kernel)) (fun _ _ _ _ _ => (pg_tup rfl (pgs_cons (pg_name (i := 1) sc_is_paper.nd rfl (Or.inl rfl)) (pgs_cons (pg_name (i := 2) sc_is_paper.nd rfl (Or.inl rfl)) pgs_nil)))) (fun _ _ _ _ _ => pts_nil) (fun _ _ _ _ _ => (pe_cmpR op_lt_str (pv 1) (pv 2) (nomark _)))) pa_nil))))), ?_⟩
    refine ⟨_, rfl, _, _, _, _, true, rfl, .ty _, .base (.tup hp0), ki_tup_tup, true, rfl, iteF ?_⟩
    refine ⟨_, rfl, p, _, rfl, .inr (SqT.is hp0), _, _, rfl, rfl, _, rfl, ?_⟩
    rw [hl, decide_eq_true (show (1 : Int) ≤ (ns.length : Int) by omega)]
    refine iteT ⟨_, _, rfl, rfl, _, rfl, ?_⟩
    rw [decide_eq_true (show (ns.length : Int) ≤ 40 by omega)]
    refine iteF ?_
    refine ⟨_, rfl, p, rfl, ⟨_, SqT.is hp0⟩, fun D hD => ?_⟩
    refine lc_ext (walk_tup (K := K) (a := p) (xs := ns.map V.str)) hD (fun i => List.replicate i (.bl true)) rfl (fun H s1 => SqT.is (s1 _ _ hp0)) (fun i hi => ?_) (fun i x H1 H2 hi sm y R kR R0 _ => ?_) fun H1 sm eD => ?_
    · rw [List.length_replicate]
      exact Nat.lt_of_le_of_lt (show i ≤ 40 by omega) (by decide)
    · obtain ⟨rfl, hx0⟩ := y
      obtain ⟨z, hz, rfl⟩ := str_at hx0
      refine ⟨rfl, _, rfl, z, rfl, hna z (List.mem_of_getElem? hz), fun H4 s4 => ?_⟩
      exact kR _ _ s4 (rep_succ i)
    · rw [hl] at eD
      refine ⟨D, List.replicate ns.length true, rfl, by rw [map_rep]; exact SqL.is eD, true, by rw [all_rep], iteF ?_⟩
      refine ⟨_, rfl, _, rfl, _, rfl, p, _, rfl, SqT.is (sm _ _ hp0), ?_, fun q hq => ?_⟩
      · rintro ⟨e, _⟩
        have e1 : HT.sIx (ns.map V.str).length 0 (some ((1 : Nat) : Int)) = 0 := e
        rw [HT.sIx_nat, hl] at e1
        omega
      have ec : cutV (ns.map V.str) (some 1) none = (ns.drop 1).map V.str := by
        rw [List.map_drop]
        exact cutV_drop _ 1
      rw [ec]
      have s2 := sm.trans (same_new hq (o := .tup ((ns.drop 1).map V.str)))
      refine ⟨p, q, _, _, rfl, .inr ⟨SqT.is (s2 _ _ hp0), SqT.is upd_same, fun D2 hD2 => ?_⟩⟩
      have hmin : ns.length - 1 = min (ns.map V.str).length ((ns.drop 1).map V.str).length := by
        rw [List.length_map, List.length_map, List.length_drop]
        omega
      refine lc_ext (walk_zipTT (K := K) (a := p) (b := q) (xs := ns.map V.str) (ys := (ns.drop 1).map V.str) hmin) hD2 (fun i => List.replicate i (.bl true)) rfl (fun H s3 => ⟨SqT.is (s3 _ _ (s2 _ _ hp0)), SqT.is (s3 _ _ upd_same)⟩) (fun i hi => ?_) (fun i x H2 H3 hi sm2 y R kR R0 _ => ?_) fun H2 sm2 eD2 => ?_
      · rw [List.length_replicate]
        exact Nat.lt_of_le_of_lt (show i ≤ 40 by omega) (by decide)
      · obtain ⟨T', x1, x2, rfl, hT, rfl, e1, e2⟩ := y
        obtain ⟨z1, hz1, rfl⟩ := str_at e1
        obtain ⟨z2, hz2, rfl⟩ := str_at e2
        refine ⟨T', _, rfl, .inl (.inl upd_same), rfl, _, _, rfl, _, _, rfl, rfl, rfl, ?_⟩
        refine ⟨_, rfl, _, rfl, z1, z2, rfl, rfl, ?_⟩
        have hlt : z1.cps.toList < z2.cps.toList := by
          have g1 := List.getElem?_eq_some_iff.mp hz1
          rw [List.getElem?_drop] at hz2
          have g2 := List.getElem?_eq_some_iff.mp hz2
          obtain ⟨i1, q1⟩ := g1
          obtain ⟨i2, q2⟩ := g2
          have := List.pairwise_iff_getElem.mp hri i (1 + i) i1 i2 (by omega)
          rw [q1, q2] at this
          exact this
        rw [decide_eq_true hlt]
        exact kR _ _ (same_new hT) (rep_succ i)
      · refine ⟨D2, List.replicate (ns.length - 1) true, rfl, by rw [map_rep]; exact SqL.is eD2, ?_⟩
        rw [all_rep]
        exact k _ (s2.trans sm2)
theorem cal_need_paper (T : Top w K mg) : C8.Cal P w K mg base 3 "need_paper" spNeedPaper [] := by
  obtain ⟨fd, F⟩ := T.d_need_paper
  refine cal0_of F T.g_need_paper (ok_of F sc_need_paper (fun vs H Q E h => ?_) fun cdv A outer s H vs Q E hr h => ?_) fun _ _ _ _ _ _ us hl => match us, hl with | [_], _ => rfl
  · obtain ⟨p, ns, rfl, _⟩ := h
    rfl
  · obtain ⟨p, ns, rfl, hp, k⟩ := h
    refine ⟨_, (pss_one (ps_if (pt_not (pt_val (C8.pe_c (cal_is_paper T) hr (by decide) (by rfl) (pa_cons (pv 0) pa_nil)))) (pss_one ps_never) pss_nil)), ?_⟩
    exact ⟨_, rfl, p, ns, rfl, hp, fun H1 s1 => ⟨true, rfl, iteF (k _ s1)⟩⟩
theorem cal_need_ready (T : Top w K mg) : C8.Cal P w K mg base 4 "need_ready" (spNeedReady K) [] := by
  obtain ⟨fd, F⟩ := T.d_need_ready
  refine cal0_of F T.g_need_ready (ok_of F sc_need_ready (fun vs H Q E h => ?_) fun cdv A outer s H vs Q E hr h => ?_) fun _ _ _ _ _ _ us hl => match us, hl with | [_, _], _ => rfl
  · obtain ⟨b, B, p, ns, rfl, _⟩ := h
    rfl
  · obtain ⟨b, B, p, ns, rfl, hB, hp, hin, k⟩ := h
    refine ⟨_, (pss_cons (ps_expr (C8.pe_c (cal_need_bank T) hr (by decide) (by rfl) (pa_cons (pv 0) pa_nil)))
      (pss_cons (ps_expr (C8.pe_c (cal_need_paper T) hr (by decide) (by rfl) (pa_cons (pv 1) pa_nil)))
      (pss_cons (ps_set (i := 2) sc_need_ready.nd rfl (Or.inl rfl) (C8.pe_mt0 (met_B_names_in T) hr (by decide) (pv 0)))
      (pss_one (ps_for PassesOwn.never rfl (pi_tup (pv 1)) (pg_name (i := 3) sc_need_ready.nd rfl (Or.inl rfl)) (pss_one (ps_if (pt_cmpR op_notIn_seq (pv 3) (pv 2) (by rfl)) (pss_one ps_never) pss_nil))))))), ?_⟩
    refine ⟨_, rfl, b, B, rfl, hB, ?_⟩
    refine ⟨_, rfl, p, ns, rfl, hp, fun H1 s1 => ?_⟩
    have hB1 := hB.same s1
    refine ⟨_, rfl, b, B.dx, _, rfl, hB1.ins, lk_b_names_in B, b, B, rfl, hB1, fun l H2 s2 hln hl => ?_⟩
    have hp2 := (hp.same s1).same s2
    refine ⟨_, rfl, p, rfl, ⟨_, SqT.is hp2.1⟩, ?_⟩
    refine for_it (walk_tup (K := K) (a := p) (xs := ns.map V.str)) (fun i σ H' => Same H2 H' ∧ ∃ y, σ = [some (.ref b), some (.ref p), some (.ref l), y]) ⟨Same.refl _, none, rfl⟩ (fun i σ H' _ q => SqT.is (q.1 _ _ hp2.1)) (fun i x σ H3 H4 hi q y => ?_) fun σ H3 q => k _ ((s1.trans s2).trans q.1)
    obtain ⟨s3, z, rfl⟩ := q
    obtain ⟨rfl, hx⟩ := y
    obtain ⟨n, hn, rfl⟩ := str_at hx
    have hfl : (B.inN.map V.str).all flatV = true := by
      rw [List.all_map]
      exact List.all_eq_true.mpr fun _ _ => rfl
    refine ⟨_, rfl, _, rfl, l, _, rfl, .inl (SqL.is (s3 _ _ hl)), rfl, hfl, _, rfl, ?_⟩
    rw [inV_str, decide_eq_true (hin n (List.mem_of_getElem? hn))]
    exact iteF ⟨s3, _, rfl⟩
theorem place_some {H : Hp} {b : Addr} {B : Bk} (h : BankAt K H b B) {x : Addr × Qd} (hx : x ∈ B.L) : B.place x.2.name = some x := by
  have e := ofN_some h hx
  unfold Bk.ofN at e
  unfold Bk.place
  cases g : B.L.find? (fun y => decide (y.2.name = x.2.name)) with
  | none => rw [g] at e; cases e
  | some y =>
    have hy := List.mem_of_find?_eq_some g
    have hn : y.2.name = x.2.name := by simpa using List.find?_some g
    have e1 := h.get hx
    have e2 := h.get hy
    rw [hn, e1] at e2
    rw [g] at e
    have e3 : y.2 = x.2 := Option.some.inj e
    have e4 : x.1 = y.1 := by
      have := Option.some.inj e2
      injection this
    rw [show y = x from Prod.ext e4.symm e3]
theorem qsOf_take {H : Hp} {b : Addr} {B : Bk} (h : BankAt K H b B) {ns : List Str} {i : Nat} {x : Addr × Qd} (hx : x ∈ B.L) (hn : ns[i]? = some x.2.name) : B.qsOf (ns.take (i + 1)) = B.qsOf (ns.take i) ++ [x] := by
  unfold Bk.qsOf
  rw [List.take_add_one, hn, List.filterMap_append]
  show _ ++ List.filterMap B.place [x.2.name] = _
  rw [List.filterMap_cons, place_some h hx]
  rfl
theorem len_qsOf {B : Bk} {ns : List Str} : (B.qsOf ns).length ≤ ns.length := List.length_filterMap_le _ _
theorem cal_questions_of (T : Top w K mg) : C8.Cal P w K mg base 5 "questions_of" (spQuestionsOf K) [] := by
  obtain ⟨fd, F⟩ := T.d_questions_of
  refine cal0_of F T.g_questions_of (ok_of F sc_questions_of (fun vs H Q E h => ?_) fun cdv A outer s H vs Q E hr h => ?_) fun _ _ _ _ _ _ us hl => match us, hl with | [_, _], _ => rfl
  · obtain ⟨b, B, p, ns, rfl, _⟩ := h
    rfl
  · obtain ⟨b, B, p, ns, rfl, hB, hp, hin, k⟩ := h
    refine ⟨_, (pss_cons (ps_expr (C8.pe_c (cal_need_ready T) hr (by decide) (by rfl) (pa_cons (pv 0) (pa_cons (pv 1) pa_nil))))
      (pss_one (ps_ret (pe_lc (own := [("name", 2)]) (g := gName 2) (tt := tYes) rfl sc_questions_of.nd (pi_tup (pv 1)) (blkOk_by (N := N_questions_of) (sc := defScope s_questions_of) (by decide +kernel)) (fun _ _ _ _ _ => (pg_name (i := 2) sc_questions_of.nd rfl (Or.inl rfl))) (fun _ _ _ _ _ => pts_nil) (fun _ _ _ _ _ => (C8.pe_mt (met_B_question T) hr (by decide) (pv 0) (pa_cons (pv 2) pa_nil))))))), ?_⟩
    refine ⟨_, rfl, _, rfl, b, B, p, ns, rfl, hB, hp, hin, fun H1 s1 => ?_⟩
    have hp1 := hp.same s1
    refine ⟨_, rfl, p, rfl, ⟨_, SqT.is hp1.1⟩, fun D hD => ?_⟩
    refine lc_ext (walk_tup (K := K) (a := p) (xs := ns.map V.str)) hD (fun i => rfs (B.qsOf (ns.take i))) rfl (fun H2 s2 => SqT.is (s2 _ _ hp1.1)) (fun i hi => ?_) (fun i x H2 H3 hi sm y R kR R0 _ => ?_) fun H2 sm eD => ?_
    · rw [List.length_map]
      refine Nat.lt_of_le_of_lt (Nat.le_trans len_qsOf (show (ns.take i).length ≤ 40 from ?_)) (by decide)
      rw [List.length_take]
      have := hp.2.most
      omega
    · obtain ⟨rfl, hx⟩ := y
      obtain ⟨n, hn, rfl⟩ := str_at hx
      obtain ⟨x, hxL, rfl⟩ := mem_names (mem_inN.mp (hin n (List.mem_of_getElem? hn))).1
      have hB2 := (hB.same s1).same sm
      refine ⟨rfl, _, rfl, b, B.dx, _, rfl, hB2.ins, lk_b_question B, _, rfl, b, B, x, rfl, hB2, hxL, kR _ _ (Same.refl _) ?_⟩
      rw [qsOf_take hB hxL hn]
      exact List.map_append
    · rw [List.length_map, List.take_length] at eD
      exact k D _ (s1.trans sm) (Same.none s1 hD) eD
theorem cal_shared (T : Top w K mg) : C8.Cal P w K mg base 4 "shared" spShared [] := by
  obtain ⟨fd, F⟩ := T.d_shared
  refine cal0_of F T.g_shared (ok_of F sc_shared (fun vs H Q E h => ?_) fun cdv A outer s H vs Q E hr h => ?_) fun _ _ _ _ _ _ us hl => match us, hl with | [_, _], _ => rfl
  · obtain ⟨p, ns, r, ms, rfl, _⟩ := h
    rfl
  · obtain ⟨p, ns, r, ms, rfl, hp, hq, k⟩ := h
    refine ⟨_, (pss_cons (ps_expr (C8.pe_c (cal_need_paper T) hr (by decide) (by rfl) (pa_cons (pv 0) pa_nil)))
      (pss_cons (ps_expr (C8.pe_c (cal_need_paper T) hr (by decide) (by rfl) (pa_cons (pv 1) pa_nil)))
      (pss_one (ps_ret (pe_lc (own := [("name", 2)]) (g := gName 2) rfl sc_shared.nd (pi_tup (pv 0)) (blkOk_by (N := N_shared) (sc := defScope s_shared) (by decide +kernel)) (fun _ _ _ _ _ => (pg_name (i := 2) sc_shared.nd rfl (Or.inl rfl))) (fun _ _ _ _ _ => (pts_one (pt_cmpR (op_in_seqK K) (pv 2) (pv 1) (by rfl)))) (fun _ _ _ _ _ => (pv 2))))))), ?_⟩
    refine ⟨_, rfl, p, ns, rfl, hp, fun H1 s1 => ?_⟩
    refine ⟨_, rfl, r, ms, rfl, hq.same s1, fun H2 s2 => ?_⟩
    have s12 := s1.trans s2
    refine ⟨_, rfl, p, rfl, ⟨_, SqT.is (hp.same s12).1⟩, fun D hD => ?_⟩
    have hfl : (ms.map V.str).all flatV = true := by
      rw [List.all_map]
      exact List.all_eq_true.mpr fun _ _ => rfl
    refine lc_ext (walk_tup (K := K) (a := p) (xs := ns.map V.str)) hD (fun i => ((ns.take i).filter fun n => decide (n ∈ ms)).map V.str) rfl (fun H3 s3 => SqT.is (s3 _ _ (hp.same s12).1)) (fun i hi => ?_) (fun i x H3 H4 hi sm y R kR R0 kR0 => ?_) fun H3 sm eD => ?_
    · rw [List.length_map]
      exact Nat.lt_of_le_of_lt (len_filter hp.2.most) (by decide)
    · obtain ⟨rfl, hx⟩ := y
      obtain ⟨n, hn, rfl⟩ := str_at hx
      refine ⟨rfl, _, rfl, _, rfl, r, _, rfl, .inr (SqT.is ((hq.same s12).same sm).1), rfl, hfl, _, rfl, ?_⟩
      rw [if_neg Bool.false_ne_true, inV_str]
      by_cases c : n ∈ ms
      · rw [decide_eq_true c]
        exact iteT ⟨_, rfl, kR _ _ (Same.refl _) (by rw [take_yes hn (decide_eq_true c), List.map_append]; rfl)⟩
      · rw [decide_eq_false c]
        exact iteF (kR0 _ (Same.refl _) (by rw [take_no hn (decide_eq_false c)]))
    · rw [List.length_map, List.take_length] at eD
      exact k D _ (s12.trans sm) (Same.none s12 hD) eD
theorem cal_paper_of (T : Top w K mg) : C8.Cal P w K mg base 2 "paper_of" spPaperOf [] := by
  obtain ⟨fd, F⟩ := T.d_paper_of
  refine cal0_of F T.g_paper_of (ok_of F sc_paper_of (fun vs H Q E h => ?_) fun cdv A outer s H vs Q E hr h => ?_) fun _ _ _ _ _ _ us hl => match us, hl with | [_], _ => rfl
  · obtain ⟨l, ns, rfl, _⟩ := h
    rfl
  · obtain ⟨l, ns, rfl, hl, h1, h40, hna, hnd, k⟩ := h
    have hlen : (ns.map V.str).length = ns.length := List.length_map _
    refine ⟨_, (pss_cons (ps_if (PW.pt (pw_or (pt_not (pt_val (pe_callB call_isiT (by rfl) T.f_isinstance b_isinstance (pa_cons (pv 0) (pa_cons (pe_tup (pa_cons (pe_bltn (v := .ty "list") (by rfl) T.f_list b_list rfl) (pa_cons (pe_bltn (v := .ty "tuple") (by rfl) T.f_tuple b_tuple rfl) pa_nil))) pa_nil))))) (pw_or1 (pt_not (pt_chain op_le op_le pe_int (pe_callB call_len_seq (by rfl) T.f_len b_len (pa_cons (pv 0) pa_nil)) (C8.pe_gc (by rfl) T.i_MOST_NAMES)))))) (pss_one ps_never) pss_nil)
      (pss_cons (ps_if (pt_not (pt_val (pe_callB (cr_all rfl) (by rfl) T.f_all b_all (pa_cons (pe_lc (own := [("name", 1)]) (g := gName 1) (tt := tYes) rfl sc_paper_of.nd (pi_list (pv 0)) (blkOk_by (N := N_paper_of) (sc := defScope s_paper_of) (by decide +kernel)) (fun _ _ _ _ _ => (pg_name (i := 1) sc_paper_of.nd rfl (Or.inl rfl))) (fun _ _ _ _ _ => pts_nil) (fun _ _ _ _ _ => (C8.pe_c (cal_is_name T) hr (by decide) (by rfl) (pa_cons (pv 1) pa_nil)))) pa_nil)))) (pss_one ps_never) pss_nil)
      (pss_cons (ps_for PassesOwn.never rfl (pi_enum (by rfl) T.f_enumerate (pa_cons (pv 0) pa_nil)) (pg_tup rfl (pgs_cons (pg_name (i := 2) sc_paper_of.nd rfl (Or.inl rfl)) (pgs_cons (pg_name (i := 1) sc_paper_of.nd rfl (Or.inl rfl)) pgs_nil))) (pss_one (ps_if (pt_cmpR op_in_seq (pv 1) (pe_slice sl_list (pv 0) po_none (po_some (pv 2))) (by rfl)) (pss_one ps_never) pss_nil)))
      (pss_one (ps_ret (pe_callTy call_tuple_of (by rfl) T.f_tuple b_tuple (pa_cons (pe_callB cr_sortedS (by rfl) T.f_sorted b_sorted (pa_cons (pv 0) pa_nil)) pa_nil))))))), ?_⟩
    refine ⟨_, rfl, (by decide : 2 ≤ sizeLine), fun tp htp => ⟨_, tp, _, _, _, true, rfl, upd_same, cls2, .base (.lst (same_new htp _ _ hl)), ka_list, true, rfl, iteF ?_⟩⟩
    have s1 := same_new htp (o := .tup [.ty "list", .ty "tuple"])
    have hl1 := s1 _ _ hl
    refine ⟨_, rfl, l, _, rfl, .inl (SqL.is hl1), _, _, rfl, rfl, _, rfl, ?_⟩
    rw [hlen, decide_eq_true (show (1 : Int) ≤ (ns.length : Int) by omega)]
    refine iteT ⟨_, _, rfl, rfl, _, rfl, ?_⟩
    rw [decide_eq_true (show (ns.length : Int) ≤ 40 by omega)]
    refine iteF ?_
    refine ⟨_, rfl, l, rfl, ⟨_, SqL.is hl1⟩, fun D hD => ?_⟩
    refine lc_ext (walk_list (K := K) (a := l) (xs := ns.map V.str)) hD (fun i => List.replicate i (.bl true)) rfl (fun H s2 => SqL.is (s2 _ _ hl1)) (fun i hi => ?_) (fun i x H1 H2 hi sm y R kR R0 _ => ?_) fun H1 sm eD => ?_
    · rw [List.length_replicate]
      exact Nat.lt_of_le_of_lt (show i ≤ 40 by omega) (by decide)
    · obtain ⟨rfl, hx0⟩ := y
      obtain ⟨z, hz, rfl⟩ := str_at hx0
      exact ⟨rfl, _, rfl, z, rfl, hna z (List.mem_of_getElem? hz), fun H4 s4 => kR _ _ s4 (rep_succ i)⟩
    · rw [hlen] at eD
      have s2 := s1.trans sm
      refine ⟨D, List.replicate ns.length true, rfl, by rw [map_rep]; exact SqL.is eD, true, by rw [all_rep], iteF ?_⟩
      refine ⟨_, rfl, l, _, rfl, SqL.is (s2 _ _ hl), ?_⟩
      refine for_it (walk_enum (K := K) (a := l) (xs := ns.map V.str)) (fun i σ H' => Same H H' ∧ ∃ y z, σ = [some (.ref l), y, z]) ⟨s2, _, _, rfl⟩ (fun i σ H' _ q => SqL.is (q.1 _ _ hl)) (fun i x σ H3 H4 hi q y => ?_) fun σ H3 q => ?_
      · obtain ⟨s3, z1, z2, rfl⟩ := q
        obtain ⟨T', x1, x2, rfl, hT, rfl, e1, e2⟩ := y
        obtain rfl := Option.some.inj e1
        obtain ⟨n, hn, rfl⟩ := str_at e2
        have s4 := s3.trans (same_new hT (o := .tup [.int (i : Nat), .str n]))
        refine ⟨T', _, rfl, .inl (.inl upd_same), rfl, _, _, rfl, _, _, rfl, rfl, ?_⟩
        refine ⟨_, rfl, _, rfl, _, rfl, _, rfl, l, _, rfl, SqL.is (s4 _ _ hl), fun q hq => ?_⟩
        rw [show cutV (ns.map V.str) none (some ((i : Nat) : Int)) = (ns.take i).map V.str by rw [cutV_take, List.map_take]]
        have hfl : ((ns.take i).map V.str).all flatV = true := by
          rw [List.all_map]
          exact List.all_eq_true.mpr fun _ _ => rfl
        refine ⟨q, _, rfl, .inl (SqL.is upd_same), rfl, hfl, _, rfl, ?_⟩
        have hnot : n ∉ ns.take i := fun h => by
          have g := List.getElem?_eq_some_iff.mp hn
          obtain ⟨i1, q1⟩ := g
          obtain ⟨j, hj, ej⟩ := List.mem_iff_getElem.mp h
          rw [List.length_take] at hj
          rw [List.getElem_take] at ej
          exact List.pairwise_iff_getElem.mp hnd j i (by omega) i1 (by omega) (ej.trans q1.symm)
        rw [if_neg Bool.false_ne_true, inV_str, decide_eq_false hnot]
        exact iteF ⟨s4.trans (same_new hq), _, _, rfl⟩
      · obtain ⟨s3, z1, z2, rfl⟩ := q
        refine ⟨_, rfl, l, ns, rfl, SqL.is (s3 _ _ hl), by omega, fun ys p hp hs hpn => ?_⟩
        have s4 := s3.trans (same_new hpn (o := .lst (ys.map V.str)))
        refine ⟨p, _, rfl, .inl ⟨SqL.is upd_same, fun r hr => ?_⟩⟩
        refine k r _ (s4.trans (same_new hr)) (Same.none s4 hr) ?_
        rw [upd_same, sorted_is hp hs]
end
end K73

set_option Elab.async false
set_option linter.all false
set_option maxRecDepth 100000
set_option maxHeartbeats 4000000
/-! ## wishes -/
namespace K73
open PySem PySem.Spec PyProof.Rows L2
structure Wd where
  word : Str
  what : Str
  least : Int
  most : Int
def wFlds (x : Wd) : List (Str × V) := [("word", .str x.word), ("what", .str x.what), ("least", .int x.least), ("most", .int x.most)]
def WAt (K : PySem.W.Frag) (H : Hp) (a : Addr) (x : Wd) : Prop := ∃ dx, H a = some (.ins (He.ga K "Wish") dx (wFlds x))
theorem WAt.same {K : PySem.W.Frag} {H H' : Hp} {a : Addr} {x : Wd} (h : WAt K H a x) (s : Same H H') : WAt K H' a x := by
  obtain ⟨dx, e⟩ := h
  exact ⟨dx, s _ _ e⟩
def wordsL : List Str := ["many", "toil", "marks", "rest", "kin", "with"]
def MayP (word what : Str) : Prop := (what = ("" : Str) ∧ word ≠ ("with" : Str)) ∨ (NameP what ∧ word ≠ ("rest" : Str))
structure WishP (x : Wd) : Prop where
  word : x.word ∈ wordsL
  may : MayP x.word x.what
  l0 : 0 ≤ x.least
  l1 : x.least ≤ 999
  m0 : 0 ≤ x.most
  m1 : x.most ≤ 999
  le : x.least ≤ x.most ∨ x.word = ("rest" : Str)
theorem lk_word (x : Wd) : (wFlds x).lookup ("word" : Str) = some (V.str x.word) := by kernel_rfl
theorem lk_what (x : Wd) : (wFlds x).lookup ("what" : Str) = some (V.str x.what) := by kernel_rfl
theorem lk_least (x : Wd) : (wFlds x).lookup ("least" : Str) = some (V.int x.least) := by kernel_rfl
theorem lk_most (x : Wd) : (wFlds x).lookup ("most" : Str) = some (V.int x.most) := by kernel_rfl
theorem lk_moved (x : Wd) : (wFlds x).lookup ("moved" : Str) = none := by kernel_rfl
theorem ok_name {z : Str} (h : ∀ c ∈ z.cps.toList, 97 ≤ c ∧ c ≤ 122) : PyData.strOk z = true := by
  unfold PyData.strOk
  rw [Array.all_eq_true]
  intro i hi
  have := h z.cps[i] (by rw [Array.mem_toList_iff]; exact Array.getElem_mem hi)
  exact decide_eq_true (by omega)
theorem ok_word {z : Str} (h : z ∈ wordsL) : PyData.strOk z = true := by
  unfold wordsL at h
  simp only [List.mem_cons, List.not_mem_nil, or_false] at h
  rcases h with rfl | rfl | rfl | rfl | rfl | rfl <;> decide +kernel
theorem ok_may {w z : Str} (h : MayP w z) : PyData.strOk z = true := by
  rcases h with ⟨rfl, _⟩ | ⟨h, _⟩
  · decide +kernel
  · exact ok_name h.2.2
def spIsNumber : Sp := fun vs H Q _ => ∃ i : Int, vs = [.int i] ∧ Q (.bl true) H
def spMayName : Sp := fun vs H Q _ => ∃ w x : Str, vs = [.str w, .str x] ∧ MayP w x ∧ ∀ H', Same H H' → Q (.bl true) H'
def spWInit (C : Addr) : Sp := fun vs H Q _ => ∃ (a : Addr) (x : Wd) (dx : Addr), vs = [.ref a, .str x.word, .str x.what, .int x.least, .int x.most] ∧ H a = some (.ins C dx []) ∧ WishP x ∧ ∀ H', Same (upd H a (.ins C dx (wFlds x))) H' → Q .non H'
def spNeedWish (K : PySem.W.Frag) : Sp := fun vs H Q _ => ∃ a x, vs = [.ref a] ∧ WAt K H a x ∧ Q .non H
theorem dne {a b : Str} : (!decide (V.str a = V.str b)) = !decide (a = b) := by rw [dstr]
theorem name_ne {z : Str} (h : NameP z) : z ≠ ("" : Str) := fun e => by
  rw [e] at h
  exact absurd h.1 (by decide)
theorem tv_and {t u : TT} {σ : L2.St} {H : Hp} {p q : Bool} (h1 : ∀ Q : Bool → Hp → Prop, Q p H → t σ H Q) (h2 : p = true → ∀ Q : Bool → Hp → Prop, Q q H → u σ H Q) (Q : Bool → Hp → Prop) (h : Q (p && q) H) : tAnd t u σ H Q := by
  refine h1 _ ?_
  cases p with
  | false => exact iteF h
  | true => exact iteT (h2 rfl _ h)
section
variable {P : Program} {w : World} {K : PySem.W.Frag} {mg : Str → Option Value} {base : Heap}
theorem cal_is_number (T : Top w K mg) : C8.Cal P w K mg base 1 "is_number" spIsNumber [] := by
  obtain ⟨fd, F⟩ := T.d_is_number
  refine cal0_of F T.g_is_number (ok_of F sc_is_number (fun vs H Q E h => ?_) fun cdv A outer s H vs Q E hr h => ?_) fun _ _ _ _ _ _ us hl => match us, hl with | [_], _ => rfl
  · obtain ⟨i, rfl, _⟩ := h
    rfl
  · obtain ⟨i, rfl, k⟩ := h
    refine ⟨_, (pss_one (ps_ret (pe_and (pe_callB call_isi (by rfl) T.f_isinstance b_isinstance (pa_cons (pv 0) (pa_cons (pe_bltn (v := .ty "int") (by rfl) T.f_int b_int rfl) pa_nil))) (pe_one (pe_not (pe_callB call_isi (by rfl) T.f_isinstance b_isinstance (pa_cons (pv 0) (pa_cons (pe_bltn (v := .ty "bool") (by rfl) T.f_bool b_bool rfl) pa_nil)))))))), ?_⟩
    refine ⟨_, rfl, _, _, _, _, true, rfl, .ty _, .base (.int _), ki_int_int, true, rfl, iteT ?_⟩
    exact ⟨_, rfl, _, _, _, _, false, rfl, .ty _, .base (.int _), ki_int_bool, false, rfl, k⟩
theorem cal_may_name (T : Top w K mg) : C8.Cal P w K mg base 2 "may_name" spMayName [] := by
  obtain ⟨fd, F⟩ := T.d_may_name
  refine cal0_of F T.g_may_name (ok_of F sc_may_name (fun vs H Q E h => ?_) fun cdv A outer s H vs Q E hr h => ?_) fun _ _ _ _ _ _ us hl => match us, hl with | [_, _], _ => rfl
  · obtain ⟨x, z, rfl, _⟩ := h
    rfl
  · obtain ⟨x, z, rfl, hm, k⟩ := h
    refine ⟨_, (pss_cons (ps_if (PW.pt (pw_and (pt_cmpR op_eq (pv 1) pe_str (nomark _)) (pw_and1 (pt_val (pe_callB call_isi (by rfl) T.f_isinstance b_isinstance (pa_cons (pv 1) (pa_cons (pe_bltn (v := .ty "str") (by rfl) T.f_str b_str rfl) pa_nil))))))) (pss_one (ps_ret (pe_cmpR op_ne (pv 0) pe_str (nomark _)))) pss_nil)
      (pss_one (ps_ret (pe_and (C8.pe_c (cal_is_name T) hr (by decide) (by rfl) (pa_cons (pv 1) pa_nil)) (pe_one (pe_cmpR op_ne (pv 0) pe_str (nomark _))))))), ?_⟩
    refine ⟨_, rfl, rfl, _, rfl, ?_⟩
    rw [dstr]
    rcases hm with ⟨rfl, hw⟩ | ⟨hn, hw⟩
    · rw [decide_eq_true rfl]
      refine iteT ⟨_, rfl, _, _, _, _, true, rfl, .ty _, .base (.str _), ki_str_str, true, rfl, iteT ?_⟩
      refine ⟨_, rfl, rfl, ?_⟩
      rw [dne, decide_eq_false hw]
      exact k _ (Same.refl _)
    · rw [decide_eq_false (name_ne hn)]
      refine iteF (iteF ?_)
      refine ⟨_, rfl, _, rfl, hn, fun H1 s1 => ⟨true, rfl, iteT ?_⟩⟩
      refine ⟨_, rfl, rfl, ?_⟩
      rw [dne, decide_eq_false hw]
      exact k _ s1
theorem fn_W_init (T : Top w K mg) : ∃ fd, FunD K "__init__" "Wish.__init__" (defArgs s_W_init) (defBody s_W_init) (defScope s_W_init) [.str "", .int 0, .int 999] [] (He.ma K (He.ga K "Wish") "__init__") fd ∧ FnOk P w K mg base C8.CX0 3 (He.ma K (He.ga K "Wish") "__init__") fd ["self", "word", "what", "least", "most"] (spWInit (He.ga K "Wish")) := by
  obtain ⟨fd, F⟩ := T.d_W_init
  refine ⟨fd, F, ok_of F sc_W_init (fun vs H Q E h => ?_) fun cdv A outer s H vs Q E hr h => ?_⟩
  · obtain ⟨a, x, dx, rfl, _⟩ := h
    rfl
  · obtain ⟨a, x, dx, rfl, ha, hx, k⟩ := h
    refine ⟨_, (pss_cons (ps_if (PW.pt (pw_or (pt_not (pt_val (pe_callB call_isi (by rfl) T.f_isinstance b_isinstance (pa_cons (pv 1) (pa_cons (pe_bltn (v := .ty "str") (by rfl) T.f_str b_str rfl) pa_nil))))) (pw_or1 (pt_cmpR op_notIn_seq (pv 1) (C8.pe_gc (v := .ref (He.ga _ "WORDS")) (by rfl) ⟨_, T.g_WORDS, rfl⟩) (by rfl))))) (pss_one ps_never) pss_nil)
      (pss_cons (ps_if (pt_not (pt_val (C8.pe_c (cal_may_name T) hr (by decide) (by rfl) (pa_cons (pv 1) (pa_cons (pv 2) pa_nil))))) (pss_one ps_never) pss_nil)
      (pss_cons (ps_if (pt_not (pt_val (pe_cN (calN_is_whole_1_most T) hr (by decide) (by rfl) (pa_cons (pv 3) pa_nil) (pk_cons (C8.pe_gc (by rfl) T.i_MOST_SUM) pk_nil)))) (pss_one ps_never) pss_nil)
      (pss_cons (ps_if (PW.pt (pw_or (pt_not (pt_val (pe_cN (calN_is_whole_1_most T) hr (by decide) (by rfl) (pa_cons (pv 4) pa_nil) (pk_cons (C8.pe_gc (by rfl) T.i_MOST_SUM) pk_nil)))) (pw_or1 (PW.pt (pw_and (pt_cmpR op_lt (pv 4) (pv 3) (nomark _)) (pw_and1 (pt_cmpR op_ne (pv 1) pe_str (nomark _)))))))) (pss_one ps_never) pss_nil)
      (pss_cons (ps_fld (pv 0) (pv 1) rfl)
      (pss_cons (ps_fld (pv 0) (pv 2) rfl)
      (pss_cons (ps_fld (pv 0) (pv 3) rfl)
      (pss_one (ps_fld (pv 0) (pv 4) rfl))))))))), ?_⟩
    refine ⟨_, rfl, _, _, _, _, true, rfl, .ty _, .base (.str _), ki_str_str, true, rfl, iteF ?_⟩
    refine ⟨_, rfl, He.ga K "WORDS", _, rfl, .inr (T.words H), rfl, rfl, _, rfl, ?_⟩
    have e1 : inV (.str x.word) [.str "many", .str "toil", .str "marks", .str "rest", .str "kin", .str "with"] = decide (x.word ∈ wordsL) := inV_str (xs := wordsL)
    rw [if_pos rfl, e1, decide_eq_true hx.word]
    refine iteF ?_
    refine ⟨_, rfl, _, rfl, _, _, rfl, hx.may, fun H1 s1 => ⟨true, rfl, iteF ?_⟩⟩
    refine ⟨_, rfl, rfl, rfl, x.least, 0, 999, rfl, true, congrArg V.bl (decide_eq_true ⟨hx.l0, hx.l1⟩), iteF ?_⟩
    refine ⟨_, rfl, rfl, rfl, x.most, 0, 999, rfl, true, congrArg V.bl (decide_eq_true ⟨hx.m0, hx.m1⟩), iteF ?_⟩
    refine tv_and (p := decide (x.most < x.least)) (q := !decide (x.word = ("rest" : Str))) (fun Q h => ⟨_, rfl, _, rfl, x.most, x.least, rfl, rfl, _, rfl, h⟩) (fun _ Q h => ⟨_, rfl, rfl, _, rfl, by rw [dne]; exact h⟩) _ ?_
    have key : (decide (x.most < x.least) && !decide (x.word = ("rest" : Str))) = false := by
      rcases hx.le with h | h
      · rw [decide_eq_false (show ¬ x.most < x.least by omega)]
        rfl
      · rw [decide_eq_true h]
        exact Bool.and_false _
    rw [key]
    refine iteF ?_
    refine ⟨_, rfl, _, rfl, a, _, dx, [], rfl, s1 _ _ ha, T.c_Wish, T.n_Wish_word, by decide, ?_⟩
    refine ⟨_, rfl, _, rfl, a, _, dx, _, rfl, upd_same, T.c_Wish, T.n_Wish_what, (by (repeat' apply putF_b); decide), ?_⟩
    refine ⟨_, rfl, _, rfl, a, _, dx, _, rfl, upd_same, T.c_Wish, T.n_Wish_least, (by (repeat' apply putF_b); decide), ?_⟩
    refine ⟨_, rfl, _, rfl, a, _, dx, _, rfl, upd_same, T.c_Wish, T.n_Wish_most, (by (repeat' apply putF_b); decide), ?_⟩
    refine k _ ?_
    rw [upd2, upd2, upd2]
    exact same_upd s1
theorem mak_W_init_p1 (T : Top w K mg) : C8.Mak P w K mg base 3 "Wish" (He.ga K "Wish") (spWInit (He.ga K "Wish")) [.str "", .int 0, .int 999] := by
  obtain ⟨fd, F, G⟩ := fn_W_init (P := P) (base := base) T
  exact makD_of (n := 2) "Wish" 0 T.k_Wish T.g_Wish F G (List.cons_ne_nil _ _) rfl fun _ _ _ _ _ _ _ us its hl hi => match us, its, hl, hi with | [_, _], [_, _, _], _, _ => ⟨_, rfl, rfl⟩
theorem makN_W_init_1_what (T : Top w K mg) : MakN P w K mg base 3 "Wish" (He.ga K "Wish") 1 ["what"] (spWInit (He.ga K "Wish")) (fun vs zs => vs ++ zs ++ [.int 0, .int 999]) := by
  obtain ⟨fd, F, G⟩ := fn_W_init (P := P) (base := base) T
  exact makN_of "Wish" 1 ["what"] (fun us its ws => us ++ ws ++ its.drop 1) T.k_Wish T.g_Wish F G (List.cons_ne_nil _ _) (fun r1 r2 r3 => (r1.append r3).append (r2.drop 1)) fun _ _ _ _ _ _ _ us its ws h1 h2 h3 => match us, its, ws, h1, h2, h3 with | [_, _], [_, _, _], [_], _, _, _ => ⟨_, rfl, rfl⟩
theorem makN_W_init_1_most (T : Top w K mg) : MakN P w K mg base 3 "Wish" (He.ga K "Wish") 1 ["most"] (spWInit (He.ga K "Wish")) (fun vs zs => vs ++ [.str "", .int 0] ++ zs) := by
  obtain ⟨fd, F, G⟩ := fn_W_init (P := P) (base := base) T
  exact makN_of "Wish" 1 ["most"] (fun us its ws => us ++ its.take 2 ++ ws) T.k_Wish T.g_Wish F G (List.cons_ne_nil _ _) (fun r1 r2 r3 => (r1.append (r2.take 2)).append r3) fun _ _ _ _ _ _ _ us its ws h1 h2 h3 => match us, its, ws, h1, h2, h3 with | [_, _], [_, _, _], [_], _, _, _ => ⟨_, rfl, rfl⟩
theorem makN_W_init_1_least_most (T : Top w K mg) : MakN P w K mg base 3 "Wish" (He.ga K "Wish") 1 ["least", "most"] (spWInit (He.ga K "Wish")) (fun vs zs => vs ++ [.str ""] ++ zs) := by
  obtain ⟨fd, F, G⟩ := fn_W_init (P := P) (base := base) T
  exact makN_of "Wish" 1 ["least", "most"] (fun us its ws => us ++ its.take 1 ++ ws) T.k_Wish T.g_Wish F G (List.cons_ne_nil _ _) (fun r1 r2 r3 => (r1.append (r2.take 1)).append r3) fun _ _ _ _ _ _ _ us its ws h1 h2 h3 => match us, its, ws, h1, h2, h3 with | [_, _], [_, _, _], [_, _], _, _, _ => ⟨_, rfl, rfl⟩
theorem makN_W_init_1_what_least_most (T : Top w K mg) : MakN P w K mg base 3 "Wish" (He.ga K "Wish") 1 ["what", "least", "most"] (spWInit (He.ga K "Wish")) (fun vs zs => vs ++ zs) := by
  obtain ⟨fd, F, G⟩ := fn_W_init (P := P) (base := base) T
  exact makN_of "Wish" 1 ["what", "least", "most"] (fun us its ws => us ++ ws) T.k_Wish T.g_Wish F G (List.cons_ne_nil _ _) (fun r1 r2 r3 => r1.append r3) fun _ _ _ _ _ _ _ us its ws h1 h2 h3 => match us, its, ws, h1, h2, h3 with | [_, _], [_, _, _], [_, _, _], _, _, _ => ⟨_, rfl, rfl⟩
theorem cal_need_wish (T : Top w K mg) : C8.Cal P w K mg base 1 "need_wish" (spNeedWish K) [] := by
  obtain ⟨fd, F⟩ := T.d_need_wish
  refine cal0_of F T.g_need_wish (ok_of F sc_need_wish (fun vs H Q E h => ?_) fun cdv A outer s H vs Q E hr h => ?_) fun _ _ _ _ _ _ us hl => match us, hl with | [_], _ => rfl
  · obtain ⟨a, x, rfl, _⟩ := h
    rfl
  · obtain ⟨a, x, rfl, ⟨dx, ea⟩, k⟩ := h
    refine ⟨_, (pss_one (ps_if (pt_not (pt_val (pe_callB call_isi (by rfl) T.f_isinstance b_isinstance (pa_cons (pv 0) (pa_cons (C8.pe_gc (v := .ref (He.ga _ "Wish")) (by rfl) ⟨_, T.g_Wish, rfl⟩) pa_nil))))) (pss_one ps_never) pss_nil)), ?_⟩
    exact ⟨_, rfl, _, _, _, _, true, rfl, .own _, tyx_ins ea T.is_Wish, T.is_Wish.me, true, rfl, iteF k⟩
/-- wishes of one word and bounds -/
def wEq (K : PySem.W.Frag) (a b : Addr) (H : Hp) : Prop := ∃ x, WishP x ∧ WAt K H a x ∧ WAt K H b x
theorem fn_W_eq (T : Top w K mg) : ∃ fd, FunD K "__eq__" "Wish.__eq__" (defArgs s_W_eq) (defBody s_W_eq) (defScope s_W_eq) [] [] (He.ma K (He.ga K "Wish") "__eq__") fd ∧ FnOk P w K mg base C8.CX0 1 (He.ma K (He.ga K "Wish") "__eq__") fd ["self", "other"] (spEq (wEq K)) := by
  obtain ⟨fd, F⟩ := T.d_W_eq
  refine ⟨fd, F, ok_of F sc_W_eq (fun vs H Q E h => ?_) fun cdv A outer s H vs Q E hr h => ?_⟩
  · obtain ⟨a, b, rfl, _⟩ := h
    rfl
  · obtain ⟨a, b, rfl, ⟨x, hx, ⟨dx, ea⟩, ⟨dy, eb⟩⟩, k⟩ := h
    have ok1 : PyData.strOk x.word = true := ok_word hx.word
    have ok2 : PyData.strOk x.what = true := ok_may hx.may
    refine ⟨_, (pss_cons (ps_if (pt_not (pt_val (pe_callB call_isi (by rfl) T.f_isinstance b_isinstance (pa_cons (pv 1) (pa_cons (C8.pe_gc (v := .ref (He.ga _ "Wish")) (by rfl) ⟨_, T.g_Wish, rfl⟩) pa_nil))))) (pss_one (ps_ret pe_bl)) pss_nil)
      (pss_cons (ps_set (i := 2) sc_W_eq.nd rfl (Or.inl rfl) (pe_tup (pa_cons (pe_fld (pv 0) rfl) (pa_cons (pe_fld (pv 0) rfl) (pa_cons (pe_fld (pv 0) rfl) (pa_cons (pe_fld (pv 0) rfl) pa_nil))))))
      (pss_one (ps_ret (pe_cmpR (op_eqD hr.units) (pv 2) (pe_tup (pa_cons (pe_fld (pv 1) rfl) (pa_cons (pe_fld (pv 1) rfl) (pa_cons (pe_fld (pv 1) rfl) (pa_cons (pe_fld (pv 1) rfl) pa_nil))))) (nomark _)))))), ?_⟩
    refine ⟨_, rfl, _, _, _, _, true, rfl, .own _, tyx_ins eb T.is_Wish, T.is_Wish.me, true, rfl, iteF ?_⟩
    refine ⟨_, rfl, a, _, dx, _, _, rfl, ea, T.c_Wish, T.n_Wish_word, lk_word x, _, rfl, a, _, dx, _, _, rfl, ea, T.c_Wish, T.n_Wish_what, lk_what x, _, rfl, a, _, dx, _, _, rfl, ea, T.c_Wish, T.n_Wish_least, lk_least x, _, rfl, a, _, dx, _, _, rfl, ea, T.c_Wish, T.n_Wish_most, lk_most x, (by decide : 4 ≤ sizeLine), fun p hp => ?_⟩
    have s1 := same_new hp (o := .tup [.str x.word, .str x.what, .int x.least, .int x.most])
    have eb1 := s1 _ _ eb
    refine ⟨_, rfl, _, rfl, b, _, dy, _, _, rfl, eb1, T.c_Wish, T.n_Wish_word, lk_word x, _, rfl, b, _, dy, _, _, rfl, eb1, T.c_Wish, T.n_Wish_what, lk_what x, _, rfl, b, _, dy, _, _, rfl, eb1, T.c_Wish, T.n_Wish_least, lk_least x, _, rfl, b, _, dy, _, _, rfl, eb1, T.c_Wish, T.n_Wish_most, lk_most x, (by decide : 4 ≤ sizeLine), fun q hq => ?_⟩
    have s2 := same_new hq (o := .tup [.str x.word, .str x.what, .int x.least, .int x.most])
    have dp : ∀ {H : Hp}, DpAll K H [.str x.word, .str x.what, .int x.least, .int x.most] [.str x.word, .str x.what, .int x.least, .int x.most] := .cons (.str _) (.cons (.str _) (.cons (.int _) (.cons (.int _) .nil)))
    refine ⟨.tuple [.str x.word, .str x.what, .int x.least, .int x.most], .tuple [.str x.word, .str x.what, .int x.least, .int x.most], .tup (SqT.is (s2 _ _ upd_same)) dp, .tup (SqT.is upd_same) dp, ?_, ?_, ?_⟩
    · simp [SeqAt.shaped, PyData.canLay0, PyData.depth, PyData.canLayAll0, PyData.depthAll, ok1, ok2]
    · simp [SeqAt.shaped, PyData.canLay0, PyData.depth, PyData.canLayAll0, PyData.depthAll, ok1, ok2]
    · have e : PyData.eqv (.tuple [.str x.word, .str x.what, .int x.least, .int x.most]) (.tuple [.str x.word, .str x.what, .int x.least, .int x.most]) = true := by
        show ((x.word == x.word) && ((x.what == x.what) && ((x.least == x.least) && ((x.most == x.most) && true)))) = true
        simp
      rw [e]
      exact k _ (s1.trans s2)
/-! ### moved -/
def clampI (v : Int) : Int := if (if v > 0 then v else 0) < 999 then (if v > 0 then v else 0) else 999
theorem clamp_eq (v : Int) : clampI v = min 999 (max 0 v) := by
  unfold clampI
  split <;> split at * <;> omega
def Wd.moved (x : Wd) (by_ : Int) : Wd := { x with least := clampI (x.least + by_), most := clampI (x.most + by_) }
theorem WishP.moved {x : Wd} (h : WishP x) (i : Int) : WishP (x.moved i) := by
  refine ⟨h.word, h.may, ?_, ?_, ?_, ?_, ?_⟩
  · show 0 ≤ clampI _
    rw [clamp_eq]
    omega
  · show clampI _ ≤ 999
    rw [clamp_eq]
    omega
  · show 0 ≤ clampI _
    rw [clamp_eq]
    omega
  · show clampI _ ≤ 999
    rw [clamp_eq]
    omega
  · rcases h.le with g | g
    · left
      show clampI _ ≤ clampI _
      rw [clamp_eq, clamp_eq]
      omega
    · exact .inr g
theorem make_same {H H' : Hp} {b dx : Addr} {o1 o2 o3 : HO} (hb : H b = none) (hd : H dx = none) (s : Same (upd (upd (upd H dx o1) b o2) b o3) H') : Same H H' ∧ H' b = some o3 :=
  ⟨fun a u e => s _ _ (by
    rw [upd_ne (ne_of_none e hb), upd_ne (ne_of_none e hb), upd_ne (ne_of_none e hd)]
    exact e), s _ _ upd_same⟩
def spMoved (K : PySem.W.Frag) : Sp := fun vs H Q _ => ∃ a x i, vs = [.ref a, .int i] ∧ WAt K H a x ∧ WishP x ∧ ∀ b H', Same H H' → H b = none → WAt K H' b (x.moved i) → Q (.ref b) H'
theorem met_W_moved (T : Top w K mg) : C8.Met P w K mg base 5 (He.ga K "Wish") "moved" (spMoved K) [] := by
  obtain ⟨fd, F⟩ := T.d_W_moved
  refine met0_of T.c_Wish T.m_W_moved F (ok_of F sc_W_moved (fun vs H Q E h => ?_) fun cdv A outer s H vs Q E hr h => ?_) fun _ _ _ _ _ _ us hl => match us, hl with | [_, _], _ => rfl
  · obtain ⟨a, x, i, rfl, _⟩ := h
    rfl
  · obtain ⟨a, x, i, rfl, ⟨dx, ea⟩, hx, k⟩ := h
    refine ⟨_, (pss_cons (ps_if (pt_not (pt_val (C8.pe_c (cal_is_number T) hr (by decide) (by rfl) (pa_cons (pv 1) pa_nil)))) (pss_one ps_never) pss_nil)
      (pss_cons (ps_asg (pe_lc (own := [("bound", 4)]) (g := gName 4) (tt := tYes) rfl sc_W_moved.nd (pi_tup (pe_tup (pa_cons (pe_fld (pv 0) rfl) (pa_cons (pe_fld (pv 0) rfl) pa_nil)))) (blkOk_by (N := N_W_moved) (sc := defScope s_W_moved) (by decide +kernel)) (fun _ _ _ _ _ => (pg_name (i := 4) sc_W_moved.nd rfl (Or.inl rfl))) (fun _ _ _ _ _ => pts_nil) (fun _ _ _ _ _ => (pe_callB (call_min2 rfl) (by rfl) T.f_min b_min (pa_cons (C8.pe_gc (by rfl) T.i_MOST_SUM) (pa_cons (pe_callB (call_max2 rfl) (by rfl) T.f_max b_max (pa_cons pe_int (pa_cons (pe_op op_add (pv 4) (pv 1)) pa_nil))) pa_nil))))) (pg_unl rfl (pgs_cons (pg_name (i := 2) sc_W_moved.nd rfl (Or.inl rfl)) (pgs_cons (pg_name (i := 3) sc_W_moved.nd rfl (Or.inl rfl)) pgs_nil))))
      (pss_one (ps_ret (pe_mkN (makN_W_init_1_what_least_most T) hr (by decide) (by rfl) (pa_cons (pe_fld (pv 0) rfl) pa_nil) (pk_cons (pe_fld (pv 0) rfl) (pk_cons (pv 2) (pk_cons (pv 3) pk_nil)))))))), ?_⟩
    refine ⟨_, rfl, i, rfl, true, rfl, iteF ?_⟩
    refine ⟨_, rfl, a, _, dx, _, _, rfl, ea, T.c_Wish, T.n_Wish_least, lk_least x, _, rfl, a, _, dx, _, _, rfl, ea, T.c_Wish, T.n_Wish_most, lk_most x, (by decide : 2 ≤ sizeLine), fun p hp => ?_⟩
    have s1 := same_new hp (o := .tup [.int x.least, .int x.most])
    refine ⟨p, rfl, ⟨_, SqT.is upd_same⟩, fun D hD => ?_⟩
    refine lc_ext (walk_tup (K := K) (a := p) (xs := [V.int x.least, V.int x.most])) hD (fun j => ([x.least, x.most].take j).map fun v => V.int (clampI (v + i))) rfl (fun H2 s2 => SqT.is (s2 _ _ upd_same)) (fun j hj => ?_) (fun j y0 H2 H3 hj sm y R kR R0 kR0 => ?_) fun H2 sm eD => ?_
    · rw [List.length_map, List.length_take]
      exact Nat.lt_of_le_of_lt (Nat.min_le_right _ _) (show 2 < sizeLine by decide)
    · obtain ⟨rfl, hv⟩ := y
      have hv' : ([x.least, x.most].map V.int)[j]? = some y0 := hv
      rw [List.getElem?_map] at hv'
      cases e : [x.least, x.most][j]? with
      | none => rw [e] at hv'; cases hv'
      | some v =>
        rw [e] at hv'
        obtain rfl := Option.some.inj hv'
        refine ⟨rfl, _, rfl, _, rfl, v, i, rfl, rfl, 0, v + i, rfl, 999, _, rfl, kR _ _ (Same.refl _) ?_⟩
        rw [take_map e]
        rfl
    · have s2 := s1.trans sm
      refine ⟨D, _, rfl, SqL.is eD, rfl, _, _, rfl, _, _, rfl, rfl, ?_⟩
      refine ⟨_, rfl, a, _, dx, _, _, rfl, s2 _ _ ea, T.c_Wish, T.n_Wish_word, lk_word x, _, rfl, a, _, dx, _, _, rfl, s2 _ _ ea, T.c_Wish, T.n_Wish_what, lk_what x, _, rfl, _, rfl, rfl, rfl, fun b db hb hdb hne => ?_⟩
      refine ⟨b, x.moved i, db, rfl, upd_same, hx.moved i, fun H3 s3 => ⟨rfl, ?_⟩⟩
      obtain ⟨g1, g2⟩ := make_same hb hdb s3
      exact k b H3 (s2.trans g1) (Same.none s2 hb) ⟨db, g2⟩
/-! ### a wish's text -/
def numS (i : Int) : Str := Str.ofString (toString i)
def whatL (z : Str) : List Str := if z = ("" : Str) then [] else [z]
def pieces (x : Wd) : List Str := x.word :: (whatL x.what ++ [numS x.least, numS x.most])
def textOf (x : Wd) : Str := Txt.join (" " : Str) (pieces x)
def spWStr (K : PySem.W.Frag) : Sp := fun vs H Q _ => ∃ a x, vs = [.ref a] ∧ WAt K H a x ∧ WishP x ∧ ∀ H', Same H H' → Q (.str (textOf x)) H'
theorem log_ok {i : Int} (h0 : 0 ≤ i) (h1 : i ≤ 999) : i.natAbs.log2 < 1920 := Nat.lt_of_le_of_lt (Nat.log2_le_self _) (by omega)
theorem numS_tl {i : Int} (h0 : 0 ≤ i) : (numS i).cps.toList = TL.numL i.toNat := by
  obtain ⟨n, rfl⟩ := Int.eq_ofNat_of_zero_le h0
  exact TL.tl_num n
theorem numS_len {i : Int} (h0 : 0 ≤ i) (h1 : i ≤ 999) : (numS i).length ≤ 3 := by
  have e : (numS i).length = (numS i).cps.toList.length := by
    show (numS i).cps.size = _
    rw [Array.length_toList]
  rw [e, numS_tl h0]
  exact TL.numL_len (by decide) (show i.toNat < 10 ^ 3 by omega)
theorem word_len {z : Str} (h : z ∈ wordsL) : z.length ≤ 5 := by
  unfold wordsL at h
  simp only [List.mem_cons, List.not_mem_nil, or_false] at h
  rcases h with rfl | rfl | rfl | rfl | rfl | rfl <;> decide +kernel
theorem what_len {w z : Str} (h : MayP w z) : z.length ≤ 8 := by
  rcases h with ⟨rfl, _⟩ | ⟨h, _⟩
  · decide +kernel
  · exact h.2.1
theorem len_zero {z : Str} (h : z.length = 0) : z = ("" : Str) := by
  refine str_ext ?_
  have : z.cps.toList.length = 0 := by
    rw [Array.length_toList]
    exact h
  rw [List.eq_nil_of_length_eq_zero this]
  rfl
theorem fn_W_str_ (T : Top w K mg) : ∃ fd, FunD K "__str__" "Wish.__str__" (defArgs s_W_str_) (defBody s_W_str_) (defScope s_W_str_) [] [] (He.ma K (He.ga K "Wish") "__str__") fd ∧ FnOk P w K mg base C8.CX0 1 (He.ma K (He.ga K "Wish") "__str__") fd ["self"] (spWStr K) := by
  obtain ⟨fd, F⟩ := T.d_W_str_
  refine ⟨fd, F, ok_of F sc_W_str_ (fun vs H Q E h => ?_) fun cdv A outer s H vs Q E hr h => ?_⟩
  · obtain ⟨a, x, rfl, _⟩ := h
    rfl
  · obtain ⟨a, x, rfl, ⟨dx, ea⟩, hx, k⟩ := h
    refine ⟨_, (pss_one (ps_ret (pe_join pe_str (pe_op op_cat (pe_op op_cat (pe_lst (pa_cons (pe_fld (pv 0) rfl) pa_nil)) (pe_op op_rep (pe_lst (pa_cons (pe_fld (pv 0) rfl) pa_nil)) (pe_callB (call_min2 rfl) (by rfl) T.f_min b_min (pa_cons pe_int (pa_cons (pe_callB call_len_str (by rfl) T.f_len b_len (pa_cons (pe_fld (pv 0) rfl) pa_nil)) pa_nil))))) (pe_lst (pa_cons (pe_callTy call_str_int (by rfl) T.f_str b_str (pa_cons (pe_fld (pv 0) rfl) pa_nil)) (pa_cons (pe_callTy call_str_int (by rfl) T.f_str b_str (pa_cons (pe_fld (pv 0) rfl) pa_nil)) pa_nil))))))), ?_⟩
    refine ⟨⟨_, rfl⟩, _, rfl, a, _, dx, _, _, rfl, ea, T.c_Wish, T.n_Wish_word, lk_word x, (by decide : 1 ≤ sizeLine), fun p1 hp1 => ?_⟩
    have s1 := same_new hp1 (o := .lst [.str x.word])
    refine ⟨_, rfl, a, _, dx, _, _, rfl, s1 _ _ ea, T.c_Wish, T.n_Wish_what, lk_what x, (by decide : 1 ≤ sizeLine), fun p2 hp2 => ?_⟩
    have s2 := same_new hp2 (o := .lst [.str x.what])
    refine ⟨_, rfl, a, _, dx, _, _, rfl, s2 _ _ (s1 _ _ ea), T.c_Wish, T.n_Wish_what, lk_what x, x.what, rfl, size8 (Nat.le_trans (what_len hx.may) (by decide)), 1, (x.what.length : Nat), rfl, ?_⟩
    have hkk : ∃ kk : Int, (if ((x.what.length : Nat) : Int) < 1 then ((x.what.length : Nat) : Int) else 1) = kk ∧ 0 ≤ kk ∧ kk ≤ 1 ∧ (List.replicate kk.toNat [V.str x.what]).flatten = (whatL x.what).map V.str := by
      by_cases c : x.what.length = 0
      · refine ⟨0, by rw [c]; rfl, by omega, by omega, ?_⟩
        unfold whatL
        rw [if_pos (len_zero c)]
        rfl
      · refine ⟨1, by rw [if_neg (by omega)], by omega, by omega, ?_⟩
        unfold whatL
        rw [if_neg (fun e => c (by rw [e]; rfl))]
        rfl
    obtain ⟨kk, ek, k0, k1, ef⟩ := hkk
    rw [ek]
    refine ⟨p2, kk, _, rfl, rfl, upd_same, by omega, by omega, Nat.le_trans (Nat.mul_le_mul (Nat.le_refl 1) (show kk.toNat ≤ 1 by omega)) (by decide), fun p3 hp3 => ?_⟩
    rw [ef]
    have s3 := same_new hp3 (o := .lst ((whatL x.what).map V.str))
    have lw : (whatL x.what).length ≤ 1 := by
      unfold whatL
      split
      · exact Nat.zero_le _
      · exact Nat.le_refl _
    have lw2 : ((whatL x.what).map V.str).length ≤ 1 := by
      rw [List.length_map]
      exact lw
    refine ⟨p1, p3, _, _, rfl, rfl, s3 _ _ (s2 _ _ upd_same), upd_same, Nat.le_trans (Nat.add_le_add_left lw2 1) (by decide), fun p4 hp4 => ?_⟩
    have s4 := same_new hp4 (o := .lst ([V.str x.word] ++ (whatL x.what).map V.str))
    have s14 := ((s1.trans s2).trans s3).trans s4
    refine ⟨_, rfl, a, _, dx, _, _, rfl, s14 _ _ ea, T.c_Wish, T.n_Wish_least, lk_least x, x.least, rfl, log_ok hx.l0 hx.l1, _, rfl, a, _, dx, _, _, rfl, s14 _ _ ea, T.c_Wish, T.n_Wish_most, lk_most x, x.most, rfl, log_ok hx.m0 hx.m1, (by decide : 2 ≤ sizeLine), fun p5 hp5 => ?_⟩
    have s5 := same_new hp5 (o := .lst [V.str (numS x.least), V.str (numS x.most)])
    refine ⟨p4, p5, _, _, rfl, rfl, s5 _ _ upd_same, upd_same, ?_, fun p6 hp6 => ?_⟩
    · rw [List.length_append]
      exact Nat.le_trans (Nat.add_le_add_right (Nat.add_le_add_left lw2 1) 2) (by decide)
    · have s6 := same_new hp6 (o := .lst ([V.str x.word] ++ (whatL x.what).map V.str ++ [V.str (numS x.least), V.str (numS x.most)]))
      have ep : [V.str x.word] ++ (whatL x.what).map V.str ++ [V.str (numS x.least), V.str (numS x.most)] = (pieces x).map V.str := by
        unfold pieces
        rw [List.map_cons, List.map_append]
        rfl
      refine ⟨(" " : Str), p6, pieces x, rfl, rfl, .inl (SqL.is (by rw [← ep]; exact upd_same)), ?_, k _ ((s14.trans s5).trans s6)⟩
      have l1 := word_len hx.word
      have l2 := what_len hx.may
      have l3 := numS_len hx.l0 hx.l1
      have l4 := numS_len hx.m0 hx.m1
      unfold pieces whatL
      split
      · simp only [List.map_cons, List.map_nil, List.sum_cons, List.sum_nil, List.nil_append, List.length_cons, List.length_nil]
        have : (" " : Str).length = 1 := rfl
        omega
      · simp only [List.map_cons, List.map_nil, List.sum_cons, List.sum_nil, List.cons_append, List.nil_append, List.length_cons, List.length_nil]
        have : (" " : Str).length = 1 := rfl
        omega
/-- str(a wish) -/
theorem pe_strW {X : Cx} {e : Expr} {t : TA} {p pos : Pos} {j : Nat} (T : Top X.w X.K X.mg) (hr : Room j X.A) (hk : 3 ≤ j) (hg : Gl X "str") (ha : PA X [e] t) (hs : starEach [e] X.env = (false, eval e X.env) :: starEach [] X.env := by rfl) :
    PE X (.Call (.Name "str" p) [e] [] pos) (tStrW (He.ga X.K "Wish") (spWStr X.K) t) := by
  obtain ⟨fd, F, G⟩ := fn_W_str_ (P := X.prog) (base := X.base) T
  exact pe_strI (n := 1) G (F.bindsN fun kV doc pm an cdv ct us hl => match us, hl with | [_], _ => rfl) T.m_W_str_ hr hk hg T.f_str ha hs
/-- x != y of two wishes -/
theorem op_neW {X : Cx} {j : Nat} (T : Top X.w X.K X.mg) (hr : Room j X.A) (hk : 3 ≤ j := by decide) : OpR X (compareOp .NotEq) (rNeI (He.ga X.K "Wish") (wEq X.K)) := by
  obtain ⟨fd, F, G⟩ := fn_W_eq (P := X.prog) (base := X.base) T
  exact op_neI (n := 1) G (F.bindsN fun kV doc pm an cdv ct us hl => match us, hl with | [_, _], _ => rfl) T.m_W_eq T.ne_Wish T.is_Wish hr hk
/-! ### a wish of its text -/
def figOk (n : Nat) : Bool := (TL.numL n).all (fun c => decide (48 ≤ c) && decide (c ≤ 57)) && decide (1 ≤ (TL.numL n).length) && decide ((TL.numL n).length ≤ 3) && (decide ((TL.numL n).length ≤ 1) || (TL.numL n).head? != some 48)
theorem fig_all : (List.range 1000).all figOk = true := by decide +kernel
theorem fig_of {i : Int} (h0 : 0 ≤ i) (h1 : i ≤ 999) : figOk i.toNat = true := List.all_eq_true.mp fig_all _ (List.mem_range.mpr (by omega))
theorem numS_read {i : Int} (h0 : 0 ≤ i) (h1 : i ≤ 999) : intText? (numS i) = some i := by
  obtain ⟨n, rfl⟩ := Int.eq_ofNat_of_zero_le h0
  refine TL.int_num ?_
  exact Nat.le_trans (TL.numL_len (k := 3) (by decide) (show n < 10 ^ 3 by omega)) (by decide)
theorem fig_mem {c : Nat} (h : 48 ≤ c ∧ c ≤ 57) : c ∈ v_FIGURES.cps.toList := by
  have e : v_FIGURES.cps.toList = [48, 49, 50, 51, 52, 53, 54, 55, 56, 57] := by decide +kernel
  rw [e]
  obtain ⟨h1, h2⟩ := h
  have hc : c = 48 ∨ c = 49 ∨ c = 50 ∨ c = 51 ∨ c = 52 ∨ c = 53 ∨ c = 54 ∨ c = 55 ∨ c = 56 ∨ c = 57 := by omega
  simp only [List.mem_cons, List.not_mem_nil, or_false]
  exact hc
theorem atI_zero {α : Type} {d : α} {r : List α} : atI (d :: r) 0 = some d := by
  simp [atI, ixN]
def spFigures : Sp := fun vs H Q _ => ∃ i : Int, vs = [.str (numS i)] ∧ 0 ≤ i ∧ i ≤ 999 ∧ ∀ H', Same H H' → Q (.int i) H'
theorem cal_figures_in (T : Top w K mg) : C8.Cal P w K mg base 1 "figures_in" spFigures [] := by
  obtain ⟨fd, F⟩ := T.d_figures_in
  refine cal0_of F T.g_figures_in (ok_of F sc_figures_in (fun vs H Q E h => ?_) fun cdv A outer s H vs Q E hr h => ?_) fun _ _ _ _ _ _ us hl => match us, hl with | [_], _ => rfl
  · obtain ⟨i, rfl, _⟩ := h
    rfl
  · obtain ⟨i, rfl, h0, h1, k⟩ := h
    have hf := fig_of h0 h1
    have ht := numS_tl h0
    have hlen : (numS i).length = (TL.numL i.toNat).length := by
      rw [← ht, Array.length_toList]
      rfl
    unfold figOk at hf
    simp only [Bool.and_eq_true, decide_eq_true_eq, List.all_eq_true, Bool.or_eq_true] at hf
    obtain ⟨⟨⟨f1, f2⟩, f3⟩, f4⟩ := hf
    refine ⟨_, (pss_cons (ps_if (PW.pt (pw_or (pt_not (pt_val (pe_callB (cr_all rfl) (by rfl) T.f_all b_all (pa_cons (pe_lc (own := [("sign", 1)]) (g := gName 1) (tt := tYes) rfl sc_figures_in.nd (pi_str (pv 0)) (blkOk_by (N := N_figures_in) (sc := defScope s_figures_in) (by decide +kernel)) (fun _ _ _ _ _ => (pg_name (i := 1) sc_figures_in.nd rfl (Or.inl rfl))) (fun _ _ _ _ _ => pts_nil) (fun _ _ _ _ _ => (pe_cmpR op_in_sign (pv 1) (C8.pe_gc (by rfl) T.s_FIGURES) (by rfl)))) pa_nil)))) (pw_or (pt_cmpR op_gt (pe_callB call_len_str (by rfl) T.f_len b_len (pa_cons (pv 0) pa_nil)) pe_int (nomark _)) (pw_or1 (PW.pt (pw_and (pt_cmpR op_gt (pe_callB call_len_str (by rfl) T.f_len b_len (pa_cons (pv 0) pa_nil)) pe_int (nomark _)) (pw_and1 (pt_cmpR op_eq (pe_ix ix_str (pv 0) pe_int (fun _ _ => rfl)) pe_str (nomark _))))))))) (pss_one (ps_ret pe_non)) pss_nil)
      (pss_one (ps_ret (pe_callTy call_int_str (by rfl) T.f_int b_int (pa_cons (pv 0) pa_nil))))), ?_⟩
    refine ⟨_, rfl, _, rfl, fun D hD => ?_⟩
    refine lc_ext walk_str hD (fun i => List.replicate i (.bl true)) rfl (fun _ _ => trivial) (fun j hj => ?_) (fun j y0 H1 H2 hj sm y R kR R0 _ => ?_) fun H1 sm eD => ?_
    · rw [List.length_replicate]
      have : (numS i).length = (numS i).cps.size := rfl
      exact Nat.lt_of_le_of_lt (show j ≤ 3 by omega) (by decide)
    · obtain ⟨rfl, c, hc, rfl⟩ := y
      have hm : c ∈ TL.numL i.toNat := by
        rw [← ht, Array.mem_toList_iff]
        exact Array.mem_of_getElem? hc
      refine ⟨rfl, _, rfl, c, _, rfl, rfl, ?_⟩
      rw [decide_eq_true (fig_mem (f1 c hm))]
      exact kR _ _ (Same.refl _) (rep_succ j)
    · refine ⟨D, List.replicate (numS i).cps.size true, rfl, by rw [map_rep]; exact SqL.is eD, true, by rw [all_rep], iteF ?_⟩
      refine ⟨_, rfl, _, rfl, size8 (by omega), (numS i).length, 3, rfl, rfl, _, rfl, ?_⟩
      rw [decide_eq_false (show ¬ ((3 : Int) < ((numS i).length : Nat)) by omega)]
      refine iteF ?_
      have fin : ∀ Q2 : V → Hp → Prop, (Q2 (.int i) H1) → ∃ a n, [V.str (numS i)] = [V.str a] ∧ intText? a = some n ∧ a.length ≤ 640 ∧ Q2 (.int n) H1 := fun Q2 q => ⟨_, i, rfl, numS_read h0 h1, by omega, q⟩
      refine ⟨_, rfl, _, rfl, size8 (by omega), (numS i).length, 1, rfl, rfl, _, rfl, ?_⟩
      by_cases c : (1 : Int) < ((numS i).length : Nat)
      · rw [decide_eq_true c]
        have hne : TL.numL i.toNat ≠ [] := TL.numL_ne _
        obtain ⟨d, r, er⟩ := List.exists_cons_of_ne_nil hne
        have hd : d ≠ 48 := by
          intro e
          rcases f4 with g | g
          · omega
          · rw [er, e] at g
            simp at g
        have hat : atI (numS i).cps.toList 0 = some d := by
          rw [ht, er]
          exact atI_zero
        refine iteT ⟨_, rfl, numS i, 0, d, rfl, rfl, size8 (by omega), hat, rfl, _, rfl, ?_⟩
        rw [dstr, decide_eq_false (fun e => hd ?_)]
        · exact iteF ⟨_, rfl, fin _ (k _ sm)⟩
        · have e2 := congrArg (fun z : Str => z.cps.toList) e
          have e3 : [d] = [48] := e2
          injection e3
      · rw [decide_eq_false c]
        exact iteF (iteF ⟨_, rfl, fin _ (k _ sm)⟩)
theorem blank_free {x : Wd} (h : WishP x) : ∀ p ∈ pieces x, 32 ∉ TL.tl p := by
  intro p hp
  unfold pieces at hp
  rcases List.mem_cons.mp hp with rfl | hp
  · have hw := h.word
    unfold wordsL at hw
    simp only [List.mem_cons, List.not_mem_nil, or_false] at hw
    rcases hw with e | e | e | e | e | e <;> rw [e] <;> decide +kernel
  · rcases List.mem_append.mp hp with hp | hp
    · unfold whatL at hp
      split at hp
      · cases hp
      · rw [List.mem_singleton.mp hp]
        rcases h.may with ⟨e, _⟩ | ⟨e, _⟩
        · rw [e]
          decide +kernel
        · intro hm
          have := e.2.2 32 hm
          omega
    · have nb : ∀ i : Int, 0 ≤ i → 32 ∉ TL.tl (numS i) := fun i h0 => by
        rw [show TL.tl (numS i) = TL.numL i.toNat from numS_tl h0]
        exact TL.numL_free (Or.inl (by decide))
      rcases List.mem_cons.mp hp with rfl | hp
      · exact nb _ h.l0
      · rw [List.mem_singleton.mp hp]
        exact nb _ h.m0
theorem pieces_ne {x : Wd} (h : WishP x) : ∀ p ∈ pieces x, p ≠ ("" : Str) := by
  intro p hp
  unfold pieces at hp
  rcases List.mem_cons.mp hp with rfl | hp
  · have hw := h.word
    unfold wordsL at hw
    simp only [List.mem_cons, List.not_mem_nil, or_false] at hw
    rcases hw with e | e | e | e | e | e <;> rw [e] <;> decide +kernel
  · rcases List.mem_append.mp hp with hp | hp
    · unfold whatL at hp
      split at hp
      · cases hp
      · rename_i hne
        rw [List.mem_singleton.mp hp]
        exact hne
    · have nb : ∀ i : Int, 0 ≤ i → numS i ≠ ("" : Str) := fun i h0 e => by
        have e1 := numS_tl h0
        rw [e] at e1
        exact TL.numL_ne i.toNat e1.symm
      rcases List.mem_cons.mp hp with rfl | hp
      · exact nb _ h.l0
      · rw [List.mem_singleton.mp hp]
        exact nb _ h.m0
theorem split_text {x : Wd} (h : WishP x) : Txt.split (textOf x) (" " : Str) = pieces x :=
  TL.split_join (y := (" " : Str)) (s := 32) (S := []) rfl (by decide +kernel) (List.cons_ne_nil _ _) (blank_free h)
theorem join_what {z : Str} : Txt.join ("" : Str) (whatL z) = z := by
  unfold whatL
  split
  · rename_i e
    rw [e]
    rfl
  · rw [TL.join_eq]
    rfl
theorem text_len {x : Wd} (h : WishP x) : (textOf x).length + 2 ≤ sizeLine := by
  have l1 := word_len h.word
  have l2 := what_len h.may
  have l3 := numS_len h.l0 h.l1
  have l4 := numS_len h.m0 h.m1
  have g : (textOf x).length ≤ 60 := by
    unfold textOf
    rw [TL.join_eq]
    refine Nat.le_trans (StrLaws.join_length_le _ _) ?_
    have : (" " : Str).length = 1 := rfl
    unfold pieces whatL
    split
    · simp only [List.map_cons, List.map_nil, List.sum_cons, List.sum_nil, List.nil_append, List.length_cons, List.length_nil]
      omega
    · simp only [List.map_cons, List.map_nil, List.sum_cons, List.sum_nil, List.cons_append, List.nil_append, List.length_cons, List.length_nil]
      omega
  exact Nat.le_trans (Nat.add_le_add_right g 2) (by decide)
theorem cutV_last2 (xs : List V) : cutV xs (some (-2)) none = xs.drop (xs.length - 2) := by
  have e : HT.sIx xs.length 0 (some (-2)) = xs.length - 2 := by
    show (if (-2 : Int) < 0 then ((-2 : Int) + (xs.length : Nat)).toNat else min (-2 : Int).toNat xs.length) = _
    rw [if_pos (by decide)]
    omega
  unfold cutV
  rw [e, HT.sIx_none, List.take_of_length_le]
  rw [List.length_drop]
  exact Nat.le_refl _
theorem cutV_mid (xs : List V) (h : 3 ≤ xs.length) : cutV xs (some 1) (some (-2)) = (xs.drop 1).take (xs.length - 3) := by
  have e : HT.sIx xs.length xs.length (some (-2)) = xs.length - 2 := by
    show (if (-2 : Int) < 0 then ((-2 : Int) + (xs.length : Nat)).toNat else min (-2 : Int).toNat xs.length) = _
    rw [if_pos (by decide)]
    omega
  have e1 : HT.sIx xs.length 0 (some 1) = 1 := by
    have := HT.sIx_nat xs.length 0 1
    rw [show (some ((1 : Nat) : Int)) = some 1 from rfl] at this
    rw [this]
    omega
  unfold cutV
  rw [e, e1]
  congr 1
def spWishOf (K : PySem.W.Frag) : Sp := fun vs H Q _ => ∃ x, vs = [.str (textOf x)] ∧ WishP x ∧ ∀ b H', Same H H' → H b = none → WAt K H' b x → Q (.ref b) H'
theorem cal_wish_of (T : Top w K mg) : C8.Cal P w K mg base 5 "wish_of" (spWishOf K) [] := by
  obtain ⟨fd, F⟩ := T.d_wish_of
  refine cal0_of F T.g_wish_of (ok_of F sc_wish_of (fun vs H Q E h => ?_) fun cdv A outer s H vs Q E hr h => ?_) fun _ _ _ _ _ _ us hl => match us, hl with | [_], _ => rfl
  · obtain ⟨x, rfl, _⟩ := h
    rfl
  · obtain ⟨x, rfl, hx, k⟩ := h
    have hpl : (pieces x).length ≤ 4 := by
      unfold pieces whatL
      split <;> simp
    refine ⟨_, (pss_cons (ps_if (pt_not (pt_val (pe_callB call_isi (by rfl) T.f_isinstance b_isinstance (pa_cons (pv 0) (pa_cons (pe_bltn (v := .ty "str") (by rfl) T.f_str b_str rfl) pa_nil))))) (pss_one ps_never) pss_nil)
      (pss_cons (ps_setLc (i := 1) (own := [("word", 4)]) (g := gName 4) rfl sc_wish_of.nd rfl rfl (sw_true rfl rfl rfl (by decide +kernel)) (pi_list (pe_split (pv 0) pe_str)) (blkOk_by (N := N_wish_of) (sc := defScope s_wish_of) (by decide +kernel)) (fun _ _ _ _ _ => (pg_name (i := 4) sc_wish_of.nd rfl (Or.inl rfl))) (fun _ _ _ _ _ => (pts_one (pt_cmpR op_ne (pv 4) pe_str (nomark _)))) (fun _ _ _ _ _ => (pv 4)))
      (pss_cons (ps_if (pt_cmpR op_notIn_seq (pe_callB call_len_seq (by rfl) T.f_len b_len (pa_cons (pv 1) pa_nil)) (pe_tup (pa_cons pe_int (pa_cons pe_int pa_nil))) (by rfl)) (pss_one ps_never) pss_nil)
      (pss_cons (ps_asg (pe_lc (own := [("word", 4)]) (g := gName 4) (tt := tYes) rfl sc_wish_of.nd (pi_list (pe_slice sl_list (pv 1) (po_some (pe_un un_neg pe_int)) po_none)) (blkOk_by (N := N_wish_of) (sc := defScope s_wish_of) (by decide +kernel)) (fun _ _ _ _ _ => (pg_name (i := 4) sc_wish_of.nd rfl (Or.inl rfl))) (fun _ _ _ _ _ => pts_nil) (fun _ _ _ _ _ => (C8.pe_c (cal_figures_in T) hr (by decide) (by rfl) (pa_cons (pv 4) pa_nil)))) (pg_unl rfl (pgs_cons (pg_name (i := 2) sc_wish_of.nd rfl (Or.inl rfl)) (pgs_cons (pg_name (i := 3) sc_wish_of.nd rfl (Or.inl rfl)) pgs_nil))))
      (pss_one (ps_ret (pe_mkN (makN_W_init_1_what_least_most T) hr (by decide) (by rfl) (pa_cons (pe_ix ix_list (pv 1) pe_int (fun _ _ => rfl)) pa_nil) (pk_cons (pe_join pe_str (pe_slice sl_list (pv 1) (po_some pe_int) (po_some (pe_un un_neg pe_int)))) (pk_cons (pv 2) (pk_cons (pv 3) pk_nil)))))))))), ?_⟩
    refine ⟨_, rfl, _, _, _, _, true, rfl, .ty _, .base (.str _), ki_str_str, true, rfl, iteF ?_⟩
    refine ⟨_, rfl, ⟨_, rfl⟩, textOf x, (" " : Str), rfl, rfl, rfl, text_len hx, fun p hp => ?_⟩
    rw [split_text hx]
    have s1 := same_new hp (o := .lst ((pieces x).map V.str))
    refine ⟨p, rfl, ⟨_, SqL.is upd_same⟩, fun D hD => ?_⟩
    refine lc_ext (walk_list (K := K) (a := p) (xs := (pieces x).map V.str)) hD (fun j => ((pieces x).take j).map V.str) rfl (fun H2 s2 => SqL.is (s2 _ _ upd_same)) (fun j hj => ?_) (fun j y0 H2 H3 hj sm y R kR R0 kR0 => ?_) fun H2 sm eD => ?_
    · rw [List.length_map, List.length_take]
      exact Nat.lt_of_le_of_lt (Nat.le_trans (Nat.min_le_right _ _) hpl) (by decide)
    · obtain ⟨rfl, hv⟩ := y
      obtain ⟨z, hz, rfl⟩ := str_at hv
      refine ⟨rfl, _, rfl, rfl, _, rfl, ?_⟩
      rw [dne, decide_eq_false (pieces_ne hx z (List.mem_of_getElem? hz))]
      refine iteT ⟨_, rfl, kR _ _ (Same.refl _) ?_⟩
      rw [take_map hz]
    · rw [List.length_map, List.take_length] at eD
      have s2 := s1.trans sm
      have hl34 : (pieces x).length = 3 ∨ (pieces x).length = 4 := by
        unfold pieces whatL
        split
        · exact .inl rfl
        · exact .inr rfl
      have hin : inV (.int (((pieces x).map V.str).length : Nat)) [.int 3, .int 4] = true := by
        rw [List.length_map]
        rcases hl34 with e | e <;> rw [e] <;> rfl
      refine ⟨_, rfl, D, _, rfl, .inl (SqL.is eD), (by decide : 2 ≤ sizeLine), fun tp htp => ⟨tp, _, rfl, .inr (SqT.is upd_same), rfl, rfl, _, rfl, ?_⟩⟩
      rw [if_pos rfl, hin]
      refine iteF ?_
      have s3 := s2.trans (same_new htp (o := .tup [.int 3, .int 4]))
      have eD3 := same_new htp (o := .tup [.int 3, .int 4]) _ _ eD
      refine ⟨_, rfl, 2, rfl, -2, rfl, D, _, rfl, SqL.is eD3, fun q hq => ?_⟩
      have e2 : cutV ((pieces x).map V.str) (some (-2)) none = [x.least, x.most].map fun i => V.str (numS i) := by
        rw [cutV_last2]
        unfold pieces whatL
        split <;> rfl
      rw [e2]
      have s4 := s3.trans (same_new hq (o := .lst ([x.least, x.most].map fun i => V.str (numS i))))
      have eD4 := same_new hq (o := .lst ([x.least, x.most].map fun i => V.str (numS i))) _ _ eD3
      refine ⟨q, rfl, ⟨_, SqL.is upd_same⟩, fun D2 hD2 => ?_⟩
      refine lc_ext (walk_list (K := K) (a := q) (xs := [x.least, x.most].map fun i => V.str (numS i))) hD2 (fun j => ([x.least, x.most].take j).map V.int) rfl (fun H3 s5 => SqL.is (s5 _ _ upd_same)) (fun j hj => ?_) (fun j y0 H3 H4 hj sm2 y R kR R0 kR0 => ?_) fun H3 sm2 eD2 => ?_
      · rw [List.length_map, List.length_take]
        exact Nat.lt_of_le_of_lt (Nat.min_le_right _ _) (show 2 < sizeLine by decide)
      · obtain ⟨rfl, hv⟩ := y
        rw [List.getElem?_map] at hv
        cases e : [x.least, x.most][j]? with
        | none => rw [e] at hv; cases hv
        | some v =>
          rw [e] at hv
          obtain rfl := Option.some.inj hv
          have hv2 : 0 ≤ v ∧ v ≤ 999 := by
            have hm := List.mem_of_getElem? e
            rcases List.mem_cons.mp hm with rfl | hm
            · exact ⟨hx.l0, hx.l1⟩
            · rw [List.mem_singleton.mp hm]
              exact ⟨hx.m0, hx.m1⟩
          refine ⟨rfl, _, rfl, v, rfl, hv2.1, hv2.2, fun H5 s5 => kR _ _ s5 ?_⟩
          rw [take_map e]
      · have s5 := s4.trans sm2
        have eD5 := sm2 _ _ eD4
        refine ⟨D2, _, rfl, SqL.is eD2, rfl, _, _, rfl, _, _, rfl, rfl, ?_⟩
        have hmid : cutV ((pieces x).map V.str) (some 1) (some (-2)) = (whatL x.what).map V.str := by
          rw [cutV_mid _ (by rw [List.length_map]; omega), List.length_map]
          unfold pieces whatL
          split <;> rfl
        refine ⟨_, rfl, D, _, 0, _, rfl, rfl, SqL.is eD5, atI_zero, ⟨_, rfl⟩, _, rfl, 1, rfl, 2, rfl, -2, rfl, D, _, rfl, SqL.is eD5, fun q2 hq2 => ?_⟩
        rw [hmid]
        refine ⟨("" : Str), q2, whatL x.what, rfl, rfl, .inl (SqL.is upd_same), ?_, ?_⟩
        · have := what_len hx.may
          unfold whatL
          split
          · decide
          · simp only [List.map_cons, List.map_nil, List.sum_cons, List.sum_nil, List.length_cons, List.length_nil]
            have : ("" : Str).length = 0 := rfl
            omega
        · rw [join_what]
          have s6 := s5.trans (same_new hq2 (o := .lst ((whatL x.what).map V.str)))
          refine ⟨_, rfl, _, rfl, rfl, rfl, fun b db hb hdb hne => ?_⟩
          refine ⟨b, x, db, rfl, upd_same, hx, fun H4 s7 => ⟨rfl, ?_⟩⟩
          obtain ⟨g1, g2⟩ := make_same hb hdb s7
          exact k b H4 (s6.trans g1) (Same.none s6 hb) ⟨db, g2⟩
end
end K73

set_option Elab.async false
set_option linter.all false
set_option maxRecDepth 100000
set_option maxHeartbeats 4000000
/-! ## sums -/
namespace K73
open PySem PySem.Spec PyProof.Rows L2
/-! ### what the sums are -/
def ofM (L : Qs) (what : Str) : Qs := L.filter fun x => decide (what ∈ [("" : Str), x.2.matter])
/-- each once, as first met -/
def firsts : List Str → List Str
  | [] => []
  | k :: r => if k ∈ firsts r then firsts r else firsts r ++ [k]
def kinsOf (L : Qs) (what : Str) : List Str := (L.filter fun x => !decide (x.2.kin = ("" : Str)) && decide (what ∈ [("" : Str), x.2.kin])).map fun x => x.2.kin
/-- pairs of one kin; the list is read from behind -/
def pairsV (ks : List Str) : Int := ((firsts ks).map fun k => ((ks.count k : Nat) : Int) * (((ks.count k : Nat) : Int) - 1) / 2).sum
def kinV (L : Qs) (what : Str) : Int := pairsV (kinsOf L what).reverse
def sumW (word what : Str) (L : Qs) : Int :=
  if word = ("many" : Str) then ((ofM L what).length : Nat)
  else if word = ("toil" : Str) then ((ofM L what).map fun x => x.2.toil).sum
  else if word = ("marks" : Str) then ((ofM L what).map fun x => x.2.marks).sum
  else if word = ("kin" : Str) then kinV L what
  else if what ∈ L.map (fun x => x.2.name) then 1 else 0
def sumV (B : Bk) (ns : List Str) (x : Wd) (day : Int) : Int :=
  if x.word = ("rest" : Str) then ((ns.filter fun n => restsB (B.days n) day x.least).length : Nat) else sumW x.word x.what (B.qsOf ns)
def metV (x : Wd) (found : Int) : Bool := decide (found ≤ x.most) && (decide (x.word = ("rest" : Str)) || decide (x.least ≤ found))
def WsAt (K : PySem.W.Frag) (H : Hp) (l : Addr) (M : List (Addr × Wd)) : Prop := H l = some (.lst (rfs M)) ∧ (∀ x ∈ M, WAt K H x.1 x.2) ∧ (∀ x ∈ M, WishP x.2) ∧ M.length ≤ 12
theorem WsAt.same {K : PySem.W.Frag} {H H' : Hp} {l : Addr} {M : List (Addr × Wd)} (h : WsAt K H l M) (s : Same H H') : WsAt K H' l M := ⟨s _ _ h.1, fun x hx => (h.2.1 x hx).same s, h.2.2.1, h.2.2.2⟩
def spNeedWishes (K : PySem.W.Frag) : Sp := fun vs H Q _ => ∃ l M, vs = [.ref l] ∧ WsAt K H l M ∧ ∀ H', Same H H' → Q .non H'
def spOfMatter (K : PySem.W.Frag) : Sp := fun vs H Q _ => ∃ l L what, vs = [.ref l, .str what] ∧ H l = some (.lst (rfs L)) ∧ QsAt K H l L ∧ ∀ p H', Same H H' → H p = none → H' p = some (.lst (rfs (ofM L what))) → Q (.ref p) H'
def spBy (K : PySem.W.Frag) (word : Str) : Sp := fun vs H Q _ => ∃ l L a x, vs = [.ref l, .ref a] ∧ H l = some (.lst (rfs L)) ∧ QsAt K H l L ∧ WAt K H a x ∧ ∀ H', Same H H' → Q (.int (sumW word x.what L)) H'
def spSumIn (K : PySem.W.Frag) : Sp := fun vs H Q _ => ∃ b B p ns a x day, vs = [.ref b, .ref p, .ref a, .int day] ∧ BankAt K H b B ∧ PapAt H p ns ∧ (∀ n ∈ ns, n ∈ B.inN) ∧ WAt K H a x ∧ WishP x ∧ 0 ≤ day ∧ day ≤ 9999 ∧ ∀ H', Same H H' → Q (.int (sumV B ns x day)) H'
def spIsMet (K : PySem.W.Frag) : Sp := fun vs H Q _ => ∃ a x f, vs = [.ref a, .int f] ∧ WAt K H a x ∧ ∀ H', Same H H' → Q (.bl (metV x f)) H'
def spMeets (K : PySem.W.Frag) : Sp := fun vs H Q _ => ∃ b B p ns a x day, vs = [.ref b, .ref p, .ref a, .int day] ∧ BankAt K H b B ∧ PapAt H p ns ∧ (∀ n ∈ ns, n ∈ B.inN) ∧ WAt K H a x ∧ WishP x ∧ 0 ≤ day ∧ day ≤ 9999 ∧ ∀ H', Same H H' → Q (.bl (metV x (sumV B ns x day))) H'
def sumsL (B : Bk) (ns : List Str) (M : List (Addr × Wd)) (day : Int) : List Int := M.map fun x => sumV B ns x.2 day
def spSumsTold (K : PySem.W.Frag) : Sp := fun vs H Q _ => ∃ b B p ns l M day, vs = [.ref b, .ref p, .ref l, .int day] ∧ BankAt K H b B ∧ PapAt H p ns ∧ (∀ n ∈ ns, n ∈ B.inN) ∧ WsAt K H l M ∧ 0 ≤ day ∧ day ≤ 9999 ∧ ∀ q H', Same H H' → H q = none → H' q = some (.lst ((sumsL B ns M day).map V.int)) → Q (.ref q) H'
/-- the places of those not met -/
def lackL (B : Bk) (ns : List Str) (M : List (Addr × Wd)) (day : Int) (k : Nat) : List Nat := (List.range k).filter fun i => match M[i]? with
  | none => false
  | some x => !metV x.2 (sumV B ns x.2 day)
/-- a list of new pairs, the first of each as told -/
def PairsAt (H : Hp) (q : Addr) (is : List Nat) : Prop := ∃ ps : List Addr, H q = some (.lst (ps.map V.ref)) ∧ ps.length = is.length ∧ ∀ (j : Nat) (p : Addr) (i : Nat), ps[j]? = some p → is[j]? = some i → ∃ v, H p = some (.tup [.int (i : Nat), v])
def spLacking (K : PySem.W.Frag) : Sp := fun vs H Q _ => ∃ b B p ns l M day, vs = [.ref b, .ref p, .ref l, .int day] ∧ BankAt K H b B ∧ PapAt H p ns ∧ (∀ n ∈ ns, n ∈ B.inN) ∧ WsAt K H l M ∧ 0 ≤ day ∧ day ≤ 9999 ∧ ∀ q H', Same H H' → PairsAt H' q (lackL B ns M day M.length) → Q (.ref q) H'
/-- the table of the sums -/
def tabK (B : Bk) (ns : List Str) (day : Int) : List (Addr × Wd) → List (Key × V)
  | [] => []
  | x :: r => putK (tabK B ns day r) (Sum.inr (textOf x.2)) (.int (sumV B ns x.2 day))
def spSumsOf (K : PySem.W.Frag) : Sp := fun vs H Q _ => ∃ b B p ns l M day, vs = [.ref b, .ref p, .ref l, .int day] ∧ BankAt K H b B ∧ PapAt H p ns ∧ (∀ n ∈ ns, n ∈ B.inN) ∧ WsAt K H l M ∧ 0 ≤ day ∧ day ≤ 9999 ∧ ∀ q H', Same H H' → H' q = some (.dK (tabK B ns day M.reverse)) → Q (.ref q) H'
/-- a slot's def called, its promise told by its address -/
def tCallR (i : Nat) (R : Addr → Sp → Prop) (t : TA) : TE := fun σ H Q => ∃ f sp, σ[i]? = some (some (.ref f)) ∧ R f sp ∧ t σ H fun vs H1 => sp vs H1 Q (fun _ _ _ => False)
theorem pe_callR {X : Cx} {k i : Nat} {x : Str} {p pos : Pos} {e : Expr} {es : List Expr} {t : TA} {R : Addr → Sp → Prop} (A : ∀ f sp, R f sp → Held X.prog X.w X.K X.mg X.base k f sp) {j : Nat} (hr : Room j X.A) (hN : X.N[i]? = some x) (hv : Vis X.env.scope x) (ha : PA X (e :: es) t) (hk : k ≤ j := by decide)
    (hdb : (x == ("__debug__" : Str)) = false := by decide) (hcd : (x == ("__classdict__" : Str)) = false := by decide)
    (he : starEach (e :: es) X.env = (false, eval e X.env) :: starEach es X.env := by rfl) (hpl : (backTo pos (starEach es X.env)).any (·.1) = false := by rfl) : PE X (.Call (.Name x p) (e :: es) [] pos) (tCallR i R t) := by
  refine ⟨fun pins s σ H Q I h => ?_⟩
  obtain ⟨f, sp, hs, hS, ht⟩ := h
  obtain ⟨fd, ps, F, hkp, hb⟩ := (A f sp hS).ex
  refine (pe_callL (i := i) (f := f) (sp := sp) (dvs := []) (E := fun _ _ _ => False) F (hr.mono hk) hN hv hkp hb .nil (fun _ _ _ _ _ _ _ z => z.elim) ha hdb hcd he hpl).run pins s σ H Q I ⟨hs, ?_⟩
  have e0 : (fun (vs : List V) (H1 : Hp) => sp (vs ++ []) H1 Q (fun _ _ _ => False)) = fun vs H1 => sp vs H1 Q (fun _ _ _ => False) := by
    funext vs H1
    rw [List.append_nil]
  show t σ H (fun vs H1 => sp (vs ++ []) H1 Q (fun _ _ _ => False))
  rw [e0]
  exact ht
section
variable {P : Program} {w : World} {K : PySem.W.Frag} {mg : Str → Option Value} {base : Heap}
theorem cal_need_wishes (T : Top w K mg) : C8.Cal P w K mg base 1 "need_wishes" (spNeedWishes K) [] := by
  obtain ⟨fd, F⟩ := T.d_need_wishes
  refine cal0_of F T.g_need_wishes (ok_of F sc_need_wishes (fun vs H Q E h => ?_) fun cdv A outer s H vs Q E hr h => ?_) fun _ _ _ _ _ _ us hl => match us, hl with | [_], _ => rfl
  · obtain ⟨l, M, rfl, _⟩ := h
    rfl
  · obtain ⟨l, M, rfl, hM, k⟩ := h
    refine ⟨_, (pss_cons (ps_if (pt_not (pt_val (pe_callB call_isiT (by rfl) T.f_isinstance b_isinstance (pa_cons (pv 0) (pa_cons (pe_tup (pa_cons (pe_bltn (v := .ty "list") (by rfl) T.f_list b_list rfl) (pa_cons (pe_bltn (v := .ty "tuple") (by rfl) T.f_tuple b_tuple rfl) pa_nil))) pa_nil))))) (pss_one ps_never) pss_nil)
      (pss_one (ps_for PassesOwn.never rfl (pi_enum (by rfl) T.f_enumerate (pa_cons (pv 0) pa_nil)) (pg_tup rfl (pgs_cons (pg_name (i := 1) sc_need_wishes.nd rfl (Or.inl rfl)) (pgs_cons (pg_name (i := 2) sc_need_wishes.nd rfl (Or.inl rfl)) pgs_nil))) (pss_one (ps_if (PW.pt (pw_or (pt_cmpR op_eq (pv 1) (C8.pe_gc (by rfl) T.i_MOST_WISHES) (nomark _)) (pw_or1 (pt_not (pt_val (pe_callB call_isi (by rfl) T.f_isinstance b_isinstance (pa_cons (pv 2) (pa_cons (C8.pe_gc (v := .ref (He.ga _ "Wish")) (by rfl) ⟨_, T.g_Wish, rfl⟩) pa_nil)))))))) (pss_one ps_never) pss_nil))))), ?_⟩
    refine ⟨_, rfl, (by decide : 2 ≤ sizeLine), fun tp htp => ⟨_, tp, _, _, _, true, rfl, upd_same, cls2, .base (.lst (same_new htp _ _ hM.1)), ka_list, true, rfl, iteF ?_⟩⟩
    have s1 : Same H (upd H tp (.tup [.ty "list", .ty "tuple"])) := same_new htp
    refine ⟨_, rfl, l, _, rfl, SqL.is (s1 _ _ hM.1), ?_⟩
    refine for_it (walk_enum (K := K) (a := l) (xs := rfs M)) (fun i σ H' => Same H H' ∧ ∃ y z, σ = [some (.ref l), y, z]) ⟨s1, _, _, rfl⟩ (fun i σ H' _ q => SqL.is (q.1 _ _ hM.1)) (fun i x σ H3 H4 hi q y => ?_) fun σ H3 q => k _ q.1
    obtain ⟨s3, z1, z2, rfl⟩ := q
    obtain ⟨T', x1, x2, rfl, hT, rfl, e1, e2⟩ := y
    obtain rfl := Option.some.inj e1
    obtain ⟨x, hx, rfl⟩ := refs_at e2
    have s4 := s3.trans (same_new hT (o := .tup [.int (i : Nat), .ref x.1]))
    obtain ⟨dx, ea⟩ := (hM.2.1 x (List.mem_of_getElem? hx)).same s4
    have hi' : i < M.length := (List.getElem?_eq_some_iff.mp hx).1
    have hm := hM.2.2.2
    refine ⟨T', _, rfl, .inl (.inl upd_same), rfl, _, _, rfl, _, _, rfl, rfl, ?_⟩
    refine ⟨_, rfl, rfl, _, rfl, ?_⟩
    rw [decide_eq_false (fun e : V.int ((i : Nat) : Int) = V.int 12 => by
      injection e with e
      omega)]
    refine iteF ?_
    exact ⟨_, rfl, _, _, _, _, true, rfl, .own _, tyx_ins ea T.is_Wish, T.is_Wish.me, true, rfl, iteF ⟨s4, _, _, rfl⟩⟩
theorem len_ofM {L : Qs} {what : Str} : (ofM L what).length ≤ L.length := List.length_filter_le _ _
theorem QsAt.ofM {H : Hp} {l p : Addr} {L : Qs} (h : QsAt K H l L) (what : Str) (hp : H p = some (.lst (rfs (ofM L what)))) : QsAt K H p (ofM L what) :=
  ⟨SqL.is hp, fun x hx => h.2.1 x (List.mem_filter.mp hx).1, Nat.le_trans len_ofM h.2.2⟩
theorem cal_of_matter (T : Top w K mg) : C8.Cal P w K mg base 1 "of_matter" (spOfMatter K) [] := by
  obtain ⟨fd, F⟩ := T.d_of_matter
  refine cal0_of F T.g_of_matter (ok_of F sc_of_matter (fun vs H Q E h => ?_) fun cdv A outer s H vs Q E hr h => ?_) fun _ _ _ _ _ _ us hl => match us, hl with | [_, _], _ => rfl
  · obtain ⟨l, L, what, rfl, _⟩ := h
    rfl
  · obtain ⟨l, L, what, rfl, hl, hL, k⟩ := h
    refine ⟨_, (pss_one (ps_ret (pe_lc (own := [("question", 2)]) (g := gName 2) rfl sc_of_matter.nd (pi_list (pv 0)) (blkOk_by (N := N_of_matter) (sc := defScope s_of_matter) (by decide +kernel)) (fun _ _ _ _ _ => (pg_name (i := 2) sc_of_matter.nd rfl (Or.inl rfl))) (fun _ _ _ _ _ => (pts_one (pt_cmpR (op_in_seqK K) (pv 1) (pe_tup (pa_cons pe_str (pa_cons (pe_fldK K (pv 2) rfl) pa_nil))) (by rfl)))) (fun _ _ _ _ _ => (pv 2))))), ?_⟩
    refine ⟨_, rfl, l, rfl, ⟨_, hL.1⟩, fun D hD => ?_⟩
    refine lc_ext (walk_list (K := K) (a := l) (xs := rfs L)) hD (fun i => rfs (ofM (L.take i) what)) rfl (fun H2 s2 => SqL.is (s2 _ _ hl)) (fun i hi => ?_) (fun i x H2 H3 hi sm y R kR R0 kR0 => ?_) fun H2 sm eD => ?_
    · rw [List.length_map]
      exact Nat.lt_of_le_of_lt (len_filter hL.2.2) (by decide)
    · obtain ⟨rfl, hx⟩ := y
      obtain ⟨q, hq, rfl⟩ := refs_at hx
      obtain ⟨dq, ans, g, ea⟩ := (hL.2.1 q (List.mem_of_getElem? hq)).same sm
      refine ⟨rfl, _, rfl, _, rfl, q.1, _, dq, _, _, rfl, ea, T.c_Question, T.n_Question_matter, lk_matter _ _ _, (by decide : 2 ≤ sizeLine), fun tp htp => ⟨tp, _, rfl, .inr (SqT.is upd_same), rfl, rfl, _, rfl, ?_⟩⟩
      have e : inV (.str what) [.str ("" : Str), .str q.2.matter] = decide (what ∈ [("" : Str), q.2.matter]) := inV_str (xs := [("" : Str), q.2.matter])
      rw [if_neg Bool.false_ne_true, e]
      by_cases c : what ∈ [("" : Str), q.2.matter]
      · rw [decide_eq_true c]
        exact iteT ⟨_, rfl, kR _ _ (same_new htp) (by unfold ofM; rw [take_yes hq (decide_eq_true c)]; exact List.map_append)⟩
      · rw [decide_eq_false c]
        exact iteF (kR0 _ (same_new htp) (by unfold ofM; rw [take_no hq (decide_eq_false c)]))
    · rw [List.length_map, List.take_length] at eD
      exact k D _ sm hD eD
theorem fn_many_of (T : Top w K mg) : ∃ fd, FunD K "many_of" "many_of" (defArgs s_many_of) (defBody s_many_of) (defScope s_many_of) [] [] (He.ga K "many_of") fd ∧ FnOk P w K mg base C8.CX0 2 (He.ga K "many_of") fd ["questions", "wish"] (spBy K "many") := by
  obtain ⟨fd, F⟩ := T.d_many_of
  refine ⟨fd, F, ok_of F sc_many_of (fun vs H Q E h => ?_) fun cdv A outer s H vs Q E hr h => ?_⟩
  · obtain ⟨l, L, a, x, rfl, _⟩ := h
    rfl
  · obtain ⟨l, L, a, x, rfl, hl, hL, ⟨dx, ea⟩, k⟩ := h
    refine ⟨_, (pss_one (ps_ret (pe_callB call_len_seq (by rfl) T.f_len b_len (pa_cons (C8.pe_c (cal_of_matter T) hr (by decide) (by rfl) (pa_cons (pv 0) (pa_cons (pe_fld (pv 1) rfl) pa_nil))) pa_nil)))), ?_⟩
    refine ⟨_, rfl, _, rfl, a, _, dx, _, _, rfl, ea, T.c_Wish, T.n_Wish_what, lk_what x, l, L, x.what, rfl, hl, hL, fun p H1 s1 hpn hp => ?_⟩
    refine ⟨p, _, rfl, .inl (SqL.is hp), ?_⟩
    rw [List.length_map]
    exact k _ s1
theorem fn_toil_of (T : Top w K mg) : ∃ fd, FunD K "toil_of" "toil_of" (defArgs s_toil_of) (defBody s_toil_of) (defScope s_toil_of) [] [] (He.ga K "toil_of") fd ∧ FnOk P w K mg base C8.CX0 2 (He.ga K "toil_of") fd ["questions", "wish"] (spBy K "toil") := by
  obtain ⟨fd, F⟩ := T.d_toil_of
  refine ⟨fd, F, ok_of F sc_toil_of (fun vs H Q E h => ?_) fun cdv A outer s H vs Q E hr h => ?_⟩
  · obtain ⟨l, L, a, x, rfl, _⟩ := h
    rfl
  · obtain ⟨l, L, a, x, rfl, hl, hL, ⟨dx, ea⟩, k⟩ := h
    refine ⟨_, (pss_one (ps_ret (pe_callB (cr_sum rfl) (by rfl) T.f_sum b_sum (pa_cons (pe_lc (own := [("question", 2)]) (g := gName 2) (tt := tYes) rfl sc_toil_of.nd (pi_list (C8.pe_c (cal_of_matter T) hr (by decide) (by rfl) (pa_cons (pv 0) (pa_cons (pe_fld (pv 1) rfl) pa_nil)))) (blkOk_by (N := N_toil_of) (sc := defScope s_toil_of) (by decide +kernel)) (fun _ _ _ _ _ => (pg_name (i := 2) sc_toil_of.nd rfl (Or.inl rfl))) (fun _ _ _ _ _ => pts_nil) (fun _ _ _ _ _ => (pe_fldK K (pv 2) rfl))) pa_nil)))), ?_⟩
    refine ⟨_, rfl, _, rfl, a, _, dx, _, _, rfl, ea, T.c_Wish, T.n_Wish_what, lk_what x, l, L, x.what, rfl, hl, hL, fun p H1 s1 hpn hp => ?_⟩
    have hM := (hL.same s1).ofM x.what hp
    refine ⟨p, rfl, ⟨_, hM.1⟩, fun D hD => ?_⟩
    refine lc_ext (walk_list (K := K) (a := p) (xs := rfs (ofM L x.what))) hD (fun i => ((ofM L x.what).take i).map fun x => V.int x.2.toil) rfl (fun H2 s2 => (hM.same s2).1) (fun i hi => ?_) (fun i y0 H2 H3 hi sm y R kR R0 _ => ?_) fun H2 sm eD => ?_
    · rw [List.length_map, List.length_take]
      exact Nat.lt_of_le_of_lt (Nat.le_trans (Nat.min_le_right _ _) hM.2.2) (by decide)
    · obtain ⟨rfl, hx⟩ := y
      obtain ⟨q, hq, rfl⟩ := refs_at hx
      obtain ⟨dq, ans, g, eq⟩ := (hM.2.1 q (List.mem_of_getElem? hq)).same sm
      refine ⟨rfl, _, rfl, q.1, _, dq, _, _, rfl, eq, T.c_Question, T.n_Question_toil, lk_toil _ _ _, kR _ _ (Same.refl _) ?_⟩
      rw [take_map hq]
    · rw [List.length_map, List.take_length] at eD
      refine ⟨D, (ofM L x.what).map fun x => x.2.toil, rfl, ?_, ?_⟩
      · rw [List.map_map]
        exact SqL.is eD
      · exact k _ (s1.trans sm)
theorem fn_marks_of (T : Top w K mg) : ∃ fd, FunD K "marks_of" "marks_of" (defArgs s_marks_of) (defBody s_marks_of) (defScope s_marks_of) [] [] (He.ga K "marks_of") fd ∧ FnOk P w K mg base C8.CX0 2 (He.ga K "marks_of") fd ["questions", "wish"] (spBy K "marks") := by
  obtain ⟨fd, F⟩ := T.d_marks_of
  refine ⟨fd, F, ok_of F sc_marks_of (fun vs H Q E h => ?_) fun cdv A outer s H vs Q E hr h => ?_⟩
  · obtain ⟨l, L, a, x, rfl, _⟩ := h
    rfl
  · obtain ⟨l, L, a, x, rfl, hl, hL, ⟨dx, ea⟩, k⟩ := h
    refine ⟨_, (pss_one (ps_ret (pe_callB (cr_sum rfl) (by rfl) T.f_sum b_sum (pa_cons (pe_lc (own := [("question", 2)]) (g := gName 2) (tt := tYes) rfl sc_marks_of.nd (pi_list (C8.pe_c (cal_of_matter T) hr (by decide) (by rfl) (pa_cons (pv 0) (pa_cons (pe_fld (pv 1) rfl) pa_nil)))) (blkOk_by (N := N_marks_of) (sc := defScope s_marks_of) (by decide +kernel)) (fun _ _ _ _ _ => (pg_name (i := 2) sc_marks_of.nd rfl (Or.inl rfl))) (fun _ _ _ _ _ => pts_nil) (fun _ _ _ _ _ => (pe_fldK K (pv 2) rfl))) pa_nil)))), ?_⟩
    refine ⟨_, rfl, _, rfl, a, _, dx, _, _, rfl, ea, T.c_Wish, T.n_Wish_what, lk_what x, l, L, x.what, rfl, hl, hL, fun p H1 s1 hpn hp => ?_⟩
    have hM := (hL.same s1).ofM x.what hp
    refine ⟨p, rfl, ⟨_, hM.1⟩, fun D hD => ?_⟩
    refine lc_ext (walk_list (K := K) (a := p) (xs := rfs (ofM L x.what))) hD (fun i => ((ofM L x.what).take i).map fun x => V.int x.2.marks) rfl (fun H2 s2 => (hM.same s2).1) (fun i hi => ?_) (fun i y0 H2 H3 hi sm y R kR R0 _ => ?_) fun H2 sm eD => ?_
    · rw [List.length_map, List.length_take]
      exact Nat.lt_of_le_of_lt (Nat.le_trans (Nat.min_le_right _ _) hM.2.2) (by decide)
    · obtain ⟨rfl, hx⟩ := y
      obtain ⟨q, hq, rfl⟩ := refs_at hx
      obtain ⟨dq, ans, g, eq⟩ := (hM.2.1 q (List.mem_of_getElem? hq)).same sm
      refine ⟨rfl, _, rfl, q.1, _, dq, _, _, rfl, eq, T.c_Question, T.n_Question_marks, lk_marks _ _ _, kR _ _ (Same.refl _) ?_⟩
      rw [take_map hq]
    · rw [List.length_map, List.take_length] at eD
      refine ⟨D, (ofM L x.what).map fun x => x.2.marks, rfl, ?_, ?_⟩
      · rw [List.map_map]
        exact SqL.is eD
      · exact k _ (s1.trans sm)
theorem fn_is_with (T : Top w K mg) : ∃ fd, FunD K "is_with" "is_with" (defArgs s_is_with) (defBody s_is_with) (defScope s_is_with) [] [] (He.ga K "is_with") fd ∧ FnOk P w K mg base C8.CX0 2 (He.ga K "is_with") fd ["questions", "wish"] (spBy K "with") := by
  obtain ⟨fd, F⟩ := T.d_is_with
  refine ⟨fd, F, ok_of F sc_is_with (fun vs H Q E h => ?_) fun cdv A outer s H vs Q E hr h => ?_⟩
  · obtain ⟨l, L, a, x, rfl, _⟩ := h
    rfl
  · obtain ⟨l, L, a, x, rfl, hl, hL, ⟨dx, ea⟩, k⟩ := h
    refine ⟨_, (pss_one (ps_ret (pe_callTy call_int1 (by rfl) T.f_int b_int (pa_cons (pe_cmpR op_in_seq (pe_fld (pv 1) rfl) (pe_lc (own := [("question", 2)]) (g := gName 2) (tt := tYes) rfl sc_is_with.nd (pi_list (pv 0)) (blkOk_by (N := N_is_with) (sc := defScope s_is_with) (by decide +kernel)) (fun _ _ _ _ _ => (pg_name (i := 2) sc_is_with.nd rfl (Or.inl rfl))) (fun _ _ _ _ _ => pts_nil) (fun _ _ _ _ _ => (pe_fldK K (pv 2) rfl))) (by rfl)) pa_nil)))), ?_⟩
    refine ⟨_, rfl, a, _, dx, _, _, rfl, ea, T.c_Wish, T.n_Wish_what, lk_what x, _, rfl, l, rfl, ⟨_, hL.1⟩, fun D hD => ?_⟩
    refine lc_ext (walk_list (K := K) (a := l) (xs := rfs L)) hD (fun i => ((L.take i).map fun x => x.2.name).map V.str) rfl (fun H2 s2 => (hL.same s2).1) (fun i hi => ?_) (fun i y0 H2 H3 hi sm y R kR R0 _ => ?_) fun H2 sm eD => ?_
    · rw [List.length_map, List.length_map, List.length_take]
      exact Nat.lt_of_le_of_lt (Nat.le_trans (Nat.min_le_right _ _) hL.2.2) (by decide)
    · obtain ⟨rfl, hx⟩ := y
      obtain ⟨q, hq, rfl⟩ := refs_at hx
      obtain ⟨dq, ans, g, eq⟩ := (hL.2.1 q (List.mem_of_getElem? hq)).same sm
      refine ⟨rfl, _, rfl, q.1, _, dq, _, _, rfl, eq, T.c_Question, T.n_Question_name, lk_name _ _ _, kR _ _ (Same.refl _) ?_⟩
      rw [take_map hq, List.map_append]
      rfl
    · rw [List.length_map, List.take_length] at eD
      have hfl : ((L.map fun x => x.2.name).map V.str).all flatV = true := by
        rw [List.all_map]
        exact List.all_eq_true.mpr fun _ _ => rfl
      refine ⟨D, _, rfl, .inl (SqL.is eD), rfl, hfl, .inr ⟨_, rfl, ?_⟩⟩
      rw [inV_str]
      have k1 := k _ sm
      have e : sumW "with" x.what L = if decide (x.what ∈ L.map (fun x => x.2.name)) = true then 1 else 0 := by
        unfold sumW
        rw [if_neg (by decide), if_neg (by decide), if_neg (by decide), if_neg (by decide)]
        by_cases c : x.what ∈ L.map (fun x => x.2.name)
        · rw [if_pos c, if_pos (decide_eq_true c)]
        · rw [if_neg c, if_neg]
          rw [decide_eq_false c]
          exact Bool.false_ne_true
      rw [e] at k1
      exact k1
/-! ### pairs of a kin -/
theorem mem_firsts {k : Str} : ∀ {ks : List Str}, k ∈ firsts ks ↔ k ∈ ks
  | [] => Iff.rfl
  | j :: r => by
    unfold firsts
    split
    · rename_i h
      rw [List.mem_cons, mem_firsts (ks := r)]
      constructor
      · exact Or.inr
      · rintro (e | e)
        · rw [e]
          exact mem_firsts.mp h
        · exact e
    · rw [List.mem_append, mem_firsts (ks := r), List.mem_singleton, List.mem_cons]
      exact Or.comm
def kvC (ks : List Str) : List (Key × V) := (firsts ks).map fun j => ((Sum.inr j : Key), V.int ((ks.count j : Nat) : Int))
theorem valV_of (f : Str → V) (k : Str) : ∀ l : List Str, valV (l.map fun j => ((Sum.inr j : Key), f j)) (Sum.inr k) = if k ∈ l then some (f k) else none
  | [] => rfl
  | j :: r => by
    rw [List.map_cons]
    by_cases h : j = k
    · rw [valV_pos (by rw [h]), h, if_pos List.mem_cons_self]
    · rw [valV_neg (fun e => h (by injection e)), valV_of f k r]
      by_cases g : k ∈ r
      · rw [if_pos g, if_pos (List.mem_cons_of_mem _ g)]
      · rw [if_neg g, if_neg]
        intro hm
        rcases List.mem_cons.mp hm with e | e
        · exact h e.symm
        · exact g e
theorem kvC_get {k : Str} {ks : List Str} : valV (kvC ks) (Sum.inr k) = if k ∈ ks then some (.int ((ks.count k : Nat) : Int)) else none := by
  unfold kvC
  rw [valV_of (fun j => V.int ((ks.count j : Nat) : Int)) k]
  by_cases h : k ∈ ks
  · rw [if_pos h, if_pos (mem_firsts.mpr h)]
  · rw [if_neg h, if_neg (fun g => h (mem_firsts.mp g))]
theorem count_ne {j k : Str} {ks : List Str} (h : j ≠ k) : (k :: ks).count j = ks.count j := List.count_cons_of_ne (fun e => h e.symm)
theorem kvC_there {k : Str} {ks : List Str} (h : k ∈ ks) : putK (kvC ks) (Sum.inr k) (.int (((ks.count k : Nat) : Int) + 1)) = kvC (k :: ks) := by
  have ha : ((kvC ks).any fun kv => decide (kv.1 = (Sum.inr k : Key))) = true := by
    rw [valV_any, kvC_get, if_pos h]
    rfl
  unfold putK
  rw [if_pos ha]
  unfold kvC
  have ef : firsts (k :: ks) = firsts ks := by
    show (if k ∈ firsts ks then firsts ks else firsts ks ++ [k]) = _
    rw [if_pos (mem_firsts.mpr h)]
  rw [ef, List.map_map]
  refine List.map_congr_left fun j hj => ?_
  show (if (Sum.inr j : Key) = Sum.inr k then ((Sum.inr j : Key), _) else _) = _
  by_cases e : j = k
  · rw [if_pos (by rw [e]), e, List.count_cons_self]
    rfl
  · rw [if_neg (fun z => e (by injection z)), count_ne e]
theorem kvC_new {k : Str} {ks : List Str} (h : k ∉ ks) : putK (putK (kvC ks) (Sum.inr k) (.int 0)) (Sum.inr k) (.int (0 + 1)) = kvC (k :: ks) := by
  have hn : valV (kvC ks) (Sum.inr k) = none := by rw [kvC_get, if_neg h]
  rw [putK_none hn]
  have ha : ((kvC ks ++ [((Sum.inr k : Key), V.int 0)]).any fun kv => decide (kv.1 = (Sum.inr k : Key))) = true := by
    rw [List.any_append]
    simp
  unfold putK
  rw [if_pos ha, List.map_append]
  unfold kvC
  have ef : firsts (k :: ks) = firsts ks ++ [k] := by
    show (if k ∈ firsts ks then firsts ks else firsts ks ++ [k]) = _
    rw [if_neg (fun g => h (mem_firsts.mp g))]
  rw [ef, List.map_append, List.map_map]
  congr 1
  · refine List.map_congr_left fun j hj => ?_
    have e : j ≠ k := fun e => h (e ▸ mem_firsts.mp hj)
    show (if (Sum.inr j : Key) = Sum.inr k then ((Sum.inr j : Key), _) else _) = _
    rw [if_neg (fun z => e (by injection z)), count_ne e]
  · show [if (Sum.inr k : Key) = Sum.inr k then ((Sum.inr k : Key), V.int (0 + 1)) else _] = [((Sum.inr k : Key), V.int (((k :: ks).count k : Nat) : Int))]
    rw [if_pos rfl, List.count_cons_self, List.count_eq_zero.mpr h]
    rfl
def kinC (what : Str) (q : Qd) : Bool := !decide (q.kin = ("" : Str)) && decide (what ∈ [("" : Str), q.kin])
theorem kinsOf_take {L : Qs} {what : Str} {i : Nat} {q : Addr × Qd} (h : L[i]? = some q) : (kinsOf (L.take (i + 1)) what).reverse = if kinC what q.2 = true then q.2.kin :: (kinsOf (L.take i) what).reverse else (kinsOf (L.take i) what).reverse := by
  unfold kinsOf
  split
  · rename_i c
    rw [take_yes h c, List.map_append, List.reverse_append]
    rfl
  · rename_i c
    rw [take_no h (Bool.eq_false_iff.mpr c)]
theorem firsts_len : ∀ (ks : List Str), (firsts ks).length ≤ ks.length
  | [] => Nat.le_refl _
  | k :: r => by
    unfold firsts
    split
    · exact Nat.le_succ_of_le (firsts_len r)
    · rw [List.length_append]
      exact Nat.succ_le_succ (firsts_len r)
theorem kinsOf_len {L : Qs} {what : Str} : (kinsOf L what).length ≤ L.length := by
  unfold kinsOf
  rw [List.length_map]
  exact List.length_filter_le _ _
theorem fn_kin_pairs (T : Top w K mg) : ∃ fd, FunD K "kin_pairs" "kin_pairs" (defArgs s_kin_pairs) (defBody s_kin_pairs) (defScope s_kin_pairs) [] [] (He.ga K "kin_pairs") fd ∧ FnOk P w K mg base C8.CX0 2 (He.ga K "kin_pairs") fd ["questions", "wish"] (spBy K "kin") := by
  obtain ⟨fd, F⟩ := T.d_kin_pairs
  refine ⟨fd, F, ok_of F sc_kin_pairs (fun vs H Q E h => ?_) fun cdv A outer s H vs Q E hr h => ?_⟩
  · obtain ⟨l, L, a, x, rfl, _⟩ := h
    rfl
  · obtain ⟨l, L, a, x, rfl, hl, hL, ⟨dx, ea⟩, k⟩ := h
    have hu := hu_of hr
    refine ⟨_, (pss_cons (ps_set (i := 2) sc_kin_pairs.nd rfl (Or.inl rfl) pe_dnewK)
      (pss_cons (ps_for PassesOwn.never rfl (pi_list (pv 0)) (pg_name (i := 3) sc_kin_pairs.nd rfl (Or.inl rfl)) (pss_one (ps_if (PW.pt (pw_and (pt_cmpR op_ne (pe_fld (pv 3) rfl) pe_str (nomark _)) (pw_and1 (pt_cmpR op_in_seq (pe_fld (pv 1) rfl) (pe_tup (pa_cons pe_str (pa_cons (pe_fld (pv 3) rfl) pa_nil))) (by rfl))))) (pss_one (ps_dput hu (pv 2) (pe_fld (pv 3) rfl) (pe_op op_add (pe_dsetd (pv 2) (pe_fld (pv 3) rfl) pe_int ⟨rfl, rfl, rfl, rfl⟩) pe_int) rfl)) pss_nil)))
      (pss_one (ps_ret (pe_callB (cr_sum rfl) (by rfl) T.f_sum b_sum (pa_cons (pe_lock (pe_lc (own := [("many", 4)]) (g := gName 4) (tt := tYes) rfl sc_kin_pairs.nd (pi_values (pv 2)) (blkOk_by (N := N_kin_pairs) (sc := defScope s_kin_pairs) (by decide +kernel)) (fun _ _ _ _ _ => (pg_name (i := 4) sc_kin_pairs.nd rfl (Or.inl rfl))) (fun _ _ _ _ _ => pts_nil) (fun _ _ _ _ _ => (pe_op op_fdiv (pe_op op_mul (pv 4) (pe_op op_sub (pv 4) pe_int)) pe_int)))) pa_nil)))))), ?_⟩
    intro d hd
    have s1 := same_new hd (o := .dK [])
    refine ⟨_, rfl, l, rfl, ⟨_, SqL.is (s1 _ _ hl)⟩, ?_⟩
    have dlen : ∀ i, (kvC (kinsOf (L.take i) x.what).reverse).length ≤ 60 := fun i => by
      unfold kvC
      rw [List.length_map]
      refine Nat.le_trans (firsts_len _) ?_
      rw [List.length_reverse]
      refine Nat.le_trans kinsOf_len ?_
      rw [List.length_take]
      exact Nat.le_trans (Nat.min_le_right _ _) hL.2.2
    refine for_it (walk_list (K := K) (a := l) (xs := rfs L)) (fun i σ H' => Same H H' ∧ H' d = some (.dK (kvC (kinsOf (L.take i) x.what).reverse)) ∧ ∃ y z, σ = [some (.ref l), some (.ref a), some (.ref d), y, z]) ⟨s1, by rw [List.take_zero]; exact upd_same, _, _, rfl⟩ (fun i σ H' _ q => SqL.is (q.1 _ _ hl)) (fun i y0 σ H2 H3 hi p y => ?_) fun σ H2 p => ?_
    · obtain ⟨s2, hd2, y1, y2, rfl⟩ := p
      obtain ⟨rfl, hx⟩ := y
      obtain ⟨q, hq, rfl⟩ := refs_at hx
      obtain ⟨dq, ans, g, eq⟩ := (hL.2.1 q (List.mem_of_getElem? hq)).same s2
      have step := kinsOf_take (what := x.what) hq
      refine ⟨_, rfl, q.1, _, dq, _, _, rfl, eq, T.c_Question, T.n_Question_kin, lk_kin _ _ _, rfl, _, rfl, ?_⟩
      rw [dne]
      by_cases c1 : q.2.kin = ("" : Str)
      · rw [if_neg (by unfold kinC; rw [decide_eq_true c1]; exact Bool.false_ne_true)] at step
        rw [decide_eq_true c1]
        exact iteF (iteF ⟨s2, by rw [step]; exact hd2, _, _, rfl⟩)
      · rw [decide_eq_false c1]
        refine iteT ⟨_, rfl, a, _, dx, _, _, rfl, s2 _ _ ea, T.c_Wish, T.n_Wish_what, lk_what x, _, rfl, q.1, _, dq, _, _, rfl, eq, T.c_Question, T.n_Question_kin, lk_kin _ _ _, (by decide : 2 ≤ sizeLine), fun tp htp => ⟨tp, _, rfl, .inr (SqT.is upd_same), rfl, rfl, _, rfl, ?_⟩⟩
        have e : inV (.str x.what) [.str ("" : Str), .str q.2.kin] = decide (x.what ∈ [("" : Str), q.2.kin]) := inV_str (xs := [("" : Str), q.2.kin])
        rw [if_neg Bool.false_ne_true, e]
        have s3 := same_new htp (o := .tup [.str ("" : Str), .str q.2.kin])
        have hd3 := s3 _ _ hd2
        by_cases c2 : x.what ∈ [("" : Str), q.2.kin]
        · rw [if_pos (by unfold kinC; rw [decide_eq_false c1, decide_eq_true c2]; rfl)] at step
          rw [decide_eq_true c2]
          refine iteT ?_
          have dl := Nat.lt_of_le_of_lt (dlen i) (show 60 < sizeLine by decide)
          have fin : ∀ Z, Same H (upd H3 d Z) → Same H (upd (upd H3 tp (.tup [.str ("" : Str), .str q.2.kin])) d Z) := fun Z _ b u e => by
            rw [upd_ne (ne_none hd e)]
            exact s3 _ _ (s2 _ _ e)
          refine ⟨_, rfl, d, rfl, .inl ⟨_, .inl hd3⟩, _, rfl, q.1, _, dq, _, _, rfl, s3 _ _ eq, T.c_Question, T.n_Question_kin, lk_kin _ _ _, _, Sum.inr q.2.kin, hd3, rfl, dl, fun v hv => ?_, fun hn => ?_⟩
          · rw [kvC_get] at hv
            by_cases c3 : q.2.kin ∈ (kinsOf (L.take i) x.what).reverse
            · rw [if_pos c3] at hv
              obtain rfl := Option.some.inj hv
              refine ⟨_, 1, rfl, rfl, _, rfl, _, rfl, q.1, _, dq, _, _, rfl, s3 _ _ eq, T.c_Question, T.n_Question_kin, lk_kin _ _ _, d, _, rfl, DPut.k (k := Sum.inr q.2.kin) hd3 dl, ?_⟩
              rw [kvC_there c3]
              refine ⟨fun b u e => ?_, by rw [step]; exact upd_same, _, _, rfl⟩
              rw [upd_ne (ne_none hd e)]
              exact s3 _ _ (s2 _ _ e)
            · rw [if_neg c3] at hv
              cases hv
          · rw [kvC_get] at hn
            by_cases c3 : q.2.kin ∈ (kinsOf (L.take i) x.what).reverse
            · rw [if_pos c3] at hn
              cases hn
            · have eq4 : upd (upd H3 tp (.tup [.str ("" : Str), .str q.2.kin])) d (.dK (putK (kvC (kinsOf (L.take i) x.what).reverse) (Sum.inr q.2.kin) (.int 0))) q.1 = some (.ins (He.ga K "Question") dq (qFlds q.2 ans g)) := by
                rw [upd_ne (ne_of eq hd2 nofun)]
                exact s3 _ _ eq
              refine ⟨0, 1, rfl, rfl, _, rfl, _, rfl, q.1, _, dq, _, _, rfl, eq4, T.c_Question, T.n_Question_kin, lk_kin _ _ _, d, _, rfl, DPut.k (k := Sum.inr q.2.kin) upd_same ?_, ?_⟩
              · exact Nat.lt_of_le_of_lt (Nat.le_trans (length_putK _ _ _) (Nat.succ_le_succ (dlen i))) (by decide)
              · rw [kvC_new c3, upd2]
                refine ⟨fun b u e => ?_, by rw [step]; exact upd_same, _, _, rfl⟩
                rw [upd_ne (ne_none hd e)]
                exact s3 _ _ (s2 _ _ e)
        · rw [if_neg (by unfold kinC; rw [decide_eq_false c2, Bool.and_false]; exact Bool.false_ne_true)] at step
          rw [decide_eq_false c2]
          exact iteF ⟨s2.trans s3, by rw [step]; exact hd3, _, _, rfl⟩
    · obtain ⟨s2, hd2, y1, y2, rfl⟩ := p
      have hlen : (rfs L).length = L.length := List.length_map _
      rw [hlen, List.take_length] at hd2
      have dl := dlen L.length
      rw [List.take_length] at dl
      generalize hks : (kinsOf L x.what).reverse = ks at hd2 dl
      have kl : ∀ j, ks.count j ≤ 60 := fun j => by
        refine Nat.le_trans List.count_le_length ?_
        rw [← hks, List.length_reverse]
        exact Nat.le_trans kinsOf_len hL.2.2
      refine ⟨d, _, hd2, trivial, fun od => ?_⟩
      refine ⟨_, rfl, d, od, _, rfl, upd_same, fun D hD => ?_⟩
      have nDd : D ≠ d := fun e => by
        rw [e, upd_same] at hD
        cases hD
      refine lc_ext (walk_values (d := d) (o := od) (kvs := kvC ks)) hD (fun i => ((firsts ks).take i).map fun j => V.int (((ks.count j : Nat) : Int) * (((ks.count j : Nat) : Int) - 1) / 2)) rfl (fun H3 s3 => s3 _ _ upd_same) (fun i hi => ?_) (fun i v H3 H4 hi sm y R kR R0 _ => ?_) fun H3 sm eD => ?_
      · rw [List.length_map, List.length_take]
        have : (firsts ks).length = (kvC ks).length := (List.length_map _).symm
        exact Nat.lt_of_le_of_lt (Nat.le_trans (Nat.min_le_right _ _) (by rw [this]; exact dl)) (by decide)
      · obtain ⟨rfl, kk, hv⟩ := y
        unfold kvC at hv
        rw [List.getElem?_map] at hv
        cases e : (firsts ks)[i]? with
        | none => rw [e] at hv; cases hv
        | some j =>
          rw [e] at hv
          have hv' := Option.some.inj hv
          injection hv' with _ hv'
          subst hv'
          have hj := kl j
          refine ⟨rfl, _, rfl, _, rfl, _, 1, rfl, rfl, _, _, rfl, rfl, .inl ⟨by omega, by omega⟩, _, 2, rfl, rfl, ⟨by decide, by decide⟩, kR _ _ (Same.refl _) ?_⟩
          rw [take_map e]
      · have : (kvC ks).length = (firsts ks).length := List.length_map _
        rw [this, List.take_length] at eD
        refine ⟨sm _ _ upd_same, D, (firsts ks).map fun j => ((ks.count j : Nat) : Int) * (((ks.count j : Nat) : Int) - 1) / 2, rfl, SqL.is ?_, ?_⟩
        · rw [upd_ne nDd, List.map_map]
          exact eD
        · have s4 : Same H (upd H3 d (.dK (kvC ks))) := fun b u e => by
            rw [upd_ne (ne_none hd e)]
            refine sm _ _ ?_
            rw [upd_ne (ne_none hd e)]
            exact s2 _ _ e
          have k1 := k _ s4
          have ev : sumW "kin" x.what L = pairsV ks := by
            unfold sumW
            rw [if_neg (by decide), if_neg (by decide), if_neg (by decide), if_pos rfl]
            unfold kinV
            rw [hks]
          rw [ev] at k1
          exact k1
/-! ### one sum -/
theorem cal_does_rest (T : Top w K mg) : C8.Cal P w K mg base 4 "does_rest" (spRests K) [] := by
  obtain ⟨fd, F⟩ := T.d_does_rest
  refine cal0_of F T.g_does_rest (ok_of F sc_does_rest (fun vs H Q E h => ?_) fun cdv A outer s H vs Q E hr h => ?_) fun _ _ _ _ _ _ us hl => match us, hl with | [_, _, _, _], _ => rfl
  · obtain ⟨b, B, n, day, rest, rfl, _⟩ := h
    rfl
  · obtain ⟨b, B, n, day, rest, rfl, hB, hn, d0, d1, k⟩ := h
    refine ⟨_, (pss_cons (ps_set (i := 4) sc_does_rest.nd rfl (Or.inl rfl) (pe_mtN (metN_B_last_day_1_day T) hr (by decide) (pv 0) (pa_cons (pv 1) pa_nil) (pk_cons (pv 2) pk_nil)))
      (pss_one (ps_ret (pe_and (pe_cmpR op_notN (pv 4) pe_non (nomark _)) (pe_one (pe_cmpR op_lt (pe_op op_sub (pv 2) (pv 4)) (pv 3) (nomark _))))))), ?_⟩
    refine ⟨_, rfl, b, B.dx, _, rfl, hB.ins, lk_b_last_day B, _, rfl, _, rfl, rfl, rfl, b, B, n, day, rfl, hB, hn, d0, d1, fun H1 s1 => ?_⟩
    refine ⟨_, rfl, rfl, _, rfl, ?_⟩
    have k1 := k H1 s1
    unfold restsB at k1
    cases e : lastD (B.days n) day with
    | none =>
      rw [e] at k1
      exact iteF k1
    | some l =>
      rw [e] at k1
      exact iteT ⟨_, rfl, _, rfl, day, l, rfl, rfl, _, rfl, _, rest, rfl, rfl, k1⟩
def byNames : List (Str × Str) := [("many", "many_of"), ("toil", "toil_of"), ("marks", "marks_of"), ("kin", "kin_pairs"), ("with", "is_with")]
def byR (K : PySem.W.Frag) : Addr → Sp → Prop := fun f sp => ∃ q : Str × Str, q ∈ byNames ∧ f = He.ga K q.2 ∧ sp = spBy K q.1
theorem byHeld (T : Top w K mg) : ∀ f sp, byR K f sp → Held P w K mg base 2 f sp := by
  rintro f sp ⟨q, hq, rfl, rfl⟩
  unfold byNames at hq
  simp only [List.mem_cons, List.not_mem_nil, or_false] at hq
  rcases hq with rfl | rfl | rfl | rfl | rfl
  · obtain ⟨fd, F, G⟩ := fn_many_of (P := P) (base := base) T
    exact ⟨fd, _, G, F.kp, F.bindsN fun kV doc pm an cdv ct us hl => match us, hl with | [_, _], _ => rfl⟩
  · obtain ⟨fd, F, G⟩ := fn_toil_of (P := P) (base := base) T
    exact ⟨fd, _, G, F.kp, F.bindsN fun kV doc pm an cdv ct us hl => match us, hl with | [_, _], _ => rfl⟩
  · obtain ⟨fd, F, G⟩ := fn_marks_of (P := P) (base := base) T
    exact ⟨fd, _, G, F.kp, F.bindsN fun kV doc pm an cdv ct us hl => match us, hl with | [_, _], _ => rfl⟩
  · obtain ⟨fd, F, G⟩ := fn_kin_pairs (P := P) (base := base) T
    exact ⟨fd, _, G, F.kp, F.bindsN fun kV doc pm an cdv ct us hl => match us, hl with | [_, _], _ => rfl⟩
  · obtain ⟨fd, F, G⟩ := fn_is_with (P := P) (base := base) T
    exact ⟨fd, _, G, F.kp, F.bindsN fun kV doc pm an cdv ct us hl => match us, hl with | [_, _], _ => rfl⟩
theorem by_there (T : Top w K mg) {word : Str} (h : word ∈ wordsL) (hr : word ≠ ("rest" : Str)) : ∃ q : Str × Str, q ∈ byNames ∧ q.1 = word ∧ KDct K w (He.ga K "BY_WORDS") word (.ref (He.ga K q.2)) := by
  obtain ⟨⟨es, n, D⟩, hv⟩ := T.byWords
  have go : ∀ (a b : Str), (a, He.Dv.glo b) ∈ byW → KDct K w (He.ga K "BY_WORDS") a (.ref (He.ga K b)) := fun a b hm => by
    obtain ⟨u, e1, e2⟩ := hv _ hm
    exact ⟨es, n, u, D.at_, D.lit, e1, e2⟩
  unfold wordsL at h
  simp only [List.mem_cons, List.not_mem_nil, or_false] at h
  rcases h with rfl | rfl | rfl | rfl | rfl | rfl
  · exact ⟨("many", "many_of"), by unfold byNames; simp, rfl, go _ _ (by unfold byW; simp)⟩
  · exact ⟨("toil", "toil_of"), by unfold byNames; simp, rfl, go _ _ (by unfold byW; simp)⟩
  · exact ⟨("marks", "marks_of"), by unfold byNames; simp, rfl, go _ _ (by unfold byW; simp)⟩
  · exact absurd rfl hr
  · exact ⟨("kin", "kin_pairs"), by unfold byNames; simp, rfl, go _ _ (by unfold byW; simp)⟩
  · exact ⟨("with", "is_with"), by unfold byNames; simp, rfl, go _ _ (by unfold byW; simp)⟩
theorem mem_qsOf {B : Bk} {ns : List Str} {x : Addr × Qd} (h : x ∈ B.qsOf ns) : x ∈ B.L := by
  obtain ⟨n, _, e⟩ := List.mem_filterMap.mp h
  exact List.mem_of_find?_eq_some e
theorem cal_sum_in (T : Top w K mg) : C8.Cal P w K mg base 5 "sum_in" (spSumIn K) [] := by
  obtain ⟨fd, F⟩ := T.d_sum_in
  refine cal0_of F T.g_sum_in (ok_of F sc_sum_in (fun vs H Q E h => ?_) fun cdv A outer s H vs Q E hr h => ?_) fun _ _ _ _ _ _ us hl => match us, hl with | [_, _, _, _], _ => rfl
  · obtain ⟨b, B, p, ns, a, x, day, rfl, _⟩ := h
    rfl
  · obtain ⟨b, B, p, ns, a, x, day, rfl, hB, hp, hin, ⟨dx, ea⟩, hx, d0, d1, k⟩ := h
    refine ⟨_, (pss_cons (ps_if (pt_cmpR op_eq (pe_fld (pv 2) rfl) pe_str (nomark _)) (pss_one (ps_ret (pe_callB call_len_seq (by rfl) T.f_len b_len (pa_cons (pe_lc (own := [("name", 5)]) (g := gName 5) rfl sc_sum_in.nd (pi_tup (pv 1)) (blkOk_by (N := N_sum_in) (sc := defScope s_sum_in) (by decide +kernel)) (fun _ _ _ _ _ => (pg_name (i := 5) sc_sum_in.nd rfl (Or.inl rfl))) (fun _ _ _ _ _ => (pts_one (pt_val (C8.pe_c (cal_does_rest T) hr (by decide) (by rfl) (pa_cons (pv 0) (pa_cons (pv 5) (pa_cons (pv 3) (pa_cons (pe_fldK K (pv 2) rfl) pa_nil)))))))) (fun _ _ _ _ _ => (pv 5))) pa_nil)))) pss_nil)
      (pss_cons (ps_set (i := 4) sc_sum_in.nd rfl (Or.inl rfl) (pe_ix ix_kdict (C8.pe_gc (v := .ref (He.ga _ "BY_WORDS")) (by rfl) ⟨_, T.g_BY_WORDS, rfl⟩) (pe_fld (pv 2) rfl) (fun _ _ => rfl)))
      (pss_one (ps_ret (pe_callR (i := 4) (byHeld T) hr (by rfl) (Or.inl rfl) (pa_cons (pe_lc (own := [("name", 5)]) (g := gName 5) (tt := tYes) rfl sc_sum_in.nd (pi_tup (pv 1)) (blkOk_by (N := N_sum_in) (sc := defScope s_sum_in) (by decide +kernel)) (fun _ _ _ _ _ => (pg_name (i := 5) sc_sum_in.nd rfl (Or.inl rfl))) (fun _ _ _ _ _ => pts_nil) (fun _ _ _ _ _ => (C8.pe_mt (met_B_question T) hr (by decide) (pv 0) (pa_cons (pv 5) pa_nil)))) (pa_cons (pv 2) pa_nil))))))), ?_⟩
    refine ⟨_, rfl, a, _, dx, _, _, rfl, ea, T.c_Wish, T.n_Wish_word, lk_word x, rfl, _, rfl, ?_⟩
    rw [dstr]
    by_cases c : x.word = ("rest" : Str)
    · rw [decide_eq_true c]
      refine iteT ⟨_, rfl, p, rfl, ⟨_, SqT.is hp.1⟩, fun D hD => ?_⟩
      refine lc_ext (walk_tup (K := K) (a := p) (xs := ns.map V.str)) hD (fun i => ((ns.take i).filter fun n => restsB (B.days n) day x.least).map V.str) rfl (fun H2 s2 => SqT.is (s2 _ _ hp.1)) (fun i hi => ?_) (fun i y0 H2 H3 hi sm y R kR R0 kR0 => ?_) fun H2 sm eD => ?_
      · rw [List.length_map]
        exact Nat.lt_of_le_of_lt (len_filter hp.2.most) (by decide)
      · obtain ⟨rfl, hv⟩ := y
        obtain ⟨n, hn, rfl⟩ := str_at hv
        have hmem := (mem_inN.mp (hin n (List.mem_of_getElem? hn))).1
        refine ⟨rfl, _, rfl, _, rfl, _, rfl, _, rfl, a, _, dx, _, _, rfl, sm _ _ ea, T.c_Wish, T.n_Wish_least, lk_least x, b, B, n, day, x.least, rfl, hB.same sm, hmem, d0, d1, fun H4 s4 => ⟨_, rfl, ?_⟩⟩
        cases e : restsB (B.days n) day x.least with
        | true => exact iteT ⟨_, rfl, kR _ _ s4 (by rw [take_yes hn e, List.map_append]; rfl)⟩
        | false => exact iteF (kR0 _ s4 (by rw [take_no hn e]))
      · rw [List.length_map, List.take_length] at eD
        refine ⟨D, _, rfl, .inl (SqL.is eD), ?_⟩
        have k1 := k _ sm
        unfold sumV at k1
        rw [if_pos c] at k1
        rw [List.length_map]
        exact k1
    · rw [decide_eq_false c]
      refine iteF ?_
      obtain ⟨q, hq, hw, hk⟩ := by_there T hx.word c
      refine ⟨_, rfl, a, _, dx, _, _, rfl, ea, T.c_Wish, T.n_Wish_word, lk_word x, He.ga K "BY_WORDS", x.word, _, rfl, rfl, hk, ?_⟩
      refine ⟨_, _, rfl, ⟨q, hq, rfl, rfl⟩, _, rfl, p, rfl, ⟨_, SqT.is hp.1⟩, fun D hD => ?_⟩
      refine lc_ext (walk_tup (K := K) (a := p) (xs := ns.map V.str)) hD (fun i => rfs (B.qsOf (ns.take i))) rfl (fun H2 s2 => SqT.is (s2 _ _ hp.1)) (fun i hi => ?_) (fun i y0 H2 H3 hi sm y R kR R0 _ => ?_) fun H2 sm eD => ?_
      · rw [List.length_map]
        refine Nat.lt_of_le_of_lt (Nat.le_trans len_qsOf (show (ns.take i).length ≤ 40 from ?_)) (by decide)
        rw [List.length_take]
        have := hp.2.most
        omega
      · obtain ⟨rfl, hv⟩ := y
        obtain ⟨n, hn, rfl⟩ := str_at hv
        obtain ⟨z, hzL, rfl⟩ := mem_names (mem_inN.mp (hin n (List.mem_of_getElem? hn))).1
        have hB2 := hB.same sm
        refine ⟨rfl, _, rfl, b, B.dx, _, rfl, hB2.ins, lk_b_question B, _, rfl, b, B, z, rfl, hB2, hzL, kR _ _ (Same.refl _) ?_⟩
        rw [qsOf_take hB hzL hn]
        exact List.map_append
      · rw [List.length_map, List.take_length] at eD
        have hQ : QsAt K H2 D (B.qsOf ns) := ⟨SqL.is eD, fun z hz => (hB.same sm).qs z (mem_qsOf hz), Nat.le_trans len_qsOf (Nat.le_trans hp.2.most (by decide))⟩
        refine ⟨_, rfl, D, B.qsOf ns, a, x, rfl, eD, hQ, ⟨dx, sm _ _ ea⟩, fun H3 s3 => ?_⟩
        have k1 := k _ (sm.trans s3)
        unfold sumV at k1
        rw [if_neg c, ← hw] at k1
        exact k1
theorem cal_is_met (T : Top w K mg) : C8.Cal P w K mg base 1 "is_met" (spIsMet K) [] := by
  obtain ⟨fd, F⟩ := T.d_is_met
  refine cal0_of F T.g_is_met (ok_of F sc_is_met (fun vs H Q E h => ?_) fun cdv A outer s H vs Q E hr h => ?_) fun _ _ _ _ _ _ us hl => match us, hl with | [_, _], _ => rfl
  · obtain ⟨a, x, f, rfl, _⟩ := h
    rfl
  · obtain ⟨a, x, f, rfl, ⟨dx, ea⟩, k⟩ := h
    have k1 := k H (Same.refl _)
    unfold metV at k1
    refine ⟨_, (pss_one (ps_ret (pe_and (pe_cmpR op_le (pv 1) (pe_fld (pv 0) rfl) (nomark _)) (pe_one (pe_or (pe_cmpR op_eq (pe_fld (pv 0) rfl) pe_str (nomark _)) (pe_one (pe_cmpR op_le (pe_fld (pv 0) rfl) (pv 1) (nomark _)))))))), ?_⟩
    refine ⟨_, rfl, _, rfl, a, _, dx, _, _, rfl, ea, T.c_Wish, T.n_Wish_most, lk_most x, f, x.most, rfl, rfl, _, rfl, ?_⟩
    by_cases c1 : f ≤ x.most
    · rw [decide_eq_true c1] at k1 ⊢
      refine iteT ⟨_, rfl, a, _, dx, _, _, rfl, ea, T.c_Wish, T.n_Wish_word, lk_word x, rfl, _, rfl, ?_⟩
      rw [dstr]
      by_cases c2 : x.word = ("rest" : Str)
      · rw [decide_eq_true c2] at k1 ⊢
        exact iteT k1
      · rw [decide_eq_false c2] at k1 ⊢
        exact iteF ⟨_, rfl, a, _, dx, _, _, rfl, ea, T.c_Wish, T.n_Wish_least, lk_least x, _, rfl, x.least, f, rfl, rfl, k1⟩
    · rw [decide_eq_false c1] at k1 ⊢
      exact iteF k1
theorem fn_sum_by (T : Top w K mg) : ∃ fd, FunD K "sum_by" "sum_by" (defArgs s_sum_by) (defBody s_sum_by) (defScope s_sum_by) [.int 0] [] (He.ga K "sum_by") fd ∧ FnOk P w K mg base C8.CX0 6 (He.ga K "sum_by") fd ["bank", "paper", "wish", "day"] (spSumIn K) := by
  obtain ⟨fd, F⟩ := T.d_sum_by
  refine ⟨fd, F, ok_of F sc_sum_by (fun vs H Q E h => ?_) fun cdv A outer s H vs Q E hr h => ?_⟩
  · obtain ⟨b, B, p, ns, a, x, day, rfl, _⟩ := h
    rfl
  · obtain ⟨b, B, p, ns, a, x, day, rfl, hB, hp, hin, ha, hx, d0, d1, k⟩ := h
    refine ⟨_, (pss_cons (ps_expr (C8.pe_c (cal_need_ready T) hr (by decide) (by rfl) (pa_cons (pv 0) (pa_cons (pv 1) pa_nil))))
      (pss_cons (ps_expr (C8.pe_c (cal_need_wish T) hr (by decide) (by rfl) (pa_cons (pv 2) pa_nil)))
      (pss_cons (ps_expr (C8.pe_c (cal_need_day T) hr (by decide) (by rfl) (pa_cons (pv 3) pa_nil)))
      (pss_one (ps_ret (C8.pe_c (cal_sum_in T) hr (by decide) (by rfl) (pa_cons (pv 0) (pa_cons (pv 1) (pa_cons (pv 2) (pa_cons (pv 3) pa_nil)))))))))), ?_⟩
    refine ⟨_, rfl, _, rfl, b, B, p, ns, rfl, hB, hp, hin, fun H1 s1 => ?_⟩
    refine ⟨_, rfl, a, x, rfl, ha.same s1, ?_⟩
    refine ⟨_, rfl, day, rfl, d0, d1, ?_⟩
    exact ⟨_, rfl, _, rfl, _, rfl, _, rfl, b, B, p, ns, a, x, day, rfl, hB.same s1, hp.same s1, hin, ha.same s1, hx, d0, d1, fun H2 s2 => k _ (s1.trans s2)⟩
theorem cal_sum_by_p3 (T : Top w K mg) : C8.Cal P w K mg base 6 "sum_by" (spSumIn K) [.int 0] := by
  obtain ⟨fd, F, G⟩ := fn_sum_by (P := P) (base := base) T
  exact calD_of (n := 3) 0 F T.g_sum_by G (List.cons_ne_nil _ _) rfl fun _ _ _ _ _ _ _ us its hl hi => match us, its, hl, hi with | [_, _, _], [_], _, _ => ⟨_, rfl, rfl⟩
theorem cal_sum_by (T : Top w K mg) : C8.Cal P w K mg base 6 "sum_by" (spSumIn K) [] := by
  obtain ⟨fd, F, G⟩ := fn_sum_by (P := P) (base := base) T
  exact calD_of (n := 4) 1 F T.g_sum_by G (List.cons_ne_nil _ _) rfl fun _ _ _ _ _ _ _ us its hl hi => match us, its, hl, hi with | [_, _, _, _], [_], _, _ => ⟨_, rfl, rfl⟩
theorem calN_sum_by_3_day (T : Top w K mg) : CalN P w K mg base 6 "sum_by" 3 ["day"] (spSumIn K) (fun vs zs => vs ++ zs) := by
  obtain ⟨fd, F, G⟩ := fn_sum_by (P := P) (base := base) T
  exact calN_of 3 ["day"] (fun us its ws => us ++ ws) F T.g_sum_by G (List.cons_ne_nil _ _) (fun r1 r2 r3 => r1.append r3) fun _ _ _ _ _ _ _ us its ws h1 h2 h3 => match us, its, ws, h1, h2, h3 with | [_, _, _], [_], [_], _, _, _ => ⟨_, rfl, rfl⟩
theorem cal_meets (T : Top w K mg) : C8.Cal P w K mg base 7 "meets" (spMeets K) [] := by
  obtain ⟨fd, F⟩ := T.d_meets
  refine calD_of (n := 4) 1 F T.g_meets (ok_of F sc_meets (fun vs H Q E h => ?_) fun cdv A outer s H vs Q E hr h => ?_) (List.cons_ne_nil _ _) rfl fun _ _ _ _ _ _ _ us its hl hi => match us, its, hl, hi with | [_, _, _, _], [_], _, _ => ⟨_, rfl, rfl⟩
  · obtain ⟨b, B, p, ns, a, x, day, rfl, _⟩ := h
    rfl
  · obtain ⟨b, B, p, ns, a, x, day, rfl, hB, hp, hin, ha, hx, d0, d1, k⟩ := h
    refine ⟨_, (pss_one (ps_ret (C8.pe_c (cal_is_met T) hr (by decide) (by rfl) (pa_cons (pv 2) (pa_cons (pe_cN (calN_sum_by_3_day T) hr (by decide) (by rfl) (pa_cons (pv 0) (pa_cons (pv 1) (pa_cons (pv 2) pa_nil))) (pk_cons (pv 3) pk_nil)) pa_nil))))), ?_⟩
    exact ⟨_, rfl, _, rfl, _, rfl, _, rfl, _, rfl, rfl, rfl, b, B, p, ns, a, x, day, rfl, hB, hp, hin, ha, hx, d0, d1, fun H1 s1 => ⟨a, x, _, rfl, ha.same s1, fun H2 s2 => k _ (s1.trans s2)⟩⟩
theorem cal_sums_told (T : Top w K mg) : C8.Cal P w K mg base 6 "sums_told" (spSumsTold K) [] := by
  obtain ⟨fd, F⟩ := T.d_sums_told
  refine cal0_of F T.g_sums_told (ok_of F sc_sums_told (fun vs H Q E h => ?_) fun cdv A outer s H vs Q E hr h => ?_) fun _ _ _ _ _ _ us hl => match us, hl with | [_, _, _, _], _ => rfl
  · obtain ⟨b, B, p, ns, l, M, day, rfl, _⟩ := h
    rfl
  · obtain ⟨b, B, p, ns, l, M, day, rfl, hB, hp, hin, hM, d0, d1, k⟩ := h
    refine ⟨_, (pss_cons (ps_expr (C8.pe_c (cal_need_ready T) hr (by decide) (by rfl) (pa_cons (pv 0) (pa_cons (pv 1) pa_nil))))
      (pss_cons (ps_expr (C8.pe_c (cal_need_wishes T) hr (by decide) (by rfl) (pa_cons (pv 2) pa_nil)))
      (pss_cons (ps_expr (C8.pe_c (cal_need_day T) hr (by decide) (by rfl) (pa_cons (pv 3) pa_nil)))
      (pss_one (ps_ret (pe_lc (own := [("wish", 4)]) (g := gName 4) (tt := tYes) rfl sc_sums_told.nd (pi_list (pv 2)) (blkOk_by (N := N_sums_told) (sc := defScope s_sums_told) (by decide +kernel)) (fun _ _ _ _ _ => (pg_name (i := 4) sc_sums_told.nd rfl (Or.inl rfl))) (fun _ _ _ _ _ => pts_nil) (fun _ _ _ _ _ => (C8.pe_c (cal_sum_in T) hr (by decide) (by rfl) (pa_cons (pv 0) (pa_cons (pv 1) (pa_cons (pv 4) (pa_cons (pv 3) pa_nil)))))))))))), ?_⟩
    refine ⟨_, rfl, _, rfl, b, B, p, ns, rfl, hB, hp, hin, fun H1 s1 => ?_⟩
    refine ⟨_, rfl, l, M, rfl, hM.same s1, fun H2 s2 => ?_⟩
    have s12 := s1.trans s2
    refine ⟨_, rfl, day, rfl, d0, d1, ?_⟩
    refine ⟨_, rfl, l, rfl, ⟨_, SqL.is (hM.same s12).1⟩, fun D hD => ?_⟩
    refine lc_ext (walk_list (K := K) (a := l) (xs := rfs M)) hD (fun i => (sumsL B ns (M.take i) day).map V.int) rfl (fun H3 s3 => SqL.is (s3 _ _ (hM.same s12).1)) (fun i hi => ?_) (fun i y0 H3 H4 hi sm y R kR R0 _ => ?_) fun H3 sm eD => ?_
    · unfold sumsL
      rw [List.length_map, List.length_map, List.length_take]
      exact Nat.lt_of_le_of_lt (Nat.le_trans (Nat.min_le_right _ _) hM.2.2.2) (by decide)
    · obtain ⟨rfl, hv⟩ := y
      obtain ⟨x, hx, rfl⟩ := refs_at hv
      have hm := List.mem_of_getElem? hx
      have s13 := s12.trans sm
      refine ⟨rfl, _, rfl, _, rfl, _, rfl, _, rfl, b, B, p, ns, x.1, x.2, day, rfl, hB.same s13, hp.same s13, hin, (hM.2.1 x hm).same s13, hM.2.2.1 x hm, d0, d1, fun H5 s5 => kR _ _ s5 ?_⟩
      unfold sumsL
      rw [take_map hx, List.map_append]
      rfl
    · rw [List.length_map, List.take_length] at eD
      exact k D _ (s12.trans sm) (Same.none s12 hD) eD
theorem cal_lacking (T : Top w K mg) : C8.Cal P w K mg base 7 "lacking" (spLacking K) [] := by
  obtain ⟨fd, F⟩ := T.d_lacking
  refine calD_of (n := 4) 1 F T.g_lacking (ok_of F sc_lacking (fun vs H Q E h => ?_) fun cdv A outer s H vs Q E hr h => ?_) (List.cons_ne_nil _ _) rfl fun _ _ _ _ _ _ _ us its hl hi => match us, its, hl, hi with | [_, _, _, _], [_], _, _ => ⟨_, rfl, rfl⟩
  · obtain ⟨b, B, p, ns, l, M, day, rfl, _⟩ := h
    rfl
  · obtain ⟨b, B, p, ns, l, M, day, rfl, hB, hp, hin, hM, d0, d1, k⟩ := h
    refine ⟨_, (pss_cons (ps_set (i := 4) sc_lacking.nd rfl (Or.inl rfl) (C8.pe_c (cal_sums_told T) hr (by decide) (by rfl) (pa_cons (pv 0) (pa_cons (pv 1) (pa_cons (pv 2) (pa_cons (pv 3) pa_nil))))))
      (pss_one (ps_ret (pe_lc (own := [("number", 5), ("found", 6)]) (g := gTup K 2 (gCons (gName 5) (gCons (gName 6) gNil))) rfl sc_lacking.nd (pi_enum (by rfl) T.f_enumerate (pa_cons (pv 4) pa_nil)) (blkOk_by (N := N_lacking) (sc := defScope s_lacking) (by decide +kernel)) (fun _ _ _ _ _ => (pg_tup rfl (pgs_cons (pg_name (i := 5) sc_lacking.nd rfl (Or.inl rfl)) (pgs_cons (pg_name (i := 6) sc_lacking.nd rfl (Or.inl rfl)) pgs_nil)))) (fun _ _ _ _ _ => (pts_one (pt_not (pt_val (C8.pe_c (cal_is_met T) hr (by decide) (by rfl) (pa_cons (pe_ix (ix_listK K) (pv 2) (pv 5) (fun _ _ => rfl)) (pa_cons (pv 6) pa_nil))))))) (fun _ _ _ _ _ => (pe_tup (pa_cons (pv 5) (pa_cons (pv 6) pa_nil)))))))), ?_⟩
    refine ⟨_, rfl, _, rfl, _, rfl, _, rfl, b, B, p, ns, l, M, day, rfl, hB, hp, hin, hM, d0, d1, fun q H1 s1 hqn hq => ?_⟩
    have hlen : ((sumsL B ns M day).map V.int).length = M.length := by
      unfold sumsL
      rw [List.length_map, List.length_map]
    refine ⟨_, rfl, q, _, rfl, SqL.is hq, fun D hD => ?_⟩
    refine lc_it (walk_enum (K := K) (a := q) (xs := (sumsL B ns M day).map V.int)) (fun i H' => Same H1 H' ∧ ∃ ps : List Addr, H' D = some (.lst (ps.map V.ref)) ∧ ps.length = (lackL B ns M day i).length ∧ ∀ (j : Nat) (p : Addr) (i' : Nat), ps[j]? = some p → (lackL B ns M day i)[j]? = some i' → ∃ v, H' p = some (.tup [.int (i' : Nat), v]))
      ⟨same_new hD, [], upd_same, rfl, fun j p i' h => by simp at h⟩ (fun i H' _ pp => SqL.is (pp.1 _ _ hq)) (fun i y0 H2 H3 hi pp y => ?_) fun H2 pp => ?_
    · obtain ⟨s2, ps, hD2, el, hps⟩ := pp
      obtain ⟨T', x1, x2, rfl, hT, rfl, e1, e2⟩ := y
      obtain rfl := Option.some.inj e1
      have e2' : ((sumsL B ns M day).map V.int)[i]? = some x2 := e2
      have hi' : i < M.length := by omega
      obtain ⟨x, hx⟩ : ∃ x, M[i]? = some x := ⟨_, List.getElem?_eq_getElem hi'⟩
      have hv : x2 = .int (sumV B ns x.2 day) := by
        unfold sumsL at e2'
        rw [List.map_map, List.getElem?_map, hx] at e2'
        exact (Option.some.inj e2').symm
      subst hv
      have hm := List.mem_of_getElem? hx
      have s3 := s2.trans (same_new hT (o := .tup [.int (i : Nat), .int (sumV B ns x.2 day)]))
      have hD3 := same_new hT (o := .tup [.int (i : Nat), .int (sumV B ns x.2 day)]) _ _ hD2
      have hps3 : ∀ H', Same (upd H2 T' (.tup [.int (i : Nat), .int (sumV B ns x.2 day)])) H' → ∀ (j : Nat) (p : Addr) (i' : Nat), ps[j]? = some p → (lackL B ns M day i)[j]? = some i' → ∃ v, H' p = some (.tup [.int (i' : Nat), v]) := fun H' s' j p i' g1 g2 => by
        obtain ⟨v, e⟩ := hps j p i' g1 g2
        exact ⟨v, s' _ _ (same_new hT _ _ e)⟩
      have step : lackL B ns M day (i + 1) = if metV x.2 (sumV B ns x.2 day) = true then lackL B ns M day i else lackL B ns M day i ++ [i] := by
        unfold lackL
        rw [List.range_succ, List.filter_append]
        split
        · rename_i c
          simp [hx, c]
        · rename_i c
          simp [hx, c]
      refine ⟨T', _, rfl, .inl (.inl upd_same), rfl, _, _, rfl, _, _, rfl, rfl, rfl, ?_⟩
      have hMl : SqL K (upd H2 T' (.tup [.int (i : Nat), .int (sumV B ns x.2 day)])) l (rfs M) := SqL.is (s3 _ _ (s1 _ _ hM.1))
      have hat : atI (rfs M) ((i : Nat) : Int) = some (.ref x.1) := by
        refine atI_nat ?_
        rw [List.getElem?_map, hx]
        rfl
      refine ⟨_, rfl, _, rfl, l, _, (i : Nat), _, rfl, rfl, hMl, hat, _, rfl, x.1, x.2, _, rfl, (hM.2.1 x hm).same (s1.trans s3), fun H4 s4 => ⟨_, rfl, ?_⟩⟩
      cases c : metV x.2 (sumV B ns x.2 day) with
      | true =>
        rw [if_pos c] at step
        refine iteF ⟨s3.trans s4, ps, s4 _ _ hD3, ?_, ?_⟩
        · rw [step]
          exact el
        · rw [step]
          exact hps3 _ s4
      | false =>
        rw [if_neg (by rw [c]; exact Bool.false_ne_true)] at step
        refine iteT ⟨_, rfl, _, rfl, (by decide : 2 ≤ sizeLine), fun r hr2 => ?_⟩
        have s5 := s4.trans (same_new hr2 (o := .tup [.int (i : Nat), .int (sumV B ns x.2 day)]))
        have hD5 := s5 _ _ hD3
        refine ⟨_, hD5, ?_, ?_, ps ++ [r], ?_, ?_, ?_⟩
        · rw [List.length_map, el]
          refine Nat.lt_of_le_of_lt (List.length_filter_le _ _) ?_
          rw [List.length_range]
          exact Nat.lt_of_lt_of_le (Nat.lt_of_lt_of_le hi' hM.2.2.2) (by decide)
        · intro b' u e
          rw [upd_ne (ne_none hD e)]
          exact s5 _ _ (s3 _ _ e)
        · rw [upd_same, List.map_append]
          rfl
        · rw [step, List.length_append, List.length_append, el]
          rfl
        · intro j p' i' g1 g2
          rw [step] at g2
          have nD : ∀ z : List V, ∀ p2, upd H4 r (.tup [.int (i : Nat), .int (sumV B ns x.2 day)]) p2 = some (.tup z) → p2 ≠ D := fun z p2 e1 e2 => by
            rw [e2, hD5] at e1
            cases e1
          by_cases hj : j < ps.length
          · rw [List.getElem?_append_left hj] at g1
            rw [List.getElem?_append_left (by omega)] at g2
            obtain ⟨v, e⟩ := hps3 _ s5 j p' i' g1 g2
            exact ⟨v, by rw [upd_ne (nD _ _ e)]; exact e⟩
          · have hj2 : j = ps.length := by
              have h3 := (List.getElem?_eq_some_iff.mp g1).1
              rw [List.length_append] at h3
              simp at h3
              omega
            subst hj2
            rw [List.getElem?_append_right (Nat.le_refl _)] at g1
            rw [el, List.getElem?_append_right (Nat.le_refl _)] at g2
            simp at g1 g2
            subst g1 g2
            exact ⟨.int (sumV B ns x.2 day), by rw [upd_ne (nD _ _ upd_same)]; exact upd_same⟩
    · obtain ⟨s2, ps, hD2, el, hps⟩ := pp
      rw [hlen] at el hps
      exact k D _ (s1.trans s2) ⟨ps, hD2, el, hps⟩
theorem tabK_len {B : Bk} {ns : List Str} {day : Int} : ∀ {M : List (Addr × Wd)}, (tabK B ns day M).length ≤ M.length
  | [] => Nat.le_refl _
  | x :: r => Nat.le_trans (length_putK _ _ _) (Nat.succ_le_succ tabK_len)
theorem cal_sums_of (T : Top w K mg) : C8.Cal P w K mg base 7 "sums_of" (spSumsOf K) [] := by
  obtain ⟨fd, F⟩ := T.d_sums_of
  refine calD_of (n := 4) 1 F T.g_sums_of (ok_of F sc_sums_of (fun vs H Q E h => ?_) fun cdv A outer s H vs Q E hr h => ?_) (List.cons_ne_nil _ _) rfl fun _ _ _ _ _ _ _ us its hl hi => match us, its, hl, hi with | [_, _, _, _], [_], _, _ => ⟨_, rfl, rfl⟩
  · obtain ⟨b, B, p, ns, l, M, day, rfl, _⟩ := h
    rfl
  · obtain ⟨b, B, p, ns, l, M, day, rfl, hB, hp, hin, hM, d0, d1, k⟩ := h
    have hu := hu_of hr
    refine ⟨_, (pss_cons (ps_set (i := 4) sc_sums_of.nd rfl (Or.inl rfl) pe_dnewK)
      (pss_cons (ps_for PassesOwn.never rfl (pi_zipS (by rfl) T.f_zip (pa_cons (pv 2) (pa_cons (C8.pe_c (cal_sums_told T) hr (by decide) (by rfl) (pa_cons (pv 0) (pa_cons (pv 1) (pa_cons (pv 2) (pa_cons (pv 3) pa_nil))))) pa_nil)) (pk_cons pe_bl pk_nil)) (pg_tup rfl (pgs_cons (pg_name (i := 5) sc_sums_of.nd rfl (Or.inl rfl)) (pgs_cons (pg_name (i := 6) sc_sums_of.nd rfl (Or.inl rfl)) pgs_nil))) (pss_one (ps_dput hu (pv 4) (pe_strW T hr (by decide) (by rfl) (pa_cons (pv 5) pa_nil)) (pv 6) rfl)))
      (pss_one (ps_ret (pv 4))))), ?_⟩
    intro d hd
    have s1 := same_new hd (o := .dK [])
    refine ⟨_, rfl, _, rfl, _, rfl, _, rfl, _, rfl, b, B, p, ns, l, M, day, rfl, hB.same s1, hp.same s1, hin, hM.same s1, d0, d1, fun q H1 s2 hqn hq => ?_⟩
    have s12 := s1.trans s2
    refine ⟨rfl, l, q, _, _, rfl, SqL.is (hM.same s12).1, SqL.is hq, ?_⟩
    have hlen : (rfs M).length = ((sumsL B ns M day).map V.int).length := by
      unfold sumsL
      rw [List.length_map, List.length_map, List.length_map]
    have hqd : q ≠ d := fun e => by
      rw [e, upd_same] at hqn
      cases hqn
    refine for_it (walk_zipS (K := K) (a := l) (b := q) (xs := rfs M) (ys := (sumsL B ns M day).map V.int) hlen) (fun i σ H' => Same H H' ∧ H' q = some (.lst ((sumsL B ns M day).map V.int)) ∧ H' d = some (.dK (tabK B ns day (M.take i).reverse)) ∧ ∃ y z, σ = [some (.ref b), some (.ref p), some (.ref l), some (.int day), some (.ref d), y, z])
      ⟨s12, hq, s2 _ _ upd_same, _, _, rfl⟩ (fun i σ H' _ pp => ⟨SqL.is (pp.1 _ _ hM.1), SqL.is pp.2.1⟩) (fun i y0 σ H2 H3 hi pp y => ?_) fun σ H2 pp => ?_
    · obtain ⟨s3, hq3, hd3, z1, z2, rfl⟩ := pp
      obtain ⟨T', x1, x2, rfl, hT, rfl, e1, e2⟩ := y
      obtain ⟨x, hx, rfl⟩ := refs_at e1
      have e2' : ((sumsL B ns M day).map V.int)[i]? = some x2 := e2
      have hv : x2 = .int (sumV B ns x.2 day) := by
        unfold sumsL at e2'
        rw [List.map_map, List.getElem?_map, hx] at e2'
        exact (Option.some.inj e2').symm
      subst hv
      have hm := List.mem_of_getElem? hx
      have st := same_new hT (o := .tup [.ref x.1, .int (sumV B ns x.2 day)])
      have s4 := s3.trans st
      obtain ⟨dx, ea⟩ := (hM.2.1 x hm).same s4
      refine ⟨T', _, rfl, .inl (.inl upd_same), rfl, _, _, rfl, _, _, rfl, rfl, ?_⟩
      refine ⟨_, rfl, _, rfl, _, rfl, x.1, dx, _, rfl, ea, x.1, x.2, rfl, ⟨dx, ea⟩, hM.2.2.1 x hm, fun H5 s5 => ⟨_, rfl, d, _, rfl, DPut.k (k := Sum.inr (textOf x.2)) (s5 _ _ (st _ _ hd3)) ?_, ?_⟩⟩
      · refine Nat.lt_of_le_of_lt tabK_len ?_
        rw [List.length_reverse, List.length_take]
        exact Nat.lt_of_le_of_lt (Nat.le_trans (Nat.min_le_right _ _) hM.2.2.2) (by decide)
      · refine ⟨fun b' u e => ?_, ?_, ?_, _, _, rfl⟩
        · rw [upd_ne (ne_none hd e)]
          exact s5 _ _ (s4 _ _ e)
        · rw [upd_ne hqd]
          exact s5 _ _ (st _ _ hq3)
        · rw [upd_same, List.take_add_one, hx, List.reverse_append]
          rfl
    · obtain ⟨s3, hq3, hd3, z1, z2, rfl⟩ := pp
      have hl2 : (rfs M).length = M.length := List.length_map _
      rw [hl2, List.take_length] at hd3
      exact ⟨_, rfl, k d H2 s3 hd3⟩
end
end K73

set_option Elab.async false
set_option linter.all false
set_option maxRecDepth 100000
set_option maxHeartbeats 4000000
/-! ## what the law draws -/
namespace K73
open PySem PySem.Spec PyProof.Rows L2
def dkD (cl : Addr) (at' left : Int) : List (Key × V) := [(Sum.inr "cells", .ref cl), (Sum.inr "at", .int at'), (Sum.inr "left", .int left)]
theorem dkD_cells {cl : Addr} {a l : Int} : valV (dkD cl a l) (Sum.inr "cells") = some (.ref cl) := by kernel_rfl
theorem dkD_at {cl : Addr} {a l : Int} : valV (dkD cl a l) (Sum.inr "at") = some (.int a) := by kernel_rfl
theorem dkD_left {cl : Addr} {a l : Int} : valV (dkD cl a l) (Sum.inr "left") = some (.int l) := by kernel_rfl
theorem dkD_put {cl : Addr} {a l v : Int} : putK (dkD cl a l) (Sum.inr "at") (.int v) = dkD cl v l := by kernel_rfl
theorem dkD_put2 {cl : Addr} {a l v : Int} : putK (dkD cl a l) (Sum.inr "left") (.int v) = dkD cl a v := by kernel_rfl
structure DrawAt (H : Hp) (d cl : Addr) (n : Int) : Prop where
  ex : ∃ at' left, H d = some (.dK (dkD cl at' left)) ∧ 0 ≤ at' ∧ at' ≤ n ∧ 0 ≤ left
  cs : ∃ cells : List Int, H cl = some (.lst (cells.map V.int)) ∧ cells ≠ [] ∧ cells.length ≤ 64
  ne : cl ≠ d
def KeepD (d : Addr) (H H' : Hp) : Prop := ∀ a u, a ≠ d → H a = some u → H' a = some u
theorem KeepD.refl {d : Addr} (H : Hp) : KeepD d H H := fun _ _ _ e => e
theorem KeepD.trans {d : Addr} {H1 H2 H3 : Hp} (h : KeepD d H1 H2) (g : KeepD d H2 H3) : KeepD d H1 H3 := fun a u n e => g a u n (h a u n e)
theorem KeepD.of {d : Addr} {H1 H2 : Hp} (s : Same H1 H2) : KeepD d H1 H2 := fun a u _ e => s a u e
theorem DrawAt.same {H H' : Hp} {d cl : Addr} {n : Int} (h : DrawAt H d cl n) (s : Same H H') : DrawAt H' d cl n := by
  obtain ⟨⟨a, l, e1, r⟩, ⟨cells, e2, r2⟩, r3⟩ := h
  exact ⟨⟨a, l, s _ _ e1, r⟩, ⟨cells, s _ _ e2, r2⟩, r3⟩
theorem DrawAt.more {H : Hp} {d cl : Addr} {n m : Int} (h : DrawAt H d cl n) (l : n ≤ m) : DrawAt H d cl m := by
  obtain ⟨⟨a, lf, e1, r1, r2, r3⟩, r4, r5⟩ := h
  exact ⟨⟨a, lf, e1, r1, by omega, r3⟩, r4, r5⟩
theorem DrawAt.at {H : Hp} {d cl : Addr} {n : Int} (h : DrawAt H d cl n) : ∃ kvs, H d = some (.dK kvs) := by
  obtain ⟨⟨a, lf, e1, _⟩, _⟩ := h
  exact ⟨_, e1⟩
theorem DrawAt.cl {H : Hp} {d cl : Addr} {n : Int} (h : DrawAt H d cl n) : ∃ xs, H cl = some (.lst xs) := by
  obtain ⟨_, ⟨cells, e, _⟩, _⟩ := h
  exact ⟨_, e⟩
theorem DrawAt.nd {H : Hp} {d cl : Addr} {n : Int} (h : DrawAt H d cl n) {a : Addr} (e : H a = none) : a ≠ d := fun z => by
  obtain ⟨_, e1⟩ := h.at
  rw [z, e1] at e
  cases e
theorem DrawAt.nc {H : Hp} {d cl : Addr} {n : Int} (h : DrawAt H d cl n) {a : Addr} (e : H a = none) : a ≠ cl := fun z => by
  obtain ⟨_, e1⟩ := h.cl
  rw [z, e1] at e
  cases e
theorem DrawAt.put {H : Hp} {d cl : Addr} {n : Int} (h : DrawAt H d cl n) {p : Addr} {o : HO} (n1 : p ≠ d) (n2 : p ≠ cl) : DrawAt (upd H p o) d cl n := by
  obtain ⟨⟨a, l, e1, r⟩, ⟨cells, e2, r2⟩, r3⟩ := h
  exact ⟨⟨a, l, by rw [upd_ne n1.symm]; exact e1, r⟩, ⟨cells, by rw [upd_ne n2.symm]; exact e2, r2⟩, r3⟩
theorem KeepD.fresh {H H' : Hp} {d cl : Addr} {n : Int} (k : KeepD d H H') (h : DrawAt H' d cl n) {p : Addr} (e : H' p = none) : H p = none := by
  cases g : H p with
  | none => rfl
  | some u =>
    rw [k p u (h.nd e) g] at e
    cases e
theorem KeepD.put {H H' : Hp} {d : Addr} (k : KeepD d H H') {p : Addr} {o : HO} (e : H p = none) : KeepD d H (upd H' p o) := fun a u h g => by
  rw [upd_ne (ne_of_none g e)]
  exact k a u h g
def spTake (K : PySem.W.Frag) : Sp := fun vs H Q _ => ∃ d cl n many, vs = [.ref d, .int many] ∧ DrawAt H d cl n ∧ n < 1000000 ∧ 0 < many ∧ many < 1073741824 ∧ ∀ v H', 0 ≤ v → v < many → KeepD d H H' → DrawAt H' d cl (n + 1) → Q (.int v) H'
theorem draw_upd {H : Hp} {d : Addr} {n : Int} {cl : Addr} {cells : List Int} {a' l' : Int} (e2 : H cl = some (.lst (cells.map V.int))) (r1 : cl ≠ d) (r2 : cells ≠ []) (r3 : cells.length ≤ 64) (r4 : 0 ≤ a') (r5 : a' ≤ n) (r6 : 0 ≤ l') : DrawAt (upd H d (.dK (dkD cl a' l'))) d cl n :=
  ⟨⟨a', l', upd_same, r4, r5, r6⟩, ⟨cells, by rw [upd_ne r1]; exact e2, r2, r3⟩, r1⟩
section
variable {P : Program} {w : World} {K : PySem.W.Frag} {mg : Str → Option Value} {base : Heap}
theorem at_nat {α : Type} {xs : List α} {j : Nat} {x : α} (h : xs[j]? = some x) : atI xs (j : Int) = some x := by
  have hl := (List.getElem?_eq_some_iff.mp h).1
  have h1 : ixN xs.length ((j : Nat) : Int) = some j := by
    unfold ixN
    rw [if_pos (by omega), if_pos (by omega)]
    all_goals rfl
  unfold atI
  rw [h1]
  exact h
theorem at_in {α : Type} {xs : List α} {i : Int} (h0 : 0 ≤ i) (h1 : i < xs.length) : ∃ x, atI xs i = some x ∧ xs[i.toNat]? = some x := by
  have hl : i.toNat < xs.length := by omega
  refine ⟨xs[i.toNat], ?_, List.getElem?_eq_getElem hl⟩
  have := at_nat (List.getElem?_eq_getElem hl)
  rw [Int.toNat_of_nonneg h0] at this
  exact this
theorem sq_bound {a : Int} (h0 : 0 ≤ a) (h1 : a ≤ 1000000) : 0 ≤ 7919 * a * a ∧ 7919 * a * a ≤ 7919000000000000 := by
  have h2 : 0 ≤ 7919 * a := by omega
  have h3 : 7919 * a ≤ 7919000000 := by omega
  refine ⟨Int.mul_nonneg h2 h0, ?_⟩
  have := Int.mul_le_mul h3 h1 h0 (by omega)
  omega
theorem cal_l_take (T : Top w K mg) : C8.Cal P w K mg base 1 "_law_take" (spTake K) [] := by
  obtain ⟨fd, F⟩ := T.d_l_take
  refine cal0_of F T.g_l_take (ok_of F sc_l_take (fun vs H Q E h => ?_) fun cdv A outer s H vs Q E hr h => ?_) fun _ _ _ _ _ _ us hl => match us, hl with | [_, _], _ => rfl
  · obtain ⟨d, cl, n, many, rfl, _⟩ := h
    rfl
  · obtain ⟨d, cl, n, many, rfl, hd, hn, hm0, hm1, k⟩ := h
    obtain ⟨⟨a, l, e1, r4, r5, r6⟩, ⟨cells, e2, r2, r3⟩, r1⟩ := hd
    have hu := hu_of hr
    have g1 : (dkD cl a l).length < sizeLine := by
      show 3 < sizeLine
      decide
    refine ⟨_, (pss_cons (ps_dput hu (pv 0) pe_str (pe_op op_add (pe_dget hu (pv 0) pe_str (fun _ _ => rfl)) pe_int) rfl)
      (pss_cons (ps_if (pt_cmpR op_gt (pe_dget hu (pv 0) pe_str (fun _ _ => rfl)) pe_int (nomark _)) (pss_cons (ps_set (i := 2) sc_l_take.nd rfl (Or.inl rfl) (pe_op op_mod (pe_dget hu (pv 0) pe_str (fun _ _ => rfl)) (pv 1)))
      (pss_cons (ps_dput hu (pv 0) pe_str (pe_op op_fdiv (pe_dget hu (pv 0) pe_str (fun _ _ => rfl)) (pv 1)) rfl)
      (pss_one (ps_ret (pv 2))))) pss_nil)
      (pss_cons (ps_par (i := 3) (j := 4) rfl sc_l_take.nd rfl rfl (by decide) rfl rfl (pa_cons (pe_dget hu (pv 0) pe_str (fun _ _ => rfl)) (pa_cons (pe_dget hu (pv 0) pe_str (fun _ _ => rfl)) pa_nil)) (by rfl))
      (pss_cons (ps_set (i := 5) sc_l_take.nd rfl (Or.inl rfl) (pe_op op_add (pe_op op_add (pe_op op_add (pe_op op_mod (pe_ix ix_list (pv 4) (pe_op op_mod (pv 3) (pe_callB call_len_seq (by rfl) T.f_len b_len (pa_cons (pv 4) pa_nil))) (fun _ _ => rfl)) pe_int) (pe_op op_mul (pe_op op_mul pe_int (pv 3)) (pv 3))) (pe_op op_mul pe_int (pv 3))) pe_int))
      (pss_cons (ps_set (i := 5) sc_l_take.nd rfl (Or.inl rfl) (pe_op op_mod (pe_op op_pow (pv 5) pe_int) pe_int))
      (pss_one (ps_ret (pe_op op_mod (pe_op op_fdiv (pe_op op_mod (pe_op op_mul (pv 5) pe_int) pe_int) pe_int) (pv 1))))))))), ?_⟩
    refine ⟨_, rfl, d, .int a, rfl, by rw [← dkD_at]; exact DGet.k (k := Sum.inr "at") e1, a, 1, rfl, rfl, _, rfl, d, _, rfl, DPut.k (k := Sum.inr "at") e1 g1, ?_⟩
    rw [dkD_put]
    have kd0 : ∀ Z, KeepD d H (upd H d Z) := fun Z b u h e => by rw [upd_ne h]; exact e
    refine ⟨_, rfl, d, .int l, rfl, by rw [← dkD_left]; exact DGet.k (k := Sum.inr "left") upd_same, l, 0, rfl, rfl, decide (l > 0), rfl, ?_⟩
    by_cases hl : l > 0
    · rw [decide_eq_true hl]
      refine iteT ⟨_, rfl, d, .int l, rfl, by rw [← dkD_left]; exact DGet.k (k := Sum.inr "left") upd_same, _, rfl, l, many, rfl, rfl, hm0, ?_⟩
      refine ⟨_, rfl, d, .int l, rfl, by rw [← dkD_left]; exact DGet.k (k := Sum.inr "left") upd_same, _, rfl, l, many, rfl, rfl, ⟨hm0, hm1⟩, _, rfl, d, _, rfl, DPut.k (k := Sum.inr "left") upd_same (by show 3 < sizeLine; decide), ?_⟩
      rw [dkD_put2]
      refine ⟨_, rfl, k _ _ (Int.emod_nonneg _ (by omega)) (Int.emod_lt_of_pos _ hm0) (fun b u h e => ?_) ?_⟩
      · rw [upd_ne h, upd_ne h]
        exact e
      · exact draw_upd (by rw [upd_ne r1]; exact e2) r1 r2 r3 (by omega) (by omega) (Int.ediv_nonneg (by omega) (by omega))
    · rw [decide_eq_false hl]
      refine iteF ?_
      have e2' : upd H d (.dK (dkD cl (a + 1) l)) cl = some (.lst (cells.map V.int)) := by
        rw [upd_ne r1]
        exact e2
      refine ⟨_, rfl, d, .int (a + 1), rfl, by rw [← dkD_at]; exact DGet.k (k := Sum.inr "at") upd_same, _, rfl, d, .ref cl, rfl, by rw [← dkD_cells]; exact DGet.k (k := Sum.inr "cells") upd_same, _, _, rfl, ?_⟩
      have hlen : 0 < cells.length := List.length_pos_iff.mpr r2
      have b0 := Int.emod_nonneg (a + 1) (b := (cells.length : Int)) (by omega)
      have b1 := Int.emod_lt_of_pos (a + 1) (b := (cells.length : Int)) (by omega)
      obtain ⟨c, hc, hc'⟩ := at_in (xs := cells.map V.int) b0 (by rw [List.length_map]; exact b1)
      rw [List.getElem?_map] at hc'
      obtain ⟨c', _, rfl⟩ := Option.map_eq_some_iff.mp hc'
      have sb := sq_bound (a := a + 1) (by omega) (by omega)
      have m0 := Int.emod_nonneg c' (b := 2147483629) (by omega)
      have m1 := Int.emod_lt_of_pos c' (b := 2147483629) (by omega)
      have big : 7919 * (a + 1) * (a + 1) < 2 ^ 64 := Int.lt_of_le_of_lt sb.2 (by decide)
      have q0 : 0 ≤ c' % 2147483629 + 7919 * (a + 1) * (a + 1) + 104729 * (a + 1) + 5 := by omega
      have q1 : c' % 2147483629 + 7919 * (a + 1) * (a + 1) + 104729 * (a + 1) + 5 < 18446744073709551616 := by omega
      have p1 : (0 : Int) < 2147483629 := by decide
      have p2 : (0 : Int) < 2147483647 := by decide
      refine ⟨_, rfl, _, rfl, _, rfl, cl, cells.map V.int, rfl, .inl (SqL.is e2'), a + 1, _, rfl, rfl, by rw [List.length_map]; omega, ?_⟩
      rw [List.length_map]
      refine ⟨cl, _, _, .int c', rfl, rfl, SqL.is e2', hc, c', 2147483629, rfl, rfl, p1, _, rfl, 7919, a + 1, rfl, rfl, .inl (by decide), _, rfl, 7919 * (a + 1), a + 1, rfl, rfl, .inr (by omega), ?_⟩
      refine ⟨c' % 2147483629, 7919 * (a + 1) * (a + 1), rfl, rfl, _, rfl, 104729, a + 1, rfl, rfl, .inl (by decide), c' % 2147483629 + 7919 * (a + 1) * (a + 1), 104729 * (a + 1), rfl, rfl, c' % 2147483629 + 7919 * (a + 1) * (a + 1) + 104729 * (a + 1), 5, rfl, rfl, ?_⟩
      refine ⟨_, rfl, c' % 2147483629 + 7919 * (a + 1) * (a + 1) + 104729 * (a + 1) + 5, 5, rfl, rfl, ⟨by decide, by decide, by omega⟩, _, 2147483647, rfl, rfl, p2, ?_⟩
      refine ⟨_, rfl, _, 48271, rfl, rfl, .inr (by decide), _, 2147483629, rfl, rfl, p1, _, 7, rfl, rfl, ⟨by decide, by decide⟩, _, rfl, _, many, rfl, rfl, hm0, ?_⟩
      exact k _ _ (Int.emod_nonneg _ (by omega)) (Int.emod_lt_of_pos _ hm0) (kd0 _) (draw_upd e2 r1 r2 r3 (by omega) (by omega) r6)
theorem lc_dr {J : It} {n : Nat} {G : Hp → Prop} {Y : Nat → Hp → V → Hp → Prop} (wk : Walk J n G Y) {g : TG} {tt : TT} {te : TE} {vs : List Nat} {σ : L2.St} {H0 H1 : Hp} {D d cl : Addr} {c : Int} {Qd : Hp → Prop} (hD : H1 D = none) (k01 : KeepD d H0 H1) (h1 : DrawAt H1 d cl c) (O : Nat → List V → Hp → Prop) (h0 : O 0 [] H1)
    (hO : ∀ i out H Z, O i out H → O i out (upd H D Z)) (hG : ∀ i out H, O i out H → KeepD d H0 H → G H) (hn : n ≤ 1000)
    (hs : ∀ i x H H' out, i < n → KeepD d H0 H → DrawAt H d cl (c + i) → H D = some (.lst out) → O i out H → Y i H x H' → ∀ R : VK, (∀ y H4, KeepD d H0 H4 → DrawAt H4 d cl (c + i + 1) → H4 D = some (.lst out) → O (i + 1) (out ++ [y]) H4 → R y H4) → ∀ R0 : Hp → Prop, (∀ H3, KeepD d H0 H3 → DrawAt H3 d cl (c + i + 1) → H3 D = some (.lst out) → O (i + 1) out H3 → R0 H3) →
      g x (wipe σ vs) H' fun σ2 H2 => wipe σ2 vs = wipe σ vs ∧ tt σ2 H2 fun b H3 => if b = true then te σ2 H3 R else R0 H3)
    (hd : ∀ H out, KeepD d H0 H → DrawAt H d cl (c + n) → H D = some (.lst out) → O n out H → Qd H) :
    ∃ W : Nat → Nat → Hp → Prop, (∃ m, W 0 m (upd H1 D (.lst []))) ∧ ∀ i m H, W i m H →
      (J.stop i H ∧ Qd H) ∨ (J.go i H ∧ ∃ Nx : Hp → Prop, (∀ H', Nx H' → ∃ m', m' < m ∧ W (i + 1) m' H') ∧ ∀ x H', J.yld i H x H' → g x (wipe σ vs) H' fun σ2 H2 => wipe σ2 vs = wipe σ vs ∧ tt σ2 H2 fun b H3 =>
        if b = true then te σ2 H3 fun y H4 => ∃ acc, H4 D = some (.lst acc) ∧ acc.length < sizeLine ∧ Nx (upd H4 D (.lst (acc ++ [y]))) else Nx H3) := by
  have nd := h1.nd hD
  have nc := h1.nc hD
  have hD0 := k01.fresh h1 hD
  refine lc_it wk (fun i H => KeepD d H0 H ∧ DrawAt H d cl (c + i) ∧ ∃ out, H D = some (.lst out) ∧ out.length ≤ i ∧ O i out H) ⟨k01.put hD0, by rw [Int.natCast_zero, Int.add_zero]; exact h1.put nd nc, [], upd_same, Nat.le_refl _, hO _ _ _ _ h0⟩
    (fun i H _ p => ?_) (fun i x H H' hi p y => ?_) fun H p => ?_
  · obtain ⟨k, _, out, _, _, o⟩ := p
    exact hG i out H o k
  · obtain ⟨k, hd', out, e, l, o⟩ := p
    refine hs i x H H' out hi k hd' e o y _ (fun z H4 k4 d4 e4 o4 => ?_) _ fun H3 k3 d3 e3 o3 => ?_
    · refine ⟨out, e4, Nat.lt_of_le_of_lt (Nat.le_trans l (Nat.le_trans (Nat.le_of_lt hi) hn)) (by decide), k4.put hD0, ?_, out ++ [z], upd_same, ?_, hO _ _ _ _ o4⟩
      · rw [Int.natCast_succ, ← Int.add_assoc]
        exact d4.put nd nc
      · rw [List.length_append]
        exact Nat.succ_le_succ l
    · refine ⟨k3, ?_, out, e3, Nat.le_succ_of_le l, o3⟩
      rw [Int.natCast_succ, ← Int.add_assoc]
      exact d3
  · obtain ⟨k, hd', out, e, _, o⟩ := p
    exact hd H out k hd' e o
def mk (cs : List Nat) : Str := ⟨cs.toArray⟩
theorem mk_len (cs : List Nat) : (mk cs).length = cs.length := by simp [mk, Str.length]
theorem mk_app (a b : List Nat) : mk a ++ mk b = mk (a ++ b) := Str.ext' (by
  show a.toArray ++ b.toArray = (a ++ b).toArray
  simp)
theorem mk_take (cs : List Nat) (k : Nat) : Txt.slice (mk cs) none (some (k : Int)) = mk (cs.take k) := by
  rw [← C8.cutS_slice]
  unfold cutS
  rw [HT.sIx_nat, HT.sIx_none, List.drop_zero, Nat.sub_zero, mk_len]
  show mk (cs.take _) = _
  by_cases h : k ≤ cs.length
  · rw [Nat.min_eq_left h]
  · rw [Nat.min_eq_right (by omega), List.take_length, List.take_of_length_le (by omega)]
theorem mk_drop (cs : List Nat) (k : Nat) : Txt.slice (mk cs) (some (k : Int)) none = mk (cs.drop k) := by
  rw [← C8.cutS_slice]
  unfold cutS
  rw [HT.sIx_nat, HT.sIx_none, mk_len]
  show mk ((cs.drop _).take _) = _
  by_cases h : k ≤ cs.length
  · rw [Nat.min_eq_left h, List.take_of_length_le (by rw [List.length_drop]; exact Nat.le_refl _)]
  · rw [Nat.min_eq_right (by omega), List.drop_length, List.take_nil, List.drop_of_length_le (by omega)]
theorem mk_join : ∀ cs : List Nat, Txt.join ("" : Str) (cs.map fun c => mk [c]) = mk cs := by
  intro cs
  rw [TL.join_eq]
  induction cs with
  | nil => rfl
  | cons c r ih =>
    cases r with
    | nil => rfl
    | cons e r =>
      show mk [c] ++ ("" : Str) ++ Str.join ("" : Str) ((e :: r).map fun c => mk [c]) = _
      rw [ih, show ("" : Str) = mk [] by decide +kernel, mk_app, mk_app]
      rfl
def LetL (cs : List Nat) : Prop := ∀ c ∈ cs, 97 ≤ c ∧ c ≤ 122
theorem mk_name {cs : List Nat} (h : LetL cs) (h1 : 1 ≤ cs.length) (h2 : cs.length ≤ 8) : NameP (mk cs) := ⟨by rw [mk_len]; exact h1, by rw [mk_len]; exact h2, h⟩
theorem at_letters {i : Int} (h0 : 0 ≤ i) (h1 : i < 26) : atI ("abcdefghijklmnopqrstuvwxyz" : Str).cps.toList i = some (97 + i.toNat) := by
  have e : ("abcdefghijklmnopqrstuvwxyz" : Str).cps.toList = (List.range 26).map (97 + ·) := by decide +kernel
  rw [e]
  have := at_nat (xs := (List.range 26).map (97 + ·)) (j := i.toNat) (x := 97 + i.toNat) (by
    rw [List.getElem?_map, List.getElem?_range (by omega)]
    rfl)
  rw [Int.toNat_of_nonneg h0] at this
  exact this
def nthN (w : List Nat) (a : Nat) (f s : Int) (k : Nat) : Str := mk (w.take a ++ [97 + ((f + s * k) % 26).toNat] ++ w.drop a)
theorem nthN_name {w : List Nat} (hw : LetL w) (hl : w.length ≤ 7) {a : Nat} {f s : Int} {k : Nat} : NameP (nthN w a f s k) := by
  refine mk_name (fun c hc => ?_) ?_ ?_
  · rcases List.mem_append.mp hc with hc | hc
    · rcases List.mem_append.mp hc with hc | hc
      · exact hw c (List.mem_of_mem_take hc)
      · obtain rfl := List.mem_singleton.mp hc
        omega
    · exact hw c (List.mem_of_mem_drop hc)
  · simp
    omega
  · simp only [List.length_append, List.length_take, List.length_drop, List.length_cons, List.length_nil]
    omega
theorem nthN_inj {w : List Nat} {a : Nat} {f s : Int} (hs : s ∈ [1, 3, 5, 7, 9, 11, 15, 17, 19, 21, 23, 25]) {j k : Nat} (hj : j < 16) (hk : k < 16) (e : nthN w a f s j = nthN w a f s k) : j = k := by
  have e1 : (w.take a ++ [97 + ((f + s * j) % 26).toNat] ++ w.drop a) = (w.take a ++ [97 + ((f + s * k) % 26).toNat] ++ w.drop a) := by
    have := congrArg (fun z : Str => z.cps.toList) e
    exact this
  rw [List.append_left_inj, List.append_right_inj] at e1
  injection e1 with e1 _
  simp only [List.mem_cons, List.not_mem_nil, or_false] at hs
  rcases hs with rfl | rfl | rfl | rfl | rfl | rfl | rfl | rfl | rfl | rfl | rfl | rfl <;> omega
theorem map_del {α β : Type} {f : α → β} : ∀ (l : List α) (i : Nat), (l.map f).eraseIdx i = (l.eraseIdx i).map f
  | [], _ => rfl
  | _ :: _, 0 => rfl
  | x :: r, i + 1 => congrArg (f x :: ·) (map_del r i)
theorem perm_del {α : Type} : ∀ {l : List α} {i : Nat} {x : α}, l[i]? = some x → (x :: l.eraseIdx i).Perm l
  | [], _, _, h => by cases h
  | y :: r, 0, x, h => by
    injection h with h
    rw [h]
    exact List.Perm.refl _
  | y :: r, i + 1, x, h => (List.Perm.swap y x _).trans (List.Perm.cons y (perm_del (l := r) (i := i) h))
def words15 : List Str := ["many", "toil", "marks", "rest", "kin", "with", "sums", "wish", "of", "paper", "bank", "name", "right", "matter", "answers"]
theorem words15_ok : words15.Nodup ∧ ∀ x ∈ words15, NameP x := by
  unfold NameP
  decide +kernel
def spNamesL (K : PySem.W.Frag) : Sp := fun vs H Q _ => ∃ d cl n many, vs = [.ref d, .int many] ∧ DrawAt H d cl n ∧ n + 30 < 1000000 ∧ 1 ≤ many ∧ many ≤ 13 ∧ ∀ (p : Addr) (xs : List Str) (H' : Hp), xs.length = many.toNat → xs.Nodup → (∀ x ∈ xs, NameP x) → KeepD d H H' → H p = none → H' p = some (.lst (xs.map V.str)) → DrawAt H' d cl (n + 30) → Q (.ref p) H'
theorem cal_l_names (T : Top w K mg) : C8.Cal P w K mg base 2 "_law_names" (spNamesL K) [] := by
  obtain ⟨fd, F⟩ := T.d_l_names
  refine cal0_of F T.g_l_names (ok_of F sc_l_names (fun vs H Q E h => ?_) fun cdv A outer s H vs Q E hr h => ?_) fun _ _ _ _ _ _ us hl => match us, hl with | [_, _], _ => rfl
  · obtain ⟨d, cl, n, many, rfl, _⟩ := h
    rfl
  · obtain ⟨d, cl, n, many, rfl, hd, hn, hm0, hm1, k⟩ := h
    refine ⟨_, (pss_cons (ps_set (i := 2) sc_l_names.nd rfl (Or.inr rfl) pe_str)
      (pss_cons (ps_if (pt_cmpR op_eq (C8.pe_c (cal_l_take T) hr (by decide) (by rfl) (pa_cons (pv 0) (pa_cons pe_int pa_nil))) pe_int (nomark _)) (pss_cons (ps_set (i := 3) sc_l_names.nd rfl (Or.inr rfl) (pe_lst (pa_cons pe_str (pa_cons pe_str (pa_cons pe_str (pa_cons pe_str (pa_cons pe_str (pa_cons pe_str (pa_cons pe_str (pa_cons pe_str (pa_cons pe_str (pa_cons pe_str pa_nil))))))))))))
      (pss_cons (ps_set (i := 3) sc_l_names.nd rfl (Or.inr rfl) (pe_op op_cat (pv 3) (pe_lst (pa_cons pe_str (pa_cons pe_str (pa_cons pe_str (pa_cons pe_str (pa_cons pe_str pa_nil))))))))
      (pss_one (ps_ret (pe_lc (own := [("_law_k", 9)]) (g := gName 9) (tt := tYes) rfl sc_l_names.nd (pi_range1 (by rfl) T.f_range (pa_cons (pv 1) pa_nil)) (blkOk_by (N := N_l_names) (sc := defScope s_l_names) (by decide +kernel)) (fun _ _ _ _ _ => (pg_name (i := 9) sc_l_names.nd rfl (Or.inl rfl))) (fun _ _ _ _ _ => pts_nil) (fun _ _ _ _ _ => (pe_bmK K PySem.F.plainAttrs_list PySem.F.slot_list_pop PySem.F.type_list_pop mt_popAt (pv 3) (pa_cons (C8.pe_c (cal_l_take T) hr (by decide) (by rfl) (pa_cons (pv 0) (pa_cons (pe_callB (call_len_seqK K) (by rfl) T.f_len b_len (pa_cons (pv 3) pa_nil)) pa_nil))) pa_nil)))))))) pss_nil)
      (pss_cons (ps_set (i := 4) sc_l_names.nd rfl (Or.inl rfl) (C8.pe_c (cal_l_take T) hr (by decide) (by rfl) (pa_cons (pv 0) (pa_cons pe_int pa_nil))))
      (pss_cons (ps_set (i := 5) sc_l_names.nd rfl (Or.inr rfl) (C8.pe_c (cal_l_take T) hr (by decide) (by rfl) (pa_cons (pv 0) (pa_cons (pe_op op_add (pv 4) pe_int) pa_nil))))
      (pss_cons (ps_set (i := 6) sc_l_names.nd rfl (Or.inr rfl) (pe_join pe_str (pe_lc (own := [("_law_k", 9)]) (g := gName 9) (tt := tYes) rfl sc_l_names.nd (pi_range1 (by rfl) T.f_range (pa_cons (pv 4) pa_nil)) (blkOk_by (N := N_l_names) (sc := defScope s_l_names) (by decide +kernel)) (fun _ _ _ _ _ => (pg_name (i := 9) sc_l_names.nd rfl (Or.inl rfl))) (fun _ _ _ _ _ => pts_nil) (fun _ _ _ _ _ => (pe_ix ix_str (pv 2) (C8.pe_c (cal_l_take T) hr (by decide) (by rfl) (pa_cons (pv 0) (pa_cons pe_int pa_nil))) (fun _ _ => rfl))))))
      (pss_cons (ps_asg (pe_tup (pa_cons (C8.pe_c (cal_l_take T) hr (by decide) (by rfl) (pa_cons (pv 0) (pa_cons pe_int pa_nil))) (pa_cons (pe_ix ix_list (pe_lst (pa_cons pe_int (pa_cons pe_int (pa_cons pe_int (pa_cons pe_int (pa_cons pe_int (pa_cons pe_int (pa_cons pe_int (pa_cons pe_int (pa_cons pe_int (pa_cons pe_int (pa_cons pe_int (pa_cons pe_int pa_nil))))))))))))) (C8.pe_c (cal_l_take T) hr (by decide) (by rfl) (pa_cons (pv 0) (pa_cons pe_int pa_nil))) (fun _ _ => rfl)) pa_nil))) (pg_tup rfl (pgs_cons (pg_name (i := 7) sc_l_names.nd rfl (Or.inr rfl)) (pgs_cons (pg_name (i := 8) sc_l_names.nd rfl (Or.inr rfl)) pgs_nil))))
      (pss_one (ps_ret (pe_lc (own := [("_law_k", 9)]) (g := gName 9) (tt := tYes) rfl sc_l_names.nd (pi_range1 (by rfl) T.f_range (pa_cons (pv 1) pa_nil)) (blkOk_by (N := N_l_names) (sc := defScope s_l_names) (by decide +kernel)) (fun _ _ _ _ _ => (pg_name (i := 9) sc_l_names.nd rfl (Or.inl rfl))) (fun _ _ _ _ _ => pts_nil) (fun _ _ _ _ _ => (pe_op op_add_str (pe_op op_add_str (pe_slice C8.sl_txt (pv 6) po_none (po_some (pv 5))) (pe_ix ix_str (pv 2) (pe_op op_mod (pe_op op_add (pv 7) (pe_op op_mul (pv 8) (pv 9))) pe_int) (fun _ _ => rfl))) (pe_slice C8.sl_txt (pv 6) (po_some (pv 5)) po_none)))))))))))), ?_⟩
    refine ⟨_, rfl, d, cl, n, 4, rfl, hd, by omega, by decide, by decide, fun v H1 v0 v1 k1 d1 => ?_⟩
    refine ⟨rfl, _, rfl, ?_⟩
    rw [dec_int]
    by_cases hv : v = 0
    · rw [show (v == 0) = true from beq_iff_eq.mpr hv]
      refine iteT ⟨(by decide : 10 ≤ sizeLine), fun p1 hp1 => ?_⟩
      refine ⟨_, rfl, (by decide : 5 ≤ sizeLine), fun p2 hp2 => ?_⟩
      refine ⟨p1, p2, _, _, rfl, rfl, same_new hp2 _ _ upd_same, upd_same, (by decide : 15 ≤ sizeLine), fun p3 hp3 => ?_⟩
      have n1 : H p1 = none := k1.fresh d1 hp1
      have d2 := d1.same (same_new hp1 (o := .lst (List.take 10 (words15.map V.str))))
      have k2 := k1.trans (KeepD.of (same_new hp1 (o := .lst (List.take 10 (words15.map V.str)))))
      have d3 := d2.same (same_new hp2 (o := .lst (List.drop 10 (words15.map V.str))))
      have k3 := k2.trans (KeepD.of (same_new hp2 (o := .lst (List.drop 10 (words15.map V.str)))))
      have d4 := d3.same (same_new hp3 (o := .lst (words15.map V.str)))
      have k4 := k3.trans (KeepD.of (same_new hp3 (o := .lst (words15.map V.str))))
      have np3 : p3 ≠ d := d3.nd hp3
      have nc3 : p3 ≠ cl := d3.nc hp3
      have h03 : H p3 = none := k3.fresh d3 hp3
      refine ⟨_, rfl, many, rfl, by omega, by omega, fun D hD => ?_⟩
      have nD : p3 ≠ D := fun e => by
        rw [← e] at hD
        rw [upd_same] at hD
        cases hD
      have nD0 : H D = none := k4.fresh d4 hD
      refine lc_dr (c := n + 1) walk_range hD k4 d4 (fun i out H => ∃ ws os, H p3 = some (.lst (ws.map V.str)) ∧ out = os.map V.str ∧ os.length = i ∧ (os ++ ws).Perm words15) ⟨words15, [], upd_same, rfl, rfl, List.Perm.refl _⟩ (fun i out H Z o => ?_) (fun _ _ _ _ _ => trivial) (by omega) (fun i x H8 H9 out hi k8 d8 e8 o8 y R kR R0 _ => ?_) fun H8 out k8 d8 e8 o8 => ?_
      · obtain ⟨ws, os, e, r⟩ := o
        exact ⟨ws, os, by rw [upd_ne nD]; exact e, r⟩
      · obtain ⟨rfl, rfl⟩ := y
        obtain ⟨ws, os, e, rfl, ho, hp⟩ := o8
        have hlen := hp.length_eq
        rw [List.length_append, show words15.length = 15 from rfl] at hlen
        refine ⟨rfl, _, rfl, .inl ⟨rfl, _, SqL.is e⟩, _, rfl, _, rfl, p3, ws.map V.str, rfl, .inl (SqL.is e), ?_⟩
        rw [List.length_map]
        refine ⟨d, cl, _, _, rfl, d8, by omega, by omega, by omega, fun v5 H5 u0 u1 k5 d5 => ?_⟩
        have hl5 : v5.toNat < ws.length := by omega
        have e5 := k5 _ _ np3 e
        have hx := List.getElem?_eq_getElem hl5
        refine ⟨p3, ws.map V.str, v5, v5.toNat, .str ws[v5.toNat], rfl, rfl, e5, by omega, by omega, ?_, ?_, kR _ _ ((k8.trans k5).put h03) (d5.put np3 nc3) ?_ ⟨ws.eraseIdx v5.toNat, os ++ [ws[v5.toNat]], ?_, ?_, ?_, ?_⟩⟩
        · unfold seqIndex?
          rw [List.length_map]
          simp only [show ¬ v5 < 0 by omega, if_false]
          rw [if_pos]
          simp [u0, u1]
        · rw [List.getElem?_map, hx]
          rfl
        · rw [upd_ne nD.symm]
          exact k5 _ _ (d4.nd hD) e8
        · rw [upd_same, map_del]
        · rw [List.map_append]
          rfl
        · rw [List.length_append, ho]
          rfl
        · rw [List.append_assoc]
          exact (List.Perm.append_left os (perm_del hx)).trans hp
      · obtain ⟨ws, os, e, rfl, ho, hp⟩ := o8
        have nd : (os ++ ws).Nodup := hp.nodup_iff.mpr words15_ok.1
        exact k D os H8 ho (List.nodup_append.mp nd).1 (fun x hx => words15_ok.2 x (hp.mem_iff.mp (List.mem_append_left _ hx))) k8 nD0 e8 (d8.more (by omega))
    · rw [show (v == 0) = false from beq_eq_false_iff_ne.mpr hv]
      refine iteF ⟨_, rfl, d, cl, n + 1, 8, rfl, d1, by omega, by decide, by decide, fun sz H2 s0 s1 k2 d2 => ?_⟩
      refine ⟨_, rfl, _, rfl, sz, 1, rfl, rfl, d, cl, _, _, rfl, d2, by omega, by omega, by omega, fun a H3 a0 a1 k3 d3 => ?_⟩
      have k03 := (k1.trans k2).trans k3
      obtain ⟨a, rfl⟩ := Int.eq_ofNat_of_zero_le a0
      refine ⟨⟨_, rfl⟩, _, rfl, sz, rfl, by omega, by omega, fun D hD => ?_⟩
      refine lc_dr (c := n + 1 + 1 + 1) walk_range hD k03 d3 (fun i out H => ∃ cs, out = cs.map (fun c => V.str (mk [c])) ∧ cs.length = i ∧ LetL cs) ⟨[], rfl, rfl, nofun⟩ (fun _ _ _ _ o => o) (fun _ _ _ _ _ => trivial) (by omega) (fun i x H4 H5 out hi k4 d4 e4 o4 y R kR R0 _ => ?_) fun H4 out k4 d4 e4 o4 => ?_
      · obtain ⟨rfl, rfl⟩ := y
        obtain ⟨cs, rfl, hl, hc⟩ := o4
        refine ⟨rfl, _, rfl, _, rfl, d, cl, _, 26, rfl, d4, by omega, by decide, by decide, fun v5 H5 u0 u1 k5 d5 => ?_⟩
        refine ⟨_, v5, _, rfl, rfl, by decide +kernel, at_letters u0 u1, kR _ _ (k4.trans k5) d5 (k5 _ _ (d3.nd hD) e4) ⟨cs ++ [97 + v5.toNat], ?_, ?_, ?_⟩⟩
        · rw [List.map_append]
          rfl
        · rw [List.length_append, hl]
          rfl
        · intro c hc'
          rcases List.mem_append.mp hc' with hc' | hc'
          · exact hc c hc'
          · obtain rfl := List.mem_singleton.mp hc'
            omega
      · obtain ⟨w, rfl, hl, hw⟩ := o4
        have e4' : H4 D = some (.lst ((w.map fun c => mk [c]).map V.str)) := by
          rw [e4, List.map_map]
          rfl
        have hl7 : w.length ≤ 7 := by omega
        refine ⟨_, D, w.map (fun c => mk [c]), rfl, rfl, .inl (SqL.is e4'), ?_, ?_⟩
        · have eb : ∀ w : List Nat, ((w.map fun c => mk [c]).map (·.length)).sum = w.length := by
            intro w
            induction w with
            | nil => rfl
            | cons c r ih =>
              rw [List.map_cons, List.map_cons, List.sum_cons, ih, mk_len]
              show 1 + r.length = r.length + 1
              omega
          rw [eb, show ("" : Str).length = 0 from rfl]
          omega
        rw [mk_join]
        have d4' : DrawAt H4 d cl (n + 10) := d4.more (by omega)
        refine ⟨_, rfl, d, cl, n + 10, 26, rfl, d4', by omega, by decide, by decide, fun f H5 f0 f1 k5 d5 => ?_⟩
        refine ⟨(by decide : 12 ≤ sizeLine), fun p4 hp4 => ⟨_, rfl, d, cl, _, 12, rfl, d5.same (same_new hp4), by omega, by decide, by decide, fun u H6 u0 u1 k6 d6 => ?_⟩⟩
        have np4 : p4 ≠ d := d5.nd hp4
        obtain ⟨s, hs, hs'⟩ := at_in (xs := [(1 : Int), 3, 5, 7, 9, 11, 15, 17, 19, 21, 23, 25]) u0 u1
        have hsV : atI ([(1 : Int), 3, 5, 7, 9, 11, 15, 17, 19, 21, 23, 25].map V.int) u = some (.int s) := by
          have := at_nat (xs := [(1 : Int), 3, 5, 7, 9, 11, 15, 17, 19, 21, 23, 25].map V.int) (j := u.toNat) (x := .int s) (by rw [List.getElem?_map, hs']; rfl)
          rw [Int.toNat_of_nonneg u0] at this
          exact this
        have k06 : KeepD d H H6 := (k4.trans k5).trans ((KeepD.of (same_new hp4)).trans k6)
        refine ⟨p4, _, u, .int s, rfl, rfl, SqL.is (k6 _ _ np4 upd_same), hsV, (by decide : 2 ≤ sizeLine), fun T' hT => ?_⟩
        have k07 := k06.trans (KeepD.of (same_new hT (o := .tup [.int f, .int s])))
        have d7 := d6.same (same_new hT (o := .tup [.int f, .int s]))
        refine ⟨T', _, rfl, .inl (.inl upd_same), rfl, _, _, rfl, _, _, rfl, rfl, ?_⟩
        refine ⟨_, rfl, many, rfl, by omega, by omega, fun D2 hD2 => ?_⟩
        refine lc_dr (c := n + 15) walk_range hD2 k07 (d7.more (by omega)) (fun i out H => out = ((List.range i).map (nthN w a f s)).map V.str) rfl (fun _ _ _ _ o => o) (fun _ _ _ _ _ => trivial) (by omega) (fun i x H8 H9 out hi k8 d8 e8 o8 y R kR R0 _ => ?_) fun H8 out k8 d8 e8 o8 => ?_
        · obtain ⟨rfl, rfl⟩ := y
          have sm : s ∈ [(1 : Int), 3, 5, 7, 9, 11, 15, 17, 19, 21, 23, 25] := List.mem_of_getElem? hs'
          have sb : 1 ≤ s ∧ s ≤ 25 := by
            simp only [List.mem_cons, List.not_mem_nil, or_false] at sm
            omega
          have wl : (mk w).length ≤ sizeLine := by
            rw [mk_len]
            exact Nat.le_trans hl7 (by decide)
          have m0 := Int.emod_nonneg (f + s * (0 + (i : Int))) (b := 26) (by decide)
          have m1 := Int.emod_lt_of_pos (f + s * (0 + (i : Int))) (b := 26) (by decide)
          refine ⟨rfl, _, rfl, _, rfl, a, rfl, mk w, rfl, wl, ?_⟩
          rw [mk_take]
          refine ⟨_, rfl, _, rfl, _, rfl, _, rfl, s, 0 + (i : Int), rfl, rfl, .inl ⟨by omega, by omega⟩, f, s * (0 + (i : Int)), rfl, rfl, f + s * (0 + (i : Int)), 26, rfl, rfl, (by show (0 : Int) < 26; decide), _, _, _, rfl, rfl, by decide +kernel, at_letters m0 m1, _, _, rfl, rfl, ?_, ?_⟩
          · rw [mk_len]
            show (w.take a).length + 1 ≤ _
            rw [List.length_take]
            exact Nat.le_trans (show min a w.length + 1 ≤ 8 by omega) (by decide)
          refine ⟨_, rfl, _, rfl, a, rfl, mk w, rfl, wl, ?_⟩
          rw [mk_drop]
          refine ⟨_, _, rfl, rfl, ?_, kR _ _ k8 (d8.more (by omega)) e8 ?_⟩
          · show (mk (w.take a) ++ mk [97 + ((f + s * (0 + (i : Int))) % 26).toNat]).length + (mk (w.drop a)).length ≤ sizeLine
            rw [mk_app, mk_len, mk_len, List.length_append, List.length_take, List.length_drop]
            exact Nat.le_trans (show min a w.length + 1 + (w.length - a) ≤ 16 by omega) (by decide)
          · rw [o8, List.range_succ, List.map_append, List.map_append]
            have e : mk (w.take a) ++ mk [97 + ((f + s * (0 + (i : Int))) % 26).toNat] ++ mk (w.drop a) = nthN w a f s i := by
              rw [mk_app, mk_app, Int.zero_add]
              rfl
            exact congrArg (fun z => _ ++ [V.str z]) e
        · refine k D2 ((List.range many.toNat).map (nthN w a f s)) H8 (by simp) ?_ (fun x hx => ?_) k8 (k07.fresh d7 hD2) (by rw [e8, o8]) (d8.more (by omega))
          · have sm : s ∈ [(1 : Int), 3, 5, 7, 9, 11, 15, 17, 19, 21, 23, 25] := List.mem_of_getElem? hs'
            unfold List.Nodup
            rw [List.pairwise_map]
            refine List.Pairwise.imp_of_mem (fun {x y} hx hy ne e => ne ?_) (List.nodup_range (n := many.toNat))
            rw [List.mem_range] at hx hy
            exact nthN_inj sm (by omega) (by omega) e
          · obtain ⟨i, _, rfl⟩ := List.mem_map.mp hx
            exact nthN_name hw hl7
end
end K73

set_option Elab.async false
set_option linter.all false
set_option maxRecDepth 100000
set_option maxHeartbeats 4000000
/-! ## rows, the bank of the rows, a paper -/
namespace K73
open PySem PySem.Spec PyProof.Rows L2
def rowD (q : Qd) (dl : Addr) (o : Bool) : List (Key × V) := [(Sum.inr "name", .str q.name), (Sum.inr "matter", .str q.matter), (Sum.inr "toil", .int q.toil), (Sum.inr "marks", .int q.marks), (Sum.inr "kin", .str q.kin), (Sum.inr "days", .ref dl), (Sum.inr "out", .bl o)]
theorem rv_name {q : Qd} {dl : Addr} {o : Bool} : valV (rowD q dl o) (Sum.inr "name") = some (.str q.name) := by kernel_rfl
theorem rv_matter {q : Qd} {dl : Addr} {o : Bool} : valV (rowD q dl o) (Sum.inr "matter") = some (.str q.matter) := by kernel_rfl
theorem rv_toil {q : Qd} {dl : Addr} {o : Bool} : valV (rowD q dl o) (Sum.inr "toil") = some (.int q.toil) := by kernel_rfl
theorem rv_marks {q : Qd} {dl : Addr} {o : Bool} : valV (rowD q dl o) (Sum.inr "marks") = some (.int q.marks) := by kernel_rfl
theorem rv_kin {q : Qd} {dl : Addr} {o : Bool} : valV (rowD q dl o) (Sum.inr "kin") = some (.str q.kin) := by kernel_rfl
theorem rv_days {q : Qd} {dl : Addr} {o : Bool} : valV (rowD q dl o) (Sum.inr "days") = some (.ref dl) := by kernel_rfl
theorem rv_out {q : Qd} {dl : Addr} {o : Bool} : valV (rowD q dl o) (Sum.inr "out") = some (.bl o) := by kernel_rfl
theorem rp_days {q : Qd} {dl e : Addr} {o : Bool} : putK (rowD q dl o) (Sum.inr "days") (.ref e) = rowD q e o := by kernel_rfl
theorem rp_out {q : Qd} {dl : Addr} {o e : Bool} : putK (rowD q dl o) (Sum.inr "out") (.bl e) = rowD q dl e := by kernel_rfl
def r2 (nm m : Str) : List (Key × V) := [(Sum.inr "name", .str nm), (Sum.inr "matter", .str m)]
def r3 (nm m : Str) (a : Int) : List (Key × V) := r2 nm m ++ [((Sum.inr "toil" : Key), V.int a)]
def r4 (nm m : Str) (a b : Int) : List (Key × V) := r3 nm m a ++ [((Sum.inr "marks" : Key), V.int b)]
def r5 (nm m : Str) (a b : Int) (kn : Str) : List (Key × V) := r4 nm m a b ++ [((Sum.inr "kin" : Key), V.str kn)]
def r6 (nm m : Str) (a b : Int) (kn : Str) (dl : Addr) : List (Key × V) := r5 nm m a b kn ++ [((Sum.inr "days" : Key), V.ref dl)]
theorem r2_is {nm m : Str} : mergeK [] (r2 nm m) = r2 nm m := by kernel_rfl
theorem r3_is {nm m : Str} {a : Int} : putK (r2 nm m) (Sum.inr "toil") (.int a) = r3 nm m a := by kernel_rfl
theorem r4_is {nm m : Str} {a b : Int} : putK (r3 nm m a) (Sum.inr "marks") (.int b) = r4 nm m a b := by kernel_rfl
theorem r5_is {nm m kn : Str} {a b : Int} : putK (r4 nm m a b) (Sum.inr "kin") (.str kn) = r5 nm m a b kn := by kernel_rfl
theorem r6_is {nm m kn : Str} {a b : Int} {dl : Addr} : putK (r5 nm m a b kn) (Sum.inr "days") (.ref dl) = r6 nm m a b kn dl := by kernel_rfl
theorem r7_is {nm m kn : Str} {a b : Int} {dl : Addr} : putK (r6 nm m a b kn dl) (Sum.inr "out") (.bl false) = rowD ⟨nm, m, a, b, kn⟩ dl false := by kernel_rfl
def RowAt (c : Nat) (H : Hp) (p : Addr) (q : Qd) (o : Bool) : Prop := ∃ dl ds, H p = some (.dK (rowD q dl o)) ∧ H dl = some (.lst (List.map V.int ds)) ∧ ds.length ≤ c
structure RowOk (q : Qd) : Prop where
  name : NameP q.name
  matter : NameP q.matter
  t0 : 1 ≤ q.toil
  t1 : q.toil ≤ 9
  m0 : 1 ≤ q.marks
  m1 : q.marks ≤ 9
  kin : KinP q.kin
theorem RowAt.same {H H' : Hp} {p : Addr} {q : Qd} {o : Bool} {c : Nat} (h : RowAt c H p q o) (s : Same H H') : RowAt c H' p q o := by
  obtain ⟨dl, ds, e1, e2, l⟩ := h
  exact ⟨dl, ds, s _ _ e1, s _ _ e2, l⟩
theorem DrawAt.nl {H : Hp} {d cl : Addr} {n : Int} (h : DrawAt H d cl n) {p : Addr} {xs : List V} (e : H p = some (.lst xs)) : p ≠ d := fun z => by
  obtain ⟨_, e1⟩ := h.at
  rw [z, e1] at e
  cases e
theorem RowAt.keepD {H H' : Hp} {d cl : Addr} {n : Int} {p : Addr} {q : Qd} {o : Bool} {c : Nat} (h : RowAt c H p q o) (hd : DrawAt H d cl n) (k : KeepD d H H') (np : p ≠ d) : RowAt c H' p q o := by
  obtain ⟨dl, ds, e1, e2, l⟩ := h
  exact ⟨dl, ds, k _ _ np e1, k _ _ (hd.nl e2) e2, l⟩
theorem RowAt.putL {H : Hp} {l p : Addr} {q : Qd} {o : Bool} {R : Qs} {ys : List V} {c : Nat} (h : RowAt c H p q o) (e : H l = some (.lst (rfs R))) (hR : R ≠ []) : RowAt c (upd H l (.lst ys)) p q o := by
  obtain ⟨dl, ds, e1, e2, ll⟩ := h
  refine ⟨dl, ds, ?_, ?_, ll⟩
  · rw [upd_ne (fun z => by
      rw [z, e] at e1
      cases e1)]
    exact e1
  · rw [upd_ne (fun z => by
      rw [z, e] at e2
      injection e2 with e2
      injection e2 with e2
      cases R with
      | nil => exact hR rfl
      | cons x r =>
        cases ds with
        | nil => cases e2
        | cons y r =>
          injection e2 with e2
          cases e2)]
    exact e2
theorem ne_of_none' {H : Hp} {a b : Addr} {u : HO} (h : H a = none) (e : H b = some u) : a ≠ b := fun z => by
  rw [z, e] at h
  cases h
theorem iteQ {c : Bool} {A B : VK → Prop} {Q : VK} (M : V → Hp → Prop) (ha : c = true → ∀ R : VK, (∀ x H, M x H → R x H) → A R) (hb : c = false → ∀ R : VK, (∀ x H, M x H → R x H) → B R) (hq : ∀ x H, M x H → Q x H) : if c = true then A Q else B Q := by
  cases c with
  | true => exact iteT (ha rfl Q hq)
  | false => exact iteF (hb rfl Q hq)
structure RowsAt (c : Nat) (H : Hp) (l : Addr) (R : Qs) (outs : Str → Bool) : Prop where
  lst : H l = some (.lst (rfs R))
  row : ∀ x ∈ R, RowAt c H x.1 x.2 (outs x.2.name)
  ok : ∀ x ∈ R, RowOk x.2
  nod : (R.map fun x => x.2.name).Nodup
  few : R.length ≤ 13
  pos : 1 ≤ R.length
theorem RowsAt.same {H H' : Hp} {l : Addr} {R : Qs} {outs : Str → Bool} {c : Nat} (h : RowsAt c H l R outs) (s : Same H H') : RowsAt c H' l R outs := ⟨s _ _ h.lst, fun x hx => (h.row x hx).same s, h.ok, h.nod, h.few, h.pos⟩
def spRows (K : PySem.W.Frag) : Sp := fun vs H Q _ => ∃ d cl n, vs = [.ref d, .int 13] ∧ DrawAt H d cl n ∧ n + 200 < 1000000 ∧ ∀ l R H', RowsAt 0 H' l R (fun _ => false) → (∀ x ∈ R, H x.1 = none) → H l = none → KeepD d H H' → DrawAt H' d cl (n + 200) → Q (.ref l) H'
section
variable {P : Program} {w : World} {K : PySem.W.Frag} {mg : Str → Option Value} {base : Heap}
theorem cal_l_rows (T : Top w K mg) : C8.Cal P w K mg base 3 "_law_rows" (spRows K) [] := by
  obtain ⟨fd, F⟩ := T.d_l_rows
  refine cal0_of F T.g_l_rows (ok_of F sc_l_rows (fun vs H Q E h => ?_) fun cdv A outer s H vs Q E hr h => ?_) fun _ _ _ _ _ _ us hl => match us, hl with | [_, _], _ => rfl
  · obtain ⟨d, cl, n, rfl, _⟩ := h
    rfl
  · obtain ⟨d, cl, n, rfl, hd, hn, k⟩ := h
    have hu := hu_of hr
    refine ⟨_, (pss_cons (ps_set (i := 2) sc_l_rows.nd rfl (Or.inl rfl) (C8.pe_c (cal_l_names T) hr (by decide) (by rfl) (pa_cons (pv 0) (pa_cons (pe_op op_add pe_int (C8.pe_c (cal_l_take T) hr (by decide) (by rfl) (pa_cons (pv 0) (pa_cons (pv 1) pa_nil)))) pa_nil))))
      (pss_cons (ps_par (i := 3) (j := 4) rfl sc_l_rows.nd rfl rfl (by decide) rfl rfl (pa_cons (C8.pe_c (cal_l_names T) hr (by decide) (by rfl) (pa_cons (pv 0) (pa_cons pe_int pa_nil))) (pa_cons (pe_op op_cat (C8.pe_c (cal_l_names T) hr (by decide) (by rfl) (pa_cons (pv 0) (pa_cons pe_int pa_nil))) (pe_op op_rep (pe_lst (pa_cons pe_str pa_nil)) pe_int)) pa_nil)) (by rfl))
      (pss_cons (ps_set (i := 3) sc_l_rows.nd rfl (Or.inl rfl) (pe_ifExp (pt_cmpR op_gt (C8.pe_c (cal_l_take T) hr (by decide) (by rfl) (pa_cons (pv 0) (pa_cons pe_int pa_nil))) pe_int (nomark _)) (pv 3) (pe_op op_cat (pe_slice sl_list (pv 2) po_none (po_some pe_int)) (pe_slice sl_list (pv 3) po_none (po_some pe_int)))))
      (pss_cons (ps_set (i := 5) sc_l_rows.nd rfl (Or.inl rfl) (pe_lst pa_nil))
      (pss_cons (ps_for PassesOwn.never rfl (pi_list (pv 2)) (pg_name (i := 6) sc_l_rows.nd rfl (Or.inl rfl)) (pss_cons (ps_set (i := 7) sc_l_rows.nd rfl (Or.inl rfl) (pe_disp (pps_cons pe_str (pv 6) (pps_cons pe_str (pe_ix ix_list (pv 3) (C8.pe_c (cal_l_take T) hr (by decide) (by rfl) (pa_cons (pv 0) (pa_cons (pe_callB call_len_seq (by rfl) T.f_len b_len (pa_cons (pv 3) pa_nil)) pa_nil))) (fun _ _ => rfl)) pps_nil)) (by rfl) (by rfl) (fun z => by cases z) (by decide)))
      (pss_cons (ps_dput hu (pv 7) pe_str (pe_op op_add pe_int (C8.pe_c (cal_l_take T) hr (by decide) (by rfl) (pa_cons (pv 0) (pa_cons pe_int pa_nil)))) rfl)
      (pss_cons (ps_asg (pe_tup (pa_cons (pe_op op_add pe_int (C8.pe_c (cal_l_take T) hr (by decide) (by rfl) (pa_cons (pv 0) (pa_cons pe_int pa_nil)))) (pa_cons (pe_ix ix_list (pv 4) (C8.pe_c (cal_l_take T) hr (by decide) (by rfl) (pa_cons (pv 0) (pa_cons pe_int pa_nil))) (fun _ _ => rfl)) pa_nil))) (pg_tup rfl (pgs_cons (pg_sub (pv 7) pe_str (set_dict hu)) (pgs_cons (pg_sub (pv 7) pe_str (set_dict hu)) pgs_nil))))
      (pss_cons (ps_asg (pe_tup (pa_cons (pe_lst pa_nil) (pa_cons pe_bl pa_nil))) (pg_tup rfl (pgs_cons (pg_sub (pv 7) pe_str (set_dict hu)) (pgs_cons (pg_sub (pv 7) pe_str (set_dict hu)) pgs_nil))))
      (pss_one (ps_expr (pe_bm PySem.F.plainAttrs_list PySem.F.slot_list_append PySem.F.type_list_append mt_append (pv 5) (pa_cons (pv 7) pa_nil)))))))))
      (pss_one (ps_ret (pv 5)))))))), ?_⟩
    refine ⟨_, rfl, _, rfl, _, rfl, d, cl, n, 13, rfl, hd, by omega, by decide, by decide, fun v1 H1 a0 a1 k1 d1 => ⟨1, v1, rfl, rfl, d, cl, _, _, rfl, d1, by omega, by omega, by omega, fun pn ns H2 ln nn hN k2 hp2 e2 d2 => ?_⟩⟩
    refine ⟨_, rfl, d, cl, _, 3, rfl, d2, by omega, by decide, by decide, fun pm ms H3 lm nm hM k3 hp3 e3 d3 => ?_⟩
    refine ⟨_, rfl, d, cl, _, 2, rfl, d3, by omega, by decide, by decide, fun pk ks H4 lk nk hK k4 hp4 e4 d4 => ?_⟩
    refine ⟨(by decide : 1 ≤ sizeLine), fun q1 hq1 => ⟨q1, 2, _, rfl, rfl, upd_same, by decide, by decide, (by decide : 1 * 2 ≤ sizeLine), fun q2 hq2 => ?_⟩⟩
    have ks2 : ks.length = 2 := lk
    have s5 := (same_new hq1 (o := .lst [V.str ""])).trans (same_new hq2 (o := .lst [V.str "", V.str ""]))
    refine ⟨pk, q2, _, _, rfl, rfl, s5 _ _ e4, upd_same, ?_, fun q3 hq3 => ?_⟩
    · rw [List.length_map, ks2]
      exact (by decide : 4 ≤ sizeLine)
    have s6 := s5.trans (same_new hq3 (o := .lst ((ks ++ [("" : Str), ("" : Str)]).map V.str)))
    refine ⟨_, _, rfl, ?_⟩
    have e6k : upd (upd (upd H4 q1 (.lst [V.str ""])) q2 (.lst [V.str "", V.str ""])) q3 (.lst ((ks ++ [("" : Str), ("" : Str)]).map V.str)) q3 = some (.lst ((ks ++ [("" : Str), ("" : Str)]).map V.str)) := upd_same
    rw [show ks.map V.str ++ (List.replicate (2 : Int).toNat [V.str ""]).flatten = (ks ++ [("" : Str), ("" : Str)]).map V.str by rw [List.map_append]; rfl]
    rw [show (List.replicate (2 : Int).toNat [V.str ""]).flatten = [V.str "", V.str ""] from rfl]
    have d6 := d4.same s6
    have e6n := s6 _ _ (k4 _ _ (d3.nl (k3 _ _ (d2.nl e2) e2)) (k3 _ _ (d2.nl e2) e2))
    have e6m := s6 _ _ (k4 _ _ (d3.nl e3) e3)
    have k6 := (k1.trans k2).trans ((k3.trans k4).trans (KeepD.of s6))
    generalize upd (upd (upd H4 q1 (.lst [V.str ""])) q2 (.lst [V.str "", V.str ""])) q3 (.lst ((ks ++ [("" : Str), ("" : Str)]).map V.str)) = H6 at *
    have hks : ∀ z ∈ ks ++ [("" : Str), ("" : Str)], KinP z := fun z hz => by
      rcases List.mem_append.mp hz with hz | hz
      · exact .inr (hK z hz)
      · simp only [List.mem_cons, List.not_mem_nil, or_false, or_self] at hz
        exact .inl hz
    have hkl : (ks ++ [("" : Str), ("" : Str)]).length = 4 := by
      rw [List.length_append, ks2]
      rfl
    generalize ks ++ [("" : Str), ("" : Str)] = kk at *
    refine ⟨_, rfl, d, cl, _, 3, rfl, d6.more (m := n + 91) (by omega), by omega, by decide, by decide, fun v7 H7 c0 c1 k7 d7 => ⟨v7, 0, rfl, rfl, decide (v7 > 0), rfl, ?_⟩⟩
    have e7n := k7 _ _ (d6.nl e6n) e6n
    have e7m := k7 _ _ (d6.nl e6m) e6m
    have e7k := k7 _ _ (d6.nl e6k) e6k
    have k67 := k6.trans k7
    refine iteQ (fun x H8 => ∃ pm ms, x = .ref pm ∧ Same H7 H8 ∧ H8 pm = some (.lst (List.map V.str ms)) ∧ 1 ≤ ms.length ∧ ms.length ≤ 3 ∧ ∀ m ∈ ms, NameP m) (fun _ R kR => ?_) (fun _ R kR => ?_) fun x H8 hx => ?_
    · exact ⟨_, rfl, kR _ _ ⟨pm, ms, rfl, Same.refl _, e7m, by rw [lm]; decide, by rw [lm]; decide, hM⟩⟩
    · refine ⟨_, rfl, 1, rfl, pn, _, rfl, SqL.is e7n, fun q4 hq4 => ⟨_, rfl, 1, rfl, pm, _, rfl, SqL.is (same_new hq4 _ _ e7m), fun q5 hq5 => ?_⟩⟩
      refine ⟨q4, q5, _, _, rfl, rfl, same_new hq5 _ _ upd_same, upd_same, ?_, fun q6 hq6 => ?_⟩
      · refine Nat.le_trans (Nat.add_le_add (b := 1) (d := 1) ?_ ?_) (by decide)
        · refine Nat.le_trans (Nat.le_of_eq (congrArg List.length (cutV_take (ns.map V.str) 1))) ?_
          rw [List.length_take]
          omega
        · refine Nat.le_trans (Nat.le_of_eq (congrArg List.length (cutV_take (ms.map V.str) 1))) ?_
          rw [List.length_take]
          omega
      · refine kR _ _ ⟨q6, ns.take 1 ++ ms.take 1, rfl, ?_, ?_, ?_, ?_, ?_⟩
        · exact (same_new hq4).trans ((same_new hq5).trans (same_new hq6))
        · rw [upd_same]
          rw [List.map_append, List.map_take, List.map_take, ← cutV_take _ 1, ← cutV_take _ 1]
          rfl
        · rw [List.length_append, List.length_take, List.length_take]
          omega
        · rw [List.length_append, List.length_take, List.length_take]
          omega
        · intro m hm
          rcases List.mem_append.mp hm with hm | hm
          · exact hN m (List.mem_of_mem_take hm)
          · exact hM m (List.mem_of_mem_take hm)
    clear e7m e6m
    obtain ⟨pm, ms, rfl, s8, e8m, lm0, lm1, hM⟩ := hx
    have d8 := d7.same s8
    have k8 := k67.trans (KeepD.of s8)
    have e8n := s8 _ _ e7n
    have e8k := s8 _ _ e7k
    refine ⟨(by decide : 0 ≤ sizeLine), fun lf hlf => ?_⟩
    have nlf := d8.nd hlf
    have clf := d8.nc hlf
    have n0lf : H lf = none := k8.fresh d8 hlf
    refine ⟨_, rfl, pn, rfl, ⟨_, SqL.is (same_new hlf _ _ e8n)⟩, ?_⟩
    refine for_it (walk_list (K := K) (a := pn) (xs := ns.map V.str)) (fun i σ H' => KeepD d H8 H' ∧ DrawAt H' d cl (n + 92 + 4 * (i : Int)) ∧ (∃ R : Qs, (R.map fun x => x.2.name) = ns.take i ∧ H' lf = some (.lst (rfs R)) ∧ ∀ x ∈ R, RowAt 0 H' x.1 x.2 false ∧ RowOk x.2 ∧ H8 x.1 = none) ∧
      ∃ y z, σ = [some (.ref d), some (.int 13), some (.ref pn), some (.ref pm), some (.ref q3), some (.ref lf), y, z]) ⟨KeepD.of (same_new hlf), ?_, ⟨[], by rw [List.take_zero]; rfl, upd_same, nofun⟩, _, _, rfl⟩ (fun i σ H' _ p => ?_) (fun i x σ H9 H10 hi pp y => ?_) fun σ H9 pp => ?_
    · exact (d8.same (same_new hlf)).more (by omega)
    · exact SqL.is (p.1 _ _ (d8.nl e8n) e8n)
    · obtain ⟨k9, d9, ⟨R, eR, elf, hR⟩, z1, z2, rfl⟩ := pp
      obtain ⟨rfl, hx⟩ := y
      obtain ⟨nm, hnm, rfl⟩ := str_at hx
      intro p hp
      have p8 : H8 p = none := k9.fresh d9 hp
      have np : p ≠ d := d9.nd hp
      have nlfp : p ≠ lf := ne_of_none' hp elf
      have k10 := KeepD.of (d := d) (same_new hp (o := .dK []))
      have d10 := d9.same (same_new hp (o := .dK []))
      have elf10 := same_new hp (o := .dK []) _ _ elf
      have e10p : upd H10 p (.dK []) p = some (.dK []) := upd_same
      generalize upd H10 p (.dK []) = H11 at *
      have e10m := k10 _ _ (d8.nl e8m) (k9 _ _ (d8.nl e8m) e8m)
      refine ⟨_, rfl, _, rfl, _, rfl, _, rfl, pm, ms.map V.str, rfl, .inl (SqL.is e10m), ?_⟩
      rw [List.length_map]
      have hi13 : i < 13 := by
        rw [List.length_map] at hi
        omega
      refine ⟨d, cl, _, _, rfl, d10, by omega, by omega, by omega, fun v1 H12 a0 a1 k12 d12 => ?_⟩
      obtain ⟨m, hm, hm'⟩ := at_in (xs := ms.map V.str) a0 (by rw [List.length_map]; exact a1)
      obtain ⟨m, hmm, rfl⟩ := str_at hm'
      have e12p := k12 _ _ np e10p
      have elf12 := k12 _ _ (d10.nl elf10) elf10
      have k13 := k10.trans k12
      refine ⟨pm, _, v1, .str m, rfl, rfl, SqL.is (k12 _ _ (d8.nl e8m) e10m), hm, e12p, (r2 nm m), rfl, by show 2 ≤ 15; decide, ?_⟩
      rw [r2_is]
      have k14 := k13.put hp (o := .dK (r2 nm m))
      have d14 := d12.put np (p := p) (o := .dK (r2 nm m)) (d9.nc hp)
      have e14p : upd H12 p (.dK (r2 nm m)) p = some (.dK (r2 nm m)) := upd_same
      have elf14 : upd H12 p (.dK (r2 nm m)) lf = _ := (upd_ne nlfp.symm).trans elf12
      generalize upd H12 p (.dK (r2 nm m)) = H14 at *
      refine ⟨_, rfl, d, cl, _, 9, rfl, d14, by omega, by decide, by decide, fun v2 H15 b0 b1 k15 d15 => ⟨1, v2, rfl, rfl, _, rfl, p, _, rfl, DPut.k (k := Sum.inr "toil") (k15 _ _ np e14p) (by show 2 < sizeLine; decide), ?_⟩⟩
      rw [r3_is]
      have elf15 := k15 _ _ (d14.nl elf14) elf14
      have k16 := (k14.trans k15).put hp (o := .dK (r3 nm m (1 + v2)))
      have d16 := d15.put np (p := p) (o := .dK (r3 nm m (1 + v2))) (d9.nc hp)
      have e16p : upd H15 p (.dK (r3 nm m (1 + v2))) p = some (.dK (r3 nm m (1 + v2))) := upd_same
      have elf16 : upd H15 p (.dK (r3 nm m (1 + v2))) lf = _ := (upd_ne nlfp.symm).trans elf15
      generalize upd H15 p (.dK (r3 nm m (1 + v2))) = H16 at *
      refine ⟨_, rfl, d, cl, _, 9, rfl, d16, by omega, by decide, by decide, fun v3 H17 c0 c1 k17 d17 => ⟨1, v3, rfl, rfl, _, rfl, _, rfl, d, cl, _, 4, rfl, d17, by omega, by decide, by decide, fun v4 H18 g0 g1 k18 d18 => ?_⟩⟩
      have k18' := (k16.trans k17).trans k18
      obtain ⟨kn, hkn, hkn'⟩ := at_in (xs := kk.map V.str) g0 (by rw [List.length_map, hkl]; exact g1)
      obtain ⟨kn, hkk, rfl⟩ := str_at hkn'
      have e18p := k18 _ _ np (k17 _ _ np e16p)
      have elf17 := k17 _ _ (d16.nl elf16) elf16
      have elf18 := k18 _ _ (d17.nl elf17) elf17
      refine ⟨q3, _, v4, .str kn, rfl, rfl, SqL.is (k18' _ _ (d8.nl e8k) (k9 _ _ (d8.nl e8k) e8k)), hkn, (by decide : 2 ≤ sizeLine), fun T1 hT1 => ?_⟩
      have sT := same_new hT1 (o := .tup [.int (1 + v3), .str kn])
      have hsq : SqT K (upd H18 T1 (.tup [.int (1 + v3), .str kn])) T1 [.int (1 + v3), .str kn] := SqT.is upd_same
      have k19 := k18'.trans (KeepD.of sT)
      have d19 := d18.same sT
      have e19p := sT _ _ e18p
      have elf19 := sT _ _ elf18
      generalize upd H18 T1 (.tup [.int (1 + v3), .str kn]) = H19 at *
      refine ⟨T1, _, rfl, hsq, rfl, _, _, rfl, _, rfl, p, _, rfl, DPut.k (k := Sum.inr "marks") e19p (by show 3 < sizeLine; decide), ?_⟩
      rw [r4_is]
      refine ⟨_, _, rfl, _, rfl, p, _, rfl, DPut.k (k := Sum.inr "kin") upd_same (by show 4 < sizeLine; decide), rfl, ?_⟩
      rw [r5_is, upd2]
      have k20 := k19.put hp (o := .dK (r5 nm m (1 + v2) (1 + v3) kn))
      have d20 := d19.put np (p := p) (o := .dK (r5 nm m (1 + v2) (1 + v3) kn)) (d9.nc hp)
      have e20p : upd H19 p (.dK (r5 nm m (1 + v2) (1 + v3) kn)) p = some (.dK (r5 nm m (1 + v2) (1 + v3) kn)) := upd_same
      have elf20 : upd H19 p (.dK (r5 nm m (1 + v2) (1 + v3) kn)) lf = _ := (upd_ne nlfp.symm).trans elf19
      generalize upd H19 p (.dK (r5 nm m (1 + v2) (1 + v3) kn)) = H20 at *
      refine ⟨(by decide : 0 ≤ sizeLine), fun dl hdl => ⟨(by decide : 2 ≤ sizeLine), fun T2 hT2 => ?_⟩⟩
      have sd := same_new hdl (o := .lst [])
      have sT2 := same_new hT2 (o := .tup [.ref dl, .bl false])
      have hsq2 : SqT K (upd (upd H20 dl (.lst [])) T2 (.tup [.ref dl, .bl false])) T2 [.ref dl, .bl false] := SqT.is upd_same
      have edl : upd (upd H20 dl (.lst [])) T2 (.tup [.ref dl, .bl false]) dl = some (.lst []) := sT2 _ _ upd_same
      have k21 := k20.trans ((KeepD.of sd).trans (KeepD.of sT2))
      have d21 := (d20.same sd).same sT2
      have e21p := sT2 _ _ (sd _ _ e20p)
      have elf21 := sT2 _ _ (sd _ _ elf20)
      have ndl : dl ≠ lf := ne_of_none' hdl elf20
      have ndp : dl ≠ p := ne_of_none' hdl e20p
      generalize upd (upd H20 dl (.lst [])) T2 (.tup [.ref dl, .bl false]) = H21 at *
      refine ⟨T2, _, rfl, hsq2, rfl, _, _, rfl, _, rfl, p, _, rfl, DPut.k (k := Sum.inr "days") e21p (by show 5 < sizeLine; decide), ?_⟩
      rw [r6_is]
      refine ⟨_, _, rfl, _, rfl, p, _, rfl, DPut.k (k := Sum.inr "out") upd_same (by show 6 < sizeLine; decide), rfl, ?_⟩
      rw [r7_is, upd2]
      have k22 := k21.put hp (o := .dK (rowD ⟨nm, m, 1 + v2, 1 + v3, kn⟩ dl false))
      have d22 := d21.put np (p := p) (o := .dK (rowD ⟨nm, m, 1 + v2, 1 + v3, kn⟩ dl false)) (d9.nc hp)
      have e22p : upd H21 p (.dK (rowD ⟨nm, m, 1 + v2, 1 + v3, kn⟩ dl false)) p = some (.dK (rowD ⟨nm, m, 1 + v2, 1 + v3, kn⟩ dl false)) := upd_same
      have elf22 : upd H21 p (.dK (rowD ⟨nm, m, 1 + v2, 1 + v3, kn⟩ dl false)) lf = _ := (upd_ne nlfp.symm).trans elf21
      have edl22 : upd H21 p (.dK (rowD ⟨nm, m, 1 + v2, 1 + v3, kn⟩ dl false)) dl = _ := (upd_ne ndp).trans edl
      have lR : R.length = i := by
        have := congrArg List.length eR
        rw [List.length_map, List.length_take] at this
        rw [List.length_map] at hi
        omega
      refine ⟨_, rfl, .inl ⟨rfl, _, SqL.is elf22⟩, _, rfl, lf, _, _, rfl, rfl, elf22, ?_, (k9.trans k22).put hlf, ?_, ⟨R ++ [(p, ⟨nm, m, 1 + v2, 1 + v3, kn⟩)], ?_, ?_, ?_⟩, _, _, rfl⟩
      · unfold rfs
        rw [List.length_map, lR]
        exact Nat.lt_trans hi13 (by decide)
      · refine (d22.put (p := lf) nlf clf).more ?_
        rw [Int.natCast_succ]
        omega
      · rw [List.map_append, eR, List.take_add_one, hnm]
        rfl
      · rw [upd_same]
        unfold rfs
        rw [List.map_append]
        rfl
      · intro x hx
        rcases List.mem_append.mp hx with hx | hx
        · obtain ⟨h1, h2, h3⟩ := hR x hx
          exact ⟨(h1.keepD d9 k22 (d8.nd h3)).putL elf22 (List.ne_nil_of_mem hx), h2, h3⟩
        · obtain rfl := List.mem_singleton.mp hx
          refine ⟨⟨dl, [], (upd_ne nlfp).trans e22p, (upd_ne ndl).trans edl22, by decide⟩, ⟨hN nm (List.mem_of_getElem? hnm), hM m (List.mem_of_getElem? hmm), ?_, ?_, ?_, ?_, hks kn (List.mem_of_getElem? hkk)⟩, p8⟩
          · show 1 ≤ 1 + v2
            omega
          · show 1 + v2 ≤ 9
            omega
          · show 1 ≤ 1 + v3
            omega
          · show 1 + v3 ≤ 9
            omega
    · obtain ⟨k9, d9, ⟨R, eR, elf, hR⟩, z1, z2, rfl⟩ := pp
      rw [List.length_map] at d9 eR
      rw [List.take_length] at eR
      have lR : R.length = ns.length := by rw [← eR, List.length_map]
      exact ⟨_, rfl, k lf R _ ⟨elf, fun x hx => (hR x hx).1, fun x hx => (hR x hx).2.1, by rw [eR]; exact nn, by omega, by omega⟩ (fun x hx => k8.fresh d8 (hR x hx).2.2) n0lf (k8.trans k9) (d9.more (by omega))⟩
/-! ### a question of a row -/
theorem blank_not {c : Nat} (h : c ≠ 32) : (" " : Str).cps.contains c = false := by
  show (#[32] : Array Nat).contains c = false
  simp [h, h.symm]
theorem strip_no {z : Str} {c e : Nat} {r q : List Nat} (h1 : z.cps.toList = c :: r) (h2 : z.cps.toList.reverse = e :: q) (hc : c ≠ 32) (he : e ≠ 32) : Txt.stripChars z " " = z := by
  have lo : stripLo (" " : Str).cps.contains true z = 0 := by
    simp only [stripLo, if_true]
    rw [h1, List.takeWhile_cons_of_neg (by rw [blank_not hc]; exact Bool.false_ne_true)]
    rfl
  have hi : stripHi (" " : Str).cps.contains true z 0 = z.length := by
    simp only [stripHi, if_true, List.drop_zero]
    rw [h2, List.takeWhile_cons_of_neg (by rw [blank_not he]; exact Bool.false_ne_true)]
    rfl
  have hsame : stripSame (" " : Str).cps.contains true true z = true := by
    unfold stripSame
    rw [lo, hi]
    simp
  unfold Txt.stripChars Txt.stripBy
  rw [if_pos hsame]
theorem sign_letter {c : Nat} (h : 97 ≤ c ∧ c ≤ 122) : c ∈ v_SIGNS.cps.toList := by
  have g : ∀ i, i < 26 → 97 + i ∈ v_SIGNS.cps.toList := by decide +kernel
  have := g (c - 97) (by omega)
  rw [show 97 + (c - 97) = c by omega] at this
  exact this
theorem perhaps_cps (z : Str) : (("perhaps " : Str) ++ z).cps.toList = [112, 101, 114, 104, 97, 112, 115, 32] ++ z.cps.toList := by
  show (("perhaps " : Str).cps ++ z.cps).toList = _
  rw [Array.toList_append, show ("perhaps " : Str).cps.toList = [112, 101, 114, 104, 97, 112, 115, 32] by decide +kernel]
theorem perhaps_len {z : Str} (h : NameP z) : 9 ≤ (("perhaps " : Str) ++ z).length ∧ (("perhaps " : Str) ++ z).length ≤ 16 := by
  have e : (("perhaps " : Str) ++ z).length = 8 + z.length := by
    show (("perhaps " : Str) ++ z).cps.size = _
    rw [← Array.length_toList, perhaps_cps, List.length_append, Array.length_toList]
    rfl
  have := h.1
  have := h.2.1
  omega
theorem perhaps_text {z : Str} (h : NameP z) : TextP (("perhaps " : Str) ++ z) := by
  obtain ⟨l0, l1⟩ := perhaps_len h
  refine ⟨by omega, by omega, fun c hc => ?_, ?_⟩
  · rw [perhaps_cps] at hc
    rcases List.mem_append.mp hc with hc | hc
    · have g : ∀ c ∈ [112, 101, 114, 104, 97, 112, 115, 32], c ∈ v_SIGNS.cps.toList := by decide +kernel
      exact g c hc
    · exact sign_letter (h.2.2 c hc)
  · have hne : z.cps.toList.reverse ≠ [] := fun e => by
      have hz := h.1
      have : z.cps.toList.length = 0 := by rw [← List.length_reverse, e]; rfl
      rw [Array.length_toList] at this
      have h2 : z.length = z.cps.size := rfl
      omega
    obtain ⟨e, q, hq⟩ := List.exists_cons_of_ne_nil hne
    have he := h.2.2 e (List.mem_reverse.mp (by rw [hq]; exact List.mem_cons_self))
    exact strip_no (c := 112) (e := e) (perhaps_cps z) (by rw [perhaps_cps, List.reverse_append, hq]; rfl) (by decide) (by omega)
theorem answers_ok {z : Str} (h : NameP z) : (∀ y ∈ [("yes" : Str), "no", ("perhaps " : Str) ++ z], TextP y) ∧ [("yes" : Str), "no", ("perhaps " : Str) ++ z].Nodup := by
  obtain ⟨l0, l1⟩ := perhaps_len h
  refine ⟨fun y hy => ?_, ?_⟩
  · simp only [List.mem_cons, List.not_mem_nil, or_false] at hy
    rcases hy with rfl | rfl | rfl
    · exact ⟨by decide +kernel, by decide +kernel, by decide +kernel, by decide +kernel⟩
    · exact ⟨by decide +kernel, by decide +kernel, by decide +kernel, by decide +kernel⟩
    · exact perhaps_text h
  · have n1 : ("yes" : Str) ≠ ("perhaps " : Str) ++ z := fun e => by
      rw [← e, show ("yes" : Str).length = 3 by decide +kernel] at l0
      omega
    have n2 : ("no" : Str) ≠ ("perhaps " : Str) ++ z := fun e => by
      rw [← e, show ("no" : Str).length = 2 by decide +kernel] at l0
      omega
    have n0 : ("yes" : Str) ≠ "no" := by decide +kernel
    simp [n0, n1, n2]
def spLQ (K : PySem.W.Frag) : Sp := fun vs H Q _ => ∃ c p q o, vs = [.ref p] ∧ RowAt c H p q o ∧ RowOk q ∧ ∀ a H', QAt K H' a q → Same H H' → H a = none → Q (.ref a) H'
theorem cal_l_question (T : Top w K mg) : C8.Cal P w K mg base 5 "_law_question" (spLQ K) [] := by
  obtain ⟨fd, F⟩ := T.d_l_question
  refine cal0_of F T.g_l_question (ok_of F sc_l_question (fun vs H Q E h => ?_) fun cdv A outer s H vs Q E hr h => ?_) fun _ _ _ _ _ _ us hl => match us, hl with | [_], _ => rfl
  · obtain ⟨c, p, q, ou, rfl, _⟩ := h
    rfl
  · obtain ⟨c, p, q, ou, rfl, hp, hq, k⟩ := h
    have hu := hu_of hr
    obtain ⟨dl, ds, e1, e2, _⟩ := hp
    have g1 : DGet H p (kV (Sum.inr "name")) (some (.str q.name)) := by rw [← rv_name]; exact DGet.k (k := Sum.inr "name") e1
    refine ⟨_, (pss_cons (ps_set (i := 1) sc_l_question.nd rfl (Or.inl rfl) (pe_tupF (pa_cons pe_str (pa_cons pe_str (pa_cons (pe_op op_add_str pe_str (pe_dget hu (pv 0) pe_str (fun _ _ => rfl))) pa_nil)))))
      (pss_cons (ps_par (i := 2) (j := 3) rfl sc_l_question.nd rfl rfl (by decide) rfl rfl (pa_cons (pe_op op_mod (pe_dget hu (pv 0) pe_str (fun _ _ => rfl)) pe_int) (pa_cons (pe_dget hu (pv 0) pe_str (fun _ _ => rfl)) pa_nil)) (by rfl))
      (pss_one (ps_ret (pe_mkN (makN_Q_init_5_marks_kin T) hr (by decide) (by rfl) (pa_cons (pe_dget hu (pv 0) pe_str (fun _ _ => rfl)) (pa_cons (pe_dget hu (pv 0) pe_str (fun _ _ => rfl)) (pa_cons (pv 1) (pa_cons (pv 2) (pa_cons (pe_dget hu (pv 0) pe_str (fun _ _ => rfl)) pa_nil))))) (pk_cons (pe_dget hu (pv 0) pe_str (fun _ _ => rfl)) (pk_cons (pv 3) pk_nil))))))), ?_⟩
    refine ⟨_, rfl, p, _, rfl, g1, _, _, rfl, rfl, ?_, (by decide : 3 ≤ sizeLine), fun t o ht hc hd => ?_⟩
    · have := hq.name.2.1
      rw [show ("perhaps " : Str).length = 8 by decide +kernel]
      exact Nat.le_trans (show 8 + q.name.length ≤ 16 by omega) (by decide)
    have s1 := same_new ht (o := .frz o (.tup [.str "yes", .str "no", .str (("perhaps " : Str) ++ q.name)]))
    have hA : AnsAt (upd H t (.frz o (.tup [.str "yes", .str "no", .str (("perhaps " : Str) ++ q.name)]))) t [("yes" : Str), "no", ("perhaps " : Str) ++ q.name] := ⟨o, upd_same, hc, hd, by show 2 ≤ 3; decide, by show 3 ≤ 6; decide, (answers_ok hq.name).1, (answers_ok hq.name).2⟩
    generalize upd H t (.frz o (.tup [.str "yes", .str "no", .str (("perhaps " : Str) ++ q.name)])) = H1 at *
    have f1 := s1 _ _ e1
    have dg : ∀ {k : Str} {v : V}, valV (rowD q dl ou) (Sum.inr k) = some v → DGet H1 p (.str k) (some v) := fun {k v} e => by
      rw [← e]
      exact DGet.k (k := Sum.inr k) f1
    refine ⟨_, rfl, p, _, rfl, dg rv_toil, q.toil, 3, rfl, rfl, (by show (0 : Int) < 3; decide), _, rfl, p, _, rfl, dg rv_kin, _, _, rfl, ?_⟩
    refine ⟨_, rfl, p, _, rfl, dg rv_name, _, rfl, p, _, rfl, dg rv_matter, _, rfl, _, rfl, _, rfl, p, _, rfl, dg rv_toil, _, rfl, p, _, rfl, dg rv_marks, _, rfl, rfl, rfl, fun b db hb hdb hne => ?_⟩
    refine ⟨b, t, q, q.toil % 3, [("yes" : Str), "no", ("perhaps " : Str) ++ q.name], db, rfl, upd_same, hq.name, hq.matter, ?_, Int.emod_nonneg _ (by decide), ?_, hq.t0, hq.t1, hq.m0, hq.m1, hq.kin, fun H3 s3 => ⟨rfl, ?_⟩⟩
    · obtain ⟨o, ht1, r⟩ := hA
      exact ⟨o, by rw [upd_ne (ne_of_none ht1 hb), upd_ne (ne_of_none ht1 hdb)]; exact ht1, r⟩
    · exact Int.emod_lt_of_pos _ (by decide)
    · obtain ⟨gs, g2⟩ := make_same hb hdb s3
      exact k b H3 ⟨db, t, _, g2⟩ (s1.trans gs) (Same.none s1 hb)
end
end K73

set_option Elab.async false
set_option linter.all false
set_option maxRecDepth 100000
set_option maxHeartbeats 4000000
/-! ## the bank of the rows, a paper -/
namespace K73
open PySem PySem.Spec PyProof.Rows L2
theorem nod_inj {α β : Type} {f : α → β} : ∀ {l : List α} {x y : α}, (l.map f).Nodup → x ∈ l → y ∈ l → f x = f y → x = y
  | [], _, _, _, h, _, _ => by cases h
  | z :: r, x, y, hn, hx, hy, e => by
    have hc := List.nodup_cons.mp hn
    rcases List.mem_cons.mp hx with hx1 | hx1
    · rcases List.mem_cons.mp hy with hy1 | hy1
      · rw [hx1, hy1]
      · exact absurd (show f z ∈ r.map f from List.mem_map.mpr ⟨y, hy1, by rw [← e, hx1]⟩) hc.1
    · rcases List.mem_cons.mp hy with hy1 | hy1
      · exact absurd (show f z ∈ r.map f from List.mem_map.mpr ⟨x, hx1, by rw [e, hy1]⟩) hc.1
      · exact nod_inj hc.2 hx1 hy1 e
theorem two_other {α β : Type} {f : α → β} {l : List α} {x : α} (hn : (l.map f).Nodup) (h : 1 < l.length) : ∃ y ∈ l, f y ≠ f x := by
  match l, hn, h with
  | a :: b :: r, hn, _ =>
    by_cases e : f a = f x
    · refine ⟨b, List.mem_cons_of_mem _ List.mem_cons_self, fun g => ?_⟩
      have hc := (List.nodup_cons.mp hn).1
      exact hc (List.mem_map.mpr ⟨b, List.mem_cons_self, by rw [g, e]⟩)
    · exact ⟨a, List.mem_cons_self, e⟩
theorem same_put {H H' : Hp} {p : Addr} {o : HO} (s : Same H H') (h : H p = none) : Same H (upd H' p o) := fun a u e => by
  rw [upd_ne (ne_of_none e h)]
  exact s a u e
theorem qat_upd {K : PySem.W.Frag} {H : Hp} {D : Addr} {xs : List V} {u : HO} (h : H D = some (.lst xs)) {e : Addr} {q : Qd} (g : QAt K H e q) : QAt K (upd H D u) e q := by
  obtain ⟨dx, ans, right, g⟩ := g
  exact ⟨dx, ans, right, by
    rw [upd_ne (fun z => by
      rw [z, h] at g
      cases g)]
    exact g⟩
/-- the dicts that the law itself changes -/
def InS (d : Addr) (R : Qs) (a : Addr) : Prop := a = d ∨ ∃ x ∈ R, a = x.1
def KeepS (d : Addr) (R : Qs) (H H' : Hp) : Prop := ∀ a u, ¬ InS d R a → H a = some u → H' a = some u
theorem KeepS.refl {d : Addr} {R : Qs} (H : Hp) : KeepS d R H H := fun _ _ _ e => e
theorem KeepS.trans {d : Addr} {R : Qs} {H1 H2 H3 : Hp} (h : KeepS d R H1 H2) (g : KeepS d R H2 H3) : KeepS d R H1 H3 := fun a u n e => g a u n (h a u n e)
theorem KeepD.s {d : Addr} {R : Qs} {H H' : Hp} (k : KeepD d H H') : KeepS d R H H' := fun a u n e => k a u (fun z => n (.inl z)) e
theorem KeepS.of {d : Addr} {R : Qs} {H H' : Hp} (s : Same H H') : KeepS d R H H' := fun a u _ e => s a u e
structure Apart (B : Bk) (d : Addr) (R : Qs) : Prop where
  no : ∀ a, InS d R a → a ≠ B.k ∧ a ≠ B.o ∧ a ≠ B.d
theorem BankAt.keepS {K : PySem.W.Frag} {H H' : Hp} {b d : Addr} {B : Bk} {R : Qs} (h : BankAt K H b B) (ap : Apart B d R) (k : KeepS d R H H') (hS : ∀ a, InS d R a → ∃ kvs, H a = some (.dK kvs)) : BankAt K H' b B := by
  have nd : ∀ a u, H a = some u → (∀ kvs, u ≠ .dK kvs) → H' a = some u := fun a u e hu => k a u (fun z => by
    obtain ⟨kvs, g⟩ := hS a z
    rw [g] at e
    exact hu kvs (Option.some.inj e).symm) e
  refine ⟨nd _ _ h.ins (fun _ => nofun), k _ _ (fun z => (ap.no _ z).1 rfl) h.kept, ?_, ?_, fun x hx => ?_, h.few, h.nod, h.cfew, h.dfew, h.ko, h.kd, h.od⟩
  · obtain ⟨ok, e, r⟩ := h.outd
    exact ⟨ok, k _ _ (fun z => (ap.no _ z).2.1 rfl) e, r⟩
  · obtain ⟨dk, e, l, r⟩ := h.dayd
    refine ⟨dk, k _ _ (fun z => (ap.no _ z).2.2 rfl) e, l, fun x hx => ?_⟩
    obtain ⟨p, e1, e2⟩ := r x hx
    exact ⟨p, e1, nd _ _ e2 (fun _ => nofun)⟩
  · obtain ⟨dx, ans, right, e⟩ := h.qs x hx
    exact ⟨dx, ans, right, nd _ _ e (fun _ => nofun)⟩
section
variable {c : Nat} {H H' : Hp} {l : Addr} {R : Qs} {outs : Str → Bool}
theorem RowsAt.inS {d cl : Addr} {n : Int} (h : RowsAt c H l R outs) (hd : DrawAt H d cl n) : ∀ a, InS d R a → ∃ kvs, H a = some (.dK kvs) := fun a z => by
  rcases z with rfl | ⟨x, hx, rfl⟩
  · exact hd.at
  · obtain ⟨dl, ds, e, _⟩ := h.row x hx
    exact ⟨_, e⟩
theorem RowsAt.keepD {d cl : Addr} {n : Int} (h : RowsAt c H l R outs) (hd : DrawAt H d cl n) (k : KeepD d H H') (np : ∀ x ∈ R, x.1 ≠ d) : RowsAt c H' l R outs :=
  ⟨k _ _ (hd.nl h.lst) h.lst, fun x hx => (h.row x hx).keepD hd k (np x hx), h.ok, h.nod, h.few, h.pos⟩
theorem RowsAt.keepB {K : PySem.W.Frag} {b d : Addr} {B : Bk} (h : RowsAt c H l R outs) (hB : BankAt K H b B) (ap : Apart B d R) (kb : KeepB B H H') : RowsAt c H' l R outs := by
  refine ⟨hB.apart kb h.lst (fun _ => nofun), fun x hx => ?_, h.ok, h.nod, h.few, h.pos⟩
  obtain ⟨dl, ds, e1, e2, l⟩ := h.row x hx
  obtain ⟨n1, n2, n3⟩ := ap.no x.1 (.inr ⟨x, hx, rfl⟩)
  exact ⟨dl, ds, kb _ _ n1 n2 n3 e1, hB.apart kb e2 (fun _ => nofun), l⟩
theorem DrawAt.keepB {K : PySem.W.Frag} {b d cl : Addr} {n : Int} {B : Bk} (h : DrawAt H d cl n) (hB : BankAt K H b B) (ap : Apart B d R) (kb : KeepB B H H') : DrawAt H' d cl n := by
  obtain ⟨⟨a, l, e1, r⟩, ⟨cells, e2, r2⟩, r3⟩ := h
  obtain ⟨n1, n2, n3⟩ := ap.no d (.inl rfl)
  exact ⟨⟨a, l, kb _ _ n1 n2 n3 e1, r⟩, ⟨cells, hB.apart kb e2 (fun _ => nofun), r2⟩, r3⟩
theorem RowsAt.more {m : Nat} (h : RowsAt c H l R outs) (g : c ≤ m) : RowsAt m H l R outs :=
  ⟨h.lst, fun x hx => by
    obtain ⟨dl, ds, e1, e2, l⟩ := h.row x hx
    exact ⟨dl, ds, e1, e2, Nat.le_trans l g⟩, h.ok, h.nod, h.few, h.pos⟩
theorem row_one {p : Addr} {q q' : Qd} {o o' : Bool} {dl dl' : Addr} (e : H p = some (.dK (rowD q dl o))) (e' : H p = some (.dK (rowD q' dl' o'))) : q = q' := by
  rw [e] at e'
  injection e' with e'
  injection e' with e'
  unfold rowD at e'
  simp only [List.cons.injEq, Prod.mk.injEq, V.str.injEq, V.int.injEq, true_and, and_true] at e'
  obtain ⟨h1, h2, h3, h4, h5, _⟩ := e'
  cases q
  cases q'
  simp_all
/-- one row's dict, written anew -/
theorem RowsAt.put {x : Addr × Qd} {e : Addr} {ds : List Int} {m : Nat} {outs' : Str → Bool} (h : RowsAt c H l R outs) (hx : x ∈ R) (he : H e = some (.lst (List.map V.int ds))) (hl : ds.length ≤ m) (hm : c ≤ m) (ho : ∀ y ∈ R, y.2.name ≠ x.2.name → outs' y.2.name = outs y.2.name) :
    RowsAt m (upd H x.1 (.dK (rowD x.2 e (outs' x.2.name)))) l R outs' := by
  obtain ⟨dx, dsx, ex, _, _⟩ := h.row x hx
  have nx : ∀ {a : Addr} {ys : List V}, H a = some (.lst ys) → a ≠ x.1 := fun e1 z => by
    rw [z, ex] at e1
    cases e1
  refine ⟨?_, fun y hy => ?_, h.ok, h.nod, h.few, h.pos⟩
  · rw [upd_ne (nx h.lst)]
    exact h.lst
  · obtain ⟨dl, ds', e1, e2, l2⟩ := h.row y hy
    by_cases hn : y.2.name = x.2.name
    · obtain rfl := nod_inj h.nod hy hx hn
      exact ⟨e, ds, upd_same, by rw [upd_ne (nx he)]; exact he, hl⟩
    · refine ⟨dl, ds', ?_, by rw [upd_ne (nx e2)]; exact e2, Nat.le_trans l2 hm⟩
      rw [upd_ne (fun z => hn (by
        rw [z] at e1
        rw [row_one e1 ex])), ho y hy hn]
      exact e1
end
structure Bank9 (K : PySem.W.Frag) (H0 H : Hp) (b d cl l : Addr) (R L : Qs) (m : Int) (c : Nat) (B : Bk) : Prop where
  bank : BankAt K H b B
  rows : RowsAt c H l R B.outs
  draw : DrawAt H d cl m
  eL : B.L = L
  ec : B.c ≤ c
  ap : Apart B d R
  keep : KeepS d R H0 H
  one : ∃ x ∈ R, B.outs x.2.name = false
  nd : ∀ x ∈ R, x.1 ≠ d
  fr : H0 B.k = none ∧ H0 B.o = none ∧ H0 B.d = none
section
variable {K : PySem.W.Frag} {H0 H H' : Hp} {b d cl l : Addr} {R L : Qs} {m m' : Int} {c c' : Nat} {B : Bk}
theorem Bank9.step (h : Bank9 K H0 H b d cl l R L m c B) (k : KeepD d H H') (hd : DrawAt H' d cl m') : Bank9 K H0 H' b d cl l R L m' c B :=
  ⟨h.bank.keepS h.ap k.s (h.rows.inS h.draw), h.rows.keepD h.draw k h.nd, hd, h.eL, h.ec, h.ap, h.keep.trans k.s, h.one, h.nd, h.fr⟩
theorem Bank9.same (h : Bank9 K H0 H b d cl l R L m c B) (s : Same H H') : Bank9 K H0 H' b d cl l R L m c B := h.step (KeepD.of s) (h.draw.same s)
theorem Bank9.more (h : Bank9 K H0 H b d cl l R L m c B) (hm : m ≤ m') (hc : c ≤ c') : Bank9 K H0 H b d cl l R L m' c' B :=
  ⟨h.bank, h.rows.more hc, h.draw.more hm, h.eL, Nat.le_trans h.ec hc, h.ap, h.keep, h.one, h.nd, h.fr⟩
theorem Bank9.keepB (h : Bank9 K H0 H b d cl l R L m c B) (kb : KeepB B H H') : KeepS d R H0 H' := fun a u n e => kb a u (ne_of_none' h.fr.1 e).symm (ne_of_none' h.fr.2.1 e).symm (ne_of_none' h.fr.2.2 e).symm (h.keep a u n e)
theorem Bank9.used (h : Bank9 K H0 H b d cl l R L m c B) {n : Str} {ds : List Int} (hB : BankAt K H' b (B.used n ds)) (kb : KeepB B H H') : Bank9 K H0 H' b d cl l R L m (c + 1) (B.used n ds) :=
  ⟨hB, (h.rows.keepB h.bank h.ap kb).more (Nat.le_succ _), h.draw.keepB h.bank h.ap kb, h.eL, Nat.succ_le_succ h.ec, ⟨h.ap.no⟩, h.keepB kb, h.one, h.nd, h.fr⟩
theorem Bank9.dict (h : Bank9 K H0 H b d cl l R L m c B) {x : Addr × Qd} (hx : x ∈ R) : x.1 ≠ d ∧ x.1 ≠ cl := ⟨h.nd x hx, fun z => by
  obtain ⟨dl, ds, e, _⟩ := h.rows.row x hx
  obtain ⟨xs, g⟩ := h.draw.cl
  rw [z, g] at e
  cases e⟩
theorem keepS_row {d : Addr} {R : Qs} {x : Addr × Qd} {o : HO} (hx : x ∈ R) : KeepS d R H (upd H x.1 o) := fun a u n e => by
  rw [upd_ne (fun z => n (.inr ⟨x, hx, z⟩))]
  exact e
theorem Bank9.row (h : Bank9 K H0 H b d cl l R L m c B) {x : Addr × Qd} (hx : x ∈ R) {e : Addr} {ds : List Int} (he : H e = some (.lst (List.map V.int ds))) (hl : ds.length ≤ c') (hc : c ≤ c') : Bank9 K H0 (upd H x.1 (.dK (rowD x.2 e (B.outs x.2.name)))) b d cl l R L m c' B :=
  ⟨h.bank.keepS h.ap (keepS_row hx) (h.rows.inS h.draw), h.rows.put hx he hl hc (fun _ _ _ => rfl), h.draw.put (h.dict hx).1 (h.dict hx).2, h.eL, Nat.le_trans h.ec hc, h.ap, h.keep.trans (keepS_row hx), h.one, h.nd, h.fr⟩
end
def spLB (K : PySem.W.Frag) : Sp := fun vs H Q _ => ∃ d cl l n R, vs = [.ref d, .ref l] ∧ DrawAt H d cl n ∧ n + 200 < 1000000 ∧ RowsAt 0 H l R (fun _ => false) ∧ (∀ x ∈ R, x.1 ≠ d) ∧
  ∀ b L B H', Bank9 K H H' b d cl l R L (n + 200) 60 B → L.map (·.2) = R.map (·.2) → Q (.ref b) H'
section
variable {P : Program} {w : World} {K : PySem.W.Frag} {mg : Str → Option Value} {base : Heap}
theorem cal_l_bank (T : Top w K mg) : C8.Cal P w K mg base 6 "_law_bank" (spLB K) [] := by
  obtain ⟨fd, F⟩ := T.d_l_bank
  refine cal0_of F T.g_l_bank (ok_of F sc_l_bank (fun vs H Q E h => ?_) fun cdv A outer s H vs Q E hr h => ?_) fun _ _ _ _ _ _ us hl => match us, hl with | [_, _], _ => rfl
  · obtain ⟨d, cl, l, n, R, rfl, _⟩ := h
    rfl
  · obtain ⟨d, cl, l, n, R, rfl, hd, hn, hR, hnd, k⟩ := h
    have hu := hu_of hr
    refine ⟨_, (pss_cons (ps_set (i := 3) sc_l_bank.nd rfl (Or.inl rfl) (C8.pe_mk (mak_B_init T) hr (by decide) (by rfl) (pa_cons (pe_lc (own := [("_law_row", 2)]) (g := gName 2) (tt := tYes) rfl sc_l_bank.nd (pi_list (pv 1)) (blkOk_by (N := N_l_bank) (sc := defScope s_l_bank) (by decide +kernel)) (fun _ _ _ _ _ => (pg_name (i := 2) sc_l_bank.nd rfl (Or.inl rfl))) (fun _ _ _ _ _ => pts_nil) (fun _ _ _ _ _ => (C8.pe_c (cal_l_question T) hr (by decide) (by rfl) (pa_cons (pv 2) pa_nil)))) pa_nil)))
      (pss_cons (ps_for PassesOwn.never rfl (pi_list (pv 1)) (pg_name (i := 2) sc_l_bank.nd rfl (Or.inl rfl)) (pss_cons (ps_for PassesOwn.never rfl (pi_range1 (by rfl) T.f_range (pa_cons (pe_ix ix_list (pe_lst (pa_cons pe_int (pa_cons pe_int (pa_cons pe_int (pa_cons pe_int pa_nil))))) (C8.pe_c (cal_l_take T) hr (by decide) (by rfl) (pa_cons (pv 0) (pa_cons pe_int pa_nil))) (fun _ _ => rfl)) pa_nil)) (pg_name (i := 4) sc_l_bank.nd rfl (Or.inl rfl)) (pss_cons (ps_set (i := 5) sc_l_bank.nd rfl (Or.inl rfl) (pe_ix ix_list (pe_lst (pa_cons (C8.pe_c (cal_l_take T) hr (by decide) (by rfl) (pa_cons (pv 0) (pa_cons pe_int pa_nil))) (pa_cons (C8.pe_c (cal_l_take T) hr (by decide) (by rfl) (pa_cons (pv 0) (pa_cons pe_int pa_nil))) pa_nil))) (pe_op op_fdiv (C8.pe_c (cal_l_take T) hr (by decide) (by rfl) (pa_cons (pv 0) (pa_cons pe_int pa_nil))) pe_int) (fun _ _ => rfl)))
      (pss_cons (ps_expr (C8.pe_mt (met_B_used_on T) hr (by decide) (pv 3) (pa_cons (pe_dget hu (pv 2) pe_str (fun _ _ => rfl)) (pa_cons (pv 5) pa_nil))))
      (pss_one (ps_dput hu (pv 2) pe_str (pe_op op_cat (pe_dget hu (pv 2) pe_str (fun _ _ => rfl)) (pe_lst (pa_cons (pv 5) pa_nil))) rfl)))))
      (pss_one (ps_if (PW.pt (pw_and (pt_cmpR op_eq (C8.pe_c (cal_l_take T) hr (by decide) (by rfl) (pa_cons (pv 0) (pa_cons pe_int pa_nil))) pe_int (nomark _)) (pw_and1 (pt_cmpR op_gt (pe_callB call_len_seq (by rfl) T.f_len b_len (pa_cons (pe_lc (own := [("_law_one", 6)]) (g := gName 6) rfl sc_l_bank.nd (pi_list (pv 1)) (blkOk_by (N := N_l_bank) (sc := defScope s_l_bank) (by decide +kernel)) (fun _ _ _ _ _ => (pg_name (i := 6) sc_l_bank.nd rfl (Or.inl rfl))) (fun _ _ _ _ _ => (pts_one (pt_not (pt_val (pe_dget hu (pv 6) pe_str (fun _ _ => rfl)))))) (fun _ _ _ _ _ => (pv 6))) pa_nil)) pe_int (nomark _))))) (pss_cons (ps_expr (C8.pe_mt (met_B_taken_out_p1 T) hr (by decide) (pv 3) (pa_cons (pe_dget hu (pv 2) pe_str (fun _ _ => rfl)) pa_nil)))
      (pss_one (ps_dput hu (pv 2) pe_str pe_bl rfl))) pss_nil))))
      (pss_one (ps_ret (pv 3))))), ?_⟩
    refine ⟨_, rfl, l, rfl, ⟨_, SqL.is hR.lst⟩, fun D hD => ?_⟩
    refine lc_it (walk_list (K := K) (a := l) (xs := rfs R)) (fun i H' => Same H H' ∧ ∃ L : Qs, H' D = some (.lst (rfs L)) ∧ L.map (·.2) = (R.take i).map (·.2) ∧ (∀ x ∈ L, QAt K H' x.1 x.2))
      ⟨same_new hD, [], upd_same, rfl, nofun⟩ (fun i H' _ pp => SqL.is (pp.1 _ _ hR.lst)) (fun i y0 H2 H3 hi pp y => ?_) fun H2 pp => ?_
    · obtain ⟨s2, L, hD2, eL, hL⟩ := pp
      obtain ⟨rfl, hx0⟩ := y
      obtain ⟨x, hx, rfl⟩ := refs_at hx0
      have hm := List.mem_of_getElem? hx
      refine ⟨rfl, _, rfl, 0, x.1, x.2, _, rfl, (hR.row x hm).same s2, hR.ok x hm, fun a H4 ha s4 han => ?_⟩
      have hlen : L.length ≤ i := by
        have := congrArg List.length eL
        rw [List.length_map, List.length_map, List.length_take] at this
        omega
      have h4 := s4 _ _ hD2
      refine ⟨_, h4, ?_, same_put (s2.trans s4) hD, L ++ [(a, x.2)], ?_, ?_, ?_⟩
      · unfold rfs
        rw [List.length_map]
        have := hR.few
        unfold rfs at hi
        rw [List.length_map] at hi
        exact Nat.lt_of_le_of_lt (show L.length ≤ 13 by omega) (by decide)
      · rw [upd_same]
        unfold rfs
        rw [List.map_append]
        rfl
      · rw [List.map_append, eL, List.take_add_one, hx, List.map_append]
        rfl
      · have qk : ∀ {e : Addr} {q : Qd}, QAt K H4 e q → QAt K (upd H4 D (.lst (rfs L ++ [.ref a]))) e q := qat_upd h4
        intro z hz
        rcases List.mem_append.mp hz with hz | hz
        · exact qk ((hL z hz).same s4)
        · obtain rfl := List.mem_singleton.mp hz
          exact qk ha
    · obtain ⟨s2, L, hD2, eL, hL⟩ := pp
      have lR : (rfs R).length = R.length := List.length_map _
      rw [lR, List.take_length] at eL
      have lL : L.length = R.length := by
        have := congrArg List.length eL
        rwa [List.length_map, List.length_map] at this
      have enm : L.map (fun x => x.2.name) = R.map fun x => x.2.name := by
        have := congrArg (List.map Qd.name) eL
        rw [List.map_map, List.map_map] at this
        exact this
      intro b db hb hdb hne
      have hR2 := hR.same s2
      have hd2 := hd.same s2
      have few := hR.few
      have pos := hR.pos
      have sb : Same H2 (upd (upd H2 db (.own b)) b (.ins (He.ga K "Bank") db [])) := same_put (same_new hdb) hb
      refine ⟨b, D, L, db, rfl, upd_same, sb _ _ hD2, ⟨SqL.is (sb _ _ hD2), fun x hx => (hL x hx).same sb, by omega⟩, by rw [enm]; exact hR.nod, by omega, fun B H5 hB eBL eBo eBc k1 k2 k3 fr => ⟨rfl, ?_⟩⟩
      have s5 : Same H2 H5 := fun a u e => fr a u (ne_of_none e hb) (sb a u e)
      have hs5 : Same H H5 := s2.trans s5
      have h0 : Bank9 K H H5 b d cl l R L n 20 B := by
        refine ⟨hB, ?_, hd2.same s5, eBL, eBc, ⟨fun a ha => ?_⟩, KeepS.of hs5, ?_, hnd, ⟨Same.none (s2.trans sb) k1, Same.none (s2.trans sb) k2, Same.none (s2.trans sb) k3⟩⟩
        · rw [eBo]
          exact (hR2.same s5).more (by decide)
        · obtain ⟨kvs, e⟩ := hR2.inS hd2 a ha
          exact ⟨(ne_of_none' k1 (sb _ _ e)).symm, (ne_of_none' k2 (sb _ _ e)).symm, (ne_of_none' k3 (sb _ _ e)).symm⟩
        · rw [eBo]
          exact ⟨R[0], List.getElem_mem pos, rfl⟩
      clear hB eBL eBo eBc k1 k2 k3 fr
      have hin : ∀ {x : Addr × Qd} (B : Bk), B.L = L → x ∈ R → x.2.name ∈ B.names := fun {x} B e hx => by
        unfold Bk.names
        rw [e, enm]
        exact List.mem_map.mpr ⟨x, hx, rfl⟩
      refine ⟨_, rfl, l, rfl, ⟨_, SqL.is h0.rows.lst⟩, ?_⟩
      refine for_it (walk_list (K := K) (a := l) (xs := rfs R)) (fun i σ H' => (∃ B, Bank9 K H H' b d cl l R L (n + 8 * (i : Int)) (20 + 3 * i) B) ∧ ∃ y2 y4 y5 y6, σ = [some (.ref d), some (.ref l), y2, some (.ref b), y4, y5, y6])
        ⟨⟨B, h0.more (by omega) (by omega)⟩, _, _, _, _, rfl⟩ (fun i σ H' _ p => ?_) (fun i x σ H6 H7 hi pp y => ?_) fun σ H6 pp => ?_
      · obtain ⟨⟨B, hB⟩, _⟩ := p
        exact SqL.is hB.rows.lst
      · obtain ⟨⟨B, h6⟩, y2, y4, y5, y6, rfl⟩ := pp
        obtain ⟨rfl, hx0⟩ := y
        obtain ⟨x, hxi, rfl⟩ := refs_at hx0
        have hx := List.mem_of_getElem? hxi
        have hi13 : i < 13 := by
          rw [lR] at hi
          omega
        refine ⟨(by decide : 4 ≤ sizeLine), fun q hq => ⟨_, rfl, d, cl, _, 4, rfl, h6.draw.same (same_new hq), by omega, by decide, by decide, fun v1 H8 a0 a1 k8 d8 => ?_⟩⟩
        have h8 := (h6.same (same_new hq (o := .lst [.int 0, .int 0, .int 1, .int 2]))).step k8 d8
        obtain ⟨j, hj, hj'⟩ := at_in (xs := [(0 : Int), 0, 1, 2].map V.int) a0 a1
        rw [List.getElem?_map] at hj'
        obtain ⟨j, hjm, rfl⟩ := Option.map_eq_some_iff.mp hj'
        have hjb : 0 ≤ j ∧ j ≤ 2 := by
          have := List.mem_of_getElem? hjm
          simp only [List.mem_cons, List.not_mem_nil, or_false] at this
          omega
        have eq8 := k8 _ _ (h6.draw.nd hq) upd_same
        refine ⟨q, _, v1, .int j, rfl, rfl, SqL.is eq8, hj, j, rfl, by omega, by omega, ?_⟩
        refine for_it (walk_range) (fun e σ H' => (∃ B, Bank9 K H H' b d cl l R L (n + 8 * (i : Int) + 1 + 3 * (e : Int)) (20 + 3 * i + e) B) ∧ ∃ y4 y5 y6, σ = [some (.ref d), some (.ref l), some (.ref x.1), some (.ref b), y4, y5, y6])
          ⟨⟨B, h8.more (by omega) (by omega)⟩, _, _, _, rfl⟩ (fun _ _ _ _ _ => trivial) (fun e z σ H9 H10 he pp y => ?_) fun σ H9 pp => ?_
        · obtain ⟨⟨B, h9⟩, y4, y5, y6, rfl⟩ := pp
          obtain ⟨rfl, rfl⟩ := y
          refine ⟨_, rfl, d, cl, _, 40, rfl, h9.draw, by omega, by decide, by decide, fun v2 H11 b0 b1 k11 d11 => ⟨_, rfl, d, cl, _, 10000, rfl, d11, by omega, by decide, by decide, fun v3 H12 c0 c1 k12 d12 => ⟨(by decide : 2 ≤ sizeLine), fun q2 hq2 => ⟨_, rfl, d, cl, _, 8, rfl, d12.same (same_new hq2), by omega, by decide, by decide, fun v4 H13 e0 e1 k13 d13 => ⟨v4, 7, rfl, rfl, ⟨by decide, by decide⟩, ?_⟩⟩⟩⟩⟩
          have h13 := (((h9.step k11 d11).step k12 d12).same (same_new hq2 (o := .lst [.int v2, .int v3]))).step k13 d13
          obtain ⟨day, hday, hday'⟩ := at_in (xs := [v2, v3].map V.int) (i := v4 / 7) (by omega) (by show v4 / 7 < 2; omega)
          rw [List.getElem?_map] at hday'
          obtain ⟨day, hdm, rfl⟩ := Option.map_eq_some_iff.mp hday'
          have hdb : 0 ≤ day ∧ day ≤ 9999 := by
            have := List.mem_of_getElem? hdm
            simp only [List.mem_cons, List.not_mem_nil, or_false] at this
            omega
          refine ⟨q2, _, v4 / 7, .int day, rfl, rfl, SqL.is (k13 _ _ (d12.nd hq2) upd_same), hday, ?_⟩
          obtain ⟨dl0, ds0, er0, _⟩ := h13.rows.row x hx
          refine ⟨_, rfl, b, B.dx, _, rfl, h13.bank.ins, lk_b_used_on B, _, rfl, x.1, .str x.2.name, rfl, by rw [← rv_name]; exact DGet.k (k := Sum.inr "name") er0, _, rfl, b, B, x.2.name, day, rfl, h13.bank, hin B h13.eL hx, hdb.1, hdb.2, ?_, fun ds H14 hB14 kb => ?_⟩
          · have := h9.ec
            omega
          have h14 := h13.used hB14 kb
          obtain ⟨dl, ds, er, el, hl⟩ := (h13.rows.keepB h13.bank h13.ap kb).row x hx
          refine ⟨_, rfl, x.1, .ref dl, rfl, by rw [← rv_days]; exact DGet.k (k := Sum.inr "days") er, _, rfl, (by decide : 1 ≤ sizeLine), fun q3 hq3 => ⟨dl, q3, _, _, rfl, rfl, same_new hq3 _ _ el, upd_same, ?_, fun q4 hq4 => ?_⟩⟩
          · rw [List.length_map]
            exact Nat.le_trans (Nat.add_le_add_right hl 1) (Nat.le_trans (show 20 + 3 * i + e + 1 ≤ 64 by omega) (by decide))
          have s16 := (same_new hq3 (o := .lst [.int day])).trans (same_new hq4 (o := .lst (ds.map V.int ++ [.int day])))
          refine ⟨_, rfl, x.1, _, rfl, DPut.k (k := Sum.inr "days") (s16 _ _ er) (by show 7 < sizeLine; decide), ?_⟩
          rw [rp_days]
          have h16 := (h14.same s16).row hx (e := q4) (ds := ds ++ [day]) (c' := 20 + 3 * i + (e + 1)) (by rw [upd_same, List.map_append]; rfl) (by rw [List.length_append]; exact Nat.succ_le_succ hl) (by omega)
          exact ⟨⟨_, h16.more (by omega) (Nat.le_refl _)⟩, _, _, _, rfl⟩
        · obtain ⟨⟨B, h9⟩, y4, y5, y6, rfl⟩ := pp
          refine ⟨_, rfl, d, cl, _, 7, rfl, h9.draw, by omega, by decide, by decide, fun v2 H11 b0 b1 k11 d11 => ⟨rfl, _, rfl, ?_⟩⟩
          have h11 := h9.step k11 d11
          have hno : Bank9 K H H11 b d cl l R L (n + 8 * ((i + 1 : Nat) : Int)) (20 + 3 * (i + 1)) B := h11.more (by omega) (by omega)
          rw [dec_int]
          by_cases hv : v2 = 0
          · rw [show (v2 == 0) = true from beq_iff_eq.mpr hv]
            refine iteT ?_
            refine ⟨_, rfl, l, rfl, ⟨_, SqL.is h11.rows.lst⟩, fun D2 hD2 => ?_⟩
            refine lc_ext (walk_list (K := K) (a := l) (xs := rfs R)) hD2 (fun i => rfs ((R.take i).filter fun y => !B.outs y.2.name)) rfl (fun H2 s2 => SqL.is (s2 _ _ h11.rows.lst)) (fun i hi => ?_) (fun j x H12 H13 hj sm y R0 kR Rn kRn => ?_) fun H12 sm eD => ?_
            · unfold rfs
              rw [List.length_map]
              exact Nat.lt_of_le_of_lt (len_filter few) (by decide)
            · obtain ⟨rfl, hx0⟩ := y
              obtain ⟨z, hz, rfl⟩ := refs_at hx0
              obtain ⟨dlz, dsz, ez, _⟩ := h11.rows.row z (List.mem_of_getElem? hz)
              refine ⟨rfl, _, rfl, z.1, .bl (B.outs z.2.name), rfl, by rw [← rv_out]; exact DGet.k (k := Sum.inr "out") (sm _ _ ez), ?_⟩
              refine ⟨_, rfl, ?_⟩
              cases e : B.outs z.2.name with
              | true => exact iteF (kRn _ (Same.refl _) (by rw [take_no hz (by rw [e]; rfl)]))
              | false =>
                refine iteT ⟨_, rfl, kR _ _ (Same.refl _) ?_⟩
                rw [take_yes hz (by rw [e]; rfl)]
                unfold rfs
                rw [List.map_append]
                rfl
            · rw [lR, List.take_length] at eD
              have h12 := hno.same sm
              refine ⟨D2, _, rfl, .inl (SqL.is eD), _, 1, rfl, rfl, _, rfl, ?_⟩
              by_cases hg : ((rfs (R.filter fun y => !B.outs y.2.name)).length : Int) > 1
              · rw [decide_eq_true hg]
                refine iteT ?_
                have h12' := h11.same sm
                obtain ⟨dl0, ds0, er0, _⟩ := h12'.rows.row x hx
                refine ⟨_, rfl, b, B.dx, _, rfl, h12'.bank.ins, lk_b_taken_out B, _, rfl, x.1, .str x.2.name, rfl, by rw [← rv_name]; exact DGet.k (k := Sum.inr "name") er0, b, B, x.2.name, rfl, h12'.bank, hin B h12'.eL hx, ?_, fun H14 hB14 kb => ?_⟩
                · have := h11.ec
                  omega
                have r14 := h12'.rows.keepB h12'.bank h12'.ap kb
                have d14 := h12'.draw.keepB h12'.bank h12'.ap kb
                obtain ⟨dl, ds, er, el, hl⟩ := r14.row x hx
                refine ⟨_, rfl, x.1, _, rfl, DPut.k (k := Sum.inr "out") er (by show 7 < sizeLine; decide), ?_⟩
                rw [rp_out]
                have ho : (B.less x.2.name).outs x.2.name = true := by
                  show (decide (x.2.name = x.2.name) || _) = true
                  simp
                have r15 := r14.put (outs' := (B.less x.2.name).outs) (m := 20 + 3 * (i + 1)) hx el (by omega) (by omega) (fun y _ hy => by
                  show (decide (y.2.name = x.2.name) || _) = _
                  simp [hy])
                rw [ho] at r15
                have ne1 := h12'.dict hx
                refine ⟨⟨B.less x.2.name, hB14.keepS ⟨h12'.ap.no⟩ (keepS_row hx) (r14.inS d14), r15, (d14.put ne1.1 ne1.2).more (by omega), h12'.eL, ?_, ⟨h12'.ap.no⟩, (h12'.keepB kb).trans (keepS_row hx), ?_, hnd, h12'.fr⟩, _, _, _, _, rfl⟩
                · show B.c + 1 ≤ _
                  have := h11.ec
                  omega
                · unfold rfs at hg
                  rw [List.length_map] at hg
                  have sub : (R.filter fun y => !B.outs y.2.name).Sublist R := List.filter_sublist
                  obtain ⟨y, hy, hne⟩ := two_other (f := fun y : Addr × Qd => y.2.name) (x := x) (hR.nod.sublist (sub.map _)) (by omega)
                  obtain ⟨hyR, hyo⟩ := List.mem_filter.mp hy
                  refine ⟨y, hyR, ?_⟩
                  show (decide (y.2.name = x.2.name) || B.outs y.2.name) = false
                  rw [decide_eq_false hne]
                  simpa using hyo
              · rw [decide_eq_false hg]
                exact iteF ⟨⟨B, h12⟩, _, _, _, _, rfl⟩
          · rw [show (v2 == 0) = false from beq_eq_false_iff_ne.mpr hv]
            exact iteF (iteF ⟨⟨B, hno⟩, _, _, _, _, rfl⟩)
      · obtain ⟨⟨B, h6⟩, y2, y4, y5, y6, rfl⟩ := pp
        rw [lR] at h6
        exact ⟨_, rfl, k b L B _ (h6.more (by omega) (by omega)) eL⟩
/-! ### lists of ints and of texts, compared -/
theorem shaped_list {ds : List PyData} (h : ∀ d ∈ ds, d.canLay0 = true ∧ d.depth = 0) : SeqAt.shaped (.list ds) = true := by
  have g : PyData.canLayAll0 ds = true ∧ PyData.depthAll ds = 0 := by
    induction ds with
    | nil => exact ⟨by simp [PyData.canLayAll0], by simp [PyData.depthAll]⟩
    | cons d r ih =>
      obtain ⟨g1, g2⟩ := ih fun x hx => h x (List.mem_cons_of_mem _ hx)
      obtain ⟨h1, h2⟩ := h d List.mem_cons_self
      exact ⟨by simp [PyData.canLayAll0, h1, g1], by simp [PyData.depthAll, h2, g2]⟩
  simp [SeqAt.shaped, PyData.canLay0, PyData.depth, g.1, g.2]
theorem shaped_strs {ns : List Str} (h : ∀ n ∈ ns, PyData.strOk n = true) : SeqAt.shaped (.list (ns.map PyData.str)) = true := shaped_list fun d hd => by
  obtain ⟨n, hn, rfl⟩ := List.mem_map.mp hd
  exact ⟨by simp [PyData.canLay0, h n hn], by simp [PyData.depth]⟩
theorem shaped_intsL {ns : List Int} : SeqAt.shaped (.list (ns.map PyData.int)) = true := shaped_list fun d hd => by
  obtain ⟨n, hn, rfl⟩ := List.mem_map.mp hd
  exact ⟨by simp [PyData.canLay0], by simp [PyData.depth]⟩
theorem dp_strs {H : Hp} : ∀ ns : List Str, DpAll K H (ns.map V.str) (ns.map PyData.str)
  | [] => .nil
  | n :: r => .cons (.str n) (dp_strs r)
theorem dp_ints {H : Hp} : ∀ ns : List Int, DpAll K H (ns.map V.int) (ns.map PyData.int)
  | [] => .nil
  | n :: r => .cons (.int n) (dp_ints r)
theorem shaped_nil : SeqAt.shaped (.list []) = true := shaped_list fun d hd => by cases hd
theorem eqv_nil {f : α → PyData} : ∀ ns : List α, PyData.eqv (.list (ns.map f)) (.list []) = ns.isEmpty
  | [] => by simp [PyData.eqv, PyData.eqvAll]
  | n :: r => by simp [PyData.eqv, PyData.eqvAll]
theorem eqv_self {ds : List PyData} (h : SeqAt.shaped (.list ds) = true) : PyData.eqv (.list ds) (.list ds) = true := SeqAt.eqv_refl _ (SeqAt.canLay_of_shaped h)
/-! ### a paper -/
theorem lt_of_le {a b : Str} (h : leS a b) (n : a ≠ b) : ltS a b := Classical.byContradiction fun g => n (leS_anti h (List.not_lt.mp g))
theorem pap_srt {ns : List Str} (h1 : 1 ≤ ns.length) (h2 : ns.length ≤ 40) (h3 : ∀ n ∈ ns, NameP n) (h4 : ns.Nodup) : PaperP (srtS ns) := by
  have e := (srt_perm ns).length_eq
  refine ⟨by omega, by omega, fun n hn => h3 n ((srt_perm ns).mem_iff.mp hn), ?_⟩
  exact ((srt_pw ns).and ((srt_perm ns).nodup_iff.mpr h4)).imp fun h => lt_of_le h.1 h.2
def insR (R : Qs) (outs : Str → Bool) : List Str := srtS ((R.filter fun y => !outs y.2.name).map fun y => y.2.name)
theorem mem_insR {R : Qs} {outs : Str → Bool} {m : Str} : m ∈ insR R outs ↔ ∃ x ∈ R, x.2.name = m ∧ outs m = false := by
  unfold insR
  rw [(srt_perm _).mem_iff, List.mem_map]
  constructor
  · rintro ⟨x, hx, rfl⟩
    obtain ⟨h1, h2⟩ := List.mem_filter.mp hx
    exact ⟨x, h1, rfl, by simpa using h2⟩
  · rintro ⟨x, hx, rfl, ho⟩
    exact ⟨x, List.mem_filter.mpr ⟨hx, by simp [ho]⟩, rfl⟩
def spLP (K : PySem.W.Frag) : Sp := fun vs H Q _ => ∃ d cl l n c R outs, vs = [.ref d, .ref l] ∧ DrawAt H d cl n ∧ n + 20 < 1000000 ∧ RowsAt c H l R outs ∧ (∃ x ∈ R, outs x.2.name = false) ∧ (∀ x ∈ R, x.1 ≠ d) ∧
  ∀ p ns H', PapAt H' p ns → (∀ m ∈ ns, m ∈ insR R outs) → KeepD d H H' → H p = none → DrawAt H' d cl (n + 20) → Q (.ref p) H'
theorem cal_l_paper (T : Top w K mg) : C8.Cal P w K mg base 2 "_law_paper" (spLP K) [] := by
  obtain ⟨fd, F⟩ := T.d_l_paper
  refine cal0_of F T.g_l_paper (ok_of F sc_l_paper (fun vs H Q E h => ?_) fun cdv A outer s H vs Q E hr h => ?_) fun _ _ _ _ _ _ us hl => match us, hl with | [_, _], _ => rfl
  · obtain ⟨d, cl, l, n, c, R, outs, rfl, _⟩ := h
    rfl
  · obtain ⟨d, cl, l, n, c, R, outs, rfl, hd, hn, hR, ho, hnd, k⟩ := h
    have hu := hu_of hr
    refine ⟨_, (pss_cons (ps_set (i := 2) sc_l_paper.nd rfl (Or.inl rfl) (pe_callB cr_sortedS (by rfl) T.f_sorted b_sorted (pa_cons (pe_lc (own := [("_law_row", 5)]) (g := gName 5) rfl sc_l_paper.nd (pi_list (pv 1)) (blkOk_by (N := N_l_paper) (sc := defScope s_l_paper) (by decide +kernel)) (fun _ _ _ _ _ => (pg_name (i := 5) sc_l_paper.nd rfl (Or.inl rfl))) (fun _ _ _ _ _ => (pts_one (pt_not (pt_val (pe_dget hu (pv 5) pe_str (fun _ _ => rfl)))))) (fun _ _ _ _ _ => (pe_dget hu (pv 5) pe_str (fun _ _ => rfl)))) pa_nil)))
      (pss_cons (ps_setLc (i := 3) (own := [("_law_name", 4)]) (g := gName 4) rfl sc_l_paper.nd rfl rfl (sw_true rfl rfl rfl (by decide +kernel)) (pi_list (pv 2)) (blkOk_by (N := N_l_paper) (sc := defScope s_l_paper) (by decide +kernel)) (fun _ _ _ _ _ => (pg_name (i := 4) sc_l_paper.nd rfl (Or.inl rfl))) (fun _ _ _ _ _ => (pts_one (pt_cmpR op_eq (C8.pe_c (cal_l_take T) hr (by decide) (by rfl) (pa_cons (pv 0) (pa_cons pe_int pa_nil))) pe_int (nomark _)))) (fun _ _ _ _ _ => (pv 4)))
      (pss_one (ps_ret (pe_callTy call_tuple_of (by rfl) T.f_tuple b_tuple (pa_cons (pe_ifExp (pt_cmpR (op_neD hr.units) (pv 3) (pe_lst pa_nil) (nomark _)) (pv 3) (pe_slice sl_list (pv 2) po_none (po_some pe_int))) pa_nil)))))), ?_⟩
    refine ⟨_, rfl, l, rfl, ⟨_, SqL.is hR.lst⟩, fun D hD => ?_⟩
    have few := hR.few
    have lR : (rfs R).length = R.length := List.length_map _
    refine lc_ext (walk_list (K := K) (a := l) (xs := rfs R)) hD (fun i => ((R.take i).filter fun y => !outs y.2.name).map fun y => V.str y.2.name) rfl (fun H2 s2 => SqL.is (s2 _ _ hR.lst)) (fun i hi => ?_) (fun j x H12 H13 hj sm y R0 kR Rn kRn => ?_) fun H1 s1 eD => ?_
    · rw [List.length_map]
      exact Nat.lt_of_le_of_lt (len_filter few) (by decide)
    · obtain ⟨rfl, hx0⟩ := y
      obtain ⟨z, hz, rfl⟩ := refs_at hx0
      obtain ⟨dlz, dsz, ez, _⟩ := hR.row z (List.mem_of_getElem? hz)
      refine ⟨rfl, _, rfl, z.1, .bl (outs z.2.name), rfl, by rw [← rv_out]; exact DGet.k (k := Sum.inr "out") (sm _ _ ez), _, rfl, ?_⟩
      cases e : outs z.2.name with
      | true => exact iteF (kRn _ (Same.refl _) (by rw [take_no hz (by rw [e]; rfl)]))
      | false =>
        refine iteT ⟨_, rfl, z.1, .str z.2.name, rfl, by rw [← rv_name]; exact DGet.k (k := Sum.inr "name") (sm _ _ ez), kR _ _ (Same.refl _) ?_⟩
        rw [take_yes hz (by rw [e]; rfl), List.map_append]
        rfl
    · rw [lR, List.take_length] at eD
      have sub : (R.filter fun y => !outs y.2.name).Sublist R := List.filter_sublist
      have hnn : ((R.filter fun y => !outs y.2.name).map fun y => y.2.name).Nodup := hR.nod.sublist (sub.map _)
      have hlen : ((R.filter fun y => !outs y.2.name).map fun y => y.2.name).length ≤ 13 := by
        rw [List.length_map]
        exact Nat.le_trans (List.length_filter_le _ _) few
      have eD' : H1 D = some (.lst (((R.filter fun y => !outs y.2.name).map fun y => y.2.name).map V.str)) := by
        rw [eD, List.map_map]
        rfl
      refine ⟨D, _, rfl, SqL.is eD', Nat.lt_of_le_of_lt hlen (by decide), fun ys p hp hs hpn => ?_⟩
      rw [sorted_is hp hs]
      have hnm : ∀ m ∈ insR R outs, NameP m := fun m hm => by
        obtain ⟨x, hx, rfl, _⟩ := mem_insR.mp hm
        exact (hR.ok x hx).name
      have hpap : PaperP (insR R outs) := pap_srt (by
        obtain ⟨x, hx, ho⟩ := ho
        exact List.length_pos_of_mem (List.mem_map.mpr ⟨x, List.mem_filter.mpr ⟨hx, by simp [ho]⟩, rfl⟩)) (by omega) (fun m hm => by
          obtain ⟨x, hx, rfl⟩ := List.mem_map.mp hm
          exact (hR.ok x (List.mem_filter.mp hx).1).name) hnn
      have hil : (insR R outs).length ≤ 13 := by
        have := (srt_perm ((R.filter fun y => !outs y.2.name).map fun y => y.2.name)).length_eq
        unfold insR
        omega
      show _
      have s2 := s1.trans (same_new hpn (o := .lst ((insR R outs).map V.str)))
      have ep : upd H1 p (.lst ((insR R outs).map V.str)) p = some (.lst ((insR R outs).map V.str)) := upd_same
      have d2 := hd.same s2
      refine ⟨_, rfl, p, rfl, ⟨_, SqL.is ep⟩, fun D2 hD2 => ?_⟩
      have np : p ≠ d := d2.nl ep
      have lI : ((insR R outs).map V.str).length = (insR R outs).length := List.length_map _
      refine lc_dr (c := n) (walk_list (K := K) (a := p) (xs := (insR R outs).map V.str)) hD2 (KeepD.refl _) d2 (fun i out _ => ∃ os, out = List.map V.str os ∧ os.Sublist ((insR R outs).take i)) ⟨[], rfl, List.Sublist.refl _⟩ (fun _ _ _ _ o => o) (fun i out H _ kk => SqL.is (kk _ _ np ep)) (by omega) (fun i x H4 H5 out hi k4 d4 e4 o4 y R0 kR Rn kRn => ?_) fun H4 out k4 d4 e4 o4 => ?_
      · obtain ⟨rfl, hx0⟩ := y
        obtain ⟨m, hm, rfl⟩ := str_at hx0
        obtain ⟨os, rfl, hos⟩ := o4
        refine ⟨rfl, _, rfl, d, cl, _, 2, rfl, d4, by omega, by decide, by decide, fun v H6 v0 v1 k6 d6 => ⟨rfl, _, rfl, ?_⟩⟩
        rw [dec_int]
        have e6 := k6 _ _ (d2.nd hD2) e4
        by_cases hv : v = 0
        · rw [show (v == 0) = true from beq_iff_eq.mpr hv]
          refine iteT ⟨_, rfl, kR _ _ (k4.trans k6) d6 e6 ⟨os ++ [m], ?_, ?_⟩⟩
          · rw [List.map_append]
            rfl
          · rw [List.take_add_one, hm]
            exact hos.append (List.Sublist.refl _)
        · rw [show (v == 0) = false from beq_eq_false_iff_ne.mpr hv]
          refine iteF (kRn _ (k4.trans k6) d6 e6 ⟨os, rfl, ?_⟩)
          rw [List.take_add_one]
          exact hos.trans (List.sublist_append_left _ _)
      · obtain ⟨os, rfl, hos⟩ := o4
        rw [lI, List.take_length] at hos
        rw [lI] at d4
        have e4p := k4 _ _ np ep
        refine ⟨_, rfl, (by decide : 0 ≤ sizeLine), fun q0 hq => ?_⟩
        have sq := same_new hq (o := .lst [])
        refine ⟨.list (os.map .str), .list [], .lst (SqL.is (sq _ _ e4)) (dp_strs os), .lst (SqL.is upd_same) .nil, shaped_strs (fun m hm => ok_name (hnm m (hos.subset hm)).2.2), shaped_nil, _, rfl, ?_⟩
        rw [eqv_nil]
        have d5 := d4.same sq
        have k5 : KeepD d H _ := ((KeepD.of s2).trans k4).trans (KeepD.of sq)
        refine iteQ (fun x H' => ∃ q ns, x = .ref q ∧ Same (upd H4 q0 (.lst [])) H' ∧ H' q = some (.lst (List.map V.str ns)) ∧ 1 ≤ ns.length ∧ ns.Sublist (insR R outs)) (fun hc R0 kR => ?_) (fun hc R0 kR => ?_) fun x H5 hx => ?_
        · refine ⟨_, rfl, kR _ _ ⟨D2, os, rfl, Same.refl _, sq _ _ e4, ?_, hos⟩⟩
          cases os with
          | nil => cases hc
          | cons a r => exact Nat.succ_le_succ (Nat.zero_le _)
        · refine ⟨_, rfl, 1, rfl, p, _, rfl, SqL.is (sq _ _ e4p), fun q4 hq4 => kR _ _ ⟨q4, (insR R outs).take 1, rfl, same_new hq4, ?_, ?_, List.take_sublist _ _⟩⟩
          · rw [upd_same, List.map_take, ← cutV_take _ 1]
            rfl
          · rw [List.length_take]
            have := hpap.one
            omega
        · obtain ⟨q5, ns, rfl, s5, e5, l5, sub5⟩ := hx
          refine ⟨q5, _, rfl, .inl ⟨SqL.is e5, fun r hr => ?_⟩⟩
          have k6 := (k5.trans (KeepD.of s5)).trans (KeepD.of (same_new hr (o := .tup (ns.map V.str))))
          have d6 := (d5.same s5).same (same_new hr (o := .tup (ns.map V.str)))
          exact k r ns _ ⟨upd_same, l5, by have := sub5.length_le; omega, fun m hm => hpap.name m (sub5.subset hm), hpap.ris.sublist sub5⟩ (fun m hm => sub5.subset hm) k6 (k5.fresh d5 (Same.none s5 hr)) (d6.more (by omega))
end
end K73

set_option Elab.async false
set_option linter.all false
set_option maxRecDepth 100000
set_option maxHeartbeats 4000000
/-! ## the draws -/
namespace K73
open PySem PySem.Spec PyProof.Rows L2
def Ds := List (Addr × Addr)
def dfs (D : List (Addr × Addr)) : List V := D.map fun x => V.ref x.1
structure DrawsAt (H : Hp) (D : List (Addr × Addr)) : Prop where
  draw : ∀ x ∈ D, DrawAt H x.1 x.2 700
  nod : (D.map (·.1)).Nodup
  few : D.length ≤ 8
def spDraws (K : PySem.W.Frag) : Sp := fun vs H Q _ => ∃ s cells, vs = [.ref s] ∧ SqL K H s (List.map V.int cells) ∧ cells.length ≤ 64 ∧ ∀ p D H', Same H H' → H' p = some (.lst (dfs D)) → DrawsAt H' D → Q (.ref p) H'
theorem dkD_is {cl : Addr} {a l : Int} : mergeK [] (dkD cl a l) = dkD cl a l := by kernel_rfl
section
variable {P : Program} {w : World} {K : PySem.W.Frag} {mg : Str → Option Value} {base : Heap}
theorem cal_l_draws (T : Top w K mg) : C8.Cal P w K mg base 1 "_law_draws" (spDraws K) [] := by
  obtain ⟨fd, F⟩ := T.d_l_draws
  refine cal0_of F T.g_l_draws (ok_of F sc_l_draws (fun vs H Q E h => ?_) fun cdv A outer s H vs Q E hr h => ?_) fun _ _ _ _ _ _ us hl => match us, hl with | [_], _ => rfl
  · obtain ⟨s, cells, rfl, _⟩ := h
    rfl
  · obtain ⟨s0, cells, rfl, hs, hl, k⟩ := h
    have hu := hu_of hr
    refine ⟨_, (pss_cons (ps_set (i := 1) sc_l_draws.nd rfl (Or.inl rfl) (pe_ifExp (pt_cmpR (op_neD hr.units) (pv 0) (pe_lst pa_nil) (nomark _)) (pe_callTy call_list_of (by rfl) T.f_list b_list (pa_cons (pv 0) pa_nil)) (pe_lst (pa_cons pe_int pa_nil))))
      (pss_cons (ps_set (i := 2) sc_l_draws.nd rfl (Or.inl rfl) (pe_lst pa_nil))
      (pss_cons (ps_for PassesOwn.never rfl (pi_enum (by rfl) T.f_enumerate (pa_cons (pe_slice sl_list (pv 1) po_none (po_some pe_int)) pa_nil)) (pg_tup rfl (pgs_cons (pg_name (i := 3) sc_l_draws.nd rfl (Or.inl rfl)) (pgs_cons (pg_name (i := 4) sc_l_draws.nd rfl (Or.inl rfl)) pgs_nil))) (pss_one (ps_expr (pe_bm PySem.F.plainAttrs_list PySem.F.slot_list_append PySem.F.type_list_append mt_append (pv 2) (pa_cons (pe_disp (pps_cons pe_str (pe_op op_cat (pe_slice sl_list (pv 1) (po_some (pv 3)) po_none) (pe_slice sl_list (pv 1) po_none (po_some (pv 3)))) (pps_cons pe_str (pe_op op_mul pe_int (pv 3)) (pps_cons pe_str (pe_ifExp (pt_cmpR op_ge (pv 4) (pe_op op_pow pe_int pe_int) (nomark _)) (pv 4) pe_int) pps_nil))) (by rfl) (by rfl) (fun z => by cases z) (by decide)) pa_nil)))))
      (pss_one (ps_ret (pv 2)))))), ?_⟩
    refine ⟨_, rfl, (by decide : 0 ≤ sizeLine), fun q0 hq => ?_⟩
    have sq := same_new hq (o := .lst [])
    refine ⟨.list (cells.map .int), .list [], .lst (Same.lseq sq hs) (dp_ints cells), .lst (SqL.is upd_same) .nil, shaped_intsL, shaped_nil, _, rfl, ?_⟩
    rw [eqv_nil]
    refine iteQ (fun x H' => ∃ q cs, x = .ref q ∧ Same (upd H q0 (.lst [])) H' ∧ H' q = some (.lst (List.map V.int cs)) ∧ 1 ≤ cs.length ∧ cs.length ≤ 64) (fun hc R0 kR => ?_) (fun hc R0 kR => ?_) fun x H1 hx => ?_
    · refine ⟨_, rfl, s0, _, rfl, .inl (Same.lseq sq hs), fun r hr => kR _ _ ⟨r, cells, rfl, same_new hr, upd_same, ?_, hl⟩⟩
      cases cells with
      | nil => cases hc
      | cons a r => exact Nat.succ_le_succ (Nat.zero_le _)
    · exact ⟨(by decide : 1 ≤ sizeLine), fun r hr => kR _ _ ⟨r, [0], rfl, same_new hr, upd_same, by decide, by decide⟩⟩
    · obtain ⟨q, cs, rfl, s1, e1, l0, l1⟩ := hx
      have s01 := sq.trans s1
      refine ⟨(by decide : 0 ≤ sizeLine), fun lf hlf => ?_⟩
      have slf := same_new hlf (o := .lst [])
      refine ⟨_, rfl, 8, rfl, q, _, rfl, SqL.is (slf _ _ e1), fun p8 hp8 => ?_⟩
      rw [show cutV (cs.map V.int) none (some 8) = (cs.take 8).map V.int from (cutV_take _ 8).trans (List.map_take ..).symm]
      have s8 := same_new hp8 (o := .lst ((cs.take 8).map V.int))
      have e8 : upd (upd H1 lf (.lst [])) p8 (.lst ((cs.take 8).map V.int)) p8 = some (.lst ((cs.take 8).map V.int)) := upd_same
      have elf := s8 _ _ (show upd H1 lf (.lst []) lf = some (.lst []) from upd_same)
      have eq := s8 _ _ (slf _ _ e1)
      have nq : q ≠ lf := ne_of_none e1 hlf
      have np8 : p8 ≠ lf := ne_of_none' hp8 upd_same
      have s08 := (s01.trans slf).trans s8
      have h0lf : H lf = none := Same.none s01 hlf
      generalize upd (upd H1 lf (.lst [])) p8 (.lst ((cs.take 8).map V.int)) = H2 at *
      refine ⟨p8, _, rfl, SqL.is e8, ?_⟩
      have l8 : ((cs.take 8).map V.int).length ≤ 8 := by
        rw [List.length_map, List.length_take]
        omega
      refine for_it (walk_enum (K := K) (a := p8) (xs := (cs.take 8).map V.int)) (fun i σ H' => KeepD lf H2 H' ∧ (∃ D : List (Addr × Addr), D.length = i ∧ H' lf = some (.lst (dfs D)) ∧ (D.map (·.1)).Nodup ∧ ∀ x ∈ D, DrawAt H' x.1 x.2 700 ∧ H2 x.1 = none ∧ x.2 ≠ lf) ∧
        ∃ y z, σ = [some (.ref s0), some (.ref q), some (.ref lf), y, z]) ⟨KeepD.refl _, ⟨[], rfl, elf, List.nodup_nil, nofun⟩, _, _, rfl⟩ (fun i σ H' _ p => SqL.is (p.1 _ _ np8 e8)) (fun i x σ H3 H4 hi pp y => ?_) fun σ H3 pp => ?_
      · obtain ⟨k3, ⟨D, hDl, eD, hDn, hD⟩, z1, z2, rfl⟩ := pp
        obtain ⟨T', x1, x2, rfl, hT, rfl, e1', e2'⟩ := y
        obtain rfl := Option.some.inj e1'
        have e2'' : ((cs.take 8).map V.int)[i]? = some x2 := e2'
        rw [List.getElem?_map] at e2''
        obtain ⟨c, hc, rfl⟩ := Option.map_eq_some_iff.mp e2''
        refine ⟨T', _, rfl, .inl (.inl upd_same), rfl, _, _, rfl, _, _, rfl, rfl, ?_⟩
        have sT := same_new hT (o := .tup [.int (i : Nat), .int c])
        have eD4 := sT _ _ eD
        have eq4 := sT _ _ (k3 _ _ nq eq)
        have hD4 : ∀ x ∈ D, DrawAt (upd H3 T' (.tup [.int (i : Nat), .int c])) x.1 x.2 700 := fun x hx => (hD x hx).1.same sT
        have k4 := k3.trans (KeepD.of sT)
        generalize upd H3 T' (.tup [.int (i : Nat), .int c]) = H4 at *
        refine ⟨_, rfl, .inl ⟨rfl, _, SqL.is eD4⟩, fun p hp => ?_⟩
        have sp := same_new hp (o := .dK [])
        refine ⟨_, rfl, _, rfl, (i : Nat), rfl, q, _, rfl, SqL.is (sp _ _ eq4), fun a1 h1 => ?_⟩
        have sa := same_new h1 (o := .lst (cutV (cs.map V.int) (some ((i : Nat) : Int)) none))
        refine ⟨_, rfl, _, rfl, (i : Nat), rfl, q, _, rfl, SqL.is (sa _ _ (sp _ _ eq4)), fun a2 h2 => ?_⟩
        have sb := same_new h2 (o := .lst (cutV (cs.map V.int) none (some ((i : Nat) : Int))))
        refine ⟨a1, a2, _, _, rfl, rfl, sb _ _ upd_same, upd_same, ?_, fun cl hcl => ?_⟩
        · rw [cutV_drop, cutV_take, List.length_drop, List.length_take, List.length_map]
          exact Nat.le_trans (show cs.length - i + min i cs.length ≤ 130 by omega) (by decide)
        · have hi8 : i < 8 := by omega
          have ecut : cutV (cs.map V.int) (some ((i : Nat) : Int)) none ++ cutV (cs.map V.int) none (some ((i : Nat) : Int)) = (cs.drop i ++ cs.take i).map V.int := by
            rw [cutV_drop, cutV_take, List.map_append, List.map_drop, List.map_take]
          have hlen : (cs.drop i ++ cs.take i).length = cs.length := by
            rw [List.length_append, List.length_drop, List.length_take]
            omega
          rw [ecut]
          have sc := same_new hcl (o := .lst ((cs.drop i ++ cs.take i).map V.int))
          have sall : Same (upd H4 p (.dK [])) _ := (sa.trans sb).trans sc
          have ecl := @upd_same (upd (upd (upd H4 p (.dK [])) a1 (.lst (cutV (cs.map V.int) (some ((i : Nat) : Int)) none))) a2 (.lst (cutV (cs.map V.int) none (some ((i : Nat) : Int))))) cl (.lst ((cs.drop i ++ cs.take i).map V.int))
          have ncl0 : upd H4 p (.dK []) cl = none := Same.none (sa.trans sb) hcl
          generalize upd (upd (upd (upd H4 p (.dK [])) a1 (.lst (cutV (cs.map V.int) (some ((i : Nat) : Int)) none))) a2 (.lst (cutV (cs.map V.int) none (some ((i : Nat) : Int))))) cl (.lst ((cs.drop i ++ cs.take i).map V.int)) = H9 at *
          have e9p := sall _ _ (show upd H4 p (.dK []) p = some (.dK []) from upd_same)
          have e9lf := sall _ _ (sp _ _ eD4)
          have nclp : cl ≠ p := ne_of_none' ncl0 upd_same
          have ncllf : cl ≠ lf := ne_of_none' ncl0 (sp _ _ eD4)
          have nplf : p ≠ lf := ne_of_none' hp eD4
          refine ⟨_, rfl, 97, (i : Nat), rfl, rfl, .inl ⟨by decide, by decide⟩, _, rfl, 10, 18, rfl, rfl, ⟨by decide, by decide, by decide⟩, _, _, rfl, rfl, _, rfl, ?_⟩
          refine iteQ (fun x H' => H' = H9 ∧ ∃ v, x = .int v ∧ 0 ≤ v) (fun hc R0 kR => ?_) (fun hc R0 kR => ?_) fun x H10 hx => ?_
          · refine ⟨_, rfl, kR _ _ ⟨rfl, c, rfl, ?_⟩⟩
            have := of_decide_eq_true hc
            have h18 : (0 : Int) ≤ 10 ^ (18 : Int).toNat := by decide
            omega
          · exact kR _ _ ⟨rfl, 0, rfl, by decide⟩
          · obtain ⟨rfl, v, rfl, hv⟩ := hx
            refine ⟨e9p, dkD cl (97 * (i : Nat)) v, rfl, by show 3 ≤ 15; decide, ?_⟩
            rw [dkD_is]
            refine ⟨lf, _, _, rfl, rfl, (upd_ne nplf.symm).trans e9lf, ?_, ?_, ⟨D ++ [(p, cl)], ?_, ?_, ?_, ?_⟩, _, _, rfl⟩
            · unfold dfs
              rw [List.length_map]
              exact Nat.lt_of_le_of_lt (show D.length ≤ 8 by omega) (by decide)
            · intro a u na e
              have e4 := k4 a u na e
              rw [upd_ne na, upd_ne (ne_of_none e4 hp)]
              exact sall _ _ (sp _ _ e4)
            · rw [List.length_append, hDl]
              rfl
            · rw [upd_same]
              unfold dfs
              rw [List.map_append]
              rfl
            · rw [List.map_append, List.nodup_append]
              refine ⟨hDn, List.nodup_cons.mpr ⟨fun h => (nomatch h), List.nodup_nil⟩, fun a ha b hb => ?_⟩
              obtain ⟨x, hx, rfl⟩ := List.mem_map.mp ha
              obtain rfl := List.mem_singleton.mp hb
              obtain ⟨kvs, g⟩ := (hD4 x hx).at
              exact ne_of_none g hp
            · intro x hx
              rcases List.mem_append.mp hx with hx | hx
              · obtain ⟨_, h2x, h3x⟩ := hD x hx
                have g := (hD4 x hx)
                exact ⟨(((g.same sp).same sall).put (g.nd hp) (g.nc hp)).put (fun z => by rw [← z, elf] at h2x; cases h2x) (fun z => h3x z.symm), h2x, h3x⟩
              · obtain rfl := List.mem_singleton.mp hx
                refine ⟨⟨⟨97 * (i : Nat), v, (upd_ne nplf).trans upd_same, by omega, by omega, hv⟩, ⟨cs.drop i ++ cs.take i, ?_, ?_, by omega⟩, nclp⟩, ?_, ncllf⟩
                · rw [upd_ne ncllf, upd_ne nclp]
                  exact ecl
                · exact fun z => by
                    rw [z] at hlen
                    have : cs.length = 0 := hlen.symm
                    omega
                · cases g : H2 p with
                  | none => rfl
                  | some u =>
                    have := k4 p u nplf g
                    rw [hp] at this
                    cases this
      · obtain ⟨k3, ⟨D, hDl, eD, hDn, hD⟩, z1, z2, rfl⟩ := pp
        refine ⟨_, rfl, k lf D _ (fun a u e => k3 a u (ne_of_none e h0lf) (s08 a u e)) eD ⟨fun x hx => (hD x hx).1, hDn, by omega⟩⟩
end
end K73

set_option Elab.async false
set_option linter.all false
set_option maxRecDepth 100000
set_option maxHeartbeats 4000000
/-! ## the plain law of the sums -/
namespace K73
open PySem PySem.Spec PyProof.Rows L2
theorem sum_perm {l m : List Int} (p : l.Perm m) : l.sum = m.sum := by
  induction p with
  | nil => rfl
  | cons x _ ih => rw [List.sum_cons, List.sum_cons, ih]
  | swap x y l =>
    simp only [List.sum_cons]
    omega
  | trans _ _ ih1 ih2 => rw [ih1, ih2]
theorem sum_zero {α : Type} {f : α → Int} : ∀ {l : List α}, (∀ x ∈ l, f x = 0) → (l.map f).sum = 0
  | [], _ => rfl
  | x :: r, h => by
    rw [List.map_cons, List.sum_cons, h x List.mem_cons_self, sum_zero (fun y hy => h y (List.mem_cons_of_mem _ hy))]
    rfl
theorem sum_add {α : Type} {f g : α → Int} : ∀ {l : List α}, (l.map fun x => f x + g x).sum = (l.map f).sum + (l.map g).sum
  | [] => rfl
  | x :: r => by
    rw [List.map_cons, List.sum_cons, List.map_cons, List.sum_cons, List.map_cons, List.sum_cons, sum_add (l := r)]
    omega
/-- one of a list without twins -/
theorem sum_one {k : Str} {c : Int} : ∀ {K : List Str}, K.Nodup → k ∈ K → (K.map fun m => if m = k then c else 0).sum = c
  | [], _, h => by cases h
  | m :: r, hn, h => by
    have hc := List.nodup_cons.mp hn
    rw [List.map_cons, List.sum_cons]
    by_cases e : m = k
    · rw [if_pos e, sum_zero (fun x hx => by rw [if_neg (fun z => hc.1 (by rw [e, ← z]; exact hx))])]
      omega
    · rcases List.mem_cons.mp h with h | h
      · exact absurd h.symm e
      · rw [if_neg e, sum_one hc.2 h]
        omega
theorem sum_filter {α : Type} {f : α → Int} {p : α → Bool} : ∀ {l : List α}, (∀ x ∈ l, p x = false → f x = 0) → (l.map f).sum = ((l.filter p).map f).sum
  | [], _ => rfl
  | x :: r, h => by
    have ih := sum_filter (p := p) (l := r) fun y hy => h y (List.mem_cons_of_mem _ hy)
    rw [List.map_cons, List.sum_cons, List.filter_cons, ih]
    cases e : p x with
    | true => rfl
    | false =>
      rw [h x List.mem_cons_self e]
      exact Int.zero_add _
def Tn (c : Nat) : Int := (c : Int) * ((c : Int) - 1) / 2
theorem Tn_succ (c : Nat) : Tn (c + 1) = Tn c + (c : Int) := by
  unfold Tn
  have e : ((c + 1 : Nat) : Int) * (((c + 1 : Nat) : Int) - 1) = (c : Int) * ((c : Int) - 1) + (c : Int) * 2 := by
    have : ((c + 1 : Nat) : Int) = (c : Int) + 1 := by omega
    rw [this, show (c : Int) + 1 - 1 = c by omega, Int.add_mul, Int.mul_sub]
    omega
  rw [e, Int.add_mul_ediv_right _ _ (by decide)]
theorem Tn_zero : Tn 0 = 0 := by decide
/-- pairs of one kin, over given kins -/
def pairsK (K ks : List Str) : Int := (K.map fun k => Tn (ks.count k)).sum
theorem firsts_nodup : ∀ ks : List Str, (firsts ks).Nodup
  | [] => List.nodup_nil
  | k :: r => by
    unfold firsts
    split
    · exact firsts_nodup r
    · rename_i h
      rw [List.nodup_append]
      refine ⟨firsts_nodup r, List.nodup_cons.mpr ⟨fun h => (nomatch h), List.nodup_nil⟩, fun a ha b hb e => ?_⟩
      obtain rfl := List.mem_singleton.mp hb
      exact h (e ▸ ha)
theorem pairs_is {K ks : List Str} (hn : K.Nodup) (h : ∀ k ∈ ks, k ∈ K) : pairsV ks = pairsK K ks := by
  have e1 : pairsK K ks = ((K.filter fun k => decide (k ∈ ks)).map fun k => Tn (ks.count k)).sum := sum_filter fun k _ hk => by
    rw [List.count_eq_zero.mpr (of_decide_eq_false hk)]
    exact Tn_zero
  rw [e1]
  refine sum_perm (List.Perm.map _ ((List.perm_ext_iff_of_nodup (firsts_nodup ks) (hn.sublist List.filter_sublist)).mpr fun k => ?_))
  rw [mem_firsts, List.mem_filter]
  exact ⟨fun hk => ⟨h k hk, decide_eq_true hk⟩, fun hk => of_decide_eq_true hk.2⟩
theorem pairsK_rev {K ks : List Str} : pairsK K ks.reverse = pairsK K ks := by
  unfold pairsK
  simp only [List.count_reverse]
theorem pairsK_snoc {K ks : List Str} {k : Str} (hn : K.Nodup) (hk : k ∈ K) : pairsK K (ks ++ [k]) = pairsK K ks + (ks.count k : Int) := by
  unfold pairsK
  rw [show (K.map fun m => Tn ((ks ++ [k]).count m)) = K.map fun m => Tn (ks.count m) + if m = k then (ks.count k : Int) else 0 from List.map_congr_left fun m _ => ?_, sum_add, sum_one hn hk]
  rw [List.count_append]
  by_cases e : m = k
  · rw [if_pos e, e, show List.count k [k] = 1 by simp, Tn_succ]
  · rw [if_neg e, show List.count m [k] = 0 from List.count_eq_zero.mpr fun h => e (List.mem_singleton.mp h)]
    exact (Int.add_zero _).symm
theorem kin_is {K : List Str} {L : Qs} {what : Str} (hn : K.Nodup) (h : ∀ k ∈ kinsOf L what, k ∈ K) : kinV L what = pairsK K (kinsOf L what) := by
  unfold kinV
  rw [pairs_is hn (fun k hk => h k (List.mem_reverse.mp hk)), pairsK_rev]
theorem kins_count {L : Qs} {k : Str} (what : Str) : (kinsOf L what).count k = L.countP fun x => (x.2.kin == k) && (!decide (x.2.kin = ("" : Str)) && decide (what ∈ [("" : Str), x.2.kin])) := by
  unfold kinsOf
  rw [List.count, List.countP_map, List.countP_filter]
  rfl
theorem kins_snoc {L : Qs} {x : Addr × Qd} : kinsOf (L ++ [x]) ("" : Str) = kinsOf L ("" : Str) ++ if x.2.kin = ("" : Str) then [] else [x.2.kin] := by
  unfold kinsOf
  rw [List.filter_append, List.map_append]
  congr 1
  by_cases e : x.2.kin = ("" : Str)
  · rw [if_pos e]
    simp [e]
  · rw [if_neg e]
    simp [e]
theorem pair_step {L : Qs} {x : Addr × Qd} (hn : ∀ y ∈ L, y.2.name ≠ x.2.name) : (L.filter fun y => kinB x.2 y.2).length = if x.2.kin = ("" : Str) then 0 else (kinsOf L ("" : Str)).count x.2.kin := by
  rw [← List.countP_eq_length_filter]
  by_cases e : x.2.kin = ("" : Str)
  · rw [if_pos e, List.countP_eq_zero]
    intro y hy
    unfold kinB
    rw [decide_eq_false (fun z => hn y hy z.symm), e]
    simp
  · rw [if_neg e, kins_count]
    refine List.countP_congr fun y hy => ?_
    unfold kinB
    rw [decide_eq_false (fun z => hn y hy z.symm)]
    by_cases g : x.2.kin = y.2.kin
    · rw [← g]
      simp [e]
    · simp [g, e, Ne.symm g]
theorem pair_sum {L : Qs} {x : Addr × Qd} {K : List Str} (hK : K.Nodup) (hk : ∀ k ∈ kinsOf (L ++ [x]) ("" : Str), k ∈ K) (hn : ∀ y ∈ L, y.2.name ≠ x.2.name) : pairsK K (kinsOf (L ++ [x]) ("" : Str)) = pairsK K (kinsOf L ("" : Str)) + ((L.filter fun y => kinB x.2 y.2).length : Nat) := by
  rw [pair_step hn]
  rw [kins_snoc] at hk ⊢
  by_cases e : x.2.kin = ("" : Str)
  · rw [if_pos e, if_pos e, List.append_nil]
    exact (Int.add_zero _).symm
  · rw [if_neg e] at hk ⊢
    rw [if_neg e, pairsK_snoc hK (hk _ (List.mem_append_right _ List.mem_cons_self))]
theorem kins_sub {L L' : Qs} {what k : Str} (h : ∀ y ∈ L', y ∈ L) (hk : k ∈ kinsOf L' what) : k ∈ kinsOf L what := by
  obtain ⟨x, hx, rfl⟩ := List.mem_map.mp hk
  obtain ⟨h1, h2⟩ := List.mem_filter.mp hx
  exact List.mem_map.mpr ⟨x, List.mem_filter.mpr ⟨h x h1, h2⟩, rfl⟩
theorem kin_mem {L : Qs} {k : Str} (hk : k ∈ kinsOf L ("" : Str)) : k ≠ ("" : Str) ∧ ∃ x ∈ L, x.2.kin = k := by
  obtain ⟨x, hx, rfl⟩ := List.mem_map.mp hk
  obtain ⟨h1, h2⟩ := List.mem_filter.mp hx
  simp only [Bool.and_eq_true, Bool.not_eq_true', decide_eq_false_iff_not] at h2
  exact ⟨h2.1, x, h1, rfl⟩
def kinsR (R : Qs) : List Str := (R.filter fun y => !decide (y.2.kin = ("" : Str))).map fun y => y.2.kin
theorem mem_kinsR {R : Qs} {k : Str} : k ∈ kinsR R ↔ k ≠ ("" : Str) ∧ ∃ x ∈ R, x.2.kin = k := by
  unfold kinsR
  rw [List.mem_map]
  constructor
  · rintro ⟨x, hx, rfl⟩
    obtain ⟨h1, h2⟩ := List.mem_filter.mp hx
    exact ⟨by simpa using h2, x, h1, rfl⟩
  · rintro ⟨h0, x, hx, rfl⟩
    exact ⟨x, List.mem_filter.mpr ⟨hx, by simp [h0]⟩, rfl⟩
theorem ris_nodup {ns : List Str} (h : ns.Pairwise ltS) : ns.Nodup := h.imp fun {a b} g e => by
  rw [e] at g
  exact List.lt_irrefl _ g
theorem kin_one {L : Qs} {k : Str} (hk : k ≠ ("" : Str)) : kinV L k = Tn ((kinsOf L ("" : Str)).count k) := by
  have hm : ∀ j ∈ kinsOf L k, j ∈ [k] := fun j hj => by
    obtain ⟨x, hx, rfl⟩ := List.mem_map.mp hj
    have := (List.mem_filter.mp hx).2
    simp only [Bool.and_eq_true, decide_eq_true_eq, List.mem_cons, List.not_mem_nil, or_false] at this
    rcases this.2 with g | g
    · exact absurd g hk
    · exact List.mem_singleton.mpr g.symm
  rw [kin_is (K := [k]) (List.nodup_cons.mpr ⟨fun h => (nomatch h), List.nodup_nil⟩) hm]
  show Tn _ + 0 = _
  rw [Int.add_zero]
  congr 1
  have g : ∀ what, (kinsOf L what).count k = L.countP fun x => (x.2.kin == k) && (!decide (x.2.kin = ("" : Str)) && decide (what ∈ [("" : Str), x.2.kin])) := fun what => by
    unfold kinsOf
    rw [List.count, List.countP_map, List.countP_filter]
    rfl
  rw [g, g]
  refine List.countP_congr fun x _ => ?_
  by_cases e : x.2.kin = k
  · simp [e]
  · simp [e]
theorem kin_whole {K : List Str} {L : Qs} (hn : K.Nodup) (h0 : ∀ k ∈ K, k ≠ ("" : Str)) (h : ∀ k ∈ kinsOf L ("" : Str), k ∈ K) : (K.map fun k => kinV L k).sum = kinV L ("" : Str) := by
  rw [kin_is hn h]
  unfold pairsK
  rw [List.map_congr_left fun k hk => kin_one (h0 k hk)]
/-! ### of every matter -/
theorem part_sum {f : Addr × Qd → Int} {M : List Str} (hn : M.Nodup) : ∀ {L : Qs}, (∀ x ∈ L, x.2.matter ∈ M) → (M.map fun m => ((L.filter fun x => decide (m = x.2.matter)).map f).sum).sum = (L.map f).sum
  | [], _ => sum_zero fun _ _ => rfl
  | x :: r, h => by
    rw [List.map_cons, List.sum_cons, ← part_sum hn (L := r) fun y hy => h y (List.mem_cons_of_mem _ hy), ← sum_one (c := f x) hn (h x List.mem_cons_self), ← sum_add]
    congr 1
    refine List.map_congr_left fun m _ => ?_
    rw [List.filter_cons]
    by_cases e : m = x.2.matter
    · rw [if_pos e, decide_eq_true e]
      rfl
    · rw [if_neg e, decide_eq_false e]
      exact (Int.zero_add _).symm
end K73

set_option Elab.async false
set_option linter.all false
set_option maxRecDepth 100000
set_option maxHeartbeats 4000000
/-! ## the whole sums -/
namespace K73
open PySem PySem.Spec PyProof.Rows L2
structure Ctx9 (K : PySem.W.Frag) (H : Hp) (b p l : Addr) (B : Bk) (ns : List Str) (R : Qs) (c : Nat) : Prop where
  bank : BankAt K H b B
  pap : PapAt H p ns
  inn : ∀ n ∈ ns, n ∈ B.inN
  rows : RowsAt c H l R B.outs
  eq : B.L.map (·.2) = R.map (·.2)
theorem Ctx9.same {K : PySem.W.Frag} {H H' : Hp} {b p l : Addr} {B : Bk} {ns : List Str} {R : Qs} {c : Nat} (h : Ctx9 K H b p l B ns R c) (s : Same H H') : Ctx9 K H' b p l B ns R c :=
  ⟨h.bank.same s, h.pap.same s, h.inn, h.rows.same s, h.eq⟩
section
variable {K : PySem.W.Frag} {H : Hp} {b p l : Addr} {B : Bk} {ns : List Str} {R : Qs} {c : Nat}
theorem Ctx9.place (h : Ctx9 K H b p l B ns R c) {n : Str} (hn : n ∈ ns) : ∃ x ∈ B.L, x.2.name = n ∧ B.place n = some x := by
  obtain ⟨x, hx, rfl⟩ := mem_names (mem_inN.mp (h.inn n hn)).1
  exact ⟨x, hx, rfl, place_some h.bank hx⟩
theorem Ctx9.names (h : Ctx9 K H b p l B ns R c) : (B.qsOf ns).map (fun x => x.2.name) = ns := by
  have g : ∀ ms : List Str, (∀ n ∈ ms, n ∈ ns) → (ms.filterMap B.place).map (fun x => x.2.name) = ms := by
    intro ms
    induction ms with
    | nil => intro _; rfl
    | cons n r ih =>
      intro hm
      obtain ⟨x, hx, e, e2⟩ := h.place (hm n List.mem_cons_self)
      rw [List.filterMap_cons, e2]
      show x.2.name :: _ = _
      rw [ih (fun m hm' => hm m (List.mem_cons_of_mem _ hm')), e]
  exact g ns fun _ h => h
theorem Ctx9.len (h : Ctx9 K H b p l B ns R c) : (B.qsOf ns).length = ns.length := by
  have := congrArg List.length h.names
  rwa [List.length_map] at this
theorem Ctx9.row (h : Ctx9 K H b p l B ns R c) {x : Addr × Qd} (hx : x ∈ B.qsOf ns) : ∃ y ∈ R, y.2 = x.2 := by
  have : x.2 ∈ B.L.map (·.2) := List.mem_map.mpr ⟨x, mem_qsOf hx, rfl⟩
  rw [h.eq] at this
  exact List.mem_map.mp this
theorem Ctx9.qs (h : Ctx9 K H b p l B ns R c) {q : Addr} (e : H q = some (.lst (rfs (B.qsOf ns)))) : QsAt K H q (B.qsOf ns) := ⟨SqL.is e, fun x hx => h.bank.qs x (mem_qsOf hx), by
  have := h.len
  have := h.pap.2.most
  omega⟩
end
def mats (R : Qs) : List Str := R.map fun y => y.2.matter
def wd3 : List Str := ["many", "toil", "marks"]
theorem wd3_ok {w : Str} (h : w ∈ wd3) : w ∈ wordsL ∧ w ≠ ("with" : Str) ∧ w ≠ ("rest" : Str) := by
  unfold wd3 at h
  simp only [List.mem_cons, List.not_mem_nil, or_false] at h
  rcases h with rfl | rfl | rfl <;> decide +kernel
def spWR (K : PySem.W.Frag) : Sp := fun vs H Q _ => ∃ b p l B ns R c, vs = [.ref b, .ref p, .ref l] ∧ Ctx9 K H b p l B ns R c ∧ ∀ H', Same H H' → Q (.bl true) H'
section
variable {P : Program} {w : World} {K : PySem.W.Frag} {mg : Str → Option Value} {base : Heap}
theorem wish_what {word : Str} {what : Str} {m : Int} (h : word ∈ wordsL) (hm : MayP word what) (m0 : 0 ≤ m) (m1 : m ≤ 999) : WishP ⟨word, what, 0, m⟩ := ⟨h, hm, Int.le_refl 0, (by show (0 : Int) ≤ 999; decide), m0, m1, .inl m0⟩
theorem sumV_word {B : Bk} {ns : List Str} {x : Wd} {day : Int} (h : x.word ≠ ("rest" : Str)) : sumV B ns x day = sumW x.word x.what (B.qsOf ns) := if_neg h
theorem ofM_all (L : Qs) : ofM L ("" : Str) = L := List.filter_eq_self.mpr fun x _ => decide_eq_true List.mem_cons_self
theorem w_many (L : Qs) : sumW ("many" : Str) ("" : Str) L = (L.length : Nat) := by
  unfold sumW
  rw [if_pos rfl, ofM_all]
theorem w_toil (L : Qs) : sumW ("toil" : Str) ("" : Str) L = (L.map fun x => x.2.toil).sum := by
  unfold sumW
  rw [if_neg (by decide +kernel), if_pos rfl, ofM_all]
theorem w_marks (L : Qs) : sumW ("marks" : Str) ("" : Str) L = (L.map fun x => x.2.marks).sum := by
  unfold sumW
  rw [if_neg (by decide +kernel), if_neg (by decide +kernel), if_pos rfl, ofM_all]
theorem ofM_one {L : Qs} {m : Str} (h : m ≠ ("" : Str)) : ofM L m = L.filter fun x => decide (m = x.2.matter) := by
  unfold ofM
  refine List.filter_congr fun x _ => ?_
  simp [h]
theorem sum_ones {α : Type} : ∀ {l : List α}, (l.map fun _ => (1 : Int)).sum = (l.length : Nat)
  | [] => rfl
  | x :: r => by
    rw [List.map_cons, List.sum_cons, sum_ones (l := r), List.length_cons]
    omega
theorem w_parts {L : Qs} {M : List Str} {wo : Str} (hw : wo ∈ wd3) (hn : M.Nodup) (hL : ∀ x ∈ L, x.2.matter ∈ M) (h0 : ∀ m ∈ M, m ≠ ("" : Str)) : (M.map fun m => sumW wo m L).sum = sumW wo ("" : Str) L := by
  unfold wd3 at hw
  simp only [List.mem_cons, List.not_mem_nil, or_false] at hw
  rcases hw with rfl | rfl | rfl
  · rw [w_many, ← sum_ones, ← part_sum hn hL]
    refine congrArg List.sum (List.map_congr_left fun m hm => ?_)
    unfold sumW
    rw [if_pos rfl, ofM_one (h0 m hm), sum_ones]
  · rw [w_toil, ← part_sum hn hL]
    refine congrArg List.sum (List.map_congr_left fun m hm => ?_)
    unfold sumW
    rw [if_neg (by decide +kernel), if_pos rfl, ofM_one (h0 m hm)]
  · rw [w_marks, ← part_sum hn hL]
    refine congrArg List.sum (List.map_congr_left fun m hm => ?_)
    unfold sumW
    rw [if_neg (by decide +kernel), if_neg (by decide +kernel), if_pos rfl, ofM_one (h0 m hm)]
theorem w_with {L : Qs} {what : Str} : sumW ("with" : Str) what L = if what ∈ L.map (fun x => x.2.name) then 1 else 0 := by
  unfold sumW
  rw [if_neg (by decide +kernel), if_neg (by decide +kernel), if_neg (by decide +kernel), if_neg (by decide +kernel)]
theorem same_int {i : Int} : (!decide (V.int i = V.int i)) = false := by
  rw [decide_eq_true rfl]
  rfl
theorem flat_strs (ns : List Str) : (ns.map V.str).all flatV = true := by
  rw [List.all_map]
  exact List.all_eq_true.mpr fun _ _ => rfl
theorem w_kin {L : Qs} {what : Str} : sumW ("kin" : Str) what L = kinV L what := by
  unfold sumW
  rw [if_neg (by decide +kernel), if_neg (by decide +kernel), if_neg (by decide +kernel), if_pos rfl]
theorem eq_int {i : Int} : decide (V.int i = V.int i) = true := decide_eq_true rfl
def wsL (L : Qs) : List Int := wd3.map fun w => sumW w "" L
theorem cal_l_whole_right (T : Top w K mg) : C8.Cal P w K mg base 7 "_law_whole_right" (spWR K) [] := by
  obtain ⟨fd, F⟩ := T.d_l_whole_right
  refine cal0_of F T.g_l_whole_right (ok_of F sc_l_whole_right (fun vs H Q E h => ?_) fun cdv A outer s H vs Q E hr h => ?_) fun _ _ _ _ _ _ us hl => match us, hl with | [_, _, _], _ => rfl
  · obtain ⟨b, p, l, B, ns, R, c, rfl, _⟩ := h
    rfl
  · obtain ⟨b, p, l, B, ns, R, c, rfl, hC, k⟩ := h
    have hu := hu_of hr
    refine ⟨_, (pss_cons (ps_par (i := 4) (j := 5) rfl sc_l_whole_right.nd rfl rfl (by decide) rfl rfl (pa_cons (C8.pe_c (cal_questions_of T) hr (by decide) (by rfl) (pa_cons (pv 0) (pa_cons (pv 1) pa_nil))) (pa_cons (pe_callB (cr_sortX rfl) (by rfl) T.f_sorted b_sorted (pa_cons (pe_callTy (cr_setL rfl) (by rfl) T.f_set b_set (pa_cons (pe_lc (own := [("_law_row", 3)]) (g := gName 3) (tt := tYes) rfl sc_l_whole_right.nd (pi_list (pv 2)) (blkOk_by (N := N_l_whole_right) (sc := defScope s_l_whole_right) (by decide +kernel)) (fun _ _ _ _ _ => (pg_name (i := 3) sc_l_whole_right.nd rfl (Or.inl rfl))) (fun _ _ _ _ _ => pts_nil) (fun _ _ _ _ _ => (pe_dget hu (pv 3) pe_str (fun _ _ => rfl)))) pa_nil)) pa_nil)) pa_nil)) (by rfl))
      (pss_cons (ps_setLc (i := 7) (own := [("_law_word", 6)]) (g := gName 6) (tt := tYes) rfl sc_l_whole_right.nd rfl rfl (sw_true rfl rfl rfl (by decide +kernel)) (pi_tup (pe_tup (pa_cons pe_str (pa_cons pe_str (pa_cons pe_str pa_nil))))) (blkOk_by (N := N_l_whole_right) (sc := defScope s_l_whole_right) (by decide +kernel)) (fun _ _ _ _ _ => (pg_name (i := 6) sc_l_whole_right.nd rfl (Or.inl rfl))) (fun _ _ _ _ _ => pts_nil) (fun _ _ _ _ _ => (C8.pe_c (cal_sum_by_p3 T) hr (by decide) (by rfl) (pa_cons (pv 0) (pa_cons (pv 1) (pa_cons (C8.pe_mk (mak_W_init_p1 T) hr (by decide) (by rfl) (pa_cons (pv 6) pa_nil)) pa_nil))))))
      (pss_cons (ps_if (PW.pt (pw_or (pt_cmpR (op_neD hr.units) (pe_slice sl_list (pv 7) po_none (po_some pe_int)) (pe_lst (pa_cons (pe_callB call_len_seq (by rfl) T.f_len b_len (pa_cons (pv 1) pa_nil)) (pa_cons (C8.pe_c (cal_toil_sum_p1 T) hr (by decide) (by rfl) (pa_cons (pv 4) pa_nil)) pa_nil))) (nomark _)) (pw_or1 (pt_cmpR op_ne (pe_cN (calN_toil_sum_1_start T) hr (by decide) (by rfl) (pa_cons (pv 4) pa_nil) (pk_cons pe_int pk_nil)) (pe_op op_add (pe_ix ix_list (pv 7) pe_int (fun _ _ => rfl)) pe_int) (nomark _))))) (pss_one (ps_ret pe_bl)) pss_nil)
      (pss_cons (ps_for PassesOwn.never rfl (pi_zipM (by rfl) T.f_zip (pa_cons (pe_tup (pa_cons pe_str (pa_cons pe_str (pa_cons pe_str pa_nil)))) (pa_cons (pv 7) pa_nil))) (pg_tup rfl (pgs_cons (pg_name (i := 6) sc_l_whole_right.nd rfl (Or.inr rfl)) (pgs_cons (pg_name (i := 8) sc_l_whole_right.nd rfl (Or.inl rfl)) pgs_nil))) (pss_one (ps_if (pt_cmpR op_ne (pe_callB (cr_sum rfl) (by rfl) T.f_sum b_sum (pa_cons (pe_lc (own := [("_law_own_matter", 16)]) (g := gName 16) (tt := tYes) rfl sc_l_whole_right.nd (pi_list (pv 5)) (blkOk_by (N := N_l_whole_right) (sc := defScope s_l_whole_right) (by decide +kernel)) (fun _ _ _ _ _ => (pg_name (i := 16) sc_l_whole_right.nd rfl (Or.inl rfl))) (fun _ _ _ _ _ => pts_nil) (fun _ _ _ _ _ => (C8.pe_c (cal_sum_by_p3 T) hr (by decide) (by rfl) (pa_cons (pv 0) (pa_cons (pv 1) (pa_cons (pe_mkN (makN_W_init_1_what T) hr (by decide) (by rfl) (pa_cons (pv 6) pa_nil) (pk_cons (pv 16) pk_nil)) pa_nil)))))) pa_nil)) (pv 8) (nomark _)) (pss_one (ps_ret pe_bl)) pss_nil)))
      (pss_cons (ps_for PassesOwn.never rfl (pi_list (pv 2)) (pg_name (i := 3) sc_l_whole_right.nd rfl (Or.inl rfl)) (pss_one (ps_if (pt_cmpR op_ne (C8.pe_c (cal_sum_by_p3 T) hr (by decide) (by rfl) (pa_cons (pv 0) (pa_cons (pv 1) (pa_cons (pe_mkN (makN_W_init_1_what T) hr (by decide) (by rfl) (pa_cons pe_str pa_nil) (pk_cons (pe_dget hu (pv 3) pe_str (fun _ _ => rfl)) pk_nil)) pa_nil)))) (pe_callTy call_int1 (by rfl) T.f_int b_int (pa_cons (pe_cmpR op_in_seq (pe_dget hu (pv 3) pe_str (fun _ _ => rfl)) (pv 1) (by rfl)) pa_nil)) (nomark _)) (pss_one (ps_ret pe_bl)) pss_nil)))
      (pss_cons (ps_set (i := 9) sc_l_whole_right.nd rfl (Or.inl rfl) (pe_lst pa_nil))
      (pss_cons (ps_for PassesOwn.never rfl (pi_enum (by rfl) T.f_enumerate (pa_cons (pv 4) pa_nil)) (pg_tup rfl (pgs_cons (pg_name (i := 10) sc_l_whole_right.nd rfl (Or.inl rfl)) (pgs_cons (pg_name (i := 11) sc_l_whole_right.nd rfl (Or.inr rfl)) pgs_nil))) (pss_one (ps_set (i := 9) sc_l_whole_right.nd rfl (Or.inl rfl) (pe_op op_cat (pv 9) (pe_lc (own := [("_law_other", 15)]) (g := gName 15) rfl sc_l_whole_right.nd (pi_list (pe_slice sl_list (pv 4) po_none (po_some (pv 10)))) (blkOk_by (N := N_l_whole_right) (sc := defScope s_l_whole_right) (by decide +kernel)) (fun _ _ _ _ _ => (pg_name (i := 15) sc_l_whole_right.nd rfl (Or.inl rfl))) (fun _ _ _ _ _ => (pts_one (pt_val (C8.pe_mt (met_Q_is_kin T) hr (by decide) (pv 11) (pa_cons (pv 15) pa_nil))))) (fun _ _ _ _ _ => (pe_tup (pa_cons (pv 11) (pa_cons (pv 15) pa_nil)))))))))
      (pss_cons (ps_set (i := 12) sc_l_whole_right.nd rfl (Or.inl rfl) (pe_callB (cr_sortX rfl) (by rfl) T.f_sorted b_sorted (pa_cons (pe_callTy (cr_setL rfl) (by rfl) T.f_set b_set (pa_cons (pe_lc (own := [("_law_row", 3)]) (g := gName 3) rfl sc_l_whole_right.nd (pi_list (pv 2)) (blkOk_by (N := N_l_whole_right) (sc := defScope s_l_whole_right) (by decide +kernel)) (fun _ _ _ _ _ => (pg_name (i := 3) sc_l_whole_right.nd rfl (Or.inl rfl))) (fun _ _ _ _ _ => (pts_one (pt_cmpR op_ne (pe_dget hu (pv 3) pe_str (fun _ _ => rfl)) pe_str (nomark _)))) (fun _ _ _ _ _ => (pe_dget hu (pv 3) pe_str (fun _ _ => rfl)))) pa_nil)) pa_nil)))
      (pss_cons (ps_setLc (i := 13) (own := [("_law_own_kin", 14)]) (g := gName 14) (tt := tYes) rfl sc_l_whole_right.nd rfl rfl (sw_true rfl rfl rfl (by decide +kernel)) (pi_list (pv 12)) (blkOk_by (N := N_l_whole_right) (sc := defScope s_l_whole_right) (by decide +kernel)) (fun _ _ _ _ _ => (pg_name (i := 14) sc_l_whole_right.nd rfl (Or.inl rfl))) (fun _ _ _ _ _ => pts_nil) (fun _ _ _ _ _ => (C8.pe_c (cal_sum_by_p3 T) hr (by decide) (by rfl) (pa_cons (pv 0) (pa_cons (pv 1) (pa_cons (pe_mkN (makN_W_init_1_what T) hr (by decide) (by rfl) (pa_cons pe_str pa_nil) (pk_cons (pv 14) pk_nil)) pa_nil))))))
      (pss_one (ps_ret (pe_chain op_eq op_eq (C8.pe_c (cal_sum_by_p3 T) hr (by decide) (by rfl) (pa_cons (pv 0) (pa_cons (pv 1) (pa_cons (pe_mkN (makN_W_init_1_most T) hr (by decide) (by rfl) (pa_cons pe_str pa_nil) (pk_cons pe_int pk_nil)) pa_nil)))) (pe_callB call_len_seq (by rfl) T.f_len b_len (pa_cons (pv 9) pa_nil)) (pe_callB (cr_sum rfl) (by rfl) T.f_sum b_sum (pa_cons (pv 13) pa_nil)))))))))))))), ?_⟩
    have few := hC.rows.few
    have lR : (rfs R).length = R.length := List.length_map _
    refine ⟨_, rfl, _, rfl, b, B, p, ns, rfl, hC.bank, hC.pap, hC.inn, fun q H1 s1 _ eq1 => ?_⟩
    have hC1 := hC.same s1
    refine ⟨_, rfl, l, rfl, ⟨_, SqL.is hC1.rows.lst⟩, fun D hD => ?_⟩
    refine lc_ext (walk_list (K := K) (a := l) (xs := rfs R)) hD (fun i => (R.take i).map fun y => V.str y.2.matter) rfl (fun H2 s2 => SqL.is (s2 _ _ hC1.rows.lst)) (fun i hi => ?_) (fun j x H12 H13 hj sm y R0 kR Rn kRn => ?_) fun H2 s2 eD => ?_
    · rw [List.length_map, List.length_take]
      exact Nat.lt_of_le_of_lt (show min i R.length ≤ 13 by omega) (by decide)
    · obtain ⟨rfl, hx0⟩ := y
      obtain ⟨z, hz, rfl⟩ := refs_at hx0
      obtain ⟨dlz, dsz, ez, _⟩ := hC1.rows.row z (List.mem_of_getElem? hz)
      exact ⟨rfl, _, rfl, z.1, .str z.2.matter, rfl, by rw [← rv_matter]; exact DGet.k (k := Sum.inr "matter") (sm _ _ ez), kR _ _ (Same.refl _) (take_map hz)⟩
    rw [lR, List.take_length] at eD
    have eD' : H2 D = some (.lst ((mats R).map V.str)) := by
      unfold mats
      rw [eD, List.map_map]
      rfl
    have lm : (mats R).length = R.length := List.length_map _
    refine ⟨D, mats R, rfl, SqL.is eD', by omega, fun ps c1 hps hc1 => ?_⟩
    refine ⟨ps, _, c1, rfl, upd_same, by omega, fun pm ms hpm _ msn msm => ?_⟩
    have s02 := (s1.trans s2).trans ((same_new hps (o := SetTx w ps (fun j => decide (j ∈ mats R)) c1)).trans (same_new hpm (o := .lst (ms.map V.str))))
    have eq3 := (s2.trans ((same_new hps (o := SetTx w ps (fun j => decide (j ∈ mats R)) c1)).trans (same_new hpm (o := .lst (ms.map V.str))))) _ _ eq1
    have em3 := @upd_same (upd H2 ps (SetTx w ps (fun j => decide (j ∈ mats R)) c1)) pm (.lst (ms.map V.str))
    refine ⟨_, _, rfl, ?_⟩
    have hC3 := hC.same s02
    have mok : ∀ m ∈ ms, NameP m := fun m hm => by
      obtain ⟨y, hy, rfl⟩ := List.mem_map.mp (of_decide_eq_true ((msm m).mp hm))
      exact (hC.rows.ok y hy).matter
    have min' : ∀ x ∈ B.qsOf ns, x.2.matter ∈ ms := fun x hx => by
      obtain ⟨y, hy, e⟩ := hC.row hx
      exact (msm _).mpr (decide_eq_true (List.mem_map.mpr ⟨y, hy, by rw [e]⟩))
    have lms : ms.length ≤ 13 := by
      have := List.Nodup.length_le_of_subset (l₂ := mats R) msn fun m hm => of_decide_eq_true ((msm m).mp hm)
      omega
    refine ⟨(by decide : 3 ≤ sizeLine), fun t ht => ?_⟩
    have st := same_new ht (o := .tup (wd3.map V.str))
    refine ⟨t, rfl, ⟨_, SqT.is upd_same⟩, fun D2 hD2 => ?_⟩
    refine lc_ext (walk_tup (K := K) (a := t) (xs := wd3.map V.str)) hD2 (fun i => (wd3.take i).map fun w => V.int (sumW w "" (B.qsOf ns))) rfl (fun H2 s2 => SqT.is (s2 _ _ upd_same)) (fun i hi => ?_) (fun i x H12 H13 hi sm y R0 kR Rn kRn => ?_) fun H4 s4 eD2 => ?_
    · rw [List.length_map, List.length_take]
      exact Nat.lt_of_le_of_lt (show min i 3 ≤ 3 by omega) (by decide)
    · obtain ⟨rfl, hx0⟩ := y
      obtain ⟨wo, hwo, rfl⟩ := str_at hx0
      obtain ⟨o1, o2, o3⟩ := wd3_ok (List.mem_of_getElem? hwo)
      have hC5 := (hC3.same st).same sm
      refine ⟨rfl, _, rfl, _, rfl, _, rfl, fun a db ha hdb hne => ⟨a, ⟨wo, "", 0, 999⟩, db, rfl, upd_same, wish_what o1 (.inl ⟨rfl, o2⟩) (by decide) (by decide), fun H5 s5 => ⟨rfl, ?_⟩⟩⟩
      obtain ⟨g1, g2⟩ := make_same ha hdb s5
      have hC6 := hC5.same g1
      refine ⟨b, B, p, ns, a, _, 0, rfl, hC6.bank, hC6.pap, hC6.inn, ⟨db, g2⟩, wish_what o1 (.inl ⟨rfl, o2⟩) (by decide) (by decide), by decide, by decide, fun H6 s6 => kR _ _ (g1.trans s6) ?_⟩
      rw [sumV_word o3]
      exact take_map hwo
    have eW : H4 D2 = some (.lst ((wsL (B.qsOf ns)).map V.int)) := by
      rw [eD2]
      unfold wsL
      rw [List.map_map]
      rfl
    have hC4 := (hC3.same st).same s4
    have eq4 := s4 _ _ (st _ _ eq3)
    have em4 := s4 _ _ (st _ _ em3)
    have s04 := s02.trans (st.trans s4)
    clear eD2 eD' eD em3 eq3 eq1 hC3 hC1
    have hQ4 := hC4.qs eq4
    refine ⟨_, rfl, 2, rfl, D2, _, rfl, SqL.is eW, fun p2 hp2 => ?_⟩
    have s5 := same_new hp2 (o := .lst (cutV ((wsL (B.qsOf ns)).map V.int) none (some 2)))
    refine ⟨_, rfl, p, _, rfl, .inr (SqT.is (s5 _ _ hC4.pap.1)), _, rfl, q, B.qsOf ns, 0, rfl, s5 _ _ eq4, (hC4.same s5).qs (s5 _ _ eq4), fun H6 s6 => ⟨(by decide : 2 ≤ sizeLine), fun p3 hp3 => ?_⟩⟩
    have s7 := (s5.trans s6).trans (same_new hp3 (o := .lst [.int ((ns.map V.str).length : Nat), .int (0 + ((B.qsOf ns).map fun x => x.2.toil).sum)]))
    have e7 : upd H4 p2 (.lst (cutV ((wsL (B.qsOf ns)).map V.int) none (some 2))) p2 = some (.lst ([((B.qsOf ns).length : Int), ((B.qsOf ns).map fun x => x.2.toil).sum].map V.int)) := by
      rw [upd_same, show cutV ((wsL (B.qsOf ns)).map V.int) none (some 2) = _ from cutV_take _ 2]
      unfold wsL wd3
      simp only [List.map_cons, List.map_nil, List.take_succ_cons, List.take_zero, w_many, w_toil]
    have e8 := @upd_same H6 p3 (.lst [.int ((ns.map V.str).length : Nat), .int (0 + ((B.qsOf ns).map fun x => x.2.toil).sum)])
    have e8' : [V.int ((ns.map V.str).length : Nat), V.int (0 + ((B.qsOf ns).map fun x => x.2.toil).sum)] = ([((B.qsOf ns).length : Int), ((B.qsOf ns).map fun x => x.2.toil).sum].map V.int) := by
      rw [List.length_map, Int.zero_add, hC.len]
      rfl
    have e8 := e8.trans (congrArg (fun z => some (HO.lst z)) e8')
    refine ⟨.list ([((B.qsOf ns).length : Int), ((B.qsOf ns).map fun x => x.2.toil).sum].map PyData.int), .list ([((B.qsOf ns).length : Int), ((B.qsOf ns).map fun x => x.2.toil).sum].map PyData.int), .lst (SqL.is ((s6.trans (same_new hp3)) _ _ e7)) (dp_ints _), .lst (SqL.is e8) (dp_ints _), shaped_intsL, shaped_intsL, _, rfl, ?_⟩
    rw [eqv_self shaped_intsL]
    refine iteF ?_
    have hC7 := hC4.same s7
    have eW7 := s7 _ _ eW
    refine ⟨_, rfl, rfl, rfl, q, B.qsOf ns, 7, rfl, s7 _ _ eq4, hC7.qs (s7 _ _ eq4), fun H8 s8 => ?_⟩
    refine ⟨_, rfl, D2, _, 1, .int (sumW "toil" "" (B.qsOf ns)), rfl, rfl, SqL.is (s8 _ _ eW7), rfl, _, 7, rfl, rfl, rfl, _, rfl, ?_⟩
    rw [w_toil, Int.add_comm 7, show (!decide (V.int (((B.qsOf ns).map fun x => x.2.toil).sum + 7) = V.int (((B.qsOf ns).map fun x => x.2.toil).sum + 7))) = false by rw [decide_eq_true rfl]; rfl]
    refine iteF ?_
    have s48 := s7.trans s8
    have hC8 := hC4.same s48
    have eq8 := s48 _ _ eq4
    have em8 := s48 _ _ em4
    have eW8 := s48 _ _ eW
    have s08 := s04.trans s48
    clear e7 e8 e8' eW7 hC7 hQ4
    clear eq4 em4 eW hC4 s48
    refine ⟨(by decide : 3 ≤ sizeLine), fun t2 ht2 => ?_⟩
    have s9 := same_new ht2 (o := .tup (wd3.map V.str))
    have et2 := @upd_same H8 t2 (.tup (wd3.map V.str))
    refine ⟨_, rfl, t2, D2, wd3.map V.str, (wsL (B.qsOf ns)).map V.int, rfl, SqT.is et2, SqL.is (s9 _ _ eW8), ?_⟩
    refine for_it (walk_zipM (K := K) (a := t2) (b := D2) (xs := wd3.map V.str) (ys := (wsL (B.qsOf ns)).map V.int) rfl) (fun i σ H' => Same (upd H8 t2 (.tup (wd3.map V.str))) H' ∧ ∃ y6 y8, σ = [some (.ref b), some (.ref p), some (.ref l), none, some (.ref q), some (.ref pm), y6, some (.ref D2), y8, none, none, none, none, none, none, none, none])
      ⟨Same.refl _, _, _, rfl⟩ (fun i σ H' _ pp => ⟨SqT.is (pp.1 _ _ et2), SqL.is (pp.1 _ _ (s9 _ _ eW8))⟩) (fun i x σ H9 H10 hi pp y => ?_) fun σ H9 pp => ?_
    · obtain ⟨s10, y6, y8, rfl⟩ := pp
      obtain ⟨T', x1, x2, rfl, hT, rfl, e1, e2⟩ := y
      obtain ⟨wo, hwo, rfl⟩ := str_at e1
      have e2' : ((wsL (B.qsOf ns)).map V.int)[i]? = some x2 := e2
      unfold wsL at e2'
      rw [List.map_map, List.getElem?_map, hwo] at e2'
      have ev : x2 = .int (sumW wo "" (B.qsOf ns)) := (Option.some.inj e2').symm
      subst ev
      clear e2 e2'
      obtain ⟨o1, o2, o3⟩ := wd3_ok (List.mem_of_getElem? hwo)
      refine ⟨T', _, rfl, .inl (.inl upd_same), rfl, _, _, rfl, _, _, rfl, rfl, ?_⟩
      have sT := same_new hT (o := .tup [.str wo, .int (sumW wo "" (B.qsOf ns))])
      have s11 := (s9.trans s10).trans sT
      have hC11 := hC8.same s11
      have em11 := s11 _ _ em8
      refine ⟨_, rfl, pm, rfl, ⟨_, SqL.is em11⟩, fun D3 hD3 => ?_⟩
      refine lc_ext (walk_list (K := K) (a := pm) (xs := ms.map V.str)) hD3 (fun i => (ms.take i).map fun m => V.int (sumW wo m (B.qsOf ns))) rfl (fun H2 s2 => SqL.is (s2 _ _ em11)) (fun i hi => ?_) (fun i x H12 H13 hi sm y R0 kR Rn kRn => ?_) fun H12 s12 eD3 => ?_
      · rw [List.length_map, List.length_take]
        exact Nat.lt_of_le_of_lt (show min i ms.length ≤ 13 by omega) (by decide)
      · obtain ⟨rfl, hx0⟩ := y
        obtain ⟨m, hm, rfl⟩ := str_at hx0
        have hmN := mok m (List.mem_of_getElem? hm)
        have hC13 := hC11.same sm
        refine ⟨rfl, _, rfl, _, rfl, _, rfl, _, rfl, rfl, rfl, fun a db ha hdb hne => ⟨a, ⟨wo, m, 0, 999⟩, db, rfl, upd_same, wish_what o1 (.inr ⟨hmN, o3⟩) (by decide) (by decide), fun H5 s5 => ⟨rfl, ?_⟩⟩⟩
        obtain ⟨g1, g2⟩ := make_same ha hdb s5
        have hC6 := hC13.same g1
        refine ⟨b, B, p, ns, a, _, 0, rfl, hC6.bank, hC6.pap, hC6.inn, ⟨db, g2⟩, wish_what o1 (.inr ⟨hmN, o3⟩) (by decide) (by decide), by decide, by decide, fun H6 s6 => kR _ _ (g1.trans s6) ?_⟩
        rw [sumV_word o3]
        exact take_map hm
      · have eD3' : H12 D3 = some (.lst ((ms.map fun m => sumW wo m (B.qsOf ns)).map V.int)) := by
          rw [eD3, List.length_map, List.take_length, List.map_map]
          rfl
        refine ⟨D3, _, rfl, SqL.is eD3', _, rfl, rfl, _, rfl, ?_⟩
        rw [w_parts (List.mem_of_getElem? hwo) msn min' (fun m hm => name_ne (mok m hm)), show (!decide (V.int (sumW wo "" (B.qsOf ns)) = V.int (sumW wo "" (B.qsOf ns)))) = false by rw [decide_eq_true rfl]; rfl]
        exact iteF ⟨(s10.trans sT).trans s12, _, _, rfl⟩
    · obtain ⟨s10, y6, y8, rfl⟩ := pp
      have s11 := s9.trans s10
      have hC9 := hC8.same s11
      have eq9 := s11 _ _ eq8
      have s09 := s08.trans s11
      clear hC8 eq8 em8 eW8 s11 s10 s9
      refine ⟨_, rfl, l, rfl, ⟨_, SqL.is hC9.rows.lst⟩, ?_⟩
      refine for_it (walk_list (K := K) (a := l) (xs := rfs R)) (fun i σ H' => Same H9 H' ∧ ∃ y3, σ = [some (.ref b), some (.ref p), some (.ref l), y3, some (.ref q), some (.ref pm), y6, some (.ref D2), y8, none, none, none, none, none, none, none, none])
        ⟨Same.refl _, _, rfl⟩ (fun i σ H' _ pp => SqL.is (pp.1 _ _ hC9.rows.lst)) (fun i x σ H10 H11 hi pp y => ?_) fun σ H10 pp => ?_
      · obtain ⟨s10, y3, rfl⟩ := pp
        obtain ⟨rfl, hx0⟩ := y
        obtain ⟨x, hxi, rfl⟩ := refs_at hx0
        have hx := List.mem_of_getElem? hxi
        have hC10 := hC9.same s10
        obtain ⟨dl, ds, er, _⟩ := hC10.rows.row x hx
        have xN := (hC.rows.ok x hx).name
        have w1 : WishP ⟨"with", x.2.name, 0, 999⟩ := wish_what (by decide +kernel) (.inr ⟨xN, by decide +kernel⟩) (by decide) (by decide)
        refine ⟨_, rfl, _, rfl, _, rfl, x.1, .str x.2.name, rfl, by rw [← rv_name]; exact DGet.k (k := Sum.inr "name") er, rfl, rfl, fun a db ha hdb hne => ⟨a, ⟨"with", x.2.name, 0, 999⟩, db, rfl, upd_same, w1, fun H5 s5 => ⟨rfl, ?_⟩⟩⟩
        obtain ⟨g1, g2⟩ := make_same ha hdb s5
        have hC6 := hC10.same g1
        refine ⟨b, B, p, ns, a, _, 0, rfl, hC6.bank, hC6.pap, hC6.inn, ⟨db, g2⟩, w1, by decide, by decide, fun H6 s6 => ?_⟩
        have s16 := g1.trans s6
        refine ⟨_, rfl, x.1, .str x.2.name, rfl, by rw [← rv_name]; exact DGet.k (k := Sum.inr "name") (s16 _ _ er), _, rfl, p, _, rfl, .inr (SqT.is (hC10.same s16).pap.1), rfl, flat_strs ns, .inr ⟨_, rfl, rfl, _, rfl, ?_⟩⟩
        rw [sumV_word (show ("with" : Str) ≠ "rest" by decide +kernel), if_neg Bool.false_ne_true, inV_str, show sumW ("with" : Str) x.2.name (B.qsOf ns) = if decide (x.2.name ∈ ns) = true then 1 else 0 by rw [w_with, hC.names]; simp, same_int]
        exact iteF ⟨s10.trans s16, _, rfl⟩
      · obtain ⟨s10, y3, rfl⟩ := pp
        have hC10 := hC9.same s10
        have eq10 := s10 _ _ eq9
        have s010 := s09.trans s10
        clear hC9 eq9 s10 s09
        have hnd := ris_nodup hC.pap.2.ris
        have lS := hC.len
        have l40 := hC.pap.2.most
        refine ⟨(by decide : 0 ≤ sizeLine), fun pl0 hpl0 => ?_⟩
        have sp0 := same_new hpl0 (o := .lst [])
        have epl0 := @upd_same H10 pl0 (.lst [])
        refine ⟨_, rfl, q, _, rfl, SqL.is (sp0 _ _ eq10), ?_⟩
        refine for_it (walk_enum (K := K) (a := q) (xs := rfs (B.qsOf ns))) (fun i σ H' => Same H10 H' ∧ ∃ pl vs y10 y11, H' pl = some (.lst vs) ∧ (∀ K0 : List Str, K0.Nodup → (∀ k ∈ kinsOf (B.qsOf ns) ("" : Str), k ∈ K0) → (vs.length : Int) = pairsK K0 (kinsOf ((B.qsOf ns).take i) ("" : Str))) ∧ vs.length ≤ i * 40 ∧
          σ = [some (.ref b), some (.ref p), some (.ref l), y3, some (.ref q), some (.ref pm), y6, some (.ref D2), y8, some (.ref pl), y10, y11, none, none, none, none, none])
          ⟨sp0, pl0, [], _, _, epl0, fun K0 _ _ => (sum_zero fun k _ => Tn_zero).symm, Nat.le_refl _, rfl⟩ (fun i σ H' _ pp => SqL.is (pp.1 _ _ eq10)) (fun i x σ H11 H12 hi pp y => ?_) fun σ H11 pp => ?_
        · obtain ⟨s11, pl, vs, y10, y11, epl, hvs, lvs, rfl⟩ := pp
          obtain ⟨T', x1, x2, rfl, hT, rfl, e1, e2⟩ := y
          obtain rfl := Option.some.inj e1
          have e2' : (rfs (B.qsOf ns))[i]? = some x2 := e2
          obtain ⟨x, hx, rfl⟩ := refs_at e2'
          have hxm := List.mem_of_getElem? hx
          have hi' : i < (B.qsOf ns).length := (List.getElem?_eq_some_iff.mp hx).1
          refine ⟨T', _, rfl, .inl (.inl upd_same), rfl, _, _, rfl, _, _, rfl, rfl, ?_⟩
          have sT := same_new hT (o := .tup [.int (i : Nat), .ref x.1])
          have s12 := s11.trans sT
          have eq12 := s12 _ _ eq10
          have epl12 := sT _ _ epl
          refine ⟨_, rfl, _, rfl, _, rfl, (i : Nat), rfl, q, _, rfl, SqL.is eq12, fun a1 h1 => ?_⟩
          have sa := same_new h1 (o := .lst (cutV (rfs (B.qsOf ns)) none (some ((i : Nat) : Int))))
          have ea1 : upd (upd H11 T' (.tup [.int (i : Nat), .ref x.1])) a1 (.lst (cutV (rfs (B.qsOf ns)) none (some ((i : Nat) : Int)))) a1 = some (.lst (rfs ((B.qsOf ns).take i))) := by
            rw [upd_same, cutV_take]
            unfold rfs
            rw [List.map_take]
          refine ⟨a1, rfl, ⟨_, SqL.is ea1⟩, fun D4 hD4 => ?_⟩
          have s13 := s12.trans sa
          refine lc_it (walk_list (K := K) (a := a1) (xs := rfs ((B.qsOf ns).take i))) (fun j H' => Same (upd (upd H11 T' (.tup [.int (i : Nat), .ref x.1])) a1 (.lst (cutV (rfs (B.qsOf ns)) none (some ((i : Nat) : Int))))) H' ∧ ∃ us : List V, H' D4 = some (.lst us) ∧ us.length = ((((B.qsOf ns).take i).take j).filter fun y => kinB x.2 y.2).length)
            ⟨same_new hD4, [], upd_same, rfl⟩ (fun j H' _ pp => SqL.is (pp.1 _ _ ea1)) (fun j z H14 H15 hj pp y => ?_) fun H14 pp => ?_
          · obtain ⟨s14, us, eus, lus⟩ := pp
            obtain ⟨rfl, hz0⟩ := y
            obtain ⟨z, hz, rfl⟩ := refs_at hz0
            have hzm : z ∈ B.qsOf ns := List.mem_of_mem_take (List.mem_of_getElem? hz)
            have hC15 := hC10.same (s13.trans s14)
            have qx := hC15.bank.qs x (mem_qsOf hxm)
            have qz := hC15.bank.qs z (mem_qsOf hzm)
            have lus40 : us.length ≤ 40 := by
              rw [lus]
              refine Nat.le_trans (List.length_filter_le _ _) ?_
              rw [List.length_take, List.length_take]
              omega
            obtain ⟨dx, ans, rg, ex⟩ := id qx
            refine ⟨rfl, _, rfl, x.1, dx, _, rfl, ex, lk_is_kin _ _ _, _, rfl, x.1, z.1, x.2, z.2, rfl, qx, qz, _, rfl, ?_⟩
            cases ek : kinB x.2 z.2 with
            | true =>
              refine iteT ⟨_, rfl, _, rfl, (by decide : 2 ≤ sizeLine), fun T5 hT5 => ⟨us, same_new hT5 _ _ eus, Nat.lt_of_le_of_lt lus40 (by decide), ?_, us ++ [.ref T5], upd_same, ?_⟩⟩
              · exact same_put (s14.trans (same_new hT5)) hD4
              · rw [take_yes hz ek, List.length_append, List.length_append, lus]
                rfl
            | false => exact iteF ⟨s14, us, eus, by rw [take_no hz ek]; exact lus⟩
          · obtain ⟨s14, us, eus, lus⟩ := pp
            have lt : (rfs ((B.qsOf ns).take i)).length = ((B.qsOf ns).take i).length := List.length_map _
            rw [lt, List.take_length] at lus
            have lus40 : us.length ≤ 40 := by
              rw [lus]
              refine Nat.le_trans (List.length_filter_le _ _) ?_
              rw [List.length_take]
              omega
            have es : (B.qsOf ns).take (i + 1) = (B.qsOf ns).take i ++ [x] := by
              rw [List.take_add_one, hx]
              rfl
            refine ⟨pl, D4, vs, us, rfl, rfl, s14 _ _ (sa _ _ epl12), eus, ?_, fun p5 hp5 => ?_⟩
            · exact Nat.le_trans (show vs.length + us.length ≤ 1700 by omega) (by decide)
            · refine ⟨(s13.trans s14).trans (same_new hp5), p5, _, _, _, upd_same, fun K0 h1 h2 => ?_, ?_, rfl⟩
              · rw [List.length_append, es, pair_sum h1 (fun k hk => ?_) (fun y hy e => ?_), ← hvs K0 h1 h2, lus]
                · omega
                · refine h2 k (kins_sub (fun y hy => ?_) hk)
                  rw [← es] at hy
                  exact List.mem_of_mem_take hy
                · have hn2 : ((B.qsOf ns).map fun x => x.2.name).Nodup := by
                    rw [hC.names]
                    exact hnd
                  have := hn2.sublist ((List.take_sublist (i + 1) (B.qsOf ns)).map _)
                  rw [es, List.map_append, List.nodup_append] at this
                  exact this.2.2 _ (List.mem_map.mpr ⟨y, hy, rfl⟩) _ List.mem_cons_self e
              · rw [List.length_append]
                omega
        · obtain ⟨s11, pl, vs, y10, y11, epl, hvs, lvs, rfl⟩ := pp
          have lS2 : (rfs (B.qsOf ns)).length = (B.qsOf ns).length := List.length_map _
          rw [lS2, List.take_length] at hvs
          have hC11 := hC10.same s11
          have s011 := s010.trans s11
          refine ⟨_, rfl, l, rfl, ⟨_, SqL.is hC11.rows.lst⟩, fun D5 hD5 => ?_⟩
          refine lc_ext (walk_list (K := K) (a := l) (xs := rfs R)) hD5 (fun i => ((R.take i).filter fun y => !decide (y.2.kin = ("" : Str))).map fun y => V.str y.2.kin) rfl (fun H2 s2 => SqL.is (s2 _ _ hC11.rows.lst)) (fun i hi => ?_) (fun j x H12 H13 hj sm y R0 kR Rn kRn => ?_) fun H12 s12 eD5 => ?_
          · rw [List.length_map]
            exact Nat.lt_of_le_of_lt (len_filter few) (by decide)
          · obtain ⟨rfl, hx0⟩ := y
            obtain ⟨z, hz, rfl⟩ := refs_at hx0
            obtain ⟨dlz, dsz, ez, _⟩ := hC11.rows.row z (List.mem_of_getElem? hz)
            refine ⟨rfl, _, rfl, z.1, .str z.2.kin, rfl, by rw [← rv_kin]; exact DGet.k (k := Sum.inr "kin") (sm _ _ ez), rfl, _, rfl, ?_⟩
            rw [dne]
            by_cases e : z.2.kin = ("" : Str)
            · rw [decide_eq_true e]
              exact iteF (kRn _ (Same.refl _) (by rw [take_no hz (by rw [decide_eq_true e]; rfl)]))
            · rw [decide_eq_false e]
              refine iteT ⟨_, rfl, z.1, .str z.2.kin, rfl, by rw [← rv_kin]; exact DGet.k (k := Sum.inr "kin") (sm _ _ ez), kR _ _ (Same.refl _) ?_⟩
              rw [take_yes hz (by rw [decide_eq_false e]; rfl), List.map_append]
              rfl
          rw [lR, List.take_length] at eD5
          have eD5' : H12 D5 = some (.lst ((kinsR R).map V.str)) := by
            unfold kinsR
            rw [eD5, List.map_map]
            rfl
          have lk : (kinsR R).length ≤ 13 := by
            unfold kinsR
            rw [List.length_map]
            exact Nat.le_trans (List.length_filter_le _ _) few
          refine ⟨D5, kinsR R, rfl, SqL.is eD5', by omega, fun ps2 c2 hps2 hc2 => ?_⟩
          refine ⟨ps2, _, c2, rfl, upd_same, by omega, fun pk ks hpk _ ksn ksm => ?_⟩
          have s12b := (same_new hps2 (o := SetTx w ps2 (fun j => decide (j ∈ kinsR R)) c2)).trans (same_new hpk (o := .lst (ks.map V.str)))
          have ek3 := @upd_same (upd H12 ps2 (SetTx w ps2 (fun j => decide (j ∈ kinsR R)) c2)) pk (.lst (ks.map V.str))
          have epl3 := s12b _ _ (s12 _ _ epl)
          have hC13 := (hC11.same s12).same s12b
          have s013 := (s011.trans s12).trans s12b
          have kok : ∀ m ∈ ks, NameP m := fun m hm => by
            obtain ⟨h0, y, hy, rfl⟩ := mem_kinsR.mp (of_decide_eq_true ((ksm m).mp hm))
            rcases (hC.rows.ok y hy).kin with h | h
            · exact absurd h h0
            · exact h
          have kin' : ∀ k ∈ kinsOf (B.qsOf ns) ("" : Str), k ∈ ks := fun k hk => by
            obtain ⟨h0, x, hx, rfl⟩ := kin_mem hk
            obtain ⟨y, hy, e⟩ := hC.row hx
            exact (ksm _).mpr (decide_eq_true (mem_kinsR.mpr ⟨h0, y, hy, by rw [e]⟩))
          have lks : ks.length ≤ 13 := by
            have := List.Nodup.length_le_of_subset (l₂ := kinsR R) ksn fun m hm => of_decide_eq_true ((ksm m).mp hm)
            omega
          refine ⟨_, rfl, pk, rfl, ⟨_, SqL.is ek3⟩, fun D6 hD6 => ?_⟩
          refine lc_ext (walk_list (K := K) (a := pk) (xs := ks.map V.str)) hD6 (fun i => (ks.take i).map fun m => V.int (kinV (B.qsOf ns) m)) rfl (fun H2 s2 => SqL.is (s2 _ _ ek3)) (fun i hi => ?_) (fun i x H14 H15 hi sm y R0 kR Rn kRn => ?_) fun H14 s14 eD6 => ?_
          · rw [List.length_map, List.length_take]
            exact Nat.lt_of_le_of_lt (show min i ks.length ≤ 13 by omega) (by decide)
          · obtain ⟨rfl, hx0⟩ := y
            obtain ⟨m, hm, rfl⟩ := str_at hx0
            have hmN := kok m (List.mem_of_getElem? hm)
            have hC15 := hC13.same sm
            have w1 : WishP ⟨"kin", m, 0, 999⟩ := wish_what (by decide +kernel) (.inr ⟨hmN, by decide +kernel⟩) (by decide) (by decide)
            refine ⟨rfl, _, rfl, _, rfl, _, rfl, rfl, rfl, fun a db ha hdb hne => ⟨a, ⟨"kin", m, 0, 999⟩, db, rfl, upd_same, w1, fun H5 s5 => ⟨rfl, ?_⟩⟩⟩
            obtain ⟨g1, g2⟩ := make_same ha hdb s5
            have hC6 := hC15.same g1
            refine ⟨b, B, p, ns, a, _, 0, rfl, hC6.bank, hC6.pap, hC6.inn, ⟨db, g2⟩, w1, by decide, by decide, fun H6 s6 => kR _ _ (g1.trans s6) ?_⟩
            rw [sumV_word (show ("kin" : Str) ≠ "rest" by decide +kernel), w_kin]
            exact take_map hm
          have eD6' : H14 D6 = some (.lst ((ks.map fun m => kinV (B.qsOf ns) m).map V.int)) := by
            rw [eD6, List.length_map, List.take_length, List.map_map]
            rfl
          have hC14 := hC13.same s14
          have w2 : WishP ⟨"kin", "", 0, 0⟩ := wish_what (by decide +kernel) (.inl ⟨rfl, by decide +kernel⟩) (by decide) (by decide)
          refine ⟨_, rfl, _, rfl, rfl, rfl, fun a db ha hdb hne => ⟨a, ⟨"kin", "", 0, 0⟩, db, rfl, upd_same, w2, fun H5 s5 => ⟨rfl, ?_⟩⟩⟩
          obtain ⟨g1, g2⟩ := make_same ha hdb s5
          have hC6 := hC14.same g1
          refine ⟨b, B, p, ns, a, _, 0, rfl, hC6.bank, hC6.pap, hC6.inn, ⟨db, g2⟩, w2, by decide, by decide, fun H6 s6 => ?_⟩
          have s16 := g1.trans s6
          refine ⟨_, rfl, pl, _, rfl, .inl (SqL.is (s16 _ _ (s14 _ _ epl3))), rfl, _, rfl, ?_⟩
          rw [sumV_word (show ("kin" : Str) ≠ "rest" by decide +kernel), show sumW ("kin" : Str) ("" : Str) (B.qsOf ns) = (vs.length : Nat) by rw [w_kin, kin_is ksn kin', hvs ks ksn kin'], eq_int]
          refine iteT ⟨_, rfl, D6, _, rfl, SqL.is (s16 _ _ eD6'), rfl, ?_⟩
          rw [kin_whole ksn (fun m hm => name_ne (kok m hm)) kin', show kinV (B.qsOf ns) ("" : Str) = (vs.length : Nat) by rw [kin_is ksn kin', hvs ks ksn kin'], eq_int]
          exact k _ ((s013.trans s14).trans s16)
end
end K73

set_option Elab.async false
set_option linter.all false
set_option maxRecDepth 100000
set_option maxHeartbeats 4000000
/-! ## the days, the met wishes -/
namespace K73
open PySem PySem.Spec PyProof.Rows L2
structure Law9 (K : PySem.W.Frag) (H : Hp) (b p d cl l : Addr) (B : Bk) (ns : List Str) (R : Qs) (c : Nat) (m : Int) : Prop where
  ctx : Ctx9 K H b p l B ns R c
  draw : DrawAt H d cl m
  ap : Apart B d R
  nd : ∀ x ∈ R, x.1 ≠ d
theorem PapAt.keepD {H H' : Hp} {d cl p : Addr} {m : Int} {ns : List Str} (h : PapAt H p ns) (hd : DrawAt H d cl m) (k : KeepD d H H') : PapAt H' p ns := ⟨k _ _ (fun z => by
  obtain ⟨_, e⟩ := hd.at
  rw [← z, h.1] at e
  cases e) h.1, h.2⟩
theorem Ctx9.keepD {K : PySem.W.Frag} {H H' : Hp} {b p d cl l : Addr} {B : Bk} {ns : List Str} {R : Qs} {c : Nat} {m : Int} (h : Ctx9 K H b p l B ns R c) (hd : DrawAt H d cl m) (ap : Apart B d R) (nd : ∀ x ∈ R, x.1 ≠ d) (k : KeepD d H H') : Ctx9 K H' b p l B ns R c :=
  ⟨h.bank.keepS ap k.s (h.rows.inS hd), h.pap.keepD hd k, h.inn, h.rows.keepD hd k nd, h.eq⟩
theorem Law9.step {K : PySem.W.Frag} {H H' : Hp} {b p d cl l : Addr} {B : Bk} {ns : List Str} {R : Qs} {c : Nat} {m m' : Int} (h : Law9 K H b p d cl l B ns R c m) (k : KeepD d H H') (hd : DrawAt H' d cl m') : Law9 K H' b p d cl l B ns R c m' :=
  ⟨h.ctx.keepD h.draw h.ap h.nd k, hd, h.ap, h.nd⟩
theorem Law9.same {K : PySem.W.Frag} {H H' : Hp} {b p d cl l : Addr} {B : Bk} {ns : List Str} {R : Qs} {c : Nat} {m : Int} (h : Law9 K H b p d cl l B ns R c m) (s : Same H H') : Law9 K H' b p d cl l B ns R c m := h.step (KeepD.of s) (h.draw.same s)
def spDR (K : PySem.W.Frag) : Sp := fun vs H Q _ => ∃ b p d cl l B ns R c m, vs = [.ref d, .ref b, .ref p] ∧ Law9 K H b p d cl l B ns R c m ∧ m + 2 < 1000000 ∧ ∀ H', KeepD d H H' → DrawAt H' d cl (m + 2) → Q (.bl true) H'
theorem Ctx9.okQ {K : PySem.W.Frag} {H : Hp} {b p l : Addr} {B : Bk} {ns : List Str} {R : Qs} {c : Nat} (h : Ctx9 K H b p l B ns R c) {x : Addr × Qd} (hx : x ∈ B.L) : RowOk x.2 := by
  have : x.2 ∈ B.L.map (·.2) := List.mem_map.mpr ⟨x, hx, rfl⟩
  rw [h.eq] at this
  obtain ⟨y, hy, e⟩ := List.mem_map.mp this
  rw [← e]
  exact h.rows.ok y hy
theorem Ctx9.found {K : PySem.W.Frag} {H : Hp} {b p l : Addr} {B : Bk} {ns : List Str} {R : Qs} {c : Nat} (h : Ctx9 K H b p l B ns R c) {day rest : Int} {n : Str} (hn : n ∈ B.inN) : foundB B "" 1 9 "" (some day) rest n = !restsB (B.days n) day rest := by
  obtain ⟨x, hx, rfl⟩ := mem_names (mem_inN.mp hn).1
  have ok := h.okQ hx
  unfold foundB
  rw [ofN_some h.bank hx]
  show (fB x.2 "" 1 9 "" && !restsB _ _ _) = _
  have e : fB x.2 "" 1 9 "" = true := by
    unfold fB
    simp [ok.t0, ok.t1]
  rw [e, Bool.true_and]
theorem nm_ok {K : PySem.W.Frag} {H : Hp} {b p l : Addr} {B : Bk} {ns : List Str} {R : Qs} {c : Nat} (h : Ctx9 K H b p l B ns R c) {n : Str} (hn : n ∈ B.inN) : PyData.strOk n = true := by
  obtain ⟨x, hx, rfl⟩ := mem_names (mem_inN.mp hn).1
  exact ok_name (h.okQ hx).name.2.2
section
variable {P : Program} {w : World} {K : PySem.W.Frag} {mg : Str → Option Value} {base : Heap}
theorem cal_l_days_right (T : Top w K mg) : C8.Cal P w K mg base 7 "_law_days_right" (spDR K) [] := by
  obtain ⟨fd, F⟩ := T.d_l_days_right
  refine cal0_of F T.g_l_days_right (ok_of F sc_l_days_right (fun vs H Q E h => ?_) fun cdv A outer s H vs Q E hr h => ?_) fun _ _ _ _ _ _ us hl => match us, hl with | [_, _, _], _ => rfl
  · obtain ⟨b, p, d, cl, l, B, ns, R, c, m, rfl, _⟩ := h
    rfl
  · obtain ⟨b, p, d, cl, l, B, ns, R, c, m, rfl, hL, hm, k⟩ := h
    refine ⟨_, (pss_cons (ps_par (i := 3) (j := 4) rfl sc_l_days_right.nd rfl rfl (by decide) rfl rfl (pa_cons (C8.pe_c (cal_l_take T) hr (by decide) (by rfl) (pa_cons (pv 0) (pa_cons pe_int pa_nil))) (pa_cons (C8.pe_c (cal_l_take T) hr (by decide) (by rfl) (pa_cons (pv 0) (pa_cons pe_int pa_nil))) pa_nil)) (by rfl))
      (pss_cons (ps_set (i := 5) sc_l_days_right.nd rfl (Or.inr rfl) (C8.pe_c (cal_resting T) hr (by decide) (by rfl) (pa_cons (pv 1) (pa_cons (pv 3) (pa_cons (pv 4) pa_nil)))))
      (pss_cons (ps_set (i := 6) sc_l_days_right.nd rfl (Or.inl rfl) (pe_cN (calN_sum_by_3_day T) hr (by decide) (by rfl) (pa_cons (pv 1) (pa_cons (pv 2) (pa_cons (pe_mkN (makN_W_init_1_least_most T) hr (by decide) (by rfl) (pa_cons pe_str pa_nil) (pk_cons (pv 4) (pk_cons pe_int pk_nil))) pa_nil))) (pk_cons (pv 3) pk_nil)))
      (pss_cons (ps_if (pt_cmpR op_ne (pv 6) (pe_callB call_len_seq (by rfl) T.f_len b_len (pa_cons (pe_lc (own := [("_law_name", 8)]) (g := gName 8) rfl sc_l_days_right.nd (pi_tup (pv 2)) (blkOk_by (N := N_l_days_right) (sc := defScope s_l_days_right) (by decide +kernel)) (fun _ _ _ _ _ => (pg_name (i := 8) sc_l_days_right.nd rfl (Or.inl rfl))) (fun _ _ _ _ _ => (pts_one (pt_cmpR (op_in_seqK K) (pv 8) (pv 5) (by rfl)))) (fun _ _ _ _ _ => (pv 8))) pa_nil)) (nomark _)) (pss_one (ps_ret pe_bl)) pss_nil)
      (pss_cons (ps_set (i := 7) sc_l_days_right.nd rfl (Or.inl rfl) (pe_mtN0 (metN_B_found_0_day_rest T) hr (by decide) (pv 1) (pk_cons (pv 3) (pk_cons (pv 4) pk_nil))))
      (pss_one (ps_ret (pe_cmpR (op_eqD hr.units) (pe_lc (own := [("_law_name", 8)]) (g := gName 8) rfl sc_l_days_right.nd (pi_list (C8.pe_mt0 (met_B_names_in T) hr (by decide) (pv 1))) (blkOk_by (N := N_l_days_right) (sc := defScope s_l_days_right) (by decide +kernel)) (fun _ _ _ _ _ => (pg_name (i := 8) sc_l_days_right.nd rfl (Or.inl rfl))) (fun _ _ _ _ _ => (pts_one (pt_cmpR (op_notIn_seqK K) (pv 8) (pv 5) (by rfl)))) (fun _ _ _ _ _ => (pv 8))) (pv 7) (nomark _))))))))), ?_⟩
    refine ⟨_, rfl, d, cl, m, 50, rfl, hL.draw, by omega, by decide, by decide, fun day H1 a0 a1 k1 d1 => ⟨_, rfl, d, cl, _, 30, rfl, d1, by omega, by decide, by decide, fun rest H2 b0 b1 k2 d2 => ⟨_, _, rfl, ?_⟩⟩⟩
    have hL2 := (hL.step k1 d1).step k2 d2
    have k12 := k1.trans k2
    have hC2 := hL2.ctx
    refine ⟨_, rfl, _, rfl, _, rfl, b, B, day, rest, rfl, hC2.bank, a0, by omega, b0, by omega, fun q H3 s3 _ eq3 => ?_⟩
    have hC3 := hC2.same s3
    have w1 : WishP ⟨"rest", "", rest, 0⟩ := ⟨(by show ("rest" : Str) ∈ wordsL; decide +kernel), .inl ⟨rfl, (by show ("rest" : Str) ≠ "with"; decide +kernel)⟩, b0, by show rest ≤ 999; omega, Int.le_refl 0, (by show (0 : Int) ≤ 999; decide), .inr rfl⟩
    refine ⟨_, rfl, _, rfl, _, rfl, rfl, rfl, fun a db ha hdb hne => ⟨a, ⟨"rest", "", rest, 0⟩, db, rfl, upd_same, w1, fun H5 s5 => ⟨rfl, ?_⟩⟩⟩
    obtain ⟨g1, g2⟩ := make_same ha hdb s5
    have hC5 := hC3.same g1
    refine ⟨_, rfl, rfl, rfl, b, B, p, ns, a, _, day, rfl, hC5.bank, hC5.pap, hC5.inn, ⟨db, g2⟩, w1, a0, by omega, fun H6 s6 => ?_⟩
    have hC6 := hC5.same s6
    have eq6 := (g1.trans s6) _ _ eq3
    have s26 := s3.trans (g1.trans s6)
    rw [show sumV B ns ⟨"rest", "", rest, 0⟩ day = ((ns.filter fun n => restsB (B.days n) day rest).length : Nat) from if_pos rfl]
    refine ⟨_, rfl, _, rfl, p, rfl, ⟨_, SqT.is hC6.pap.1⟩, fun D hD => ?_⟩
    have l40 := hC6.pap.2.most
    have lns : (ns.map V.str).length = ns.length := List.length_map _
    refine lc_ext (walk_tup (K := K) (a := p) (xs := ns.map V.str)) hD (fun i => ((ns.take i).filter fun n => restsB (B.days n) day rest).map V.str) rfl (fun H2 s2 => SqT.is (s2 _ _ hC6.pap.1)) (fun i hi => ?_) (fun i x H12 H13 hi sm y R0 kR Rn kRn => ?_) fun H7 s7 eD => ?_
    · rw [List.length_map]
      exact Nat.lt_of_le_of_lt (len_filter l40) (by decide)
    · obtain ⟨rfl, hx0⟩ := y
      obtain ⟨n, hn, rfl⟩ := str_at hx0
      have hin := hC6.inn n (List.mem_of_getElem? hn)
      refine ⟨rfl, _, rfl, _, rfl, q, _, rfl, .inl (SqL.is (sm _ _ eq6)), rfl, flat_strs _, _, rfl, ?_⟩
      rw [if_neg Bool.false_ne_true, inV_str, show decide (n ∈ B.inN.filter fun n => restsB (B.days n) day rest) = restsB (B.days n) day rest by simp [hin]]
      cases e : restsB (B.days n) day rest with
      | true => exact iteT ⟨_, rfl, kR _ _ (Same.refl _) (by rw [take_yes hn e, List.map_append]; rfl)⟩
      | false => exact iteF (kRn _ (Same.refl _) (by rw [take_no hn e]))
    · rw [lns, List.take_length] at eD
      have hC7 := hC6.same s7
      have eq7 := s7 _ _ eq6
      refine ⟨D, _, rfl, .inl (SqL.is eD), rfl, _, rfl, ?_⟩
      rw [List.length_map, same_int]
      refine iteF ?_
      refine ⟨_, rfl, b, B.dx, _, rfl, hC7.bank.ins, lk_b_found B, _, rfl, _, rfl, rfl, rfl, b, B, "", 1, 9, "", some day, rest, rfl, hC7.bank, fun d e => by
        rw [← Option.some.inj e]
        omega, fun q8 H8 s8 hq8 e8 => ?_⟩
      have ef : B.inN.filter (foundB B "" 1 9 "" (some day) rest) = B.inN.filter fun n => !restsB (B.days n) day rest := List.filter_congr fun n hn => hC6.found hn
      rw [ef] at e8
      have hC8 := hC7.same s8
      have eq8 := s8 _ _ eq7
      refine ⟨_, rfl, b, B.dx, _, rfl, hC8.bank.ins, lk_b_names_in B, b, B, rfl, hC8.bank, fun p9 H9 s9 hp9 e9 => ⟨p9, rfl, ⟨_, SqL.is e9⟩, fun D2 hD2 => ?_⟩⟩
      have eq9 := s9 _ _ eq8
      have lI : (B.inN.map V.str).length = B.inN.length := List.length_map _
      have l30 : B.inN.length ≤ 30 := Nat.le_trans (List.length_filter_le _ _) hC8.bank.lenN
      refine lc_ext (walk_list (K := K) (a := p9) (xs := B.inN.map V.str)) hD2 (fun i => ((B.inN.take i).filter fun n => !restsB (B.days n) day rest).map V.str) rfl (fun H2 s2 => SqL.is (s2 _ _ e9)) (fun i hi => ?_) (fun i x H12 H13 hi sm y R0 kR Rn kRn => ?_) fun H10 s10 eD2 => ?_
      · rw [List.length_map]
        exact Nat.lt_of_le_of_lt (len_filter l30) (by decide)
      · obtain ⟨rfl, hx0⟩ := y
        obtain ⟨n, hn, rfl⟩ := str_at hx0
        have hin := List.mem_of_getElem? hn
        refine ⟨rfl, _, rfl, _, rfl, q, _, rfl, .inl (SqL.is (sm _ _ eq9)), rfl, flat_strs _, _, rfl, ?_⟩
        rw [if_pos rfl, inV_str, show decide (n ∈ B.inN.filter fun n => restsB (B.days n) day rest) = restsB (B.days n) day rest by simp [hin]]
        cases e : restsB (B.days n) day rest with
        | true => exact iteF (kRn _ (Same.refl _) (by rw [take_no hn (by rw [e]; rfl)]))
        | false => exact iteT ⟨_, rfl, kR _ _ (Same.refl _) (by rw [take_yes hn (by rw [e]; rfl), List.map_append]; rfl)⟩
      · rw [lI, List.take_length] at eD2
        have sh : SeqAt.shaped (.list ((B.inN.filter fun n => !restsB (B.days n) day rest).map PyData.str)) = true := shaped_strs fun n hn => nm_ok hC6 (List.mem_filter.mp hn).1
        have s28 := (s26.trans s7).trans (s8.trans (s9.trans s10))
        refine ⟨_, rfl, _, _, .lst (SqL.is eD2) (dp_strs _), .lst (SqL.is ((s9.trans s10) _ _ e8)) (dp_strs _), sh, sh, ?_⟩
        rw [eqv_self sh]
        refine k _ (k12.trans (KeepD.of s28)) ?_
        have := d2.same s28
        rw [show m + 1 + 1 = m + 2 by omega] at this
        exact this
end
end K73

set_option Elab.async false
set_option linter.all false
set_option maxRecDepth 100000
set_option maxHeartbeats 4000000
/-! ## the met wishes -/
namespace K73
open PySem PySem.Spec PyProof.Rows L2
theorem pe_strWK {X : Cx} {w : World} {K : PySem.W.Frag} {mg : Str → Option Value} {e : Expr} {t : TA} {p pos : Pos} {j : Nat} (T : Top w K mg) (hr : Room j X.A) (hk : 3 ≤ j) (hg : Gl X "str") (ha : PA X [e] t) (hs : starEach [e] X.env = (false, eval e X.env) :: starEach [] X.env := by rfl)
    (hw : X.w = w := by rfl) (hK : X.K = K := by rfl) (hm : X.mg = mg := by rfl) : PE X (.Call (.Name "str" p) [e] [] pos) (tStrW (He.ga K "Wish") (spWStr K) t) := by
  subst hw hK hm
  exact pe_strW T hr hk hg ha hs
theorem pairsK_perm {K ks js : List Str} (p : ks.Perm js) : pairsK K ks = pairsK K js := by
  unfold pairsK
  refine congrArg List.sum (List.map_congr_left fun k _ => ?_)
  rw [p.count_eq]
theorem pairsK_bound {K : List Str} (hn : K.Nodup) : ∀ ks : List Str, ks.length ≤ 13 → (∀ k ∈ ks, k ∈ K) → 0 ≤ pairsK K ks ∧ pairsK K ks ≤ 13 * (ks.length : Int)
  | [], _, _ => by
    have : pairsK K [] = 0 := sum_zero fun k _ => Tn_zero
    rw [this]
    exact ⟨Int.le_refl _, by decide⟩
  | k :: r, hl, h => by
    rw [List.length_cons] at hl
    obtain ⟨h1, h2⟩ := pairsK_bound hn r (by omega) fun j hj => h j (List.mem_cons_of_mem _ hj)
    have e : pairsK K (k :: r) = pairsK K (r ++ [k]) := pairsK_perm (List.perm_append_comm (l₁ := [k]) (l₂ := r))
    have hc : r.count k ≤ r.length := List.count_le_length
    rw [e, pairsK_snoc hn (h k List.mem_cons_self), List.length_cons]
    omega
theorem sum_nine {α : Type} {f : α → Int} : ∀ {l : List α}, (∀ x ∈ l, 0 ≤ f x ∧ f x ≤ 9) → 0 ≤ (l.map f).sum ∧ (l.map f).sum ≤ 9 * (l.length : Int)
  | [], _ => ⟨Int.le_refl _, by show (0 : Int) ≤ 9 * 0; decide⟩
  | x :: r, h => by
    obtain ⟨h1, h2⟩ := sum_nine (l := r) fun y hy => h y (List.mem_cons_of_mem _ hy)
    obtain ⟨h3, h4⟩ := h x List.mem_cons_self
    rw [List.map_cons, List.sum_cons, List.length_cons]
    omega
def FourP (word what : Str) : Prop := word = ("many" : Str) ∨ word = ("toil" : Str) ∨ (word = ("kin" : Str) ∧ what = ("" : Str)) ∨ word = ("with" : Str)
theorem FourP.ok {word what : Str} (h : FourP word what) : word ∈ wordsL ∧ word ≠ ("rest" : Str) := by
  rcases h with rfl | rfl | ⟨rfl, _⟩ | rfl <;> decide +kernel
theorem w_bound {L : Qs} {word what : Str} (hL : L.length ≤ 13) (ht : ∀ x ∈ L, 1 ≤ x.2.toil ∧ x.2.toil ≤ 9) (h : FourP word what) : 0 ≤ sumW word what L ∧ sumW word what L ≤ 998 := by
  have hm : (ofM L what).length ≤ 13 := Nat.le_trans (List.length_filter_le _ _) hL
  rcases h with rfl | rfl | ⟨rfl, rfl⟩ | rfl
  · unfold sumW
    rw [if_pos rfl]
    omega
  · unfold sumW
    rw [if_neg (by decide +kernel), if_pos rfl]
    obtain ⟨h1, h2⟩ := sum_nine (f := fun x : Addr × Qd => x.2.toil) (l := ofM L what) fun x hx => by
      have := ht x (List.mem_filter.mp hx).1
      omega
    omega
  · rw [w_kin, kin_is (firsts_nodup _) (fun k hk => mem_firsts.mpr hk)]
    have hk : (kinsOf L ("" : Str)).length ≤ 13 := by
      unfold kinsOf
      rw [List.length_map]
      exact Nat.le_trans (List.length_filter_le _ _) hL
    obtain ⟨h1, h2⟩ := pairsK_bound (firsts_nodup (kinsOf L ("" : Str))) (kinsOf L ("" : Str)) hk (fun k hk => mem_firsts.mpr hk)
    omega
  · rw [w_with]
    split <;> omega
theorem whatL_inj {a b : Str} {x y z t : Str} (h : whatL a ++ [x, y] = whatL b ++ [z, t]) : a = b := by
  unfold whatL at h
  by_cases e1 : a = ("" : Str)
  · by_cases e2 : b = ("" : Str)
    · rw [e1, e2]
    · rw [if_pos e1, if_neg e2] at h
      have := congrArg List.length h
      cases this
  · by_cases e2 : b = ("" : Str)
    · rw [if_neg e1, if_pos e2] at h
      have := congrArg List.length h
      cases this
    · rw [if_neg e1, if_neg e2] at h
      exact (List.cons.inj h).1
theorem text_sum {B : Bk} {ns : List Str} {x y : Wd} {day : Int} (hx : WishP x) (hy : WishP y) (rx : x.word ≠ ("rest" : Str)) (ry : y.word ≠ ("rest" : Str)) (e : textOf x = textOf y) : sumV B ns x day = sumV B ns y day := by
  have h := split_text hx
  rw [e, split_text hy] at h
  obtain ⟨h1, h2⟩ := List.cons.inj h
  have h3 := whatL_inj h2
  rw [sumV_word rx, sumV_word ry, h1, h3]
theorem tab_val {B : Bk} {ns : List Str} {day : Int} : ∀ {M : List (Addr × Wd)}, (∀ x ∈ M, WishP x.2 ∧ x.2.word ≠ ("rest" : Str)) → ∀ x ∈ M, valV (tabK B ns day M) (Sum.inr (textOf x.2)) = some (.int (sumV B ns x.2 day))
  | y :: r, h, x, hx => by
    show valV (putK (tabK B ns day r) (Sum.inr (textOf y.2)) (.int (sumV B ns y.2 day))) _ = _
    rw [valV_put]
    obtain ⟨x1, x2⟩ := h x hx
    obtain ⟨y1, y2⟩ := h y List.mem_cons_self
    by_cases e : textOf x.2 = textOf y.2
    · rw [if_pos (by rw [e]), text_sum x1 y1 x2 y2 e]
    · rw [if_neg (fun z => e (Sum.inr.inj z))]
      rcases List.mem_cons.mp hx with g | g
      · exact absurd (by rw [g]) e
      · exact tab_val (fun z hz => h z (List.mem_cons_of_mem _ hz)) x g
theorem met_just {w wh : Str} {f : Int} : metV ⟨w, wh, f, f⟩ f = true := by
  unfold metV
  simp
theorem met_more {w wh : Str} {f : Int} (h0 : 0 ≤ f) (h1 : f ≤ 998) (hw : w ≠ ("rest" : Str)) : metV (Wd.moved ⟨w, wh, f, f⟩ 1) f = false := by
  have e : clampI (f + 1) = f + 1 := by
    rw [clamp_eq]
    omega
  unfold metV
  show (decide (f ≤ clampI (f + 1)) && (decide (w = ("rest" : Str)) || decide (clampI (f + 1) ≤ f))) = false
  rw [e, decide_eq_false hw, decide_eq_false (show ¬ f + 1 ≤ f by omega), Bool.or_false, Bool.and_false]
theorem met_less {w wh : Str} {f : Int} (h0 : 0 < f) : metV (Wd.moved ⟨w, wh, f, f⟩ (0 - f - 1)) f = false := by
  have e : clampI (f + (0 - f - 1)) = 0 := by
    rw [clamp_eq]
    omega
  unfold metV
  show (decide (f ≤ clampI (f + (0 - f - 1))) && _) = false
  rw [e, decide_eq_false (show ¬ f ≤ 0 by omega), Bool.false_and]
theorem Ctx9.len13 {K : PySem.W.Frag} {H : Hp} {b p l : Addr} {B : Bk} {ns : List Str} {R : Qs} {c : Nat} (h : Ctx9 K H b p l B ns R c) : ns.length ≤ 13 := by
  have h1 := List.Nodup.length_le_of_subset (l₂ := B.names) (ris_nodup h.pap.2.ris) fun n hn => (mem_inN.mp (h.inn n hn)).1
  have h2 := congrArg List.length h.eq
  rw [List.length_map, List.length_map] at h2
  have h3 : B.names.length = B.L.length := List.length_map _
  have := h.rows.few
  omega
theorem Ctx9.bound {K : PySem.W.Frag} {H : Hp} {b p l : Addr} {B : Bk} {ns : List Str} {R : Qs} {c : Nat} (h : Ctx9 K H b p l B ns R c) {word what : Str} (hw : FourP word what) : 0 ≤ sumW word what (B.qsOf ns) ∧ sumW word what (B.qsOf ns) ≤ 998 :=
  w_bound (by rw [h.len]; exact h.len13) (fun x hx => ⟨(h.okQ (mem_qsOf hx)).t0, (h.okQ (mem_qsOf hx)).t1⟩) hw
theorem at_last {α : Type} {xs : List α} {x : α} (h : xs[xs.length - 1]? = some x) : atI xs (-1) = some x := by
  have hl := (List.getElem?_eq_some_iff.mp h).1
  have h1 : ixN xs.length (-1) = some (xs.length - 1) := by
    unfold ixN
    simp
    omega
  unfold atI
  rw [h1]
  exact h
def spMR (K : PySem.W.Frag) : Sp := fun vs H Q _ => ∃ b p d cl l B ns R c m day, vs = [.ref d, .ref b, .ref p, .ref l, .int day] ∧ Law9 K H b p d cl l B ns R c m ∧ m + 4 < 1000000 ∧ 0 ≤ day ∧ day ≤ 9999 ∧ ∀ H', KeepD d H H' → DrawAt H' d cl (m + 4) → Q (.bl true) H'
theorem DrawAt.ni {H : Hp} {d cl : Addr} {n : Int} (h : DrawAt H d cl n) {p : Addr} {u : HO} (e : H p = some u) (hu : ∀ kvs, u ≠ .dK kvs) : p ≠ d := fun z => by
  obtain ⟨kvs, g⟩ := h.at
  rw [z, g] at e
  exact hu kvs (Option.some.inj e).symm
theorem WAt.keepD {K : PySem.W.Frag} {H H' : Hp} {d cl a : Addr} {n : Int} {x : Wd} (h : WAt K H a x) (hd : DrawAt H d cl n) (k : KeepD d H H') : WAt K H' a x := by
  obtain ⟨dx, e⟩ := h
  exact ⟨dx, k _ _ (hd.ni e fun _ => nofun) e⟩
theorem tv_andS {t u : TT} {σ : L2.St} {H : Hp} {p q : Bool} (h1 : ∀ Q : Bool → Hp → Prop, (∀ H', Same H H' → Q p H') → t σ H Q) (h2 : ∀ H', Same H H' → p = true → ∀ Q : Bool → Hp → Prop, (∀ H'', Same H' H'' → Q q H'') → u σ H' Q) (Q : Bool → Hp → Prop) (h : ∀ H', Same H H' → Q (p && q) H') : tAnd t u σ H Q := by
  refine h1 _ fun H' s => ?_
  cases p with
  | true => exact iteT (h2 H' s rfl Q fun H'' s2 => h H'' (s.trans s2))
  | false => exact iteF (h H' s)
theorem lack_yes {B : Bk} {ns : List Str} {M : List (Addr × Wd)} {day : Int} {i : Nat} {x : Addr × Wd} (h : M[i]? = some x) (e : metV x.2 (sumV B ns x.2 day) = true) : lackL B ns M day (i + 1) = lackL B ns M day i := by
  unfold lackL
  rw [List.range_succ, List.filter_append, List.filter_cons, h]
  simp [e]
theorem lack_no {B : Bk} {ns : List Str} {M : List (Addr × Wd)} {day : Int} {i : Nat} {x : Addr × Wd} (h : M[i]? = some x) (e : metV x.2 (sumV B ns x.2 day) = false) : lackL B ns M day (i + 1) = lackL B ns M day i ++ [i] := by
  unfold lackL
  rw [List.range_succ, List.filter_append, List.filter_cons, h]
  simp [e]
theorem lack_len {B : Bk} {ns : List Str} {M : List (Addr × Wd)} {day : Int} {k : Nat} : (lackL B ns M day k).length ≤ k := by
  unfold lackL
  refine Nat.le_trans (List.length_filter_le _ _) ?_
  rw [List.length_range]
  exact Nat.le_refl _
def lackI (B : Bk) (ns : List Str) (M : List (Addr × Wd)) (day : Int) (k : Nat) : List Int := (lackL B ns M day k).map fun j => ((j : Nat) : Int)
/-- word and what of a turn -/
def pairV (e : Str × Str) : List V := [.str e.1, .str e.2]
section
variable {P : Program} {w : World} {K : PySem.W.Frag} {mg : Str → Option Value} {base : Heap}
theorem cal_l_met_right (T : Top w K mg) : C8.Cal P w K mg base 8 "_law_met_right" (spMR K) [] := by
  obtain ⟨fd, F⟩ := T.d_l_met_right
  refine cal0_of F T.g_l_met_right (ok_of F sc_l_met_right (fun vs H Q E h => ?_) fun cdv A outer s H vs Q E hr h => ?_) fun _ _ _ _ _ _ us hl => match us, hl with | [_, _, _, _, _], _ => rfl
  · obtain ⟨b, p, d, cl, l, B, ns, R, c, m, day, rfl, _⟩ := h
    rfl
  · obtain ⟨b, p, d, cl, l, B, ns, R, c, m, day, rfl, hL, hm, dy0, dy1, k⟩ := h
    have hu := hu_of hr
    refine ⟨_, (pss_cons (ps_set (i := 5) sc_l_met_right.nd rfl (Or.inl rfl) (pe_lst pa_nil))
      (pss_cons (ps_for PassesOwn.never rfl (pi_tup (pe_tup (pa_cons (pe_tup (pa_cons pe_str (pa_cons (pe_dget hu (pe_ix ix_list (pv 3) pe_int (fun _ _ => rfl)) pe_str (fun _ _ => rfl)) pa_nil))) (pa_cons (pe_tup (pa_cons pe_str (pa_cons pe_str pa_nil))) (pa_cons (pe_tup (pa_cons pe_str (pa_cons pe_str pa_nil))) (pa_cons (pe_tup (pa_cons pe_str (pa_cons (pe_dget hu (pe_ix ix_list (pv 3) (pe_un un_neg pe_int) (fun _ _ => rfl)) pe_str (fun _ _ => rfl)) pa_nil))) pa_nil)))))) (pg_tup rfl (pgs_cons (pg_name (i := 6) sc_l_met_right.nd rfl (Or.inl rfl)) (pgs_cons (pg_name (i := 7) sc_l_met_right.nd rfl (Or.inl rfl)) pgs_nil))) (pss_cons (ps_set (i := 8) sc_l_met_right.nd rfl (Or.inl rfl) (C8.pe_c (cal_sum_by T) hr (by decide) (by rfl) (pa_cons (pv 1) (pa_cons (pv 2) (pa_cons (pe_mkN (makN_W_init_1_what T) hr (by decide) (by rfl) (pa_cons (pv 6) pa_nil) (pk_cons (pv 7) pk_nil)) (pa_cons (pv 4) pa_nil))))))
      (pss_cons (ps_set (i := 9) sc_l_met_right.nd rfl (Or.inl rfl) (pe_mkN (makN_W_init_1_what_least_most T) hr (by decide) (by rfl) (pa_cons (pv 6) pa_nil) (pk_cons (pv 7) (pk_cons (pv 8) (pk_cons (pv 8) pk_nil)))))
      (pss_cons (ps_if (PW.pt (pw_or (pt_not (pt_val (C8.pe_c (cal_meets T) hr (by decide) (by rfl) (pa_cons (pv 1) (pa_cons (pv 2) (pa_cons (pv 9) (pa_cons (pv 4) pa_nil))))))) (pw_or1 (pt_val (C8.pe_c (cal_meets T) hr (by decide) (by rfl) (pa_cons (pv 1) (pa_cons (pv 2) (pa_cons (C8.pe_mt (met_W_moved T) hr (by decide) (pv 9) (pa_cons pe_int pa_nil)) (pa_cons (pv 4) pa_nil))))))))) (pss_one (ps_ret pe_bl)) pss_nil)
      (pss_cons (ps_if (PW.pt (pw_or (pt_cmpR (op_neW T hr) (C8.pe_c (cal_wish_of T) hr (by decide) (by rfl) (pa_cons (pe_strW T hr (by decide) (by rfl) (pa_cons (pv 9) pa_nil)) pa_nil)) (pv 9) (nomark _)) (pw_or1 (PW.pt (pw_and (pt_cmpR op_gt (pv 8) pe_int (nomark _)) (pw_and1 (pt_val (C8.pe_c (cal_meets T) hr (by decide) (by rfl) (pa_cons (pv 1) (pa_cons (pv 2) (pa_cons (C8.pe_mt (met_W_moved T) hr (by decide) (pv 9) (pa_cons (pe_op op_sub (pe_op op_sub pe_int (pv 8)) pe_int) pa_nil)) (pa_cons (pv 4) pa_nil)))))))))))) (pss_one (ps_ret pe_bl)) pss_nil)
      (pss_one (ps_set (i := 5) sc_l_met_right.nd rfl (Or.inl rfl) (pe_op op_cat (pv 5) (pe_lst (pa_cons (pv 9) (pa_cons (C8.pe_mt (met_W_moved T) hr (by decide) (pv 9) (pa_cons (C8.pe_c (cal_l_take T) hr (by decide) (by rfl) (pa_cons (pv 0) (pa_cons pe_int pa_nil))) pa_nil)) pa_nil)))))))))))
      (pss_cons (ps_setLc (i := 10) (own := [("_law_at", 12), ("_law_wish", 13)]) (g := gTup K 2 (gCons (gName 12) (gCons (gName 13) gNil))) rfl sc_l_met_right.nd rfl rfl (sw_true rfl rfl rfl (by decide +kernel)) (pi_enum (by rfl) T.f_enumerate (pa_cons (pv 5) pa_nil)) (blkOk_by (N := N_l_met_right) (sc := defScope s_l_met_right) (by decide +kernel)) (fun _ _ _ _ _ => (pg_tup rfl (pgs_cons (pg_name (i := 12) sc_l_met_right.nd rfl (Or.inl rfl)) (pgs_cons (pg_name (i := 13) sc_l_met_right.nd rfl (Or.inl rfl)) pgs_nil)))) (fun _ _ _ _ _ => (pts_one (pt_not (pt_val (C8.pe_c (cal_meets T) hr (by decide) (by rfl) (pa_cons (pv 1) (pa_cons (pv 2) (pa_cons (pv 13) (pa_cons (pv 4) pa_nil))))))))) (fun _ _ _ _ _ => (pv 12)))
      (pss_cons (ps_if (pt_cmpR (op_neD hr.units) (pe_lc (own := [("_law_pair", 14)]) (g := gName 14) (tt := tYes) rfl sc_l_met_right.nd (pi_list (C8.pe_c (cal_lacking T) hr (by decide) (by rfl) (pa_cons (pv 1) (pa_cons (pv 2) (pa_cons (pv 5) (pa_cons (pv 4) pa_nil)))))) (blkOk_by (N := N_l_met_right) (sc := defScope s_l_met_right) (by decide +kernel)) (fun _ _ _ _ _ => (pg_name (i := 14) sc_l_met_right.nd rfl (Or.inl rfl))) (fun _ _ _ _ _ => pts_nil) (fun _ _ _ _ _ => (pe_ix (ix_tupK K) (pv 14) pe_int (fun _ _ => rfl)))) (pv 10) (nomark _)) (pss_one (ps_ret pe_bl)) pss_nil)
      (pss_cons (ps_set (i := 11) sc_l_met_right.nd rfl (Or.inr rfl) (C8.pe_c (cal_sums_of T) hr (by decide) (by rfl) (pa_cons (pv 1) (pa_cons (pv 2) (pa_cons (pv 5) (pa_cons (pv 4) pa_nil))))))
      (pss_one (ps_ret (pe_cmpR (op_eqD hr.units) (pe_lc (own := [("_law_wish", 13)]) (g := gName 13) (tt := tYes) rfl sc_l_met_right.nd (pi_list (pv 5)) (blkOk_by (N := N_l_met_right) (sc := defScope s_l_met_right) (by decide +kernel)) (fun _ _ _ _ _ => (pg_name (i := 13) sc_l_met_right.nd rfl (Or.inl rfl))) (fun _ _ _ _ _ => pts_nil) (fun _ _ _ _ _ => (pe_dget hu (pv 11) (pe_strWK T hr (by decide) (by rfl) (pa_cons (pv 13) pa_nil)) (fun _ _ => rfl)))) (pe_lc (own := [("_law_wish", 13)]) (g := gName 13) (tt := tYes) rfl sc_l_met_right.nd (pi_list (pv 5)) (blkOk_by (N := N_l_met_right) (sc := defScope s_l_met_right) (by decide +kernel)) (fun _ _ _ _ _ => (pg_name (i := 13) sc_l_met_right.nd rfl (Or.inl rfl))) (fun _ _ _ _ _ => pts_nil) (fun _ _ _ _ _ => (C8.pe_c (cal_sum_by T) hr (by decide) (by rfl) (pa_cons (pv 1) (pa_cons (pv 2) (pa_cons (pv 13) (pa_cons (pv 4) pa_nil))))))) (nomark _))))))))), ?_⟩
    have pos := hL.ctx.rows.pos
    have few := hL.ctx.rows.few
    have lR : (rfs R).length = R.length := List.length_map _
    obtain ⟨x0, hx0⟩ : ∃ x, R[0]? = some x := ⟨_, List.getElem?_eq_getElem pos⟩
    obtain ⟨xl, hxl⟩ : ∃ x, R[R.length - 1]? = some x := ⟨_, List.getElem?_eq_getElem (by omega)⟩
    have m0 := List.mem_of_getElem? hx0
    have ml := List.mem_of_getElem? hxl
    refine ⟨(by decide : 0 ≤ sizeLine), fun wl0 hwl0 => ?_⟩
    have hL1 := hL.same (same_new hwl0 (o := .lst []))
    obtain ⟨dl0, ds0, er0, _⟩ := hL1.ctx.rows.row x0 m0
    refine ⟨_, rfl, l, _, 0, .ref x0.1, rfl, rfl, SqL.is hL1.ctx.rows.lst, at_nat (xs := rfs R) (j := 0) (by unfold rfs; rw [List.getElem?_map, hx0]; rfl), x0.1, .str x0.2.matter, rfl, by rw [← rv_matter]; exact DGet.k (k := Sum.inr "matter") er0, (by decide : 2 ≤ sizeLine), fun t1 h1 => ?_⟩
    refine ⟨(by decide : 2 ≤ sizeLine), fun t2 h2 => ⟨(by decide : 2 ≤ sizeLine), fun t3 h3 => ?_⟩⟩
    have s1 := same_new h1 (o := .tup (pairV ("many", x0.2.matter)))
    have s2 := same_new h2 (o := .tup (pairV ("toil", "")))
    have s3 := same_new h3 (o := .tup (pairV ("kin", "")))
    have s13 := s1.trans (s2.trans s3)
    have hL3 := hL1.same s13
    obtain ⟨dl1, ds1, er1, _⟩ := hL3.ctx.rows.row xl ml
    refine ⟨_, rfl, 1, rfl, l, _, -1, .ref xl.1, rfl, rfl, SqL.is hL3.ctx.rows.lst, at_last (xs := rfs R) (by rw [lR]; unfold rfs; rw [List.getElem?_map, hxl]; rfl), xl.1, .str xl.2.name, rfl, by rw [← rv_name]; exact DGet.k (k := Sum.inr "name") er1, (by decide : 2 ≤ sizeLine), fun t4 h4 => ⟨(by decide : 4 ≤ sizeLine), fun t0 h0 => ?_⟩⟩
    have s4 := same_new h4 (o := .tup (pairV ("with", xl.2.name)))
    obtain ⟨T4, hT4⟩ : ∃ T4 : List (Addr × (Str × Str)), T4 = [(t1, (("many" : Str), x0.2.matter)), (t2, (("toil" : Str), ("" : Str))), (t3, (("kin" : Str), ("" : Str))), (t4, (("with" : Str), xl.2.name))] := ⟨_, rfl⟩
    have s5 := same_new h0 (o := .tup (rfs [(t1, (("many" : Str), x0.2.matter)), (t2, (("toil" : Str), ("" : Str))), (t3, (("kin" : Str), ("" : Str))), (t4, (("with" : Str), xl.2.name))]))
    have e1 := s5 _ _ (s4 _ _ (s3 _ _ (s2 _ _ (@upd_same _ t1 (.tup (pairV (("many" : Str), x0.2.matter)))))))
    have e2 := s5 _ _ (s4 _ _ (s3 _ _ (@upd_same _ t2 (.tup (pairV (("toil" : Str), ("" : Str)))))))
    have e3 := s5 _ _ (s4 _ _ (@upd_same _ t3 (.tup (pairV (("kin" : Str), ("" : Str))))))
    have e4 := s5 _ _ (@upd_same _ t4 (.tup (pairV (("with" : Str), xl.2.name))))
    have hF : ∀ e ∈ T4, FourP e.2.1 e.2.2 ∧ MayP e.2.1 e.2.2 := by
      rw [hT4]
      intro e he
      simp only [List.mem_cons, List.not_mem_nil, or_false] at he
      rcases he with rfl | rfl | rfl | rfl
      · exact ⟨.inl rfl, .inr ⟨(hL.ctx.rows.ok x0 m0).matter, by show ("many" : Str) ≠ "rest"; decide +kernel⟩⟩
      · exact ⟨.inr (.inl rfl), .inl ⟨rfl, by show ("toil" : Str) ≠ "with"; decide +kernel⟩⟩
      · exact ⟨.inr (.inr (.inl ⟨rfl, rfl⟩)), .inl ⟨rfl, by show ("kin" : Str) ≠ "with"; decide +kernel⟩⟩
      · exact ⟨.inr (.inr (.inr rfl)), .inr ⟨(hL.ctx.rows.ok xl ml).name, by show ("with" : Str) ≠ "rest"; decide +kernel⟩⟩
    have sw := (s13.trans s4).trans s5
    have ew := sw _ _ (@upd_same H wl0 (.lst []))
    have s05 := (same_new hwl0 (o := .lst [])).trans sw
    have l4 : T4.length = 4 := by
      rw [hT4]
      rfl
    refine ⟨t0, rfl, ⟨_, SqT.is upd_same⟩, ?_⟩
    refine for_it (walk_tup (K := K) (a := t0) (xs := rfs T4)) (fun i σ H' => KeepD d H H' ∧ H' t0 = some (.tup (rfs T4)) ∧ (∀ e ∈ T4, H' e.1 = some (.tup (pairV e.2))) ∧ Law9 K H' b p d cl l B ns R c (m + (i : Int)) ∧
      ∃ wl M y6 y7 y8 y9, H' wl = some (.lst (rfs M)) ∧ M.length = 2 * i ∧ (∀ x ∈ M, WAt K H' x.1 x.2 ∧ WishP x.2 ∧ x.2.word ≠ ("rest" : Str)) ∧ σ = [some (.ref d), some (.ref b), some (.ref p), some (.ref l), some (.int day), some (.ref wl), y6, y7, y8, y9, none, none, none, none, none])
      ⟨KeepD.of s05, by rw [hT4]; exact upd_same, ?_, ?_, wl0, [], _, _, _, _, ew, rfl, nofun, rfl⟩ (fun i σ H' _ pp => SqT.is pp.2.1) (fun i x σ H6 H7 hi pp y => ?_) fun σ H6 pp => ?_
    · rw [hT4]
      intro e he
      simp only [List.mem_cons, List.not_mem_nil, or_false] at he
      rcases he with rfl | rfl | rfl | rfl
      · exact e1
      · exact e2
      · exact e3
      · exact e4
    · rw [Int.natCast_zero, Int.add_zero]
      exact (hL3.same s4).same s5
    · obtain ⟨k6, e06, eT, hL6, wl, M, y6, y7, y8, y9, ewl, lM, hM, rfl⟩ := pp
      obtain ⟨rfl, hx0⟩ := y
      obtain ⟨e, he, rfl⟩ := refs_at hx0
      have hem := List.mem_of_getElem? he
      obtain ⟨hf, hmay⟩ := hF e hem
      obtain ⟨wok, wr⟩ := hf.ok
      have ee := eT e hem
      have hC6 := hL6.ctx
      obtain ⟨f0, f1⟩ := hC6.bound hf
      have i4 : i < 4 := by
        unfold rfs at hi
        rw [List.length_map, l4] at hi
        exact hi
      have w0 : WishP ⟨e.2.1, e.2.2, 0, 999⟩ := wish_what wok hmay (by decide) (by decide)
      refine ⟨e.1, _, rfl, .inl (.inl ee), rfl, _, _, rfl, _, _, rfl, rfl, ?_⟩
      refine ⟨_, rfl, _, rfl, _, rfl, _, rfl, rfl, rfl, fun a db ha hdb hne => ⟨a, ⟨e.2.1, e.2.2, 0, 999⟩, db, rfl, upd_same, w0, fun H8 s8 => ⟨rfl, ?_⟩⟩⟩
      obtain ⟨g1, g2⟩ := make_same ha hdb s8
      have hC8 := hC6.same g1
      refine ⟨_, rfl, b, B, p, ns, a, _, day, rfl, hC8.bank, hC8.pap, hC8.inn, ⟨db, g2⟩, w0, dy0, dy1, fun H9 s9 => ?_⟩
      have s69 := g1.trans s9
      have hC9 := hC6.same s69
      rw [sumV_word (x := ⟨e.2.1, e.2.2, 0, 999⟩) wr]
      generalize hf0 : sumW e.2.1 e.2.2 (B.qsOf ns) = f at *
      have wj : WishP ⟨e.2.1, e.2.2, f, f⟩ := ⟨wok, hmay, f0, by show f ≤ 999; omega, f0, by show f ≤ 999; omega, .inl (Int.le_refl _)⟩
      have hs0 : sumV B ns ⟨e.2.1, e.2.2, f, f⟩ day = f := (sumV_word (x := ⟨e.2.1, e.2.2, f, f⟩) wr).trans hf0
      have hs : ∀ j, sumV B ns (Wd.moved ⟨e.2.1, e.2.2, f, f⟩ j) day = f := fun j => (sumV_word (x := Wd.moved ⟨e.2.1, e.2.2, f, f⟩ j) wr).trans hf0
      refine ⟨_, rfl, _, rfl, _, rfl, _, rfl, rfl, rfl, fun a2 db2 ha2 hdb2 hne2 => ⟨a2, ⟨e.2.1, e.2.2, f, f⟩, db2, rfl, upd_same, wj, fun H10 s10 => ⟨rfl, ?_⟩⟩⟩
      obtain ⟨g3, g4⟩ := make_same ha2 hdb2 s10
      have hC10 := hC9.same g3
      refine ⟨_, rfl, _, rfl, _, rfl, _, rfl, b, B, p, ns, a2, _, day, rfl, hC10.bank, hC10.pap, hC10.inn, ⟨db2, g4⟩, wj, dy0, dy1, fun H11 s11 => ⟨_, rfl, ?_⟩⟩
      rw [hs0, met_just]
      have hC11 := hC10.same s11
      refine iteF ⟨_, rfl, _, rfl, _, rfl, a2, db2, _, rfl, s11 _ _ g4, lk_moved _, a2, _, 1, rfl, ⟨db2, s11 _ _ g4⟩, wj, fun b3 H12 s12 hn3 w3 => ?_⟩
      have hC12 := hC11.same s12
      refine ⟨_, rfl, b, B, p, ns, b3, _, day, rfl, hC12.bank, hC12.pap, hC12.inn, w3, wj.moved 1, dy0, dy1, fun H13 s13 => ⟨_, rfl, ?_⟩⟩
      rw [hs, met_more f0 f1 wr]
      refine iteF ?_
      have sA := s11.trans (s12.trans s13)
      have hC13 := hC10.same sA
      have g13 := sA _ _ g4
      refine ⟨_, rfl, a2, db2, _, rfl, g13, a2, _, rfl, ⟨db2, g13⟩, wj, fun H14 s14 => ⟨_, rfl, _, rfl, wj, fun b4 H15 s15 hn4 w4 => ?_⟩⟩
      have g15 := (s14.trans s15) _ _ g13
      obtain ⟨db4, g4'⟩ := w4
      refine ⟨_, rfl, ⟨b4, a2, db4, db2, _, _, rfl, rfl, g4', g15, ⟨_, wj, ⟨db4, g4'⟩, ⟨db2, g15⟩⟩⟩, fun H16 s16 => ⟨_, rfl, iteF ?_⟩⟩
      have sB := sA.trans (s14.trans (s15.trans s16))
      have hC16 := hC10.same sB
      have g16 := sB _ _ g4
      refine tv_andS (p := decide (f > 0)) (q := false) (fun Q hQ => ⟨_, rfl, f, 0, rfl, rfl, _, rfl, hQ _ (Same.refl _)⟩) (fun H17 s17 hp Q hQ => ?_) _ fun H17 s17 => ?_
      · have hC17 := hC16.same s17
        have g17 := s17 _ _ g16
        refine ⟨_, rfl, _, rfl, _, rfl, a2, db2, _, rfl, g17, lk_moved _, _, rfl, 0, f, rfl, rfl, 0 - f, 1, rfl, rfl, a2, _, 0 - f - 1, rfl, ⟨db2, g17⟩, wj, fun b6 H18 s18 hn6 w6 => ?_⟩
        have hC18 := hC17.same s18
        refine ⟨_, rfl, b, B, p, ns, b6, _, day, rfl, hC18.bank, hC18.pap, hC18.inn, w6, wj.moved _, dy0, dy1, fun H19 s19 => ⟨_, rfl, ?_⟩⟩
        rw [hs, met_less (of_decide_eq_true hp)]
        exact hQ _ (s18.trans s19)
      · rw [Bool.and_false]
        refine iteF ?_
        have sC := s69.trans (g3.trans (sB.trans s17))
        have hL17 := hL6.same sC
        have g17 := s17 _ _ g16
        have ewl17 := sC _ _ ewl
        refine ⟨_, rfl, _, rfl, _, rfl, a2, db2, _, rfl, g17, lk_moved _, _, rfl, d, cl, _, 2, rfl, hL17.draw, by omega, by decide, by decide, fun v H20 v0 v1 k20 d20 => ?_⟩
        have hL20 := hL17.step k20 d20
        have w20 : WAt K H20 a2 ⟨e.2.1, e.2.2, f, f⟩ := WAt.keepD ⟨db2, g17⟩ hL17.draw k20
        refine ⟨a2, _, v, rfl, w20, wj, fun b5 H21 s21 hn5 w5 => ⟨(by decide : 2 ≤ sizeLine), fun q5 hq5 => ?_⟩⟩
        have s22 := s21.trans (same_new hq5 (o := .lst [.ref a2, .ref b5]))
        have ewl22 := s22 _ _ (k20 _ _ (hL17.draw.nl ewl17) ewl17)
        refine ⟨wl, q5, _, _, rfl, rfl, ewl22, upd_same, ?_, fun q6 hq6 => ?_⟩
        · unfold rfs
          rw [List.length_map, lM]
          exact Nat.le_trans (show 2 * i + 2 ≤ 16 by omega) (by decide)
        · have s23 := s22.trans (same_new hq6 (o := .lst (rfs M ++ [.ref a2, .ref b5])))
          have kk := ((KeepD.of sC).trans k20).trans (KeepD.of s23)
          refine ⟨k6.trans kk, kk _ _ (hL6.draw.ni e06 fun _ => nofun) e06, fun e he => kk _ _ (hL6.draw.ni (eT e he) fun _ => nofun) (eT e he), ?_, q6, M ++ [(a2, ⟨e.2.1, e.2.2, f, f⟩), (b5, Wd.moved ⟨e.2.1, e.2.2, f, f⟩ v)], _, _, _, _, ?_, ?_, ?_, rfl⟩
          · rw [Int.natCast_succ, ← Int.add_assoc]
            exact hL20.same s23
          · rw [upd_same]
            unfold rfs
            rw [List.map_append]
            rfl
          · rw [List.length_append, lM]
            rfl
          · intro x hx
            rcases List.mem_append.mp hx with hx | hx
            · obtain ⟨h1, h2⟩ := hM x hx
              exact ⟨h1.keepD hL6.draw kk, h2⟩
            · simp only [List.mem_cons, List.not_mem_nil, or_false] at hx
              rcases hx with rfl | rfl
              · exact ⟨w20.same s23, wj, wr⟩
              · exact ⟨w5.same ((same_new hq5).trans (same_new hq6)), wj.moved v, wr⟩
    · obtain ⟨k6, e06, eT, hL6, wl, M, y6, y7, y8, y9, ewl, lM, hM, rfl⟩ := pp
      have lT : (rfs T4).length = 4 := (List.length_map _).trans l4
      rw [lT] at lM hL6
      have lrM : (rfs M).length = M.length := List.length_map _
      have hC6 := hL6.ctx
      have hW : ∀ {H' : Hp}, Same H6 H' → WsAt K H' wl M := fun s => ⟨s _ _ ewl, fun x hx => (hM x hx).1.same s, fun x hx => (hM x hx).2.1, by omega⟩
      clear e06 eT
      refine ⟨_, rfl, wl, _, rfl, SqL.is ewl, fun D hD => ?_⟩
      refine lc_ext (walk_enum (K := K) (a := wl) (xs := rfs M)) hD (fun i => (lackI B ns M day i).map V.int) rfl (fun H2 s2 => SqL.is (s2 _ _ ewl)) (fun i hi => ?_) (fun i x H7 H8 hi sm y R0 kR Rn kRn => ?_) fun H7 s7 eD => ?_
      · unfold lackI
        rw [List.length_map, List.length_map]
        exact Nat.lt_of_le_of_lt (Nat.le_trans lack_len (show i ≤ 8 by omega)) (by decide)
      · obtain ⟨T', x1, x2, rfl, hT, rfl, e1, e2⟩ := y
        obtain rfl := Option.some.inj e1
        have e2' : (rfs M)[i]? = some x2 := e2
        obtain ⟨x, hx, rfl⟩ := refs_at e2'
        obtain ⟨wx, px, rx⟩ := hM x (List.mem_of_getElem? hx)
        have sT := same_new hT (o := .tup [.int (i : Nat), .ref x.1])
        have s8 := sm.trans sT
        have hC8 := hC6.same s8
        refine ⟨T', _, rfl, .inl (.inl upd_same), rfl, _, _, rfl, _, _, rfl, rfl, rfl, ?_⟩
        refine ⟨_, rfl, _, rfl, _, rfl, _, rfl, b, B, p, ns, x.1, x.2, day, rfl, hC8.bank, hC8.pap, hC8.inn, wx.same s8, px, dy0, dy1, fun H9 s9 => ⟨_, rfl, ?_⟩⟩
        cases em : metV x.2 (sumV B ns x.2 day) with
        | true =>
          refine iteF (kRn _ (sT.trans s9) ?_)
          unfold lackI
          rw [lack_yes hx em]
        | false =>
          refine iteT ⟨_, rfl, kR _ _ (sT.trans s9) ?_⟩
          unfold lackI
          rw [lack_no hx em, List.map_append, List.map_append]
          rfl
      · rw [lrM] at eD
        have hC7 := hC6.same s7
        refine ⟨_, rfl, _, rfl, _, rfl, _, rfl, b, B, p, ns, wl, M, day, rfl, hC7.bank, hC7.pap, hC7.inn, hW s7, dy0, dy1, fun q H8 s8 hq => ?_⟩
        obtain ⟨ps, eq, lps, hps⟩ := hq
        have lP : (ps.map V.ref).length = ps.length := List.length_map _
        refine ⟨q, rfl, ⟨_, SqL.is eq⟩, fun D2 hD2 => ?_⟩
        refine lc_ext (walk_list (K := K) (a := q) (xs := ps.map V.ref)) hD2 (fun i => ((lackI B ns M day M.length).take i).map V.int) rfl (fun H2 s2 => SqL.is (s2 _ _ eq)) (fun i hi => ?_) (fun i x H9 H10 hi sm y R0 kR Rn kRn => ?_) fun H9 s9 eD2 => ?_
        · unfold lackI
          rw [List.length_map, List.length_take, List.length_map]
          have := lack_len (B := B) (ns := ns) (M := M) (day := day) (k := M.length)
          exact Nat.lt_of_le_of_lt (show min i (lackL B ns M day M.length).length ≤ 8 by omega) (by decide)
        · obtain ⟨rfl, hx0⟩ := y
          rw [List.getElem?_map] at hx0
          obtain ⟨pa, hpa, rfl⟩ := Option.map_eq_some_iff.mp hx0
          have hi2 : i < (lackL B ns M day M.length).length := by
            rw [← lps]
            exact (List.getElem?_eq_some_iff.mp hpa).1
          have hj := List.getElem?_eq_getElem hi2
          obtain ⟨v, ev⟩ := hps i pa _ hpa hj
          refine ⟨rfl, _, rfl, pa, _, 0, _, rfl, rfl, SqT.is (sm _ _ ev), atI_zero, kR _ _ (Same.refl _) ?_⟩
          refine take_map ?_
          unfold lackI
          rw [List.getElem?_map, hj]
          rfl
        · have lI : (lackI B ns M day M.length).length = (ps.map V.ref).length := by
            unfold lackI
            rw [List.length_map, List.length_map, lps]
          rw [← lI, List.take_length] at eD2
          refine ⟨_, rfl, _, _, .lst (SqL.is eD2) (dp_ints _), .lst (SqL.is ((s8.trans s9) _ _ eD)) (dp_ints _), shaped_intsL, shaped_intsL, _, rfl, ?_⟩
          rw [eqv_self shaped_intsL]
          refine iteF ?_
          have s69 := s7.trans (s8.trans s9)
          have hC9 := hC6.same s69
          refine ⟨_, rfl, _, rfl, _, rfl, _, rfl, b, B, p, ns, wl, M, day, rfl, hC9.bank, hC9.pap, hC9.inn, hW s69, dy0, dy1, fun q2 H10 s10 eq2 => ?_⟩
          have s610 := s69.trans s10
          refine ⟨_, rfl, wl, rfl, ⟨_, SqL.is (s610 _ _ ewl)⟩, fun D3 hD3 => ?_⟩
          refine lc_ext (walk_list (K := K) (a := wl) (xs := rfs M)) hD3 (fun i => (M.take i).map fun x => V.int (sumV B ns x.2 day)) rfl (fun H2 s2 => SqL.is (s2 _ _ (s610 _ _ ewl))) (fun i hi => ?_) (fun i x H11 H12 hi sm y R0 kR Rn kRn => ?_) fun H11 s11 eD3 => ?_
          · rw [List.length_map, List.length_take]
            exact Nat.lt_of_le_of_lt (show min i M.length ≤ 8 by omega) (by decide)
          · obtain ⟨rfl, hx0⟩ := y
            obtain ⟨x, hx, rfl⟩ := refs_at hx0
            have hxm := List.mem_of_getElem? hx
            obtain ⟨wx, px, rx⟩ := hM x hxm
            have wx2 := wx.same (s610.trans sm)
            obtain ⟨dx, ex⟩ := id wx2
            refine ⟨rfl, _, rfl, _, rfl, x.1, dx, _, rfl, ex, x.1, x.2, rfl, wx2, px, fun H13 s13 => ⟨_, rfl, q2, .int (sumV B ns x.2 day), rfl, ?_, kR _ _ s13 (take_map hx)⟩⟩
            rw [← tab_val (B := B) (ns := ns) (day := day) (M := M.reverse) (fun z hz => (hM z (List.mem_reverse.mp hz)).2) x (List.mem_reverse.mpr hxm)]
            exact DGet.k (k := Sum.inr (textOf x.2)) ((sm.trans s13) _ _ eq2)
          · have s611 := s610.trans s11
            refine ⟨_, rfl, wl, rfl, ⟨_, SqL.is (s611 _ _ ewl)⟩, fun D4 hD4 => ?_⟩
            refine lc_ext (walk_list (K := K) (a := wl) (xs := rfs M)) hD4 (fun i => (M.take i).map fun x => V.int (sumV B ns x.2 day)) rfl (fun H2 s2 => SqL.is (s2 _ _ (s611 _ _ ewl))) (fun i hi => ?_) (fun i x H12 H13 hi sm y R0 kR Rn kRn => ?_) fun H12 s12 eD4 => ?_
            · rw [List.length_map, List.length_take]
              exact Nat.lt_of_le_of_lt (show min i M.length ≤ 8 by omega) (by decide)
            · obtain ⟨rfl, hx0⟩ := y
              obtain ⟨x, hx, rfl⟩ := refs_at hx0
              obtain ⟨wx, px, rx⟩ := hM x (List.mem_of_getElem? hx)
              have hC12 := hC6.same (s611.trans sm)
              exact ⟨rfl, _, rfl, _, rfl, _, rfl, _, rfl, b, B, p, ns, x.1, x.2, day, rfl, hC12.bank, hC12.pap, hC12.inn, wx.same (s611.trans sm), px, dy0, dy1, fun H14 s14 => kR _ _ s14 (take_map hx)⟩
            · rw [lrM, List.take_length] at eD3 eD4
              have eI : (M.map fun x => V.int (sumV B ns x.2 day)) = (sumsL B ns M day).map V.int := by
                unfold sumsL
                rw [List.map_map]
                rfl
              rw [eI] at eD3 eD4
              refine ⟨_, _, .lst (SqL.is (s12 _ _ eD3)) (dp_ints _), .lst (SqL.is eD4) (dp_ints _), shaped_intsL, shaped_intsL, ?_⟩
              rw [eqv_self shaped_intsL]
              have sf := s611.trans s12
              exact k _ (k6.trans (KeepD.of sf)) (hL6.same sf).draw
end
end K73

set_option Elab.async false
set_option linter.all false
set_option maxRecDepth 100000
set_option maxHeartbeats 4000000
/-! ## the law -/
namespace K73
open PySem PySem.Spec PyProof.Rows L2
theorem DrawAt.keepD {H H' : Hp} {d cl d' cl' : Addr} {n m : Int} (h : DrawAt H d' cl' n) (hd : DrawAt H d cl m) (k : KeepD d H H') (ne : d' ≠ d) : DrawAt H' d' cl' n := by
  obtain ⟨⟨a, l, e1, r⟩, ⟨cells, e2, r2⟩, r3⟩ := h
  exact ⟨⟨a, l, k _ _ ne e1, r⟩, ⟨cells, k _ _ (hd.nl e2) e2, r2⟩, r3⟩
theorem KeepS.fresh {d : Addr} {R : Qs} {H0 H1 H2 : Hp} (k1 : KeepD d H0 H1) (k2 : KeepS d R H1 H2) (hf : ∀ x ∈ R, H0 x.1 = none) : KeepD d H0 H2 := fun a u n e => k2 a u (fun z => by
  rcases z with z | ⟨x, hx, rfl⟩
  · exact n z
  · rw [hf x hx] at e
    cases e) (k1 a u n e)
theorem filt_add {α : Type} {p : α → Bool} : ∀ l : List α, (l.filter p).length + (l.filter fun x => !p x).length = l.length
  | [] => rfl
  | x :: r => by
    have := filt_add (p := p) r
    rw [List.filter_cons, List.filter_cons]
    cases e : p x with
    | true =>
      rw [if_pos rfl, if_neg (by decide), List.length_cons, List.length_cons]
      omega
    | false =>
      rw [if_neg (by decide), if_pos (by decide), List.length_cons, List.length_cons]
      omega
theorem both_len {a b : List Str} (ha : a.Nodup) (hb : b.Nodup) : (a ++ b.filter fun n => !decide (n ∈ a)).length + (a.filter fun n => decide (n ∈ b)).length = a.length + b.length := by
  have h1 : (a.filter fun n => decide (n ∈ b)).Perm (b.filter fun n => decide (n ∈ a)) := (List.perm_ext_iff_of_nodup (ha.sublist List.filter_sublist) (hb.sublist List.filter_sublist)).mpr fun k => by
    rw [List.mem_filter, List.mem_filter, decide_eq_true_eq, decide_eq_true_eq]
    exact And.comm
  have h2 := filt_add (p := fun n => decide (n ∈ a)) b
  rw [List.length_append, h1.length_eq]
  omega
theorem both_nodup {a b : List Str} (ha : a.Nodup) (hb : b.Nodup) : (a ++ b.filter fun n => !decide (n ∈ a)).Nodup := by
  rw [List.nodup_append]
  refine ⟨ha, hb.sublist List.filter_sublist, fun x hx y hy e => ?_⟩
  have := (List.mem_filter.mp hy).2
  rw [← e] at this
  simp [hx] at this
theorem Ctx9.found_row {K : PySem.W.Frag} {H : Hp} {b p l : Addr} {B : Bk} {ns : List Str} {R : Qs} {c : Nat} (h : Ctx9 K H b p l B ns R c) {z : Addr × Qd} (hz : z ∈ R) : decide (z.2.name ∈ B.inN.filter (foundB B z.2.matter z.2.toil z.2.toil "" none 0)) = !B.outs z.2.name := by
  have : z.2 ∈ R.map (·.2) := List.mem_map.mpr ⟨z, hz, rfl⟩
  rw [← h.eq] at this
  obtain ⟨x, hx, e⟩ := List.mem_map.mp this
  have hn : z.2.name ∈ B.names := List.mem_map.mpr ⟨x, hx, by rw [e]⟩
  have hf : foundB B z.2.matter z.2.toil z.2.toil "" none 0 z.2.name = true := by
    unfold foundB
    rw [← e, ofN_some h.bank hx]
    show (fB x.2 x.2.matter x.2.toil x.2.toil "" && true) = true
    unfold fB
    simp
  cases ho : B.outs z.2.name with
  | true =>
    refine decide_eq_false fun g => ?_
    have := (mem_inN.mp (List.mem_filter.mp g).1).2
    rw [ho] at this
    cases this
  | false => exact decide_eq_true (List.mem_filter.mpr ⟨mem_inN.mpr ⟨hn, ho⟩, hf⟩)
def spLaw (K : PySem.W.Frag) : Sp := fun vs H Q _ => ∃ s cells, vs = [.ref s] ∧ SqL K H s (List.map V.int cells) ∧ cells.length ≤ 63 ∧ ∀ H', Q (.bl true) H'
section
variable {P : Program} {w : World} {K : PySem.W.Frag} {mg : Str → Option Value} {base : Heap}
theorem ok_law (T : Top w K mg) : ∃ fd, FunD K "law" "law" (defArgs s_law) (defBody s_law) (defScope s_law) [] [] (He.ga K "law") fd ∧ ∀ base : Heap, FnOk P w K mg base C8.CX0 9 (He.ga K "law") fd ["_law_script"] (spLaw K) := by
  obtain ⟨fd, F⟩ := T.d_law
  refine ⟨fd, F, fun base => ok_of F sc_law (fun vs H Q E h => ?_) fun cdv A outer s H vs Q E hr h => ?_⟩
  · obtain ⟨s, cells, rfl, _⟩ := h
    rfl
  · obtain ⟨s0, cells, rfl, hs, hl, k⟩ := h
    have hu := hu_of hr
    refine ⟨_, (pss_cons (ps_for PassesOwn.never rfl (pi_list (C8.pe_c (cal_l_draws T) hr (by decide) (by rfl) (pa_cons (pv 0) pa_nil))) (pg_name (i := 1) sc_law.nd rfl (Or.inl rfl)) (pss_cons (ps_set (i := 2) sc_law.nd rfl (Or.inl rfl) (C8.pe_c (cal_l_rows T) hr (by decide) (by rfl) (pa_cons (pv 1) (pa_cons pe_int pa_nil))))
      (pss_cons (ps_set (i := 3) sc_law.nd rfl (Or.inl rfl) (C8.pe_c (cal_l_bank T) hr (by decide) (by rfl) (pa_cons (pv 1) (pa_cons (pv 2) pa_nil))))
      (pss_cons (ps_asg (pe_tup (pa_cons (C8.pe_c (cal_l_paper T) hr (by decide) (by rfl) (pa_cons (pv 1) (pa_cons (pv 2) pa_nil))) (pa_cons (C8.pe_c (cal_l_paper T) hr (by decide) (by rfl) (pa_cons (pv 1) (pa_cons (pv 2) pa_nil))) pa_nil))) (pg_tup rfl (pgs_cons (pg_name (i := 4) sc_law.nd rfl (Or.inr rfl)) (pgs_cons (pg_name (i := 5) sc_law.nd rfl (Or.inl rfl)) pgs_nil))))
      (pss_cons (ps_set (i := 6) sc_law.nd rfl (Or.inl rfl) (C8.pe_c (cal_paper_of T) hr (by decide) (by rfl) (pa_cons (pe_op op_cat (pe_callTy call_list_of (by rfl) T.f_list b_list (pa_cons (pv 4) pa_nil)) (pe_lc (own := [("_law_name", 10)]) (g := gName 10) rfl sc_law.nd (pi_tup (pv 5)) (blkOk_by (N := N_law) (sc := defScope s_law) (by decide +kernel)) (fun _ _ _ _ _ => (pg_name (i := 10) sc_law.nd rfl (Or.inl rfl))) (fun _ _ _ _ _ => (pts_one (pt_cmpR (op_notIn_seqK K) (pv 10) (pv 4) (by rfl)))) (fun _ _ _ _ _ => (pv 10)))) pa_nil)))
      (pss_cons (ps_if (pt_cmpR op_ne (pe_callB call_len_seq (by rfl) T.f_len b_len (pa_cons (pv 6) pa_nil)) (pe_op op_sub (pe_op op_add (pe_callB call_len_seq (by rfl) T.f_len b_len (pa_cons (pv 4) pa_nil)) (pe_callB call_len_seq (by rfl) T.f_len b_len (pa_cons (pv 5) pa_nil))) (pe_callB call_len_seq (by rfl) T.f_len b_len (pa_cons (C8.pe_c (cal_shared T) hr (by decide) (by rfl) (pa_cons (pv 4) (pa_cons (pv 5) pa_nil))) pa_nil))) (nomark _)) (pss_one (ps_ret pe_bl)) pss_nil)
      (pss_cons (ps_for PassesOwn.never rfl (pi_tup (pe_tup (pa_cons (pv 4) (pa_cons (pv 6) pa_nil)))) (pg_name (i := 7) sc_law.nd rfl (Or.inl rfl)) (pss_cons (ps_if (PW.pt (pw_or (pt_not (pt_val (C8.pe_c (cal_l_whole_right T) hr (by decide) (by rfl) (pa_cons (pv 3) (pa_cons (pv 7) (pa_cons (pv 2) pa_nil)))))) (pw_or1 (pt_not (pt_val (C8.pe_c (cal_l_days_right T) hr (by decide) (by rfl) (pa_cons (pv 1) (pa_cons (pv 3) (pa_cons (pv 7) pa_nil))))))))) (pss_one (ps_ret pe_bl)) pss_nil)
      (pss_one (ps_if (pt_not (pt_val (C8.pe_c (cal_l_met_right T) hr (by decide) (by rfl) (pa_cons (pv 1) (pa_cons (pv 3) (pa_cons (pv 7) (pa_cons (pv 2) (pa_cons (C8.pe_c (cal_l_take T) hr (by decide) (by rfl) (pa_cons (pv 1) (pa_cons pe_int pa_nil))) pa_nil)))))))) (pss_one (ps_ret pe_bl)) pss_nil))))
      (pss_one (ps_for PassesOwn.never rfl (pi_list (pv 2)) (pg_name (i := 8) sc_law.nd rfl (Or.inl rfl)) (pss_cons (ps_set (i := 9) sc_law.nd rfl (Or.inl rfl) (pe_mtN0 (metN_B_found_0_matter_least_most T) hr (by decide) (pv 3) (pk_cons (pe_dget hu (pv 8) pe_str (fun _ _ => rfl)) (pk_cons (pe_dget hu (pv 8) pe_str (fun _ _ => rfl)) (pk_cons (pe_dget hu (pv 8) pe_str (fun _ _ => rfl)) pk_nil)))))
      (pss_one (ps_if (pt_cmpR op_ne (pe_cmpR op_in_seq (pe_dget hu (pv 8) pe_str (fun _ _ => rfl)) (pv 9) (by rfl)) (pe_not (pe_dget hu (pv 8) pe_str (fun _ _ => rfl))) (nomark _)) (pss_one (ps_ret pe_bl)) pss_nil))))))))))))
      (pss_one (ps_ret pe_bl))), ?_⟩
    refine ⟨_, rfl, s0, cells, rfl, hs, by omega, fun p D H0 s00 ep hD => ?_⟩
    refine ⟨p, rfl, ⟨_, SqL.is ep⟩, ?_⟩
    refine for_it (walk_list (K := K) (a := p) (xs := dfs D)) (fun i σ H' => H' p = some (.lst (dfs D)) ∧ (∀ j x, i ≤ j → D[j]? = some x → DrawAt H' x.1 x.2 700) ∧ ∃ y1 y2 y3 y4 y5 y6 y7 y8 y9 y10, σ = [some (.ref s0), y1, y2, y3, y4, y5, y6, y7, y8, y9, y10])
      ⟨ep, fun j x _ hx => hD.draw x (List.mem_of_getElem? hx), _, _, _, _, _, _, _, _, _, _, rfl⟩ (fun i σ H' _ pp => SqL.is pp.1) (fun i x σ Hz H hi pp y => ?_) fun σ H pp => ?_
    · obtain ⟨ep, hDr, y1, y2, y3, y4, y5, y6, y7, y8, y9, y10, rfl⟩ := pp
      obtain ⟨rfl, hx0⟩ := y
      unfold dfs at hx0
      rw [List.getElem?_map] at hx0
      obtain ⟨⟨d, cl⟩, hx, rfl⟩ := Option.map_eq_some_iff.mp hx0
      have hd : DrawAt H d cl 700 := hDr i _ (Nat.le_refl _) hx
      refine ⟨_, rfl, d, cl, 700, rfl, hd, by decide, fun l R H1 hR hfr hl k1 d1 => ?_⟩
      have hnd : ∀ x ∈ R, x.1 ≠ d := fun x hx => hd.nd (hfr x hx)
      refine ⟨_, rfl, _, rfl, d, cl, l, 900, R, rfl, d1, by decide, hR, hnd, fun b L B H2 h2 eL => ?_⟩
      have k2 := KeepS.fresh k1 h2.keep hfr
      refine ⟨_, rfl, _, rfl, d, cl, l, 1100, 60, R, B.outs, rfl, h2.draw, by decide, h2.rows, h2.one, h2.nd, fun p1 ns1 H3 hp1 hin1 k3 hn1 d3 => ?_⟩
      have h3 := h2.step k3 d3
      refine ⟨_, rfl, _, rfl, d, cl, l, 1120, 60, R, B.outs, rfl, d3, by decide, h3.rows, h3.one, h3.nd, fun p2 ns2 H4 hp2 hin2 k4 hn2 d4 => ?_⟩
      have h4 := h3.step k4 d4
      have hp14 := hp1.keepD d3 k4
      refine ⟨(by decide : 2 ≤ sizeLine), fun T5 hT5 => ?_⟩
      have s5 := same_new hT5 (o := .tup [.ref p1, .ref p2])
      have h5 := h4.same s5
      have hp15 := hp14.same s5
      have hp25 := hp2.same s5
      refine ⟨T5, _, rfl, .inl (.inl upd_same), rfl, _, _, rfl, _, _, rfl, rfl, ?_⟩
      have k5 := ((k2.trans k3).trans k4).trans (KeepD.of s5)
      have hin5 : ∀ n ∈ insR R B.outs, n ∈ B.inN := fun n hn => by
        obtain ⟨x, hx, rfl, ho⟩ := mem_insR.mp hn
        refine mem_inN.mpr ⟨?_, ho⟩
        have : x.2 ∈ R.map (·.2) := List.mem_map.mpr ⟨x, hx, rfl⟩
        rw [← eL, ← h5.eL] at this
        obtain ⟨z, hz, e⟩ := List.mem_map.mp this
        exact List.mem_map.mpr ⟨z, hz, by rw [← e]⟩
      have eq5 : B.L.map (·.2) = R.map (·.2) := by rw [h5.eL, eL]
      have c1 : Ctx9 K _ b p1 l B ns1 R 60 := ⟨h5.bank, hp15, fun n hn => hin5 n (hin1 n hn), h5.rows, eq5⟩
      have c2 : Ctx9 K _ b p2 l B ns2 R 60 := ⟨h5.bank, hp25, fun n hn => hin5 n (hin2 n hn), h5.rows, eq5⟩
      have n13 := c1.len13
      have n23 := c2.len13
      have nd1 := ris_nodup hp1.2.ris
      have nd2 := ris_nodup hp2.2.ris
      have lN2 : (ns2.map V.str).length = ns2.length := List.length_map _
      refine ⟨_, rfl, p1, _, rfl, .inr (SqT.is hp15.1), fun r hr => ?_⟩
      have sr := same_new hr (o := .lst (ns1.map V.str))
      refine ⟨_, rfl, p2, rfl, ⟨_, SqT.is (sr _ _ hp25.1)⟩, fun D2 hD2 => ?_⟩
      refine lc_ext (walk_tup (K := K) (a := p2) (xs := ns2.map V.str)) hD2 (fun i => ((ns2.take i).filter fun n => !decide (n ∈ ns1)).map V.str) rfl (fun H2 s2 => SqT.is (s2 _ _ (sr _ _ hp25.1))) (fun i hi => ?_) (fun i x H7 H8 hi sm y R0 kR Rn kRn => ?_) fun H7 s7 eD2 => ?_
      · rw [List.length_map]
        exact Nat.lt_of_le_of_lt (len_filter n23) (by decide)
      · obtain ⟨rfl, hx0⟩ := y
        obtain ⟨n, hn, rfl⟩ := str_at hx0
        refine ⟨rfl, _, rfl, _, rfl, p1, _, rfl, .inr (SqT.is (sm _ _ (sr _ _ hp15.1))), rfl, flat_strs _, _, rfl, ?_⟩
        rw [if_pos rfl, inV_str]
        by_cases e : n ∈ ns1
        · rw [decide_eq_true e]
          exact iteF (kRn _ (Same.refl _) (by rw [take_no hn (by rw [decide_eq_true e]; rfl)]))
        · rw [decide_eq_false e]
          exact iteT ⟨_, rfl, kR _ _ (Same.refl _) (by rw [take_yes hn (by rw [decide_eq_false e]; rfl), List.map_append]; rfl)⟩
      rw [lN2, List.take_length] at eD2
      have l2f : (ns2.filter fun n => !decide (n ∈ ns1)).length ≤ ns2.length := List.length_filter_le _ _
      refine ⟨r, D2, _, _, rfl, rfl, s7 _ _ upd_same, eD2, ?_, fun q hq => ?_⟩
      · rw [List.length_map, List.length_map]
        exact Nat.le_trans (show ns1.length + (ns2.filter fun n => !decide (n ∈ ns1)).length ≤ 26 by omega) (by decide)
      rw [← List.map_append]
      have bn := both_nodup nd1 nd2
      have bl := both_len nd1 nd2
      have bm : ∀ n ∈ ns1 ++ ns2.filter (fun n => !decide (n ∈ ns1)), n ∈ insR R B.outs := fun n hn => by
        rcases List.mem_append.mp hn with hn | hn
        · exact hin1 n hn
        · exact hin2 n (List.mem_filter.mp hn).1
      have bN : ∀ n ∈ ns1 ++ ns2.filter (fun n => !decide (n ∈ ns1)), NameP n := fun n hn => by
        rcases List.mem_append.mp hn with hn | hn
        · exact hp1.2.name n hn
        · exact hp2.2.name n (List.mem_filter.mp hn).1
      have b1 := hp1.2.one
      have blen : (ns1 ++ ns2.filter (fun n => !decide (n ∈ ns1))).length = ns1.length + (ns2.filter fun n => !decide (n ∈ ns1)).length := List.length_append
      refine ⟨q, _, rfl, upd_same, by omega, by omega, bN, bn, fun p3 H9 s9 hp3 e9 => ?_⟩
      have hpap3 := pap_srt (by omega) (by omega) bN bn
      have sm3 : ∀ n ∈ srtS (ns1 ++ ns2.filter (fun n => !decide (n ∈ ns1))), n ∈ insR R B.outs := fun n hn => bm n ((srt_perm _).mem_iff.mp hn)
      have sl3 := (srt_perm (ns1 ++ ns2.filter (fun n => !decide (n ∈ ns1)))).length_eq
      generalize srtS (ns1 ++ ns2.filter (fun n => !decide (n ∈ ns1))) = ns3 at *
      have s59 := ((sr.trans s7).trans (same_new hq)).trans s9
      have c19 := c1.same s59
      have hp29 := hp25.same s59
      have c39 : Ctx9 K H9 b p3 l B ns3 R 60 := ⟨c19.bank, ⟨e9, hpap3⟩, fun n hn => hin5 n (sm3 n hn), c19.rows, eq5⟩
      have d9 := h5.draw.same s59
      have k9 := k5.trans (KeepD.of s59)
      refine ⟨_, rfl, p3, _, rfl, .inr (SqT.is e9), _, rfl, p1, _, rfl, .inr (SqT.is c19.pap.1), _, rfl, p2, _, rfl, .inr (SqT.is hp29.1), _, _, rfl, rfl, _, rfl, _, rfl, p1, ns1, p2, ns2, rfl, c19.pap, hp29, fun l9 H10 s10 hn10 e10 => ⟨l9, _, rfl, .inl (SqL.is e10), _, _, rfl, rfl, rfl, _, rfl, ?_⟩⟩
      rw [show (((ns3.map V.str).length : Nat) : Int) = (((ns1.map V.str).length : Nat) : Int) + (((ns2.map V.str).length : Nat) : Int) - ((((ns1.filter fun n => decide (n ∈ ns2)).map V.str).length : Nat) : Int) by
        rw [List.length_map, List.length_map, List.length_map, List.length_map]
        omega, same_int]
      refine iteF ⟨_, rfl, _, rfl, (by decide : 2 ≤ sizeLine), fun t6 h6 => ⟨t6, rfl, ⟨_, SqT.is upd_same⟩, ?_⟩⟩
      have s11 := s10.trans (same_new h6 (o := .tup [.ref p1, .ref p3]))
      have ap := h5.ap
      refine for_it (walk_tup (K := K) (a := t6) (xs := [V.ref p1, V.ref p3])) (fun i σ H' => KeepD d H H' ∧ H' t6 = some (.tup [V.ref p1, V.ref p3]) ∧ DrawAt H' d cl (1140 + 10 * (i : Int)) ∧ Ctx9 K H' b p1 l B ns1 R 60 ∧ Ctx9 K H' b p3 l B ns3 R 60 ∧
        ∃ y7, σ = [some (.ref s0), some (.ref d), some (.ref l), some (.ref b), some (.ref p1), some (.ref p2), some (.ref p3), y7, y8, y9, y10])
        ⟨k9.trans (KeepD.of s11), upd_same, (d9.same s11).more (by omega), c19.same s11, c39.same s11, _, rfl⟩ (fun i σ H' _ pp => SqT.is pp.2.1) (fun i x σ Hz H12 hi pp y => ?_) fun σ H12 pp => ?_
      · obtain ⟨k12, et6, d12, c112, c312, y7, rfl⟩ := pp
        obtain ⟨rfl, hx0⟩ := y
        obtain ⟨pp, nsx, rfl, cx⟩ : ∃ pp nsx, x = V.ref pp ∧ Ctx9 K H12 b pp l B nsx R 60 := by
          match i, hi, hx0 with
          | 0, _, hx0 =>
            injection hx0 with hx0
            exact ⟨p1, ns1, hx0.symm, c112⟩
          | 1, _, hx0 =>
            injection hx0 with hx0
            exact ⟨p3, ns3, hx0.symm, c312⟩
        have hi2 : i < 2 := hi
        have cc : ∀ {H13 : Hp} {m : Int}, KeepD d H12 H13 → DrawAt H13 d cl m → Law9 K H13 b pp d cl l B nsx R 60 m := fun kk hd' => ⟨cx.keepD d12 ap hnd kk, hd', ap, hnd⟩
        refine ⟨_, rfl, _, rfl, _, rfl, b, pp, l, B, nsx, R, 60, rfl, cx, fun H13 s13 => ⟨_, rfl, iteF ?_⟩⟩
        refine ⟨_, rfl, _, rfl, _, rfl, b, pp, d, cl, l, B, nsx, R, 60, _, rfl, cc (KeepD.of s13) (d12.same s13), by omega, fun H14 k14 d14 => ⟨_, rfl, iteF ?_⟩⟩
        have kk14 := (KeepD.of s13).trans k14
        refine ⟨_, rfl, _, rfl, _, rfl, _, rfl, _, rfl, d, cl, _, 50, rfl, d14, by omega, by decide, by decide, fun v H15 v0 v1 k15 d15 => ?_⟩
        have kk15 := kk14.trans k15
        refine ⟨b, pp, d, cl, l, B, nsx, R, 60, _, v, rfl, cc kk15 d15, by omega, v0, by omega, fun H16 k16 d16 => ⟨_, rfl, iteF ?_⟩⟩
        have kk16 := kk15.trans k16
        exact ⟨k12.trans kk16, kk16 _ _ (d12.ni et6 fun _ => nofun) et6, d16.more (by omega), c112.keepD d12 ap hnd kk16, c312.keepD d12 ap hnd kk16, _, rfl⟩
      · obtain ⟨k12, et6, d12, c112, c312, y7, rfl⟩ := pp
        have rw12 := c112.rows
        refine ⟨_, rfl, l, rfl, ⟨_, SqL.is rw12.lst⟩, ?_⟩
        refine for_it (walk_list (K := K) (a := l) (xs := rfs R)) (fun i σ H' => Same H12 H' ∧ ∃ y8 y9, σ = [some (.ref s0), some (.ref d), some (.ref l), some (.ref b), some (.ref p1), some (.ref p2), some (.ref p3), y7, y8, y9, y10])
          ⟨Same.refl _, _, _, rfl⟩ (fun i σ H' _ pp => SqL.is (pp.1 _ _ rw12.lst)) (fun i x σ Hz H13 hi pp y => ?_) fun σ H13 pp => ?_
        · obtain ⟨s13, y8, y9, rfl⟩ := pp
          obtain ⟨rfl, hx0⟩ := y
          obtain ⟨z, hz, rfl⟩ := refs_at hx0
          have hzm := List.mem_of_getElem? hz
          have c13 := c112.same s13
          obtain ⟨dl, ds, ez, _⟩ := c13.rows.row z hzm
          have dg : ∀ {H' : Hp} {k : Str} {v : V}, Same H13 H' → valV (rowD z.2 dl (B.outs z.2.name)) (Sum.inr k) = some v → DGet H' z.1 (.str k) (some v) := fun {H' k v} s e => by
            rw [← e]
            exact DGet.k (k := Sum.inr k) (s _ _ ez)
          refine ⟨_, rfl, b, B.dx, _, rfl, c13.bank.ins, lk_b_found B, _, rfl, z.1, _, rfl, dg (Same.refl _) rv_matter, _, rfl, z.1, _, rfl, dg (Same.refl _) rv_toil, _, rfl, z.1, _, rfl, dg (Same.refl _) rv_toil, rfl, rfl, b, B, z.2.matter, z.2.toil, z.2.toil, "", none, 0, rfl, c13.bank, (fun _ e => nomatch e), fun q H14 s14 hq e14 => ?_⟩
          refine ⟨_, rfl, z.1, _, rfl, dg s14 rv_name, _, rfl, q, _, rfl, .inl (SqL.is e14), rfl, flat_strs _, _, rfl, z.1, _, rfl, dg s14 rv_out, _, rfl, rfl, _, rfl, ?_⟩
          rw [if_neg Bool.false_ne_true, inV_str, c112.found_row hzm]
          have eb : ∀ o : Bool, (!decide (V.bl (!o) = V.bl (!o))) = false := fun o => by
            rw [decide_eq_true rfl]
            rfl
          rw [eb]
          exact iteF ⟨s13.trans s14, _, _, rfl⟩
        · obtain ⟨s13, y8, y9, rfl⟩ := pp
          have kf := k12.trans (KeepD.of s13)
          refine ⟨kf _ _ (hd.nl ep) ep, fun j z hij hz => ?_, _, _, _, _, _, _, _, _, _, _, rfl⟩
          refine (hDr j z (by omega) hz).keepD hd kf fun ez => ?_
          have h1 : (D.map (·.1))[j]? = some d := by
            rw [List.getElem?_map, hz]
            exact congrArg some ez
          have h2 : (D.map (·.1))[i]? = some d := by
            rw [List.getElem?_map, hx]
            rfl
          obtain ⟨j1, q1⟩ := List.getElem?_eq_some_iff.mp h1
          obtain ⟨i1, q2⟩ := List.getElem?_eq_some_iff.mp h2
          exact List.pairwise_iff_getElem.mp hD.nod i j i1 j1 (by omega) (q2.trans q1.symm)
    · obtain ⟨ep, hDr, y1, y2, y3, y4, y5, y6, y7, y8, y9, y10, rfl⟩ := pp
      exact k _
end
end K73

set_option Elab.async false
set_option linter.all false
set_option maxRecDepth 100000
set_option maxHeartbeats 0
namespace K73
open PySem PySem.Spec PyProof.Rows L2
theorem facts {P : Program} {w : World} {K : PySem.W.Frag} {h : Heap} {mg : Str → Option Value} {f : Addr} (X : K.In h) (G : h.Ns mainGlobals mg) (hfa : mg ("law" : Str) = some (.ref f)) (c : He.SaysX fa fn ts [] ex w h K) :
    ∃ fd : FuncData, (∀ (s : Shared) (v : Value), BindsTo s fd ⟨[v], []⟩ [("_law_script", v)]) ∧ ∀ base : Heap, K.In base → base.Ns mainGlobals mg → FnOk P w K mg base C8.CX0 9 f fd ["_law_script"] (spLaw K) := by
  have T : Top w K mg := Top.of X G c.t c.more
  obtain ⟨fd, F, G3⟩ := ok_law (P := P) T
  have e : f = He.ga K "law" := by
    have g := T.g_law
    rw [hfa] at g
    injection g with g
    injection g
  subst e
  have b := FunD.bindsA (ps := ["_law_script"]) F fun _ _ _ _ _ _ us hl => match us, hl with | [_], _ => rfl
  exact ⟨fd, fun s v => b s [v] rfl, fun base _ _ => G3 base⟩
end K73
open PySem PySem.W PySem.Calls PyProof.Rows
theorem PySem.Challenge.cw_paperkin_k73_whole_sums_hang_together_holds : PySem.Challenge.rw_paperkin_k73_whole_sums_hang_together.Holds := by
  w_on; o_law
  refine HandSHeadRun.head_any (r := OpenLaw.row PySem.Challenge.rw_paperkin_k73_whole_sums_hang_together) (q := view (OpenLaw.row PySem.Challenge.rw_paperkin_k73_whole_sums_hang_together).prog [84]) (H := K73.hk) (ob := K73.ob) (M := 8000) (loose := K73.loose) (d := HandSHeadRun.topDef (OpenLaw.row PySem.Challenge.rw_paperkin_k73_whole_sums_hang_together).prog 84) (kwd := []) K73.ob_eq
    (by kernel_rfl) (fun s => by kernel_rfl) K73.run (by kernel_rfl) (by kernel_rfl) (by kernel_rfl) (by rfl) (by first | assumption | decide +kernel) (by decide +kernel) ⟨rfl, rfl, rfl, rfl, rfl, by decide +kernel⟩ ?hw ?hc
  case hw => w_witness2
  case hc =>
    refine L2.walk_ofE (l := PySem.Challenge.rw_paperkin_k73_whole_sums_hang_together) (n := 63) (k := 9) (x := "_law_script") (CX := C8.CX0) rfl (by decide) (by kernel_rfl) ⟨rfl, by decide, by decide⟩ ?F (fun _ _ _ _ z => z)
    intro w mg fa h Y G hmg0
    obtain ⟨K, KX, c⟩ := Y
    have hmg : mg ("law" : PySem.Str) = some (.ref fa) := by
      have e : (HandSHeadRun.topDef (OpenLaw.row PySem.Challenge.rw_paperkin_k73_whole_sums_hang_together).prog 84).name = ("law" : PySem.Str) := by kernel_rfl
      rw [← e]
      exact hmg0
    obtain ⟨fd, hb, hF⟩ := K73.facts (P := (PySem.Challenge.rw_paperkin_k73_whole_sums_hang_together).prog) (w := w) KX G hmg c
    exact ⟨K, fd, K73.spLaw K, KX, hb, fun H a ns hl _ hS => ⟨a, ns, rfl, hS, hl, fun _ => rfl⟩, hF⟩
