import PyProof.Rows.All
import Wide.All
import OpenK.AllK
import Wide.FinOn
import HandS.Base
import HandS.Call
import HandS.List
import HandS.Comp
import HandS.Ends
import HandS.Dict
import HandS.Iter
import HandS.Text
import HandS.Words
import HandS.WordsList
import HandS.WordsDict
import HandS.More
import HandS.Defaults
import HandS.Flow
import HandS.Style
import HandS.Wide
import HandS.WideMore
import HandS.Star
import HandS.MethStar
import HandS.ClsMeth
import HandS.Property
import HandS.DictComp
import HandS.TupLe
import HandS.IsInst
import HandS.Lambda
import HandS.EndTab
import HandS.HeadWalk
import HandS.HeadHook1
import HandS.HeadHook2
import HandS.HeadNt
import HandS.Head0
import HandS.Head1
import HandS.Head2
import HandS.Zip
import HandS.Walk
import HandS.Evl
import HandS.Nested
import KE.SortKeyHeap
import KE.KSuperObj
import HandS.HeadHook4
import HandS.Conv
import KE.KSuper
import PySem.Challenge.RW_firstanswers_k46_whole_one_letter_and_li
set_option Elab.async false
set_option linter.all false
set_option maxRecDepth 100000
set_option maxHeartbeats 4000000
namespace Fa
open PySem PySem.Spec PyProof.Rows L2
/-- the def's record at an address; a property's getter -/
def fdOf (K : PySem.W.Frag) (a : Addr) : FuncData := match K.lookup a with
  | some ⟨_, _, .func fd, _⟩ => fd
  | _ => PySem.W.fnOf Str.empty Str.empty ⟨[], [], none, [], [], none, []⟩ [] { kind := .function, names := [], isGenerator := false, isCoroutine := false } .none .none .none .none none .none .none
def prG (K : PySem.W.Frag) (C : Addr) (f : Str) : Addr := match PySem.W.recIn K (He.ma K C f) "property" with
  | some (.ref g :: _) => g
  | _ => 0
/-! ### the text by places (printed by gen.py) -/
def top (i : Nat) : Stmt := PySem.Challenge.pw_firstanswers_k46_whole_one_letter_and_li.main.body.getD i (.Pass ⟨0, 0, 0, 0⟩)
abbrev s_is_integer : Stmt := top 26
abbrev s_is_between : Stmt := top 27
abbrev s_are_letters : Stmt := top 29
abbrev s_is_word : Stmt := top 30
abbrev s_need_word : Stmt := top 31
abbrev s_without : Stmt := top 34
abbrev s_most_answers : Stmt := top 38
abbrev s_need_answers : Stmt := top 39
abbrev s_grid_of : Stmt := top 40
abbrev s_answers_on : Stmt := top 42
abbrev s_parts_of : Stmt := top 47
abbrev s_power : Stmt := top 48
abbrev s_is_witness : Stmt := top 49
abbrev s_is_prime : Stmt := top 50
abbrev s_ten_to : Stmt := top 51
abbrev s_is_short : Stmt := top 52
abbrev s_Grid_init : Stmt := inClass (top 36) 0
abbrev s_Grid_known_value : Stmt := inClass (top 36) 1
abbrev s_Grid_column_count : Stmt := inClass (top 36) 2
abbrev s_Grid_known_row : Stmt := inClass (top 36) 3
abbrev s_Grid_is_later : Stmt := inClass (top 36) 4
abbrev s_Grid_basis_words : Stmt := inClass (top 36) 5
abbrev s_Grid_shares_in : Stmt := inClass (top 36) 6
abbrev s_Grid_in_basis_words : Stmt := inClass (top 36) 7
abbrev s_Grid_combination : Stmt := inClass (top 36) 8
abbrev s_Grid_forced_prefixes : Stmt := inClass (top 36) 9
abbrev s_Grid_forced_number : Stmt := inClass (top 36) 10
abbrev s_Grid_take : Stmt := inClass (top 36) 11
abbrev s_Grid_joined_shares : Stmt := inClass (top 36) 12
abbrev s_Grid_extend : Stmt := inClass (top 36) 13
abbrev s_Grid_pivot_value : Stmt := inClass (top 36) 14
abbrev s_Grid_size_now : Stmt := inClass (top 36) 16
abbrev s_Grid_border_words : Stmt := inClass (top 36) 17
abbrev s_Answers_init : Stmt := inClass (top 41) 0
abbrev s_Answers_keep : Stmt := inClass (top 41) 1
abbrev s_Answers_given : Stmt := inClass (top 41) 2
abbrev s_Answers_size : Stmt := inClass (top 41) 8
abbrev s_Answers_basis : Stmt := inClass (top 41) 9
abbrev s_Answers_borders : Stmt := inClass (top 41) 10
abbrev s_Answers_profile : Stmt := inClass (top 41) 23
abbrev s_Field_init : Stmt := inClass (top 54) 1
abbrev s_Field_is_number : Stmt := inClass (top 54) 14
abbrev s_Field_subtract : Stmt := inClass (top 54) 11
abbrev s_Modulo_init : Stmt := inClass (top 55) 0
abbrev s_Modulo_is_any : Stmt := inClass (top 55) 1
abbrev s_Modulo_add : Stmt := inClass (top 55) 2
abbrev s_Modulo_negative : Stmt := inClass (top 55) 3
abbrev s_Modulo_multiply : Stmt := inClass (top 55) 4
abbrev s_Modulo_divide : Stmt := inClass (top 55) 5
abbrev s_Order_init : Stmt := inClass (top 57) 0
abbrev s_Order_letters : Stmt := inClass (top 57) 4
abbrev s_Order_cost_of : Stmt := inClass (top 57) 7
abbrev s_Order_key : Stmt := inClass (top 57) 8
abbrev s_Order_below : Stmt := inClass (top 57) 9
abbrev s_Order_count_next : Stmt := inClass (top 57) 10
abbrev s_Order_counts_to : Stmt := inClass (top 57) 11
abbrev s_Order_filled : Stmt := inClass (top 57) 12
abbrev s_Order_is_possible : Stmt := inClass (top 57) 13
abbrev s_Order_neighbor : Stmt := inClass (top 57) 14
abbrev s_Order_follower : Stmt := inClass (top 57) 15
abbrev s_Order_is_before : Stmt := inClass (top 57) 19
abbrev s_Order_sorted_words : Stmt := inClass (top 57) 20
abbrev s_Order_after : Stmt := inClass (top 57) 23
abbrev s_law_rule_lengths : Stmt := top 59
abbrev s_law_pen : Stmt := top 60
abbrev s_law_draw : Stmt := top 61
abbrev s_law_pick : Stmt := top 62
abbrev s_law_shuffled : Stmt := top 63
abbrev s_law_prime : Stmt := top 64
abbrev s_law_letters : Stmt := top 65
abbrev s_law_inverse : Stmt := top 66
abbrev s_law_number : Stmt := top 67
abbrev s_law : Stmt := top 68
abbrev N_is_integer : List Str := ["value"]
theorem sc_is_integer : FnScope N_is_integer ["value"] (defScope s_is_integer) := ⟨rfl, rfl, rfl, by decide +kernel, rfl, by decide +kernel, by decide +kernel⟩
abbrev N_is_between : List Str := ["value", "least", "most"]
theorem sc_is_between : FnScope N_is_between ["value", "least", "most"] (defScope s_is_between) := ⟨rfl, rfl, rfl, by decide +kernel, rfl, by decide +kernel, by decide +kernel⟩
abbrev N_are_letters : List Str := ["value", "place", "letter"]
theorem sc_are_letters : FnScope N_are_letters ["value"] (defScope s_are_letters) := ⟨rfl, rfl, rfl, by decide +kernel, rfl, by decide +kernel, by decide +kernel⟩
abbrev N_is_word : List Str := ["letters", "value", "most", "letter"]
theorem sc_is_word : FnScope N_is_word ["letters", "value", "most"] (defScope s_is_word) := ⟨rfl, rfl, rfl, by decide +kernel, rfl, by decide +kernel, by decide +kernel⟩
abbrev N_need_word : List Str := ["letters", "value", "most"]
theorem sc_need_word : FnScope N_need_word ["letters", "value", "most"] (defScope s_need_word) := ⟨rfl, rfl, rfl, by decide +kernel, rfl, by decide +kernel, by decide +kernel⟩
abbrev N_without : List Str := ["field", "row", "factor", "other", "one", "two"]
theorem sc_without : FnScope N_without ["field", "row", "factor", "other"] (defScope s_without) := ⟨rfl, rfl, rfl, by decide +kernel, rfl, by decide +kernel, by decide +kernel⟩
abbrev N_most_answers : List Str := ["field"]
theorem sc_most_answers : FnScope N_most_answers ["field"] (defScope s_most_answers) := ⟨rfl, rfl, rfl, by decide +kernel, rfl, by decide +kernel, by decide +kernel⟩
abbrev N_need_answers : List Str := ["field", "ahead", "numbers", "place", "number"]
theorem sc_need_answers : FnScope N_need_answers ["field", "ahead", "numbers"] (defScope s_need_answers) := ⟨rfl, rfl, rfl, by decide +kernel, rfl, by decide +kernel, by decide +kernel⟩
abbrev N_grid_of : List Str := ["field", "order", "numbers", "found", "number"]
theorem sc_grid_of : FnScope N_grid_of ["field", "order", "numbers"] (defScope s_grid_of) := ⟨rfl, rfl, rfl, by decide +kernel, rfl, by decide +kernel, by decide +kernel⟩
abbrev N_answers_on : List Str := ["grid", "found"]
theorem sc_answers_on : FnScope N_answers_on ["grid"] (defScope s_answers_on) := ⟨rfl, rfl, rfl, by decide +kernel, rfl, by decide +kernel, by decide +kernel⟩
abbrev N_parts_of : List Str := ["number"]
theorem sc_parts_of : FnScope N_parts_of ["number"] (defScope s_parts_of) := ⟨rfl, rfl, rfl, by decide +kernel, rfl, by decide +kernel, by decide +kernel⟩
abbrev N_power : List Str := ["number", "times", "modulus", "found"]
theorem sc_power : FnScope N_power ["number", "times", "modulus"] (defScope s_power) := ⟨rfl, rfl, rfl, by decide +kernel, rfl, by decide +kernel, by decide +kernel⟩
abbrev N_is_witness : List Str := ["number", "value", "odd", "halves", "found", "turn"]
theorem sc_is_witness : FnScope N_is_witness ["number", "value"] (defScope s_is_witness) := ⟨rfl, rfl, rfl, by decide +kernel, rfl, by decide +kernel, by decide +kernel⟩
abbrev N_is_prime : List Str := ["value", "prime", "number"]
theorem sc_is_prime : FnScope N_is_prime ["value"] (defScope s_is_prime) := ⟨rfl, rfl, rfl, by decide +kernel, rfl, by decide +kernel, by decide +kernel⟩
abbrev N_ten_to : List Str := ["digits", "found", "turn"]
theorem sc_ten_to : FnScope N_ten_to ["digits"] (defScope s_ten_to) := ⟨rfl, rfl, rfl, by decide +kernel, rfl, by decide +kernel, by decide +kernel⟩
abbrev N_is_short : List Str := ["number", "digits", "most", "part"]
theorem sc_is_short : FnScope N_is_short ["number", "digits"] (defScope s_is_short) := ⟨rfl, rfl, rfl, by decide +kernel, rfl, by decide +kernel, by decide +kernel⟩
abbrev N_Grid_init : List Str := ["self", "field", "order"]
theorem sc_Grid_init : FnScope N_Grid_init ["self", "field", "order"] (defScope s_Grid_init) := ⟨rfl, rfl, rfl, by decide +kernel, rfl, by decide +kernel, by decide +kernel⟩
abbrev N_Grid_known_value : List Str := ["self", "word"]
theorem sc_Grid_known_value : FnScope N_Grid_known_value ["self", "word"] (defScope s_Grid_known_value) := ⟨rfl, rfl, rfl, by decide +kernel, rfl, by decide +kernel, by decide +kernel⟩
abbrev N_Grid_column_count : List Str := ["self", "word"]
theorem sc_Grid_column_count : FnScope N_Grid_column_count ["self", "word"] (defScope s_Grid_column_count) := ⟨rfl, rfl, rfl, by decide +kernel, rfl, by decide +kernel, by decide +kernel⟩
abbrev N_Grid_known_row : List Str := ["self", "word", "column"]
theorem sc_Grid_known_row : FnScope N_Grid_known_row ["self", "word"] (defScope s_Grid_known_row) := ⟨rfl, rfl, rfl, by decide +kernel, rfl, by decide +kernel, by decide +kernel⟩
abbrev N_Grid_is_later : List Str := ["self", "word", "other"]
theorem sc_Grid_is_later : FnScope N_Grid_is_later ["self", "word", "other"] (defScope s_Grid_is_later) := ⟨rfl, rfl, rfl, by decide +kernel, rfl, by decide +kernel, by decide +kernel⟩
abbrev N_Grid_basis_words : List Str := ["self"]
theorem sc_Grid_basis_words : FnScope N_Grid_basis_words ["self"] (defScope s_Grid_basis_words) := ⟨rfl, rfl, rfl, by decide +kernel, rfl, by decide +kernel, by decide +kernel⟩
abbrev N_Grid_shares_in : List Str := ["self", "row", "word", "rest", "factors", "column", "pivot_word", "pivot"]
theorem sc_Grid_shares_in : FnScope N_Grid_shares_in ["self", "row", "word"] (defScope s_Grid_shares_in) := ⟨rfl, rfl, rfl, by decide +kernel, rfl, by decide +kernel, by decide +kernel⟩
abbrev N_Grid_in_basis_words : List Str := ["self", "factors", "found", "pivot_word", "factor", "word", "share"]
theorem sc_Grid_in_basis_words : FnScope N_Grid_in_basis_words ["self", "factors"] (defScope s_Grid_in_basis_words) := ⟨rfl, rfl, rfl, by decide +kernel, rfl, by decide +kernel, by decide +kernel⟩
abbrev N_Grid_combination : List Str := ["self", "word"]
theorem sc_Grid_combination : FnScope N_Grid_combination ["self", "word"] (defScope s_Grid_combination) := ⟨rfl, rfl, rfl, by decide +kernel, rfl, by decide +kernel, by decide +kernel⟩
abbrev N_Grid_forced_prefixes : List Str := ["self", "found", "length", "prefix", "lead_word"]
theorem sc_Grid_forced_prefixes : FnScope N_Grid_forced_prefixes ["self"] (defScope s_Grid_forced_prefixes) := ⟨rfl, rfl, rfl, by decide +kernel, rfl, by decide +kernel, by decide +kernel⟩
abbrev N_Grid_forced_number : List Str := ["self", "prefix", "column", "found", "pivot_word", "factor"]
theorem sc_Grid_forced_number : FnScope N_Grid_forced_number ["self", "prefix"] (defScope s_Grid_forced_number) := ⟨rfl, rfl, rfl, by decide +kernel, rfl, by decide +kernel, by decide +kernel⟩
abbrev N_Grid_take : List Str := ["self", "number", "word", "forced", "joining", "rest", "prefix", "shares", "column"]
theorem sc_Grid_take : FnScope N_Grid_take ["self", "number"] (defScope s_Grid_take) := ⟨rfl, rfl, rfl, by decide +kernel, rfl, by decide +kernel, by decide +kernel⟩
abbrev N_Grid_joined_shares : List Str := ["self", "prefix", "numbers", "word", "number"]
theorem sc_Grid_joined_shares : FnScope N_Grid_joined_shares ["self", "prefix"] (defScope s_Grid_joined_shares) := ⟨rfl, rfl, rfl, by decide +kernel, rfl, by decide +kernel, by decide +kernel⟩
abbrev N_Grid_extend : List Str := ["self", "word", "length", "prefix"]
theorem sc_Grid_extend : FnScope N_Grid_extend ["self", "word"] (defScope s_Grid_extend) := ⟨rfl, rfl, rfl, by decide +kernel, rfl, by decide +kernel, by decide +kernel⟩
abbrev N_Grid_pivot_value : List Str := ["self", "pivot_word", "column", "found", "word", "share"]
theorem sc_Grid_pivot_value : FnScope N_Grid_pivot_value ["self", "pivot_word", "column"] (defScope s_Grid_pivot_value) := ⟨rfl, rfl, rfl, by decide +kernel, rfl, by decide +kernel, by decide +kernel⟩
abbrev N_Grid_size_now : List Str := ["self"]
theorem sc_Grid_size_now : FnScope N_Grid_size_now ["self"] (defScope s_Grid_size_now) := ⟨rfl, rfl, rfl, by decide +kernel, rfl, by decide +kernel, by decide +kernel⟩
abbrev N_Grid_border_words : List Str := ["self", "words", "word", "letter"]
theorem sc_Grid_border_words : FnScope N_Grid_border_words ["self"] (defScope s_Grid_border_words) := ⟨rfl, rfl, rfl, by decide +kernel, rfl, by decide +kernel, by decide +kernel⟩
abbrev N_Answers_init : List Str := ["self", "field", "order", "values"]
theorem sc_Answers_init : FnScope N_Answers_init ["self", "field", "order", "values"] (defScope s_Answers_init) := ⟨rfl, rfl, rfl, by decide +kernel, rfl, by decide +kernel, by decide +kernel⟩
abbrev N_Answers_keep : List Str := ["self", "grid", "word"]
theorem sc_Answers_keep : FnScope N_Answers_keep ["self", "grid"] (defScope s_Answers_keep) := ⟨rfl, rfl, rfl, by decide +kernel, rfl, by decide +kernel, by decide +kernel⟩
abbrev N_Answers_given : List Str := ["cls", "field", "order", "numbers"]
theorem sc_Answers_given : FnScope N_Answers_given ["cls", "field", "order", "numbers"] (defScope s_Answers_given) := ⟨rfl, rfl, rfl, by decide +kernel, rfl, by decide +kernel, by decide +kernel⟩
abbrev N_Answers_size : List Str := ["self"]
theorem sc_Answers_size : FnScope N_Answers_size ["self"] (defScope s_Answers_size) := ⟨rfl, rfl, rfl, by decide +kernel, rfl, by decide +kernel, by decide +kernel⟩
abbrev N_Answers_basis : List Str := ["self"]
theorem sc_Answers_basis : FnScope N_Answers_basis ["self"] (defScope s_Answers_basis) := ⟨rfl, rfl, rfl, by decide +kernel, rfl, by decide +kernel, by decide +kernel⟩
abbrev N_Answers_borders : List Str := ["self"]
theorem sc_Answers_borders : FnScope N_Answers_borders ["self"] (defScope s_Answers_borders) := ⟨rfl, rfl, rfl, by decide +kernel, rfl, by decide +kernel, by decide +kernel⟩
abbrev N_Answers_profile : List Str := ["self"]
theorem sc_Answers_profile : FnScope N_Answers_profile ["self"] (defScope s_Answers_profile) := ⟨rfl, rfl, rfl, by decide +kernel, rfl, by decide +kernel, by decide +kernel⟩
abbrev N_Field_init : List Str := ["self", "prime"]
theorem sc_Field_init : FnScope N_Field_init ["self", "prime"] (defScope s_Field_init) := ⟨rfl, rfl, rfl, by decide +kernel, rfl, by decide +kernel, by decide +kernel⟩
abbrev N_Field_is_number : List Str := ["self", "value"]
theorem sc_Field_is_number : FnScope N_Field_is_number ["self", "value"] (defScope s_Field_is_number) := ⟨rfl, rfl, rfl, by decide +kernel, rfl, by decide +kernel, by decide +kernel⟩
abbrev N_Field_subtract : List Str := ["self", "one", "other"]
theorem sc_Field_subtract : FnScope N_Field_subtract ["self", "one", "other"] (defScope s_Field_subtract) := ⟨rfl, rfl, rfl, by decide +kernel, rfl, by decide +kernel, by decide +kernel⟩
abbrev N_Modulo_is_any : List Str := ["self", "value"]
theorem sc_Modulo_is_any : FnScope N_Modulo_is_any ["self", "value"] (defScope s_Modulo_is_any) := ⟨rfl, rfl, rfl, by decide +kernel, rfl, by decide +kernel, by decide +kernel⟩
abbrev N_Modulo_add : List Str := ["self", "one", "other"]
theorem sc_Modulo_add : FnScope N_Modulo_add ["self", "one", "other"] (defScope s_Modulo_add) := ⟨rfl, rfl, rfl, by decide +kernel, rfl, by decide +kernel, by decide +kernel⟩
abbrev N_Modulo_negative : List Str := ["self", "number"]
theorem sc_Modulo_negative : FnScope N_Modulo_negative ["self", "number"] (defScope s_Modulo_negative) := ⟨rfl, rfl, rfl, by decide +kernel, rfl, by decide +kernel, by decide +kernel⟩
abbrev N_Modulo_multiply : List Str := ["self", "one", "other"]
theorem sc_Modulo_multiply : FnScope N_Modulo_multiply ["self", "one", "other"] (defScope s_Modulo_multiply) := ⟨rfl, rfl, rfl, by decide +kernel, rfl, by decide +kernel, by decide +kernel⟩
abbrev N_Modulo_divide : List Str := ["self", "one", "other"]
theorem sc_Modulo_divide : FnScope N_Modulo_divide ["self", "one", "other"] (defScope s_Modulo_divide) := ⟨rfl, rfl, rfl, by decide +kernel, rfl, by decide +kernel, by decide +kernel⟩
abbrev N_Order_init : List Str := ["self", "letters", "costs", "letter"]
theorem sc_Order_init : FnScope N_Order_init ["self", "letters", "costs"] (defScope s_Order_init) := ⟨rfl, rfl, rfl, by decide +kernel, rfl, by decide +kernel, by decide +kernel⟩
abbrev N_Order_letters : List Str := ["self"]
theorem sc_Order_letters : FnScope N_Order_letters ["self"] (defScope s_Order_letters) := ⟨rfl, rfl, rfl, by decide +kernel, rfl, by decide +kernel, by decide +kernel⟩
abbrev N_Order_cost_of : List Str := ["self", "word", "letter"]
theorem sc_Order_cost_of : FnScope N_Order_cost_of ["self", "word"] (defScope s_Order_cost_of) := ⟨rfl, rfl, rfl, by decide +kernel, rfl, by decide +kernel, by decide +kernel⟩
abbrev N_Order_key : List Str := ["self", "word"]
theorem sc_Order_key : FnScope N_Order_key ["self", "word"] (defScope s_Order_key) := ⟨rfl, rfl, rfl, by decide +kernel, rfl, by decide +kernel, by decide +kernel⟩
abbrev N_Order_below : List Str := ["self", "one", "other"]
theorem sc_Order_below : FnScope N_Order_below ["self", "one", "other"] (defScope s_Order_below) := ⟨rfl, rfl, rfl, by decide +kernel, rfl, by decide +kernel, by decide +kernel⟩
abbrev N_Order_count_next : List Str := ["self", "counts", "cost", "own"]
theorem sc_Order_count_next : FnScope N_Order_count_next ["self", "counts"] (defScope s_Order_count_next) := ⟨rfl, rfl, rfl, by decide +kernel, rfl, by decide +kernel, by decide +kernel⟩
abbrev N_Order_counts_to : List Str := ["self", "cost", "counts"]
theorem sc_Order_counts_to : FnScope N_Order_counts_to ["self", "cost"] (defScope s_Order_counts_to) := ⟨rfl, rfl, rfl, by decide +kernel, rfl, by decide +kernel, by decide +kernel⟩
abbrev N_Order_filled : List Str := ["self", "cost", "counts", "is_last", "found", "letters", "some", "letter"]
theorem sc_Order_filled : FnScope N_Order_filled ["self", "cost", "counts", "is_last"] (defScope s_Order_filled) := ⟨rfl, rfl, rfl, by decide +kernel, rfl, by decide +kernel, by decide +kernel⟩
abbrev N_Order_is_possible : List Str := ["self", "letter", "cost", "counts", "left"]
theorem sc_Order_is_possible : FnScope N_Order_is_possible ["self", "letter", "cost", "counts"] (defScope s_Order_is_possible) := ⟨rfl, rfl, rfl, by decide +kernel, rfl, by decide +kernel, by decide +kernel⟩
abbrev N_Order_neighbor : List Str := ["self", "word", "counts", "is_later", "cost", "place", "here", "some", "letter", "one"]
theorem sc_Order_neighbor : FnScope N_Order_neighbor ["self", "word", "counts", "is_later"] (defScope s_Order_neighbor) := ⟨rfl, rfl, rfl, by decide +kernel, rfl, by decide +kernel, by decide +kernel⟩
abbrev N_Order_follower : List Str := ["self", "word", "cost", "counts", "found", "later", "more"]
theorem sc_Order_follower : FnScope N_Order_follower ["self", "word"] (defScope s_Order_follower) := ⟨rfl, rfl, rfl, by decide +kernel, rfl, by decide +kernel, by decide +kernel⟩
abbrev N_Order_is_before : List Str := ["self", "word", "other"]
theorem sc_Order_is_before : FnScope N_Order_is_before ["self", "word", "other"] (defScope s_Order_is_before) := ⟨rfl, rfl, rfl, by decide +kernel, rfl, by decide +kernel, by decide +kernel⟩
abbrev N_Order_sorted_words : List Str := ["self", "words", "word"]
theorem sc_Order_sorted_words : FnScope N_Order_sorted_words ["self", "words"] (defScope s_Order_sorted_words) := ⟨rfl, rfl, rfl, by decide +kernel, rfl, by decide +kernel, by decide +kernel⟩
abbrev N_Order_after : List Str := ["self", "word"]
theorem sc_Order_after : FnScope N_Order_after ["self", "word"] (defScope s_Order_after) := ⟨rfl, rfl, rfl, by decide +kernel, rfl, by decide +kernel, by decide +kernel⟩
abbrev N_law_rule_lengths : List Str := ["_law_values", "_law_prime_here", "_law_rule", "_law_old", "_law_length", "_law_since", "_law_base", "_law_found", "_law_at", "_law_off", "_law_k", "_law_own", "_law_times", "_law_kept", "_law_moved", "_law_one"]
theorem sc_law_rule_lengths : FnScope N_law_rule_lengths ["_law_values", "_law_prime_here"] (defScope s_law_rule_lengths) := ⟨rfl, rfl, rfl, by decide +kernel, rfl, by decide +kernel, by decide +kernel⟩
abbrev N_law_pen : List Str := ["_law_script"]
theorem sc_law_pen : FnScope N_law_pen ["_law_script"] (defScope s_law_pen) := ⟨rfl, rfl, rfl, by decide +kernel, rfl, by decide +kernel, by decide +kernel⟩
abbrev N_law_draw : List Str := ["_law_pen_here", "_law_many", "_law_digit", "_law_place", "_law_cell", "_law_mixed", "_law_drawn"]
theorem sc_law_draw : FnScope N_law_draw ["_law_pen_here", "_law_many"] (defScope s_law_draw) := ⟨rfl, rfl, rfl, by decide +kernel, rfl, by decide +kernel, by decide +kernel⟩
abbrev N_law_pick : List Str := ["_law_pen_here", "_law_options"]
theorem sc_law_pick : FnScope N_law_pick ["_law_pen_here", "_law_options"] (defScope s_law_pick) := ⟨rfl, rfl, rfl, by decide +kernel, rfl, by decide +kernel, by decide +kernel⟩
abbrev N_law_shuffled : List Str := ["_law_pen_here", "_law_items", "_law_rest", "_law_found"]
theorem sc_law_shuffled : FnScope N_law_shuffled ["_law_pen_here", "_law_items"] (defScope s_law_shuffled) := ⟨rfl, rfl, rfl, by decide +kernel, rfl, by decide +kernel, by decide +kernel⟩
abbrev N_law_prime : List Str := ["_law_pen_here"]
theorem sc_law_prime : FnScope N_law_prime ["_law_pen_here"] (defScope s_law_prime) := ⟨rfl, rfl, rfl, by decide +kernel, rfl, by decide +kernel, by decide +kernel⟩
abbrev N_law_letters : List Str := ["_law_pen_here", "_law_most", "_law_places", "_law_place"]
theorem sc_law_letters : FnScope N_law_letters ["_law_pen_here", "_law_most"] (defScope s_law_letters) := ⟨rfl, rfl, rfl, by decide +kernel, rfl, by decide +kernel, by decide +kernel⟩
abbrev N_law_inverse : List Str := ["_law_number_here", "_law_prime_here", "_law_left", "_law_right", "_law_times"]
theorem sc_law_inverse : FnScope N_law_inverse ["_law_number_here", "_law_prime_here"] (defScope s_law_inverse) := ⟨rfl, rfl, rfl, by decide +kernel, rfl, by decide +kernel, by decide +kernel⟩
abbrev N_law_number : List Str := ["_law_pen_here", "_law_prime_here"]
theorem sc_law_number : FnScope N_law_number ["_law_pen_here", "_law_prime_here"] (defScope s_law_number) := ⟨rfl, rfl, rfl, by decide +kernel, rfl, by decide +kernel, by decide +kernel⟩
abbrev N_law : List Str := ["_law_script", "_law_pen_here", "_law_turn", "_law_prime_here", "_law_many", "_law_letter", "_law_way", "_law_values", "_law_rule", "_law_at", "_law_told", "_law_value", "_law_answers", "_law_k", "_law_one", "_law_two"]
theorem sc_law : FnScope N_law ["_law_script"] (defScope s_law) := ⟨rfl, rfl, rfl, by decide +kernel, rfl, by decide +kernel, by decide +kernel⟩

/-! ### where things stand (printed by gen.py) -/
def c_Grid (K : PySem.W.Frag) : Addr := He.ga K "Grid"
def c_Answers (K : PySem.W.Frag) : Addr := He.ga K "Answers"
def c_Modulo (K : PySem.W.Frag) : Addr := He.ga K "Modulo"
def c_Field (K : PySem.W.Frag) : Addr := He.ga K "Field"
def c_Order (K : PySem.W.Frag) : Addr := He.ga K "Order"
def a_is_integer (K : PySem.W.Frag) : Addr := He.ga K "is_integer"
def a_is_between (K : PySem.W.Frag) : Addr := He.ga K "is_between"
def a_are_letters (K : PySem.W.Frag) : Addr := He.ga K "are_letters"
def a_is_word (K : PySem.W.Frag) : Addr := He.ga K "is_word"
def a_need_word (K : PySem.W.Frag) : Addr := He.ga K "need_word"
def a_without (K : PySem.W.Frag) : Addr := He.ga K "without"
def a_most_answers (K : PySem.W.Frag) : Addr := He.ga K "most_answers"
def a_need_answers (K : PySem.W.Frag) : Addr := He.ga K "need_answers"
def a_grid_of (K : PySem.W.Frag) : Addr := He.ga K "grid_of"
def a_answers_on (K : PySem.W.Frag) : Addr := He.ga K "answers_on"
def a_parts_of (K : PySem.W.Frag) : Addr := He.ga K "parts_of"
def a_power (K : PySem.W.Frag) : Addr := He.ga K "power"
def a_is_witness (K : PySem.W.Frag) : Addr := He.ga K "is_witness"
def a_is_prime (K : PySem.W.Frag) : Addr := He.ga K "is_prime"
def a_ten_to (K : PySem.W.Frag) : Addr := He.ga K "ten_to"
def a_is_short (K : PySem.W.Frag) : Addr := He.ga K "is_short"
def a_Grid_init (K : PySem.W.Frag) : Addr := He.ma K (c_Grid K) "__init__"
def a_Grid_known_value (K : PySem.W.Frag) : Addr := He.ma K (c_Grid K) "known_value"
def a_Grid_column_count (K : PySem.W.Frag) : Addr := He.ma K (c_Grid K) "column_count"
def a_Grid_known_row (K : PySem.W.Frag) : Addr := He.ma K (c_Grid K) "known_row"
def a_Grid_is_later (K : PySem.W.Frag) : Addr := He.ma K (c_Grid K) "is_later"
def a_Grid_basis_words (K : PySem.W.Frag) : Addr := He.ma K (c_Grid K) "basis_words"
def a_Grid_shares_in (K : PySem.W.Frag) : Addr := He.ma K (c_Grid K) "shares_in"
def a_Grid_in_basis_words (K : PySem.W.Frag) : Addr := He.ma K (c_Grid K) "in_basis_words"
def a_Grid_combination (K : PySem.W.Frag) : Addr := He.ma K (c_Grid K) "combination"
def a_Grid_forced_prefixes (K : PySem.W.Frag) : Addr := He.ma K (c_Grid K) "forced_prefixes"
def a_Grid_forced_number (K : PySem.W.Frag) : Addr := He.ma K (c_Grid K) "forced_number"
def a_Grid_take (K : PySem.W.Frag) : Addr := He.ma K (c_Grid K) "take"
def a_Grid_joined_shares (K : PySem.W.Frag) : Addr := He.ma K (c_Grid K) "joined_shares"
def a_Grid_extend (K : PySem.W.Frag) : Addr := He.ma K (c_Grid K) "extend"
def a_Grid_pivot_value (K : PySem.W.Frag) : Addr := He.ma K (c_Grid K) "pivot_value"
def a_Grid_size_now (K : PySem.W.Frag) : Addr := He.ma K (c_Grid K) "size_now"
def a_Grid_border_words (K : PySem.W.Frag) : Addr := He.ma K (c_Grid K) "border_words"
def a_Answers_init (K : PySem.W.Frag) : Addr := He.ma K (c_Answers K) "__init__"
def a_Answers_keep (K : PySem.W.Frag) : Addr := He.ma K (c_Answers K) "keep"
def a_Answers_given (K : PySem.W.Frag) : Addr := He5.wf K (c_Answers K) "classmethod" "given"
def a_Answers_size (K : PySem.W.Frag) : Addr := prG K (c_Answers K) "size"
def a_Answers_basis (K : PySem.W.Frag) : Addr := prG K (c_Answers K) "basis"
def a_Answers_borders (K : PySem.W.Frag) : Addr := prG K (c_Answers K) "borders"
def a_Answers_profile (K : PySem.W.Frag) : Addr := He.ma K (c_Answers K) "profile"
def a_Field_init (K : PySem.W.Frag) : Addr := He.ma K (c_Field K) "__init__"
def a_Field_is_number (K : PySem.W.Frag) : Addr := He.ma K (c_Field K) "is_number"
def a_Field_subtract (K : PySem.W.Frag) : Addr := He.ma K (c_Field K) "subtract"
def a_Modulo_init (K : PySem.W.Frag) : Addr := He.ma K (c_Modulo K) "__init__"
def a_Modulo_is_any (K : PySem.W.Frag) : Addr := He.ma K (c_Modulo K) "is_any"
def a_Modulo_add (K : PySem.W.Frag) : Addr := He.ma K (c_Modulo K) "add"
def a_Modulo_negative (K : PySem.W.Frag) : Addr := He.ma K (c_Modulo K) "negative"
def a_Modulo_multiply (K : PySem.W.Frag) : Addr := He.ma K (c_Modulo K) "multiply"
def a_Modulo_divide (K : PySem.W.Frag) : Addr := He.ma K (c_Modulo K) "divide"
def a_Order_init (K : PySem.W.Frag) : Addr := He.ma K (c_Order K) "__init__"
def a_Order_letters (K : PySem.W.Frag) : Addr := prG K (c_Order K) "letters"
def a_Order_cost_of (K : PySem.W.Frag) : Addr := He.ma K (c_Order K) "cost_of"
def a_Order_key (K : PySem.W.Frag) : Addr := He.ma K (c_Order K) "key"
def a_Order_below (K : PySem.W.Frag) : Addr := He.ma K (c_Order K) "below"
def a_Order_count_next (K : PySem.W.Frag) : Addr := He.ma K (c_Order K) "count_next"
def a_Order_counts_to (K : PySem.W.Frag) : Addr := He.ma K (c_Order K) "counts_to"
def a_Order_filled (K : PySem.W.Frag) : Addr := He.ma K (c_Order K) "filled"
def a_Order_is_possible (K : PySem.W.Frag) : Addr := He.ma K (c_Order K) "is_possible"
def a_Order_neighbor (K : PySem.W.Frag) : Addr := He.ma K (c_Order K) "neighbor"
def a_Order_follower (K : PySem.W.Frag) : Addr := He.ma K (c_Order K) "follower"
def a_Order_is_before (K : PySem.W.Frag) : Addr := He.ma K (c_Order K) "is_before"
def a_Order_sorted_words (K : PySem.W.Frag) : Addr := He.ma K (c_Order K) "sorted_words"
def a_Order_after (K : PySem.W.Frag) : Addr := He.ma K (c_Order K) "after"
def a_law_rule_lengths (K : PySem.W.Frag) : Addr := He.ga K "_law_rule_lengths"
def a_law_pen (K : PySem.W.Frag) : Addr := He.ga K "_law_pen"
def a_law_draw (K : PySem.W.Frag) : Addr := He.ga K "_law_draw"
def a_law_pick (K : PySem.W.Frag) : Addr := He.ga K "_law_pick"
def a_law_shuffled (K : PySem.W.Frag) : Addr := He.ga K "_law_shuffled"
def a_law_prime (K : PySem.W.Frag) : Addr := He.ga K "_law_prime"
def a_law_letters (K : PySem.W.Frag) : Addr := He.ga K "_law_letters"
def a_law_inverse (K : PySem.W.Frag) : Addr := He.ga K "_law_inverse"
def a_law_number (K : PySem.W.Frag) : Addr := He.ga K "_law_number"
def a_law (K : PySem.W.Frag) : Addr := He.ga K "law"
abbrev d_ (K : PySem.W.Frag) (a : Addr) : FuncData := fdOf K a
/-- the code object that makes a lambda, its table, the lambda's name -/
def lc (K : PySem.W.Frag) : Addr := match (d_ K (a_Grid_basis_words K)).code with | .ref c => c | _ => 0
def lP (K : PySem.W.Frag) : Addr := match K.lookup (lc K) with | some ⟨_, _, .fields vs, _⟩ => (match (vs[11]? : Option Value) with | some (.ref P) => P | _ => 0) | _ => 0
def qLam : Str := ("Grid.basis_words" : Str) ++ ".<locals>." ++ "<lambda>"
def lamT (K : PySem.W.Frag) : List (Addr × Str) := [(lP K, qLam)]
/-- what the walk leans on -/
structure TX (K : PySem.W.Frag) (mg : Str → Option Value) : Prop where
  F_is_integer : Fun K "is_integer" "is_integer" s_is_integer (a_is_integer K) (d_ K (a_is_integer K))
  F_is_between : Fun K "is_between" "is_between" s_is_between (a_is_between K) (d_ K (a_is_between K))
  F_are_letters : Fun K "are_letters" "are_letters" s_are_letters (a_are_letters K) (d_ K (a_are_letters K))
  F_is_word : FunD K "is_word" "is_word" (defArgs s_is_word) (defBody s_is_word) (defScope s_is_word) [.int 160] [] (a_is_word K) (d_ K (a_is_word K))
  F_need_word : FunD K "need_word" "need_word" (defArgs s_need_word) (defBody s_need_word) (defScope s_need_word) [.int 160] [] (a_need_word K) (d_ K (a_need_word K))
  F_without : Fun K "without" "without" s_without (a_without K) (d_ K (a_without K))
  F_most_answers : Fun K "most_answers" "most_answers" s_most_answers (a_most_answers K) (d_ K (a_most_answers K))
  F_need_answers : Fun K "need_answers" "need_answers" s_need_answers (a_need_answers K) (d_ K (a_need_answers K))
  F_grid_of : Fun K "grid_of" "grid_of" s_grid_of (a_grid_of K) (d_ K (a_grid_of K))
  F_answers_on : Fun K "answers_on" "answers_on" s_answers_on (a_answers_on K) (d_ K (a_answers_on K))
  F_parts_of : Fun K "parts_of" "parts_of" s_parts_of (a_parts_of K) (d_ K (a_parts_of K))
  F_power : Fun K "power" "power" s_power (a_power K) (d_ K (a_power K))
  F_is_witness : Fun K "is_witness" "is_witness" s_is_witness (a_is_witness K) (d_ K (a_is_witness K))
  F_is_prime : Fun K "is_prime" "is_prime" s_is_prime (a_is_prime K) (d_ K (a_is_prime K))
  F_ten_to : Fun K "ten_to" "ten_to" s_ten_to (a_ten_to K) (d_ K (a_ten_to K))
  F_is_short : Fun K "is_short" "is_short" s_is_short (a_is_short K) (d_ K (a_is_short K))
  F_Grid_init : Fun K "__init__" "Grid.__init__" s_Grid_init (a_Grid_init K) (d_ K (a_Grid_init K))
  F_Grid_known_value : Fun K "known_value" "Grid.known_value" s_Grid_known_value (a_Grid_known_value K) (d_ K (a_Grid_known_value K))
  F_Grid_column_count : Fun K "column_count" "Grid.column_count" s_Grid_column_count (a_Grid_column_count K) (d_ K (a_Grid_column_count K))
  F_Grid_known_row : Fun K "known_row" "Grid.known_row" s_Grid_known_row (a_Grid_known_row K) (d_ K (a_Grid_known_row K))
  F_Grid_is_later : Fun K "is_later" "Grid.is_later" s_Grid_is_later (a_Grid_is_later K) (d_ K (a_Grid_is_later K))
  F_Grid_basis_words : Fun K "basis_words" "Grid.basis_words" s_Grid_basis_words (a_Grid_basis_words K) (d_ K (a_Grid_basis_words K))
  F_Grid_shares_in : Fun K "shares_in" "Grid.shares_in" s_Grid_shares_in (a_Grid_shares_in K) (d_ K (a_Grid_shares_in K))
  F_Grid_in_basis_words : Fun K "in_basis_words" "Grid.in_basis_words" s_Grid_in_basis_words (a_Grid_in_basis_words K) (d_ K (a_Grid_in_basis_words K))
  F_Grid_combination : Fun K "combination" "Grid.combination" s_Grid_combination (a_Grid_combination K) (d_ K (a_Grid_combination K))
  F_Grid_forced_prefixes : Fun K "forced_prefixes" "Grid.forced_prefixes" s_Grid_forced_prefixes (a_Grid_forced_prefixes K) (d_ K (a_Grid_forced_prefixes K))
  F_Grid_forced_number : Fun K "forced_number" "Grid.forced_number" s_Grid_forced_number (a_Grid_forced_number K) (d_ K (a_Grid_forced_number K))
  F_Grid_take : Fun K "take" "Grid.take" s_Grid_take (a_Grid_take K) (d_ K (a_Grid_take K))
  F_Grid_joined_shares : Fun K "joined_shares" "Grid.joined_shares" s_Grid_joined_shares (a_Grid_joined_shares K) (d_ K (a_Grid_joined_shares K))
  F_Grid_extend : Fun K "extend" "Grid.extend" s_Grid_extend (a_Grid_extend K) (d_ K (a_Grid_extend K))
  F_Grid_pivot_value : Fun K "pivot_value" "Grid.pivot_value" s_Grid_pivot_value (a_Grid_pivot_value K) (d_ K (a_Grid_pivot_value K))
  F_Grid_size_now : Fun K "size_now" "Grid.size_now" s_Grid_size_now (a_Grid_size_now K) (d_ K (a_Grid_size_now K))
  F_Grid_border_words : Fun K "border_words" "Grid.border_words" s_Grid_border_words (a_Grid_border_words K) (d_ K (a_Grid_border_words K))
  F_Answers_init : Fun K "__init__" "Answers.__init__" s_Answers_init (a_Answers_init K) (d_ K (a_Answers_init K))
  F_Answers_keep : Fun K "keep" "Answers.keep" s_Answers_keep (a_Answers_keep K) (d_ K (a_Answers_keep K))
  F_Answers_given : Fun K "given" "Answers.given" s_Answers_given (a_Answers_given K) (d_ K (a_Answers_given K))
  F_Answers_size : Fun K "size" "Answers.size" s_Answers_size (a_Answers_size K) (d_ K (a_Answers_size K))
  F_Answers_basis : Fun K "basis" "Answers.basis" s_Answers_basis (a_Answers_basis K) (d_ K (a_Answers_basis K))
  F_Answers_borders : Fun K "borders" "Answers.borders" s_Answers_borders (a_Answers_borders K) (d_ K (a_Answers_borders K))
  F_Answers_profile : Fun K "profile" "Answers.profile" s_Answers_profile (a_Answers_profile K) (d_ K (a_Answers_profile K))
  F_Field_init : Fun K "__init__" "Field.__init__" s_Field_init (a_Field_init K) (d_ K (a_Field_init K))
  F_Field_is_number : Fun K "is_number" "Field.is_number" s_Field_is_number (a_Field_is_number K) (d_ K (a_Field_is_number K))
  F_Field_subtract : Fun K "subtract" "Field.subtract" s_Field_subtract (a_Field_subtract K) (d_ K (a_Field_subtract K))
  F_Modulo_is_any : Fun K "is_any" "Modulo.is_any" s_Modulo_is_any (a_Modulo_is_any K) (d_ K (a_Modulo_is_any K))
  F_Modulo_add : Fun K "add" "Modulo.add" s_Modulo_add (a_Modulo_add K) (d_ K (a_Modulo_add K))
  F_Modulo_negative : Fun K "negative" "Modulo.negative" s_Modulo_negative (a_Modulo_negative K) (d_ K (a_Modulo_negative K))
  F_Modulo_multiply : Fun K "multiply" "Modulo.multiply" s_Modulo_multiply (a_Modulo_multiply K) (d_ K (a_Modulo_multiply K))
  F_Modulo_divide : Fun K "divide" "Modulo.divide" s_Modulo_divide (a_Modulo_divide K) (d_ K (a_Modulo_divide K))
  F_Order_init : Fun K "__init__" "Order.__init__" s_Order_init (a_Order_init K) (d_ K (a_Order_init K))
  F_Order_letters : Fun K "letters" "Order.letters" s_Order_letters (a_Order_letters K) (d_ K (a_Order_letters K))
  F_Order_cost_of : Fun K "cost_of" "Order.cost_of" s_Order_cost_of (a_Order_cost_of K) (d_ K (a_Order_cost_of K))
  F_Order_key : Fun K "key" "Order.key" s_Order_key (a_Order_key K) (d_ K (a_Order_key K))
  F_Order_below : Fun K "below" "Order.below" s_Order_below (a_Order_below K) (d_ K (a_Order_below K))
  F_Order_count_next : Fun K "count_next" "Order.count_next" s_Order_count_next (a_Order_count_next K) (d_ K (a_Order_count_next K))
  F_Order_counts_to : Fun K "counts_to" "Order.counts_to" s_Order_counts_to (a_Order_counts_to K) (d_ K (a_Order_counts_to K))
  F_Order_filled : Fun K "filled" "Order.filled" s_Order_filled (a_Order_filled K) (d_ K (a_Order_filled K))
  F_Order_is_possible : Fun K "is_possible" "Order.is_possible" s_Order_is_possible (a_Order_is_possible K) (d_ K (a_Order_is_possible K))
  F_Order_neighbor : Fun K "neighbor" "Order.neighbor" s_Order_neighbor (a_Order_neighbor K) (d_ K (a_Order_neighbor K))
  F_Order_follower : Fun K "follower" "Order.follower" s_Order_follower (a_Order_follower K) (d_ K (a_Order_follower K))
  F_Order_is_before : Fun K "is_before" "Order.is_before" s_Order_is_before (a_Order_is_before K) (d_ K (a_Order_is_before K))
  F_Order_sorted_words : Fun K "sorted_words" "Order.sorted_words" s_Order_sorted_words (a_Order_sorted_words K) (d_ K (a_Order_sorted_words K))
  F_Order_after : Fun K "after" "Order.after" s_Order_after (a_Order_after K) (d_ K (a_Order_after K))
  F_law_rule_lengths : Fun K "_law_rule_lengths" "_law_rule_lengths" s_law_rule_lengths (a_law_rule_lengths K) (d_ K (a_law_rule_lengths K))
  F_law_pen : Fun K "_law_pen" "_law_pen" s_law_pen (a_law_pen K) (d_ K (a_law_pen K))
  F_law_draw : Fun K "_law_draw" "_law_draw" s_law_draw (a_law_draw K) (d_ K (a_law_draw K))
  F_law_pick : Fun K "_law_pick" "_law_pick" s_law_pick (a_law_pick K) (d_ K (a_law_pick K))
  F_law_shuffled : Fun K "_law_shuffled" "_law_shuffled" s_law_shuffled (a_law_shuffled K) (d_ K (a_law_shuffled K))
  F_law_prime : Fun K "_law_prime" "_law_prime" s_law_prime (a_law_prime K) (d_ K (a_law_prime K))
  F_law_letters : Fun K "_law_letters" "_law_letters" s_law_letters (a_law_letters K) (d_ K (a_law_letters K))
  F_law_inverse : Fun K "_law_inverse" "_law_inverse" s_law_inverse (a_law_inverse K) (d_ K (a_law_inverse K))
  F_law_number : Fun K "_law_number" "_law_number" s_law_number (a_law_number K) (d_ K (a_law_number K))
  F_law : Fun K "law" "law" s_law (a_law K) (d_ K (a_law K))
  g_is_integer : mg "is_integer" = some (.ref (a_is_integer K))
  g_is_between : mg "is_between" = some (.ref (a_is_between K))
  g_are_letters : mg "are_letters" = some (.ref (a_are_letters K))
  g_is_word : mg "is_word" = some (.ref (a_is_word K))
  g_need_word : mg "need_word" = some (.ref (a_need_word K))
  g_without : mg "without" = some (.ref (a_without K))
  g_most_answers : mg "most_answers" = some (.ref (a_most_answers K))
  g_need_answers : mg "need_answers" = some (.ref (a_need_answers K))
  g_grid_of : mg "grid_of" = some (.ref (a_grid_of K))
  g_answers_on : mg "answers_on" = some (.ref (a_answers_on K))
  g_parts_of : mg "parts_of" = some (.ref (a_parts_of K))
  g_power : mg "power" = some (.ref (a_power K))
  g_is_witness : mg "is_witness" = some (.ref (a_is_witness K))
  g_is_prime : mg "is_prime" = some (.ref (a_is_prime K))
  g_ten_to : mg "ten_to" = some (.ref (a_ten_to K))
  g_is_short : mg "is_short" = some (.ref (a_is_short K))
  g_law_rule_lengths : mg "_law_rule_lengths" = some (.ref (a_law_rule_lengths K))
  g_law_pen : mg "_law_pen" = some (.ref (a_law_pen K))
  g_law_draw : mg "_law_draw" = some (.ref (a_law_draw K))
  g_law_pick : mg "_law_pick" = some (.ref (a_law_pick K))
  g_law_shuffled : mg "_law_shuffled" = some (.ref (a_law_shuffled K))
  g_law_prime : mg "_law_prime" = some (.ref (a_law_prime K))
  g_law_letters : mg "_law_letters" = some (.ref (a_law_letters K))
  g_law_inverse : mg "_law_inverse" = some (.ref (a_law_inverse K))
  g_law_number : mg "_law_number" = some (.ref (a_law_number K))
  g_law : mg "law" = some (.ref (a_law K))
  g_Grid : mg "Grid" = some (.ref (c_Grid K))
  g_Answers : mg "Answers" = some (.ref (c_Answers K))
  g_Modulo : mg "Modulo" = some (.ref (c_Modulo K))
  g_Order : mg "Order" = some (.ref (c_Order K))
  n_isinstance : mg "isinstance" = none
  n_len : mg "len" = none
  n_all : mg "all" = none
  n_any : mg "any" = none
  n_sum : mg "sum" = none
  n_range : mg "range" = none
  n_list : mg "list" = none
  n_zip : mg "zip" = none
  n_sorted : mg "sorted" = none
  n_enumerate : mg "enumerate" = none
  n_tuple : mg "tuple" = none
  n_int : mg "int" = none
  n_abs : mg "abs" = none
  n_super : mg "super" = none
  n_str : mg "str" = none
  n_bool : mg "bool" = none
  k_MAX_DIGITS : ∃ t, mg "MAX_DIGITS" = some (.int 100 t)
  k_MAX_PRIME : ∃ t, mg "MAX_PRIME" = some (.int 1000000000 t)
  k_MAX_LETTERS : ∃ t, mg "MAX_LETTERS" = some (.int 4 t)
  k_MAX_COST : ∃ t, mg "MAX_COST" = some (.int 9 t)
  k_MAX_WORD : ∃ t, mg "MAX_WORD" = some (.int 160 t)
  k_MAX_ANSWERS : ∃ t, mg "MAX_ANSWERS" = some (.int 150 t)
  k_MAX_FRACTION_ANSWERS : ∃ t, mg "MAX_FRACTION_ANSWERS" = some (.int 60 t)
  k_ALPHABET : ∃ t, mg "ALPHABET" = some (.str "abcdefghijklmnopqrstuvwxyz" t)
  k_SMALL_PRIMES : mg "SMALL_PRIMES" = some (.ref (He.ga K "SMALL_PRIMES"))
  t_SMALL_PRIMES : ∀ H, SqT K H (He.ga K "SMALL_PRIMES") (([2, 3, 5, 7, 11, 13, 17, 19, 23, 29, 31, 37] : List Int).map V.int)
  k_WITNESSES : mg "WITNESSES" = some (.ref (He.ga K "WITNESSES"))
  t_WITNESSES : ∀ H, SqT K H (He.ga K "WITNESSES") (([2, 3, 5, 7] : List Int).map V.int)
  cl_Grid : Cls K (c_Grid K)
  na_Grid_own_field : NoAttr K (c_Grid K) "own_field"
  na_Grid_own_order : NoAttr K (c_Grid K) "own_order"
  na_Grid_known_words : NoAttr K (c_Grid K) "known_words"
  na_Grid_known_values : NoAttr K (c_Grid K) "known_values"
  na_Grid_number_of_known : NoAttr K (c_Grid K) "number_of_known"
  na_Grid_column_counts : NoAttr K (c_Grid K) "column_counts"
  na_Grid_upcoming : NoAttr K (c_Grid K) "upcoming"
  na_Grid_leads : NoAttr K (c_Grid K) "leads"
  na_Grid_word_of_lead : NoAttr K (c_Grid K) "word_of_lead"
  na_Grid_pivot_rows : NoAttr K (c_Grid K) "pivot_rows"
  na_Grid_shares_of : NoAttr K (c_Grid K) "shares_of"
  na_Grid_grown_sizes : NoAttr K (c_Grid K) "grown_sizes"
  mt_Grid_known_value : Meth K (c_Grid K) "known_value" (a_Grid_known_value K)
  mt_Grid_column_count : Meth K (c_Grid K) "column_count" (a_Grid_column_count K)
  mt_Grid_known_row : Meth K (c_Grid K) "known_row" (a_Grid_known_row K)
  mt_Grid_is_later : Meth K (c_Grid K) "is_later" (a_Grid_is_later K)
  mt_Grid_basis_words : Meth K (c_Grid K) "basis_words" (a_Grid_basis_words K)
  mt_Grid_shares_in : Meth K (c_Grid K) "shares_in" (a_Grid_shares_in K)
  mt_Grid_in_basis_words : Meth K (c_Grid K) "in_basis_words" (a_Grid_in_basis_words K)
  mt_Grid_combination : Meth K (c_Grid K) "combination" (a_Grid_combination K)
  mt_Grid_forced_prefixes : Meth K (c_Grid K) "forced_prefixes" (a_Grid_forced_prefixes K)
  mt_Grid_forced_number : Meth K (c_Grid K) "forced_number" (a_Grid_forced_number K)
  mt_Grid_take : Meth K (c_Grid K) "take" (a_Grid_take K)
  mt_Grid_joined_shares : Meth K (c_Grid K) "joined_shares" (a_Grid_joined_shares K)
  mt_Grid_extend : Meth K (c_Grid K) "extend" (a_Grid_extend K)
  mt_Grid_pivot_value : Meth K (c_Grid K) "pivot_value" (a_Grid_pivot_value K)
  mt_Grid_size_now : Meth K (c_Grid K) "size_now" (a_Grid_size_now K)
  mt_Grid_border_words : Meth K (c_Grid K) "border_words" (a_Grid_border_words K)
  cl_Answers : Cls K (c_Answers K)
  na_Answers_own_grid : NoAttr K (c_Answers K) "own_grid"
  na_Answers_own_numbers : NoAttr K (c_Answers K) "own_numbers"
  na_Answers_own_size : NoAttr K (c_Answers K) "own_size"
  na_Answers_own_basis : NoAttr K (c_Answers K) "own_basis"
  na_Answers_own_borders : NoAttr K (c_Answers K) "own_borders"
  na_Answers_own_columns : NoAttr K (c_Answers K) "own_columns"
  mt_Answers_keep : Meth K (c_Answers K) "keep" (a_Answers_keep K)
  mt_Answers_profile : Meth K (c_Answers K) "profile" (a_Answers_profile K)
  cl_Modulo : Cls K (c_Modulo K)
  na_Modulo_own_prime : NoAttr K (c_Modulo K) "own_prime"
  mt_Modulo_is_number : Meth K (c_Modulo K) "is_number" (a_Field_is_number K)
  mt_Modulo_subtract : Meth K (c_Modulo K) "subtract" (a_Field_subtract K)
  mt_Modulo_is_any : Meth K (c_Modulo K) "is_any" (a_Modulo_is_any K)
  mt_Modulo_add : Meth K (c_Modulo K) "add" (a_Modulo_add K)
  mt_Modulo_negative : Meth K (c_Modulo K) "negative" (a_Modulo_negative K)
  mt_Modulo_multiply : Meth K (c_Modulo K) "multiply" (a_Modulo_multiply K)
  mt_Modulo_divide : Meth K (c_Modulo K) "divide" (a_Modulo_divide K)
  cl_Order : Cls K (c_Order K)
  na_Order_own_letters : NoAttr K (c_Order K) "own_letters"
  na_Order_own_costs : NoAttr K (c_Order K) "own_costs"
  mt_Order_cost_of : Meth K (c_Order K) "cost_of" (a_Order_cost_of K)
  mt_Order_below : Meth K (c_Order K) "below" (a_Order_below K)
  mt_Order_count_next : Meth K (c_Order K) "count_next" (a_Order_count_next K)
  mt_Order_counts_to : Meth K (c_Order K) "counts_to" (a_Order_counts_to K)
  mt_Order_filled : Meth K (c_Order K) "filled" (a_Order_filled K)
  mt_Order_is_possible : Meth K (c_Order K) "is_possible" (a_Order_is_possible K)
  mt_Order_neighbor : Meth K (c_Order K) "neighbor" (a_Order_neighbor K)
  mt_Order_follower : Meth K (c_Order K) "follower" (a_Order_follower K)
  mt_Order_is_before : Meth K (c_Order K) "is_before" (a_Order_is_before K)
  mt_Order_after : Meth K (c_Order K) "after" (a_Order_after K)
  mt_Order_key : Meth K (c_Order K) "key" (a_Order_key K)
  mk_Grid : Mk K (c_Grid K) (a_Grid_init K)
  mk_Answers : Mk K (c_Answers K) (a_Answers_init K)
  mk_Order : Mk K (c_Order K) (a_Order_init K)
  pr_Answers_size : PropOf K (c_Answers K) "size" (He.ma K (c_Answers K) "size") (a_Answers_size K)
  pr_Answers_basis : PropOf K (c_Answers K) "basis" (He.ma K (c_Answers K) "basis") (a_Answers_basis K)
  pr_Answers_borders : PropOf K (c_Answers K) "borders" (He.ma K (c_Answers K) "borders") (a_Answers_borders K)
  pr_Order_letters : PropOf K (c_Order K) "letters" (He.ma K (c_Order K) "letters") (a_Order_letters K)
  bm_Order_key : BMeth K (c_Order K) "key" (a_Order_key K)
  bm_Order_sorted_words : BMeth K (c_Order K) "sorted_words" (a_Order_sorted_words K)
  mk_Modulo : Mk K (c_Modulo K) (a_Modulo_init K)
  cr_Answers : ClX.CRead K (c_Answers K) (.type "type")
  cm_Answers_given : ClX.CMet K (c_Answers K) (.type "type") "given" (He.ma K (c_Answers K) "given") (a_Answers_given K)
  F_Modulo_init : ∃ (oc dV kV doc pm ct ccl cl : Value) (od an cdd cld : Option Addr) (osl ccs csl : Array (Option Value)) (cda cc : Addr) (vs : Array Value) (file : Str) (tf : Tok), K.lookup (a_Modulo_init K) = some ⟨oc, od, .func (PySem.W.fnX "__init__" "Modulo.__init__" (defArgs s_Modulo_init) (defBody s_Modulo_init) (defScope s_Modulo_init) [("__class__", cc)] dV kV doc pm an (.ref cda) ct), osl⟩ ∧ PySem.W.codeIn K (.ref cda) "Modulo.__init__" = true ∧ K.lookup cda = some ⟨ccl, cdd, .fields vs, ccs⟩ ∧ vs[2]? = some (.str file tf) ∧ (((PySem.Challenge.pw_firstanswers_k46_whole_one_letter_and_li).main.file : Str) == file) = true ∧ K.lookup cc = some ⟨cl, cld, .cell (some (.ref (c_Modulo K))), csl⟩
  i_Modulo : ∃ cd, PySem.W.clsIn K (c_Modulo K) = some cd ∧ PySem.W.alongIn K "__init__" ((cd.mro.dropWhile (· != .ref (c_Modulo K))).drop 1) = some (some (.ref (a_Field_init K)))
  su_Modulo : PySem.W.mroIn K (c_Modulo K) (.ref (c_Modulo K)) = some true
  ns_any : PySem.W.nsIn K cStatics "thirdparty.any" = some none
  ty_Field_init : PySem.W.typeIn K (.ref (a_Field_init K)) = some (.type "function")
  co_Grid_basis_words : (d_ K (a_Grid_basis_words K)).code = .ref (lc K)
section
variable {K : PySem.W.Frag} {mg : Str → Option Value}
theorem TX.b_is_integer (T : TX K mg) : Binds K (d_ K (a_is_integer K)) ["value"] [] := T.F_is_integer.binds (ps := ["value"]) fun _ _ _ _ _ _ us hl => match us, hl with | [_], _ => rfl
theorem TX.b_is_between (T : TX K mg) : Binds K (d_ K (a_is_between K)) ["value", "least", "most"] [] := T.F_is_between.binds (ps := ["value", "least", "most"]) fun _ _ _ _ _ _ us hl => match us, hl with | [_, _, _], _ => rfl
theorem TX.b_are_letters (T : TX K mg) : Binds K (d_ K (a_are_letters K)) ["value"] [] := T.F_are_letters.binds (ps := ["value"]) fun _ _ _ _ _ _ us hl => match us, hl with | [_], _ => rfl
theorem TX.b_without (T : TX K mg) : Binds K (d_ K (a_without K)) ["field", "row", "factor", "other"] [] := T.F_without.binds (ps := ["field", "row", "factor", "other"]) fun _ _ _ _ _ _ us hl => match us, hl with | [_, _, _, _], _ => rfl
theorem TX.b_most_answers (T : TX K mg) : Binds K (d_ K (a_most_answers K)) ["field"] [] := T.F_most_answers.binds (ps := ["field"]) fun _ _ _ _ _ _ us hl => match us, hl with | [_], _ => rfl
theorem TX.b_need_answers (T : TX K mg) : Binds K (d_ K (a_need_answers K)) ["field", "ahead", "numbers"] [] := T.F_need_answers.binds (ps := ["field", "ahead", "numbers"]) fun _ _ _ _ _ _ us hl => match us, hl with | [_, _, _], _ => rfl
theorem TX.b_grid_of (T : TX K mg) : Binds K (d_ K (a_grid_of K)) ["field", "order", "numbers"] [] := T.F_grid_of.binds (ps := ["field", "order", "numbers"]) fun _ _ _ _ _ _ us hl => match us, hl with | [_, _, _], _ => rfl
theorem TX.b_answers_on (T : TX K mg) : Binds K (d_ K (a_answers_on K)) ["grid"] [] := T.F_answers_on.binds (ps := ["grid"]) fun _ _ _ _ _ _ us hl => match us, hl with | [_], _ => rfl
theorem TX.b_parts_of (T : TX K mg) : Binds K (d_ K (a_parts_of K)) ["number"] [] := T.F_parts_of.binds (ps := ["number"]) fun _ _ _ _ _ _ us hl => match us, hl with | [_], _ => rfl
theorem TX.b_power (T : TX K mg) : Binds K (d_ K (a_power K)) ["number", "times", "modulus"] [] := T.F_power.binds (ps := ["number", "times", "modulus"]) fun _ _ _ _ _ _ us hl => match us, hl with | [_, _, _], _ => rfl
theorem TX.b_is_witness (T : TX K mg) : Binds K (d_ K (a_is_witness K)) ["number", "value"] [] := T.F_is_witness.binds (ps := ["number", "value"]) fun _ _ _ _ _ _ us hl => match us, hl with | [_, _], _ => rfl
theorem TX.b_is_prime (T : TX K mg) : Binds K (d_ K (a_is_prime K)) ["value"] [] := T.F_is_prime.binds (ps := ["value"]) fun _ _ _ _ _ _ us hl => match us, hl with | [_], _ => rfl
theorem TX.b_ten_to (T : TX K mg) : Binds K (d_ K (a_ten_to K)) ["digits"] [] := T.F_ten_to.binds (ps := ["digits"]) fun _ _ _ _ _ _ us hl => match us, hl with | [_], _ => rfl
theorem TX.b_is_short (T : TX K mg) : Binds K (d_ K (a_is_short K)) ["number", "digits"] [] := T.F_is_short.binds (ps := ["number", "digits"]) fun _ _ _ _ _ _ us hl => match us, hl with | [_, _], _ => rfl
theorem TX.b_Grid_init (T : TX K mg) : Binds K (d_ K (a_Grid_init K)) ["self", "field", "order"] [] := T.F_Grid_init.binds (ps := ["self", "field", "order"]) fun _ _ _ _ _ _ us hl => match us, hl with | [_, _, _], _ => rfl
theorem TX.b_Grid_known_value (T : TX K mg) : Binds K (d_ K (a_Grid_known_value K)) ["self", "word"] [] := T.F_Grid_known_value.binds (ps := ["self", "word"]) fun _ _ _ _ _ _ us hl => match us, hl with | [_, _], _ => rfl
theorem TX.b_Grid_column_count (T : TX K mg) : Binds K (d_ K (a_Grid_column_count K)) ["self", "word"] [] := T.F_Grid_column_count.binds (ps := ["self", "word"]) fun _ _ _ _ _ _ us hl => match us, hl with | [_, _], _ => rfl
theorem TX.b_Grid_known_row (T : TX K mg) : Binds K (d_ K (a_Grid_known_row K)) ["self", "word"] [] := T.F_Grid_known_row.binds (ps := ["self", "word"]) fun _ _ _ _ _ _ us hl => match us, hl with | [_, _], _ => rfl
theorem TX.b_Grid_is_later (T : TX K mg) : Binds K (d_ K (a_Grid_is_later K)) ["self", "word", "other"] [] := T.F_Grid_is_later.binds (ps := ["self", "word", "other"]) fun _ _ _ _ _ _ us hl => match us, hl with | [_, _, _], _ => rfl
theorem TX.b_Grid_basis_words (T : TX K mg) : Binds K (d_ K (a_Grid_basis_words K)) ["self"] [] := T.F_Grid_basis_words.binds (ps := ["self"]) fun _ _ _ _ _ _ us hl => match us, hl with | [_], _ => rfl
theorem TX.b_Grid_shares_in (T : TX K mg) : Binds K (d_ K (a_Grid_shares_in K)) ["self", "row", "word"] [] := T.F_Grid_shares_in.binds (ps := ["self", "row", "word"]) fun _ _ _ _ _ _ us hl => match us, hl with | [_, _, _], _ => rfl
theorem TX.b_Grid_in_basis_words (T : TX K mg) : Binds K (d_ K (a_Grid_in_basis_words K)) ["self", "factors"] [] := T.F_Grid_in_basis_words.binds (ps := ["self", "factors"]) fun _ _ _ _ _ _ us hl => match us, hl with | [_, _], _ => rfl
theorem TX.b_Grid_combination (T : TX K mg) : Binds K (d_ K (a_Grid_combination K)) ["self", "word"] [] := T.F_Grid_combination.binds (ps := ["self", "word"]) fun _ _ _ _ _ _ us hl => match us, hl with | [_, _], _ => rfl
theorem TX.b_Grid_forced_prefixes (T : TX K mg) : Binds K (d_ K (a_Grid_forced_prefixes K)) ["self"] [] := T.F_Grid_forced_prefixes.binds (ps := ["self"]) fun _ _ _ _ _ _ us hl => match us, hl with | [_], _ => rfl
theorem TX.b_Grid_forced_number (T : TX K mg) : Binds K (d_ K (a_Grid_forced_number K)) ["self", "prefix"] [] := T.F_Grid_forced_number.binds (ps := ["self", "prefix"]) fun _ _ _ _ _ _ us hl => match us, hl with | [_, _], _ => rfl
theorem TX.b_Grid_take (T : TX K mg) : Binds K (d_ K (a_Grid_take K)) ["self", "number"] [] := T.F_Grid_take.binds (ps := ["self", "number"]) fun _ _ _ _ _ _ us hl => match us, hl with | [_, _], _ => rfl
theorem TX.b_Grid_joined_shares (T : TX K mg) : Binds K (d_ K (a_Grid_joined_shares K)) ["self", "prefix"] [] := T.F_Grid_joined_shares.binds (ps := ["self", "prefix"]) fun _ _ _ _ _ _ us hl => match us, hl with | [_, _], _ => rfl
theorem TX.b_Grid_extend (T : TX K mg) : Binds K (d_ K (a_Grid_extend K)) ["self", "word"] [] := T.F_Grid_extend.binds (ps := ["self", "word"]) fun _ _ _ _ _ _ us hl => match us, hl with | [_, _], _ => rfl
theorem TX.b_Grid_pivot_value (T : TX K mg) : Binds K (d_ K (a_Grid_pivot_value K)) ["self", "pivot_word", "column"] [] := T.F_Grid_pivot_value.binds (ps := ["self", "pivot_word", "column"]) fun _ _ _ _ _ _ us hl => match us, hl with | [_, _, _], _ => rfl
theorem TX.b_Grid_size_now (T : TX K mg) : Binds K (d_ K (a_Grid_size_now K)) ["self"] [] := T.F_Grid_size_now.binds (ps := ["self"]) fun _ _ _ _ _ _ us hl => match us, hl with | [_], _ => rfl
theorem TX.b_Grid_border_words (T : TX K mg) : Binds K (d_ K (a_Grid_border_words K)) ["self"] [] := T.F_Grid_border_words.binds (ps := ["self"]) fun _ _ _ _ _ _ us hl => match us, hl with | [_], _ => rfl
theorem TX.b_Answers_keep (T : TX K mg) : Binds K (d_ K (a_Answers_keep K)) ["self", "grid"] [] := T.F_Answers_keep.binds (ps := ["self", "grid"]) fun _ _ _ _ _ _ us hl => match us, hl with | [_, _], _ => rfl
theorem TX.b_Answers_given (T : TX K mg) : Binds K (d_ K (a_Answers_given K)) ["cls", "field", "order", "numbers"] [] := T.F_Answers_given.binds (ps := ["cls", "field", "order", "numbers"]) fun _ _ _ _ _ _ us hl => match us, hl with | [_, _, _, _], _ => rfl
theorem TX.b_Answers_size (T : TX K mg) : Binds K (d_ K (a_Answers_size K)) ["self"] [] := T.F_Answers_size.binds (ps := ["self"]) fun _ _ _ _ _ _ us hl => match us, hl with | [_], _ => rfl
theorem TX.b_Answers_basis (T : TX K mg) : Binds K (d_ K (a_Answers_basis K)) ["self"] [] := T.F_Answers_basis.binds (ps := ["self"]) fun _ _ _ _ _ _ us hl => match us, hl with | [_], _ => rfl
theorem TX.b_Answers_borders (T : TX K mg) : Binds K (d_ K (a_Answers_borders K)) ["self"] [] := T.F_Answers_borders.binds (ps := ["self"]) fun _ _ _ _ _ _ us hl => match us, hl with | [_], _ => rfl
theorem TX.b_Answers_profile (T : TX K mg) : Binds K (d_ K (a_Answers_profile K)) ["self"] [] := T.F_Answers_profile.binds (ps := ["self"]) fun _ _ _ _ _ _ us hl => match us, hl with | [_], _ => rfl
theorem TX.b_Field_init (T : TX K mg) : Binds K (d_ K (a_Field_init K)) ["self", "prime"] [] := T.F_Field_init.binds (ps := ["self", "prime"]) fun _ _ _ _ _ _ us hl => match us, hl with | [_, _], _ => rfl
theorem TX.b_Field_is_number (T : TX K mg) : Binds K (d_ K (a_Field_is_number K)) ["self", "value"] [] := T.F_Field_is_number.binds (ps := ["self", "value"]) fun _ _ _ _ _ _ us hl => match us, hl with | [_, _], _ => rfl
theorem TX.b_Field_subtract (T : TX K mg) : Binds K (d_ K (a_Field_subtract K)) ["self", "one", "other"] [] := T.F_Field_subtract.binds (ps := ["self", "one", "other"]) fun _ _ _ _ _ _ us hl => match us, hl with | [_, _, _], _ => rfl
theorem TX.b_Modulo_is_any (T : TX K mg) : Binds K (d_ K (a_Modulo_is_any K)) ["self", "value"] [] := T.F_Modulo_is_any.binds (ps := ["self", "value"]) fun _ _ _ _ _ _ us hl => match us, hl with | [_, _], _ => rfl
theorem TX.b_Modulo_add (T : TX K mg) : Binds K (d_ K (a_Modulo_add K)) ["self", "one", "other"] [] := T.F_Modulo_add.binds (ps := ["self", "one", "other"]) fun _ _ _ _ _ _ us hl => match us, hl with | [_, _, _], _ => rfl
theorem TX.b_Modulo_negative (T : TX K mg) : Binds K (d_ K (a_Modulo_negative K)) ["self", "number"] [] := T.F_Modulo_negative.binds (ps := ["self", "number"]) fun _ _ _ _ _ _ us hl => match us, hl with | [_, _], _ => rfl
theorem TX.b_Modulo_multiply (T : TX K mg) : Binds K (d_ K (a_Modulo_multiply K)) ["self", "one", "other"] [] := T.F_Modulo_multiply.binds (ps := ["self", "one", "other"]) fun _ _ _ _ _ _ us hl => match us, hl with | [_, _, _], _ => rfl
theorem TX.b_Modulo_divide (T : TX K mg) : Binds K (d_ K (a_Modulo_divide K)) ["self", "one", "other"] [] := T.F_Modulo_divide.binds (ps := ["self", "one", "other"]) fun _ _ _ _ _ _ us hl => match us, hl with | [_, _, _], _ => rfl
theorem TX.b_Order_letters (T : TX K mg) : Binds K (d_ K (a_Order_letters K)) ["self"] [] := T.F_Order_letters.binds (ps := ["self"]) fun _ _ _ _ _ _ us hl => match us, hl with | [_], _ => rfl
theorem TX.b_Order_cost_of (T : TX K mg) : Binds K (d_ K (a_Order_cost_of K)) ["self", "word"] [] := T.F_Order_cost_of.binds (ps := ["self", "word"]) fun _ _ _ _ _ _ us hl => match us, hl with | [_, _], _ => rfl
theorem TX.b_Order_key (T : TX K mg) : Binds K (d_ K (a_Order_key K)) ["self", "word"] [] := T.F_Order_key.binds (ps := ["self", "word"]) fun _ _ _ _ _ _ us hl => match us, hl with | [_, _], _ => rfl
theorem TX.b_Order_below (T : TX K mg) : Binds K (d_ K (a_Order_below K)) ["self", "one", "other"] [] := T.F_Order_below.binds (ps := ["self", "one", "other"]) fun _ _ _ _ _ _ us hl => match us, hl with | [_, _, _], _ => rfl
theorem TX.b_Order_count_next (T : TX K mg) : Binds K (d_ K (a_Order_count_next K)) ["self", "counts"] [] := T.F_Order_count_next.binds (ps := ["self", "counts"]) fun _ _ _ _ _ _ us hl => match us, hl with | [_, _], _ => rfl
theorem TX.b_Order_counts_to (T : TX K mg) : Binds K (d_ K (a_Order_counts_to K)) ["self", "cost"] [] := T.F_Order_counts_to.binds (ps := ["self", "cost"]) fun _ _ _ _ _ _ us hl => match us, hl with | [_, _], _ => rfl
theorem TX.b_Order_filled (T : TX K mg) : Binds K (d_ K (a_Order_filled K)) ["self", "cost", "counts", "is_last"] [] := T.F_Order_filled.binds (ps := ["self", "cost", "counts", "is_last"]) fun _ _ _ _ _ _ us hl => match us, hl with | [_, _, _, _], _ => rfl
theorem TX.b_Order_is_possible (T : TX K mg) : Binds K (d_ K (a_Order_is_possible K)) ["self", "letter", "cost", "counts"] [] := T.F_Order_is_possible.binds (ps := ["self", "letter", "cost", "counts"]) fun _ _ _ _ _ _ us hl => match us, hl with | [_, _, _, _], _ => rfl
theorem TX.b_Order_neighbor (T : TX K mg) : Binds K (d_ K (a_Order_neighbor K)) ["self", "word", "counts", "is_later"] [] := T.F_Order_neighbor.binds (ps := ["self", "word", "counts", "is_later"]) fun _ _ _ _ _ _ us hl => match us, hl with | [_, _, _, _], _ => rfl
theorem TX.b_Order_follower (T : TX K mg) : Binds K (d_ K (a_Order_follower K)) ["self", "word"] [] := T.F_Order_follower.binds (ps := ["self", "word"]) fun _ _ _ _ _ _ us hl => match us, hl with | [_, _], _ => rfl
theorem TX.b_Order_is_before (T : TX K mg) : Binds K (d_ K (a_Order_is_before K)) ["self", "word", "other"] [] := T.F_Order_is_before.binds (ps := ["self", "word", "other"]) fun _ _ _ _ _ _ us hl => match us, hl with | [_, _, _], _ => rfl
theorem TX.b_Order_after (T : TX K mg) : Binds K (d_ K (a_Order_after K)) ["self", "word"] [] := T.F_Order_after.binds (ps := ["self", "word"]) fun _ _ _ _ _ _ us hl => match us, hl with | [_, _], _ => rfl
theorem TX.b_law_rule_lengths (T : TX K mg) : Binds K (d_ K (a_law_rule_lengths K)) ["_law_values", "_law_prime_here"] [] := T.F_law_rule_lengths.binds (ps := ["_law_values", "_law_prime_here"]) fun _ _ _ _ _ _ us hl => match us, hl with | [_, _], _ => rfl
theorem TX.b_law_pen (T : TX K mg) : Binds K (d_ K (a_law_pen K)) ["_law_script"] [] := T.F_law_pen.binds (ps := ["_law_script"]) fun _ _ _ _ _ _ us hl => match us, hl with | [_], _ => rfl
theorem TX.b_law_draw (T : TX K mg) : Binds K (d_ K (a_law_draw K)) ["_law_pen_here", "_law_many"] [] := T.F_law_draw.binds (ps := ["_law_pen_here", "_law_many"]) fun _ _ _ _ _ _ us hl => match us, hl with | [_, _], _ => rfl
theorem TX.b_law_pick (T : TX K mg) : Binds K (d_ K (a_law_pick K)) ["_law_pen_here", "_law_options"] [] := T.F_law_pick.binds (ps := ["_law_pen_here", "_law_options"]) fun _ _ _ _ _ _ us hl => match us, hl with | [_, _], _ => rfl
theorem TX.b_law_shuffled (T : TX K mg) : Binds K (d_ K (a_law_shuffled K)) ["_law_pen_here", "_law_items"] [] := T.F_law_shuffled.binds (ps := ["_law_pen_here", "_law_items"]) fun _ _ _ _ _ _ us hl => match us, hl with | [_, _], _ => rfl
theorem TX.b_law_prime (T : TX K mg) : Binds K (d_ K (a_law_prime K)) ["_law_pen_here"] [] := T.F_law_prime.binds (ps := ["_law_pen_here"]) fun _ _ _ _ _ _ us hl => match us, hl with | [_], _ => rfl
theorem TX.b_law_letters (T : TX K mg) : Binds K (d_ K (a_law_letters K)) ["_law_pen_here", "_law_most"] [] := T.F_law_letters.binds (ps := ["_law_pen_here", "_law_most"]) fun _ _ _ _ _ _ us hl => match us, hl with | [_, _], _ => rfl
theorem TX.b_law_inverse (T : TX K mg) : Binds K (d_ K (a_law_inverse K)) ["_law_number_here", "_law_prime_here"] [] := T.F_law_inverse.binds (ps := ["_law_number_here", "_law_prime_here"]) fun _ _ _ _ _ _ us hl => match us, hl with | [_, _], _ => rfl
theorem TX.b_law_number (T : TX K mg) : Binds K (d_ K (a_law_number K)) ["_law_pen_here", "_law_prime_here"] [] := T.F_law_number.binds (ps := ["_law_pen_here", "_law_prime_here"]) fun _ _ _ _ _ _ us hl => match us, hl with | [_, _], _ => rfl
theorem TX.b_law (T : TX K mg) : Binds K (d_ K (a_law K)) ["_law_script"] [] := T.F_law.binds (ps := ["_law_script"]) fun _ _ _ _ _ _ us hl => match us, hl with | [_], _ => rfl
end

end Fa

namespace Fa
open PySem PySem.Spec PyProof.Rows L2

/-! ### heaps -/
theorem _root_.L2.Same.new {H : Hp} {p : Addr} {o : HO} (h : H p = none) : Same H (upd H p o) := fun a u e => by
  rw [upd_ne (ne_of_none e h)]; exact e
theorem _root_.L2.Same.put {H H1 : Hp} {p : Addr} {o : HO} (s : Same H H1) (h : H p = none) : Same H (upd H1 p o) := fun a u e => by
  rw [upd_ne (ne_of_none e h)]; exact s a u e
theorem _root_.L2.Same.tup {K : PySem.W.Frag} {H H' : Hp} {a : Addr} {xs : List V} (e : Same H H') (h : SqT K H a xs) : SqT K H' a xs := by
  rcases h with (h | ⟨o, h⟩) | h
  · exact .inl (.inl (e _ _ h))
  · exact .inl (.inr ⟨o, e _ _ h⟩)
  · exact .inr h
theorem sz (n : Nat) (h : n ≤ 100000) : n ≤ sizeLine := Nat.le_trans h (by decide)
theorem szl (n : Nat) (h : n ≤ 100000) : n < sizeLine := Nat.lt_of_le_of_lt h (by decide)

/-! ### comprehensions whose turns only add to the heap -/
section
variable {J : It} {n : Nat} {G : Hp → Prop} {Y : Nat → Hp → V → Hp → Prop}
def picked (n : Nat) (f : Nat → Option V) : List V := (List.range n).filterMap f
theorem picked_succ (n : Nat) (f : Nat → Option V) : picked (n + 1) f = picked n f ++ (f n).toList := by
  unfold picked
  rw [List.range_succ, List.filterMap_append]
  cases h : f n <;> simp [List.filterMap_cons, h]
theorem picked_len (n : Nat) (f : Nat → Option V) : (picked n f).length ≤ n := by
  have := List.length_filterMap_le f (List.range n)
  unfold picked
  simpa using this
theorem picked_map (n : Nat) (f : Nat → V) : picked n (fun i => some (f i)) = (List.range n).map f := by
  unfold picked
  rw [List.filterMap_eq_map']
theorem lc_fil (w : Walk J n G Y) {g : TG} {tt : TT} {te : TE} {vs : List Nat} {σ : L2.St} {H1 : Hp} {D : Addr} {Qd : Hp → Prop} (f : Nat → Option V) (hD : H1 D = none) (hn : n ≤ 100000) (hG : ∀ H, Same H1 H → G H)
    (hs : ∀ i x H H', i < n → Same H1 H → Y i H x H' → ∀ Kt : Option V → Hp → Prop, (∀ H'', Same H H'' → Kt (f i) H'') →
      g x (wipe σ vs) H' fun σ2 H2 => wipe σ2 vs = wipe σ vs ∧ tt σ2 H2 fun b H3 => if b = true then te σ2 H3 fun y H4 => Kt (some y) H4 else Kt none H3)
    (hd : ∀ H, Same H1 H → H D = some (.lst (picked n f)) → Qd H) :
    ∃ W : Nat → Nat → Hp → Prop, (∃ m, W 0 m (upd H1 D (.lst []))) ∧ ∀ i m H, W i m H →
      (J.stop i H ∧ Qd H) ∨ (J.go i H ∧ ∃ Nx : Hp → Prop, (∀ H', Nx H' → ∃ m', m' < m ∧ W (i + 1) m' H') ∧ ∀ x H', J.yld i H x H' → g x (wipe σ vs) H' fun σ2 H2 => wipe σ2 vs = wipe σ vs ∧ tt σ2 H2 fun b H3 =>
        if b = true then te σ2 H3 fun y H4 => ∃ acc, H4 D = some (.lst acc) ∧ acc.length < sizeLine ∧ Nx (upd H4 D (.lst (acc ++ [y]))) else Nx H3) := by
  refine lc_it w (fun i H => Same H1 H ∧ H D = some (.lst (picked i f))) ⟨Same.new hD, upd_same⟩ (fun i H _ p => hG H p.1) (fun i x H H' hi p y => ?_) (fun H p => hd H p.1 p.2)
  refine hs i x H H' hi p.1 y (fun o H4 => match o with
    | some y => ∃ acc, H4 D = some (.lst acc) ∧ acc.length < sizeLine ∧ (Same H1 (upd H4 D (.lst (acc ++ [y]))) ∧ (upd H4 D (.lst (acc ++ [y]))) D = some (.lst (picked (i + 1) f)))
    | none => Same H1 H4 ∧ H4 D = some (.lst (picked (i + 1) f))) fun H'' s => ?_
  have hD2 : H'' D = some (.lst (picked i f)) := s _ _ p.2
  cases h : f i with
  | some y =>
    refine ⟨_, hD2, szl _ (by have := picked_len i f; omega), Same.put (p.1.trans s) hD, ?_⟩
    rw [upd_same, picked_succ, h]; rfl
  | none =>
    refine ⟨p.1.trans s, ?_⟩
    rw [hD2, picked_succ, h]
    show _ = some (HO.lst (picked i f ++ []))
    rw [List.append_nil]
theorem lc_map (w : Walk J n G Y) {g : TG} {te : TE} {vs : List Nat} {σ : L2.St} {H1 : Hp} {D : Addr} {Qd : Hp → Prop} (f : Nat → V) (hD : H1 D = none) (hn : n ≤ 100000) (hG : ∀ H, Same H1 H → G H)
    (hs : ∀ i x H H', i < n → Same H1 H → Y i H x H' → ∀ Kt : V → Hp → Prop, (∀ H'', Same H H'' → Kt (f i) H'') →
      g x (wipe σ vs) H' fun σ2 H2 => wipe σ2 vs = wipe σ vs ∧ te σ2 H2 Kt)
    (hd : ∀ H, Same H1 H → H D = some (.lst ((List.range n).map f)) → Qd H) :
    ∃ W : Nat → Nat → Hp → Prop, (∃ m, W 0 m (upd H1 D (.lst []))) ∧ ∀ i m H, W i m H →
      (J.stop i H ∧ Qd H) ∨ (J.go i H ∧ ∃ Nx : Hp → Prop, (∀ H', Nx H' → ∃ m', m' < m ∧ W (i + 1) m' H') ∧ ∀ x H', J.yld i H x H' → g x (wipe σ vs) H' fun σ2 H2 => wipe σ2 vs = wipe σ vs ∧ tYes σ2 H2 fun b H3 =>
        if b = true then te σ2 H3 fun y H4 => ∃ acc, H4 D = some (.lst acc) ∧ acc.length < sizeLine ∧ Nx (upd H4 D (.lst (acc ++ [y]))) else Nx H3) := by
  refine lc_fil w (tt := tYes) (fun i => some (f i)) hD hn hG (fun i x H H' hi s y Kt k => ?_) (fun H s h => hd H s (by rw [h, picked_map]))
  exact hs i x H H' hi s y (fun v H4 => Kt (some v) H4) fun H'' s' => k H'' s'
end

/-! ### words of one letter -/
def A (c k : Nat) : Str := ⟨(List.replicate k c).toArray⟩
theorem A_one (c : Nat) : (⟨#[c]⟩ : Str) = A c 1 := rfl
theorem A_zero (c : Nat) : A c 0 = (⟨#[]⟩ : Str) := rfl
theorem A_len (c k : Nat) : (A c k).length = k := by
  show (List.replicate k c).toArray.size = k
  simp
theorem A_size (c k : Nat) : (A c k).cps.size = k := A_len c k
theorem A_list (c k : Nat) : (A c k).cps.toList = List.replicate k c := by
  show (List.replicate k c).toArray.toList = _
  simp
theorem A_add (c i j : Nat) : A c i ++ A c j = A c (i + j) := by
  show (⟨(List.replicate i c).toArray ++ (List.replicate j c).toArray⟩ : Str) = ⟨(List.replicate (i + j) c).toArray⟩
  rw [List.append_toArray, List.replicate_append_replicate]
theorem A_inj {c i j : Nat} (h : A c i = A c j) : i = j := by
  have := congrArg Str.length h
  rwa [A_len, A_len] at this
theorem A_get {c k i : Nat} (h : i < k) : (A c k).cps[i]? = some c := by
  show (List.replicate k c).toArray[i]? = some c
  simp [h]
theorem A_at {c k i d : Nat} (h : (A c k).cps[i]? = some d) : d = c := by
  rw [← Array.getElem?_toList, A_list, List.getElem?_replicate] at h
  split at h
  · exact (Option.some.inj h).symm
  · cases h
theorem cut_pre (c k i : Nat) (h : i ≤ k) : cutS (A c k) none (some (i : Int)) = A c i := by
  unfold cutS
  rw [A_list, A_len]
  show (⟨((List.replicate k c).drop 0 |>.take (HT.sIx k k (some (i : Int)) - 0)).toArray⟩ : Str) = _
  have e : HT.sIx k k (some (i : Int)) = i := by
    show (if (i : Int) < 0 then ((i : Int) + (k : Int)).toNat else min (i : Int).toNat k) = i
    rw [if_neg (by omega)]; omega
  rw [e, List.drop_zero, Nat.sub_zero, List.take_replicate, Nat.min_eq_left h]; rfl
theorem cut_suf (c k i : Nat) (h : i ≤ k) : cutS (A c k) (some (i : Int)) none = A c (k - i) := by
  unfold cutS
  rw [A_list, A_len]
  have e : HT.sIx k 0 (some (i : Int)) = i := by
    show (if (i : Int) < 0 then ((i : Int) + (k : Int)).toNat else min (i : Int).toNat k) = i
    rw [if_neg (by omega)]; omega
  show (⟨(((List.replicate k c).drop (HT.sIx k 0 (some (i : Int)))).take (k - HT.sIx k 0 (some (i : Int)))).toArray⟩ : Str) = _
  rw [e, List.drop_replicate, List.take_replicate, Nat.min_self]; rfl
theorem A_lt (c i j : Nat) : decide ((A c i).cps.toList < (A c j).cps.toList) = decide (i < j) := by
  rw [A_list, A_list]
  have h : ∀ i j : Nat, List.replicate i c < List.replicate j c ↔ i < j := by
    intro i
    induction i with
    | zero => intro j; cases j with
      | zero => simp
      | succ j => simp [List.replicate_succ]
    | succ i ih => intro j; cases j with
      | zero => simp
      | succ j => rw [List.replicate_succ, List.replicate_succ, List.cons_lt_cons_iff]; simp [ih]
  exact decide_eq_decide.mpr (h i j)
end Fa

namespace Fa
open PySem PySem.Spec L2
/-! ### the head: what stands behind the top -/
theorem fdOf_eq {K : PySem.W.Frag} {f : Addr} {oc : Value} {od : Option Addr} {osl : Array (Option Value)} {fd : FuncData} (lk : K.lookup f = some ⟨oc, od, .func fd, osl⟩) : fdOf K f = fd := by
  unfold fdOf
  rw [lk]
theorem dfn_d {K : PySem.W.Frag} {x qual : Str} {pa : Arguments} {bo : List Stmt} {sc : Scope} {f : Addr} {dvs : List V} {kws : List (Str × V)} (F : ∃ fd, FunD K x qual pa bo sc dvs kws f fd) : FunD K x qual pa bo sc dvs kws f (d_ K f) := by
  obtain ⟨fd, F⟩ := F
  obtain ⟨oc, od, dV, kV, doc, pm, an, cdv, ct, osl, e, lk, _⟩ := F.ex
  have q : d_ K f = fd := fdOf_eq lk
  rw [q]; exact F
theorem fun_d {K : PySem.W.Frag} {x qual : Str} {st : Stmt} {f : Addr} {kws : List (Str × V)} (F : ∃ fd, FunD K x qual (defArgs st) (defBody st) (defScope st) [] kws f fd) : Fun K x qual st f (d_ K f) := He5.fun_of (dfn_d F)
theorem meth_to {K : PySem.W.Frag} {C f g : Addr} {m : Str} (h : Meth K C m f) (e : decide (f = g) = true) : Meth K C m g := by
  rw [← of_decide_eq_true e]; exact h
def prB (K : PySem.W.Frag) (C : Addr) (f : Str) : Bool := He.eqO (PySem.W.findIn K (.ref C) f) (some (some (.ref (He.ma K C f)))) && (He.eqO (PySem.W.specialIn K (.ref (He.ma K C f)) "__get__") (some (some (.builtin "property.__get__"))) && (decide (PySem.W.takesIn K (.ref (He.ma K C f)) = some true) &&
  (match PySem.W.recIn K (He.ma K C f) "property" with
    | some (.ref _ :: _) => true
    | _ => false)))
theorem prB_ok {K : PySem.W.Frag} {C : Addr} {f : Str} (h : prB K C f = true) : PropOf K C f (He.ma K C f) (prG K C f) := by
  obtain ⟨h1, h⟩ := He.ba h
  obtain ⟨h2, h⟩ := He.ba h
  obtain ⟨h3, h4⟩ := He.ba h
  refine ⟨He.eqO_ok h1, He.eqO_ok h2, of_decide_eq_true h3, ?_⟩
  unfold prG
  split at h4
  · rename_i g r e
    exact ⟨r, by rw [e]⟩
  · cases h4
def bmB (K : PySem.W.Frag) (g : Addr) : Bool := He.eqO (PySem.W.specialIn K (.ref g) "__get__") (some (some (.builtin "function.__get__"))) && (decide (PySem.W.takesIn K (.ref g) = some false) && PySem.W.fnIn K g)
theorem bmB_ok {K : PySem.W.Frag} {C g : Addr} {m : Str} (hm : Meth K C m g) (hc : PySem.W.copiedNames.contains m = false) (h : bmB K g = true) : BMeth K C m g := by
  obtain ⟨h1, h⟩ := He.ba h
  obtain ⟨h2, h3⟩ := He.ba h
  exact ⟨hm, He.eqO_ok h1, of_decide_eq_true h2, hc, h3⟩
theorem crB_ok {K : PySem.W.Frag} {C : Addr} (h0 : PySem.W.readsIn K C (.type "type") = true) : ClX.CRead K C (.type "type") := by
  refine ⟨h0, ?_⟩
  have h := h0
  unfold PySem.W.readsIn at h
  obtain ⟨h, _⟩ := He.ba h
  obtain ⟨h, _⟩ := He.ba h
  obtain ⟨h, h3⟩ := He.ba h
  obtain ⟨_, h2⟩ := He.ba h
  unfold PySem.W.specialIn
  rw [beq_iff_eq.mp h2, Option.bind_some]
  exact beq_iff_eq.mp h3
/-- the __init__ with a cell -/
abbrev FnC : Type := Option (Str × Str × Arguments × FuncBody × Scope × Addr × Addr × List Str)
def fnC (K : PySem.W.Frag) (a : Addr) : FnC := match K.lookup a with
  | some ⟨_, _, .func fd, _⟩ => some (fd.name, fd.qualname, fd.params, fd.body, fd.scope, fd.globals, fd.builtins, fd.closure.map (·.1))
  | _ => none
def valC : FnC := some (("__init__" : Str), ("Modulo.__init__" : Str), defArgs s_Modulo_init, FuncBody.stmts (defBody s_Modulo_init), defScope s_Modulo_init, mainGlobals, builtinsNs, [("__class__" : Str)])
def miB (K : PySem.W.Frag) : Bool := match K.lookup (a_Modulo_init K) with
  | some ⟨_, _, .func fd, _⟩ => PySem.W.codeIn K fd.code "Modulo.__init__" && ((match fd.code with
    | .ref cda => (match K.lookup cda with
      | some ⟨_, _, .fields vs, _⟩ => (match (vs[2]? : Option Value) with
        | some (.str file _) => (((PySem.Challenge.pw_firstanswers_k46_whole_one_letter_and_li).main.file : Str) == file)
        | _ => false)
      | _ => false)
    | _ => false) && (match fd.closure with
    | (_, cc) :: _ => (match K.lookup cc with
      | some ⟨_, _, .cell (some (.ref C)), _⟩ => decide (C = c_Modulo K)
      | _ => false)
    | _ => false))
  | _ => false
theorem modInit {K : PySem.W.Frag} (e : fnC K (a_Modulo_init K) = valC) (h : miB K = true) :
    ∃ (oc dV kV doc pm ct ccl cl : Value) (od an cdd cld : Option Addr) (osl ccs csl : Array (Option Value)) (cda cc : Addr) (vs : Array Value) (file : Str) (tf : Tok), K.lookup (a_Modulo_init K) = some ⟨oc, od, .func (PySem.W.fnX "__init__" "Modulo.__init__" (defArgs s_Modulo_init) (defBody s_Modulo_init) (defScope s_Modulo_init) [("__class__", cc)] dV kV doc pm an (.ref cda) ct), osl⟩ ∧
      PySem.W.codeIn K (.ref cda) "Modulo.__init__" = true ∧ K.lookup cda = some ⟨ccl, cdd, .fields vs, ccs⟩ ∧ vs[2]? = some (.str file tf) ∧ (((PySem.Challenge.pw_firstanswers_k46_whole_one_letter_and_li).main.file : Str) == file) = true ∧ K.lookup cc = some ⟨cl, cld, .cell (some (.ref (c_Modulo K))), csl⟩ := by
  unfold fnC at e
  unfold miB at h
  cases q : K.lookup (a_Modulo_init K) with
  | none => rw [q] at h; cases h
  | some o =>
    obtain ⟨oc, od, dt, osl⟩ := o
    rw [q] at h e
    cases dt with
    | func fd =>
      obtain ⟨n1, n2, n3, n4, n5, n6, n7, n8, n9, n10, n11, n12, n13, n14, n15⟩ := fd
      have e2 : (some (n1, n2, n3, n4, n5, n6, n15, n7.map (·.1)) : FnC) = some (("__init__" : Str), ("Modulo.__init__" : Str), defArgs s_Modulo_init, FuncBody.stmts (defBody s_Modulo_init), defScope s_Modulo_init, mainGlobals, builtinsNs, [("__class__" : Str)]) := e
      have e3 := Option.some.inj e2
      obtain ⟨h1, e3⟩ := Prod.mk.inj e3
      obtain ⟨h2, e3⟩ := Prod.mk.inj e3
      obtain ⟨h3, e3⟩ := Prod.mk.inj e3
      obtain ⟨h4, e3⟩ := Prod.mk.inj e3
      obtain ⟨h5, e3⟩ := Prod.mk.inj e3
      obtain ⟨h6, e3⟩ := Prod.mk.inj e3
      obtain ⟨h7, h8⟩ := Prod.mk.inj e3
      subst h1 h2 h3 h4 h5 h6 h7
      obtain ⟨k1, h⟩ := He.ba h
      obtain ⟨k2, k3⟩ := He.ba h
      obtain ⟨cda, rfl⟩ := He.codeIn_ref k1
      obtain ⟨cc, rfl⟩ : ∃ cc : Addr, n7 = [(("__class__" : Str), cc)] := by
        cases n7 with
        | nil => exact absurd (congrArg List.length h8) (by simp)
        | cons a l =>
          cases l with
          | cons b l => exact absurd (congrArg List.length h8) (by simp)
          | nil =>
            obtain ⟨a1, a2⟩ := a
            have ea : a1 = ("__class__" : Str) := (List.cons.inj h8).1
            exact ⟨a2, by rw [ea]⟩
      have k2 : (match K.lookup cda with
        | some ⟨_, _, .fields vs, _⟩ => (match (vs[2]? : Option Value) with
          | some (.str file _) => (((PySem.Challenge.pw_firstanswers_k46_whole_one_letter_and_li).main.file : Str) == file)
          | _ => false)
        | _ => false) = true := k2
      have k3 : (match K.lookup cc with
        | some ⟨_, _, .cell (some (.ref C)), _⟩ => decide (C = c_Modulo K)
        | _ => false) = true := k3
      split at k2
      · rename_i ccl cdd vs ccs q2
        split at k2
        · rename_i file tf q3
          split at k3
          · rename_i cl cld C csl q4
            have e4 := of_decide_eq_true k3
            subst e4
            exact ⟨oc, n8, n9, n10, n11, n14, ccl, cl, od, n12, cdd, cld, osl, ccs, csl, cda, cc, vs, file, tf, rfl, k1, q2, q3, k2, q4⟩
          · cases k3
        · cases k2
      · cases k2
    | _ => cases h
def mi0B (K : PySem.W.Frag) : Bool := match K.lookup (a_Modulo_init K) with
  | some ⟨_, _, .func fd, _⟩ => (match fd.defaults with
    | .none => true
    | _ => false)
  | _ => false
theorem mi0_ok {K : PySem.W.Frag} (h : mi0B K = true) : ∃ (oc : Value) (od : Option Addr) (fd : FuncData) (osl : Array (Option Value)), K.lookup (a_Modulo_init K) = some ⟨oc, od, .func fd, osl⟩ ∧ fd.defaults = .none := by
  unfold mi0B at h
  split at h
  · rename_i oc od fd osl q
    refine ⟨oc, od, fd, osl, q, ?_⟩
    split at h
    · rename_i e
      exact e
    · cases h
  · cases h
def imB (K : PySem.W.Frag) : Bool := match PySem.W.clsIn K (c_Modulo K) with
  | some cd => He.eqO (PySem.W.alongIn K "__init__" ((cd.mro.dropWhile (· != .ref (c_Modulo K))).drop 1)) (some (some (.ref (a_Field_init K))))
  | none => false
theorem imB_ok {K : PySem.W.Frag} (h : imB K = true) : ∃ cd, PySem.W.clsIn K (c_Modulo K) = some cd ∧ PySem.W.alongIn K "__init__" ((cd.mro.dropWhile (· != .ref (c_Modulo K))).drop 1) = some (some (.ref (a_Field_init K))) := by
  unfold imB at h
  split at h
  · rename_i cd e
    exact ⟨cd, e, He.eqO_ok h⟩
  · cases h
theorem lc_ok {K : PySem.W.Frag} {x qual : Str} {st : Stmt} (F : Fun K x qual st (a_Grid_basis_words K) (d_ K (a_Grid_basis_words K))) : (d_ K (a_Grid_basis_words K)).code = .ref (lc K) := by
  obtain ⟨oc, od, kV, doc, pm, an, cdv, ct, osl, e, lk, hc⟩ := F.ex
  obtain ⟨c, rfl⟩ := He.codeIn_ref hc
  have e2 : (d_ K (a_Grid_basis_words K)).code = .ref c := by rw [e]
  unfold lc
  rw [e2]
/-! ### the facts (printed by head.py) -/

def fas0 : List (He.Fa) := [.glo "is_integer",
  .glo "is_between",
  .glo "are_letters",
  .glo "is_word",
  .glo "need_word",
  .glo "without",
  .glo "most_answers",
  .glo "need_answers",
  .glo "grid_of",
  .glo "answers_on",
  .glo "parts_of",
  .glo "power",
  .glo "is_witness",
  .glo "is_prime",
  .glo "ten_to",
  .glo "is_short",
  .glo "_law_rule_lengths",
  .glo "_law_pen",
  .glo "_law_draw",
  .glo "_law_pick",
  .glo "_law_shuffled",
  .glo "_law_prime",
  .glo "_law_letters",
  .glo "_law_inverse",
  .glo "_law_number",
  .glo "law",
  .glo "Grid",
  .glo "Answers",
  .glo "Modulo",
  .glo "Order"]
def fas1 : List (He.Fa) := [.free "isinstance",
  .free "len",
  .free "all",
  .free "any",
  .free "sum",
  .free "range",
  .free "list",
  .free "zip",
  .free "sorted",
  .free "enumerate",
  .free "tuple",
  .free "int",
  .free "abs",
  .free "super",
  .free "str",
  .free "bool",
  .int "MAX_DIGITS" 100,
  .int "MAX_PRIME" 1000000000,
  .int "MAX_LETTERS" 4,
  .int "MAX_COST" 9,
  .int "MAX_WORD" 160,
  .int "MAX_ANSWERS" 150,
  .int "MAX_FRACTION_ANSWERS" 60,
  .str "ALPHABET" "abcdefghijklmnopqrstuvwxyz",
  .glo "SMALL_PRIMES",
  .glo "WITNESSES",
  .cls "Grid",
  .noat "Grid" "own_field",
  .noat "Grid" "own_order",
  .noat "Grid" "known_words"]
def fas2 : List (He.Fa) := [.noat "Grid" "known_values",
  .noat "Grid" "number_of_known",
  .noat "Grid" "column_counts",
  .noat "Grid" "upcoming",
  .noat "Grid" "leads",
  .noat "Grid" "word_of_lead",
  .noat "Grid" "pivot_rows",
  .noat "Grid" "shares_of",
  .noat "Grid" "grown_sizes",
  .meth "Grid" "known_value",
  .meth "Grid" "column_count",
  .meth "Grid" "known_row",
  .meth "Grid" "is_later",
  .meth "Grid" "basis_words",
  .meth "Grid" "shares_in",
  .meth "Grid" "in_basis_words",
  .meth "Grid" "combination",
  .meth "Grid" "forced_prefixes",
  .meth "Grid" "forced_number",
  .meth "Grid" "take",
  .meth "Grid" "joined_shares",
  .meth "Grid" "extend",
  .meth "Grid" "pivot_value",
  .meth "Grid" "size_now",
  .meth "Grid" "border_words",
  .cls "Answers",
  .noat "Answers" "own_grid",
  .noat "Answers" "own_numbers",
  .noat "Answers" "own_size",
  .noat "Answers" "own_basis"]
def fas3 : List (He.Fa) := [.noat "Answers" "own_borders",
  .noat "Answers" "own_columns",
  .meth "Answers" "keep",
  .meth "Answers" "profile",
  .cls "Modulo",
  .noat "Modulo" "own_prime",
  .meth "Modulo" "is_number",
  .meth "Modulo" "subtract",
  .meth "Modulo" "is_any",
  .meth "Modulo" "add",
  .meth "Modulo" "negative",
  .meth "Modulo" "multiply",
  .meth "Modulo" "divide",
  .cls "Order",
  .noat "Order" "own_letters",
  .noat "Order" "own_costs",
  .meth "Order" "cost_of",
  .meth "Order" "below",
  .meth "Order" "count_next",
  .meth "Order" "counts_to",
  .meth "Order" "filled",
  .meth "Order" "is_possible",
  .meth "Order" "neighbor",
  .meth "Order" "follower",
  .meth "Order" "is_before",
  .meth "Order" "after",
  .meth "Order" "key",
  .mkr "Grid",
  .mkr "Answers",
  .mkr "Order"]
def fas4 : List (He.Fa) := [.mkr "Modulo",
  .meth "Order" "sorted_words"]
abbrev fas : List (He.Fa) := fas0 ++ (fas1 ++ (fas2 ++ (fas3 ++ (fas4))))
def das0 : List (He5.DefA) := [⟨a_is_integer, "is_integer", "is_integer", defArgs s_is_integer, defBody s_is_integer, defScope s_is_integer, [], []⟩,
  ⟨a_is_between, "is_between", "is_between", defArgs s_is_between, defBody s_is_between, defScope s_is_between, [], []⟩,
  ⟨a_are_letters, "are_letters", "are_letters", defArgs s_are_letters, defBody s_are_letters, defScope s_are_letters, [], []⟩,
  ⟨a_is_word, "is_word", "is_word", defArgs s_is_word, defBody s_is_word, defScope s_is_word, [.int 160], []⟩,
  ⟨a_need_word, "need_word", "need_word", defArgs s_need_word, defBody s_need_word, defScope s_need_word, [.int 160], []⟩,
  ⟨a_without, "without", "without", defArgs s_without, defBody s_without, defScope s_without, [], []⟩,
  ⟨a_most_answers, "most_answers", "most_answers", defArgs s_most_answers, defBody s_most_answers, defScope s_most_answers, [], []⟩,
  ⟨a_need_answers, "need_answers", "need_answers", defArgs s_need_answers, defBody s_need_answers, defScope s_need_answers, [], []⟩,
  ⟨a_grid_of, "grid_of", "grid_of", defArgs s_grid_of, defBody s_grid_of, defScope s_grid_of, [], []⟩,
  ⟨a_answers_on, "answers_on", "answers_on", defArgs s_answers_on, defBody s_answers_on, defScope s_answers_on, [], []⟩,
  ⟨a_parts_of, "parts_of", "parts_of", defArgs s_parts_of, defBody s_parts_of, defScope s_parts_of, [], []⟩,
  ⟨a_power, "power", "power", defArgs s_power, defBody s_power, defScope s_power, [], []⟩,
  ⟨a_is_witness, "is_witness", "is_witness", defArgs s_is_witness, defBody s_is_witness, defScope s_is_witness, [], []⟩,
  ⟨a_is_prime, "is_prime", "is_prime", defArgs s_is_prime, defBody s_is_prime, defScope s_is_prime, [], []⟩,
  ⟨a_ten_to, "ten_to", "ten_to", defArgs s_ten_to, defBody s_ten_to, defScope s_ten_to, [], []⟩,
  ⟨a_is_short, "is_short", "is_short", defArgs s_is_short, defBody s_is_short, defScope s_is_short, [], []⟩,
  ⟨a_Grid_init, "__init__", "Grid.__init__", defArgs s_Grid_init, defBody s_Grid_init, defScope s_Grid_init, [], []⟩,
  ⟨a_Grid_known_value, "known_value", "Grid.known_value", defArgs s_Grid_known_value, defBody s_Grid_known_value, defScope s_Grid_known_value, [], []⟩,
  ⟨a_Grid_column_count, "column_count", "Grid.column_count", defArgs s_Grid_column_count, defBody s_Grid_column_count, defScope s_Grid_column_count, [], []⟩,
  ⟨a_Grid_known_row, "known_row", "Grid.known_row", defArgs s_Grid_known_row, defBody s_Grid_known_row, defScope s_Grid_known_row, [], []⟩,
  ⟨a_Grid_is_later, "is_later", "Grid.is_later", defArgs s_Grid_is_later, defBody s_Grid_is_later, defScope s_Grid_is_later, [], []⟩,
  ⟨a_Grid_basis_words, "basis_words", "Grid.basis_words", defArgs s_Grid_basis_words, defBody s_Grid_basis_words, defScope s_Grid_basis_words, [], []⟩,
  ⟨a_Grid_shares_in, "shares_in", "Grid.shares_in", defArgs s_Grid_shares_in, defBody s_Grid_shares_in, defScope s_Grid_shares_in, [], []⟩,
  ⟨a_Grid_in_basis_words, "in_basis_words", "Grid.in_basis_words", defArgs s_Grid_in_basis_words, defBody s_Grid_in_basis_words, defScope s_Grid_in_basis_words, [], []⟩,
  ⟨a_Grid_combination, "combination", "Grid.combination", defArgs s_Grid_combination, defBody s_Grid_combination, defScope s_Grid_combination, [], []⟩,
  ⟨a_Grid_forced_prefixes, "forced_prefixes", "Grid.forced_prefixes", defArgs s_Grid_forced_prefixes, defBody s_Grid_forced_prefixes, defScope s_Grid_forced_prefixes, [], []⟩,
  ⟨a_Grid_forced_number, "forced_number", "Grid.forced_number", defArgs s_Grid_forced_number, defBody s_Grid_forced_number, defScope s_Grid_forced_number, [], []⟩,
  ⟨a_Grid_take, "take", "Grid.take", defArgs s_Grid_take, defBody s_Grid_take, defScope s_Grid_take, [], []⟩,
  ⟨a_Grid_joined_shares, "joined_shares", "Grid.joined_shares", defArgs s_Grid_joined_shares, defBody s_Grid_joined_shares, defScope s_Grid_joined_shares, [], []⟩,
  ⟨a_Grid_extend, "extend", "Grid.extend", defArgs s_Grid_extend, defBody s_Grid_extend, defScope s_Grid_extend, [], []⟩]
def das1 : List (He5.DefA) := [⟨a_Grid_pivot_value, "pivot_value", "Grid.pivot_value", defArgs s_Grid_pivot_value, defBody s_Grid_pivot_value, defScope s_Grid_pivot_value, [], []⟩,
  ⟨a_Grid_size_now, "size_now", "Grid.size_now", defArgs s_Grid_size_now, defBody s_Grid_size_now, defScope s_Grid_size_now, [], []⟩,
  ⟨a_Grid_border_words, "border_words", "Grid.border_words", defArgs s_Grid_border_words, defBody s_Grid_border_words, defScope s_Grid_border_words, [], []⟩,
  ⟨a_Answers_init, "__init__", "Answers.__init__", defArgs s_Answers_init, defBody s_Answers_init, defScope s_Answers_init, [], []⟩,
  ⟨a_Answers_keep, "keep", "Answers.keep", defArgs s_Answers_keep, defBody s_Answers_keep, defScope s_Answers_keep, [], []⟩,
  ⟨a_Answers_given, "given", "Answers.given", defArgs s_Answers_given, defBody s_Answers_given, defScope s_Answers_given, [], []⟩,
  ⟨a_Answers_size, "size", "Answers.size", defArgs s_Answers_size, defBody s_Answers_size, defScope s_Answers_size, [], []⟩,
  ⟨a_Answers_basis, "basis", "Answers.basis", defArgs s_Answers_basis, defBody s_Answers_basis, defScope s_Answers_basis, [], []⟩,
  ⟨a_Answers_borders, "borders", "Answers.borders", defArgs s_Answers_borders, defBody s_Answers_borders, defScope s_Answers_borders, [], []⟩,
  ⟨a_Answers_profile, "profile", "Answers.profile", defArgs s_Answers_profile, defBody s_Answers_profile, defScope s_Answers_profile, [], []⟩,
  ⟨a_Field_init, "__init__", "Field.__init__", defArgs s_Field_init, defBody s_Field_init, defScope s_Field_init, [], []⟩,
  ⟨a_Field_is_number, "is_number", "Field.is_number", defArgs s_Field_is_number, defBody s_Field_is_number, defScope s_Field_is_number, [], []⟩,
  ⟨a_Field_subtract, "subtract", "Field.subtract", defArgs s_Field_subtract, defBody s_Field_subtract, defScope s_Field_subtract, [], []⟩,
  ⟨a_Modulo_is_any, "is_any", "Modulo.is_any", defArgs s_Modulo_is_any, defBody s_Modulo_is_any, defScope s_Modulo_is_any, [], []⟩,
  ⟨a_Modulo_add, "add", "Modulo.add", defArgs s_Modulo_add, defBody s_Modulo_add, defScope s_Modulo_add, [], []⟩,
  ⟨a_Modulo_negative, "negative", "Modulo.negative", defArgs s_Modulo_negative, defBody s_Modulo_negative, defScope s_Modulo_negative, [], []⟩,
  ⟨a_Modulo_multiply, "multiply", "Modulo.multiply", defArgs s_Modulo_multiply, defBody s_Modulo_multiply, defScope s_Modulo_multiply, [], []⟩,
  ⟨a_Modulo_divide, "divide", "Modulo.divide", defArgs s_Modulo_divide, defBody s_Modulo_divide, defScope s_Modulo_divide, [], []⟩,
  ⟨a_Order_init, "__init__", "Order.__init__", defArgs s_Order_init, defBody s_Order_init, defScope s_Order_init, [], []⟩,
  ⟨a_Order_letters, "letters", "Order.letters", defArgs s_Order_letters, defBody s_Order_letters, defScope s_Order_letters, [], []⟩,
  ⟨a_Order_cost_of, "cost_of", "Order.cost_of", defArgs s_Order_cost_of, defBody s_Order_cost_of, defScope s_Order_cost_of, [], []⟩,
  ⟨a_Order_key, "key", "Order.key", defArgs s_Order_key, defBody s_Order_key, defScope s_Order_key, [], []⟩,
  ⟨a_Order_below, "below", "Order.below", defArgs s_Order_below, defBody s_Order_below, defScope s_Order_below, [], []⟩,
  ⟨a_Order_count_next, "count_next", "Order.count_next", defArgs s_Order_count_next, defBody s_Order_count_next, defScope s_Order_count_next, [], []⟩,
  ⟨a_Order_counts_to, "counts_to", "Order.counts_to", defArgs s_Order_counts_to, defBody s_Order_counts_to, defScope s_Order_counts_to, [], []⟩,
  ⟨a_Order_filled, "filled", "Order.filled", defArgs s_Order_filled, defBody s_Order_filled, defScope s_Order_filled, [], []⟩,
  ⟨a_Order_is_possible, "is_possible", "Order.is_possible", defArgs s_Order_is_possible, defBody s_Order_is_possible, defScope s_Order_is_possible, [], []⟩,
  ⟨a_Order_neighbor, "neighbor", "Order.neighbor", defArgs s_Order_neighbor, defBody s_Order_neighbor, defScope s_Order_neighbor, [], []⟩,
  ⟨a_Order_follower, "follower", "Order.follower", defArgs s_Order_follower, defBody s_Order_follower, defScope s_Order_follower, [], []⟩,
  ⟨a_Order_is_before, "is_before", "Order.is_before", defArgs s_Order_is_before, defBody s_Order_is_before, defScope s_Order_is_before, [], []⟩]
def das2 : List (He5.DefA) := [⟨a_Order_sorted_words, "sorted_words", "Order.sorted_words", defArgs s_Order_sorted_words, defBody s_Order_sorted_words, defScope s_Order_sorted_words, [], []⟩,
  ⟨a_Order_after, "after", "Order.after", defArgs s_Order_after, defBody s_Order_after, defScope s_Order_after, [], []⟩,
  ⟨a_law_rule_lengths, "_law_rule_lengths", "_law_rule_lengths", defArgs s_law_rule_lengths, defBody s_law_rule_lengths, defScope s_law_rule_lengths, [], []⟩,
  ⟨a_law_pen, "_law_pen", "_law_pen", defArgs s_law_pen, defBody s_law_pen, defScope s_law_pen, [], []⟩,
  ⟨a_law_draw, "_law_draw", "_law_draw", defArgs s_law_draw, defBody s_law_draw, defScope s_law_draw, [], []⟩,
  ⟨a_law_pick, "_law_pick", "_law_pick", defArgs s_law_pick, defBody s_law_pick, defScope s_law_pick, [], []⟩,
  ⟨a_law_shuffled, "_law_shuffled", "_law_shuffled", defArgs s_law_shuffled, defBody s_law_shuffled, defScope s_law_shuffled, [], []⟩,
  ⟨a_law_prime, "_law_prime", "_law_prime", defArgs s_law_prime, defBody s_law_prime, defScope s_law_prime, [], []⟩,
  ⟨a_law_letters, "_law_letters", "_law_letters", defArgs s_law_letters, defBody s_law_letters, defScope s_law_letters, [], []⟩,
  ⟨a_law_inverse, "_law_inverse", "_law_inverse", defArgs s_law_inverse, defBody s_law_inverse, defScope s_law_inverse, [], []⟩,
  ⟨a_law_number, "_law_number", "_law_number", defArgs s_law_number, defBody s_law_number, defScope s_law_number, [], []⟩,
  ⟨a_law, "law", "law", defArgs s_law, defBody s_law, defScope s_law, [], []⟩]
abbrev das : List (He5.DefA) := das0 ++ (das1 ++ (das2))
def exs0 : List (PySem.W.Frag → Bool) := [fun K => He.tupB K "SMALL_PRIMES" [.int 2, .int 3, .int 5, .int 7, .int 11, .int 13, .int 17, .int 19, .int 23, .int 29, .int 31, .int 37],
  fun K => He.tupB K "WITNESSES" [.int 2, .int 3, .int 5, .int 7],
  fun K => decide (He.ma K (He.ga K "Modulo") "is_number" = He.ma K (He.ga K "Field") "is_number"),
  fun K => decide (He.ma K (He.ga K "Modulo") "subtract" = He.ma K (He.ga K "Field") "subtract"),
  fun K => prB K (c_Answers K) "size",
  fun K => prB K (c_Answers K) "basis",
  fun K => prB K (c_Answers K) "borders",
  fun K => prB K (c_Order K) "letters",
  fun K => bmB K (a_Order_key K),
  fun K => bmB K (a_Order_sorted_words K),
  fun K => PySem.W.readsIn K (c_Answers K) (.type "type"),
  fun K => He5.wrapB K (c_Answers K) "classmethod" "classmethod.__get__" "given",
  fun K => PySem.W.fnIn K (a_Answers_given K),
  miB,
  imB,
  fun K => decide (PySem.W.mroIn K (c_Modulo K) (.ref (c_Modulo K)) = some true),
  fun K => He.eqO (PySem.W.nsIn K cStatics "thirdparty.any") (some none),
  fun K => decide (PySem.W.typeIn K (.ref (a_Field_init K)) = some (.type "function")),
  fun K => PySem.W.codeHdIn K (lc K) (lP K),
  fun K => (K.lookup (lP K)).isNone,
  fun K => decide (mainGlobals ≠ lP K),
  mi0B]
abbrev exs : List (PySem.W.Frag → Bool) := exs0
def nms0 : List (PySem.Str) := ["_wall",
  "InvalidPrime",
  "InvalidNumber",
  "InvalidLetters",
  "InvalidCost",
  "InvalidWord",
  "InvalidCount",
  "InvalidAnswer",
  "InvalidText",
  "OtherLetters",
  "OutOfRange",
  "NotKnown",
  "NoQuotient",
  "TooMany",
  "TooLong",
  "MAX_DIGITS",
  "MAX_TEXT_DIGITS",
  "MAX_PRIME",
  "MAX_LETTERS",
  "MAX_COST",
  "MAX_WORD",
  "MAX_ANSWERS",
  "MAX_FRACTION_ANSWERS",
  "ALPHABET",
  "is_integer",
  "is_between",
  "is_letter",
  "are_letters",
  "is_word",
  "need_word"]
def nms1 : List (PySem.Str) := ["is_numeral",
  "without",
  "Grid",
  "most_answers",
  "need_answers",
  "grid_of",
  "Answers",
  "answers_on",
  "differing",
  "SMALL_PRIMES",
  "WITNESSES",
  "parts_of",
  "power",
  "is_witness",
  "is_prime",
  "ten_to",
  "is_short",
  "integer_in",
  "Field",
  "Modulo",
  "Order",
  "_law_rule_lengths",
  "_law_pen",
  "_law_draw",
  "_law_pick",
  "_law_shuffled",
  "_law_prime",
  "_law_letters",
  "_law_inverse",
  "_law_number"]
abbrev nms : List (PySem.Str) := nms0 ++ (nms1)
/-! ### the part of the heap -/
def dictRefs (g : Addr → Option Obj) (a : Addr) : List Addr := match g a with
  | some ⟨_, _, .dict es _, _⟩ => es.toList.flatMap fun e => He.refV e.val
  | _ => []
def objRefs (g : Addr → Option Obj) (a : Addr) : List Addr := match g a with
  | some ⟨_, _, .func fd, _⟩ => He.refV fd.code ++ (He.refV fd.defaults ++ fd.closure.map (·.2))
  | some ⟨_, _, .cls cd, _⟩ => cd.ns :: cd.mro.flatMap He.refV
  | some ⟨_, _, .fields vs, _⟩ => vs.toList.flatMap He.refV
  | _ => []
def lev1 (g : Addr → Option Obj) : List Addr := dictRefs g mainGlobals
def isCls (g : Addr → Option Obj) (a : Addr) : Bool := match g a with
  | some ⟨_, _, .cls _, _⟩ => true
  | _ => false
def nsOf (g : Addr → Option Obj) (a : Addr) : List Addr := match g a with
  | some ⟨_, _, .cls cd, _⟩ => [cd.ns]
  | _ => []
def lev2 (g : Addr → Option Obj) : List Addr := (lev1 g).flatMap (objRefs g)
/-- what the classes' dicts hold -/
def lev3 (g : Addr → Option Obj) : List Addr := ((lev1 g).flatMap (nsOf g)).flatMap (dictRefs g)
def lev4 (g : Addr → Option Obj) : List Addr := (lev3 g).flatMap (objRefs g)
def isF (g : Addr → Option Obj) (a : Addr) : Bool := match g a with
  | some ⟨_, _, .func _, _⟩ => true
  | _ => false
/-- the getters' code -/
def lev5 (g : Addr → Option Obj) : List Addr := ((lev4 g).filter (isF g)).flatMap (objRefs g)
def asF (g : Addr → Option Obj) : List Addr := mainGlobals :: cStatics :: (lev1 g ++ (lev2 g ++ (lev3 g ++ (lev4 g ++ lev5 g))))
def tabF (g : Addr → Option Obj) (K : PySem.W.Frag) : Bool := match g (lP K) with
  | some o => He.emptyTab o
  | none => false
abbrev AlF : Type := (He.AlD × FnC) × Bool
def obsK (g : Addr → Option Obj) (K : PySem.W.Frag) : AlF := ((He5.obsA fas das K, fnC K (a_Modulo_init K)), (exs.all fun f => f K) && tabF g K)
def valK : AlF := ((He5.valA das, valC), true)
structure SaysF (h : Heap) (K : PySem.W.Frag) : Prop where
  a : He5.SaysA fas das K
  m : fnC K (a_Modulo_init K) = valC
  e : ∀ (i : Nat) {f : PySem.W.Frag → Bool}, exs[i]? = some f → f K = true
  tb : h.get? (lP K) = some { cls := .none, data := .fields #[] }
theorem saysF_of {h : Heap} {K : PySem.W.Frag} (e : obsK h.get? K = valK) : SaysF h K := by
  have e1 : (He5.obsA fas das K, fnC K (a_Modulo_init K)) = (He5.valA das, valC) := congrArg (fun z : AlF => z.1) e
  have e2 : ((exs.all fun f => f K) && tabF h.get? K) = true := congrArg (fun z : AlF => z.2) e
  obtain ⟨h1, h2⟩ := He.ba e2
  refine ⟨congrArg (fun z : He.AlD × FnC => z.1) e1, congrArg (fun z : He.AlD × FnC => z.2) e1, fun i f hf => List.all_eq_true.mp h1 f (List.mem_of_getElem? hf), ?_⟩
  unfold tabF at h2
  cases q : h.get? (lP K) with
  | none => rw [q] at h2; cases h2
  | some o => rw [q] at h2; rw [He.emptyTab_eq h2]
def obsF (g : Addr → Option Obj) : AlF := obsK g (He.frG g (asF g))
def hookF : PySem.W.Hook where
  α := AlF
  obs := fun s => obsF s.heap.get?
  val := fun _ => valK
  says := fun _ h => ∃ K : PySem.W.Frag, K.In h ∧ SaysF h K
  of := fun _ _ e => ⟨_, He.frG_in, saysF_of e⟩
  keeps := fun _ _ _ ⟨K, hK, c⟩ k => ⟨K, PySem.W.Frag.In.keeps hK k, ⟨c.a, c.m, c.e, k _ _ c.tb⟩⟩
theorem obsF_eq {g : Addr → Option Obj} {s : Shared} (h : ∀ a, g a = s.heap.get? a) : obsF g = hookF.obs s := by
  have e : g = s.heap.get? := funext h
  rw [e] <;> rfl
theorem tx_of {K : PySem.W.Frag} {h : Heap} {mg : Str → Option Value} (X : K.In h) (G : h.Ns mainGlobals mg) (c : SaysF h K) : TX K mg :=
  { F_is_integer := fun_d (c.a.def_ 0 rfl),
    F_is_between := fun_d (c.a.def_ 1 rfl),
    F_are_letters := fun_d (c.a.def_ 2 rfl),
    F_is_word := dfn_d (c.a.def_ 3 rfl),
    F_need_word := dfn_d (c.a.def_ 4 rfl),
    F_without := fun_d (c.a.def_ 5 rfl),
    F_most_answers := fun_d (c.a.def_ 6 rfl),
    F_need_answers := fun_d (c.a.def_ 7 rfl),
    F_grid_of := fun_d (c.a.def_ 8 rfl),
    F_answers_on := fun_d (c.a.def_ 9 rfl),
    F_parts_of := fun_d (c.a.def_ 10 rfl),
    F_power := fun_d (c.a.def_ 11 rfl),
    F_is_witness := fun_d (c.a.def_ 12 rfl),
    F_is_prime := fun_d (c.a.def_ 13 rfl),
    F_ten_to := fun_d (c.a.def_ 14 rfl),
    F_is_short := fun_d (c.a.def_ 15 rfl),
    F_Grid_init := fun_d (c.a.def_ 16 rfl),
    F_Grid_known_value := fun_d (c.a.def_ 17 rfl),
    F_Grid_column_count := fun_d (c.a.def_ 18 rfl),
    F_Grid_known_row := fun_d (c.a.def_ 19 rfl),
    F_Grid_is_later := fun_d (c.a.def_ 20 rfl),
    F_Grid_basis_words := fun_d (c.a.def_ 21 rfl),
    F_Grid_shares_in := fun_d (c.a.def_ 22 rfl),
    F_Grid_in_basis_words := fun_d (c.a.def_ 23 rfl),
    F_Grid_combination := fun_d (c.a.def_ 24 rfl),
    F_Grid_forced_prefixes := fun_d (c.a.def_ 25 rfl),
    F_Grid_forced_number := fun_d (c.a.def_ 26 rfl),
    F_Grid_take := fun_d (c.a.def_ 27 rfl),
    F_Grid_joined_shares := fun_d (c.a.def_ 28 rfl),
    F_Grid_extend := fun_d (c.a.def_ 29 rfl),
    F_Grid_pivot_value := fun_d (c.a.def_ 30 rfl),
    F_Grid_size_now := fun_d (c.a.def_ 31 rfl),
    F_Grid_border_words := fun_d (c.a.def_ 32 rfl),
    F_Answers_init := fun_d (c.a.def_ 33 rfl),
    F_Answers_keep := fun_d (c.a.def_ 34 rfl),
    F_Answers_given := fun_d (c.a.def_ 35 rfl),
    F_Answers_size := fun_d (c.a.def_ 36 rfl),
    F_Answers_basis := fun_d (c.a.def_ 37 rfl),
    F_Answers_borders := fun_d (c.a.def_ 38 rfl),
    F_Answers_profile := fun_d (c.a.def_ 39 rfl),
    F_Field_init := fun_d (c.a.def_ 40 rfl),
    F_Field_is_number := fun_d (c.a.def_ 41 rfl),
    F_Field_subtract := fun_d (c.a.def_ 42 rfl),
    F_Modulo_is_any := fun_d (c.a.def_ 43 rfl),
    F_Modulo_add := fun_d (c.a.def_ 44 rfl),
    F_Modulo_negative := fun_d (c.a.def_ 45 rfl),
    F_Modulo_multiply := fun_d (c.a.def_ 46 rfl),
    F_Modulo_divide := fun_d (c.a.def_ 47 rfl),
    F_Order_init := fun_d (c.a.def_ 48 rfl),
    F_Order_letters := fun_d (c.a.def_ 49 rfl),
    F_Order_cost_of := fun_d (c.a.def_ 50 rfl),
    F_Order_key := fun_d (c.a.def_ 51 rfl),
    F_Order_below := fun_d (c.a.def_ 52 rfl),
    F_Order_count_next := fun_d (c.a.def_ 53 rfl),
    F_Order_counts_to := fun_d (c.a.def_ 54 rfl),
    F_Order_filled := fun_d (c.a.def_ 55 rfl),
    F_Order_is_possible := fun_d (c.a.def_ 56 rfl),
    F_Order_neighbor := fun_d (c.a.def_ 57 rfl),
    F_Order_follower := fun_d (c.a.def_ 58 rfl),
    F_Order_is_before := fun_d (c.a.def_ 59 rfl),
    F_Order_sorted_words := fun_d (c.a.def_ 60 rfl),
    F_Order_after := fun_d (c.a.def_ 61 rfl),
    F_law_rule_lengths := fun_d (c.a.def_ 62 rfl),
    F_law_pen := fun_d (c.a.def_ 63 rfl),
    F_law_draw := fun_d (c.a.def_ 64 rfl),
    F_law_pick := fun_d (c.a.def_ 65 rfl),
    F_law_shuffled := fun_d (c.a.def_ 66 rfl),
    F_law_prime := fun_d (c.a.def_ 67 rfl),
    F_law_letters := fun_d (c.a.def_ 68 rfl),
    F_law_inverse := fun_d (c.a.def_ 69 rfl),
    F_law_number := fun_d (c.a.def_ 70 rfl),
    F_law := fun_d (c.a.def_ 71 rfl),
    g_is_integer := He.glo_ok X G (c.a.fact 0 rfl),
    g_is_between := He.glo_ok X G (c.a.fact 1 rfl),
    g_are_letters := He.glo_ok X G (c.a.fact 2 rfl),
    g_is_word := He.glo_ok X G (c.a.fact 3 rfl),
    g_need_word := He.glo_ok X G (c.a.fact 4 rfl),
    g_without := He.glo_ok X G (c.a.fact 5 rfl),
    g_most_answers := He.glo_ok X G (c.a.fact 6 rfl),
    g_need_answers := He.glo_ok X G (c.a.fact 7 rfl),
    g_grid_of := He.glo_ok X G (c.a.fact 8 rfl),
    g_answers_on := He.glo_ok X G (c.a.fact 9 rfl),
    g_parts_of := He.glo_ok X G (c.a.fact 10 rfl),
    g_power := He.glo_ok X G (c.a.fact 11 rfl),
    g_is_witness := He.glo_ok X G (c.a.fact 12 rfl),
    g_is_prime := He.glo_ok X G (c.a.fact 13 rfl),
    g_ten_to := He.glo_ok X G (c.a.fact 14 rfl),
    g_is_short := He.glo_ok X G (c.a.fact 15 rfl),
    g_law_rule_lengths := He.glo_ok X G (c.a.fact 16 rfl),
    g_law_pen := He.glo_ok X G (c.a.fact 17 rfl),
    g_law_draw := He.glo_ok X G (c.a.fact 18 rfl),
    g_law_pick := He.glo_ok X G (c.a.fact 19 rfl),
    g_law_shuffled := He.glo_ok X G (c.a.fact 20 rfl),
    g_law_prime := He.glo_ok X G (c.a.fact 21 rfl),
    g_law_letters := He.glo_ok X G (c.a.fact 22 rfl),
    g_law_inverse := He.glo_ok X G (c.a.fact 23 rfl),
    g_law_number := He.glo_ok X G (c.a.fact 24 rfl),
    g_law := He.glo_ok X G (c.a.fact 25 rfl),
    g_Grid := He.glo_ok X G (c.a.fact 26 rfl),
    g_Answers := He.glo_ok X G (c.a.fact 27 rfl),
    g_Modulo := He.glo_ok X G (c.a.fact 28 rfl),
    g_Order := He.glo_ok X G (c.a.fact 29 rfl),
    n_isinstance := He.free_ok X G (c.a.fact 30 rfl),
    n_len := He.free_ok X G (c.a.fact 31 rfl),
    n_all := He.free_ok X G (c.a.fact 32 rfl),
    n_any := He.free_ok X G (c.a.fact 33 rfl),
    n_sum := He.free_ok X G (c.a.fact 34 rfl),
    n_range := He.free_ok X G (c.a.fact 35 rfl),
    n_list := He.free_ok X G (c.a.fact 36 rfl),
    n_zip := He.free_ok X G (c.a.fact 37 rfl),
    n_sorted := He.free_ok X G (c.a.fact 38 rfl),
    n_enumerate := He.free_ok X G (c.a.fact 39 rfl),
    n_tuple := He.free_ok X G (c.a.fact 40 rfl),
    n_int := He.free_ok X G (c.a.fact 41 rfl),
    n_abs := He.free_ok X G (c.a.fact 42 rfl),
    n_super := He.free_ok X G (c.a.fact 43 rfl),
    n_str := He.free_ok X G (c.a.fact 44 rfl),
    n_bool := He.free_ok X G (c.a.fact 45 rfl),
    k_MAX_DIGITS := He.int_ok X G (c.a.fact 46 rfl),
    k_MAX_PRIME := He.int_ok X G (c.a.fact 47 rfl),
    k_MAX_LETTERS := He.int_ok X G (c.a.fact 48 rfl),
    k_MAX_COST := He.int_ok X G (c.a.fact 49 rfl),
    k_MAX_WORD := He.int_ok X G (c.a.fact 50 rfl),
    k_MAX_ANSWERS := He.int_ok X G (c.a.fact 51 rfl),
    k_MAX_FRACTION_ANSWERS := He.int_ok X G (c.a.fact 52 rfl),
    k_ALPHABET := He.str_ok X G (c.a.fact 53 rfl),
    k_SMALL_PRIMES := He.glo_ok X G (c.a.fact 54 rfl),
    t_SMALL_PRIMES := fun H => He.tupB_ok (vs := [.int 2, .int 3, .int 5, .int 7, .int 11, .int 13, .int 17, .int 19, .int 23, .int 29, .int 31, .int 37]) (c.e 0 rfl) H,
    k_WITNESSES := He.glo_ok X G (c.a.fact 55 rfl),
    t_WITNESSES := fun H => He.tupB_ok (vs := [.int 2, .int 3, .int 5, .int 7]) (c.e 1 rfl) H,
    cl_Grid := He.cls_ok (c.a.fact 56 rfl),
    na_Grid_own_field := He.noat_ok (c.a.fact 57 rfl),
    na_Grid_own_order := He.noat_ok (c.a.fact 58 rfl),
    na_Grid_known_words := He.noat_ok (c.a.fact 59 rfl),
    na_Grid_known_values := He.noat_ok (c.a.fact 60 rfl),
    na_Grid_number_of_known := He.noat_ok (c.a.fact 61 rfl),
    na_Grid_column_counts := He.noat_ok (c.a.fact 62 rfl),
    na_Grid_upcoming := He.noat_ok (c.a.fact 63 rfl),
    na_Grid_leads := He.noat_ok (c.a.fact 64 rfl),
    na_Grid_word_of_lead := He.noat_ok (c.a.fact 65 rfl),
    na_Grid_pivot_rows := He.noat_ok (c.a.fact 66 rfl),
    na_Grid_shares_of := He.noat_ok (c.a.fact 67 rfl),
    na_Grid_grown_sizes := He.noat_ok (c.a.fact 68 rfl),
    mt_Grid_known_value := He.meth_ok (c.a.fact 69 rfl),
    mt_Grid_column_count := He.meth_ok (c.a.fact 70 rfl),
    mt_Grid_known_row := He.meth_ok (c.a.fact 71 rfl),
    mt_Grid_is_later := He.meth_ok (c.a.fact 72 rfl),
    mt_Grid_basis_words := He.meth_ok (c.a.fact 73 rfl),
    mt_Grid_shares_in := He.meth_ok (c.a.fact 74 rfl),
    mt_Grid_in_basis_words := He.meth_ok (c.a.fact 75 rfl),
    mt_Grid_combination := He.meth_ok (c.a.fact 76 rfl),
    mt_Grid_forced_prefixes := He.meth_ok (c.a.fact 77 rfl),
    mt_Grid_forced_number := He.meth_ok (c.a.fact 78 rfl),
    mt_Grid_take := He.meth_ok (c.a.fact 79 rfl),
    mt_Grid_joined_shares := He.meth_ok (c.a.fact 80 rfl),
    mt_Grid_extend := He.meth_ok (c.a.fact 81 rfl),
    mt_Grid_pivot_value := He.meth_ok (c.a.fact 82 rfl),
    mt_Grid_size_now := He.meth_ok (c.a.fact 83 rfl),
    mt_Grid_border_words := He.meth_ok (c.a.fact 84 rfl),
    cl_Answers := He.cls_ok (c.a.fact 85 rfl),
    na_Answers_own_grid := He.noat_ok (c.a.fact 86 rfl),
    na_Answers_own_numbers := He.noat_ok (c.a.fact 87 rfl),
    na_Answers_own_size := He.noat_ok (c.a.fact 88 rfl),
    na_Answers_own_basis := He.noat_ok (c.a.fact 89 rfl),
    na_Answers_own_borders := He.noat_ok (c.a.fact 90 rfl),
    na_Answers_own_columns := He.noat_ok (c.a.fact 91 rfl),
    mt_Answers_keep := He.meth_ok (c.a.fact 92 rfl),
    mt_Answers_profile := He.meth_ok (c.a.fact 93 rfl),
    cl_Modulo := He.cls_ok (c.a.fact 94 rfl),
    na_Modulo_own_prime := He.noat_ok (c.a.fact 95 rfl),
    mt_Modulo_is_number := meth_to (He.meth_ok (c.a.fact 96 rfl)) (c.e 2 rfl),
    mt_Modulo_subtract := meth_to (He.meth_ok (c.a.fact 97 rfl)) (c.e 3 rfl),
    mt_Modulo_is_any := He.meth_ok (c.a.fact 98 rfl),
    mt_Modulo_add := He.meth_ok (c.a.fact 99 rfl),
    mt_Modulo_negative := He.meth_ok (c.a.fact 100 rfl),
    mt_Modulo_multiply := He.meth_ok (c.a.fact 101 rfl),
    mt_Modulo_divide := He.meth_ok (c.a.fact 102 rfl),
    cl_Order := He.cls_ok (c.a.fact 103 rfl),
    na_Order_own_letters := He.noat_ok (c.a.fact 104 rfl),
    na_Order_own_costs := He.noat_ok (c.a.fact 105 rfl),
    mt_Order_cost_of := He.meth_ok (c.a.fact 106 rfl),
    mt_Order_below := He.meth_ok (c.a.fact 107 rfl),
    mt_Order_count_next := He.meth_ok (c.a.fact 108 rfl),
    mt_Order_counts_to := He.meth_ok (c.a.fact 109 rfl),
    mt_Order_filled := He.meth_ok (c.a.fact 110 rfl),
    mt_Order_is_possible := He.meth_ok (c.a.fact 111 rfl),
    mt_Order_neighbor := He.meth_ok (c.a.fact 112 rfl),
    mt_Order_follower := He.meth_ok (c.a.fact 113 rfl),
    mt_Order_is_before := He.meth_ok (c.a.fact 114 rfl),
    mt_Order_after := He.meth_ok (c.a.fact 115 rfl),
    mt_Order_key := He.meth_ok (c.a.fact 116 rfl),
    mk_Grid := He.mkr_ok (c.a.fact 117 rfl),
    mk_Answers := He.mkr_ok (c.a.fact 118 rfl),
    mk_Order := He.mkr_ok (c.a.fact 119 rfl),
    pr_Answers_size := prB_ok (c.e 4 rfl),
    pr_Answers_basis := prB_ok (c.e 5 rfl),
    pr_Answers_borders := prB_ok (c.e 6 rfl),
    pr_Order_letters := prB_ok (c.e 7 rfl),
    bm_Order_key := bmB_ok (He.meth_ok (c.a.fact 116 rfl)) (by decide +kernel) (c.e 8 rfl),
    bm_Order_sorted_words := bmB_ok (He.meth_ok (c.a.fact 121 rfl)) (by decide +kernel) (c.e 9 rfl),
    mk_Modulo := He.mkr_ok (c.a.fact 120 rfl),
    cr_Answers := crB_ok (c.e 10 rfl),
    cm_Answers_given := He5.cmet_of (c.e 11 rfl) (c.e 12 rfl),
    F_Modulo_init := modInit c.m (c.e 13 rfl),
    i_Modulo := imB_ok (c.e 14 rfl),
    su_Modulo := of_decide_eq_true (c.e 15 rfl),
    ns_any := He.eqO_ok (c.e 16 rfl),
    ty_Field_init := of_decide_eq_true (c.e 17 rfl),
    co_Grid_basis_words := lc_ok (x := "basis_words") (qual := "Grid.basis_words") (st := s_Grid_basis_words) (fun_d (c.a.def_ 21 rfl)) }
theorem mi0_of {K : PySem.W.Frag} {h : Heap} (c : SaysF h K) : ∃ (oc : Value) (od : Option Addr) (fd : FuncData) (osl : Array (Option Value)), K.lookup (a_Modulo_init K) = some ⟨oc, od, .func fd, osl⟩ ∧ fd.defaults = .none := mi0_ok (c.e 21 rfl)
theorem tab_of {K : PySem.W.Frag} {h : Heap} (c : SaysF h K) : PySem.W.codeHdIn K (lc K) (lP K) = true ∧ K.lookup (lP K) = none ∧ mainGlobals ≠ lP K :=
  ⟨(c.e 18 rfl), Option.isNone_iff_eq_none.mp (c.e 19 rfl), of_decide_eq_true (c.e 20 rfl)⟩
end Fa
namespace Fa
open PySem PySem.W PySem.Calls PyProof.Rows
/-! ### the top's run -/
abbrev RR : OpenRow := OpenLaw.row PySem.Challenge.rw_firstanswers_k46_whole_one_letter_and_li
abbrev qv : Program := view RR.prog [68]
def obF (s : SharedT) : AlF := obsF (HandSHeadRun.getT s)
theorem obF_eq (s : SharedT) : obF s = hookF.obs s.abs := obsF_eq (HandSHeadRun.getT_eq s)
/-- the state behind the top -/
noncomputable abbrev endS (w : World) (os : OsState) : Option SharedT := HandSHeadRun.endF (HandSHeadRun.stepQ (HandSHeadRun.denQ HandSHeadRun.tabQ) RR.prog w) 20000 RR.prog w os
def kF (g : Addr → Option Obj) : Frag := He.frG g (asF g)
/-- the defs -/
def obs1 (g : Addr → Option Obj) : (Bool × List He5.FnW) × FnC := ((das.all fun d => d.ok (kF g), das.map fun d => He5.fnA (kF g) (d.at_ (kF g))), fnC (kF g) (a_Modulo_init (kF g)))
/-- all else -/
def obs2 (g : Addr → Option Obj) : Bool × Bool := (fas.all fun f => f.ok (kF g), (exs.all fun f => f (kF g)) && tabF g (kF g))
theorem obs_of {g : Addr → Option Obj} (h1 : obs1 g = ((true, das.map He5.DefA.val), valC)) (h2 : obs2 g = (true, true)) : obsF g = valK := by
  have a1 : (das.all fun d => d.ok (kF g)) = true := congrArg (fun z : (Bool × List He5.FnW) × FnC => z.1.1) h1
  have a2 : (das.map fun d => He5.fnA (kF g) (d.at_ (kF g))) = das.map He5.DefA.val := congrArg (fun z : (Bool × List He5.FnW) × FnC => z.1.2) h1
  have a3 : fnC (kF g) (a_Modulo_init (kF g)) = valC := congrArg (fun z : (Bool × List He5.FnW) × FnC => z.2) h1
  have a4 : (fas.all fun f => f.ok (kF g)) = true := congrArg (fun z : Bool × Bool => z.1) h2
  have a5 : ((exs.all fun f => f (kF g)) && tabF g (kF g)) = true := congrArg (fun z : Bool × Bool => z.2) h2
  show ((((fas.all fun f => f.ok (kF g)) && das.all fun d => d.ok (kF g), das.map fun d => He5.fnA (kF g) (d.at_ (kF g))), fnC (kF g) (a_Modulo_init (kF g))), (exs.all fun f => f (kF g)) && tabF g (kF g)) = valK
  rw [a1, a2, a3, a4, a5]
  rfl
set_option maxHeartbeats 0 in
theorem run0 (w : World) (os : OsState) : (endS w os).map (fun s => (HandSHeadRun.looksF RR.prog (boot_heap w.params) s.abs, HandSHeadRun.seenQ qv nms (importedModules RR.prog.main.body) (fun s => xlAt qv [] s && recOk RR.toRowW.records s) s.abs)) = some (true, openGood qv nms) := by
  kernel_rfl
set_option maxHeartbeats 0 in
theorem run1 (w : World) (os : OsState) : (endS w os).map (fun s => obs1 (HandSHeadRun.getT s)) = some ((true, das.map He5.DefA.val), valC) := by
  kernel_rfl
set_option maxHeartbeats 0 in
theorem run2 (w : World) (os : OsState) : (endS w os).map (fun s => obs2 (HandSHeadRun.getT s)) = some (true, true) := by
  kernel_rfl
theorem run (w : World) : HandSHeadRun.RunEq RR qv hookF obF 20000 nms w := by
  intro os
  obtain ⟨s, hs, h0⟩ := Option.map_eq_some_iff.mp (run0 w os)
  have h1 := run1 w os
  have h2 := run2 w os
  rw [hs] at h1 h2
  have e := obs_of (Option.some.inj h1) (Option.some.inj h2)
  have f0 : HandSHeadRun.looksF RR.prog (boot_heap w.params) s.abs = true := congrArg Prod.fst h0
  have f1 : HandSHeadRun.seenQ qv nms (importedModules RR.prog.main.body) (fun s => xlAt qv [] s && recOk RR.toRowW.records s) s.abs = openGood qv nms := congrArg Prod.snd h0
  refine Option.map_eq_some_iff.mpr ⟨s, hs, ?_⟩
  exact Prod.ext f0 (Prod.ext f1 e)
end Fa


/-! The plain law: sums, the linear rule by steps (Berlekamp and Massey), the grid's pivot rows. -/
namespace Mx
section
variable {F : Type} [Lean.Grind.CommRing F]

def sumR : Nat → (Nat → F) → F
  | 0, _ => 0
  | n + 1, f => sumR n f + f n
def sumL : List (Nat × F) → (Nat → F) → F
  | [], _ => 0
  | p :: r, t => p.2 * t p.1 + sumL r t

theorem sumR_congr {n : Nat} {f g : Nat → F} (h : ∀ k, k < n → f k = g k) : sumR n f = sumR n g := by
  induction n with
  | zero => rfl
  | succ n ih =>
    show sumR n f + f n = sumR n g + g n
    rw [ih fun k hk => h k (by omega), h n (by omega)]
theorem sumR_zero {n : Nat} {f : Nat → F} (h : ∀ k, k < n → f k = 0) : sumR n f = 0 := by
  induction n with
  | zero => rfl
  | succ n ih =>
    show sumR n f + f n = 0
    rw [ih fun k hk => h k (by omega), h n (by omega)]
    grind
theorem sumR_add (n : Nat) (f g : Nat → F) : sumR n (fun k => f k + g k) = sumR n f + sumR n g := by
  induction n with
  | zero => show (0 : F) = 0 + 0; grind
  | succ n ih =>
    show sumR n (fun k => f k + g k) + (f n + g n) = sumR n f + f n + (sumR n g + g n)
    rw [ih]; grind
theorem sumR_mul (n : Nat) (a : F) (f : Nat → F) : sumR n (fun k => a * f k) = a * sumR n f := by
  induction n with
  | zero => show (0 : F) = a * 0; grind
  | succ n ih =>
    show sumR n (fun k => a * f k) + a * f n = a * (sumR n f + f n)
    rw [ih]; grind
theorem sumR_sub (n : Nat) (f g : Nat → F) : sumR n (fun k => f k - g k) = sumR n f - sumR n g := by
  induction n with
  | zero => show (0 : F) = 0 - 0; grind
  | succ n ih =>
    show sumR n (fun k => f k - g k) + (f n - g n) = sumR n f + f n - (sumR n g + g n)
    rw [ih]; grind
theorem sumR_ext {n m : Nat} {f : Nat → F} (hm : n ≤ m) (h : ∀ k, n ≤ k → k < m → f k = 0) : sumR m f = sumR n f := by
  induction m with
  | zero =>
    have : n = 0 := by omega
    subst this; rfl
  | succ m ih =>
    by_cases e : n = m + 1
    · subst e; rfl
    · show sumR m f + f m = sumR n f
      rw [ih (by omega) fun k a b => h k a (by omega), h m (by omega) (by omega)]
      grind
theorem sumR_one {n i : Nat} {f : Nat → F} (hi : i < n) (h : ∀ k, k < n → k ≠ i → f k = 0) : sumR n f = f i := by
  induction n with
  | zero => omega
  | succ n ih =>
    show sumR n f + f n = f i
    by_cases e : i = n
    · subst e
      rw [sumR_zero fun k hk => h k (by omega) (by omega)]
      grind
    · rw [ih (by omega) fun k a b => h k (by omega) b, h n (by omega) (fun q => e q.symm)]
      grind
theorem sumR_shift (m n : Nat) (g : Nat → F) : sumR (m + n) (fun k => if m ≤ k then g (k - m) else 0) = sumR n g := by
  induction n with
  | zero => exact sumR_zero fun k hk => if_neg (by omega)
  | succ n ih =>
    show sumR (m + n) (fun k => if m ≤ k then g (k - m) else 0) + (if m ≤ m + n then g (m + n - m) else 0) = sumR n g + g n
    rw [ih, if_pos (by omega), Nat.add_sub_cancel_left]
theorem sumR_swap (n m : Nat) (f : Nat → Nat → F) : sumR n (fun i => sumR m (fun j => f i j)) = sumR m (fun j => sumR n (fun i => f i j)) := by
  induction n with
  | zero => exact (sumR_zero fun k _ => rfl).symm
  | succ n ih =>
    show sumR n (fun i => sumR m (fun j => f i j)) + sumR m (fun j => f n j) = sumR m (fun j => sumR n (fun i => f i j) + f n j)
    rw [ih, sumR_add]

theorem sumL_app (a b : List (Nat × F)) (t : Nat → F) : sumL (a ++ b) t = sumL a t + sumL b t := by
  induction a with
  | nil => show sumL b t = 0 + sumL b t; grind
  | cons p r ih =>
    show p.2 * t p.1 + sumL (r ++ b) t = p.2 * t p.1 + sumL r t + sumL b t
    rw [ih]; grind
theorem sumL_congr {l : List (Nat × F)} {t u : Nat → F} (h : ∀ p ∈ l, t p.1 = u p.1) : sumL l t = sumL l u := by
  induction l with
  | nil => rfl
  | cons p r ih =>
    show p.2 * t p.1 + sumL r t = p.2 * u p.1 + sumL r u
    rw [h p (by simp), ih fun q hq => h q (by simp [hq])]
theorem sumL_mul (l : List (Nat × F)) (a : F) (t : Nat → F) : sumL l (fun k => a * t k) = a * sumL l t := by
  induction l with
  | nil => show (0 : F) = a * 0; grind
  | cons p r ih =>
    show p.2 * (a * t p.1) + sumL r (fun k => a * t k) = a * (p.2 * t p.1 + sumL r t)
    rw [ih]; grind
theorem sumL_sumR (l : List (Nat × F)) (n : Nat) (f : Nat → Nat → F) : sumL l (fun i => sumR n (f i)) = sumR n (fun k => sumL l (fun i => f i k)) := by
  induction l with
  | nil => exact (sumR_zero fun k _ => rfl).symm
  | cons p r ih =>
    show p.2 * sumR n (f p.1) + sumL r (fun i => sumR n (f i)) = sumR n (fun k => p.2 * f p.1 k + sumL r (fun i => f i k))
    rw [ih, sumR_add, sumR_mul]
theorem sumL_zero {l : List (Nat × F)} {t : Nat → F} (h : ∀ p ∈ l, t p.1 = 0) : sumL l t = 0 := by
  induction l with
  | nil => rfl
  | cons p r ih =>
    show p.2 * t p.1 + sumL r t = 0
    rw [h p (by simp), ih fun q hq => h q (by simp [hq])]; grind
def negL (l : List (Nat × F)) : List (Nat × F) := l.map fun p => (p.1, -p.2)
theorem sumL_neg (l : List (Nat × F)) (t : Nat → F) : sumL (negL l) t = -sumL l t := by
  induction l with
  | nil => show (0 : F) = -0; grind
  | cons p r ih =>
    show -p.2 * t p.1 + sumL (negL r) t = -(p.2 * t p.1 + sumL r t)
    rw [ih]; grind

/-! ### a list of numbers by places, changed at a place -/
def getL : List (Nat × F) → Nat → F
  | [], _ => 0
  | p :: r, k => if p.1 = k then p.2 else getL r k
def putL : List (Nat × F) → Nat → F → List (Nat × F)
  | [], k, v => [(k, v)]
  | p :: r, k, v => if p.1 = k then (k, v) :: r else p :: putL r k v
theorem sumL_put (l : List (Nat × F)) (k : Nat) (y : F) (t : Nat → F) : sumL (putL l k (getL l k + y)) t = sumL l t + y * t k := by
  induction l with
  | nil => show (0 + y) * t k + 0 = 0 + y * t k; grind
  | cons p r ih =>
    unfold putL getL
    by_cases e : p.1 = k
    · rw [if_pos e, if_pos e]
      show (p.2 + y) * t k + sumL r t = p.2 * t p.1 + sumL r t + y * t k
      rw [e]; grind
    · rw [if_neg e, if_neg e]
      show p.2 * t p.1 + sumL (putL r k (getL r k + y)) t = p.2 * t p.1 + sumL r t + y * t k
      rw [ih]; grind
omit [Lean.Grind.CommRing F] in
theorem putL_mem {l : List (Nat × F)} {k : Nat} {v : F} {p : Nat × F} (h : p ∈ putL l k v) : p ∈ l ∨ p = (k, v) := by
  induction l with
  | nil => exact .inr (by simpa [putL] using h)
  | cons q r ih =>
    unfold putL at h
    by_cases e : q.1 = k
    · rw [if_pos e] at h
      rcases List.mem_cons.mp h with h | h
      · exact .inr h
      · exact .inl (List.mem_cons_of_mem _ h)
    · rw [if_neg e] at h
      rcases List.mem_cons.mp h with h | h
      · exact .inl (by simp [h])
      · rcases ih h with h | h
        · exact .inl (List.mem_cons_of_mem _ h)
        · exact .inr h
def keysL (l : List (Nat × F)) : List Nat := l.map (·.1)
omit [Lean.Grind.CommRing F] in
theorem putL_new {l : List (Nat × F)} {k : Nat} {v : F} (h : k ∉ keysL l) : putL l k v = l ++ [(k, v)] := by
  induction l with
  | nil => rfl
  | cons p r ih =>
    unfold putL
    have h1 : ¬ p.1 = k := fun e => h (by simp [keysL, e])
    rw [if_neg h1, ih fun q => h (List.mem_cons_of_mem _ q)]
    rfl
omit [Lean.Grind.CommRing F] in
theorem putL_old {l : List (Nat × F)} {k : Nat} {v : F} (hn : (keysL l).Nodup) (h : k ∈ keysL l) : putL l k v = l.map fun p => if p.1 = k then (p.1, v) else p := by
  induction l with
  | nil => exact absurd h (by simp [keysL])
  | cons p r ih =>
    obtain ⟨h1, h2⟩ := List.nodup_cons.mp hn
    unfold putL
    rw [List.map_cons]
    by_cases e : p.1 = k
    · rw [if_pos e, if_pos e, e]
      congr 1
      have hm : r.map (fun q => if q.1 = k then (q.1, v) else q) = r.map id := List.map_congr_left fun q hq => if_neg fun z => h1 (List.mem_map.mpr ⟨q, hq, z.trans e.symm⟩)
      rw [hm, List.map_id]
    · rw [if_neg e, if_neg e, ih h2 ((List.mem_cons.mp h).resolve_left fun q => e q.symm)]
omit [Lean.Grind.CommRing F] in
theorem keysL_put {l : List (Nat × F)} {k : Nat} {v : F} (hn : (keysL l).Nodup) : (keysL (putL l k v)).Nodup := by
  induction l with
  | nil => simp [putL, keysL]
  | cons p r ih =>
    obtain ⟨h1, h2⟩ := List.nodup_cons.mp hn
    unfold putL
    by_cases e : p.1 = k
    · rw [if_pos e]
      exact List.nodup_cons.mpr ⟨by rw [← e]; exact h1, h2⟩
    · rw [if_neg e]
      refine List.nodup_cons.mpr ⟨fun m => ?_, ih h2⟩
      obtain ⟨q, hq, e2⟩ := List.mem_map.mp m
      rcases putL_mem hq with z | z
      · exact h1 (by rw [← e2]; exact List.mem_map.mpr ⟨q, z, rfl⟩)
      · exact e (e2.symm.trans (by rw [z]))
/-- one pivot's shares, times a factor, put to what is found -/
def putAll (f : F) (sh : List (Nat × F)) (acc : List (Nat × F)) : List (Nat × F) := sh.foldl (fun a p => putL a p.1 (getL a p.1 + f * p.2)) acc
def combo (sh : Nat → List (Nat × F)) (fs : List (Nat × F)) : List (Nat × F) := fs.foldl (fun a p => putAll p.2 (sh p.1) a) []
theorem sumL_putAll (f : F) (sh : List (Nat × F)) (t : Nat → F) : ∀ acc, sumL (putAll f sh acc) t = sumL acc t + f * sumL sh t := by
  induction sh with
  | nil => intro acc; show sumL acc t = sumL acc t + f * 0; grind
  | cons p r ih =>
    intro acc
    show sumL (putAll f r (putL acc p.1 (getL acc p.1 + f * p.2))) t = sumL acc t + f * (p.2 * t p.1 + sumL r t)
    rw [ih, sumL_put]; grind
theorem putAll_mem {f : F} {L : Nat} {sh : List (Nat × F)} (hs : ∀ p ∈ sh, p.1 < L) : ∀ {acc}, (∀ p ∈ acc, p.1 < L) → ∀ p ∈ putAll f sh acc, p.1 < L := by
  induction sh with
  | nil => intro acc ha; exact ha
  | cons q r ih =>
    intro acc ha
    refine ih (fun p hp => hs p (by simp [hp])) (acc := putL acc q.1 (getL acc q.1 + f * q.2)) fun p hp => ?_
    rcases putL_mem hp with h | h
    · exact ha p h
    · rw [h]; exact hs q (by simp)
theorem sumL_combo (sh : Nat → List (Nat × F)) (fs : List (Nat × F)) (t : Nat → F) : sumL (combo sh fs) t = sumL fs (fun i => sumL (sh i) t) := by
  have h : ∀ (fs acc : List (Nat × F)), sumL (fs.foldl (fun a p => putAll p.2 (sh p.1) a) acc) t = sumL acc t + sumL fs (fun i => sumL (sh i) t) := by
    intro fs
    induction fs with
    | nil => intro acc; show sumL acc t = sumL acc t + 0; grind
    | cons p r ih =>
      intro acc
      show sumL (r.foldl (fun a p => putAll p.2 (sh p.1) a) (putAll p.2 (sh p.1) acc)) t = sumL acc t + (p.2 * sumL (sh p.1) t + sumL r (fun i => sumL (sh i) t))
      rw [ih, sumL_putAll]; grind
  have := h fs []
  show sumL (fs.foldl (fun a p => putAll p.2 (sh p.1) a) []) t = _
  rw [this]
  show 0 + _ = _
  grind
theorem combo_nodup (sh : Nat → List (Nat × F)) (fs : List (Nat × F)) : (keysL (combo sh fs)).Nodup := by
  have h1 : ∀ (f : F) (l acc : List (Nat × F)), (keysL acc).Nodup → (keysL (putAll f l acc)).Nodup := by
    intro f l
    induction l with
    | nil => intro acc h; exact h
    | cons p r ih => intro acc h; exact ih _ (keysL_put h)
  have h2 : ∀ (fs acc : List (Nat × F)), (keysL acc).Nodup → (keysL (fs.foldl (fun a p => putAll p.2 (sh p.1) a) acc)).Nodup := by
    intro fs
    induction fs with
    | nil => intro acc h; exact h
    | cons p r ih => intro acc h; exact ih _ (h1 _ _ _ h)
  exact h2 fs [] (by simp [keysL])
theorem combo_mem {L : Nat} {sh : Nat → List (Nat × F)} {fs : List (Nat × F)} (hs : ∀ q ∈ fs, ∀ p ∈ sh q.1, p.1 < L) : ∀ p ∈ combo sh fs, p.1 < L := by
  have h : ∀ (fs acc : List (Nat × F)), (∀ q ∈ fs, ∀ p ∈ sh q.1, p.1 < L) → (∀ p ∈ acc, p.1 < L) → ∀ p ∈ fs.foldl (fun a p => putAll p.2 (sh p.1) a) acc, p.1 < L := by
    intro fs
    induction fs with
    | nil => intro acc _ ha; exact ha
    | cons q r ih => intro acc h1 ha; exact ih _ (fun q hq => h1 q (by simp [hq])) (putAll_mem (h1 q (by simp)) ha)
  exact h fs [] hs (fun p hp => absurd hp (by simp))

/-! ### linear rules -/
def conv (C s : Nat → F) (j : Nat) : F := sumR (j + 1) fun k => C k * s (j - k)
theorem conv_cut {C s : Nat → F} {L j : Nat} (hL : ∀ k, L < k → C k = 0) (hj : L ≤ j) : conv C s j = sumR (L + 1) fun k => C k * s (j - k) :=
  sumR_ext (by omega) fun k a b => by rw [hL k (by omega)]; grind
def mixed (C B : Nat → F) (t : F) (m : Nat) : Nat → F := fun k => C k - t * (if m ≤ k then B (k - m) else 0)
theorem conv_mixed (C B s : Nat → F) (t : F) (m j : Nat) : conv (mixed C B t m) s j = conv C s j - t * (if m ≤ j then conv B s (j - m) else 0) := by
  have e : conv (mixed C B t m) s j = sumR (j + 1) (fun k => C k * s (j - k) - t * (if m ≤ k then B (k - m) * s (j - m - (k - m)) else 0)) := by
    refine sumR_congr fun k hk => ?_
    show (C k - t * (if m ≤ k then B (k - m) else 0)) * s (j - k) = _
    by_cases h : m ≤ k
    · rw [if_pos h, if_pos h, show j - m - (k - m) = j - k by omega]; grind
    · rw [if_neg h, if_neg h]; grind
  rw [e, sumR_sub, sumR_mul]
  have e2 : sumR (j + 1) (fun k => if m ≤ k then B (k - m) * s (j - m - (k - m)) else 0) = (if m ≤ j then conv B s (j - m) else 0) := by
    by_cases h : m ≤ j
    · rw [if_pos h]
      have := sumR_shift m (j - m + 1) (fun k => B k * s (j - m - k))
      rw [show m + (j - m + 1) = j + 1 by omega] at this
      exact this
    · rw [if_neg h]
      exact sumR_zero fun k hk => if_neg (by omega)
  rw [e2]; rfl

structure Rule (s : Nat → F) (n L : Nat) (C : Nat → F) : Prop where
  c0 : C 0 = 1
  deg : ∀ k, L < k → C k = 0
  run : ∀ j, L ≤ j → j < n → conv C s j = 0
  le : L ≤ n
def one0 : Nat → F := fun k => if k = 0 then 1 else 0
def Old (s : Nat → F) (n L : Nat) (B : Nat → F) (m : Nat) (b : F) : Prop :=
  (∃ n0 LB, n = n0 + m ∧ LB + L = n0 + 1 ∧ LB ≤ n0 ∧ 1 ≤ m ∧ (∀ k, LB < k → B k = 0) ∧ (∀ j, LB ≤ j → j < n0 → conv B s j = 0) ∧ conv B s n0 = b) ∨ (L = 0 ∧ m = n + 1 ∧ B = one0 ∧ b = 1)
theorem Old.pos {s : Nat → F} {n L m : Nat} {B : Nat → F} {b : F} (o : Old s n L B m b) : 1 ≤ m := by
  rcases o with ⟨_, _, _, _, _, h, _⟩ | ⟨_, h, _⟩ <;> omega
theorem Old.next {s : Nat → F} {n L m : Nat} {B : Nat → F} {b : F} (o : Old s n L B m b) : Old s (n + 1) L B (m + 1) b := by
  rcases o with ⟨n0, LB, h1, h2, h3, h4, h5, h6, h7⟩ | ⟨h1, h2, h3, h4⟩
  · exact .inl ⟨n0, LB, by omega, h2, h3, by omega, h5, h6, h7⟩
  · exact .inr ⟨h1, by omega, h3, h4⟩
theorem Rule.same {s : Nat → F} {n L : Nat} {C : Nat → F} (r : Rule s n L C) (h : conv C s n = 0) : Rule s (n + 1) L C :=
  ⟨r.c0, r.deg, fun j a b => by
    by_cases e : j = n
    · rw [e]; exact h
    · exact r.run j a (by omega), by have := r.le; omega⟩
theorem Rule.mix {s : Nat → F} {n L m : Nat} {C B : Nat → F} {b t : F} (r : Rule s n L C) (o : Old s n L B m b) (ht : t * b = conv C s n) :
    Rule s (n + 1) (if 2 * L ≤ n then n + 1 - L else L) (mixed C B t m) := by
  have hm := o.pos
  have hle := r.le
  refine ⟨?_, fun k hk => ?_, fun j a c => ?_, ?_⟩
  · show C 0 - t * (if m ≤ 0 then B (0 - m) else 0) = 1
    rw [if_neg (by omega), r.c0]; grind
  · show C k - t * (if m ≤ k then B (k - m) else 0) = 0
    have hC : C k = 0 := r.deg k (by split at hk <;> omega)
    have hB : (if m ≤ k then B (k - m) else 0) = (0 : F) := by
      by_cases h : m ≤ k
      · rw [if_pos h]
        rcases o with ⟨n0, LB, h1, h2, h3, h4, h5, h6, h7⟩ | ⟨h1, h2, h3, h4⟩
        · exact h5 _ (by split at hk <;> omega)
        · rw [h3]
          show (if k - m = 0 then (1 : F) else 0) = 0
          rw [if_neg (by subst h1; rw [if_pos (by omega)] at hk; omega)]
      · rw [if_neg h]
    rw [hC, hB]; grind
  · rw [conv_mixed]
    have hj : L ≤ j := by split at a <;> omega
    rcases o with ⟨n0, LB, h1, h2, h3, h4, h5, h6, h7⟩ | ⟨h1, h2, h3, h4⟩
    · have hmj : m ≤ j := by split at a <;> omega
      rw [if_pos hmj]
      by_cases e : j = n
      · subst e
        rw [show j - m = n0 by omega, h7, ht]; grind
      · rw [r.run j hj (by omega), h6 (j - m) (by split at a <;> omega) (by omega)]; grind
    · subst h1
      rw [if_pos (by omega)] at a
      omega
  · split <;> omega
theorem Rule.old {s : Nat → F} {n L : Nat} {C : Nat → F} (r : Rule s n L C) (h : 2 * L ≤ n) : Old s (n + 1) (n + 1 - L) C 1 (conv C s n) :=
  .inl ⟨n, L, by omega, by omega, r.le, by omega, r.deg, r.run, rfl⟩
theorem rule_zero (s : Nat → F) : Rule s 0 0 one0 := ⟨if_pos rfl, fun k hk => if_neg (by omega), fun j _ h => absurd h (by omega), Nat.le_refl _⟩
theorem old_zero (s : Nat → F) : Old s 0 0 one0 1 1 := .inr ⟨rfl, rfl, rfl, rfl⟩

/-- Berlekamp and Massey by steps -/
structure BM (F : Type) where
  C : Nat → F
  B : Nat → F
  L : Nat
  m : Nat
  b : F
variable [DecidableEq F]
def bmStep (inv : F → F) (s : Nat → F) (n : Nat) (x : BM F) : BM F :=
  if conv x.C s n = 0 then { x with m := x.m + 1 }
  else if 2 * x.L ≤ n then ⟨mixed x.C x.B (conv x.C s n * inv x.b) x.m, x.C, n + 1 - x.L, 1, conv x.C s n⟩
  else ⟨mixed x.C x.B (conv x.C s n * inv x.b) x.m, x.B, x.L, x.m + 1, x.b⟩
def bm (inv : F → F) (s : Nat → F) : Nat → BM F
  | 0 => ⟨one0, one0, 0, 1, 1⟩
  | n + 1 => bmStep inv s n (bm inv s n)
structure BMOk (s : Nat → F) (n : Nat) (x : BM F) : Prop where
  rule : Rule s n x.L x.C
  old : Old s n x.L x.B x.m x.b
  nz : x.b ≠ 0
theorem bmOk (inv : F → F) (hinv : ∀ x : F, x ≠ 0 → x * inv x = 1) (h10 : (1 : F) ≠ 0) (s : Nat → F) (n : Nat) : BMOk s n (bm inv s n) := by
  induction n with
  | zero => exact ⟨rule_zero s, old_zero s, h10⟩
  | succ n ih =>
    show BMOk s (n + 1) (bmStep inv s n (bm inv s n))
    generalize bm inv s n = x at ih
    obtain ⟨r, o, nz⟩ := ih
    unfold bmStep
    by_cases h : conv x.C s n = 0
    · rw [if_pos h]
      exact ⟨r.same h, o.next, nz⟩
    · rw [if_neg h]
      have ht : conv x.C s n * inv x.b * x.b = conv x.C s n := by have := hinv x.b nz; grind
      have q := r.mix o ht
      by_cases h2 : 2 * x.L ≤ n
      · rw [if_pos h2]
        rw [if_pos h2] at q
        exact ⟨q, r.old h2, h⟩
      · rw [if_neg h2]
        rw [if_neg h2] at q
        exact ⟨q, o.next, nz⟩
theorem bm_len (inv : F → F) (s : Nat → F) (n : Nat) : (bm inv s (n + 1)).L = if conv (bm inv s n).C s n ≠ 0 ∧ 2 * (bm inv s n).L ≤ n then n + 1 - (bm inv s n).L else (bm inv s n).L := by
  show (bmStep inv s n (bm inv s n)).L = _
  unfold bmStep
  by_cases h : conv (bm inv s n).C s n = 0
  · rw [if_pos h, if_neg (fun q => q.1 h)]
  · rw [if_neg h]
    by_cases h2 : 2 * (bm inv s n).L ≤ n
    · rw [if_pos h2, if_pos ⟨h, h2⟩]
    · rw [if_neg h2, if_neg (fun q => h2 q.2)]
end

/-! ### the grid -/
section
variable {F : Type} [Lean.Grind.CommRing F]
def piv (s : Nat → F) (l : List (Nat × F)) (c : Nat) : F := sumL l fun k => s (k + c)
structure GM (s : Nat → F) (n L : Nat) (lead : Nat → Nat) (sh : Nat → List (Nat × F)) : Prop where
  lt : ∀ i, i < L → lead i < L
  inj : ∀ i j, i < L → j < L → lead i = lead j → i = j
  onto : ∀ c, c < L → ∃ i, i < L ∧ lead i = c
  kn : ∀ i, i < L → lead i + i < n
  form : ∀ i, i < L → ∃ r, sh i = r ++ [(i, 1)] ∧ ∀ p ∈ r, p.1 < i
  zero : ∀ i c, i < L → c < lead i → piv s (sh i) c = 0
  nz : ∀ i, i < L → piv s (sh i) (lead i) ≠ 0
theorem GM.start (s : Nat → F) (lead sh) : GM s 0 0 lead sh := ⟨fun i h => absurd h (by omega), fun i _ h => absurd h (by omega), fun i h => absurd h (by omega), fun i h => absurd h (by omega), fun i h => absurd h (by omega), fun i _ h => absurd h (by omega), fun i h => absurd h (by omega)⟩
theorem GM.more {s : Nat → F} {n L lead sh} (g : GM s n L lead sh) : GM s (n + 1) L lead sh := ⟨g.lt, g.inj, g.onto, fun i h => by have := g.kn i h; omega, g.form, g.zero, g.nz⟩
/-- each of the first rows is a combination of pivot rows -/
theorem GM.rows {s : Nat → F} {n L lead sh} (g : GM s n L lead sh) : ∀ i, i < L → ∃ a : Nat → F, ∀ c, s (i + c) = sumR L fun k => a k * piv s (sh k) c := by
  intro i
  induction i using Nat.strongRecOn with
  | ind i ih =>
    intro hi
    obtain ⟨r, hr, hlt⟩ := g.form i hi
    -- the combination of a list of earlier rows
    have hl : ∀ l : List (Nat × F), (∀ p ∈ l, p.1 < i) → ∃ a : Nat → F, ∀ c, sumL l (fun k => s (k + c)) = sumR L fun k => a k * piv s (sh k) c := by
      intro l
      induction l with
      | nil => exact fun _ => ⟨fun _ => 0, fun c => (sumR_zero fun k _ => by grind).symm⟩
      | cons p q ihl =>
        intro hp
        obtain ⟨a, ha⟩ := ihl fun x hx => hp x (by simp [hx])
        have hp1 := hp p (by simp)
        obtain ⟨b, hb⟩ := ih p.1 hp1 (by omega)
        refine ⟨fun k => p.2 * b k + a k, fun c => ?_⟩
        show p.2 * s (p.1 + c) + sumL q (fun k => s (k + c)) = _
        rw [ha c, hb c, ← sumR_mul, ← sumR_add]
        exact sumR_congr fun k _ => by grind
    obtain ⟨a, ha⟩ := hl r hlt
    refine ⟨fun k => (if k = i then 1 else 0) - a k, fun c => ?_⟩
    have e : sumR L (fun k => ((if k = i then 1 else 0) - a k) * piv s (sh k) c) = sumR L (fun k => (if k = i then 1 else 0) * piv s (sh k) c) - sumR L (fun k => a k * piv s (sh k) c) := by
      rw [← sumR_sub]
      exact sumR_congr fun k _ => by grind
    rw [e, ← ha c, sumR_one (i := i) hi fun k _ hk => by rw [if_neg hk]; grind, if_pos rfl]
    have e2 : piv s (sh i) c = sumL r (fun k => s (k + c)) + (1 * s (i + c) + 0) := by
      unfold piv
      rw [hr, sumL_app]; rfl
    rw [e2]; grind
/-- a later row is, as far as it is known, a combination of the first ones -/
theorem rows_later {s : Nat → F} {n L : Nat} {C : Nat → F} (r : Rule s n L C) : ∀ j, j + L ≤ n → ∃ a : Nat → F, ∀ c, c < n - j → s (j + c) = sumR L fun k => a k * s (k + c) := by
  intro j
  induction j using Nat.strongRecOn with
  | ind j ih =>
    intro hj
    by_cases hjL : j < L
    · refine ⟨fun k => if k = j then 1 else 0, fun c _ => ?_⟩
      rw [sumR_one (i := j) hjL fun k _ hk => by show (if k = j then (1 : F) else 0) * s (k + c) = 0; rw [if_neg hk]; grind]
      show s (j + c) = (if j = j then (1 : F) else 0) * s (j + c)
      rw [if_pos rfl]; grind
    · -- by the rule
      have hc : ∀ q, q ≤ L → ∃ a : Nat → F, ∀ c, c < n - j → sumR q (fun k => C (k + 1) * s (j - (k + 1) + c)) = sumR L fun k => a k * s (k + c) := by
        intro q
        induction q with
        | zero => exact fun _ => ⟨fun _ => 0, fun c _ => (sumR_zero fun k _ => by grind).symm⟩
        | succ q ihq =>
          intro hq
          obtain ⟨a, ha⟩ := ihq (by omega)
          obtain ⟨b, hb⟩ := ih (j - (q + 1)) (by omega) (by omega)
          refine ⟨fun k => a k + C (q + 1) * b k, fun c hcj => ?_⟩
          show sumR q (fun k => C (k + 1) * s (j - (k + 1) + c)) + C (q + 1) * s (j - (q + 1) + c) = _
          rw [ha c hcj, hb c (by omega), ← sumR_mul, ← sumR_add]
          exact sumR_congr fun k _ => by grind
      obtain ⟨a, ha⟩ := hc L (Nat.le_refl _)
      refine ⟨fun k => -a k, fun c hcj => ?_⟩
      have h0 := r.run (j + c) (by omega) (by omega)
      rw [conv_cut r.deg (by omega)] at h0
      -- the first term apart
      have hs : ∀ (q : Nat) (f : Nat → F), sumR (q + 1) f = f 0 + sumR q (fun k => f (k + 1)) := by
        intro q f
        induction q with
        | zero => show 0 + f 0 = f 0 + 0; grind
        | succ q ihq =>
          show sumR (q + 1) f + f (q + 1) = f 0 + (sumR q (fun k => f (k + 1)) + f (q + 1))
          rw [ihq]; grind
      rw [hs, r.c0] at h0
      have e : sumR L (fun k => C (k + 1) * s (j + c - (k + 1))) = sumR L (fun k => C (k + 1) * s (j - (k + 1) + c)) := sumR_congr fun k hk => by rw [show j + c - (k + 1) = j - (k + 1) + c by omega]
      rw [e, ha c hcj, Nat.sub_zero] at h0
      have e3 : sumR L (fun k => -a k * s (k + c)) = -sumR L (fun k => a k * s (k + c)) := by
        have := sumR_mul L (-1) (fun k => a k * s (k + c))
        have e4 : sumR L (fun k => -1 * (a k * s (k + c))) = sumR L (fun k => -a k * s (k + c)) := sumR_congr fun k _ => by grind
        rw [← e4, this]; grind
      rw [e3]; grind
/-- .. and so one of pivot rows -/
theorem GM.span {s : Nat → F} {n L lead sh} {C : Nat → F} (g : GM s n L lead sh) (r : Rule s n L C) (j : Nat) (hj : j + L ≤ n) : ∃ a : Nat → F, ∀ c, c < n - j → s (j + c) = sumR L fun k => a k * piv s (sh k) c := by
  obtain ⟨a, ha⟩ := rows_later r j hj
  have hq : ∀ q, q ≤ L → ∃ b : Nat → F, ∀ c, sumR q (fun k => a k * s (k + c)) = sumR L fun k => b k * piv s (sh k) c := by
    intro q
    induction q with
    | zero => exact fun _ => ⟨fun _ => 0, fun c => (sumR_zero fun k _ => by grind).symm⟩
    | succ q ih =>
      intro hqL
      obtain ⟨b, hb⟩ := ih (by omega)
      obtain ⟨d, hd⟩ := g.rows q (by omega)
      refine ⟨fun k => b k + a q * d k, fun c => ?_⟩
      show sumR q (fun k => a k * s (k + c)) + a q * s (q + c) = _
      rw [hb c, hd c, ← sumR_mul, ← sumR_add]
      exact sumR_congr fun k _ => by grind
  obtain ⟨b, hb⟩ := hq L (Nat.le_refl _)
  exact ⟨b, fun c hc => by rw [ha c hc, hb c]⟩
/-- what a forced prefix leads to -/
theorem forced_is {s : Nat → F} {n L : Nat} {C : Nat → F} (r : Rule s n L C) {j : Nat} (h1 : L ≤ j) (h2 : j + L ≤ n) {h : List (Nat × F)} (hh : ∀ p ∈ h, p.1 < L) (hs : ∀ c, c < n - j → s (j + c) = sumL h fun k => s (k + c)) :
    s n - (sumL h fun k => s (k + (n - j))) = conv C s n := by
  -- y: the row less the combination
  have y : ∀ c, conv C (fun c => s (j + c) - sumL h fun k => s (k + c)) c = conv C (fun c => s (j + c)) c - sumL h fun i => conv C (fun c => s (i + c)) c := by
    intro c
    unfold conv
    rw [sumL_sumR, ← sumR_sub]
    refine sumR_congr fun k _ => ?_
    show C k * (s (j + (c - k)) - sumL h fun i => s (i + (c - k))) = C k * s (j + (c - k)) - sumL h fun i => C k * s (i + (c - k))
    rw [sumL_mul]; grind
  have y0 : conv C (fun c => s (j + c) - sumL h fun k => s (k + c)) (n - j) = s n - sumL h fun k => s (k + (n - j)) := by
    unfold conv
    rw [sumR_one (i := 0) (by omega) fun k hk h0 => ?_]
    · show C 0 * (s (j + (n - j - 0)) - sumL h fun k => s (k + (n - j - 0))) = _
      rw [r.c0, Nat.sub_zero, show j + (n - j) = n by omega]; grind
    · show C k * (s (j + (n - j - k)) - sumL h fun i => s (i + (n - j - k))) = 0
      by_cases hk0 : n - j - k < n - j
      · rw [← hs _ hk0]; grind
      · have : n - j = 0 := by omega
        omega
  have yi : ∀ i, i ≤ j → conv C (fun c => s (i + c)) (n - j) = conv C s (i + (n - j)) := by
    intro i hi
    rw [conv_cut r.deg (by omega), conv_cut r.deg (by omega)]
    refine sumR_congr fun k hk => ?_
    show C k * s (i + (n - j - k)) = C k * s (i + (n - j) - k)
    rw [show i + (n - j - k) = i + (n - j) - k by omega]
  have e := y (n - j)
  rw [y0, yi j (Nat.le_refl _), show j + (n - j) = n by omega] at e
  rw [e, sumL_zero fun p hp => ?_]
  · grind
  · show conv C (fun c => s (p.1 + c)) (n - j) = 0
    have := hh p hp
    rw [yi p.1 (by omega)]
    exact r.run _ (by omega) (by omega)
/-- the new pivot rows -/
def leadNew (n L : Nat) (lead : Nat → Nat) : Nat → Nat := fun i => if i < L then lead i else n - i
theorem GM.grow {s : Nat → F} {n L lead sh} {C : Nat → F} (g : GM s n L lead sh) (r : Rule s n L C) (hL : 2 * L ≤ n) (hoff : conv C s n ≠ 0) {sh' : Nat → List (Nat × F)}
    (hold : ∀ i, i < L → sh' i = sh i) (hnew : ∀ j, L ≤ j → j + L ≤ n → ∃ h, (∀ p ∈ h, p.1 < L) ∧ (∀ c, c < n - j → s (j + c) = sumL h fun k => s (k + c)) ∧ sh' j = negL h ++ [(j, 1)]) :
    GM s (n + 1) (n + 1 - L) (leadNew n L lead) sh' := by
  have pv : ∀ j, L ≤ j → j + L ≤ n → ∃ h : List (Nat × F), (∀ p ∈ h, p.1 < L) ∧ (∀ c, c < n - j → s (j + c) = sumL h fun k => s (k + c)) ∧ ∀ c, piv s (sh' j) c = s (j + c) - sumL h fun k => s (k + c) := by
    intro j a b
    obtain ⟨h, h1, h2, h3⟩ := hnew j a b
    refine ⟨h, h1, h2, fun c => ?_⟩
    unfold piv
    rw [h3, sumL_app, sumL_neg]
    show -(sumL h fun k => s (k + c)) + (1 * s (j + c) + 0) = _
    grind
  refine ⟨fun i hi => ?_, fun i j hi hj e => ?_, fun c hc => ?_, fun i hi => ?_, fun i hi => ?_, fun i c hi hc => ?_, fun i hi => ?_⟩
  · unfold leadNew
    by_cases h : i < L
    · rw [if_pos h]; have := g.lt i h; omega
    · rw [if_neg h]; omega
  · unfold leadNew at e
    by_cases h : i < L
    · rw [if_pos h] at e
      by_cases h' : j < L
      · rw [if_pos h'] at e; exact g.inj i j h h' e
      · rw [if_neg h'] at e; have := g.lt i h; omega
    · rw [if_neg h] at e
      by_cases h' : j < L
      · rw [if_pos h'] at e; have := g.lt j h'; omega
      · rw [if_neg h'] at e; omega
  · by_cases h : c < L
    · obtain ⟨i, hi, e⟩ := g.onto c h
      exact ⟨i, by omega, by unfold leadNew; rw [if_pos hi]; exact e⟩
    · exact ⟨n - c, by omega, by unfold leadNew; rw [if_neg (by omega)]; omega⟩
  · unfold leadNew
    by_cases h : i < L
    · rw [if_pos h]; have := g.kn i h; omega
    · rw [if_neg h]; omega
  · by_cases h : i < L
    · rw [hold i h]; exact g.form i h
    · obtain ⟨h', h1, _, h3⟩ := hnew i (by omega) (by omega)
      refine ⟨negL h', h3, fun p hp => ?_⟩
      obtain ⟨q, hq, e⟩ := List.mem_map.mp hp
      have := h1 q hq
      rw [← e]
      show q.1 < i
      omega
  · unfold leadNew at hc
    by_cases h : i < L
    · rw [if_pos h] at hc
      rw [hold i h]; exact g.zero i c h hc
    · rw [if_neg h] at hc
      obtain ⟨h', _, h2, h3⟩ := pv i (by omega) (by omega)
      rw [h3 c, h2 c hc]; grind
  · unfold leadNew
    by_cases h : i < L
    · rw [if_pos h, hold i h]; exact g.nz i h
    · rw [if_neg h]
      obtain ⟨h', h1, h2, h3⟩ := pv i (by omega) (by omega)
      rw [h3, show i + (n - i) = n by omega, forced_is r (by omega) (by omega) h1 h2]
      exact hoff
/-- one column of the elimination: what is left has at the column the number of the one pivot row whose lead it is -/
theorem GM.col {s : Nat → F} {n L lead sh} (g : GM s n L lead sh) (a : Nat → F) (c : Nat) :
    (∃ i, i < L ∧ lead i = c ∧ sumR L (fun k => if c ≤ lead k then a k * piv s (sh k) c else 0) = a i * piv s (sh i) c) ∨ (L ≤ c ∧ sumR L (fun k => if c ≤ lead k then a k * piv s (sh k) c else 0) = 0) := by
  by_cases h : c < L
  · obtain ⟨i, hi, e⟩ := g.onto c h
    refine .inl ⟨i, hi, e, ?_⟩
    rw [sumR_one (i := i) hi fun k hk hne => ?_, if_pos (by omega)]
    by_cases h2 : c ≤ lead k
    · have : lead k ≠ c := fun q => hne (g.inj k i hk hi (q.trans e.symm))
      rw [if_pos h2, g.zero k c hk (by omega)]; grind
    · rw [if_neg h2]
  · exact .inr ⟨by omega, sumR_zero fun k hk => if_neg (by have := g.lt k hk; omega)⟩
theorem GM.col_next {s : Nat → F} {n L lead sh} (g : GM s n L lead sh) (a : Nat → F) {i : Nat} (hi : i < L) (T : Nat → F) :
    sumR L (fun k => if lead i ≤ lead k then a k * T k else 0) = sumR L (fun k => if lead i + 1 ≤ lead k then a k * T k else 0) + a i * T i := by
  have e : sumR L (fun k => if lead i ≤ lead k then a k * T k else 0) - sumR L (fun k => if lead i + 1 ≤ lead k then a k * T k else 0) = a i * T i := by
    rw [← sumR_sub, sumR_one (i := i) hi fun k hk hne => ?_, if_pos (Nat.le_refl _), if_neg (by omega)]
    · grind
    · have : lead k ≠ lead i := fun q => hne (g.inj k i hk hi q)
      by_cases h : lead i ≤ lead k
      · rw [if_pos h, if_pos (by omega)]; grind
      · rw [if_neg h, if_neg (by omega)]; grind
  grind
theorem GM.done_next {s : Nat → F} {n L lead sh} (g : GM s n L lead sh) (a : Nat → F) {i : Nat} (hi : i < L) (T : Nat → F) :
    sumR L (fun k => if lead k < lead i + 1 then a k * T k else 0) = sumR L (fun k => if lead k < lead i then a k * T k else 0) + a i * T i := by
  have e : sumR L (fun k => if lead k < lead i + 1 then a k * T k else 0) - sumR L (fun k => if lead k < lead i then a k * T k else 0) = a i * T i := by
    rw [← sumR_sub, sumR_one (i := i) hi fun k hk hne => ?_, if_neg (Nat.lt_irrefl _), if_pos (by omega)]
    · grind
    · have : lead k ≠ lead i := fun q => hne (g.inj k i hk hi q)
      by_cases h : lead k < lead i
      · rw [if_pos h, if_pos (by omega)]; grind
      · rw [if_neg h, if_neg (by omega)]; grind
  grind
theorem GM.skip {s : Nat → F} {n L lead sh} (g : GM s n L lead sh) (hz : ∀ x y : F, x * y = 0 → y ≠ 0 → x = 0) (a : Nat → F) (c : Nat) (h : sumR L (fun k => if c ≤ lead k then a k * piv s (sh k) c else 0) = 0) (T : Nat → F) :
    sumR L (fun k => if c + 1 ≤ lead k then a k * T k else 0) = sumR L (fun k => if c ≤ lead k then a k * T k else 0) ∧ sumR L (fun k => if lead k < c + 1 then a k * T k else 0) = sumR L (fun k => if lead k < c then a k * T k else 0) := by
  rcases g.col a c with ⟨i, hi, e, e2⟩ | ⟨hc, _⟩
  · have ha : a i = 0 := hz _ _ (e2.symm.trans h) (by rw [← e]; exact g.nz i hi)
    have h1 := g.col_next a hi T
    have h2 := g.done_next a hi T
    rw [e, ha] at h1 h2
    constructor
    · rw [h1]; grind
    · rw [h2]; grind
  · constructor
    · exact sumR_congr fun k hk => by have := g.lt k hk; rw [if_neg (by omega), if_neg (by omega)]
    · exact sumR_congr fun k hk => by have := g.lt k hk; rw [if_pos (by omega), if_pos (by omega)]
theorem GM.some_lead {s : Nat → F} {n L lead sh} (g : GM s n L lead sh) (a : Nat → F) (c : Nat) (h : sumR L (fun k => if c ≤ lead k then a k * piv s (sh k) c else 0) ≠ 0) :
    ∃ i, i < L ∧ lead i = c ∧ sumR L (fun k => if c ≤ lead k then a k * piv s (sh k) c else 0) = a i * piv s (sh i) c ∧ piv s (sh i) c ≠ 0 := by
  rcases g.col a c with ⟨i, hi, e, e2⟩ | ⟨_, e⟩
  · exact ⟨i, hi, e, e2, by rw [← e]; exact g.nz i hi⟩
  · exact absurd e h
theorem GM.congr {s : Nat → F} {n L lead sh} (g : GM s n L lead sh) {lead' : Nat → Nat} {sh' : Nat → List (Nat × F)} (hl : ∀ i, i < L → lead' i = lead i) (hs : ∀ i, i < L → sh' i = sh i) : GM s n L lead' sh' :=
  ⟨fun i h => by rw [hl i h]; exact g.lt i h, fun i j h h' e => g.inj i j h h' (by rw [← hl i h, ← hl j h']; exact e), fun c hc => by
    obtain ⟨i, hi, e⟩ := g.onto c hc
    exact ⟨i, hi, by rw [hl i hi]; exact e⟩, fun i h => by rw [hl i h]; exact g.kn i h, fun i h => by rw [hs i h]; exact g.form i h,
    fun i c h hc => by rw [hl i h] at hc; rw [hs i h]; exact g.zero i c h hc, fun i h => by rw [hl i h, hs i h]; exact g.nz i h⟩
omit [Lean.Grind.CommRing F] in
theorem keys_few {l : List (Nat × F)} {L : Nat} (hn : (keysL l).Nodup) (h : ∀ q ∈ l, q.1 < L) : l.length ≤ L := by
  have : ∀ (l1 l2 : List Nat), l1.Nodup → (∀ x ∈ l1, x ∈ l2) → l1.length ≤ l2.length := by
    intro l1
    induction l1 with
    | nil => intro l2 _ _; simp
    | cons a r ih =>
      intro l2 h1 h2
      obtain ⟨k1, k2⟩ := List.nodup_cons.mp h1
      have ha : a ∈ l2 := h2 a (by simp)
      have he := List.length_erase_of_mem ha
      have hp : 0 < l2.length := List.length_pos_of_mem ha
      have := ih (l2.erase a) k2 fun x hx => (List.mem_erase_of_ne (fun q => k1 (by rw [← q]; exact hx))).mpr (h2 x (by simp [hx]))
      simp
      omega
  have z := this (keysL l) (List.range L) hn fun x hx => by
    obtain ⟨q, hq, e⟩ := List.mem_map.mp hx
    rw [← e]
    exact List.mem_range.mpr (h q hq)
  rw [List.length_range] at z
  unfold keysL at z
  rwa [List.length_map] at z
theorem sumL_take_succ {l : List (Nat × F)} {t : Nat} (h : t < l.length) (f : Nat → F) : sumL (l.take (t + 1)) f = sumL (l.take t) f + l[t].2 * f l[t].1 := by
  rw [List.take_add_one, List.getElem?_eq_getElem h, sumL_app]
  show _ + (l[t].2 * f l[t].1 + 0) = _
  grind
end
end Mx

/-! Primes: powers that are inverses. -/
namespace Mx
def IsP (p : Nat) : Prop := 2 ≤ p ∧ ∀ d, d ∣ p → d = 1 ∨ d = p
def noDiv (p k : Nat) : Bool := (List.range k).all fun d => d < 2 || p % d != 0
theorem isP_of {p k : Nat} (h2 : 2 ≤ p) (hk : p < k * k) (h : noDiv p k = true) : IsP p := by
  refine ⟨h2, fun d hd => ?_⟩
  have hd0 : 0 < d := Nat.pos_of_dvd_of_pos hd (by omega)
  have no : ∀ e, 2 ≤ e → e < k → ¬ e ∣ p := fun e h1 h3 q => by
    have := List.all_eq_true.mp h e (List.mem_range.mpr h3)
    have z := Nat.mod_eq_zero_of_dvd q
    simp [z] at this
    omega
  obtain ⟨e, he⟩ := hd
  by_cases hd1 : d = 1
  · exact .inl hd1
  · refine .inr ?_
    by_cases hdk : d < k
    · exact absurd ⟨e, he⟩ (no d (by omega) hdk)
    · by_cases he1 : e = 1
      · rw [he1] at he; omega
      · have he0 : e ≠ 0 := fun q => by rw [q] at he; omega
        by_cases hek : e < k
        · exact absurd ⟨d, by rw [he, Nat.mul_comm]⟩ (no e (by omega) hek)
        · have : k * k ≤ d * e := Nat.mul_le_mul (by omega) (by omega)
          omega
theorem cop_of {p a : Nat} (hp : IsP p) (h : ¬ p ∣ a) : Nat.Coprime a p := by
  have hg := hp.2 (Nat.gcd a p) (Nat.gcd_dvd_right a p)
  rcases hg with hg | hg
  · exact hg
  · exact absurd (by have := Nat.gcd_dvd_left a p; rw [hg] at this; exact this) h
theorem perm_of_sub : ∀ (l1 l2 : List Nat), l1.Nodup → (∀ x ∈ l1, x ∈ l2) → l2.length ≤ l1.length → l1.Perm l2
  | [], l2, _, _, hl => by
    have : l2 = [] := List.length_eq_zero_iff.mp (by simpa using hl)
    rw [this]
  | a :: r, l2, hn, hs, hl => by
    obtain ⟨h1, h2⟩ := List.nodup_cons.mp hn
    have ha : a ∈ l2 := hs a (by simp)
    have he := List.length_erase_of_mem ha
    have hr : r.Perm (l2.erase a) := perm_of_sub r (l2.erase a) h2 (fun x hx => (List.mem_erase_of_ne (fun q => h1 (by rw [← q]; exact hx))).mpr (hs x (by simp [hx]))) (by simp at hl; omega)
    exact (hr.cons a).trans (List.perm_cons_erase ha).symm
theorem nodup_map_of {f : Nat → Nat} : ∀ l : List Nat, l.Nodup → (∀ x ∈ l, ∀ y ∈ l, f x = f y → x = y) → (l.map f).Nodup
  | [], _, _ => by simp
  | a :: r, hn, hi => by
    obtain ⟨h1, h2⟩ := List.nodup_cons.mp hn
    rw [List.map_cons]
    refine List.nodup_cons.mpr ⟨fun m => ?_, nodup_map_of r h2 fun x hx y hy => hi x (by simp [hx]) y (by simp [hy])⟩
    obtain ⟨x, hx, e⟩ := List.mem_map.mp m
    have := hi x (by simp [hx]) a (by simp) e
    exact h1 (by rw [← this]; exact hx)
theorem mul_inj {p a x y : Nat} (hc : Nat.Coprime a p) (hx : x < p) (hy : y < p) (h : a * x % p = a * y % p) : x = y := by
  have one : ∀ x y : Nat, x < p → y < p → a * x % p = a * y % p → y ≤ x := fun x y hx hy h => by
    have z := Nat.sub_mod_eq_zero_of_mod_eq h.symm
    rw [← Nat.mul_sub] at z
    have := Nat.Coprime.dvd_of_dvd_mul_left hc.symm (Nat.dvd_of_mod_eq_zero z)
    by_cases hxy : y ≤ x
    · exact hxy
    · have := Nat.le_of_dvd (by omega) this
      omega
  have := one x y hx hy h
  have := one y x hy hx h.symm
  omega
theorem prod_mod (a p : Nat) : ∀ l : List Nat, (l.map fun x => a * x % p).prod % p = a ^ l.length * l.prod % p
  | [] => by simp
  | x :: r => by
    simp only [List.map_cons, List.prod_cons, List.length_cons]
    rw [Nat.mul_mod, prod_mod a p r, Nat.mod_mod, ← Nat.mul_mod]
    congr 1
    rw [Nat.pow_succ]
    grind
theorem prod_cop {p : Nat} (hp : IsP p) : ∀ l : List Nat, (∀ x ∈ l, 0 < x ∧ x < p) → Nat.Coprime l.prod p
  | [], _ => by simp
  | x :: r, h => by
    rw [List.prod_cons]
    have h1 := h x (by simp)
    refine Nat.Coprime.mul_left (cop_of hp fun q => ?_) (prod_cop hp r fun y hy => h y (by simp [hy]))
    have := Nat.le_of_dvd h1.1 q
    omega
theorem fermat {p a : Nat} (hp : IsP p) (h : ¬ p ∣ a) : a ^ (p - 1) % p = 1 := by
  have h2 := hp.1
  have hc := cop_of hp h
  have hlen : (List.range' 1 (p - 1)).length = p - 1 := List.length_range'
  have mem : ∀ x, x ∈ List.range' 1 (p - 1) ↔ 0 < x ∧ x < p := fun x => by
    rw [List.mem_range'_1]; omega
  have hperm : ((List.range' 1 (p - 1)).map fun x => a * x % p).Perm (List.range' 1 (p - 1)) := by
    refine perm_of_sub _ _ ?_ (fun y hy => ?_) (by simp)
    · exact nodup_map_of _ List.nodup_range' fun x hx y hy e => mul_inj hc ((mem x).mp hx).2 ((mem y).mp hy).2 e
    · obtain ⟨x, hx, e⟩ := List.mem_map.mp hy
      have hx' := (mem x).mp hx
      refine (mem y).mpr ⟨?_, by rw [← e]; exact Nat.mod_lt _ (by omega)⟩
      rw [← e]
      refine Nat.pos_of_ne_zero fun z => ?_
      have hd : p ∣ a * x := Nat.dvd_of_mod_eq_zero z
      have := (Nat.Coprime.dvd_of_dvd_mul_left hc.symm hd)
      have := Nat.le_of_dvd hx'.1 this
      omega
  have e1 := prod_mod a p (List.range' 1 (p - 1))
  rw [hperm.prod_nat, hlen] at e1
  have hpc := prod_cop hp (List.range' 1 (p - 1)) fun x hx => (mem x).mp hx
  generalize (List.range' 1 (p - 1)).prod = P at e1 hpc
  -- P ≡ a^(p-1) P
  have hge : 1 ≤ a ^ (p - 1) := Nat.one_le_iff_ne_zero.mpr (by
    refine Nat.pos_iff_ne_zero.mp (Nat.pow_pos (Nat.pos_of_ne_zero fun q => h (by rw [q]; exact Nat.dvd_zero p))))
  have hd : p ∣ (a ^ (p - 1) - 1) * P := by
    rw [Nat.sub_mul, Nat.one_mul]
    exact Nat.dvd_of_mod_eq_zero (Nat.sub_mod_eq_zero_of_mod_eq e1.symm)
  have hd2 : p ∣ a ^ (p - 1) - 1 := Nat.Coprime.dvd_of_dvd_mul_right hpc.symm hd
  obtain ⟨k, hk⟩ := hd2
  have : a ^ (p - 1) = 1 + p * k := by omega
  rw [this, Nat.add_mul_mod_self_left]
  exact Nat.mod_eq_of_lt (by omega)
/-! ### the numbers modulo p -/
section
variable {p : Nat} [NeZero p]
def fin (p : Nat) [NeZero p] (n : Nat) : Fin p := Fin.ofNat p n
def inv (x : Fin p) : Fin p := Fin.ofNat p (x.val ^ (p - 2))
theorem mul_inv (hp : IsP p) (x : Fin p) (hx : x ≠ 0) : x * inv x = 1 := by
  have h2 := hp.1
  have hv : x.val ≠ 0 := fun q => hx (Fin.ext q)
  have hd : ¬ p ∣ x.val := fun q => by
    have := Nat.le_of_dvd (by omega) q
    have := x.isLt
    omega
  have hf := fermat hp hd
  refine Fin.ext ?_
  show x.val * (x.val ^ (p - 2) % p) % p = 1 % p
  rw [Nat.mul_mod, Nat.mod_mod, ← Nat.mul_mod, ← Nat.pow_succ', show (p - 2).succ = p - 1 by omega, hf, Nat.mod_eq_of_lt (by omega)]
theorem one_ne (hp : IsP p) : (1 : Fin p) ≠ 0 := fun q => by
  have h2 := hp.1
  have : (1 : Fin p).val = (0 : Fin p).val := by rw [q]
  have e : 1 % p = 0 % p := this
  rw [Nat.mod_eq_of_lt (by omega), Nat.zero_mod] at e
  omega
theorem inv_uniq (hp : IsP p) {x y : Fin p} (h : x * y = 1) : y = inv x := by
  have hx : x ≠ 0 := fun q => by
    rw [q] at h
    exact one_ne hp (by rw [← h]; grind)
  have := mul_inv hp x hx
  grind
end
end Mx

namespace Fa
open PySem PySem.Spec L2
/-! ### rules of our own: operators -/
section
variable {X : Cx}
/-- < of two pairs of an int and a text -/
def rLtKey : R2 := fun x y H Q => ∃ (a b : Addr) (i j : Int) (z u : Str), x = .ref a ∧ y = .ref b ∧ H a = some (.tup [.int i, .str z]) ∧ H b = some (.tup [.int j, .str u]) ∧
  Q (.bl (if i = j then (if z = u then false else decide (z.cps.toList < u.cps.toList)) else decide (i < j))) H
theorem op_ltKey (hu : X.A.units < cLine) : OpR X (compareOp .Lt) rLtKey := by
  intro pins s σ H x y v u Q I rx ry h
  obtain ⟨a, b, i, j, z, z2, rfl, rfl, ha, hb, q⟩ := h
  cases rx
  cases ry
  obtain ⟨its, r1, p1, _⟩ := I.tuple (SqT.of ha)
  obtain ⟨its2, r2, p2, _⟩ := I.tuple (SqT.of hb)
  obtain ⟨u1, u2, rfl, ⟨t1, e1⟩, ⟨t2, e2⟩⟩ := vals2 r1
  obtain ⟨w1, w2, rfl, ⟨t3, e3⟩, ⟨t4, e4⟩⟩ := vals2 r2
  subst e1 e2 e3 e4
  have R := Ob.RcOp.tuples_lt (A := X.A) (s := s) (e := fun k => if k = 0 then (i == j) else (z == z2)) (r := fun k => if k = 0 then decide (i < j) else decide (z.cps.toList < z2.cps.toList)) p1 p2 hu (fun k h1 h2 => by
    have hk : k = 0 ∨ k = 1 := by
      have : k < 2 := h1
      omega
    rcases hk with rfl | rfl
    · exact SeqAt.EqAt.int_int _ _ _ _
    · exact SeqAt.EqAt.str_str _ _ _ _) (fun k h1 h2 _ => by
    have hk : k = 0 ∨ k = 1 := by
      have : k < 2 := h1
      omega
    rcases hk with rfl | rfl
    · exact Ob.RcOp.lt_int _ _ _ _
    · exact fun _ _ _ _ h => PySem.P.lt_str h)
  have e : Ob.lexAt (fun k => if k = 0 then (i == j) else (z == z2)) (fun k => if k = 0 then decide (i < j) else decide (z.cps.toList < z2.cps.toList)) (decide ((#[Value.int i t1, Value.str z t2] : Array Value).size < (#[Value.int j t3, Value.str z2 t4] : Array Value).size)) 0 2 =
      (if i = j then (if z = z2 then false else decide (z.cps.toList < z2.cps.toList)) else decide (i < j)) := by
    show (if (i == j) = true then (if (z == z2) = true then decide ((2 : Nat) < 2) else decide (z.cps.toList < z2.cps.toList)) else decide (i < j)) = _
    by_cases h1 : i = j
    · rw [if_pos (beq_iff_eq.mpr h1), if_pos h1]
      by_cases h2 : z = z2
      · rw [if_pos (beq_iff_eq.mpr h2), if_pos h2]; rfl
      · rw [if_neg (fun q => h2 (beq_iff_eq.mp q)), if_neg h2]
    · rw [if_neg (fun q => h1 (beq_iff_eq.mp q)), if_neg h1]
  rw [← e] at q
  have z9 : wpAny (model X.prog X.w) X.A (compareOp .Lt (.ref a) (.ref b)) (EP X pins σ Q) X.xe s := R X.prog X.w X.xe (EP X pins σ Q) ⟨.bl _, H, I, rfl, q⟩
  exact z9
/-- a sign, so many times -/
def rRepA : R2 := fun x y H Q => ∃ c k : Nat, x = .str (A c 1) ∧ y = .int (k : Nat) ∧ k ≤ 1000 ∧ Q (.str (A c k)) H
theorem fold_rep (c : Nat) : ∀ (k : Nat) (acc : Array Nat), (List.replicate k (#[c] : Array Nat)).foldl (· ++ ·) acc = acc ++ (List.replicate k c).toArray
  | 0, acc => by simp
  | k + 1, acc => by
    rw [List.replicate_succ, List.foldl_cons, fold_rep c k, List.replicate_succ]
    refine Array.ext' ?_
    simp
theorem op_repS : OpR X (binaryOp .Mult) rRepA := by
  intro pins s σ H x y v u Q I rx ry h
  obtain ⟨c, k, rfl, rfl, hk, q⟩ := h
  obtain ⟨t, rfl⟩ := rx
  obtain ⟨t', rfl⟩ := ry
  have hl : (A c 1).length = 1 := A_len c 1
  have big : (1000 : Int) ≤ (2 ^ 63 - 1) / 1000 := by decide
  refine PySem.P.mul_str (by rw [decide_eq_false (by omega), decide_eq_false (by omega)]; rfl) (fun h1 h2 => ?_) (fun h1 h2 => ?_) ?_
  · rw [hl]
    have h3 : (0 : Int) < (k : Int) := by omega
    have : (1 : Int) ≤ (2 ^ 63 - 1) / (k : Int) := (Int.le_ediv_iff_mul_le h3).mpr (by omega)
    omega
  · rw [hl]
    show decide (1 * (k : Int).toNat > sizeLine) = false
    refine decide_eq_false ?_
    have : (1000 : Nat) ≤ sizeLine := by decide
    omega
  · by_cases h0 : k = 0
    · subst h0
      rw [if_pos (by decide)]
      exact ⟨by decide, .str _, H, I.tok _, ⟨_, rfl⟩, q⟩
    · rw [if_neg (by omega)]
      by_cases h1 : k = 1
      · subst h1
        rw [if_pos (by rfl)]
        exact ⟨.str _, H, I, ⟨_, rfl⟩, q⟩
      · rw [if_neg (by
          rw [hl]
          simp
          omega)]
        have e : (⟨(List.replicate (k : Int).toNat (A c 1).cps).foldl (· ++ ·) #[]⟩ : Str) = A c k := by
          have : (A c 1).cps = #[c] := rfl
          rw [this, fold_rep, Int.toNat_natCast]
          show (⟨#[] ++ (List.replicate k c).toArray⟩ : Str) = ⟨(List.replicate k c).toArray⟩
          simp
        rw [e]
        refine ⟨?_, .str _, H, I.tok _, ⟨_, rfl⟩, q⟩
        rw [A_len]
        exact sz _ (by omega)
/-- a dict == {} -/
def rEqDE : R2 := fun x y H Q => ∃ (a b : Addr) (ks : List (Key × V)), x = .ref a ∧ y = .ref b ∧ H a = some (.dK ks) ∧ H b = some (.dK []) ∧ Q (.bl ks.isEmpty) H
theorem op_eqDE (hu : X.A.units < cLine) : OpR X (compareOp .Eq) rEqDE := by
  intro pins s σ H x y v u Q I rx ry h
  obtain ⟨a, b, ks, rfl, rfl, ea, eb, q⟩ := h
  obtain rfl : v = Value.ref a := rx
  obtain rfl : u = Value.ref b := ry
  obtain ⟨_, ya, va, ra, da⟩ := (show ObjOk X.prog X.w H s.heap a (.dK ks) from I.hok a _ ea)
  obtain ⟨_, yb, vb, rb, db⟩ := (show ObjOk X.prog X.w H s.heap b (.dK []) from I.hok b _ eb)
  cases rb
  have hl := ra.length
  refine PySem.W.keq_eq (knd := mixKind X.prog X.w) (r := true) ya yb da db hu (fun hz => ?_) (fin_bl I q ?_)
  · cases va with
    | nil => exact hits_all (kvs := []) .nil .nil (fun p hp => absurd hp (by simp))
    | cons p r => exact absurd hz (by simp)
  · cases ks with
    | nil => cases va with
      | nil => rfl
      | cons p r => simp at hl
    | cons p r => cases va with
      | nil => simp at hl
      | cons p r => rfl
/-- flat data -/
def okV : V → Bool
  | .int _ => true
  | .str z => PyData.strOk z
  | _ => false
def toD : V → PyData
  | .int i => .int i
  | .str z => .str z
  | _ => .none
theorem okV_dp {K : PySem.W.Frag} {H : Hp} : ∀ {v : V}, okV v = true → Dp K H v (toD v)
  | .int i, _ => .int i
  | .str z, _ => .str z
theorem okV_all {K : PySem.W.Frag} {H : Hp} : ∀ {xs : List V}, (∀ v ∈ xs, okV v = true) → DpAll K H xs (xs.map toD)
  | [], _ => .nil
  | v :: r, h => .cons (okV_dp (h v (by simp))) (okV_all fun u hu => h u (by simp [hu]))
theorem okV_lay : ∀ {xs : List V}, (∀ v ∈ xs, okV v = true) → PyData.canLayAll0 (xs.map toD) = true ∧ PyData.depthAll (xs.map toD) = 0
  | [], _ => ⟨rfl, rfl⟩
  | v :: r, h => by
    obtain ⟨h1, h2⟩ := okV_lay (xs := r) fun u hu => h u (by simp [hu])
    have h0 := h v (by simp)
    rw [List.map_cons, PyData.canLayAll0, PyData.depthAll, h1, h2]
    cases v with
    | int i => exact ⟨rfl, rfl⟩
    | str z =>
      refine ⟨?_, rfl⟩
      have : PyData.strOk z = true := h0
      show (PyData.canLay0 (.str z) && true) = true
      rw [PyData.canLay0, this]; rfl
    | _ => cases h0
theorem okV_shL {xs : List V} (h : ∀ v ∈ xs, okV v = true) : SeqAt.shaped (.list (xs.map toD)) = true := by
  obtain ⟨h1, h2⟩ := okV_lay h
  unfold SeqAt.shaped
  rw [PyData.canLay0, PyData.depth, h1, h2]; rfl
theorem okV_shT {xs : List V} (h : ∀ v ∈ xs, okV v = true) : SeqAt.shaped (.tuple (xs.map toD)) = true := by
  obtain ⟨h1, h2⟩ := okV_lay h
  unfold SeqAt.shaped
  rw [PyData.canLay0, PyData.depth, h1, h2]; rfl
theorem okV_eqv {v u : V} (h1 : okV v = true) (h2 : okV u = true) : PyData.eqv (toD v) (toD u) = decide (v = u) := by
  cases v with
  | int i => cases u with
    | int j =>
      show PyData.eqv (.int i) (.int j) = _
      rw [PyData.eqv]
      by_cases e : i = j
      · subst e; simp
      · rw [decide_eq_false (fun q => e (V.int.inj q))]; exact beq_eq_false_iff_ne.mpr e
    | str z => rw [decide_eq_false (fun q => nomatch q)]; show PyData.eqv (.int i) (.str z) = false; simp [PyData.eqv]
    | _ => cases h2
  | str y => cases u with
    | int j => rw [decide_eq_false (fun q => nomatch q)]; show PyData.eqv (.str y) (.int j) = false; simp [PyData.eqv]
    | str z =>
      show PyData.eqv (.str y) (.str z) = _
      rw [PyData.eqv]
      by_cases e : y = z
      · subst e; simp
      · rw [decide_eq_false (fun q => e (V.str.inj q))]; exact beq_eq_false_iff_ne.mpr e
    | _ => cases h2
  | _ => cases h1
theorem okV_eqvAll : ∀ {xs ys : List V}, (∀ v ∈ xs, okV v = true) → (∀ v ∈ ys, okV v = true) → PyData.eqvAll (xs.map toD) (ys.map toD) = decide (xs = ys)
  | [], [], _, _ => by rw [List.map_nil, PyData.eqvAll]; rfl
  | [], u :: r, _, _ => by rw [List.map_nil, List.map_cons, PyData.eqvAll]; rfl
  | u :: r, [], _, _ => by rw [List.map_nil, List.map_cons, PyData.eqvAll]; rfl
  | v :: xs, u :: ys, h1, h2 => by
    rw [List.map_cons, List.map_cons, PyData.eqvAll, okV_eqv (h1 v (by simp)) (h2 u (by simp)), okV_eqvAll (fun z hz => h1 z (by simp [hz])) (fun z hz => h2 z (by simp [hz]))]
    by_cases e1 : v = u
    · by_cases e2 : xs = ys
      · subst e1 e2; simp
      · simp [e2]
    · simp [e1]
/-- a list of flat things != [] -/
def rNeNil (K : PySem.W.Frag) : R2 := fun x y H Q => ∃ (a b : Addr) (xs : List V), x = .ref a ∧ y = .ref b ∧ SqL K H a xs ∧ SqL K H b [] ∧ (∀ v ∈ xs, okV v = true) ∧ Q (.bl (!xs.isEmpty)) H
theorem op_neNil (hu : X.A.units + 64 < cLine) : OpR X (compareOp .NotEq) (rNeNil X.K) := by
  intro pins s σ H x y v u Q I rx ry h
  obtain ⟨a, b, xs, rfl, rfl, ha, hb, hx, q⟩ := h
  refine op_neD hu pins s σ H (.ref a) (.ref b) v u Q I rx ry ⟨_, _, .lst ha (okV_all hx), .lst hb .nil, okV_shL hx, okV_shL (xs := []) (fun v hv => absurd hv (by simp)), ?_⟩
  have e : PyData.eqv (.list (xs.map toD)) (.list []) = xs.isEmpty := by
    rw [PyData.eqv]
    cases xs with
    | nil => rw [List.map_nil, PyData.eqvAll]; rfl
    | cons v r => rw [List.map_cons, PyData.eqvAll]; rfl
  rw [e]; exact q
/-- two tuples of flat things, != -/
def rNeTT (K : PySem.W.Frag) : R2 := fun x y H Q => ∃ (a b : Addr) (xs ys : List V), x = .ref a ∧ y = .ref b ∧ SqT K H a xs ∧ SqT K H b ys ∧ (∀ v ∈ xs, okV v = true) ∧ (∀ v ∈ ys, okV v = true) ∧ Q (.bl (!decide (xs = ys))) H
theorem op_neTT (hu : X.A.units + 64 < cLine) : OpR X (compareOp .NotEq) (rNeTT X.K) := by
  intro pins s σ H x y v u Q I rx ry h
  obtain ⟨a, b, xs, ys, rfl, rfl, ha, hb, hx, hy, q⟩ := h
  refine op_neD hu pins s σ H (.ref a) (.ref b) v u Q I rx ry ⟨_, _, .tup ha (okV_all hx), .tup hb (okV_all hy), okV_shT hx, okV_shT hy, ?_⟩
  have e : PyData.eqv (.tuple (xs.map toD)) (.tuple (ys.map toD)) = decide (xs = ys) := by
    rw [PyData.eqv, okV_eqvAll hx hy]
  rw [e]; exact q
/-- with the written part told (within a comprehension the block's own is not to be named) -/
theorem pe_fldK {K : PySem.W.Frag} {e : Expr} {f : Str} {pos : Pos} {ta : TE} (hK : X.K = K) (he : PE X e ta) (hb : attributeBase e f X.env (eval e X.env) = eval e X.env) : PE X (.Attribute e f pos) (tFld K ta f) := by
  subst hK
  exact pe_fld he hb
theorem ix_listK {K : PySem.W.Frag} (hK : X.K = K) : IxR X (rIxL K) := by
  subst hK
  exact ix_list
/-- an expression that is never reached -/
theorem pe_never {e : Expr} : PE X e (fun _ _ _ => False) := ⟨fun _ _ _ _ _ _ h => h.elim⟩
theorem strOk_A (c k : Nat) (h : c ≤ 122) : PyData.strOk (A c k) = true := by
  show (A c k).cps.all (· < 0x110000) = true
  rw [Array.all_eq_true']
  intro x hx
  have hx2 : x ∈ (A c k).cps.toList := by simpa using hx
  rw [A_list] at hx2
  have := (List.mem_replicate.mp hx2).2
  exact decide_eq_true (by omega)
end
end Fa

namespace Fa
open PySem PySem.Spec L2
section
variable {X : Cx}
/-- an expression whose dict is locked from then on -/
def tFrz (t : TE) : TE := fun σ H Q => t σ H fun x H1 => ∃ (d : Addr) (u : HO), x = .ref d ∧ H1 d = some u ∧ Mut (some u) ∧ ∀ od, Q x (upd H1 d (.frz od u))
theorem pe_frz {e : Expr} {t : TE} (h : PE X e t) : PE X e (tFrz t) := by
  refine ⟨fun pins s σ H Q I hw => ?_⟩
  refine thn (h.run pins s σ _ _ I hw) fun v s1 ⟨x, H1, I1, r, d, u, ex, hd, mu, q⟩ => ?_
  obtain ⟨od, I2⟩ := I1.lock hd mu
  exact ⟨x, _, I2, r, q od⟩
/-- name = {k: v for ..} on one line, the name a local -/
theorem ps_setDc {i : Nat} {y : Str} {py : Pos} {kx vx tg iter : Expr} {ifs : List Expr} {scope : Scope} {own : List (Str × Nat)} {pos spos : Pos} {wi : TI} {g : TG} {tt : TT} {tk tv : TE} (hc : X.calm = true) (hN : X.N.Nodup) (hy : X.N[i]? = some y) (hyl : X.env.scope.names.lookup y = some .local)
    (hsw : swapsWith (.DictComp kx vx [⟨tg, iter, ifs, 0⟩] scope pos) (some (.Name y py)) spos.line X.env = pure true) (hi : PI X tg iter wi) (ok : BlkOk X.N X.env.scope scope own)
    (hg : ∀ (s : Shared) (H : Hp) (C : Addr) (cl : List (Str × Addr)) (fp : List Addr), PG (X.blk s H scope (compEnvC scope cl C X.env) fp) tg g) (ht : ∀ (s : Shared) (H : Hp) (C : Addr) (cl : List (Str × Addr)) (fp : List Addr), PTs (X.blk s H scope (compEnvC scope cl C X.env) fp) ifs tt)
    (hk : ∀ (s : Shared) (H : Hp) (C : Addr) (cl : List (Str × Addr)) (fp : List Addr), PE (X.blk s H scope (compEnvC scope cl C X.env) fp) kx tk)
    (he : ∀ (s : Shared) (H : Hp) (C : Addr) (cl : List (Str × Addr)) (fp : List Addr), PE (X.blk s H scope (compEnvC scope cl C X.env) fp) vx tv) (hs : ∀ x, foldedSetIterable iter X.env x = pure x := by intro _; rfl) :
    PS X (.Assign [.Name y py] (.DictComp kx vx [⟨tg, iter, ifs, 0⟩] scope pos) spos) (tAsg (tDc wi g tt tk tv (own.map (·.2))) (gName i)) := by
  refine ⟨fun pins s σ H D I h => ?_⟩
  rw [exec_Assign_Name_used _ _ _ _ hsw]
  refine wpAny_bind (wpAny_standAt (wpAny_bind ?_))
  show wpAny _ X.A (do let _ ← comprehension (.DictComp kx vx [⟨tg, iter, ifs, 0⟩] scope pos) scope X.env (firstIterPos [⟨tg, iter, ifs, 0⟩] pos) newDict false (eval iter X.env) (some (assign (.Name y py) X.env))) _ _ s
  have h : tDc wi g tt tk tv (own.map (·.2)) σ H (fun x H1 => gName i x σ H1 D.nx) := h
  refine wpAny_bind (thn (dc_core (Qf := fun _ s' => SP X pins D .next s') hc hN I hi ok hg ht hk he hs h fun L C s' m H' I' q hn f => ?_) fun _ s' hq => wpAny_pure (wpAny_pure hq))
  show wpAny _ _ (assign (.Name y py) X.env (.ref L)) _ _ _
  refine wpAny_assign_Name (store_ok2 (v := V.ref L) I' hN hy (.inl hyl) rfl (fun s2 I2 ⟨a, sb, ha⟩ => ?_) (.inr hyl))
  obtain ⟨f0, f1, f2, f3, f4, f5⟩ := f
  have haC : C ≠ a := by
    rcases ha with z | z
    · rw [z]; exact f1
    · exact fun e => f4 y a z e.symm
  refine ⟨m, hn.sameBut sb haC, fun h3 sb3 => ?_⟩
  exact ⟨_, H', I2.turned (t' := s2.toks) (fun b o hb e => (sb3.2 b hb).trans e) f0 f1 f3 f4 f5, q⟩
theorem sw_trueD {kx vx : Expr} {gs : List Comprehension} {scope : Scope} {pos py : Pos} {y : Str} {l : Nat} {env : Env} (hk : env.scope.kind = .function) (hy : env.scope.names.lookup y = some .local) (hl : (py.line == pos.line) = true)
    (ha : (scope.names.any fun (n, k) => n == y && (k == .local || k == .cell)) = false) : swapsWith (.DictComp kx vx gs scope pos) (some (.Name y py)) l env = pure true := by
  have ky : env.kindOf y = some .local := hy
  have hb : env.blockKind = .function := by unfold Env.blockKind; rw [hk]; rfl
  unfold swapsWith
  simp only [hb, ky, ha, Expr.pos, hl]
  rfl
/-- o.m( *e), e a tuple or a list -/
def tMethSL (K : PySem.W.Frag) (C : Addr) (m : Str) (g : Addr) (sp : Sp) (E : XK) (ta te : TE) : TE := fun σ H Q => ta σ H fun x H1 => ∃ a dx fs, x = .ref a ∧ H1 a = some (.ins C dx fs) ∧ fs.lookup m = none ∧
  ∀ q, H1 q = none → te σ (upd H1 q (.met g a)) fun y H2 => ∃ b vs, y = .ref b ∧ (SqT K H2 b vs ∨ SqL K H2 b vs) ∧ H2 q = some (.met g a) ∧ sp (.ref a :: vs) H2 Q E
theorem pe_methSL {CX : CXT} {k : Nat} {C g : Addr} {m : Str} {sp : Sp} {E : XK} {o e : Expr} {ta te : TE} {p apos pos : Pos} (he : PE X o ta) (c : Cls X.K C) (b : BMeth X.K C m g) (F : FnR X.prog X.w X.K X.mg X.base CX k g sp) (hr : Room k X.A)
    (hx : Passes CX X E) (ha : PE X e te) (hbase : attributeBase o m X.env (eval o X.env) = eval o X.env := by rfl) : PE X (.Call (.Attribute o m apos) [.Starred e p] [] pos) (tMethSL X.K C m g sp E ta te) := by
  refine ⟨fun pins s σ H Q I h => ?_⟩
  refine starcall_of hbase (thn (he.run pins s σ H _ I h) fun u s1 ⟨x, H1, I1, rx, a, dx, fs, ex, ea, l, q⟩ => ?_)
  subst ex
  obtain rfl : u = Value.ref a := rx
  refine getbound_ok I1 ea c b l fun q1 s2 hq1 I2 => ?_
  refine PySem.W.ks_call (P := PySem.W.MethP X.K q1 g (.ref a)) rfl (PySem.W.keeps_M b.fi) (PySem.W.ks_lone ?_)
  refine thn (ha.run pins s2 σ _ _ I2 (q q1 hq1)) fun v s3 ⟨y, H2, I3, ry, t, vs, ey, ht, hm, hsp⟩ => ?_
  subst ey
  obtain rfl : v = Value.ref t := ry
  refine StX.star_any I3 ht fun us s4 I4 rv => ⟨met_P I4 hm, ?_⟩
  exact wpAny_call (PySem.W.method_call (met_P I4 hm).1 (run_fnR (us := Value.ref a :: us) (vs := V.ref a :: vs) F hr hx I4 (.cons rfl rv) hsp))
end
/-- a def whose code object is known -/
theorem _root_.L2.Fun.okC {P : Program} {w : World} {K : PySem.W.Frag} {mg : Str → Option Value} {base : Heap} {x qual : Str} {st : Stmt} {f c : Addr} {fd : FuncData} {N ps : List Str} {k : Nat} {sp : Sp} (F : Fun K x qual st f fd) (hc : fd.code = .ref c) (S : FnScope N ps (defScope st)) (len : ∀ vs H Q E, sp vs H Q E → vs.length = ps.length)
    (hbody : ∀ (A : Around) (outer : List Env) (s : Shared) (H : Hp) (vs : List V) (Q : VK) (E : XK), Room k (A.deeper (PyProof.Rows.envOfC qual (defScope st) s.heap.objs.size f (.ref c))) → sp vs H Q E →
      ∃ t, PSs (cxOf CX0 P w K mg base N qual (defScope st) f (.ref c) A outer s H E).nox (defBody st) t ∧ t { nx := fun _ H' => Q .non H', rt := Q } (start N vs) H) : FnOk P w K mg base CX0 (k + 1) f fd ps sp := by
  obtain ⟨oc, od, kV, doc, pm, an, cdv, ct, osl, rfl, lk, hcd⟩ := F.ex
  obtain rfl : cdv = .ref c := hc
  refine fn_of lk hcd S len fun A outer s H vs Q E hr hsp => ?_
  obtain ⟨t, h, q⟩ := hbody A outer s H vs Q E hr hsp
  exact ⟨t, h.nox, q⟩
/-- the promise of a def with *rest, by the values that a call hands on -/
def starSp (n : Nat) (sp : Sp) : Sp := fun vs H Q E => ∃ ws rest, vs = ws ++ rest ∧ ws.length = n ∧ rest.length ≤ sizeLine ∧ ∀ p, H p = Option.none → sp (ws ++ [V.ref p]) (upd H p (.tup rest)) Q E
theorem cxup0 : StX.CXUp CX0 := fun _ _ _ _ _ _ _ _ _ _ _ h => h
/-- the promise of a def with **more that is called without keywords -/
def kwSp (n : Nat) (sp : Sp) : Sp := fun vs H Q E => vs.length = n ∧ ∀ d, H d = Option.none → sp (vs ++ [V.ref d]) (upd H d (.dK [])) Q E
theorem fn_kw {CX : CXT} {P : Program} {w : World} {K : PySem.W.Frag} {mg : Str → Option Value} {base : Heap} {k : Nat} {f : Addr} {name qual : Str} {params : Arguments} {body : List Stmt} {scope : Scope} {dV kV doc pm cdv ct oc : Value} {an od : Option Addr}
    {osl : Array (Option Value)} {N ps : List Str} {sp : Sp} {pd : Str} (lk : K.lookup f = some ⟨oc, od, .func (PySem.W.fnOf name qual params body scope dV kV doc pm an cdv ct), osl⟩) (hcd : PySem.W.codeIn K cdv qual = true) (S : FnScope N (ps ++ [pd]) scope) (hCX : StX.CXUp CX)
    (hb : ∀ us : List Value, us.length = ps.length → bindArgs (PySem.W.fnOf name qual params body scope dV kV doc pm an cdv ct) ⟨us, []⟩ = ((alloc ({ cls := .type "dict", data := .dict #[] } : Obj) : Sem Addr) >>= fun d => pure (ps.zip us ++ [(pd, Value.ref d)])))
    (hbody : ∀ (A : Around) (outer : List Env) (s : Shared) (H : Hp) (vs : List V) (Q : VK) (E : XK), Room k (A.deeper (PyProof.Rows.envOfC qual scope s.heap.objs.size f cdv)) → sp vs H Q E →
      ∃ t, PSs (cxOf CX P w K mg base N qual scope f cdv A outer s H E) body t ∧ t { nx := fun _ H' => Q .non H', rt := Q } (start N vs) H) :
    FnR P w K mg base CX (k + 1) f (kwSp ps.length sp) := by
  intro A outer s H us vs Q E hr e0 r hsp
  obtain ⟨hl, hq⟩ := hsp
  have hn : H s.heap.objs.size = Option.none := e0.hok.fresh (Nat.le_refl _)
  have hl1 : us.length = ps.length := by rw [← r.length]; exact hl
  refine StX.run_bnd lk hcd S hr e0 (G := fun xs H2 => ∃ d, H d = Option.none ∧ xs = vs ++ [V.ref d] ∧ H2 = upd H d (.dK [])) (fun A' Ex Q' h => ?_) fun s2 H2 xs ⟨d, hd, ex, eH⟩ hr' => ?_
  · rw [hb us hl1]
    refine wpAny_bind (wpAny_alloc (wpAny_pure ?_))
    have e2 := StX.env0_laid (u := .dK []) (o := ({ cls := .type "dict", data := .dict #[] } : Obj)) e0 (dk_empty _ (StX.env0_big e0))
    have un := StX.un_laid (fs := frs outer) (s := s) (o := ({ cls := .type "dict", data := .dict #[] } : Obj)) (u := .dK []) hn
    have z := h _ _ (vs ++ [V.ref s.heap.objs.size]) (us ++ [Value.ref s.heap.objs.size]) e2 un rfl (fun e s' => hCX outer s H _ _ E e s' un (fun b o q => Heap.get?_push_of_some _ q) rfl) (r.append (.cons rfl .nil))
      (by rw [List.length_append, List.length_append, hl] <;> rfl) ⟨_, hn, rfl, rfl⟩
    rw [List.zip_append hl1.symm] at z
    exact z
  · subst ex eH
    exact hbody A outer s2 _ _ Q E hr' (hq d hd)
/-! ### a comprehension with two fors -/
theorem lc2_it {J : It} {n : Nat} {G : Hp → Prop} {Y : Nat → Hp → V → Hp → Prop} (w : Walk J n G Y) {g g1 : TG} {tt tt1 : TT} {te : TE} {wi1 : TI} {vs vs1 : List Nat} {σ : L2.St} {H1 : Hp} {D : Addr} {Qd : Hp → Prop} (Pv : Nat → Hp → Prop) (h0 : Pv 0 (upd H1 D (.lst []))) (hG : ∀ i H, i ≤ n → Pv i H → G H)
    (hs : ∀ i x H H', i < n → Pv i H → Y i H x H' → g x (wipe σ vs) H' fun σ2 H2 => wipe σ2 vs = wipe σ vs ∧ tt σ2 H2 fun b H3 =>
      if b = true then wi1 σ2 H3 fun J1 H4 => ∃ W1 : Nat → Nat → Hp → Prop, (∃ m, W1 0 m H4) ∧ ∀ j k H, W1 j k H →
        (J1.stop j H ∧ Pv (i + 1) H) ∨ (J1.go j H ∧ ∃ Nx1 : Hp → Prop, (∀ H', Nx1 H' → ∃ k', k' < k ∧ W1 (j + 1) k' H') ∧ ∀ x H', J1.yld j H x H' → g1 x (wipe σ2 vs1) H' fun σ3 H5 => wipe σ3 vs1 = wipe σ2 vs1 ∧ tt1 σ3 H5 fun b H6 =>
          if b = true then te σ3 H6 fun y H7 => ∃ acc, H7 D = some (.lst acc) ∧ acc.length < sizeLine ∧ Nx1 (upd H7 D (.lst (acc ++ [y]))) else Nx1 H6)
      else Pv (i + 1) H3) (hd : ∀ H, Pv n H → Qd H) :
    ∃ W : Nat → Nat → Hp → Prop, (∃ m, W 0 m (upd H1 D (.lst []))) ∧ ∀ i m H, W i m H →
      (J.stop i H ∧ Qd H) ∨ (J.go i H ∧ ∃ Nx : Hp → Prop, (∀ H', Nx H' → ∃ m', m' < m ∧ W (i + 1) m' H') ∧ ∀ x H', J.yld i H x H' → g x (wipe σ vs) H' fun σ2 H2 => wipe σ2 vs = wipe σ vs ∧ tt σ2 H2 fun b H3 =>
        if b = true then wi1 σ2 H3 fun J1 H4 => ∃ W1 : Nat → Nat → Hp → Prop, (∃ m, W1 0 m H4) ∧ ∀ j k H, W1 j k H →
          (J1.stop j H ∧ Nx H) ∨ (J1.go j H ∧ ∃ Nx1 : Hp → Prop, (∀ H', Nx1 H' → ∃ k', k' < k ∧ W1 (j + 1) k' H') ∧ ∀ x H', J1.yld j H x H' → g1 x (wipe σ2 vs1) H' fun σ3 H5 => wipe σ3 vs1 = wipe σ2 vs1 ∧ tt1 σ3 H5 fun b H6 =>
            if b = true then te σ3 H6 fun y H7 => ∃ acc, H7 D = some (.lst acc) ∧ acc.length < sizeLine ∧ Nx1 (upd H7 D (.lst (acc ++ [y]))) else Nx1 H6)
        else Nx H3) := by
  refine ⟨fun i m H => m = n - i ∧ i ≤ n ∧ Pv i H, ⟨n, by simp, Nat.zero_le _, h0⟩, ?_⟩
  rintro i m H ⟨rfl, hi, p⟩
  have q := hG i H hi p
  by_cases hlt : i < n
  · exact .inr ⟨w.goes i H hlt q, Pv (i + 1), fun H' p' => ⟨n - (i + 1), by omega, rfl, hlt, p'⟩, fun x H' y => hs i x H H' hlt p (w.yields i H x H' hlt q y)⟩
  · have e : i = n := by omega
    subst e
    exact .inl ⟨w.stops H q, hd H p⟩
theorem inner_it {J : It} {n : Nat} {G : Hp → Prop} {Y : Nat → Hp → V → Hp → Prop} (w : Walk J n G Y) {g : TG} {tt : TT} {te : TE} {vs : List Nat} {σ : L2.St} {H1 : Hp} {D : Addr} {Qd : Hp → Prop} (Pv : Nat → Hp → Prop) (h0 : Pv 0 H1) (hG : ∀ i H, i ≤ n → Pv i H → G H)
    (hs : ∀ i x H H', i < n → Pv i H → Y i H x H' → g x (wipe σ vs) H' fun σ2 H2 => wipe σ2 vs = wipe σ vs ∧ tt σ2 H2 fun b H3 =>
      if b = true then te σ2 H3 fun y H4 => ∃ acc, H4 D = some (.lst acc) ∧ acc.length < sizeLine ∧ Pv (i + 1) (upd H4 D (.lst (acc ++ [y]))) else Pv (i + 1) H3) (hd : ∀ H, Pv n H → Qd H) :
    ∃ W : Nat → Nat → Hp → Prop, (∃ m, W 0 m H1) ∧ ∀ i m H, W i m H →
      (J.stop i H ∧ Qd H) ∨ (J.go i H ∧ ∃ Nx : Hp → Prop, (∀ H', Nx H' → ∃ m', m' < m ∧ W (i + 1) m' H') ∧ ∀ x H', J.yld i H x H' → g x (wipe σ vs) H' fun σ2 H2 => wipe σ2 vs = wipe σ vs ∧ tt σ2 H2 fun b H3 =>
        if b = true then te σ2 H3 fun y H4 => ∃ acc, H4 D = some (.lst acc) ∧ acc.length < sizeLine ∧ Nx (upd H4 D (.lst (acc ++ [y]))) else Nx H3) := by
  refine ⟨fun i m H => m = n - i ∧ i ≤ n ∧ Pv i H, ⟨n, by simp, Nat.zero_le _, h0⟩, ?_⟩
  rintro i m H ⟨rfl, hi, p⟩
  have q := hG i H hi p
  by_cases hlt : i < n
  · exact .inr ⟨w.goes i H hlt q, Pv (i + 1), fun H' p' => ⟨n - (i + 1), by omega, rfl, hlt, p'⟩, fun x H' y => hs i x H H' hlt p (w.yields i H x H' hlt q y)⟩
  · have e : i = n := by omega
    subst e
    exact .inl ⟨w.stops H q, hd H p⟩
end Fa

namespace PySem
open Sem (wp)
section
variable {prog : Program} {w : World} {K : Type} [DecidableEq K] {knd : KeyKind prog w K} {A : Around} {E : Value → Shared → Prop} {s : Shared}
/-- one entry of a merge -/
theorem fa_dictPut {d : Addr} {kvs : List (K × Value)} {k : K} {key v : Value} {Q : Unit → Shared → Prop} (hkey : knd.is k key = true) (hm : s.heap.DictOf knd d kvs)
    (hQ : ∀ h', h'.DictOf knd d (stored kvs k v) → Heap.SameBut d s.heap h' → Q () { s with heap := h' }) (hsz : kvs.length ≤ sizeLine) :
    wpAny (model prog w) A (dictPut d (knd.hash k) key v) Q E s := by
  obtain ⟨o, es, ep, ho, hc, hd, hk, hp, hn⟩ := hm
  have hes : es.size ≤ sizeLine := by
    have e1 := hp.length
    have e2 : es.toList.length = es.size := by simp
    omega
  unfold dictPut
  refine wpAny_bind (wpAny_dictFind_of hkey ho hd hk ?_)
  have hidx : (es.findIdx? fun e => knd.is k e.key) = kvs.findIdx? fun kv => decide (kv.1 = k) := by
    rw [← hp.findIdx k]; obtain ⟨l⟩ := es; simp
  cases hi : es.findIdx? fun e => knd.is k e.key with
  | some i =>
    refine wpAny_updateDict ho hd (hQ _ ⟨_, _, ep, Heap.get?_update_self _ ho (Obj.isFreed_of_dict (Obj.data_mapDict hd _)), hc.mapDict _, Obj.data_mapDict hd _, hk.modify _ _, ?_, ?_⟩ (Heap.SameBut.update ..))
    · rw [stored, if_pos (any_of_findIdx_some (hidx ▸ hi))]
      have hl : (es.toList.findIdx? fun e => knd.is k e.key) = some i := by rw [← hi]; obtain ⟨l⟩ := es; simp
      have := hp.modify hn hl v
      obtain ⟨l⟩ := es
      simpa using this
    · rw [stored, if_pos (any_of_findIdx_some (hidx ▸ hi)), keys_map_store]; exact hn
  | none =>
    have hnot : k ∉ kvs.map (·.1) := not_mem_of_findIdx_none (hidx ▸ hi)
    have hany : ¬ (kvs.any fun kv => decide (kv.1 = k)) = true := by
      rw [List.any_eq_true]; rintro ⟨kv, hkv, he⟩
      exact hnot (List.mem_map.mpr ⟨kv, hkv, of_decide_eq_true he⟩)
    refine wpAny_updateDictKeys (hz := hes) ho hd (hQ _ ⟨_, _, ep + 1, Heap.get?_update_self _ ho (Obj.isFreed_of_dict (Obj.data_mapDictKeys hd _)), hc.mapDictKeys _, Obj.data_mapDictKeys hd _, hk.push hkey _, ?_, ?_⟩ (Heap.SameBut.update ..))
    · rw [stored, if_neg hany]
      have := hp.append hkey (knd.hash k) v
      obtain ⟨l⟩ := es
      simpa using this
    · rw [stored, if_neg hany, List.map_append, List.nodup_append]
      refine ⟨hn, by simp, ?_⟩
      intro a ha b hb
      simp only [List.map_cons, List.map_nil, List.mem_singleton] at hb
      subst hb
      exact fun e => hnot (e ▸ ha)
theorem fa_mergeLoop {d o : Addr} {kvs more : List (K × Value)} {oo : Obj} {eso : Array DictEntry} {epo : Nat} {Q : Unit → Shared → Prop} (hdo : d ≠ o) (hd : s.heap.DictOf knd d kvs) (hoo : s.heap.get? o = some oo) (hco : oo.ExactDict) (hdo' : oo.data = .dict eso epo)
    (hko : KeysOf knd eso) (hpo : Pairs knd eso.toList more) (hno : (more.map (·.1)).Nodup)
    (hQ : ∀ h', h'.DictOf knd d (merged kvs more) → h'.DictOf knd o more → Heap.SameBut d s.heap h' → Q () { s with heap := h' }) (hsz : kvs.length + more.length ≤ sizeLine) :
    wpAny (model prog w) A (do
      let size := (← dictEntries o).size
      let epoch ← dictEpoch o
      for i in List.range size do
        let some e := (← dictEntries o)[i]? | unsupported "dict.changed-during-merge"
        holding [e.key, e.val] do
          if false then
            if (← dictFind d e.key e.hash).isSome then rule "dict.merge.duplicate-key"; raiseNew (← newExc (.type "KeyError") [e.key])
          dictPut d e.hash e.key e.val
        if (← dictEpoch o) != epoch then unsupported "dict.changed-during-merge") Q E s := by
  have hlen : more.length = eso.size := by rw [← hpo.length]; simp
  refine wpAny_bind (wpAny_dictEntries hoo hdo' ?_)
  refine wpAny_bind (wpAny_dictEpoch hoo hdo' ?_)
  refine wpAny_bind ?_
  rw [List.range_eq_range']
  refine wpAny_forIn_list _ (fun rest _ s' => ∃ h' i, s' = { s with heap := h' } ∧ rest = List.range' i (eso.size - i) ∧ i ≤ eso.size ∧ h'.DictOf knd d (merged kvs (more.take i)) ∧ h'.get? o = some oo ∧ Heap.SameBut d s.heap h')
      _ ?_ ?_ _ _ ⟨s.heap, 0, rfl, by simp, Nat.zero_le _, by simpa [merged] using hd, hoo, Heap.SameBut.refl _ _⟩
  · rintro x rest b s' ⟨h', i, rfl, hr, hi, hd', hoo', hs'⟩
    have hlt : i < eso.size := by
      rcases Nat.lt_or_ge i eso.size with h | h
      · exact h
      · rw [Nat.sub_eq_zero_of_le h] at hr; simp at hr
    obtain ⟨rfl, hrest⟩ : x = i ∧ rest = List.range' (i + 1) (eso.size - (i + 1)) := by
      have e : eso.size - i = (eso.size - (i + 1)) + 1 := by omega
      rw [e, List.range'_succ] at hr
      injection hr with h1 h2
      exact ⟨h1, h2⟩
    refine wpAny_bind (wpAny_dictEntries hoo' hdo' ?_)
    rw [Array.getElem?_eq_getElem hlt]
    obtain ⟨kv, hkv⟩ : ∃ kv, more[x]? = some kv := ⟨more[x]'(by rw [hlen]; exact hlt), List.getElem?_eq_getElem _⟩
    obtain ⟨k, v⟩ := kv
    obtain ⟨hkey, hval⟩ := hpo.get? (e := eso[x]) (by simp [hlt]) hkv
    obtain ⟨k', hkey', hhash⟩ := hko eso[x] (Array.getElem_mem hlt)
    obtain rfl : k' = k := knd.inj _ _ _ hkey' hkey
    have hmx : (merged kvs (more.take x)).length ≤ sizeLine := by
      have e1 := merged_length_le kvs (more.take x)
      have e2 : (more.take x).length ≤ more.length := by rw [List.length_take]; omega
      omega
    show wpAny _ _ (holding [eso[x].key, eso[x].val] (dictPut d eso[x].hash eso[x].key eso[x].val) >>= _) _ _ _
    rw [hhash, hval]
    refine wpAny_bind (wpAny_holding (fa_dictPut (hsz := hmx) hkey hd' fun h'' hd'' hs'' => ?_))
    have hoo'' : h''.get? o = some oo := (hs''.2 o (Ne.symm hdo)).trans hoo'
    refine wpAny_bind (wpAny_dictEpoch hoo'' hdo' ?_)
    rw [if_neg (by simp)]
    exact wpAny_pure ⟨h'', x + 1, rfl, hrest, hlt, by rw [merged_take_succ kvs more x (k', v) hkv]; exact hd'', hoo'', hs'.trans hs''⟩
  · rintro b s' ⟨h', i, rfl, hr, hi, hd', hoo', hs'⟩
    have hin : i = eso.size := by
      rcases Nat.lt_or_ge i eso.size with h | h
      · have e : eso.size - i = (eso.size - (i + 1)) + 1 := by omega
        rw [e, List.range'_succ] at hr; exact nomatch hr
      · exact Nat.le_antisymm hi h
    refine wpAny_pure (hQ h' ?_ ⟨oo, eso, epo, hoo', hco, hdo', hko, hpo, hno⟩ hs')
    rw [hin, ← hlen, List.take_length] at hd'; exact hd'
/-- a dict poured into another -/
theorem fa_merge {d o : Addr} {kvs more : List (K × Value)} {Q : Unit → Shared → Prop} (hdo : d ≠ o) (hoS : (o == sysModules) = false) (hd : s.heap.DictOf knd d kvs) (ho : s.heap.DictOf knd o more)
    (hQ : ∀ h', h'.DictOf knd d (merged kvs more) → h'.DictOf knd o more → Heap.SameBut d s.heap h' → Q () { s with heap := h' }) (hsz : kvs.length + more.length ≤ sizeLine) :
    wpAny (model prog w) A (mergeMapping d (.ref o) false) Q E s := by
  obtain ⟨od, esd, epd, hod, hcd, hdd, hkd, hpd, hnd⟩ := id hd
  obtain ⟨oo, eso, epo, hoo, hco, hdo', hko, hpo, hno⟩ := id ho
  have hlen : more.length = eso.size := by rw [← hpo.length]; simp
  unfold mergeMapping
  refine wpAny_bind (wpAny_isInstance ho.typeIs isSubtype_dict_dict ?_)
  dsimp only
  simp only [if_true]
  refine wpAny_bind (wpAny_specialOf ho.typeIs F.slot_dict_iter.lookup (wpAny_bind (wpAny_pure ?_)))
  simp only [beq_self_eq_true]
  rw [if_neg (by rw [hoS]; exact Bool.false_ne_true)]
  refine wpAny_bind (wpAny_dictEntries hod hdd ?_)
  split
  refine wpAny_bind (wpAny_dictEntries hoo hdo' ?_)
  refine wpAny_bind (MeetsSeq2.wpAny_forIn_array _ (fun rest _ s' => s' = s ∧ ∀ e ∈ rest, e ∈ eso) _ ?_ (fun b s' hb => ?_) _ _ ⟨rfl, fun e he => by simpa using he⟩)
  · rintro e rest b s' ⟨rfl, hall⟩
    obtain ⟨k, hk, _⟩ := hko e (hall e (by simp))
    have hv := knd.byValue k e.key hk
    cases hkey : e.key with
    | ref a => rw [hkey] at hv; cases hv
    | _ => exact wpAny_pure ⟨rfl, fun e he => hall e (by simp [he])⟩
  · obtain ⟨e1, _⟩ := hb
    rw [e1]
    exact fa_mergeLoop hdo hd hoo hco hdo' hko hpo hno hQ hsz
  · exact fa_mergeLoop hdo hd hoo hco hdo' hko hpo hno hQ hsz
end
end PySem

namespace Fa
open PySem PySem.Spec L2
section
variable {X : Cx}
/-- {**e, k: v} -/
def tStarD (te tk tv : TE) : TE := fun σ H Q => ∀ p, H p = none → te σ (upd H p (.dK [])) fun x H1 => H1 p = some (.dK []) ∧ ∃ a kvs, x = .ref a ∧ H1 a = some (.dK kvs) ∧ a ≠ p ∧
  ∀ r, (upd H1 p (.dK (mergeK [] kvs))) r = none → tk σ (upd (upd H1 p (.dK (mergeK [] kvs))) r (.dK [])) fun ky H2 => tv σ H2 fun y H3 => ∃ k', ky = kV k' ∧ H3 p = some (.dK (mergeK [] kvs)) ∧ H3 r = some (.dK []) ∧ (mergeK [] kvs).length < sizeLine ∧
    Q (.ref p) (upd (upd H3 r (.dK [(k', y)])) p (.dK (putK (mergeK [] kvs) k' y)))
theorem pe_starDict {pos : Pos} {e k v : Expr} {te tk tv : TE} (he : PE X e te) (hk : PE X k tk) (hv : PE X v tv) : PE X (.Dict [none, some k] [e, v] pos) (tStarD te tk tv) := by
  refine ⟨fun pins s σ H Q I q => ?_⟩
  rw [arm_eval_Dict]
  refine wpAny_bind (wpAny_standAt ?_)
  show wpAny _ _ (dictDisplay [(none, do let x ← eval e X.env; standAt pos; pure x), (some (eval k X.env), do let x ← eval v X.env; standAt pos; pure x)]) _ _ _
  unfold dictDisplay
  simp only [List.forIn_cons, List.forIn_nil, List.isEmpty_nil, if_true, pure_bind]
  have hn := I.hok.fresh (Nat.le_refl s.heap.objs.size)
  have I1 := I.laid (a := s.heap.objs.size) (o := .dK []) (h' := s.heap.push { cls := .type "dict", data := .dict #[] }) (t' := s.toks) (fun _ _ q => Heap.get?_push_of_some _ q) (Nat.le_refl _) (dk_empty s.heap I.big)
  replace q := q _ hn
  refine wpAny_bind (wpAny_bind (wpAny_bind (wpAny_alloc ?_)))
  refine wpAny_bind (wpAny_holding (wpAny_bind (thn (he.run pins _ σ _ _ I1 q) fun u s2 ⟨x, H1, I2, rx, e0, a, kvs, ex, ea, nap, q2⟩ => wpAny_bind (wpAny_standAt (wpAny_pure ?_)))))
  subst ex
  obtain rfl : u = Value.ref a := rx
  obtain ⟨za, hda, va, ra, da⟩ := dk_of I2.hok ea
  obtain ⟨_, hdp, vp, rp, dp⟩ := dk_of I2.hok e0
  cases rp
  have hz1 : (mergeK [] kvs).length ≤ sizeLine := by
    have h1 := length_mergeK kvs []
    rw [List.length_nil] at h1
    omega
  have hla := ra.length
  refine wpAny_bind (wpAny_onRaise (wpAny_tryCatch (wpAny_onRaise (wpAny_holding (fa_merge (Ne.symm nap) hda dp da (fun h1 d1 d2 hs1 => ?_) (by rw [List.length_nil]; omega))))))
  have he1 : ∃ q, h1.get? s.heap.objs.size = some q := let ⟨q, _, _, hq, _⟩ := d1; ⟨q, hq⟩
  have I3 := d_write (t' := s2.toks) I2 (by rw [e0]; exact True.intro) hs1 he1 (dk_new hz1 hdp (ra.merge .nil) d1)
  refine wpAny_pure ?_
  show wpAny _ _ _ _ _ _
  refine wpAny_bind ?_
  rw [if_neg (by simp)]
  refine wpAny_pure (wpAny_pure ?_)
  refine wpAny_bind ?_
  rw [if_neg (by simp)]
  have hn2 := I3.hok.fresh (Nat.le_refl h1.objs.size)
  replace q2 := q2 _ hn2
  have I4 := I3.laid (a := h1.objs.size) (o := .dK []) (h' := h1.push { cls := .type "dict", data := .dict #[] }) (t' := s2.toks) (fun _ _ q => Heap.get?_push_of_some _ q) (Nat.le_refl _) (dk_empty h1 I3.big)
  have PP : PPs X pos [some k] [v] [(tk, tv)] := pps_cons hk hv pps_nil
  refine wpAny_bind (wpAny_holding (wpAny_subDict (knd := mixKind X.prog X.w) (by simp) ?_))
  show wpAny _ _ (evalPairs (pairTrees [some k] [v] X.env pos)) _ _ _
  refine thn (PP.run pins _ σ _ (fun ps H3 => match ps with
    | [(ky, y)] => ∃ k', ky = kV k' ∧ H3 s.heap.objs.size = some (.dK (mergeK [] kvs)) ∧ H3 h1.objs.size = some (.dK []) ∧ (mergeK [] kvs).length < sizeLine ∧ Q (.ref s.heap.objs.size) (upd (upd H3 h1.objs.size (.dK [(k', y)])) s.heap.objs.size (.dK (putK (mergeK [] kvs) k' y)))
    | _ => False) I4 q2) fun ws s5 ⟨ps, H3, I5, rel, q3⟩ => ?_
  cases rel with
  | nil => exact False.elim q3
  | @cons a1 b1 as bs h t =>
    cases t with
    | cons _ _ => exact False.elim q3
    | nil =>
      obtain ⟨ky, y⟩ := a1
      obtain ⟨k', rfl, ep, er, hlt, q4⟩ := q3
      obtain ⟨_, hdr, vr, rr, dr⟩ := dk_of I5.hok er
      cases rr
      obtain ⟨b1k, b1v⟩ := b1
      refine ⟨[(k', b1v)], ⟨kV_is h.1, rfl, True.intro⟩, dr, fun h2 d3 hs2 => ?_⟩
      have he2 : ∃ q, h2.get? h1.objs.size = some q := let ⟨q, _, _, hq, _⟩ := d3; ⟨q, hq⟩
      have kv1 : KV [(k', y)] (merged [] [(k', b1v)]) := .cons ⟨rfl, h.2⟩ .nil
      have I6 := d_write (t' := s5.toks + 1) I5 (by rw [er]; exact True.intro) hs2 he2 (dk_new (kvs := [(k', y)]) (by show 1 ≤ sizeLine; decide) hdr kv1 d3)
      have npr : s.heap.objs.size ≠ h1.objs.size := fun z => by
        have := (hn2 : _ = none)
        rw [← z, upd_same] at this
        cases this
      have ep6 : upd H3 h1.objs.size (.dK [(k', y)]) s.heap.objs.size = some (.dK (mergeK [] kvs)) := by rw [upd_ne npr]; exact ep
      obtain ⟨_, hdp6, vp6, rp6, dp6⟩ := dk_of I6.hok ep6
      obtain ⟨_, _, vr6, rr6, dr6⟩ := dk_of I6.hok (show upd H3 h1.objs.size (.dK [(k', y)]) h1.objs.size = some (.dK [(k', y)]) from upd_same)
      have hl6 := rp6.length
      have hr6 := rr6.length
      refine wpAny_bind (wpAny_onRaise (wpAny_holding (fa_merge npr hdr dp6 dr6 (fun h3 d5 d6 hs3 => ?_) (by rw [← hl6, ← hr6]; show _ + 1 ≤ _; omega))))
      have he3 : ∃ q, h3.get? s.heap.objs.size = some q := let ⟨q, _, _, hq, _⟩ := d5; ⟨q, hq⟩
      refine wpAny_pure (wpAny_pure ?_)
      have hz9 : (putK (mergeK [] kvs) k' y).length ≤ sizeLine := by have := length_putK (mergeK [] kvs) k' y; omega
      exact ⟨.ref s.heap.objs.size, _, d_write (t' := s5.toks + 1) I6 (by rw [ep6]; exact True.intro) hs3 he3 (dk_new hz9 hdp6 (rr6.merge rp6) d5), rfl, q4⟩
end
end Fa

namespace Fa
open PySem PySem.Spec PyProof.Rows L2 LamX
/-! ### sorted(d, key=lambda x: self.f[x]) of a dict's keys that stand in order -/
section
variable {prog : Program} {w : World} {A : Around} {E : Value → Shared → Prop} {s : Shared}
/-- sorted(d, key=f), d a dict: f's calls keep the heap -/
theorem sortedD_key {d f : Addr} {kvs : List (Key × Value)} {ep : Nat} {Q : Value → Shared → Prop} {kz : List PyData} (lo : (d == sysModules) = false) (hh : A.in1.handled = none) (hat : s.heap.DictAt (mixKind prog w) d kvs ep) (hz : kvs.length ≤ sizeLine)
    (hlen : kz.length = kvs.length) (hal : PySem.W.AllAlike kz) (hsk : PySem.W.Sortable kz) (hu : ∀ x, x ∈ kz → A.units + 2 + x.depth < cLine)
    (turn : ∀ (i : Nat) (v : Value) (k : PyData) (kv : Key × Value), kvs[i]? = some kv → (mixKind prog w).is kv.1 v = true → kz[i]? = some k → ∀ (h : Heap) (tk : Nat), (∀ b o, s.heap.get? b = some o → h.get? b = some o) →
      wpAny (model prog w) A.in1.in1 (call (.ref f) [v]) (PySem.W.KeyPure k { s with heap := h, toks := tk }) (fun _ _ => False) { s with heap := h, toks := tk })
    (h : ∀ (out vs : List Value) (c : Nat) (h1 h' : Heap) (tk : Nat), (∀ b o, s.heap.get? b = some o → h1.get? b = some o) → (∀ b o, h1.get? b = some o → h'.get? b = some o) → h'.get? h1.objs.size = some (seqObj "list" (List.toArray out) c) → vs.length = kvs.length → (∀ (j : Nat) (v : Value), vs[j]? = some v → ∃ k x, kvs[j]? = some (k, x) ∧ (mixKind prog w).is k v = true) →
      PySem.W.KeyedOut false kz vs out → Q (.ref h1.objs.size) { s with heap := h', toks := tk }) :
    wpAny (model prog w) A (call (.builtin "sorted") [.ref d] [(Str.ofString "key", .ref f)]) Q E s := by
  refine PyProof.Rows.call_function_entry_kw PyProof.Rows.kind_sorted PyProof.Rows.plain_sorted PyProof.Rows.entry_sorted (PyProof.Rows.ksk_s1 _ _) ?_
  unfold Builtin.«sorted»
  refine wpAny_bind (m := checkCount "sorted" 1 1 _) (wpAny_pure ?_)
  refine wpAny_bind (PySem.W.kdu_collect (A := A.in1) (PySem.W.kdl_dict (knd := mixKind prog w) (kvs := kvs) (ep := ep) lo) hh hat hz fun h' tk acc hk hacc => ?_)
  have hal2 : acc.toList.length = kvs.length := by rw [Array.length_toList, hacc.1]
  refine wpAny_bind (wpAny_newList ?_ (by rw [hal2]; exact hz))
  have hoL : (h'.push (seqObj "list" acc.toList.toArray 0)).get? h'.objs.size = some (seqObj "list" acc.toList.toArray 0) := Heap.get?_push_size _ rfl
  have up1 : ∀ {g : Heap}, PySem.W.KeepsBut h'.objs.size (h'.push (seqObj "list" acc.toList.toArray 0)) g → ∀ b o, h'.get? b = some o → g.get? b = some o := fun {g} kp b o e =>
    kp b o (Nat.ne_of_lt (Heap.lt_size e)) (Heap.get?_push_of_some _ e)
  have up : ∀ {g : Heap}, PySem.W.KeepsBut h'.objs.size (h'.push (seqObj "list" acc.toList.toArray 0)) g → ∀ b o, s.heap.get? b = some o → g.get? b = some o := fun {g} kp b o e =>
    kp b o (Nat.ne_of_lt (Heap.lt_size (hk b o e))) (Heap.get?_push_of_some _ (hk b o e))
  show wpAny _ _ _ _ _ { s with heap := h'.push (seqObj "list" acc.toList.toArray 0), toks := tk }
  refine wpAny_bind (wpAny_holding (wpAny_call_entry_kw PyProof.Rows.slot_list_sort ⟨_, hoL, rfl⟩ PyProof.Rows.entry_list_sort ?body (PyProof.Rows.ksk_l1 _ _)))
  case body =>
    show wpAny (model prog w) A.in1.in1 (Builtin.«list.sort» ⟨[.ref h'.objs.size], [(Str.ofString "key", .ref f)]⟩) _ _ _
    rw [PyProof.Rows.ksk_t1]
    refine PySem.W.keyH_tree (kz := kz) (s := { s with heap := h'.push (seqObj "list" acc.toList.toArray 0), toks := tk }) hoL (by rw [hal2]; exact hlen) (by rw [hal2]; exact hz) hal hsk hu (fun i v k hv hkz h2 tk2 kp => ?_) fun h2 tk2 out c kp hD ko => ?_
    · obtain ⟨ky, x, e1, e2⟩ := hacc.2 i v (by rw [← Array.getElem?_toList]; exact hv)
      exact turn i v k (ky, x) e1 e2 hkz h2 tk2 (up kp)
    · exact ⟨_, rfl, wpAny_pure ⟨_, rfl, h out acc.toList c h' h2 tk2 hk (up1 kp) hD hal2 (fun j v e => hacc.2 j v (by rw [← Array.getElem?_toList]; exact e)) ko⟩⟩
end
theorem each_of {β : Type} {R : Value → β → Prop} : ∀ {vs : List Value} {bs : List β}, vs.length = bs.length → (∀ (j : Nat) (v : Value) (b : β), vs[j]? = some v → bs[j]? = some b → R v b) → PySem.W.EachIs R vs bs
  | [], [], _, _ => .nil
  | v :: vs, b :: bs, hl, h => .cons (h 0 v b rfl rfl) (each_of (by simpa using hl) fun j v b e1 e2 => h (j + 1) v b (by simpa using e1) (by simpa using e2))
  | [], _ :: _, hl, _ => by simp at hl
  | _ :: _, [], hl, _ => by simp at hl
theorem each_vals : ∀ {out : List Value} {bs : List (Str × Int)}, PySem.W.EachIs (fun (v : Value) (b : Str × Int) => ∃ t, v = .str b.1 t) out bs → Vals (bs.map fun b => V.str b.1) out
  | _, _, .nil => .nil
  | _, _, .cons h t => .cons h (each_vals t)
/-- a lambda's names: one parameter, one captured name -/
structure Lam1 (sc scope : Scope) (a sf : Str) : Prop where
  kind : scope.kind = .function
  co : scope.isCoroutine = false
  gen : scope.isGenerator = false
  par : scope.names.lookup a = some .local
  nocell : ∀ y ∈ scope.names, y.2 ≠ .cell
  cap : scope.names.lookup sf = some .free
  free : ∀ y ∈ scope.names, y.2 = .free → sc.names.lookup y.1 = some .cell ∨ sc.names.lookup y.1 = some .free
def lam1B (sc scope : Scope) (a sf : Str) : Bool :=
  decide (scope.kind = .function) && !scope.isCoroutine && !scope.isGenerator && decide (scope.names.lookup a = some .local) && scope.names.all (fun y => !decide (y.2 = .cell)) && decide (scope.names.lookup sf = some .free) && scope.names.all (fun y => !decide (y.2 = .free) || decide (sc.names.lookup y.1 = some .cell) || decide (sc.names.lookup y.1 = some .free))
theorem lam1_by {sc scope : Scope} {a sf : Str} (h : lam1B sc scope a sf = true) : Lam1 sc scope a sf := by
  unfold lam1B at h
  simp only [Bool.and_eq_true, Bool.or_eq_true, Bool.not_eq_true', decide_eq_true_eq, decide_eq_false_iff_not, List.all_eq_true] at h
  obtain ⟨⟨⟨⟨⟨⟨h1, h2⟩, h3⟩, h4⟩, h5⟩, h6⟩, h7⟩ := h
  refine ⟨h1, h2, h3, h4, h5, h6, fun y hy e => ?_⟩
  rcases h7 y hy with (z | z) | z
  · exact absurd e z
  · exact .inl z
  · exact .inr z
def tSortLam (K : PySem.W.Frag) (T : List (Addr × Str)) (i : Nat) (fld : Str) (td : TE) : TE := fun σ H Q => td σ H fun x H1 => Tabs T H1 ∧ ∃ (d ga nd C dx : Addr) (fs : List (Str × V)) (kvs nks : List (Key × V)) (ns : List Int) (ks : List Str),
  x = .ref d ∧ H1 d = some (.dK kvs) ∧ kvs.map (·.1) = ks.map Sum.inr ∧ σ[i]? = some (some (.ref ga)) ∧ H1 ga = some (.ins C dx fs) ∧ Cls K C ∧ NoAttr K C fld ∧ fs.lookup fld = some (.ref nd) ∧ H1 nd = some (.dK nks) ∧
  ks.length = ns.length ∧ (∀ (j : Nat) (k : Str) (n : Int), ks[j]? = some k → ns[j]? = some n → valV nks (Sum.inr k) = some (.int n)) ∧ ns.Pairwise (· ≤ ·) ∧ ks.Nodup ∧ ks.length ≤ 1000 ∧
  ∀ R H2, ExtN H1 H2 → Tabs T H2 → H2 R = none → Q (.ref R) (upd H2 R (.lst (ks.map V.str)))
section
variable {X : Cx}
theorem pe_sortLam {T : List (Addr × Str)} {c P : Addr} {i k : Nat} {e : Expr} {td : TE} {params : Arguments} {scope : Scope} {a sf fld : Str} {p1 p2 p3 p4 p5 lpos kpos pos : Pos} (he : PE X e td) (hgS : Gl X "sorted") (hmS : X.mg "sorted" = none)
    (TB : TabB X.base X.mg c P) (hcode : X.env.code = .ref c) (hmT : (P, X.env.qual ++ "<lambda>") ∈ T) (hu : ∀ p ∈ T, p.1 = P → p.2 = X.env.qual ++ "<lambda>") (hr : Room (k + 2) X.A) (hcalm : X.calm = true) (L : Lam1 X.env.scope scope a sf) (hdef : defaultsOf params X.env = ([], []))
    (hbind : ∀ (q : Str) (cl : List (Str × Addr)) (pm cv ctv v : Value), bindArgs (PySem.W.kla_fn "<lambda>" q params (.Subscript (.Attribute (.Name sf p1) fld p2) (.Name a p3) p4) scope cl pm cv ctv) ⟨[v], []⟩ = pure [(a, v)])
    (hN : X.N[i]? = some sf) (hv' : Vis X.env.scope sf)
    (hb : ∀ env : Env, attributeBase (.Name sf p1) fld env (eval (.Name sf p1) env) = eval (.Name sf p1) env)
    (hst : starEach [e] X.env = (false, eval e X.env) :: starEach [] X.env := by rfl) (hbt : backTo pos (starEach [e] X.env) = (false, eval e X.env) :: backTo pos (starEach [] X.env) := by rfl) (hpl : (backTo pos (starEach [e] X.env)).any (·.1) = false := by rfl)
    (hda : (a == ("__debug__" : Str)) = false := by decide) (hds : (sf == ("__debug__" : Str)) = false := by decide) (hcs : (sf == ("__classdict__" : Str)) = false := by decide) :
    PE X (.Call (.Name "sorted" p5) [e] [⟨some "key", .Lambda params (.Subscript (.Attribute (.Name sf p1) fld p2) (.Name a p3) p4) scope lpos, kpos⟩] pos) (tSortLam X.K T i fld td) := by
  refine ⟨fun pins s σ H Q I h => ?_⟩
  refine wpAny_Call_Name_kw (ld_blt I hgS hmS (u := .builtin "sorted") rfl ?_ (by decide) (by decide))
  refine PyProof.Rows.callWith_kw (thn ((pa_cons he pa_nil hst).run pos pins s σ H (fun vs H1 => match vs with
    | [x] => Tabs T H1 ∧ ∃ (d ga nd C dx : Addr) (fs : List (Str × V)) (kvs nks : List (Key × V)) (ns : List Int) (ks : List Str),
      x = .ref d ∧ H1 d = some (.dK kvs) ∧ kvs.map (·.1) = ks.map Sum.inr ∧ σ[i]? = some (some (.ref ga)) ∧ H1 ga = some (.ins C dx fs) ∧ Cls X.K C ∧ NoAttr X.K C fld ∧ fs.lookup fld = some (.ref nd) ∧ H1 nd = some (.dK nks) ∧
      ks.length = ns.length ∧ (∀ (j : Nat) (k : Str) (n : Int), ks[j]? = some k → ns[j]? = some n → valV nks (Sum.inr k) = some (.int n)) ∧ ns.Pairwise (· ≤ ·) ∧ ks.Nodup ∧ ks.length ≤ 1000 ∧
      ∀ R H2, ExtN H1 H2 → Tabs T H2 → H2 R = none → Q (.ref R) (upd H2 R (.lst (ks.map V.str)))
    | _ => False) I h) fun us s1 ⟨vs, H1, I1, r1, q1⟩ => ?_) hbt hpl rfl rfl
  cases r1 with
  | nil => exact False.elim q1
  | @cons x u xs us' rx rr =>
    cases rr with
    | cons _ _ => exact False.elim q1
    | nil =>
      obtain ⟨hT, d, ga, nd, C, dx, fs, kvs, nks, ns, ks, rfl, ed, hks, hσ, ega, hC, hNA, hlf, end_, hln, hval, hord, hndk, hfew, q⟩ := q1
      obtain rfl : u = Value.ref d := rx
      have hfree : ∀ y ∈ scope.names, y.2 = .free → ∃ c, X.env.cells.lookup y.1 = some c := fun y hy e => by
        rcases L.free y hy e with k | k
        · exact I1.ok.has _ (.inl k)
        · exact I1.ok.has _ (.inr k)
      show wpAny _ _ (evalAll [do let v ← eval (.Lambda params (.Subscript (.Attribute (.Name sf p1) fld p2) (.Name a p3) p4) scope lpos) X.env; standAt pos; pure v]) _ _ _
      refine wpAny_evalAll_cons (wpAny_bind (lam_make2 I1 TB hcode hmT hu hT hdef hfree fun f c' pm ctv H2 s2 I2 eN T2 hf hfn hfr hco => wpAny_bind (wpAny_standAt (wpAny_pure (wpAny_evalAll_nil ?_)))))
      show wpAny _ _ (call (.builtin "sorted") [.ref d] [(Str.ofString "key", .ref f)]) _ _ _
      have ed2 := eN _ _ ed (fun ps z => by cases z)
      have eg2 := eN _ _ ega (fun ps z => by cases z)
      have en2 := eN _ _ end_ (fun ps z => by cases z)
      obtain ⟨zd, lo, vsd, reld, dd⟩ := dk_of I2.hok ed2
      obtain ⟨ep, hat⟩ := dd.dictAt
      have hkeys : vsd.map (·.1) = ks.map Sum.inr := reld.keys.symm.trans hks
      have hlv : vsd.length = ks.length := by
        have := congrArg List.length hkeys
        rwa [List.length_map, List.length_map] at this
      refine sortedD_key (kz := (ks.zip ns).map fun b => PyData.int b.2) lo (hr.in1).hd hat (by rw [hlv]; exact Nat.le_trans hfew (by decide)) (by rw [List.length_map, List.length_zip, hlv, hln, Nat.min_self]) (PySem.W.AllAlike.of fun _ _ => by simp [PySem.W.alike]) (PySem.W.Sortable.others fun _ => ⟨(fun z => by cases z), fun xs z => by cases z⟩) (fun x hx => ?_) (fun j v k kv hkv hv hkz h tk hk => ?_) fun out vs c h1 h' tk k1 k2 hL hvl hvs ko => ?_
      · obtain ⟨b, _, rfl⟩ := List.mem_map.mp hx
        have := hr.un
        simp [PyData.depth]
        omega
      · -- one call of the lambda
        have hj : j < ks.length := by
          have := (List.getElem?_eq_some_iff.mp hkv).1
          omega
        have e1 : (vsd.map (·.1))[j]? = some kv.1 := by rw [List.getElem?_map, hkv]; rfl
        rw [hkeys, List.getElem?_map, List.getElem?_eq_getElem hj] at e1
        have e1 : Sum.inr ks[j] = kv.1 := Option.some.inj e1
        have hjn : j < ns.length := by omega
        have e2 : k = .int ns[j] := by
          rw [List.getElem?_map, List.getElem?_eq_getElem (by rw [List.length_zip]; omega), List.getElem_zip] at hkz
          exact (Option.some.inj hkz).symm
        subst e2
        have hvv := hval j ks[j] ns[j] (List.getElem?_eq_getElem hj) (List.getElem?_eq_getElem hjn)
        have I3 : Inv X pins σ H2 { s2 with heap := h, toks := tk } := I2.kept hk
        rw [← e1] at hv
        refine wpAny_call (codeAny_mono (R := fun r s' => ∃ u, r = .ok (.ret u) ∧ PySem.W.KeyPure (.int ns[j]) { s2 with heap := h, toks := tk } u s') ?_ fun r s' hq => ?_)
        · have hof : h.get? f = some (PySem.W.kla_obj "<lambda>" (X.env.qual ++ "<lambda>") params (.Subscript (.Attribute (.Name sf p1) fld p2) (.Name a p3) p4) scope (cloFrom X.env.cells scope.names []) pm c' ctv) := hk _ _ hf
          obtain ⟨⟨oc, vs2, t, hoc, hdc, hvc⟩, _, _⟩ := I3.hok c' _ hco
          refine PySem.W.kla_callFunE (A := X.A.in1.in1) hr.depth hof rfl L.co L.gen rfl ⟨c', oc, vs2, t, rfl, hoc, hdc, hvc⟩ ?_
          rw [hbind]
          refine wpAny_pure (wpAny_newFunctionEnv L.nocell (fun y hy => by rw [List.mem_singleton.mp hy]; exact L.par) (fun h₁ hns hsb => ⟨I3.nolimit.fresh _ hsb, ?_⟩) L.kind)
          have kp : ∀ b o, h.get? b = some o → h₁.get? b = some o := fun b o e => hsb.extBut b o (Nat.ne_of_lt (Heap.lt_size e)) (Heap.get?_push_of_some _ e)
          have I4 : Inv X pins σ H2 { s2 with heap := h₁, toks := tk + [(a, v)].length } := I3.kept kp
          show codeAny _ _ (.expr (.Subscript (.Attribute (.Name sf p1) fld p2) (.Name a p3) p4) (lamEnv X scope h.objs.size f c')) _ _
          refine PySem.W.kla_codeExpr ?_
          -- self
          obtain ⟨m, hn, hl⟩ := I4.loc
          obtain ⟨ug, rg, lg⟩ := hl i sf (.ref ga) hN hσ hv'
          obtain rfl : ug = Value.ref ga := rg
          have hmem : (sf, NameKind.free) ∈ scope.names := PySem.mem_of_lookup L.cap
          obtain ⟨c0, hc0, hcell⟩ : ∃ c0, (cloFrom X.env.cells scope.names []).lookup sf = some c0 ∧ h₁.IsCell c0 (some (.ref ga)) := by
            rcases lg with ⟨z, _⟩ | ⟨_, c0, hc0, hcell⟩
            · have z' : X.env.scope.names.lookup sf = some .local := z
              rcases L.free _ hmem rfl with k | k <;> rw [show X.env.scope.names.lookup sf = _ from k] at z' <;> cases z'
            · exact ⟨c0, NdefX.clo_has hfree hmem hc0, hcell⟩
          obtain ⟨mA, O, r, _, _, _⟩ := ins_get I4.hok eg2
          obtain ⟨un, hun, run⟩ := RelO.some_of (v := .ref nd) (o := mA fld) (by rw [← hlf]; exact r fld)
          obtain rfl : un = Value.ref nd := run
          obtain ⟨zn, lon, vsn, reln, ddn⟩ := dk_of I4.hok en2
          obtain ⟨wn, hwn, rwn⟩ := RelO.some_of (v := .int ns[j]) (o := valueAt vsn (Sum.inr ks[j])) (by rw [← hvv]; exact reln.val _)
          obtain ⟨tn, rfl⟩ := rwn
          refine subD_of PySem.F.slot_dict_getitem.lookup (fun _ _ => rfl) (attr_of (hb _) (wpAny_Name (wpAny_loadName_free L.kind L.cap hc0 hcell ?_ hcs) hds))
          refine get_map I4.kIn O (hC.get fld) hC.hd hNA hun (handed_of (v := V.ref nd) rfl) ?_
          refine wpAny_Name (wpAny_loadName_local (v := v) L.kind L.par hns (by simp) ?_) hda
          refine ⟨ddn.typeIs, wpAny_getItem_of hv ddn.mapOf hwn ⟨_, rfl, h₁, _, rfl, kp, .int _ _⟩⟩
        · obtain ⟨u, rfl, hq⟩ := hq
          exact hq
      · -- the result
        have hR : PySem.W.EachIs (fun (v : Value) (b : Str × Int) => ∃ t, v = .str b.1 t) vs (ks.zip ns) := by
          refine each_of (by rw [hvl, hlv, List.length_zip]; omega) fun j v b e1 e2 => ?_
          obtain ⟨ky, x, e3, e4⟩ := hvs j v e1
          obtain ⟨e5, e6⟩ := List.getElem?_zip_eq_some.mp e2
          have e7 : (vsd.map (·.1))[j]? = some ky := by rw [List.getElem?_map, e3]; rfl
          rw [hkeys, List.getElem?_map, e5] at e7
          have e8 : Sum.inr b.1 = ky := Option.some.inj e7
          rw [← e8] at e4
          exact Value.isStrOf_shape (x := b.1) (v := v) e4
        have ho := PySem.W.keyedOut_each (fun b : Str × Int => PyData.int b.2) ko hR
        rw [PySem.W.dataLe_int, List.mergeSort_of_pairwise (by
          have z1 : (ks.zip ns).map Prod.snd = ns := List.map_snd_zip (by omega)
          rw [← z1, List.pairwise_map] at hord
          exact hord.imp fun h => decide_eq_true h)] at ho
        have hvals : Vals (ks.map V.str) out := by
          have z1 : (ks.zip ns).map Prod.fst = ks := List.map_fst_zip (by omega)
          have := each_vals ho
          rw [← z1, List.map_map]
          exact this
        have I3 : Inv X pins σ H2 { s2 with heap := h1, toks := tk } := I2.kept k1
        refine ⟨.ref h1.objs.size, upd H2 h1.objs.size (.lst (ks.map V.str)), I3.laid (t' := tk) k2 (Nat.le_refl _) ⟨by rw [List.length_map]; exact Nat.le_trans hfew (by decide), out, c, hvals, hL⟩, rfl, q _ _ eN T2 (I3.hok.fresh (Nat.le_refl _))⟩
end
end Fa

namespace Fa
open PySem PySem.Spec PyProof.Rows L2
/-! ### sorted(l, key=o.m) of a list of one item -/
def tSort1 (C : Addr) (m : Str) (g : Addr) (sp : Sp) (te to : TE) : TE := fun σ H Q => te σ H fun x H1 => to σ H1 fun y H2 => ∃ (l a dx : Addr) (v : V) (fs : List (Str × V)), x = .ref l ∧ H2 l = some (.lst [v]) ∧ y = .ref a ∧ H2 a = some (.ins C dx fs) ∧ fs.lookup m = none ∧
  (∀ H3, Same H2 H3 → sp [.ref a, v] H3 (fun _ H4 => Same H3 H4) E0) ∧ ∀ R H3, H2 R = none → Same H2 H3 → H3 R = some (.lst [v]) → Q (.ref R) H3
section
variable {X : Cx}
/-- list.sort with a key, of one item: the call keeps what is tracked -/
theorem sort1_tree {prog : Program} {w : World} {A : Around} {E : Value → Shared → Prop} {s : Shared} {a : Addr} {f u : Value} {n : Nat} {P : PySem.Fin → Shared → Prop} (ho : s.heap.get? a = some (seqObj "list" #[u] n))
    (turn : ∀ (e1 : Nat) (h2 h3 : Heap), (∀ b o, b ≠ a → s.heap.get? b = some o → h2.get? b = some o) → h2.get? a = some (seqObj "list" #[] e1) → (∀ b o, h2.get? b = some o → h3.get? b = some o) → h3.get? h2.objs.size = some (seqObj "list" #[] 0) → s.heap.objs.size ≤ h2.objs.size →
      wpAny (model prog w) A (call f [u]) (fun k s' => s'.heap.get? a = some (seqObj "list" #[] e1) ∧ s'.heap.get? h2.objs.size = some (seqObj "list" #[] 0) ∧
        ∀ (hm h' : Heap) tk c c', (∀ b o, b ≠ h2.objs.size → s'.heap.get? b = some o → hm.get? b = some o) → hm.get? h2.objs.size = some (seqObj "list" #[] c') → (∀ b o, b ≠ a → hm.get? b = some o → h'.get? b = some o) → h'.get? a = some (seqObj "list" #[u] c) → P (.done (.ret .none)) { s' with heap := h', toks := tk }) (fun _ _ => False) { s with heap := h3 }) :
    wpAny (model prog w) A (ksk_tree a f false) P E s := by
  have ha : a < s.heap.objs.size := Heap.lt_size ho
  obtain ⟨e1, ho1⟩ : ∃ e1, (s.heap.update a (Obj.mapSeq fun _ => (#[] : Array Value))).get? a = some (seqObj "list" #[] e1) := ⟨_, get?_update_seq ho fun _ => #[]⟩
  unfold ksk_tree
  refine wpAny_bind (listItems_at ho rfl ?_)
  refine wpAny_bind (listUpdate_at ho rfl ?_ (by show 1 ≤ sizeLine; decide) (Nat.zero_le _))
  refine wpAny_bind (seqEpoch_at ho1 rfl ?_)
  refine wpAny_bind (wpAny_newTuple ?_ (by show 1 ≤ _; decide))
  refine wpAny_bind (wpAny_newList ?_ (Nat.zero_le _))
  refine wpAny_holding ?_
  have s1 := Heap.SameBut.update s.heap a (Obj.mapSeq fun _ => (#[] : Array Value))
  have sz2 : ((s.heap.update a (Obj.mapSeq fun _ => (#[] : Array Value))).push (seqObj "tuple" #[u] 0)).objs.size = s.heap.objs.size + 1 := by rw [size_push', Heap.size_update]
  have t := turn e1 ((s.heap.update a (Obj.mapSeq fun _ => (#[] : Array Value))).push (seqObj "tuple" #[u] 0)) (((s.heap.update a (Obj.mapSeq fun _ => (#[] : Array Value))).push (seqObj "tuple" #[u] 0)).push (seqObj "list" #[] 0))
    (fun b o hb e => Heap.get?_push_of_some _ ((s1.2 b hb).trans e)) (Heap.get?_push_of_some _ ho1) (fun b o e => Heap.get?_push_of_some _ e) (Heap.get?_push_size _ rfl) (by rw [sz2]; exact Nat.le_succ _)
  have hka : ((s.heap.update a (Obj.mapSeq fun _ => (#[] : Array Value))).push (seqObj "tuple" #[u] 0)).objs.size ≠ a := by rw [sz2]; exact Nat.ne_of_gt (Nat.lt_succ_of_lt ha)
  generalize hkS : ((s.heap.update a (Obj.mapSeq fun _ => (#[] : Array Value))).push (seqObj "tuple" #[u] 0)).objs.size = kS at t hka
  show wpAny (model prog w) A (ksk_rest a f false #[u] e1 (.ref kS)) P E { s with heap := ((s.heap.update a (Obj.mapSeq fun _ => (#[] : Array Value))).push (seqObj "tuple" #[u] 0)).push (seqObj "list" #[] 0) }
  unfold ksk_rest
  refine wpAny_bind (wpAny_rule ?_)
  rw [← Array.forIn_toList]
  simp only [List.forIn_cons, List.forIn_nil]
  refine wpAny_bind (wpAny_bind (wpAny_bind (wpAny_attempt (wpAny_mono t (fun k s' hk => ?_) fun _ _ z => z.elim))))
  obtain ⟨na, nk, hq⟩ := hk
  try dsimp only
  obtain ⟨c2, hc2⟩ : ∃ c2, (s'.heap.update kS (Obj.mapSeq (·.push k))).get? kS = some (seqObj "list" (#[].push k) c2) := ⟨_, get?_update_seq nk (·.push k)⟩
  have u1 := Heap.SameBut.update s'.heap kS (Obj.mapSeq (·.push k))
  refine wpAny_bind (listUpdate_at nk rfl (wpAny_pure (wpAny_pure ?_)) (Nat.zero_le _) (by show 1 ≤ _; decide))
  refine wpAny_bind (listItems_at hc2 rfl ?_)
  have na2 : (s'.heap.update kS (Obj.mapSeq (·.push k))).get? a = some (seqObj "list" #[] e1) := (u1.2 a hka.symm).trans na
  have u2 := Heap.SameBut.update (s'.heap.update kS (Obj.mapSeq (·.push k))) kS (Obj.mapSeq fun _ => (#[] : Array Value))
  have na3 : ((s'.heap.update kS (Obj.mapSeq (·.push k))).update kS (Obj.mapSeq fun _ => (#[] : Array Value))).get? a = some (seqObj "list" #[] e1) := (u2.2 a hka.symm).trans na2
  have u3 := Heap.SameBut.update ((s'.heap.update kS (Obj.mapSeq (·.push k))).update kS (Obj.mapSeq fun _ => (#[] : Array Value))) a (Obj.mapSeq fun _ => #[u])
  obtain ⟨c3, hc3⟩ : ∃ c3, ((s'.heap.update kS (Obj.mapSeq (·.push k))).update kS (Obj.mapSeq fun _ => (#[] : Array Value))).get? kS = some (seqObj "list" #[] c3) := ⟨_, get?_update_seq hc2 fun _ => #[]⟩
  obtain ⟨c4, hc4⟩ : ∃ c4, (((s'.heap.update kS (Obj.mapSeq (·.push k))).update kS (Obj.mapSeq fun _ => (#[] : Array Value))).update a (Obj.mapSeq fun _ => #[u])).get? a = some (seqObj "list" #[u] c4) := ⟨_, get?_update_seq na3 fun _ => #[u]⟩
  unfold ksk_end
  try dsimp only
  have hl2 : (#[u] : Array Value).size < 2 := by show 1 < 2; omega
  simp only [Bool.false_eq_true, if_false]
  rw [if_pos hl2, if_pos hl2]
  refine wpAny_bind (wpAny_pure ?_)
  rw [StateT.run_pure]
  refine wpAny_bind (wpAny_pure ?_)
  try dsimp only
  have e0 : ((#[] : Array Value).push k).zip #[u] = #[(k, u)] := Array.toList_inj.mp (by simp)
  have ea : arrOf (SortSt.mk' general' (((#[] : Array Value).push k).zip #[u]) #[] 7 none) = #[(k, u)] := by rw [e0]; try rfl
  have em : Array.map (fun x : Value × Value => x.2) #[(k, u)] = #[u] := Array.toList_inj.mp (by simp)
  unfold ksk_tail
  try dsimp only
  rw [ea, em]
  simp only [Bool.false_eq_true, if_false]
  refine wpAny_bind (listUpdate_at hc2 rfl ?_ (by show 1 ≤ sizeLine; decide) (Nat.zero_le _))
  refine wpAny_bind (wpAny_letGo ?_)
  refine wpAny_bind (seqEpoch_at na3 rfl ?_)
  refine wpAny_bind (listUpdate_at (f := fun _ => #[u]) na3 rfl ?_ (Nat.zero_le _) (by show 1 ≤ _; decide))
  simp only [bne_self_eq_false, Bool.false_eq_true, if_false]
  exact wpAny_pure (hq _ _ _ c4 c3 (fun b o hk e => (u2.2 b hk).trans ((u1.2 b hk).trans e)) hc3 (fun b o hb e => (u3.2 b hb).trans e) hc4)
theorem pe_sort1 {k : Nat} {C g : Addr} {m : Str} {sp : Sp} {e o : Expr} {te to : TE} {p5 ap kpos pos : Pos} (he : PE X e te) (ho : PE X o to) (hgS : Gl X "sorted") (hmS : X.mg "sorted" = none) (c : Cls X.K C) (b : BMeth X.K C m g)
    (F : FnR X.prog X.w X.K X.mg X.base CX0 k g sp) (hr : Room (k + 2) X.A) (hb : attributeBase o m X.env (eval o X.env) = eval o X.env := by rfl)
    (hst : starEach [e] X.env = (false, eval e X.env) :: starEach [] X.env := by rfl) (hbt : backTo pos (starEach [e] X.env) = (false, eval e X.env) :: backTo pos (starEach [] X.env) := by rfl) (hpl : (backTo pos (starEach [e] X.env)).any (·.1) = false := by rfl) :
    PE X (.Call (.Name "sorted" p5) [e] [⟨some "key", .Attribute o m ap, kpos⟩] pos) (tSort1 C m g sp te to) := by
  refine ⟨fun pins s σ H Q I h => ?_⟩
  refine wpAny_Call_Name_kw (ld_blt I hgS hmS (u := .builtin "sorted") rfl ?_ (by decide) (by decide))
  refine PyProof.Rows.callWith_kw (thn ((pa_cons he pa_nil hst).run pos pins s σ H (fun vs H1 => match vs with
    | [x] => to σ H1 fun y H2 => ∃ (l a dx : Addr) (v : V) (fs : List (Str × V)), x = .ref l ∧ H2 l = some (.lst [v]) ∧ y = .ref a ∧ H2 a = some (.ins C dx fs) ∧ fs.lookup m = none ∧
      (∀ H3, Same H2 H3 → sp [.ref a, v] H3 (fun _ H4 => Same H3 H4) E0) ∧ ∀ R H3, H2 R = none → Same H2 H3 → H3 R = some (.lst [v]) → Q (.ref R) H3
    | _ => False) I h) fun us s1 ⟨vs, H1, I1, r1, q1⟩ => ?_) hbt hpl rfl rfl
  cases r1 with
  | nil => exact False.elim q1
  | @cons x ux xs us' rx rr =>
    cases rr with
    | cons _ _ => exact False.elim q1
    | nil =>
      show wpAny _ _ (evalAll [do let v ← eval (.Attribute o m ap) X.env; standAt pos; pure v]) _ _ _
      refine wpAny_evalAll_cons (wpAny_bind (attr_of hb (thn (ho.run pins s1 σ H1 _ I1 q1) fun uo s2 ⟨y, H2, I2, ry, l, a, dx, v, fs, ex, el, ey, ea, lf, hsp, q⟩ => ?_)))
      subst ex
      subst ey
      obtain rfl : ux = Value.ref l := rx
      obtain rfl : uo = Value.ref a := ry
      refine getbound_ok I2 ea c b lf fun q0 s3 hq0 I3 => wpAny_bind (wpAny_standAt (wpAny_pure (wpAny_evalAll_nil ?_)))
      show wpAny _ _ (call (.builtin "sorted") [.ref l] [(Str.ofString "key", .ref q0)]) _ _ _
      have S3 : Same H2 (upd H2 q0 (.met g a)) := Same.new hq0
      have el3 := S3 _ _ el
      generalize hH3 : upd H2 q0 (.met g a) = H3 at I3 S3 el3
      have em3 : H3 q0 = some (.met g a) := by rw [← hH3]; exact upd_same
      obtain ⟨hz, its, n, rv, hob⟩ := I3.hok l _ el3
      obtain ⟨u, rfl, ru⟩ := vals1 rv
      have hn0 : H3 (s3.heap.objs.size + 1) = none := I3.hok.fresh (Nat.le_succ _)
      have hnL : s3.heap.get? (s3.heap.objs.size + 1) = none := Heap.get?_none_of_le (Nat.le_succ _)
      refine PySem.W.sorted_of_sort (vs := [u]) ⟨_, hob, rfl, _, rfl⟩ (by show 1 ≤ sizeLine; decide) (PyProof.Rows.ksk_s1 _ _) (fun _ => PyProof.Rows.ksk_l1 _ _) fun E' => ?_
      rw [PyProof.Rows.ksk_t1]
      refine sort1_tree (s := { s3 with heap := PySem.W.copyHeap s3.heap [u] }) (PySem.W.copyHeap_at s3.heap [u]) fun e1 h2 h3 k1 ka k2 kk hge => ?_
      have old2 : ∀ b o, s3.heap.get? b = some o → h2.get? b = some o := fun b o e => k1 b o (fun z => by rw [z, hnL] at e; cases e) (PySem.W.copyHeap_old e)
      have I5 := I3.laid (a := s3.heap.objs.size + 1) (o := .frz (seqObj "list" #[] e1) (.lst [])) (h' := h2) (t' := s3.toks) old2 (Nat.le_succ _) ⟨ka, Nat.zero_le _, [], e1, .nil, ka⟩
      have hnK := I5.hok.fresh (Nat.le_refl h2.objs.size)
      have I6 := I5.laid (a := h2.objs.size) (o := .frz (seqObj "list" #[] 0) (.lst [])) (h' := h3) (t' := s3.toks) k2 (Nat.le_refl _) ⟨kk, Nat.zero_le _, [], 0, .nil, kk⟩
      have S5 : Same H3 (upd H3 (s3.heap.objs.size + 1) (.frz (seqObj "list" #[] e1) (.lst []))) := Same.new hn0
      have S6 := S5.trans (Same.new hnK (o := .frz (seqObj "list" #[] 0) (.lst [])))
      have nK : h2.objs.size ≠ s3.heap.objs.size + 1 := fun z => by rw [z, upd_same] at hnK; cases hnK
      generalize hA : s3.heap.objs.size + 1 = aN at *
      generalize hKK : h2.objs.size = kS at *
      have eA : upd (upd H3 aN (.frz (seqObj "list" #[] e1) (.lst []))) kS (.frz (seqObj "list" #[] 0) (.lst [])) aN = some (.frz (seqObj "list" #[] e1) (.lst [])) := by rw [upd_ne (Ne.symm nK)]; exact upd_same
      have eK : upd (upd H3 aN (.frz (seqObj "list" #[] e1) (.lst []))) kS (.frz (seqObj "list" #[] 0) (.lst [])) kS = some (.frz (seqObj "list" #[] 0) (.lst [])) := upd_same
      have nA0 : ∀ o' u', X.H_0 aN ≠ some (.frz o' u') := fun o' u' e => by have := I3.base.frzs aN o' u' e; rw [hn0] at this; cases this
      have nK0 : ∀ o' u', X.H_0 kS ≠ some (.frz o' u') := fun o' u' e => by
        have := I5.base.frzs kS o' u' e
        rw [hnK] at this; cases this
      generalize upd (upd H3 aN (.frz (seqObj "list" #[] e1) (.lst []))) kS (.frz (seqObj "list" #[] 0) (.lst [])) = H6 at I6 S6 eA eK
      have em6 := S6 _ _ em3
      refine wpAny_call (PySem.W.method_call (met_P I6 em6).1 (codeAny_mono (F X.A.in1.in1 X.stack _ H6 [.ref a, u] [.ref a, v] (fun _ H4 => Same H6 H4) E0 hr.in1.in1 I6.env0.in1.in1 (.cons rfl (.cons ru .nil)) (hsp H6 (S3.trans S6))) fun r s' hq => ?_))
      cases r with
      | error e => exact (show False from hq).elim
      | ok fl =>
        cases fl with
        | next => exact False.elim hq
        | brk => exact False.elim hq
        | cont => exact False.elim hq
        | ret uk =>
          obtain ⟨vk, H7, I7, rk, S7⟩ := I6.after hq
          have eA7 := S7 _ _ eA
          have eK7 := S7 _ _ eK
          refine ⟨(I7.hok aN _ eA7).1, (I7.hok kS _ eK7).1, fun hm h' tk cc cc' m1 m2 m3 m4 => ⟨rfl, ?_⟩⟩
          have I8 := (I7.unlock eA7 nA0).unlock (show upd H7 aN (.lst []) kS = some (.frz (seqObj "list" #[] 0) (.lst [])) by rw [upd_ne nK]; exact eK7) nK0
          have I9 := I8.write (x := kS) (e := kS) (o := .lst []) (t' := tk) (h' := hm) (by rw [upd_same]; exact True.intro) (.inl rfl) (fun b uo hb e => m1 b uo hb e) ⟨_, m2⟩ ⟨Nat.zero_le _, [], cc', .nil, m2⟩
          have I10 := I9.write (x := aN) (e := aN) (o := .lst [v]) (t' := tk) (h' := h') (by rw [upd_ne (Ne.symm nK), upd_ne (Ne.symm nK), upd_same]; exact True.intro) (.inl rfl) (fun b uo hb e => m3 b uo hb e) ⟨_, m4⟩ ⟨by show 1 ≤ sizeLine; decide, [u], cc, .cons ru .nil, m4⟩
          have S67 : Same H2 H7 := (S3.trans S6).trans S7
          have n2A : H2 aN = none := S3.free hn0
          have n2K : H2 kS = none := S3.free (S5.free hnK)
          refine ⟨.ref aN, _, I10, rfl, q aN _ n2A ((((S67.put n2A).put n2K).put n2K).put n2A) upd_same⟩
end
end Fa

namespace PySem
open Sem (wp)
open AutoSeq1 (wpAny_loadPart')
theorem fa_enum_newT (l : Addr) (items : Array Value) (n : Nat) (dct : Option Addr) (sl : Array (Option Value)) :
    Meets (Builtin.«enumerate.__new__» ⟨[.type "enumerate", .ref l], []⟩) (fun _ R s => s.heap.get? l = some { cls := .type "tuple", dict := dct, data := .seq items n, slots := sl } ∧
      R (.ok (.ret (.ref (s.heap.push { cls := .type "tuple_iterator", data := .fields #[.ref l, .int 0 0] }).objs.size)))
        { s with heap := (s.heap.push { cls := .type "tuple_iterator", data := .fields #[.ref l, .int 0 0] }).push { cls := .type "enumerate", data := .fields #[.none, .bool false, .ref s.heap.objs.size, rawInt 0, .none, .none] } }) :=
  .of_wp fun prog w A R s h => by
    obtain ⟨hp, g, d, tk, os⟩ := s; obtain ⟨hl, h⟩ := h
    have hsub := sub_enumerate
    have hL : Heap.IsTuple (Shared.heap ⟨hp, g, d, tk, os⟩) l items := ⟨_, hl, rfl, n, rfl⟩
    wp_walk using wpAny_loadPart' hl
    refine wpAny_stack_any fun st => wpAny_pure ?_
    split
    · rename_i c _ _ _ _ _
      cases (c == Value.type "enumerate")
      · wp_walk using wpAny_loadPart' hl, wpAny_pyIter_tuple hL
        exact ⟨_, rfl, h⟩
      · wp_walk using wpAny_loadPart' hl, wpAny_pyIter_tuple hL
        exact ⟨_, rfl, h⟩
    · wp_walk using wpAny_loadPart' hl, wpAny_pyIter_tuple hL
      exact ⟨_, rfl, h⟩
section
variable {prog : Program} {w : World} {A : Around} {E : Value → Shared → Prop} {s : Shared}
theorem fa_call_enumT {l : Addr} {items : Array Value} {Q : Value → Shared → Prop} (hL : s.heap.IsTuple l items)
    (h : ∀ h', IsEnum h' (s.heap.objs.size + 1) s.heap.objs.size 0 .none → h'.IsTupleIter s.heap.objs.size l 0 → h'.objs.size = s.heap.objs.size + 2 →
      (∀ b o, s.heap.get? b = some o → h'.get? b = some o) → Q (.ref (s.heap.objs.size + 1)) { s with heap := h' }) :
    wpAny (model prog w) A (call (.type "enumerate") [.ref l]) Q E s := by
  obtain ⟨⟨c, dct, dt, sl⟩, hl, hc, n, hd⟩ := hL
  replace hc : c = .type "tuple" := hc
  replace hd : dt = .seq items n := hd
  subst hc hd
  refine callType_new F.called_enumerate (by decide) (F.typeCall_enumerate_1 _) (F.newCall_enumerate_1 _) (fun obj => F.args_object_init_2 obj _) F.entry_enumerate_new
    (fa_enum_newT l items n dct sl) ⟨hl, ?_⟩
  have hz : (s.heap.push { cls := .type "tuple_iterator", data := .fields #[.ref l, .int 0 0] }).objs.size = s.heap.objs.size + 1 := Heap.size_push ..
  show _ ∧ _
  rw [hz]
  have he : IsEnum ((s.heap.push { cls := .type "tuple_iterator", data := .fields #[.ref l, .int 0 0] }).push
      { cls := .type "enumerate", data := .fields #[.none, .bool false, .ref s.heap.objs.size, rawInt 0, .none, .none] }) (s.heap.objs.size + 1) s.heap.objs.size 0 .none := by
    have := Heap.get?_push_size (s.heap.push { cls := .type "tuple_iterator", data := .fields #[.ref l, .int 0 0] })
      (o := { cls := .type "enumerate", data := .fields #[.none, .bool false, .ref s.heap.objs.size, rawInt 0, .none, .none] }) rfl
    rw [hz] at this; exact this
  refine ⟨⟨_, he, rfl⟩, h _ he ⟨_, Heap.get?_push_of_some _ (Heap.get?_push_size _ rfl), rfl, rfl⟩ (by rw [Heap.size_push, hz]) fun b o x => Heap.get?_push_of_some _ (Heap.get?_push_of_some _ x)⟩
theorem fa_nextOf_end {it l : Addr} {i : Nat} {items} {Q : Value → Shared → Prop} (hh : A.handled = none)
    (hit : s.heap.IsTupleIter it l i) (hl : s.heap.IsTuple l items) (hx : items[i]? = none)
    (hE : ∀ h' e, Heap.ExtBut it s.heap h' → (∃ o, h'.get? e = some o ∧ o.cls = .type "StopIteration") → E (.ref e) { s with heap := h' }) :
    wpAny (model prog w) A (Builtin.SmallTypes.nextOf (.ref it)) Q E s := by
  obtain ⟨o, ho, hc, hd⟩ := id hit
  obtain ⟨ol, hol, _, nl, hdl⟩ := hl
  unfold Builtin.SmallTypes.nextOf
  refine wpAny_bind (wpAny_callSpecial?_slot (name := Str.ofString "__next__") hit.typeIs F.slot_tuple_iterator_next
    (wpAny_call_entry F.slot_tuple_iterator_next hit.typeIs F.entry_tuple_iterator_next ?_ (F.args_tuple_iterator_next_1 _)))
  show wpAny _ _ (field (.ref it) 0 >>= _) _ _ s
  refine wpAny_bind (wpAny_field ho hd (x := .ref l) rfl ?_)
  show wpAny _ _ (if (Value.ref l == Value.none) = true then _ else _) _ _ s
  rw [if_neg (show ¬ ((Value.ref l == Value.none) = true) from Bool.false_ne_true)]
  show wpAny _ _ (field (.ref it) 1 >>= _) _ _ s
  refine wpAny_bind (wpAny_field ho hd (x := .int i 0) rfl ?_)
  show wpAny _ _ (seqItems? (.ref l) >>= _) _ _ s
  refine wpAny_bind (wpAny_seqItems hol hdl ?_)
  simp only [Int.toNat_natCast, hx]
  refine wpAny_bind (wpAny_rule (wpAny_bind (wpAny_setField ho hd (by simp) ?_)))
  show wpAny _ _ (newExc (.type "StopIteration") [] >>= _) _ _ _
  refine wpAny_bind ?_
  simp only [newExc, newTuple]
  refine wpAny_bind (wpAny_newObj_type ?_ (by size_fits))
  refine wpAny_bind (m := firstArgMember _ _) (wpAny_of_eq (a := Value.none) (by first | rfl | (simp only [firstArgMember]; rfl)) ?_)
  refine wpAny_newObj_type ?_ (by size_fits)
  simp only [raiseNew]
  refine wpAny_bind (wpAny_handled ?_)
  first | rw [show A.in1.handled = none from hh] | rw [hh]
  refine wpAny_bind (wpAny_pure (wpAny_throw ?_))
  exact hE _ _ (((Heap.SameBut.update ..).extBut.push _).push _) ⟨_, Heap.get?_push_size _ rfl, rfl⟩
theorem fa_enum_end {e it l : Addr} {i : Nat} {items : Array Value} {old : Value} {Q : Option Value → Shared → Prop} (hh : A.handled = none)
    (he : IsEnum s.heap e it i old) (hit : s.heap.IsTupleIter it l i) (hl : s.heap.IsTuple l items) (hx : items[i]? = none)
    (hQ : ∀ h', Heap.ExtBut it s.heap h' → Q none { s with heap := h' }) : wpAny (model prog w) A (pyNext (.ref e)) Q E s := by
  have hT : s.TypeIs (.ref e) "enumerate" := ⟨_, he, rfl⟩
  unfold pyNext
  refine wpAny_bind (wpAny_attempt (wpAny_callSpecial?_slot (name := Str.ofString "__next__") hT F.slot_enumerate_next
    (wpAny_call_entry F.slot_enumerate_next hT F.entry_enumerate_next ?_ (F.args_enumerate_next_1 _))))
  show wpAny _ _ (field (.ref e) 2 >>= _) _ _ _
  refine wpAny_bind (wpAny_field he rfl (x := .ref it) rfl ?_)
  refine wpAny_bind (fa_nextOf_end hh hit hl hx fun h' x he' hx' => ?_)
  obtain ⟨o, ho, hc⟩ := hx'
  refine wpAny_bind (wpAny_isInstance (T := "StopIteration") (b := true) ⟨o, ho, hc⟩ isSubtype_stop ?_)
  exact wpAny_pure (hQ _ he')
end
end PySem
namespace Fa
open PySem PySem.Spec PyProof.Rows L2
/-- enumerate of an empty tuple -/
def Ite0 (K : PySem.W.Frag) (a : Addr) : It := ⟨fun _ _ => False, fun _ _ _ _ => False, fun _ H => SqT K H a []⟩
theorem turn_enum0 {P : Program} {w : World} {K : PySem.W.Frag} {tg : Expr} (a e it : Addr) : Turn P w K tg (Ite0 K a) [e, it] e (fun i h => (∃ old, IsEnum h e it i old) ∧ h.IsTupleIter it a i ∧ e ≠ it) where
  mem := by simp
  obj := fun i h st b hb => by
    obtain ⟨⟨old, he⟩, ⟨o, ho, hc, hd⟩, _⟩ := st
    have e' : b = e ∨ b = it := by simpa using hb
    rcases e' with z | z
    · rw [z]; exact ⟨_, he, fun v q => nomatch q⟩
    · rw [z]; exact ⟨o, ho, fun v q => by rw [hd] at q; cases q⟩
  keep := fun i h h' st k => let ⟨⟨old, he⟩, hi, hne⟩ := st; ⟨⟨old, k e (by simp) _ he⟩, hi.at fun o q => k it (by simp) o q, hne⟩
  item := fun X _ _ _ _ i pins s σ H E _ _ _ hg => (show False from hg).elim
  done := by
    intro X hP hw hK hc i pins s σ H E I hf st hg
    subst hP hw hK
    obtain ⟨⟨old, he⟩, hit, hne⟩ := st
    obtain ⟨its, rv, p, hz⟩ := I.tuple (show SqT X.K H a [] from hg)
    obtain ⟨f0, f1, f2, f3, f4, f5⟩ := hf it (by simp)
    cases rv
    exact fa_enum_end (I.ok.hd hc) he hit (show s.heap.IsTuple a ([] : List Value).toArray from p) (by simp) fun h' eb => ⟨rfl, I.turned (t' := s.toks) (fun b o hb q => eb b o hb q) f0 f1 f3 f4 f5⟩
  self := fun A i s Q E st h => let ⟨⟨_, he⟩, _⟩ := st; wpAny_pyIter_enum he h
def iEnum0 (K : PySem.W.Frag) (ta : TA) : TI := fun σ H R => ta σ H fun vs H1 => ∃ a, vs = [.ref a] ∧ SqT K H1 a [] ∧ R (Ite0 K a) H1
theorem pi_enum0 {X : Cx} {e : Expr} {ta : TA} {p pos tpos : Pos} {elts : List Expr} {kk : Nat} (hg : Gl X "enumerate") (hm : X.mg "enumerate" = none) (ha : PA X [e] ta) (hs : starEach [e] X.env = [(false, eval e X.env)] := by rfl) :
    PI X (.Tuple elts kk tpos) (.Call (.Name "enumerate" p) [e] [] pos) (iEnum0 X.K ta) := by
  refine ⟨fun pins s σ H R I h => ?_⟩
  refine Call_ (ld_blt I hg hm boot_enumerate (PyProof.Rows.callWith_type1 (thn (ha.run pos pins s σ H _ I h) fun us s1 ⟨vs, H1, I1, r1, q1⟩ => ?_) hs rfl))
  obtain ⟨a, ex, hq, q⟩ := q1
  subst ex
  cases r1 with
  | cons r rr =>
    cases rr
    cases r
    obtain ⟨its, rv, p', hz⟩ := I1.tuple hq
    refine fa_call_enumT (show s1.heap.IsTuple a its.toArray from p') fun h' he hit hsz hk => wpAny_pyIter_enum he ?_
    have I2 : Inv X pins σ H1 { s1 with heap := h' } := I1.kept (t' := s1.toks) hk
    refine ⟨s1.heap.objs.size + 1, [s1.heap.objs.size + 1, s1.heap.objs.size], _, _, H1, rfl, I2, turn_enum0 a (s1.heap.objs.size + 1) s1.heap.objs.size, ⟨⟨.none, he⟩, hit, Nat.succ_ne_self _⟩, fun b hb => ?_, q⟩
    have e' : b = s1.heap.objs.size + 1 ∨ b = s1.heap.objs.size := by simpa using hb
    have hle : s1.heap.objs.size ≤ b := by
      rcases e' with z | z
      · rw [z]; exact Nat.le_add_right _ _
      · rw [z]; exact Nat.le_refl _
    exact I1.fpOk hle (I1.hok.fresh hle)
theorem walk_enum0 {K : PySem.W.Frag} {a : Addr} : Walk (Ite0 K a) 0 (fun H => SqT K H a []) (fun _ _ _ _ => False) := ⟨fun i _ hi _ => absurd hi (by omega), fun _ q => q, fun i _ _ _ hi _ _ => absurd hi (by omega)⟩
end Fa

namespace Fa
open PySem PySem.Spec L2
section
theorem iop_mulW {X : Cx} : OpR X (inplaceOp .Mult) (rI CMulW fun i j => .int (i * j)) := opI fun _ _ _ _ _ _ _ hc q => PyProof.Rows.imul_int q hc.ok
end
/-! ### promises -/
def sp_is_integer (_ : PySem.W.Frag) : Sp := fun vs H Q _ => ∃ i : Int, vs = [.int i] ∧ Q (.bl true) H
def sp_is_between (_ : PySem.W.Frag) : Sp := fun vs H Q _ => ∃ i lo hi : Int, vs = [.int i, .int lo, .int hi] ∧ Q (.bl (decide (lo ≤ i) && decide (i ≤ hi))) H
def sp_are_letters (_ : PySem.W.Frag) : Sp := fun vs H Q _ => ∃ c : Nat, vs = [.str (A c 1)] ∧ (97 ≤ c ∧ c ≤ 122) ∧ ∀ H', Same H H' → Q (.bl true) H'
def sp_is_word (_ : PySem.W.Frag) : Sp := fun vs H Q _ => ∃ c k : Nat, vs = [.str (A c 1), .str (A c k), .int 160] ∧ k ≤ 160 ∧ ∀ H', Same H H' → Q (.bl true) H'
def sp_need_word (_ : PySem.W.Frag) : Sp := fun vs H Q _ => ∃ c k : Nat, vs = [.str (A c 1), .str (A c k), .int 160] ∧ k ≤ 160 ∧ ∀ H', Same H H' → Q .non H'
def sp_parts_of (_ : PySem.W.Frag) : Sp := fun vs H Q _ => ∃ i : Int, vs = [.int i] ∧ ∀ p, H p = none → Q (.ref p) (upd H p (.tup [.int i, .int 1]))
def sp_power (_ : PySem.W.Frag) : Sp := fun vs H Q _ => ∃ x t m : Nat, vs = [.int x, .int t, .int m] ∧ (x < 2 ^ 60 ∧ 2 ≤ m ∧ m < 2 ^ 60) ∧ Q (.int ((x ^ t % m : Nat) : Int)) H
section
variable {P : Program} {w : World} {K : PySem.W.Frag} {mg : Str → Option Value} {base : Heap}
theorem ok_is_integer (T : TX K mg) : FnOk P w K mg base CX0 1 (a_is_integer K) (d_ K (a_is_integer K)) ["value"] (sp_is_integer K) := by
  refine T.F_is_integer.ok sc_is_integer (fun vs H Q E h => ?_) (fun cdv Ar outer s0 H vs Q E hr h => ?_)
  · (repeat (obtain ⟨_, h⟩ := h)); subst_vars; rfl
  · obtain ⟨i, rfl, k⟩ := h
    have hu := hu_of hr
    refine ⟨_, (pss_one (ps_ret (pe_and (pe_callB call_isi (by rfl) T.n_isinstance (by decide +kernel) (pa_cons (pv 0) (pa_cons (pe_bltn (v := .ty "int") rfl T.n_int (by decide +kernel) rfl) pa_nil))) (pe_one (pe_not (pe_callB call_isi (by rfl) T.n_isinstance (by decide +kernel) (pa_cons (pv 0) (pa_cons (pe_bltn (v := .ty "bool") rfl T.n_bool (by decide +kernel) rfl) pa_nil)))))))), ?_⟩
    refine ⟨_, rfl, _, _, _, _, true, rfl, .ty "int", .base (.int i), kit_ty (by decide +kernel), true, rfl, iteT ?_⟩
    exact ⟨_, rfl, _, _, _, _, false, rfl, .ty "bool", .base (.int i), kit_ty (by decide +kernel), false, rfl, k⟩
theorem ok_is_between (T : TX K mg) : FnOk P w K mg base CX0 2 (a_is_between K) (d_ K (a_is_between K)) ["value", "least", "most"] (sp_is_between K) := by
  refine T.F_is_between.ok sc_is_between (fun vs H Q E h => ?_) (fun cdv Ar outer s0 H vs Q E hr h => ?_)
  · (repeat (obtain ⟨_, h⟩ := h)); subst_vars; rfl
  · obtain ⟨i, lo, hi, rfl, k⟩ := h
    have hu := hu_of hr
    refine ⟨_, (pss_one (ps_ret (pe_and (pe_call (ok_is_integer T) (by exact hr.mono (by decide)) rfl T.g_is_integer T.F_is_integer.kp T.b_is_integer .nil pass0 (pa_cons (pv 0) pa_nil)) (pe_one (pe_chain op_le op_le (pv 1) (pv 0) (pv 2)))))), ?_⟩
    refine ⟨_, rfl, i, rfl, true, rfl, iteT ?_⟩
    refine ⟨_, rfl, _, rfl, lo, i, rfl, rfl, decide (lo ≤ i), rfl, ?_⟩
    by_cases h1 : lo ≤ i
    · rw [decide_eq_true h1] at k ⊢
      exact iteT ⟨_, rfl, _, _, rfl, rfl, k⟩
    · rw [decide_eq_false h1] at k ⊢
      exact iteF k
theorem ok_are_letters (T : TX K mg) : FnOk P w K mg base CX0 1 (a_are_letters K) (d_ K (a_are_letters K)) ["value"] (sp_are_letters K) := by
  refine T.F_are_letters.ok sc_are_letters (fun vs H Q E h => ?_) (fun cdv Ar outer s0 H vs Q E hr h => ?_)
  · (repeat (obtain ⟨_, h⟩ := h)); subst_vars; rfl
  · obtain ⟨c, rfl, hc, k⟩ := h
    obtain ⟨u_ALPHABET, h_ALPHABET⟩ := T.k_ALPHABET
    obtain ⟨u_MAX_LETTERS, h_MAX_LETTERS⟩ := T.k_MAX_LETTERS
    have hu := hu_of hr
    refine ⟨_, (pss_cons (ps_if (PW.pt (pw_or (pt_not (pt_val (pe_callB call_isi (by rfl) T.n_isinstance (by decide +kernel) (pa_cons (pv 0) (pa_cons (pe_bltn (v := .ty "str") rfl T.n_str (by decide +kernel) rfl) pa_nil))))) (pw_or1 (pt_not (pt_chain op_le op_le pe_int (pe_callB call_len_str (by rfl) T.n_len (by decide +kernel) (pa_cons (pv 0) pa_nil)) (pe_glob (v := .int 4) rfl h_MAX_LETTERS ⟨_, rfl⟩)))))) (pss_one (ps_ret pe_bl)) pss_nil)
      (pss_cons (ps_if (pt_not (pt_val (pe_callB (cr_all rfl) (by rfl) T.n_all (by decide +kernel) (pa_cons (pe_lc (own := [("letter", 2)]) (g := gName 2) (tt := tYes) rfl sc_are_letters.nd (pi_str (pv 0)) (blkOk_by (own := [("letter", 2)]) (N := N_are_letters) (sc := defScope s_are_letters) (by decide +kernel)) (fun _ _ _ _ _ => (pg_name (i := 2) sc_are_letters.nd rfl (Or.inl rfl))) (fun _ _ _ _ _ => pts_nil) (by intro _ _ _ _ _; exact (pe_cmpR op_in_sign (pv 2) (pe_glob (v := .str "abcdefghijklmnopqrstuvwxyz") rfl h_ALPHABET ⟨_, rfl⟩) rfl))) pa_nil)))) (pss_one (ps_ret pe_bl)) pss_nil)
      (pss_one (ps_ret (pe_callB (cr_all rfl) (by rfl) T.n_all (by decide +kernel) (pa_cons (pe_lc (own := [("place", 1)]) (g := gName 1) (tt := tYes) rfl sc_are_letters.nd (pi_range1 rfl T.n_range (pa_cons (pe_op op_sub (pe_callB call_len_str (by rfl) T.n_len (by decide +kernel) (pa_cons (pv 0) pa_nil)) pe_int) pa_nil)) (blkOk_by (own := [("place", 1)]) (N := N_are_letters) (sc := defScope s_are_letters) (by decide +kernel)) (fun _ _ _ _ _ => (pg_name (i := 1) sc_are_letters.nd rfl (Or.inl rfl))) (fun _ _ _ _ _ => pts_nil) (by intro _ _ _ _ _; exact (pe_cmpR op_lt_str (pe_item_str (pv 0) (pv 1) (fun _ _ => rfl)) (pe_item_str (pv 0) (pe_op op_add (pv 1) pe_int) (fun _ _ => rfl)) (nomark _)))) pa_nil)))))), ?_⟩
    -- isinstance(value, str); 1 <= len(value) <= 4
    refine ⟨_, rfl, _, _, _, _, true, rfl, .ty "str", .base (.str _), kit_ty (by decide +kernel), true, rfl, ?_⟩
    refine iteF ⟨_, rfl, _, rfl, by rw [A_len]; exact sz _ (by decide), _, _, rfl, rfl, _, rfl, ?_⟩
    rw [A_len]
    refine iteT ⟨_, _, rfl, rfl, _, rfl, ?_⟩
    refine iteF ?_
    -- all([letter in ALPHABET for letter in value])
    refine ⟨_, rfl, _, rfl, fun D hD => ?_⟩
    refine lc_map walk_str (fun _ => .bl true) hD (by rw [A_size]; decide) (fun _ _ => trivial) (fun i x H1 H2 hi s y Kt kt => ?_) (fun H1 s hD1 => ?_)
    · obtain ⟨rfl, d, hd, rfl⟩ := y
      have ed : d = c := A_at hd
      subst ed
      refine ⟨rfl, _, rfl, d, _, rfl, rfl, ?_⟩
      have : decide (d ∈ ("abcdefghijklmnopqrstuvwxyz" : Str).cps.toList) = true := by
        refine decide_eq_true ?_
        have e : ("abcdefghijklmnopqrstuvwxyz" : Str).cps.toList = (List.range 26).map (97 + ·) := by decide +kernel
        rw [e]
        exact List.mem_map.mpr ⟨d - 97, List.mem_range.mpr (by omega), by omega⟩
      rw [this]
      exact kt _ (Same.refl _)
    · refine ⟨D, (List.range (A c 1).cps.size).map fun _ => true, rfl, SqL.of (by rw [hD1, List.map_map]; rfl), true, ?_, ?_⟩
      · rw [A_size]; rfl
      refine iteF ?_
      -- all([value[place] < value[place + 1] for place in range(len(value) - 1)])
      refine ⟨_, rfl, _, rfl, by rw [A_len]; exact sz _ (by decide), _, _, rfl, rfl, _, rfl, by rw [A_len]; decide, by rw [A_len]; decide, fun D2 hD2 => ?_⟩
      rw [A_len]
      refine lc_map walk_range (fun _ => .bl true) hD2 (by decide) (fun _ _ => trivial) (fun i x H2 H3 hi s2 y Kt kt => absurd hi (by simp)) (fun H2 s2 hD3 => ?_)
      exact ⟨D2, [], rfl, SqL.of hD3, k H2 (s.trans s2)⟩
theorem ok_is_word (T : TX K mg) : FnOk P w K mg base CX0 1 (a_is_word K) (d_ K (a_is_word K)) ["letters", "value", "most"] (sp_is_word K) := by
  refine T.F_is_word.ok sc_is_word (fun vs H Q E h => ?_) (fun cdv Ar outer s0 H vs Q E hr h => ?_)
  · (repeat (obtain ⟨_, h⟩ := h)); subst_vars; rfl
  · obtain ⟨c, n, rfl, hn, k⟩ := h
    have hu := hu_of hr
    refine ⟨_, PSs.nox (pss_cons (ps_if (PW.pt (pw_or (pt_not (pt_val (pe_callB call_isi (by rfl) T.n_isinstance (by decide +kernel) (pa_cons (pv 1) (pa_cons (pe_bltn (v := .ty "str") rfl T.n_str (by decide +kernel) rfl) pa_nil))))) (pw_or1 (pt_cmpR op_gt (pe_callB call_len_str (by rfl) T.n_len (by decide +kernel) (pa_cons (pv 1) pa_nil)) (pv 2) (nomark _))))) (pss_one (ps_ret pe_bl)) pss_nil)
      (pss_one (ps_ret (pe_callB (cr_all rfl) (by rfl) T.n_all (by decide +kernel) (pa_cons (pe_lc (own := [("letter", 3)]) (g := gName 3) (tt := tYes) rfl sc_is_word.nd (pi_str (pv 1)) (blkOk_by (own := [("letter", 3)]) (N := N_is_word) (sc := defScope s_is_word) (by decide +kernel)) (fun _ _ _ _ _ => (pg_name (i := 3) sc_is_word.nd rfl (Or.inl rfl))) (fun _ _ _ _ _ => pts_nil) (by intro _ _ _ _ _; exact (pe_cmpR op_in_sign (pv 3) (pv 0) rfl))) pa_nil))))), ?_⟩
    refine ⟨_, rfl, _, _, _, _, true, rfl, .ty "str", .base (.str _), kit_ty (by decide +kernel), true, rfl, ?_⟩
    refine iteF ⟨_, rfl, _, rfl, by rw [A_len]; exact sz _ (by omega), _, rfl, _, _, rfl, rfl, _, rfl, ?_⟩
    rw [A_len, decide_eq_false (by omega)]
    refine iteF ?_
    refine ⟨_, rfl, _, rfl, fun D hD => ?_⟩
    refine lc_map walk_str (fun _ => .bl true) hD (by rw [A_size]; omega) (fun _ _ => trivial) (fun i x H1 H2 hi s y Kt kt => ?_) (fun H1 s hD1 => ?_)
    · obtain ⟨rfl, d, hd, rfl⟩ := y
      have ed : d = c := A_at hd
      subst ed
      refine ⟨rfl, _, rfl, _, rfl, d, _, rfl, rfl, ?_⟩
      rw [A_list, decide_eq_true (by simp)]
      exact kt _ (Same.refl _)
    · refine ⟨D, (List.range (A c n).cps.size).map fun _ => true, rfl, SqL.of (by rw [hD1, List.map_map]; rfl), ?_⟩
      have : ((List.range (A c n).cps.size).map fun _ => true).all id = true := by simp
      rw [this]
      exact k H1 s
end
end Fa

namespace Fa
open PySem PySem.Spec L2
/-- squared j times -/
def sqs (r n : Nat) : Nat → Nat
  | 0 => r
  | j + 1 => sqs r n j * sqs r n j % n
/-! ### promises -/
def sp_is_witness (_ : PySem.W.Frag) : Sp := fun vs H Q _ => ∃ a n o m : Nat, vs = [.int a, .int n] ∧ (a < 2 ^ 60 ∧ 3 ≤ n ∧ n < 2 ^ 60 ∧ n - 1 = o * 2 ^ m ∧ o % 2 = 1 ∧ m < 60) ∧
  (a ^ o % n = 1 ∨ ∃ j, j < m ∧ sqs (a ^ o % n) n j = n - 1) ∧ Q (.bl false) H
def sixP (p : Nat) : Prop := p = 2 ∨ p = 3 ∨ p = 5 ∨ p = 7 ∨ p = 101 ∨ p = 1000003
def sp_is_prime (_ : PySem.W.Frag) : Sp := fun vs H Q _ => ∃ p : Nat, vs = [.int p] ∧ sixP p ∧ ∀ H', Same H H' → Q (.bl true) H'
def sp_ten_to (_ : PySem.W.Frag) : Sp := fun vs H Q _ => vs = [.int 100] ∧ Q (.int (10 ^ 100)) H
def sp_is_short (_ : PySem.W.Frag) : Sp := fun vs H Q _ => ∃ i : Int, vs = [.int i, .int 100] ∧ (0 ≤ i ∧ i < 10 ^ 100) ∧ ∀ H', Same H H' → Q (.bl true) H'
section
variable {P : Program} {w : World} {K : PySem.W.Frag} {mg : Str → Option Value} {base : Heap}
theorem TX.b_is_word (T : TX K mg) : Binds K (d_ K (a_is_word K)) ["letters", "value", "most"] [] := by
  obtain ⟨ds, r, b⟩ := T.F_is_word.binds1 (ps := ["letters", "value", "most"]) 3 1 (by simp) rfl (fun T kV doc pm an cdv ct us its hu hi => match us, its, hu, hi with | [_, _, _], [_], _, _ => ⟨_, rfl, rfl⟩)
  cases r
  exact b
theorem TX.b_need_word (T : TX K mg) : ∃ ds, Vals [.int 160] ds ∧ Binds K (d_ K (a_need_word K)) ["letters", "value", "most"] ds :=
  T.F_need_word.binds1 (ps := ["letters", "value", "most"]) 2 0 (by simp) rfl (fun T kV doc pm an cdv ct us its hu hi => match us, its, hu, hi with | [_, _], [_], _, _ => ⟨_, rfl, rfl⟩)
theorem ok_need_word (T : TX K mg) : FnOk P w K mg base CX0 2 (a_need_word K) (d_ K (a_need_word K)) ["letters", "value", "most"] (sp_need_word K) := by
  refine T.F_need_word.ok sc_need_word (fun vs H Q E h => ?_) (fun cdv Ar outer s0 H vs Q E hr h => ?_)
  · (repeat (obtain ⟨_, h⟩ := h)); subst_vars; rfl
  · obtain ⟨c, n, rfl, hn, k⟩ := h
    have hu := hu_of hr
    refine ⟨_, PSs.nox (pss_one (ps_if (pt_not (pt_val (pe_call (ok_is_word T) (by exact hr.mono (by decide)) rfl T.g_is_word T.F_is_word.kp T.b_is_word .nil pass0 (pa_cons (pv 0) (pa_cons (pv 1) (pa_cons (pv 2) pa_nil)))))) (pss_one ps_never) pss_nil)), ?_⟩
    refine ⟨_, rfl, _, rfl, _, rfl, c, n, rfl, hn, fun H1 s => ⟨_, rfl, ?_⟩⟩
    exact iteF (k H1 s)
theorem ok_parts_of (T : TX K mg) : FnOk P w K mg base CX0 1 (a_parts_of K) (d_ K (a_parts_of K)) ["number"] (sp_parts_of K) := by
  refine T.F_parts_of.ok sc_parts_of (fun vs H Q E h => ?_) (fun cdv Ar outer s0 H vs Q E hr h => ?_)
  · (repeat (obtain ⟨_, h⟩ := h)); subst_vars; rfl
  · obtain ⟨i, rfl, k⟩ := h
    have hu := hu_of hr
    refine ⟨_, (pss_one (ps_ret (pe_ifExp (pt_val (pe_callB call_isi (by rfl) T.n_isinstance (by decide +kernel) (pa_cons (pv 0) (pa_cons (pe_bltn (v := .ty "tuple") rfl T.n_tuple (by decide +kernel) rfl) pa_nil)))) (pv 0) (pe_tup (pa_cons (pv 0) (pa_cons pe_int pa_nil)))))), ?_⟩
    refine ⟨_, rfl, _, _, _, _, false, rfl, .ty "tuple", .base (.int i), kit_ty (by decide +kernel), false, rfl, iteF ?_⟩
    exact ⟨_, rfl, by show 2 ≤ sizeLine; decide, k⟩
theorem pow_step (f x t m : Nat) (ht : 0 < t) : (f * x ^ t) % m = ((if t % 2 = 1 then f * x % m else f) * (x * x % m) ^ (t / 2)) % m := by
  have e : x ^ t = x ^ (t % 2) * (x * x) ^ (t / 2) := by
    rw [← Nat.pow_two, ← Nat.pow_mul, ← Nat.pow_add]
    congr 1; omega
  rw [e]
  have h2 : ∀ a : Nat, (a * (x * x % m) ^ (t / 2)) % m = (a * (x * x) ^ (t / 2)) % m := fun a => by
    rw [Nat.mul_mod, ← Nat.pow_mod, ← Nat.mul_mod]
  rw [h2]
  by_cases h : t % 2 = 1
  · rw [if_pos h, h, Nat.pow_one, ← Nat.mul_assoc, Nat.mul_mod (f * x) ((x * x) ^ (t / 2)) m, Nat.mul_mod (f * x % m) ((x * x) ^ (t / 2)) m, Nat.mod_mod]
  · have h0 : t % 2 = 0 := by omega
    rw [if_neg h, h0, Nat.pow_zero, Nat.one_mul]
theorem ok_power (T : TX K mg) : FnOk P w K mg base CX0 1 (a_power K) (d_ K (a_power K)) ["number", "times", "modulus"] (sp_power K) := by
  refine T.F_power.ok sc_power (fun vs H Q E h => ?_) (fun cdv Ar outer s0 H vs Q E hr h => ?_)
  · (repeat (obtain ⟨_, h⟩ := h)); subst_vars; rfl
  · obtain ⟨x, t, m, rfl, ⟨hx, hm, hm2⟩, k⟩ := h
    have hu := hu_of hr
    refine ⟨_, (pss_cons (ps_set (i := 3) sc_power.nd rfl (Or.inl rfl) pe_int)
      (pss_cons (ps_while PassesOwn.never (pt_cmpR op_gt (pv 1) pe_int (nomark _)) (pss_cons (ps_if (pt_cmpR op_eq (pe_op op_mod (pv 1) pe_int) pe_int (nomark _)) (pss_one (ps_set (i := 3) sc_power.nd rfl (Or.inl rfl) (pe_op op_mod (pe_op op_mul (pv 3) (pv 0)) (pv 2)))) pss_nil)
      (pss_cons (ps_set (i := 0) sc_power.nd rfl (Or.inl rfl) (pe_op op_mod (pe_op op_mul (pv 0) (pv 0)) (pv 2)))
      (pss_one (ps_set (i := 1) sc_power.nd rfl (Or.inl rfl) (pe_op op_fdiv (pv 1) pe_int))))))
      (pss_one (ps_ret (pv 3))))), ?_⟩
    refine while_by (fun σ H1 => ∃ f y u : Nat, σ = [some (.int y), some (.int u), some (.int m), some (.int f)] ∧ H1 = H ∧ f < 2 ^ 60 ∧ y < 2 ^ 60 ∧ (f * y ^ u) % m = x ^ t % m ∧ (f < m))
      (fun σ _ => match σ with | [_, some (.int u), _, _] => u.toNat | _ => 0) ⟨1, x, t, rfl, rfl, by decide, hx, by rw [Nat.one_mul], by omega⟩ ?_ ?_
    · rintro σ H1 ⟨f, y, u, rfl, rfl, hf, hy, he, hfm⟩
      refine ⟨_, rfl, _, _, rfl, rfl, _, rfl, ?_⟩
      refine ite2 (fun hu => ?_) (fun hu => ?_)
      · have hu0 : 0 < u := by have := of_decide_eq_true hu; omega
        have hmp : 0 < m := by omega
        refine ⟨_, rfl, _, _, rfl, rfl, (by show (0 : Int) < 2; decide), ?_⟩
        refine ⟨rfl, _, rfl, ?_⟩
        have hstep := pow_step f y u m hu0
        rw [he] at hstep
        have hd : (u : Int) % 2 = 1 ↔ u % 2 = 1 := by omega
        have q1 : ((y : Int) * (y : Int)) % (m : Int) = ((y * y % m : Nat) : Int) := by push_cast; rfl
        have q2 : (u : Int) / 2 = ((u / 2 : Nat) : Int) := by push_cast; rfl
        refine ite2 (fun h1 => ?_) (fun h1 => ?_)
        · have h1' : u % 2 = 1 := hd.mp (by have := of_decide_eq_true h1; simpa using this)
          refine ⟨_, rfl, _, rfl, _, _, rfl, rfl, .inl ⟨by omega, by omega⟩, _, rfl, _, _, rfl, rfl, (by show (0 : Int) < m; omega), ?_⟩
          refine ⟨_, rfl, _, rfl, _, _, rfl, rfl, .inl ⟨by omega, by omega⟩, _, rfl, _, _, rfl, rfl, (by show (0 : Int) < m; omega), ?_⟩
          refine ⟨_, rfl, _, _, rfl, rfl, ⟨by decide, by decide⟩, ?_⟩
          have q3 : ((f : Int) * (y : Int)) % (m : Int) = ((f * y % m : Nat) : Int) := by push_cast; rfl
          have l1 : f * y % m < m := Nat.mod_lt _ hmp
          have l2 : y * y % m < m := Nat.mod_lt _ hmp
          rw [if_pos h1'] at hstep
          refine ⟨⟨f * y % m, y * y % m, u / 2, ?_, rfl, by omega, by omega, hstep.symm, l1⟩, ?_⟩
          · show [some (V.int ((y : Int) * (y : Int) % (m : Int))), some (V.int ((u : Int) / 2)), some (V.int (m : Int)), some (V.int ((f : Int) * (y : Int) % (m : Int)))] = _
            rw [q1, q2, q3]
          · show ((u : Int) / 2).toNat < (u : Int).toNat
            omega
        · have h1' : ¬ u % 2 = 1 := fun q => h1 (by have := hd.mpr q; simp [this])
          refine ⟨_, rfl, _, rfl, _, _, rfl, rfl, .inl ⟨by omega, by omega⟩, _, rfl, _, _, rfl, rfl, (by show (0 : Int) < m; omega), ?_⟩
          refine ⟨_, rfl, _, _, rfl, rfl, ⟨by decide, by decide⟩, ?_⟩
          have l2 : y * y % m < m := Nat.mod_lt _ hmp
          rw [if_neg h1'] at hstep
          refine ⟨⟨f, y * y % m, u / 2, ?_, rfl, hf, by omega, hstep.symm, hfm⟩, ?_⟩
          · show [some (V.int ((y : Int) * (y : Int) % (m : Int))), some (V.int ((u : Int) / 2)), some (V.int (m : Int)), some (V.int (f : Int))] = _
            rw [q1, q2]
          · show ((u : Int) / 2).toNat < (u : Int).toNat
            omega
      · have hu0 : u = 0 := by
          by_cases h0 : u = 0
          · exact h0
          · exact absurd (decide_eq_true (show (0 : Int) < u by omega)) hu
        subst hu0
        refine ⟨_, rfl, ?_⟩
        rw [Nat.pow_zero, Nat.mul_one, Nat.mod_eq_of_lt hfm] at he
        rw [he]
        exact k
    · rintro σ H1 Q1 Q2 hm ⟨v, e1, i, j, e2, e3, k1, e4, hq⟩
      exact ⟨v, e1, i, j, e2, e3, k1, e4, hm _ _ hq⟩
theorem ok_ten_to (T : TX K mg) : FnOk P w K mg base CX0 1 (a_ten_to K) (d_ K (a_ten_to K)) ["digits"] (sp_ten_to K) := by
  refine T.F_ten_to.ok sc_ten_to (fun vs H Q E h => ?_) (fun cdv Ar outer s0 H vs Q E hr h => ?_)
  · (repeat (obtain ⟨_, h⟩ := h)); subst_vars; rfl
  · obtain ⟨rfl, k⟩ := h
    have hu := hu_of hr
    refine ⟨_, (pss_cons (ps_set (i := 1) sc_ten_to.nd rfl (Or.inl rfl) pe_int)
      (pss_cons (ps_for PassesOwn.never rfl (pi_range1 rfl T.n_range (pa_cons (pe_op op_fdiv (pv 0) pe_int) pa_nil)) (pg_name (i := 2) sc_ten_to.nd rfl (Or.inl rfl)) (pss_one (ps_aug (i := 1) sc_ten_to.nd rfl (Or.inl rfl) (pe_op op_pow pe_int pe_int) iop_mulW)))
      (pss_one (ps_ret (pv 1))))), ?_⟩
    refine ⟨_, rfl, _, _, rfl, rfl, ⟨by decide, by decide⟩, _, rfl, by decide, by decide, ?_⟩
    refine for_range (n := 2) (fun i σ H1 => ∃ v, σ = [some (.int 100), some (.int (10 ^ (50 * i))), v] ∧ H1 = H ∧ i ≤ 2) ⟨none, rfl, rfl, by decide⟩ (fun i σ H1 hi p => ?_) (fun σ H1 p => ?_)
    · obtain ⟨v, rfl, rfl, _⟩ := p
      refine ⟨_, rfl, _, _, rfl, rfl, ⟨by decide, by decide, by decide⟩, _, _, rfl, rfl, ?_, ?_⟩
      · rcases (show i = 0 ∨ i = 1 by omega) with rfl | rfl
        · exact wide_mul (a := 1) (b := 200) (by decide) (by decide) (by decide) (by decide) (by decide)
        · exact wide_mul (a := 200) (b := 200) (by decide) (by decide) (by decide) (by decide) (by decide)
      · refine ⟨some (.int (0 + (i : Int))), ?_, rfl, by omega⟩
        rcases (show i = 0 ∨ i = 1 by omega) with rfl | rfl <;> rfl
    · obtain ⟨v, rfl, rfl, _⟩ := p
      exact ⟨_, rfl, k⟩
end
end Fa

namespace Fa
open PySem PySem.Spec L2
/-! ### numbers modulo p as values; a field object -/
abbrev fv {p : Nat} (x : _root_.Fin p) : V := .int ((x.val : Nat) : Int)
theorem sixP.lo {p : Nat} (h : sixP p) : 2 ≤ p := by rcases h with h | h | h | h | h | h <;> omega
theorem sixP.hi {p : Nat} (h : sixP p) : p ≤ 1000003 := by rcases h with h | h | h | h | h | h <;> omega
theorem sixP.prime {p : Nat} (h : sixP p) : Mx.IsP p := by
  rcases h with h | h | h | h | h | h <;> subst h
  · exact Mx.isP_of (k := 2) (by decide) (by decide) (by decide)
  · exact Mx.isP_of (k := 2) (by decide) (by decide) (by decide)
  · exact Mx.isP_of (k := 3) (by decide) (by decide) (by decide)
  · exact Mx.isP_of (k := 3) (by decide) (by decide) (by decide)
  · exact Mx.isP_of (k := 11) (by decide) (by decide) (by decide +kernel)
  · exact Mx.isP_of (k := 1001) (by decide) (by decide) (by decide +kernel)
structure FieldAt (K : PySem.W.Frag) (H : Hp) (fa : Addr) (p : Nat) : Prop where
  ob : ∃ dx, H fa = some (.ins (c_Modulo K) dx [("own_prime", .int (p : Nat))])
  six : sixP p
theorem FieldAt.same {K : PySem.W.Frag} {H H' : Hp} {fa : Addr} {p : Nat} (f : FieldAt K H fa p) (s : Same H H') : FieldAt K H' fa p := ⟨let ⟨dx, e⟩ := f.ob; ⟨dx, s _ _ e⟩, f.six⟩
theorem no_field {m : Str} {v : V} (h : ¬ m = "own_prime") : ([(("own_prime" : Str), v)] : List (Str × V)).lookup m = none := by
  have e : (m == ("own_prime" : Str)) = false := beq_eq_false_iff_ne.mpr h
  rw [List.lookup_cons, e]; rfl
/-! ### promises -/
def sp_Modulo_is_any (K : PySem.W.Frag) : Sp := fun vs H Q _ => ∃ (fa : Addr) (p : Nat) (a : _root_.Fin p), vs = [.ref fa, fv a] ∧ FieldAt K H fa p ∧ Q (.bl true) H
def sp_Modulo_add (K : PySem.W.Frag) : Sp := fun vs H Q _ => ∃ (fa : Addr) (p : Nat) (_ : NeZero p) (a b : _root_.Fin p), vs = [.ref fa, fv a, fv b] ∧ FieldAt K H fa p ∧ Q (fv (a + b)) H
def sp_Modulo_negative (K : PySem.W.Frag) : Sp := fun vs H Q _ => ∃ (fa : Addr) (p : Nat) (_ : NeZero p) (a : _root_.Fin p), vs = [.ref fa, fv a] ∧ FieldAt K H fa p ∧ Q (fv (-a)) H
def sp_Modulo_multiply (K : PySem.W.Frag) : Sp := fun vs H Q _ => ∃ (fa : Addr) (p : Nat) (_ : NeZero p) (a b : _root_.Fin p), vs = [.ref fa, fv a, fv b] ∧ FieldAt K H fa p ∧ Q (fv (a * b)) H
def sp_Modulo_divide (K : PySem.W.Frag) : Sp := fun vs H Q _ => ∃ (fa : Addr) (p : Nat) (_ : NeZero p) (a b : _root_.Fin p), vs = [.ref fa, fv a, fv b] ∧ FieldAt K H fa p ∧ Q (fv (a * Mx.inv b)) H
def sp_Field_subtract (K : PySem.W.Frag) : Sp := fun vs H Q _ => ∃ (fa : Addr) (p : Nat) (_ : NeZero p) (a b : _root_.Fin p), vs = [.ref fa, fv a, fv b] ∧ FieldAt K H fa p ∧ Q (fv (a - b)) H
def sp_Field_is_number (K : PySem.W.Frag) : Sp := fun vs H Q _ => ∃ (fa : Addr) (p : Nat) (a : _root_.Fin p), vs = [.ref fa, fv a] ∧ FieldAt K H fa p ∧ ∀ H', Same H H' → Q (.bl true) H'
def sp_without (K : PySem.W.Frag) : Sp := fun vs H Q _ => ∃ (fa ra oa : Addr) (p : Nat) (_ : NeZero p) (xs ys : List (_root_.Fin p)) (f : _root_.Fin p), vs = [.ref fa, .ref ra, fv f, .ref oa] ∧ FieldAt K H fa p ∧ SqL K H ra (xs.map fv) ∧ SqL K H oa (ys.map fv) ∧
  (xs.length ≤ ys.length ∧ xs.length ≤ 1000) ∧ ∀ D H', H D = none → Same H H' → H' D = some (.lst ((List.zipWith (fun a b => a - f * b) xs ys).map fv)) → Q (.ref D) H'
section
variable {P : Program} {w : World} {K : PySem.W.Frag} {mg : Str → Option Value} {base : Heap}
theorem ok_is_witness (T : TX K mg) : FnOk P w K mg base CX0 2 (a_is_witness K) (d_ K (a_is_witness K)) ["number", "value"] (sp_is_witness K) := by
  refine T.F_is_witness.ok sc_is_witness (fun vs H Q E h => ?_) (fun cdv Ar outer s0 H vs Q E hr h => ?_)
  · (repeat (obtain ⟨_, h⟩ := h)); subst_vars; rfl
  · obtain ⟨a, n, o, m, rfl, ⟨ha, hn, hn2, hom, ho, hm⟩, hw, k⟩ := h
    have hu := hu_of hr
    refine ⟨_, (pss_cons (ps_par (i := 2) (j := 3) (by rfl) sc_is_witness.nd rfl rfl (by decide) rfl rfl (pa_cons (pe_op op_sub (pv 1) pe_int) (pa_cons pe_int pa_nil)) (by rfl))
      (pss_cons (ps_while PassesOwn.never (pt_cmpR op_eq (pe_op op_mod (pv 2) pe_int) pe_int (nomark _)) (pss_one (ps_par (i := 2) (j := 3) (by rfl) sc_is_witness.nd rfl rfl (by decide) rfl rfl (pa_cons (pe_op op_fdiv (pv 2) pe_int) (pa_cons (pe_op op_add (pv 3) pe_int) pa_nil)) (by rfl))))
      (pss_cons (ps_set (i := 4) sc_is_witness.nd rfl (Or.inl rfl) (pe_call (ok_power T) (by exact hr.mono (by decide)) rfl T.g_power T.F_power.kp T.b_power .nil pass0 (pa_cons (pv 0) (pa_cons (pv 2) (pa_cons (pv 1) pa_nil)))))
      (pss_cons (ps_if (PW.pt (pw_or (pt_cmpR op_eq (pv 4) pe_int (nomark _)) (pw_or1 (pt_cmpR op_eq (pv 4) (pe_op op_sub (pv 1) pe_int) (nomark _))))) (pss_one (ps_ret pe_bl)) pss_nil)
      (pss_cons (ps_for PassesOwn.never rfl (pi_range1 rfl T.n_range (pa_cons (pe_op op_sub (pv 3) pe_int) pa_nil)) (pg_name (i := 5) sc_is_witness.nd rfl (Or.inl rfl)) (pss_cons (ps_set (i := 4) sc_is_witness.nd rfl (Or.inl rfl) (pe_op op_mod (pe_op op_mul (pv 4) (pv 4)) (pv 1)))
      (pss_one (ps_if (pt_cmpR op_eq (pv 4) (pe_op op_sub (pv 1) pe_int) (nomark _)) (pss_one (ps_ret pe_bl)) pss_nil))))
      (pss_one (ps_ret pe_bl))))))), ?_⟩
    refine ⟨_, rfl, _, _, rfl, rfl, _, _, rfl, ?_⟩
    have hnp : 0 < n := by omega
    have hN1 : (n : Int) - 1 = ((n - 1 : Nat) : Int) := by clear hw; omega
    have hop : 0 < o := by omega
    have pw0 : ∀ i : Nat, 0 < 2 ^ i := fun i => Nat.pow_pos (by decide)
    have dv : ∀ i : Nat, o * 2 ^ (i + 1) / 2 = o * 2 ^ i ∧ o * 2 ^ (i + 1) % 2 = 0 := fun i => by
      have : o * 2 ^ (i + 1) = o * 2 ^ i * 2 := by rw [Nat.pow_succ, Nat.mul_assoc]
      omega
    refine while_by (fun σ H1 => ∃ (j : Nat), σ = [some (.int a), some (.int n), some (.int ((o * 2 ^ (m - j) : Nat) : Int)), some (.int (j : Nat)), none, none] ∧ H1 = H ∧ j ≤ m)
      (fun σ _ => match σ with | [_, _, some (.int u), _, _, _] => u.toNat | _ => 0) ?_ ?_ ?_
    · refine ⟨0, ?_, rfl, by omega⟩
      show [some (V.int (a : Nat)), some (V.int (n : Nat)), some (V.int ((n : Int) - 1)), some (V.int 0), none, none] = _
      rw [Nat.sub_zero, ← hom, hN1]; rfl
    · rintro σ H1 ⟨j, rfl, rfl, hj⟩
      refine ⟨_, rfl, _, _, rfl, rfl, (by show (0 : Int) < 2; decide), rfl, _, rfl, ?_⟩
      by_cases hjm : j < m
      · obtain ⟨i, hi⟩ : ∃ i, m - j = i + 1 := ⟨m - j - 1, by omega⟩
        obtain ⟨d1, d2⟩ := dv i
        have q1 : ((o * 2 ^ (m - j) : Nat) : Int) % 2 = 0 := by rw [hi]; omega
        have q2 : ((o * 2 ^ (m - j) : Nat) : Int) / 2 = ((o * 2 ^ (m - (j + 1)) : Nat) : Int) := by rw [hi, show m - (j + 1) = i by omega]; omega
        refine ite2 (fun _ => ?_) (fun hne => absurd (decide_eq_true (congrArg V.int q1)) hne)
        refine ⟨_, rfl, _, _, rfl, rfl, ⟨by decide, by decide⟩, _, rfl, _, _, rfl, rfl, _, _, rfl, ?_⟩
        refine ⟨⟨j + 1, ?_, rfl, by omega⟩, ?_⟩
        · show [some (V.int (a : Nat)), some (V.int (n : Nat)), some (V.int (((o * 2 ^ (m - j) : Nat) : Int) / 2)), some (V.int ((j : Int) + 1)), none, none] = _
          rw [q2]; rfl
        · show (((o * 2 ^ (m - j) : Nat) : Int) / 2).toNat < ((o * 2 ^ (m - j) : Nat) : Int).toNat
          have := Nat.mul_pos hop (pw0 (m - j))
          omega
      · have hm0 : m - j = 0 := by omega
        have hjm2 : j = m := by omega
        subst hjm2
        have q1 : ¬ ((o * 2 ^ (j - j) : Nat) : Int) % 2 = 0 := by rw [hm0, Nat.pow_zero, Nat.mul_one]; omega
        refine ite2 (fun he => absurd (V.int.inj (of_decide_eq_true he)) q1) (fun _ => ?_)
        rw [hm0, Nat.pow_zero, Nat.mul_one]
        -- found = power(number, odd, value)
        refine ⟨_, rfl, _, rfl, _, rfl, a, o, n, rfl, ⟨ha, by omega, hn2⟩, ?_⟩
        have l0 : ∀ i, sqs (a ^ o % n) n i < n := fun i => by
          cases i with
          | zero => exact Nat.mod_lt _ hnp
          | succ i => exact Nat.mod_lt _ hnp
        refine ⟨_, rfl, rfl, _, rfl, ?_⟩
        refine ite2 (fun _ => k) (fun h1 => ?_)
        refine ⟨_, rfl, _, rfl, _, _, rfl, rfl, rfl, _, rfl, ?_⟩
        refine ite2 (fun _ => k) (fun h2 => ?_)
        have n1 : a ^ o % n ≠ 1 := fun z => h1 (decide_eq_true (by rw [z]; rfl))
        have n2 : ∀ x : Nat, ¬ decide (V.int (x : Int) = V.int ((n : Int) - 1)) = true → x ≠ n - 1 := fun x hx z => hx (decide_eq_true (by rw [z, hN1]))
        have n3 := n2 _ h2
        obtain ⟨y, hy, hy2⟩ := hw.resolve_left n1
        refine ⟨_, rfl, _, _, rfl, rfl, _, rfl, by omega, by omega, ?_⟩
        refine for_range (n := ((j : Int) - 1).toNat) (fun i σ H2 => ∃ v, σ = [some (.int a), some (.int n), some (.int (o : Nat)), some (.int (j : Nat)), some (.int ((sqs (a ^ o % n) n i : Nat) : Int)), v] ∧ H2 = H1 ∧ ∀ z, z ≤ i → sqs (a ^ o % n) n z ≠ n - 1)
          ⟨none, rfl, rfl, fun z hz => by rw [show z = 0 by omega]; exact n3⟩ (fun i σ H2 hi p => ?_) (fun σ H2 p => ?_)
        · obtain ⟨v, rfl, rfl, hz⟩ := p
          have l1 := l0 i
          refine ⟨_, rfl, _, rfl, _, _, rfl, rfl, .inl ⟨by omega, by omega⟩, _, rfl, _, _, rfl, rfl, (by show (0 : Int) < n; omega), ?_⟩
          have q3 : ((sqs (a ^ o % n) n i : Nat) : Int) * ((sqs (a ^ o % n) n i : Nat) : Int) % (n : Int) = ((sqs (a ^ o % n) n (i + 1) : Nat) : Int) := by
            show _ = ((sqs (a ^ o % n) n i * sqs (a ^ o % n) n i % n : Nat) : Int)
            push_cast; rfl
          refine ⟨_, rfl, _, rfl, _, _, rfl, rfl, rfl, _, rfl, ?_⟩
          refine ite2 (fun _ => k) (fun h3 => ?_)
          refine ⟨some (.int (0 + (i : Int))), ?_, rfl, fun z hz2 => ?_⟩
          · show [some (V.int (a : Nat)), some (V.int (n : Nat)), some (V.int (o : Nat)), some (V.int (j : Nat)), some (V.int (((sqs (a ^ o % n) n i : Nat) : Int) * ((sqs (a ^ o % n) n i : Nat) : Int) % (n : Int))), _] = _
            rw [q3]
          · by_cases hzi : z ≤ i
            · exact hz z hzi
            · rw [show z = i + 1 by omega]
              refine n2 _ fun q => h3 ?_
              show decide (V.int (((sqs (a ^ o % n) n i : Nat) : Int) * ((sqs (a ^ o % n) n i : Nat) : Int) % (n : Int)) = V.int ((n : Int) - 1)) = true
              rw [q3]; exact q
        · obtain ⟨v, rfl, rfl, hz⟩ := p
          exact absurd hy2 (hz y (by omega))
    · rintro σ H1 Q1 Q2 hm ⟨v, e1, i, j, e2, e3, e5, k0, k1, e4, hq⟩
      exact ⟨v, e1, i, j, e2, e3, e5, k0, k1, e4, hm _ _ hq⟩
theorem ok_is_short (T : TX K mg) : FnOk P w K mg base CX0 2 (a_is_short K) (d_ K (a_is_short K)) ["number", "digits"] (sp_is_short K) := by
  refine T.F_is_short.ok sc_is_short (fun vs H Q E h => ?_) (fun cdv Ar outer s0 H vs Q E hr h => ?_)
  · (repeat (obtain ⟨_, h⟩ := h)); subst_vars; rfl
  · obtain ⟨i, rfl, ⟨h0, h1⟩, k⟩ := h
    have hu := hu_of hr
    refine ⟨_, (pss_cons (ps_set (i := 2) sc_is_short.nd rfl (Or.inr rfl) (pe_call (ok_ten_to T) (by exact hr.mono (by decide)) rfl T.g_ten_to T.F_ten_to.kp T.b_ten_to .nil pass0 (pa_cons (pv 1) pa_nil)))
      (pss_one (ps_ret (pe_callB (cr_all rfl) (by rfl) T.n_all (by decide +kernel) (pa_cons (pe_lc (own := [("part", 3)]) (g := gName 3) (tt := tYes) rfl sc_is_short.nd (pi_tup (pe_call (ok_parts_of T) (by exact hr.mono (by decide)) rfl T.g_parts_of T.F_parts_of.kp T.b_parts_of .nil pass0 (pa_cons (pv 0) pa_nil))) (blkOk_by (own := [("part", 3)]) (N := N_is_short) (sc := defScope s_is_short) (by decide +kernel)) (fun _ _ _ _ _ => (pg_name (i := 3) sc_is_short.nd rfl (Or.inl rfl))) (fun _ _ _ _ _ => pts_nil) (by intro _ _ _ _ _; exact (pe_cmpR op_lt (pe_callB call_abs (by rfl) T.n_abs (by decide +kernel) (pa_cons (pv 3) pa_nil)) (pv 2) (nomark _)))) pa_nil))))), ?_⟩
    refine ⟨_, rfl, rfl, ?_⟩
    refine ⟨_, rfl, i, rfl, fun p hp => ?_⟩
    refine ⟨_, rfl, ⟨_, SqT.of upd_same⟩, fun D hD => ?_⟩
    refine lc_map (walk_tup (K := K) (a := p) (xs := [V.int i, V.int 1])) (fun _ => .bl true) hD (by show 2 ≤ 100000; decide) (fun H2 s => SqT.of (s _ _ upd_same)) (fun j x H1 H2 hj s y Kt kt => ?_) (fun H1 s hD1 => ?_)
    · obtain ⟨rfl, hx⟩ := y
      have hx2 : ∃ z : Int, x = .int z ∧ 0 ≤ z ∧ z < 10 ^ 100 := by
        rcases (show j = 0 ∨ j = 1 by have : j < 2 := hj; omega) with rfl | rfl
        · exact ⟨i, (Option.some.inj hx).symm, h0, h1⟩
        · exact ⟨1, (Option.some.inj hx).symm, by decide, by decide⟩
      obtain ⟨z, rfl, z0, z1⟩ := hx2
      refine ⟨rfl, _, rfl, z, rfl, _, rfl, _, _, rfl, rfl, ?_⟩
      rw [if_neg (by omega)]
      show Kt (.bl (decide (z < 10 ^ 100))) H2
      rw [decide_eq_true z1]
      exact kt _ (Same.refl _)
    · refine ⟨D, [true, true], rfl, SqL.of hD1, k H1 ((Same.new hp).trans s)⟩
theorem ok_Modulo_is_any (T : TX K mg) : FnOk P w K mg base CX0 3 (a_Modulo_is_any K) (d_ K (a_Modulo_is_any K)) ["self", "value"] (sp_Modulo_is_any K) := by
  refine T.F_Modulo_is_any.ok sc_Modulo_is_any (fun vs H Q E h => ?_) (fun cdv Ar outer s0 H vs Q E hr h => ?_)
  · (repeat (obtain ⟨_, h⟩ := h)); subst_vars; rfl
  · obtain ⟨fa, p, a, rfl, F, k⟩ := h
    have hu := hu_of hr
    refine ⟨_, (pss_one (ps_ret (pe_call (ok_is_between T) (by exact hr.mono (by decide)) rfl T.g_is_between T.F_is_between.kp T.b_is_between .nil pass0 (pa_cons (pv 1) (pa_cons pe_int (pa_cons (pe_op op_sub (pe_fldK (K := K) rfl (pv 0) (by rfl)) pe_int) pa_nil)))))), ?_⟩
    obtain ⟨dx, e⟩ := F.ob
    refine ⟨_, rfl, _, rfl, fa, _, dx, _, _, rfl, e, T.cl_Modulo, T.na_Modulo_own_prime, rfl, _, _, rfl, rfl, _, _, _, rfl, ?_⟩
    have := a.isLt
    rw [decide_eq_true (by omega), decide_eq_true (by omega)]
    exact k
theorem ok_Modulo_add (T : TX K mg) : FnOk P w K mg base CX0 1 (a_Modulo_add K) (d_ K (a_Modulo_add K)) ["self", "one", "other"] (sp_Modulo_add K) := by
  refine T.F_Modulo_add.ok sc_Modulo_add (fun vs H Q E h => ?_) (fun cdv Ar outer s0 H vs Q E hr h => ?_)
  · (repeat (obtain ⟨_, h⟩ := h)); subst_vars; rfl
  · obtain ⟨fa, p, nz, a, b, rfl, F, k⟩ := h
    have hu := hu_of hr
    refine ⟨_, (pss_one (ps_ret (pe_op op_mod (pe_op op_add (pv 1) (pv 2)) (pe_fldK (K := K) rfl (pv 0) (by rfl))))), ?_⟩
    obtain ⟨dx, e⟩ := F.ob
    refine ⟨_, rfl, _, rfl, _, _, rfl, rfl, _, rfl, fa, _, dx, _, _, rfl, e, T.cl_Modulo, T.na_Modulo_own_prime, rfl, _, _, rfl, rfl, (by show (0 : Int) < p; have := F.six.lo; omega), ?_⟩
    exact k
theorem ok_Modulo_negative (T : TX K mg) : FnOk P w K mg base CX0 1 (a_Modulo_negative K) (d_ K (a_Modulo_negative K)) ["self", "number"] (sp_Modulo_negative K) := by
  refine T.F_Modulo_negative.ok sc_Modulo_negative (fun vs H Q E h => ?_) (fun cdv Ar outer s0 H vs Q E hr h => ?_)
  · (repeat (obtain ⟨_, h⟩ := h)); subst_vars; rfl
  · obtain ⟨fa, p, nz, a, rfl, F, k⟩ := h
    have hu := hu_of hr
    refine ⟨_, (pss_one (ps_ret (pe_op op_mod (pe_un un_neg (pv 1)) (pe_fldK (K := K) rfl (pv 0) (by rfl))))), ?_⟩
    obtain ⟨dx, e⟩ := F.ob
    refine ⟨_, rfl, _, rfl, _, rfl, fa, _, dx, _, _, rfl, e, T.cl_Modulo, T.na_Modulo_own_prime, rfl, _, _, rfl, rfl, (by show (0 : Int) < p; have := F.six.lo; omega), ?_⟩
    have e2 : (-((a.val : Nat) : Int)) % (p : Int) = (((-a : _root_.Fin p).val : Nat) : Int) := by
      have h1 : (-a : _root_.Fin p).val = (p - a.val) % p := rfl
      rw [h1]
      have := a.isLt
      rw [Int.natCast_emod, Int.natCast_sub (by omega), Int.sub_eq_add_neg]
      simp
    show Q (.int ((-((a.val : Nat) : Int)) % (p : Int))) H
    rw [e2]
    exact k
theorem ok_Modulo_multiply (T : TX K mg) : FnOk P w K mg base CX0 1 (a_Modulo_multiply K) (d_ K (a_Modulo_multiply K)) ["self", "one", "other"] (sp_Modulo_multiply K) := by
  refine T.F_Modulo_multiply.ok sc_Modulo_multiply (fun vs H Q E h => ?_) (fun cdv Ar outer s0 H vs Q E hr h => ?_)
  · (repeat (obtain ⟨_, h⟩ := h)); subst_vars; rfl
  · obtain ⟨fa, p, nz, a, b, rfl, F, k⟩ := h
    have hu := hu_of hr
    refine ⟨_, (pss_one (ps_ret (pe_op op_mod (pe_op op_mul (pv 1) (pv 2)) (pe_fldK (K := K) rfl (pv 0) (by rfl))))), ?_⟩
    obtain ⟨dx, e⟩ := F.ob
    have := a.isLt
    have := F.six.hi
    refine ⟨_, rfl, _, rfl, _, _, rfl, rfl, .inl ⟨by omega, by omega⟩, _, rfl, fa, _, dx, _, _, rfl, e, T.cl_Modulo, T.na_Modulo_own_prime, rfl, _, _, rfl, rfl, (by show (0 : Int) < p; have := F.six.lo; omega), ?_⟩
    exact k
theorem ok_Modulo_divide (T : TX K mg) : FnOk P w K mg base CX0 2 (a_Modulo_divide K) (d_ K (a_Modulo_divide K)) ["self", "one", "other"] (sp_Modulo_divide K) := by
  refine T.F_Modulo_divide.ok sc_Modulo_divide (fun vs H Q E h => ?_) (fun cdv Ar outer s0 H vs Q E hr h => ?_)
  · (repeat (obtain ⟨_, h⟩ := h)); subst_vars; rfl
  · obtain ⟨fa, p, nz, a, b, rfl, F, k⟩ := h
    have hu := hu_of hr
    refine ⟨_, (pss_one (ps_ret (pe_op op_mod (pe_op op_mul (pv 1) (pe_call (ok_power T) (by exact hr.mono (by decide)) rfl T.g_power T.F_power.kp T.b_power .nil pass0 (pa_cons (pv 2) (pa_cons (pe_op op_sub (pe_fldK (K := K) rfl (pv 0) (by rfl)) pe_int) (pa_cons (pe_fldK (K := K) rfl (pv 0) (by rfl)) pa_nil))))) (pe_fldK (K := K) rfl (pv 0) (by rfl))))), ?_⟩
    obtain ⟨dx, e⟩ := F.ob
    have := a.isLt
    have := b.isLt
    have := F.six.hi
    have := F.six.lo
    refine ⟨_, rfl, _, rfl, _, rfl, fa, _, dx, _, _, rfl, e, T.cl_Modulo, T.na_Modulo_own_prime, rfl, _, _, rfl, rfl, _, rfl, fa, _, dx, _, _, rfl, e, T.cl_Modulo, T.na_Modulo_own_prime, rfl, ?_⟩
    refine ⟨b.val, p - 2, p, ?_, ⟨by omega, by omega, by omega⟩, ?_⟩
    · show [V.int (b.val : Nat), V.int ((p : Int) - 2), V.int (p : Nat)] = _
      rw [show (p : Int) - 2 = ((p - 2 : Nat) : Int) by omega]
    refine ⟨_, _, rfl, rfl, .inl ⟨by omega, by omega⟩, _, rfl, fa, _, dx, _, _, rfl, e, T.cl_Modulo, T.na_Modulo_own_prime, rfl, _, _, rfl, rfl, (by show (0 : Int) < p; omega), ?_⟩
    exact k
theorem ok_Field_subtract (T : TX K mg) : FnOk P w K mg base CX0 2 (a_Field_subtract K) (d_ K (a_Field_subtract K)) ["self", "one", "other"] (sp_Field_subtract K) := by
  refine T.F_Field_subtract.ok sc_Field_subtract (fun vs H Q E h => ?_) (fun cdv Ar outer s0 H vs Q E hr h => ?_)
  · (repeat (obtain ⟨_, h⟩ := h)); subst_vars; rfl
  · obtain ⟨fa, p, nz, a, b, rfl, F, k⟩ := h
    have hu := hu_of hr
    refine ⟨_, (pss_one (ps_ret (pe_meth (pv 0) T.cl_Modulo T.mt_Modulo_add (ok_Modulo_add T) (by exact hr.mono (by decide)) T.b_Modulo_add .nil pass0 (pa_cons (pv 1) (pa_cons (pe_meth (pv 0) T.cl_Modulo T.mt_Modulo_negative (ok_Modulo_negative T) (by exact hr.mono (by decide)) T.b_Modulo_negative .nil pass0 (pa_cons (pv 2) pa_nil)) pa_nil))))), ?_⟩
    obtain ⟨dx, e⟩ := F.ob
    refine ⟨_, rfl, fa, dx, _, rfl, e, no_field (by decide +kernel), _, rfl, _, rfl, fa, dx, _, rfl, e, no_field (by decide +kernel), _, rfl, fa, p, nz, b, rfl, F, ?_⟩
    refine ⟨fa, p, nz, a, -b, rfl, F, ?_⟩
    have e2 : a + -b = a - b := by grind
    rw [e2]
    exact k
theorem ok_Field_is_number (T : TX K mg) : FnOk P w K mg base CX0 4 (a_Field_is_number K) (d_ K (a_Field_is_number K)) ["self", "value"] (sp_Field_is_number K) := by
  refine T.F_Field_is_number.ok sc_Field_is_number (fun vs H Q E h => ?_) (fun cdv Ar outer s0 H vs Q E hr h => ?_)
  · (repeat (obtain ⟨_, h⟩ := h)); subst_vars; rfl
  · obtain ⟨fa, p, a, rfl, F, k⟩ := h
    obtain ⟨u_MAX_DIGITS, h_MAX_DIGITS⟩ := T.k_MAX_DIGITS
    have hu := hu_of hr
    refine ⟨_, (pss_one (ps_ret (pe_and (pe_meth (pv 0) T.cl_Modulo T.mt_Modulo_is_any (ok_Modulo_is_any T) (by exact hr.mono (by decide)) T.b_Modulo_is_any .nil pass0 (pa_cons (pv 1) pa_nil)) (pe_one (pe_call (ok_is_short T) (by exact hr.mono (by decide)) rfl T.g_is_short T.F_is_short.kp T.b_is_short .nil pass0 (pa_cons (pv 1) (pa_cons (pe_glob (v := .int 100) rfl h_MAX_DIGITS ⟨_, rfl⟩) pa_nil))))))), ?_⟩
    obtain ⟨dx, e⟩ := F.ob
    refine ⟨_, rfl, fa, dx, _, rfl, e, no_field (by decide +kernel), _, rfl, fa, p, a, rfl, F, true, rfl, iteT ?_⟩
    have h1 := a.isLt
    have h2 := F.six.hi
    refine ⟨_, rfl, (a.val : Int), rfl, ⟨by omega, ?_⟩, k⟩
    have : (1000003 : Int) < 10 ^ 100 := by decide
    omega
end
end Fa

namespace Fa
open PySem PySem.Spec L2
/-! ### an order of one letter -/
theorem valV_one {κ : Type} [DecidableEq κ] (k : κ) (v : V) : valV [(k, v)] k = some v := by simp [valV]
def oflds (c : Nat) (ca : Addr) : List (Str × V) := [("own_letters", .str (A c 1)), ("own_costs", .ref ca)]
theorem oflds_costs (c : Nat) (ca : Addr) : (oflds c ca).lookup ("own_costs" : Str) = some (.ref ca) := by
  have e : (("own_costs" : Str) == ("own_letters" : Str)) = false := by decide +kernel
  unfold oflds
  rw [List.lookup_cons, e]
  rfl
theorem oflds_letters (c : Nat) (ca : Addr) : (oflds c ca).lookup ("own_letters" : Str) = some (.str (A c 1)) := rfl
theorem oflds_no {m : Str} (c : Nat) (ca : Addr) (h1 : ¬ m = "own_letters") (h2 : ¬ m = "own_costs") : (oflds c ca).lookup m = none := by
  unfold oflds
  rw [List.lookup_cons, beq_eq_false_iff_ne.mpr h1]
  show List.lookup m [(("own_costs" : Str), V.ref ca)] = none
  rw [List.lookup_cons, beq_eq_false_iff_ne.mpr h2]
  rfl
structure OrderAt (K : PySem.W.Frag) (H : Hp) (oa : Addr) (c : Nat) (ca : Addr) : Prop where
  ob : ∃ dx, H oa = some (.ins (c_Order K) dx (oflds c ca))
  co : H ca = some (.dK [(Sum.inr (A c 1), .int 1)])
  lo : 97 ≤ c
  hi : c ≤ 122
theorem OrderAt.same {K : PySem.W.Frag} {H H' : Hp} {oa ca : Addr} {c : Nat} (o : OrderAt K H oa c ca) (s : Same H H') : OrderAt K H' oa c ca := ⟨let ⟨dx, e⟩ := o.ob; ⟨dx, s _ _ e⟩, s _ _ o.co, o.lo, o.hi⟩
theorem _root_.L2.Same.unlock {H H' : Hp} {d : Addr} {od : Obj} {u : HO} (s : Same (upd H d (.frz od u)) H') (h : H d = some u) : Same H (upd H' d u) := fun b o e => by
  by_cases hb : b = d
  · subst hb
    rw [upd_same, ← e, h]
  · rw [upd_ne hb]
    exact s b o (by rw [upd_ne hb]; exact e)
def ones (n : Nat) : List V := List.replicate n (.int 1)
/-! ### promises -/
def sp_Order_letters (K : PySem.W.Frag) : Sp := fun vs H Q _ => ∃ (oa ca : Addr) (c : Nat), vs = [.ref oa] ∧ OrderAt K H oa c ca ∧ Q (.str (A c 1)) H
def sp_Order_cost_of (K : PySem.W.Frag) : Sp := fun vs H Q _ => ∃ (oa ca : Addr) (c k : Nat), vs = [.ref oa, .str (A c k)] ∧ OrderAt K H oa c ca ∧ k ≤ 160 ∧ ∀ H', Same H H' → Q (.int (k : Nat)) H'
def sp_Order_key (K : PySem.W.Frag) : Sp := fun vs H Q _ => ∃ (oa ca : Addr) (c k : Nat), vs = [.ref oa, .str (A c k)] ∧ OrderAt K H oa c ca ∧ k ≤ 160 ∧ ∀ p H', H p = none → Same H H' → H' p = some (.tup [.int (k : Nat), .str (A c k)]) → Q (.ref p) H'
def sp_Order_below (K : PySem.W.Frag) : Sp := fun vs H Q _ => ∃ (oa ca : Addr) (c i j : Nat), vs = [.ref oa, .str (A c i), .str (A c j)] ∧ OrderAt K H oa c ca ∧ (i ≤ 160 ∧ j ≤ 160) ∧ ∀ H', Same H H' → Q (.bl (decide (i < j))) H'
def sp_Order_is_before (K : PySem.W.Frag) : Sp := sp_Order_below K
def sp_Order_count_next (K : PySem.W.Frag) : Sp := fun vs H Q _ => ∃ (oa ca la : Addr) (c n : Nat), vs = [.ref oa, .ref la] ∧ OrderAt K H oa c ca ∧ SqL K H la (ones n) ∧ n ≤ 1000 ∧ ∀ H', Same H H' → Q (.int 1) H'
def sp_Order_counts_to (K : PySem.W.Frag) : Sp := fun vs H Q _ => ∃ (oa ca : Addr) (c n : Nat), vs = [.ref oa, .int (n : Nat)] ∧ OrderAt K H oa c ca ∧ n ≤ 900 ∧ ∀ p H', H p = none → Same H H' → H' p = some (.lst (ones (n + 1))) → Q (.ref p) H'
def sp_Order_is_possible (K : PySem.W.Frag) : Sp := fun vs H Q _ => ∃ (oa ca la : Addr) (c m n : Nat), vs = [.ref oa, .str (A c 1), .int (m : Nat), .ref la] ∧ OrderAt K H oa c ca ∧ SqL K H la (ones n) ∧ (1 ≤ m ∧ m ≤ n) ∧ Q (.bl true) H
def sp_Order_filled (K : PySem.W.Frag) : Sp := fun vs H Q _ => ∃ (oa ca la : Addr) (c m n : Nat), vs = [.ref oa, .int (m : Nat), .ref la, .bl false] ∧ OrderAt K H oa c ca ∧ SqL K H la (ones n) ∧ (m ≤ n ∧ n ≤ 1000) ∧ ∀ H', Same H H' → Q (.str (A c m)) H'
def sp_Order_neighbor (K : PySem.W.Frag) : Sp := fun vs H Q _ => ∃ (oa ca la : Addr) (c k : Nat), vs = [.ref oa, .str (A c k), .ref la, .bl true] ∧ OrderAt K H oa c ca ∧ k ≤ 160 ∧ ∀ H', Same H H' → Q .non H'
def sp_Order_follower (K : PySem.W.Frag) : Sp := fun vs H Q _ => ∃ (oa ca : Addr) (c k : Nat), vs = [.ref oa, .str (A c k)] ∧ OrderAt K H oa c ca ∧ k ≤ 160 ∧ ∀ H', Same H H' → Q (.str (A c (k + 1))) H'
def sp_Order_after (K : PySem.W.Frag) : Sp := sp_Order_follower K
section
variable {P : Program} {w : World} {K : PySem.W.Frag} {mg : Str → Option Value} {base : Heap}
theorem ok_without (T : TX K mg) : FnOk P w K mg base CX0 3 (a_without K) (d_ K (a_without K)) ["field", "row", "factor", "other"] (sp_without K) := by
  refine T.F_without.ok sc_without (fun vs H Q E h => ?_) (fun cdv Ar outer s0 H vs Q E hr h => ?_)
  · (repeat (obtain ⟨_, h⟩ := h)); subst_vars; rfl
  · obtain ⟨fa, ra, oa, p, nz, xs, ys, f, rfl, F, hx, hy, ⟨hl, hl2⟩, k⟩ := h
    have hu := hu_of hr
    refine ⟨_, (pss_cons (ps_if (pt_cmpR op_eq (pv 2) pe_int (nomark _)) (pss_one (ps_ret (pe_callTy call_list_of (by rfl) T.n_list (by decide +kernel) (pa_cons (pv 1) pa_nil)))) pss_nil)
      (pss_one (ps_ret (pe_lc (own := [("one", 4), ("two", 5)]) (g := gTup K 2 (gCons (gName 4) ( gCons (gName 5) (gNil)))) (tt := tYes) rfl sc_without.nd (pi_zip (by rfl) T.n_zip (pa_cons (pv 1) (pa_cons (pv 3) pa_nil))) (blkOk_by (own := [("one", 4), ("two", 5)]) (N := N_without) (sc := defScope s_without) (by decide +kernel)) (fun _ _ _ _ _ => (pg_tup (by rfl) (pgs_cons (pg_name (i := 4) sc_without.nd rfl (Or.inl rfl)) (pgs_cons (pg_name (i := 5) sc_without.nd rfl (Or.inl rfl)) pgs_nil)))) (fun _ _ _ _ _ => pts_nil) (by intro _ _ _ _ _; exact (pe_ifExp (pt_cmpR op_ne (pv 5) pe_int (nomark _)) (pe_meth (pv 0) T.cl_Modulo T.mt_Modulo_subtract (ok_Field_subtract T) (by exact hr.mono (by decide)) T.b_Field_subtract .nil pass0 (pa_cons (pv 4) (pa_cons (pe_meth (pv 0) T.cl_Modulo T.mt_Modulo_multiply (ok_Modulo_multiply T) (by exact hr.mono (by decide)) T.b_Modulo_multiply .nil pass0 (pa_cons (pv 2) (pa_cons (pv 5) pa_nil))) pa_nil))) (pv 4))))))), ?_⟩
    have hfp := F.six.lo
    refine ⟨_, rfl, rfl, _, rfl, ?_⟩
    have zf : ∀ f : _root_.Fin p, decide (V.int ((f.val : Nat) : Int) = V.int 0) = true ↔ f = 0 := fun f => by
      rw [decide_eq_true_iff]
      constructor
      · intro q
        have : ((f.val : Nat) : Int) = 0 := V.int.inj q
        exact _root_.Fin.ext (by show f.val = 0 % p; rw [Nat.zero_mod]; omega)
      · intro q
        subst q
        have : (0 : _root_.Fin p).val = 0 := by show 0 % p = 0; exact Nat.zero_mod p
        rw [this]; rfl
    have zl : (List.zipWith (fun a b => a - f * b) xs ys).length = xs.length := by rw [List.length_zipWith]; omega
    refine ite2 (fun hf => ?_) (fun hf => ?_)
    · have hf0 : f = 0 := (zf f).mp hf
      refine ⟨_, rfl, ra, _, rfl, .inl hx, fun D hD => k D _ hD (Same.new hD) ?_⟩
      rw [upd_same]
      have e : List.zipWith (fun a b => a - f * b) xs ys = xs := by
        refine List.ext_getElem (by rw [zl]) fun i h1 h2 => ?_
        rw [List.getElem_zipWith]
        have hz : ∀ a b : _root_.Fin p, a - f * b = a := fun a b => by rw [hf0]; grind
        exact hz _ _
      rw [e]
    · refine ⟨_, rfl, _, rfl, ra, oa, _, _, rfl, hx, hy, fun D hD => ?_⟩
      refine lc_map (walk_zip (n := xs.length) (by rw [List.length_map, List.length_map]; omega)) (fun i => ((List.zipWith (fun a b => a - f * b) xs ys).map fv).getD i .non) hD (by omega) (fun H1 s => ⟨s.seq hx, s.seq hy⟩) (fun i x H1 H2 hi s y Kt kt => ?_) (fun H1 s hD1 => k D H1 hD s ?_)
      · obtain ⟨Tp, a, b, rfl, hT, rfl, ha, hb⟩ := y
        have ha2 : a = fv (xs[i]'hi) := by
          replace ha : (xs.map fv)[i]? = some a := ha
          rw [List.getElem?_map, List.getElem?_eq_getElem hi] at ha
          exact (Option.some.inj ha).symm
        have hb2 : b = fv (ys[i]'(by omega)) := by
          replace hb : (ys.map fv)[i]? = some b := hb
          rw [List.getElem?_map, List.getElem?_eq_getElem (by omega)] at hb
          exact (Option.some.inj hb).symm
        subst ha2 hb2
        have F1 := F.same (s.trans (Same.new hT (o := .tup [fv (xs[i]'hi), fv (ys[i]'(by omega))])))
        obtain ⟨dx, e⟩ := F1.ob
        have kt2 : Kt (fv (xs[i]'hi - f * ys[i]'(by omega))) (upd H1 Tp (.tup [fv (xs[i]'hi), fv (ys[i]'(by omega))])) := by
          have := kt _ (Same.new hT (o := .tup [fv (xs[i]'hi), fv (ys[i]'(by omega))]))
          have e2 : ((List.zipWith (fun a b => a - f * b) xs ys).map fv).getD i .non = fv (xs[i]'hi - f * ys[i]'(by omega)) := by
            rw [List.getD_eq_getElem?_getD, List.getElem?_map, List.getElem?_eq_getElem (by rw [zl]; exact hi), List.getElem_zipWith]; rfl
          rw [e2] at this
          exact this
        refine ⟨Tp, _, rfl, SqT.of upd_same, rfl, _, _, rfl, _, _, rfl, rfl, rfl, ?_⟩
        refine ⟨_, rfl, rfl, _, rfl, ?_⟩
        by_cases hy0 : ys[i]'(by omega) = 0
        · rw [(zf _).mpr hy0]
          refine iteF ⟨_, rfl, ?_⟩
          have e3 : xs[i]'hi - f * ys[i]'(by omega) = xs[i]'hi := by rw [hy0]; grind
          rw [e3] at kt2
          exact kt2
        · have : decide (V.int (((ys[i]'(by omega)).val : Nat) : Int) = V.int 0) = false := by
            cases q : decide (V.int (((ys[i]'(by omega)).val : Nat) : Int) = V.int 0) with
            | false => rfl
            | true => exact absurd ((zf _).mp q) hy0
          rw [this]
          refine iteT ⟨_, rfl, fa, dx, _, rfl, e, no_field (by decide +kernel), _, rfl, _, rfl, fa, dx, _, rfl, e, no_field (by decide +kernel), _, rfl, _, rfl, fa, p, nz, f, _, rfl, F1, ?_⟩
          exact ⟨fa, p, nz, _, _, rfl, F1, kt2⟩
      · rw [hD1]
        congr 2
        refine List.ext_getElem (by rw [List.length_map, List.length_map, List.length_range, zl]) fun i h1 h2 => ?_
        rw [List.getElem_map, List.getElem_range, List.getD_eq_getElem?_getD, List.getElem?_eq_getElem h2]; rfl
theorem ok_Order_letters (T : TX K mg) : FnOk P w K mg base CX0 1 (a_Order_letters K) (d_ K (a_Order_letters K)) ["self"] (sp_Order_letters K) := by
  refine T.F_Order_letters.ok sc_Order_letters (fun vs H Q E h => ?_) (fun cdv Ar outer s0 H vs Q E hr h => ?_)
  · (repeat (obtain ⟨_, h⟩ := h)); subst_vars; rfl
  · obtain ⟨oa, ca, c, rfl, O, k⟩ := h
    have hu := hu_of hr
    refine ⟨_, (pss_one (ps_ret (pe_fldK (K := K) rfl (pv 0) (by rfl)))), ?_⟩
    obtain ⟨dx, e⟩ := O.ob
    exact ⟨_, rfl, oa, _, dx, _, _, rfl, e, T.cl_Order, T.na_Order_own_letters, oflds_letters c ca, k⟩
theorem ok_Order_cost_of (T : TX K mg) : FnOk P w K mg base CX0 1 (a_Order_cost_of K) (d_ K (a_Order_cost_of K)) ["self", "word"] (sp_Order_cost_of K) := by
  refine T.F_Order_cost_of.ok sc_Order_cost_of (fun vs H Q E h => ?_) (fun cdv Ar outer s0 H vs Q E hr h => ?_)
  · (repeat (obtain ⟨_, h⟩ := h)); subst_vars; rfl
  · obtain ⟨oa, ca, c, n, rfl, O, hn, k⟩ := h
    have hu := hu_of hr
    refine ⟨_, (pss_one (ps_ret (pe_callB (cr_sum rfl) (by rfl) T.n_sum (by decide +kernel) (pa_cons (pe_lc (own := [("letter", 2)]) (g := gName 2) (tt := tYes) rfl sc_Order_cost_of.nd (pi_str (pv 1)) (blkOk_by (own := [("letter", 2)]) (N := N_Order_cost_of) (sc := defScope s_Order_cost_of) (by decide +kernel)) (fun _ _ _ _ _ => (pg_name (i := 2) sc_Order_cost_of.nd rfl (Or.inl rfl))) (fun _ _ _ _ _ => pts_nil) (by intro _ _ _ _ _; exact (pe_dget (by exact hu) (pe_fldK (K := K) rfl (pv 0) (by rfl)) (pv 2) (fun _ _ => rfl)))) pa_nil)))), ?_⟩
    obtain ⟨dx, e⟩ := O.ob
    refine ⟨_, rfl, _, rfl, fun D hD => ?_⟩
    refine lc_map walk_str (fun _ => .int 1) hD (by rw [A_size]; omega) (fun _ _ => trivial) (fun i x H1 H2 hi s y Kt kt => ?_) (fun H1 s hD1 => ?_)
    · obtain ⟨rfl, d, hd, rfl⟩ := y
      have ed : d = c := A_at hd
      subst ed
      refine ⟨rfl, _, rfl, oa, _, dx, _, _, rfl, s _ _ e, T.cl_Order, T.na_Order_own_costs, oflds_costs d ca, _, rfl, ca, .int 1, rfl, ?_, kt _ (Same.refl _)⟩
      have g := DGet.k (k := (Sum.inr (A d 1) : Key)) (s _ _ O.co)
      rw [valV_one] at g
      exact g
    · refine ⟨D, (List.range (A c n).cps.size).map fun _ => (1 : Int), rfl, SqL.of (by rw [hD1, List.map_map]; rfl), ?_⟩
      have e2 : ((List.range (A c n).cps.size).map fun _ => (1 : Int)).sum = (n : Int) := by
        rw [A_size, List.map_const', List.length_range, List.sum_replicate_int]
        omega
      rw [e2]
      exact k H1 s
theorem ok_Order_key (T : TX K mg) : FnOk P w K mg base CX0 2 (a_Order_key K) (d_ K (a_Order_key K)) ["self", "word"] (sp_Order_key K) := by
  refine T.F_Order_key.ok sc_Order_key (fun vs H Q E h => ?_) (fun cdv Ar outer s0 H vs Q E hr h => ?_)
  · (repeat (obtain ⟨_, h⟩ := h)); subst_vars; rfl
  · obtain ⟨oa, ca, c, n, rfl, O, hn, k⟩ := h
    have hu := hu_of hr
    refine ⟨_, (pss_one (ps_ret (pe_tup (pa_cons (pe_meth (pv 0) T.cl_Order T.mt_Order_cost_of (ok_Order_cost_of T) (by exact hr.mono (by decide)) T.b_Order_cost_of .nil pass0 (pa_cons (pv 1) pa_nil)) (pa_cons (pv 1) pa_nil))))), ?_⟩
    obtain ⟨dx, e⟩ := O.ob
    refine ⟨_, rfl, oa, dx, _, rfl, e, oflds_no c ca (by decide +kernel) (by decide +kernel), _, rfl, oa, ca, c, n, rfl, O, hn, fun H1 s => ?_⟩
    exact ⟨_, rfl, by show 2 ≤ sizeLine; decide, fun p hp => k p _ (s.free hp) (s.put (s.free hp)) upd_same⟩
theorem ok_Order_below (T : TX K mg) : FnOk P w K mg base CX0 3 (a_Order_below K) (d_ K (a_Order_below K)) ["self", "one", "other"] (sp_Order_below K) := by
  refine T.F_Order_below.ok sc_Order_below (fun vs H Q E h => ?_) (fun cdv Ar outer s0 H vs Q E hr h => ?_)
  · (repeat (obtain ⟨_, h⟩ := h)); subst_vars; rfl
  · obtain ⟨oa, ca, c, i, j, rfl, O, ⟨hi, hj⟩, k⟩ := h
    have hu := hu_of hr
    refine ⟨_, (pss_one (ps_ret (pe_cmpR (op_ltKey (by exact hr.units0)) (pe_meth (pv 0) T.cl_Order T.mt_Order_key (ok_Order_key T) (by exact hr.mono (by decide)) T.b_Order_key .nil pass0 (pa_cons (pv 1) pa_nil)) (pe_meth (pv 0) T.cl_Order T.mt_Order_key (ok_Order_key T) (by exact hr.mono (by decide)) T.b_Order_key .nil pass0 (pa_cons (pv 2) pa_nil)) (nomark _)))), ?_⟩
    obtain ⟨dx, e⟩ := O.ob
    refine ⟨_, rfl, oa, dx, _, rfl, e, oflds_no c ca (by decide +kernel) (by decide +kernel), _, rfl, oa, ca, c, i, rfl, O, hi, fun p H1 hp s hpp => ?_⟩
    refine ⟨_, rfl, oa, dx, _, rfl, s _ _ e, oflds_no c ca (by decide +kernel) (by decide +kernel), _, rfl, oa, ca, c, j, rfl, O.same s, hj, fun q H2 hq s2 hqq => ?_⟩
    refine ⟨p, q, _, _, _, _, rfl, rfl, s2 _ _ hpp, hqq, ?_⟩
    have e2 : (if ((i : Nat) : Int) = ((j : Nat) : Int) then (if A c i = A c j then false else decide ((A c i).cps.toList < (A c j).cps.toList)) else decide (((i : Nat) : Int) < ((j : Nat) : Int))) = decide (i < j) := by
      by_cases h1 : i = j
      · subst h1; simp
      · rw [if_neg (by omega)]
        exact decide_eq_decide.mpr (by omega)
    rw [e2]
    exact k H2 (s.trans s2)
theorem ok_Order_is_before (T : TX K mg) : FnOk P w K mg base CX0 4 (a_Order_is_before K) (d_ K (a_Order_is_before K)) ["self", "word", "other"] (sp_Order_is_before K) := by
  refine T.F_Order_is_before.ok sc_Order_is_before (fun vs H Q E h => ?_) (fun cdv Ar outer s0 H vs Q E hr h => ?_)
  · (repeat (obtain ⟨_, h⟩ := h)); subst_vars; rfl
  · obtain ⟨oa, ca, c, i, j, rfl, O, ⟨hi, hj⟩, k⟩ := h
    obtain ⟨ds_nw, r_nw, b_nw⟩ := T.b_need_word
    have hu := hu_of hr
    refine ⟨_, (pss_cons (ps_expr (pe_call (ok_need_word T) (by exact hr.mono (by decide)) rfl T.g_need_word T.F_need_word.kp b_nw r_nw pass0 (pa_cons (pe_fldK (K := K) rfl (pv 0) (by rfl)) (pa_cons (pv 1) pa_nil))))
      (pss_cons (ps_expr (pe_call (ok_need_word T) (by exact hr.mono (by decide)) rfl T.g_need_word T.F_need_word.kp b_nw r_nw pass0 (pa_cons (pe_fldK (K := K) rfl (pv 0) (by rfl)) (pa_cons (pv 2) pa_nil))))
      (pss_one (ps_ret (pe_meth (pv 0) T.cl_Order T.mt_Order_below (ok_Order_below T) (by exact hr.mono (by decide)) T.b_Order_below .nil pass0 (pa_cons (pv 1) (pa_cons (pv 2) pa_nil))))))), ?_⟩
    obtain ⟨dx, e⟩ := O.ob
    refine ⟨_, rfl, oa, _, dx, _, _, rfl, e, T.cl_Order, T.na_Order_own_letters, oflds_letters c ca, _, rfl, c, i, rfl, hi, fun H1 s => ?_⟩
    refine ⟨_, rfl, oa, _, dx, _, _, rfl, s _ _ e, T.cl_Order, T.na_Order_own_letters, oflds_letters c ca, _, rfl, c, j, rfl, hj, fun H2 s2 => ?_⟩
    exact ⟨_, rfl, oa, dx, _, rfl, s2 _ _ (s _ _ e), oflds_no c ca (by decide +kernel) (by decide +kernel), _, rfl, _, rfl, oa, ca, c, i, j, rfl, O.same (s.trans s2), ⟨hi, hj⟩, fun H3 s3 => k H3 ((s.trans s2).trans s3)⟩
theorem ok_Order_is_possible (T : TX K mg) : FnOk P w K mg base CX0 1 (a_Order_is_possible K) (d_ K (a_Order_is_possible K)) ["self", "letter", "cost", "counts"] (sp_Order_is_possible K) := by
  refine T.F_Order_is_possible.ok sc_Order_is_possible (fun vs H Q E h => ?_) (fun cdv Ar outer s0 H vs Q E hr h => ?_)
  · (repeat (obtain ⟨_, h⟩ := h)); subst_vars; rfl
  · obtain ⟨oa, ca, la, c, m, n, rfl, O, hL, ⟨h1, h2⟩, k⟩ := h
    have hu := hu_of hr
    refine ⟨_, (pss_cons (ps_set (i := 4) sc_Order_is_possible.nd rfl (Or.inl rfl) (pe_op op_sub (pv 2) (pe_dget (by exact hu) (pe_fldK (K := K) rfl (pv 0) (by rfl)) (pv 1) (fun _ _ => rfl))))
      (pss_one (ps_ret (pe_and (pe_cmpR op_ge (pv 4) pe_int (nomark _)) (pe_one (pe_cmpR op_gt (pe_ix (ix_listK (K := K) rfl) (pv 3) (pv 4) (fun _ _ => rfl)) pe_int (nomark _))))))), ?_⟩
    obtain ⟨dx, e⟩ := O.ob
    refine ⟨_, rfl, _, rfl, oa, _, dx, _, _, rfl, e, T.cl_Order, T.na_Order_own_costs, oflds_costs c ca, _, rfl, ca, .int 1, rfl, ?_, _, _, rfl, rfl, ?_⟩
    · have g := DGet.k (k := (Sum.inr (A c 1) : Key)) O.co
      rw [valV_one] at g
      exact g
    refine ⟨_, rfl, _, _, rfl, rfl, decide ((0 : Int) ≤ (m : Int) - 1), rfl, ?_⟩
    rw [decide_eq_true (show (0 : Int) ≤ (m : Int) - 1 by omega)]
    refine iteT ⟨_, rfl, _, rfl, la, ones n, _, .int 1, rfl, rfl, hL, ?_, _, _, rfl, rfl, ?_⟩
    · refine at_of (j := m - 1) (by omega) ?_
      unfold ones
      rw [List.getElem?_replicate, if_pos (by omega)]
    · exact k
end
end Fa

namespace Fa
open PySem PySem.Spec L2
theorem SqL_other {K : PySem.W.Frag} {H : Hp} {la ca : Addr} {xs : List V} {kvs : List (Key × V)} {u : HO} (h : SqL K H la xs) (hc : H ca = some (.dK kvs)) : SqL K (upd H ca u) la xs := by
  rcases h with (h | ⟨o, h⟩) | h
  · have n : la ≠ ca := ne_of h hc (by intro z; cases z)
    exact .inl (.inl (by rw [upd_ne n]; exact h))
  · have n : la ≠ ca := ne_of h hc (by intro z; cases z)
    exact .inl (.inr ⟨o, by rw [upd_ne n]; exact h⟩)
  · exact .inr h
theorem ones_get {n i : Nat} (h : i < n) : (ones n)[i]? = some (.int 1) := by
  unfold ones
  rw [List.getElem?_replicate, if_pos h]
theorem ones_len (n : Nat) : (ones n).length = n := List.length_replicate
theorem ones_succ (n : Nat) : ones n ++ [.int 1] = ones (n + 1) := by
  unfold ones
  rw [List.replicate_succ']
section
variable {P : Program} {w : World} {K : PySem.W.Frag} {mg : Str → Option Value} {base : Heap}
theorem ok_Order_count_next (T : TX K mg) : FnOk P w K mg base CX0 1 (a_Order_count_next K) (d_ K (a_Order_count_next K)) ["self", "counts"] (sp_Order_count_next K) := by
  refine T.F_Order_count_next.ok sc_Order_count_next (fun vs H Q E h => ?_) (fun cdv Ar outer s0 H vs Q E hr h => ?_)
  · (repeat (obtain ⟨_, h⟩ := h)); subst_vars; rfl
  · obtain ⟨oa, ca, la, c, n, rfl, O, hL, hn, k⟩ := h
    have hu := hu_of hr
    refine ⟨_, (pss_cons (ps_set (i := 2) sc_Order_count_next.nd rfl (Or.inr rfl) (pe_callB call_len_seq (by rfl) T.n_len (by decide +kernel) (pa_cons (pv 1) pa_nil)))
      (pss_cons (ps_if (pt_cmpR op_eq (pv 2) pe_int (nomark _)) (pss_one (ps_ret pe_int)) pss_nil)
      (pss_one (ps_ret (pe_callB (cr_sum rfl) (by rfl) T.n_sum (by decide +kernel) (pa_cons (pe_lock (pe_lc (own := [("own", 3)]) (g := gName 3) (tt := _) rfl sc_Order_count_next.nd (pi_values (pe_fldK (K := K) rfl (pv 0) (by rfl))) (blkOk_by (own := [("own", 3)]) (N := N_Order_count_next) (sc := defScope s_Order_count_next) (by decide +kernel)) (fun _ _ _ _ _ => (pg_name (i := 3) sc_Order_count_next.nd rfl (Or.inl rfl))) (by intro _ _ _ _ _; exact pts_one (pt_cmpR op_le (pv 3) (pv 2) (nomark _))) (by intro _ _ _ _ _; exact (pe_ix (ix_listK (K := K) rfl) (pv 1) (pe_op op_sub (pv 2) (pv 3)) (fun _ _ => rfl))))) pa_nil)))))), ?_⟩
    obtain ⟨dx, e⟩ := O.ob
    have noc : oa ≠ ca := ne_of e O.co (by intro z; cases z)
    refine ⟨_, rfl, la, _, rfl, .inl hL, ?_⟩
    rw [ones_len]
    refine ⟨_, rfl, rfl, _, rfl, ?_⟩
    refine ite2 (fun _ => k H (Same.refl _)) (fun hn0 => ?_)
    have hn1 : 0 < n := by
      rcases Nat.eq_zero_or_pos n with h0 | h0
      · exact absurd (decide_eq_true (by rw [h0]; rfl)) hn0
      · exact h0
    refine ⟨ca, _, O.co, trivial, fun od => ?_⟩
    refine ⟨_, rfl, oa, _, dx, _, _, rfl, by rw [upd_ne noc]; exact e, T.cl_Order, T.na_Order_own_costs, oflds_costs c ca, ca, od, _, rfl, upd_same, fun D hD => ?_⟩
    refine lc_fil walk_values (fun _ => some (.int 1)) hD (by show 1 ≤ 100000; decide) (fun H1 s => s _ _ upd_same) (fun i x H1 H2 hi s y Kt kt => ?_) (fun H1 s hD1 => ?_)
    · obtain ⟨rfl, kk, hk⟩ := y
      obtain rfl : i = 0 := by have : i < 1 := hi; omega
      have hx : x = .int 1 := by
        have := Option.some.inj hk
        exact (congrArg Prod.snd this).symm
      subst hx
      refine ⟨rfl, _, rfl, _, rfl, _, _, rfl, rfl, decide ((1 : Int) ≤ (n : Int)), rfl, ?_⟩
      rw [decide_eq_true (by omega)]
      refine iteT ⟨_, rfl, _, rfl, _, rfl, _, _, rfl, rfl, la, ones n, _, .int 1, rfl, rfl, s.seq (SqL_other hL O.co), at_of (j := n - 1) (by omega) (ones_get (by omega)), kt _ (Same.refl _)⟩
    · refine ⟨s _ _ upd_same, D, [1], rfl, SqL.of ?_, ?_⟩
      · have nd : D ≠ ca := fun z => by
          rw [z, upd_same] at hD
          cases hD
        rw [upd_ne nd, hD1]
        rfl
      · exact k _ (s.unlock O.co)
theorem ok_Order_counts_to (T : TX K mg) : FnOk P w K mg base CX0 2 (a_Order_counts_to K) (d_ K (a_Order_counts_to K)) ["self", "cost"] (sp_Order_counts_to K) := by
  refine T.F_Order_counts_to.ok sc_Order_counts_to (fun vs H Q E h => ?_) (fun cdv Ar outer s0 H vs Q E hr h => ?_)
  · (repeat (obtain ⟨_, h⟩ := h)); subst_vars; rfl
  · obtain ⟨oa, ca, c, n, rfl, O, hn, k⟩ := h
    have hu := hu_of hr
    refine ⟨_, (pss_cons (ps_set (i := 2) sc_Order_counts_to.nd rfl (Or.inl rfl) (pe_lst pa_nil))
      (pss_cons (ps_while PassesOwn.never (pt_cmpR op_le (pe_callB call_len_seq (by rfl) T.n_len (by decide +kernel) (pa_cons (pv 2) pa_nil)) (pv 1) (nomark _)) (pss_one (ps_expr (pe_bm PySem.F.plainAttrs_list PySem.F.slot_list_append PySem.F.type_list_append mt_append (pv 2) (pa_cons (pe_meth (pv 0) T.cl_Order T.mt_Order_count_next (ok_Order_count_next T) (by exact hr.mono (by decide)) T.b_Order_count_next .nil pass0 (pa_cons (pv 2) pa_nil)) pa_nil)))))
      (pss_one (ps_ret (pv 2))))), ?_⟩
    obtain ⟨dx, e⟩ := O.ob
    refine ⟨by show 0 ≤ sizeLine; exact Nat.zero_le _, fun la hla => ?_⟩
    refine while_by (fun σ H1 => ∃ j, σ = [some (.ref oa), some (.int (n : Nat)), some (.ref la)] ∧ H1 la = some (.lst (ones j)) ∧ Same H H1 ∧ j ≤ n + 1)
      (fun _ H1 => match H1 la with | some (.lst xs) => n + 1 - xs.length | _ => 0) ⟨0, rfl, upd_same, Same.new hla, Nat.zero_le _⟩ ?_ ?_
    · rintro σ H1 ⟨j, rfl, hl, s, hj⟩
      refine ⟨_, rfl, la, _, rfl, .inl (SqL.of hl), ?_⟩
      rw [ones_len]
      refine ⟨_, rfl, _, _, rfl, rfl, _, rfl, ?_⟩
      refine ite2 (fun hjn => ?_) (fun hjn => ?_)
      · have hjn2 : j ≤ n := by have := of_decide_eq_true hjn; omega
        refine ⟨_, rfl, .inl ⟨rfl, _, SqL.of hl⟩, _, rfl, oa, dx, _, rfl, s _ _ e, oflds_no c ca (by decide +kernel) (by decide +kernel), _, rfl, oa, ca, la, c, j, rfl, O.same s, SqL.of hl, by omega, fun H2 s2 => ?_⟩
        refine ⟨la, ones j, .int 1, rfl, rfl, s2 _ _ hl, szl _ (by rw [ones_len]; omega), ?_⟩
        refine ⟨⟨j + 1, rfl, by rw [upd_same, ones_succ], (s.trans s2).put hla, by omega⟩, ?_⟩
        show (match (upd H2 la (.lst (ones j ++ [.int 1]))) la with | some (.lst xs) => n + 1 - xs.length | _ => 0) < (match H1 la with | some (.lst xs) => n + 1 - xs.length | _ => 0)
        rw [upd_same, hl, ones_succ]
        show n + 1 - (ones (j + 1)).length < n + 1 - (ones j).length
        rw [ones_len, ones_len]
        omega
      · have hjn2 : j = n + 1 := by
          have : ¬ ((j : Int) ≤ (n : Int)) := fun q => hjn (decide_eq_true q)
          omega
        subst hjn2
        exact ⟨_, rfl, k la H1 hla s hl⟩
    · rintro σ H1 Q1 Q2 hm ⟨v, e1, p, ys, e2, e3, v2, e4, i, j, e5, e6, b, e7, hq⟩
      exact ⟨v, e1, p, ys, e2, e3, v2, e4, i, j, e5, e6, b, e7, hm _ _ hq⟩
theorem ok_Order_filled (T : TX K mg) : FnOk P w K mg base CX0 2 (a_Order_filled K) (d_ K (a_Order_filled K)) ["self", "cost", "counts", "is_last"] (sp_Order_filled K) := by
  refine T.F_Order_filled.ok sc_Order_filled (fun vs H Q E h => ?_) (fun cdv Ar outer s0 H vs Q E hr h => ?_)
  · (repeat (obtain ⟨_, h⟩ := h)); subst_vars; rfl
  · obtain ⟨oa, ca, la, c, m, n, rfl, O, hL, ⟨hm, hn⟩, k⟩ := h
    have hu := hu_of hr
    refine ⟨_, (pss_cons (ps_par (i := 4) (j := 5) (by rfl) sc_Order_filled.nd rfl rfl (by decide) rfl rfl (pa_cons pe_str (pa_cons (pe_ifExp (pt_val (pv 3)) pe_never (pe_fldK (K := K) rfl (pv 0) (by rfl))) pa_nil)) (by rfl))
      (pss_cons (ps_while PassesOwn.never (pt_cmpR op_gt (pv 1) pe_int (nomark _)) (pss_cons (ps_setLc (i := 6) (own := [("letter", 7)]) (g := gName 7) (tt := _) rfl sc_Order_filled.nd rfl rfl (sw_true rfl rfl rfl (by decide +kernel)) (pi_str (pv 5)) (blkOk_by (own := [("letter", 7)]) (N := N_Order_filled) (sc := defScope s_Order_filled) (by decide +kernel)) (fun _ _ _ _ _ => (pg_name (i := 7) sc_Order_filled.nd rfl (Or.inl rfl))) (by intro _ _ _ _ _; exact pts_one (pt_val (pe_meth (pv 0) T.cl_Order T.mt_Order_is_possible (ok_Order_is_possible T) (by exact hr.mono (by decide)) T.b_Order_is_possible .nil pass0 (pa_cons (pv 7) (pa_cons (pv 1) (pa_cons (pv 2) pa_nil)))))) (by intro _ _ _ _ _; exact (pv 7)))
      (pss_one (ps_asg (pe_tup (pa_cons (pe_op op_add_str (pv 4) (pe_ix (ix_listK (K := K) rfl) (pv 6) pe_int (fun _ _ => rfl))) (pa_cons (pe_op op_sub (pv 1) (pe_dget (by exact hu) (pe_fldK (K := K) rfl (pv 0) (by rfl)) (pe_ix (ix_listK (K := K) rfl) (pv 6) pe_int (fun _ _ => rfl)) (fun _ _ => rfl))) pa_nil))) (pg_tup (by rfl) (pgs_cons (pg_name (i := 4) sc_Order_filled.nd rfl (Or.inl rfl)) (pgs_cons (pg_name (i := 1) sc_Order_filled.nd rfl (Or.inr rfl)) pgs_nil)))))))
      (pss_one (ps_ret (pv 4))))), ?_⟩
    obtain ⟨dx, e⟩ := O.ob
    refine ⟨_, rfl, false, rfl, iteF ⟨_, rfl, oa, _, dx, _, _, rfl, e, T.cl_Order, T.na_Order_own_letters, oflds_letters c ca, _, _, rfl, ?_⟩⟩
    refine while_by (fun σ H1 => ∃ (j : Nat) (v6 v7 : Option V), σ = [some (.ref oa), some (.int ((m - j : Nat) : Int)), some (.ref la), some (.bl false), some (.str (A c j)), some (.str (A c 1)), v6, v7] ∧ Same H H1 ∧ j ≤ m)
      (fun σ _ => match σ with | [_, some (.int u), _, _, _, _, _, _] => u.toNat | _ => 0) ⟨0, none, none, rfl, Same.refl _, Nat.zero_le _⟩ ?_ ?_
    · rintro σ H1 ⟨j, v6, v7, rfl, s, hj⟩
      refine ⟨_, rfl, _, _, rfl, rfl, _, rfl, ?_⟩
      refine ite2 (fun hjm => ?_) (fun hjm => ?_)
      · have hjm2 : j < m := by have := of_decide_eq_true hjm; omega
        -- some = [letter for letter in letters if self.is_possible(..)]
        refine ⟨_, rfl, _, rfl, fun D hD => ?_⟩
        refine lc_fil walk_str (fun _ => some (.str (A c 1))) hD (by rw [A_size]; decide) (fun _ _ => trivial) (fun i x H2 H3 hi s2 y Kt kt => ?_) (fun H2 s2 hD1 => ?_)
        · obtain ⟨rfl, d, hd, rfl⟩ := y
          have ed : d = c := A_at hd
          subst ed
          refine ⟨rfl, _, rfl, oa, dx, _, rfl, s2 _ _ (s _ _ e), oflds_no d ca (by decide +kernel) (by decide +kernel), _, rfl, _, rfl, _, rfl, oa, ca, la, d, m - j, n, rfl, O.same (s.trans s2), (s.trans s2).seq hL, ⟨by omega, by omega⟩, true, rfl, ?_⟩
          exact iteT ⟨_, rfl, kt _ (Same.refl _)⟩
        · -- found, cost = (found + some[0], cost - self.own_costs[some[0]])
          have hD2 : SqL K H2 D [.str (A c 1)] := SqL.of hD1
          have g := DGet.k (k := (Sum.inr (A c 1) : Key)) (s2 _ _ (s _ _ O.co))
          rw [valV_one] at g
          refine ⟨_, rfl, _, rfl, D, _, 0, .str (A c 1), rfl, rfl, hD2, rfl, _, _, rfl, rfl, by rw [A_len, A_len]; exact sz _ (by omega), ?_⟩
          refine ⟨_, rfl, _, rfl, oa, _, dx, _, _, rfl, s2 _ _ (s _ _ e), T.cl_Order, T.na_Order_own_costs, oflds_costs c ca, _, rfl, D, _, 0, .str (A c 1), rfl, rfl, hD2, rfl, ca, .int 1, rfl, g, _, _, rfl, rfl, by show 2 ≤ sizeLine; decide, fun p hp => ?_⟩
          refine ⟨p, _, rfl, SqT.of upd_same, rfl, _, _, rfl, _, _, rfl, rfl, ?_⟩
          refine ⟨⟨j + 1, some (.ref D), v7, ?_, (s.trans s2).put (s.free (s2.free hp)), by omega⟩, ?_⟩
          · show [some (V.ref oa), some (V.int (((m - j : Nat) : Int) - 1)), some (V.ref la), some (V.bl false), some (V.str (A c j ++ A c 1)), some (V.str (A c 1)), some (V.ref D), v7] = _
            rw [A_add, show ((m - j : Nat) : Int) - 1 = ((m - (j + 1) : Nat) : Int) by omega]
          · show (((m - j : Nat) : Int) - 1).toNat < ((m - j : Nat) : Int).toNat
            omega
      · have hjm2 : j = m := by
          have : ¬ ((0 : Int) < ((m - j : Nat) : Int)) := fun q => hjm (decide_eq_true q)
          omega
        subst hjm2
        exact ⟨_, rfl, k H1 s⟩
    · rintro σ H1 Q1 Q2 hm ⟨v, e1, i, j, e2, e3, b, e4, hq⟩
      exact ⟨v, e1, i, j, e2, e3, b, e4, hm _ _ hq⟩
theorem ok_Order_neighbor (T : TX K mg) : FnOk P w K mg base CX0 2 (a_Order_neighbor K) (d_ K (a_Order_neighbor K)) ["self", "word", "counts", "is_later"] (sp_Order_neighbor K) := by
  refine T.F_Order_neighbor.ok sc_Order_neighbor (fun vs H Q E h => ?_) (fun cdv Ar outer s0 H vs Q E hr h => ?_)
  · (repeat (obtain ⟨_, h⟩ := h)); subst_vars; rfl
  · obtain ⟨oa, ca, la, c, n, rfl, O, hn, k⟩ := h
    have hu := hu_of hr
    refine ⟨_, (pss_cons (ps_set (i := 4) sc_Order_neighbor.nd rfl (Or.inr rfl) pe_int)
      (pss_cons (ps_for PassesOwn.never rfl (pi_range3 rfl T.n_range (pa_cons (pe_op op_sub (pe_callB call_len_str (by rfl) T.n_len (by decide +kernel) (pa_cons (pv 1) pa_nil)) pe_int) (pa_cons (pe_un un_neg pe_int) (pa_cons (pe_un un_neg pe_int) pa_nil)))) (pg_name (i := 5) sc_Order_neighbor.nd rfl (Or.inl rfl)) (pss_cons (ps_set (i := 6) sc_Order_neighbor.nd rfl (Or.inr rfl) (pe_item_str (pv 1) (pv 5) (fun _ _ => rfl)))
      (pss_cons (ps_aug (i := 4) sc_Order_neighbor.nd rfl (Or.inr rfl) (pe_dget (by exact hu) (pe_fldK (K := K) rfl (pv 0) (by rfl)) (pv 6) (fun _ _ => rfl)) ip_add)
      (pss_cons (ps_setLc (i := 7) (own := [("one", 9)]) (g := gName 9) (tt := _) rfl sc_Order_neighbor.nd rfl rfl (sw_true rfl rfl rfl (by decide +kernel)) (pi_str (pe_fldK (K := K) rfl (pv 0) (by rfl))) (blkOk_by (own := [("one", 9)]) (N := N_Order_neighbor) (sc := defScope s_Order_neighbor) (by decide +kernel)) (fun _ _ _ _ _ => (pg_name (i := 9) sc_Order_neighbor.nd rfl (Or.inl rfl))) (by intro _ _ _ _ _; exact pts_one (PW.pt (pw_and (pt_cmpR op_ne (pv 9) (pv 6) (nomark _)) (pw_and1 (pt_cmpR op_eq (pe_cmpR op_gt_str (pv 9) (pv 6) (nomark _)) (pv 3) (nomark _)))))) (by intro _ _ _ _ _; exact (pv 9)))
      (pss_cons (ps_setLc (i := 7) (own := [("letter", 8)]) (g := gName 8) (tt := _) rfl sc_Order_neighbor.nd rfl rfl (sw_true rfl rfl rfl (by decide +kernel)) (pi_list (pv 7)) (blkOk_by (own := [("letter", 8)]) (N := N_Order_neighbor) (sc := defScope s_Order_neighbor) (by decide +kernel)) (fun _ _ _ _ _ => (pg_name (i := 8) sc_Order_neighbor.nd rfl (Or.inl rfl))) (by intro _ _ _ _ _; exact pts_one (pt_val (pe_meth (pv 0) T.cl_Order T.mt_Order_is_possible (ok_Order_is_possible T) (by exact hr.mono (by decide)) T.b_Order_is_possible .nil pass0 (pa_cons (pv 8) (pa_cons (pv 4) (pa_cons (pv 2) pa_nil)))))) (by intro _ _ _ _ _; exact (pv 8)))
      (pss_one (ps_if (pt_cmpR (op_neNil (by exact hr.units)) (pv 7) (pe_lst pa_nil) (nomark _)) pss_never pss_nil)))))))
      (pss_one (ps_ret pe_non)))), ?_⟩
    obtain ⟨dx, e⟩ := O.ob
    refine ⟨_, rfl, _, rfl, by rw [A_len]; exact sz _ (by omega), _, _, rfl, rfl, _, rfl, _, rfl, ?_⟩
    rw [A_len]
    refine ⟨(n : Int) - 1, -1, -1, ((n : Int) - 1 - -1).toNat, rfl, RgC.neg (by omega) (by omega) (by decide) (by decide), ?_⟩
    have en : ((n : Int) - 1 - -1).toNat = n := by omega
    rw [en]
    refine for_it walk_rangeC (fun i σ H1 => ∃ (ci : Int) (v5 v6 v7 v8 v9 : Option V), σ = [some (.ref oa), some (.str (A c n)), some (.ref la), some (.bl true), some (.int ci), v5, v6, v7, v8, v9] ∧ Same H H1) ⟨0, none, none, none, none, none, rfl, Same.refl _⟩ (fun _ _ _ _ _ => trivial) (fun i x σ H1 H2 hi p y => ?_) (fun σ H1 p => ?_)
    · obtain ⟨ci, v5, v6, v7, v8, v9, rfl, s⟩ := p
      obtain ⟨rfl, rfl⟩ := y
      have hi2 : (n : Int) - 1 + (i : Int) * -1 = ((n - 1 - i : Nat) : Int) := by omega
      have g := DGet.k (k := (Sum.inr (A c 1) : Key)) (s _ _ O.co)
      rw [valV_one] at g
      refine ⟨_, rfl, _, rfl, A c n, _, c, rfl, rfl, by omega, by omega, by rw [A_len]; omega, by rw [hi2, Int.toNat_natCast]; exact A_get (by omega), ?_⟩
      -- cost += self.own_costs[here]
      refine ⟨_, rfl, _, rfl, oa, _, dx, _, _, rfl, s _ _ e, T.cl_Order, T.na_Order_own_costs, oflds_costs c ca, _, rfl, ca, .int 1, rfl, g, _, _, rfl, rfl, ?_⟩
      -- some = [one for one in self.own_letters if one != here and ..]
      refine ⟨_, rfl, oa, _, dx, _, _, rfl, s _ _ e, T.cl_Order, T.na_Order_own_letters, oflds_letters c ca, _, rfl, fun D hD => ?_⟩
      refine lc_fil walk_str (fun _ => none) hD (by rw [A_size]; decide) (fun _ _ => trivial) (fun i2 x H2 H3 hi3 s2 y Kt kt => ?_) (fun H2 s2 hD1 => ?_)
      · obtain ⟨rfl, d, hd, rfl⟩ := y
        have ed : d = c := A_at hd
        subst ed
        refine ⟨rfl, _, rfl, _, rfl, rfl, _, rfl, ?_⟩
        have e5 : (!decide (V.str (A d 1) = V.str (A d 1))) = false := by simp
        have e6 : (!decide (V.str ⟨#[d]⟩ = V.str ⟨#[d]⟩)) = false := e5
        rw [e6]
        exact iteF (kt _ (Same.refl _))
      have hD2 : H2 D = some (.lst []) := hD1
      refine ⟨_, rfl, D, rfl, ⟨_, SqL.of hD2⟩, fun D2 hD3 => ?_⟩
      refine lc_fil (walk_list (K := K) (a := D) (xs := [])) (fun _ => none) hD3 (by decide) (fun H3 s3 => SqL.of (s3 _ _ hD2)) (fun i2 x H3 H4 hi3 s3 y Kt kt => absurd hi3 (by simp)) (fun H3 s3 hD4 => ?_)
      have hD5 : H3 D2 = some (.lst []) := hD4
      refine ⟨_, rfl, by show 0 ≤ sizeLine; exact Nat.zero_le _, fun q hq => ?_⟩
      have nq : D2 ≠ q := ne_of_none hD5 hq
      refine ⟨D2, q, [], rfl, rfl, SqL.of (by rw [upd_ne nq]; exact hD5), SqL.of upd_same, (fun v hv => absurd hv (by simp)), _, rfl, ?_⟩
      exact iteF ⟨ci + 1, _, _, _, _, _, rfl, ((s.trans s2).trans s3).put (s.free (s2.free (s3.free hq)))⟩
    · obtain ⟨ci, v5, v6, v7, v8, v9, rfl, s⟩ := p
      exact k H1 s
theorem ok_Order_follower (T : TX K mg) : FnOk P w K mg base CX0 3 (a_Order_follower K) (d_ K (a_Order_follower K)) ["self", "word"] (sp_Order_follower K) := by
  refine T.F_Order_follower.ok sc_Order_follower (fun vs H Q E h => ?_) (fun cdv Ar outer s0 H vs Q E hr h => ?_)
  · (repeat (obtain ⟨_, h⟩ := h)); subst_vars; rfl
  · obtain ⟨oa, ca, c, n, rfl, O, hn, k⟩ := h
    obtain ⟨u_MAX_COST, h_MAX_COST⟩ := T.k_MAX_COST
    have hu := hu_of hr
    refine ⟨_, (pss_cons (ps_set (i := 2) sc_Order_follower.nd rfl (Or.inl rfl) (pe_meth (pv 0) T.cl_Order T.mt_Order_cost_of (ok_Order_cost_of T) (by exact hr.mono (by decide)) T.b_Order_cost_of .nil pass0 (pa_cons (pv 1) pa_nil)))
      (pss_cons (ps_set (i := 3) sc_Order_follower.nd rfl (Or.inr rfl) (pe_meth (pv 0) T.cl_Order T.mt_Order_counts_to (ok_Order_counts_to T) (by exact hr.mono (by decide)) T.b_Order_counts_to .nil pass0 (pa_cons (pe_op op_add (pv 2) (pe_glob (v := .int 9) rfl h_MAX_COST ⟨_, rfl⟩)) pa_nil)))
      (pss_cons (ps_set (i := 4) sc_Order_follower.nd rfl (Or.inl rfl) (pe_meth (pv 0) T.cl_Order T.mt_Order_neighbor (ok_Order_neighbor T) (by exact hr.mono (by decide)) T.b_Order_neighbor .nil pass0 (pa_cons (pv 1) (pa_cons (pv 3) (pa_cons pe_bl pa_nil)))))
      (pss_cons (ps_if (pt_cmpR op_notN (pv 4) pe_non (nomark _)) (pss_one (ps_ret (pv 4))) pss_nil)
      (pss_cons (ps_setLc (i := 5) (own := [("more", 6)]) (g := gName 6) (tt := _) rfl sc_Order_follower.nd rfl rfl (sw_true rfl rfl rfl (by decide +kernel)) (pi_range2 rfl T.n_range (pa_cons (pe_op op_add (pv 2) pe_int) (pa_cons (pe_op op_add (pe_op op_add (pv 2) (pe_glob (v := .int 9) rfl h_MAX_COST ⟨_, rfl⟩)) pe_int) pa_nil))) (blkOk_by (own := [("more", 6)]) (N := N_Order_follower) (sc := defScope s_Order_follower) (by decide +kernel)) (fun _ _ _ _ _ => (pg_name (i := 6) sc_Order_follower.nd rfl (Or.inl rfl))) (by intro _ _ _ _ _; exact pts_one (pt_cmpR op_gt (pe_ix (ix_listK (K := K) rfl) (pv 3) (pv 6) (fun _ _ => rfl)) pe_int (nomark _))) (by intro _ _ _ _ _; exact (pv 6)))
      (pss_one (ps_ret (pe_meth (pv 0) T.cl_Order T.mt_Order_filled (ok_Order_filled T) (by exact hr.mono (by decide)) T.b_Order_filled .nil pass0 (pa_cons (pe_ix (ix_listK (K := K) rfl) (pv 5) pe_int (fun _ _ => rfl)) (pa_cons (pv 3) (pa_cons pe_bl pa_nil))))))))))), ?_⟩
    obtain ⟨dx, e⟩ := O.ob
    have no : ∀ {m : Str}, ¬ m = "own_letters" → ¬ m = "own_costs" → (oflds c ca).lookup m = none := fun h1 h2 => oflds_no c ca h1 h2
    refine ⟨_, rfl, oa, dx, _, rfl, e, no (by decide +kernel) (by decide +kernel), _, rfl, oa, ca, c, n, rfl, O, hn, fun H1 s1 => ?_⟩
    refine ⟨_, rfl, oa, dx, _, rfl, s1 _ _ e, no (by decide +kernel) (by decide +kernel), _, rfl, _, _, rfl, rfl, oa, ca, c, n + 9, ?_, O.same s1, by omega, fun la H2 hla s2 hl => ?_⟩
    · show [V.ref oa, V.int ((n : Int) + 9)] = _
      rfl
    have s12 := s1.trans s2
    refine ⟨_, rfl, oa, dx, _, rfl, s12 _ _ e, no (by decide +kernel) (by decide +kernel), _, rfl, _, rfl, oa, ca, la, c, n, rfl, O.same s12, hn, fun H3 s3 => ?_⟩
    have s13 := s12.trans s3
    refine ⟨_, rfl, rfl, _, rfl, iteF ?_⟩
    -- later = [more for more in range(cost + 1, cost + 9 + 1) if counts[more] > 0]
    refine ⟨_, rfl, _, _, rfl, rfl, _, rfl, _, _, rfl, rfl, _, _, rfl, rfl, _, _, rfl, ⟨by omega, by omega, by omega, by omega⟩, fun D hD => ?_⟩
    refine lc_fil walk_range (fun i => some (.int ((n : Int) + 1 + (i : Nat)))) hD (by omega) (fun _ _ => trivial) (fun i x H4 H5 hi s4 y Kt kt => ?_) (fun H4 s4 hD1 => ?_)
    · obtain ⟨rfl, rfl⟩ := y
      have hi2 : i < 9 := by omega
      refine ⟨rfl, _, rfl, _, rfl, la, ones (n + 9 + 1), _, .int 1, rfl, rfl, SqL.of (s4 _ _ (s3 _ _ hl)), at_of (j := n + 1 + i) (by omega) (ones_get (by omega)), _, _, rfl, rfl, true, rfl, ?_⟩
      exact iteT ⟨_, rfl, kt _ (Same.refl _)⟩
    · have s14 := s13.trans s4
      have en : ((n : Int) + 9 + 1 - ((n : Int) + 1)).toNat = 9 := by omega
      have hL : SqL K H4 la (ones (n + 9 + 1)) := SqL.of (s4 _ _ (s3 _ _ hl))
      refine ⟨_, rfl, oa, dx, _, rfl, s14 _ _ e, no (by decide +kernel) (by decide +kernel), _, rfl, D, _, 0, .int ((n : Int) + 1), rfl, rfl, SqL.of hD1, ?_, _, rfl, oa, ca, la, c, n + 1, n + 9 + 1, rfl, O.same s14, hL, ⟨by omega, by omega⟩, fun H5 s5 => k H5 (s14.trans s5)⟩
      rw [en]; rfl
theorem ok_Order_after (T : TX K mg) : FnOk P w K mg base CX0 4 (a_Order_after K) (d_ K (a_Order_after K)) ["self", "word"] (sp_Order_after K) := by
  refine T.F_Order_after.ok sc_Order_after (fun vs H Q E h => ?_) (fun cdv Ar outer s0 H vs Q E hr h => ?_)
  · (repeat (obtain ⟨_, h⟩ := h)); subst_vars; rfl
  · obtain ⟨oa, ca, c, n, rfl, O, hn, k⟩ := h
    obtain ⟨ds_nw, r_nw, b_nw⟩ := T.b_need_word
    have hu := hu_of hr
    refine ⟨_, (pss_cons (ps_expr (pe_call (ok_need_word T) (by exact hr.mono (by decide)) rfl T.g_need_word T.F_need_word.kp b_nw r_nw pass0 (pa_cons (pe_fldK (K := K) rfl (pv 0) (by rfl)) (pa_cons (pv 1) pa_nil))))
      (pss_one (ps_ret (pe_meth (pv 0) T.cl_Order T.mt_Order_follower (ok_Order_follower T) (by exact hr.mono (by decide)) T.b_Order_follower .nil pass0 (pa_cons (pv 1) pa_nil))))), ?_⟩
    obtain ⟨dx, e⟩ := O.ob
    refine ⟨_, rfl, oa, _, dx, _, _, rfl, e, T.cl_Order, T.na_Order_own_letters, oflds_letters c ca, _, rfl, c, n, rfl, hn, fun H1 s => ?_⟩
    exact ⟨_, rfl, oa, dx, _, rfl, s _ _ e, oflds_no c ca (by decide +kernel) (by decide +kernel), _, rfl, oa, ca, c, n, rfl, O.same s, hn, fun H2 s2 => k H2 (s.trans s2)⟩
end
end Fa

namespace Fa
open PySem PySem.Spec L2
/-! ### a grid on the heap (printed by gd.py) -/
structure GD where
  (dx fa oa ca kw kv nk cc ld wl pr so gs : Addr)
  (c : Nat) (up : Str)
  (kwL kvL gsL : List V)
  (nkD ccD ldD wlD prD soD : List (Key × V))
  (m : Nat) (pra sha : Nat → Addr) (prL : Nat → List V) (shL : Nat → List (Key × V)) (tg : Addr → Nat)
def gnames : List Str := ["own_field", "own_order", "known_words", "known_values", "number_of_known", "column_counts", "upcoming", "leads", "word_of_lead", "pivot_rows", "shares_of", "grown_sizes"]
theorem gnames_nd : gnames.Nodup := by decide +kernel
def gvals (D : GD) : List V := [.ref D.fa, .ref D.oa, .ref D.kw, .ref D.kv, .ref D.nk, .ref D.cc, .str D.up, .ref D.ld, .ref D.wl, .ref D.pr, .ref D.so, .ref D.gs]
def gflds (D : GD) : List (Str × V) := gnames.zip (gvals D)
theorem lookup_zip {f : Str} {v : V} : ∀ {ns : List Str} {vs : List V} {i : Nat}, ns.Nodup → ns[i]? = some f → vs[i]? = some v → (ns.zip vs).lookup f = some v
  | [], _, _, _, h, _ => by simp at h
  | _ :: _, [], _, _, _, h => by simp at h
  | n :: ns, u :: vs, 0, _, h1, h2 => by
    simp at h1 h2
    rw [List.zip_cons_cons, List.lookup_cons, h1, h2]
    simp
  | n :: ns, u :: vs, i + 1, hn, h1, h2 => by
    obtain ⟨k1, k2⟩ := List.nodup_cons.mp hn
    simp at h1 h2
    have e : (f == n) = false := beq_eq_false_iff_ne.mpr fun q => k1 (by rw [← q]; exact List.mem_of_getElem? h1)
    rw [List.zip_cons_cons, List.lookup_cons, e]
    exact lookup_zip k2 h1 h2
theorem lookup_zip_no {f : Str} : ∀ {ns : List Str} {vs : List V}, f ∉ ns → (ns.zip vs).lookup f = none
  | [], _, _ => rfl
  | _ :: _, [], _ => rfl
  | n :: ns, u :: vs, h => by
    have e : (f == n) = false := beq_eq_false_iff_ne.mpr fun q => h (by simp [q])
    rw [List.zip_cons_cons, List.lookup_cons, e]
    exact lookup_zip_no fun q => h (List.mem_cons_of_mem _ q)
theorem putF_zip {f : Str} {v : V} : ∀ {ns : List Str} {vs : List V} {i : Nat}, ns.Nodup → ns[i]? = some f → ns.length = vs.length → putF f v (ns.zip vs) = ns.zip (vs.set i v)
  | [], _, _, _, h, _ => by simp at h
  | _ :: _, [], _, _, _, h => by simp at h
  | n :: ns, u :: vs, 0, _, h1, h2 => by
    simp at h1
    rw [List.zip_cons_cons, List.set_cons_zero, List.zip_cons_cons, h1]
    unfold putF
    rw [if_pos rfl]
  | n :: ns, u :: vs, i + 1, hn, h1, h2 => by
    obtain ⟨k1, k2⟩ := List.nodup_cons.mp hn
    simp at h1 h2
    have e : ¬ n = f := fun q => k1 (by rw [q]; exact List.mem_of_getElem? h1)
    rw [List.zip_cons_cons, List.set_cons_succ, List.zip_cons_cons]
    unfold putF
    rw [if_neg e, putF_zip k2 h1 h2]
theorem gf_own_field (D : GD) : (gflds D).lookup ("own_field" : Str) = some (.ref D.fa) := lookup_zip (i := 0) gnames_nd rfl rfl
theorem gf_own_order (D : GD) : (gflds D).lookup ("own_order" : Str) = some (.ref D.oa) := lookup_zip (i := 1) gnames_nd rfl rfl
theorem gf_known_words (D : GD) : (gflds D).lookup ("known_words" : Str) = some (.ref D.kw) := lookup_zip (i := 2) gnames_nd rfl rfl
theorem gf_known_values (D : GD) : (gflds D).lookup ("known_values" : Str) = some (.ref D.kv) := lookup_zip (i := 3) gnames_nd rfl rfl
theorem gf_number_of_known (D : GD) : (gflds D).lookup ("number_of_known" : Str) = some (.ref D.nk) := lookup_zip (i := 4) gnames_nd rfl rfl
theorem gf_column_counts (D : GD) : (gflds D).lookup ("column_counts" : Str) = some (.ref D.cc) := lookup_zip (i := 5) gnames_nd rfl rfl
theorem gf_upcoming (D : GD) : (gflds D).lookup ("upcoming" : Str) = some (.str D.up) := lookup_zip (i := 6) gnames_nd rfl rfl
theorem gf_leads (D : GD) : (gflds D).lookup ("leads" : Str) = some (.ref D.ld) := lookup_zip (i := 7) gnames_nd rfl rfl
theorem gf_word_of_lead (D : GD) : (gflds D).lookup ("word_of_lead" : Str) = some (.ref D.wl) := lookup_zip (i := 8) gnames_nd rfl rfl
theorem gf_pivot_rows (D : GD) : (gflds D).lookup ("pivot_rows" : Str) = some (.ref D.pr) := lookup_zip (i := 9) gnames_nd rfl rfl
theorem gf_shares_of (D : GD) : (gflds D).lookup ("shares_of" : Str) = some (.ref D.so) := lookup_zip (i := 10) gnames_nd rfl rfl
theorem gf_grown_sizes (D : GD) : (gflds D).lookup ("grown_sizes" : Str) = some (.ref D.gs) := lookup_zip (i := 11) gnames_nd rfl rfl
theorem gf_no (D : GD) {f : Str} (h : f ∉ gnames) : (gflds D).lookup f = none := lookup_zip_no h
theorem gf_up (D : GD) (z : Str) : putF "upcoming" (.str z) (gflds D) = gflds { D with up := z } := putF_zip (i := 6) gnames_nd rfl rfl
structure GridCore (K : PySem.W.Frag) (H : Hp) (ga : Addr) (p : Nat) (D : GD) : Prop where
  ob : H ga = some (.ins (c_Grid K) D.dx (gflds D))
  kw : H D.kw = some (.lst D.kwL)
  kv : H D.kv = some (.lst D.kvL)
  nk : H D.nk = some (.dK D.nkD)
  cc : H D.cc = some (.dK D.ccD)
  ld : H D.ld = some (.dK D.ldD)
  wl : H D.wl = some (.dK D.wlD)
  pr : H D.pr = some (.dK D.prD)
  so : H D.so = some (.dK D.soD)
  gs : H D.gs = some (.lst D.gsL)
  F : FieldAt K H D.fa p
  O : OrderAt K H D.oa D.c D.ca
  t_no : ∀ a, H a = none → D.tg a = 0
  t_ga : D.tg ga = 1
  t_kw : D.tg D.kw = 2
  t_kv : D.tg D.kv = 3
  t_nk : D.tg D.nk = 4
  t_cc : D.tg D.cc = 5
  t_ld : D.tg D.ld = 6
  t_wl : D.tg D.wl = 7
  t_pr : D.tg D.pr = 8
  t_so : D.tg D.so = 9
  t_gs : D.tg D.gs = 10
  t_fa : D.tg D.fa = 11
  t_oa : D.tg D.oa = 12
  t_ca : D.tg D.ca = 13
structure GridHas (K : PySem.W.Frag) (H : Hp) (ga : Addr) (p : Nat) (D : GD) : Prop extends GridCore K H ga p D where
  prs : ∀ i, i < D.m → H (D.pra i) = some (.lst (D.prL i))
  shs : ∀ i, i < D.m → H (D.sha i) = some (.dK (D.shL i))
  t_pra : ∀ i, i < D.m → D.tg (D.pra i) = 20 + 2 * i
  t_sha : ∀ i, i < D.m → D.tg (D.sha i) = 21 + 2 * i
theorem GridCore.same {K : PySem.W.Frag} {H H' : Hp} {ga : Addr} {p : Nat} {D : GD} (G : GridCore K H ga p D) (s : Same H H') : GridCore K H' ga p D :=
  { G with ob := s _ _ G.ob, kw := s _ _ G.kw, kv := s _ _ G.kv, nk := s _ _ G.nk, cc := s _ _ G.cc, ld := s _ _ G.ld, wl := s _ _ G.wl, pr := s _ _ G.pr, so := s _ _ G.so, gs := s _ _ G.gs, t_no := fun a e => G.t_no a (s.free e), F := G.F.same s, O := G.O.same s }
theorem GridHas.same {K : PySem.W.Frag} {H H' : Hp} {ga : Addr} {p : Nat} {D : GD} (G : GridHas K H ga p D) (s : Same H H') : GridHas K H' ga p D :=
  ⟨G.toGridCore.same s, fun i h => s _ _ (G.prs i h), fun i h => s _ _ (G.shs i h), G.t_pra, G.t_sha⟩
theorem tne {t : Addr → Nat} {a b : Addr} {x y : Nat} (ha : t a = x) (hb : t b = y) (h : x ≠ y) : a ≠ b := fun e => h (by rw [← ha, ← hb, e])
theorem FieldAt.upd {K : PySem.W.Frag} {H : Hp} {fa a : Addr} {p : Nat} {o : HO} (f : FieldAt K H fa p) (n : fa ≠ a) : FieldAt K (upd H a o) fa p := ⟨let ⟨dx, e⟩ := f.ob; ⟨dx, by rw [upd_ne n]; exact e⟩, f.six⟩
theorem OrderAt.upd {K : PySem.W.Frag} {H : Hp} {oa ca a : Addr} {c : Nat} {o : HO} (f : OrderAt K H oa c ca) (n : oa ≠ a) (n2 : ca ≠ a) : OrderAt K (upd H a o) oa c ca := ⟨let ⟨dx, e⟩ := f.ob; ⟨dx, by rw [upd_ne n]; exact e⟩, by rw [upd_ne n2]; exact f.co, f.lo, f.hi⟩
theorem none_upd {H : Hp} {a b : Addr} {o : HO} (e : upd H a o b = none) : H b = none := by
  by_cases h : b = a
  · subst h; rw [upd_same] at e; cases e
  · rw [upd_ne h] at e; exact e
section
variable {K : PySem.W.Frag} {H : Hp} {ga : Addr} {p : Nat} {D : GD}
theorem GridCore.set_kw (G : GridCore K H ga p D) (x : List V) : GridCore K (upd H D.kw (.lst x)) ga p { D with kwL := x } :=
  { G with ob := (upd_ne (tne G.t_ga G.t_kw (by omega))).trans G.ob, kw := upd_same, kv := (upd_ne (tne G.t_kv G.t_kw (by omega))).trans G.kv, nk := (upd_ne (tne G.t_nk G.t_kw (by omega))).trans G.nk, cc := (upd_ne (tne G.t_cc G.t_kw (by omega))).trans G.cc, ld := (upd_ne (tne G.t_ld G.t_kw (by omega))).trans G.ld, wl := (upd_ne (tne G.t_wl G.t_kw (by omega))).trans G.wl, pr := (upd_ne (tne G.t_pr G.t_kw (by omega))).trans G.pr, so := (upd_ne (tne G.t_so G.t_kw (by omega))).trans G.so, gs := (upd_ne (tne G.t_gs G.t_kw (by omega))).trans G.gs, F := G.F.upd (tne G.t_fa G.t_kw (by omega)), O := G.O.upd (tne G.t_oa G.t_kw (by omega)) (tne G.t_ca G.t_kw (by omega)), t_no := fun a e => G.t_no a (none_upd e) }
theorem GridHas.set_kw (G : GridHas K H ga p D) (x : List V) : GridHas K (upd H D.kw (.lst x)) ga p { D with kwL := x } :=
  ⟨G.toGridCore.set_kw x, fun i h => (upd_ne (tne (G.t_pra i h) G.t_kw (by omega))).trans (G.prs i h), fun i h => (upd_ne (tne (G.t_sha i h) G.t_kw (by omega))).trans (G.shs i h), G.t_pra, G.t_sha⟩
theorem GridCore.set_kv (G : GridCore K H ga p D) (x : List V) : GridCore K (upd H D.kv (.lst x)) ga p { D with kvL := x } :=
  { G with ob := (upd_ne (tne G.t_ga G.t_kv (by omega))).trans G.ob, kw := (upd_ne (tne G.t_kw G.t_kv (by omega))).trans G.kw, kv := upd_same, nk := (upd_ne (tne G.t_nk G.t_kv (by omega))).trans G.nk, cc := (upd_ne (tne G.t_cc G.t_kv (by omega))).trans G.cc, ld := (upd_ne (tne G.t_ld G.t_kv (by omega))).trans G.ld, wl := (upd_ne (tne G.t_wl G.t_kv (by omega))).trans G.wl, pr := (upd_ne (tne G.t_pr G.t_kv (by omega))).trans G.pr, so := (upd_ne (tne G.t_so G.t_kv (by omega))).trans G.so, gs := (upd_ne (tne G.t_gs G.t_kv (by omega))).trans G.gs, F := G.F.upd (tne G.t_fa G.t_kv (by omega)), O := G.O.upd (tne G.t_oa G.t_kv (by omega)) (tne G.t_ca G.t_kv (by omega)), t_no := fun a e => G.t_no a (none_upd e) }
theorem GridHas.set_kv (G : GridHas K H ga p D) (x : List V) : GridHas K (upd H D.kv (.lst x)) ga p { D with kvL := x } :=
  ⟨G.toGridCore.set_kv x, fun i h => (upd_ne (tne (G.t_pra i h) G.t_kv (by omega))).trans (G.prs i h), fun i h => (upd_ne (tne (G.t_sha i h) G.t_kv (by omega))).trans (G.shs i h), G.t_pra, G.t_sha⟩
theorem GridCore.set_nk (G : GridCore K H ga p D) (x : List (Key × V)) : GridCore K (upd H D.nk (.dK x)) ga p { D with nkD := x } :=
  { G with ob := (upd_ne (tne G.t_ga G.t_nk (by omega))).trans G.ob, kw := (upd_ne (tne G.t_kw G.t_nk (by omega))).trans G.kw, kv := (upd_ne (tne G.t_kv G.t_nk (by omega))).trans G.kv, nk := upd_same, cc := (upd_ne (tne G.t_cc G.t_nk (by omega))).trans G.cc, ld := (upd_ne (tne G.t_ld G.t_nk (by omega))).trans G.ld, wl := (upd_ne (tne G.t_wl G.t_nk (by omega))).trans G.wl, pr := (upd_ne (tne G.t_pr G.t_nk (by omega))).trans G.pr, so := (upd_ne (tne G.t_so G.t_nk (by omega))).trans G.so, gs := (upd_ne (tne G.t_gs G.t_nk (by omega))).trans G.gs, F := G.F.upd (tne G.t_fa G.t_nk (by omega)), O := G.O.upd (tne G.t_oa G.t_nk (by omega)) (tne G.t_ca G.t_nk (by omega)), t_no := fun a e => G.t_no a (none_upd e) }
theorem GridHas.set_nk (G : GridHas K H ga p D) (x : List (Key × V)) : GridHas K (upd H D.nk (.dK x)) ga p { D with nkD := x } :=
  ⟨G.toGridCore.set_nk x, fun i h => (upd_ne (tne (G.t_pra i h) G.t_nk (by omega))).trans (G.prs i h), fun i h => (upd_ne (tne (G.t_sha i h) G.t_nk (by omega))).trans (G.shs i h), G.t_pra, G.t_sha⟩
theorem GridCore.set_cc (G : GridCore K H ga p D) (x : List (Key × V)) : GridCore K (upd H D.cc (.dK x)) ga p { D with ccD := x } :=
  { G with ob := (upd_ne (tne G.t_ga G.t_cc (by omega))).trans G.ob, kw := (upd_ne (tne G.t_kw G.t_cc (by omega))).trans G.kw, kv := (upd_ne (tne G.t_kv G.t_cc (by omega))).trans G.kv, nk := (upd_ne (tne G.t_nk G.t_cc (by omega))).trans G.nk, cc := upd_same, ld := (upd_ne (tne G.t_ld G.t_cc (by omega))).trans G.ld, wl := (upd_ne (tne G.t_wl G.t_cc (by omega))).trans G.wl, pr := (upd_ne (tne G.t_pr G.t_cc (by omega))).trans G.pr, so := (upd_ne (tne G.t_so G.t_cc (by omega))).trans G.so, gs := (upd_ne (tne G.t_gs G.t_cc (by omega))).trans G.gs, F := G.F.upd (tne G.t_fa G.t_cc (by omega)), O := G.O.upd (tne G.t_oa G.t_cc (by omega)) (tne G.t_ca G.t_cc (by omega)), t_no := fun a e => G.t_no a (none_upd e) }
theorem GridHas.set_cc (G : GridHas K H ga p D) (x : List (Key × V)) : GridHas K (upd H D.cc (.dK x)) ga p { D with ccD := x } :=
  ⟨G.toGridCore.set_cc x, fun i h => (upd_ne (tne (G.t_pra i h) G.t_cc (by omega))).trans (G.prs i h), fun i h => (upd_ne (tne (G.t_sha i h) G.t_cc (by omega))).trans (G.shs i h), G.t_pra, G.t_sha⟩
theorem GridCore.set_ld (G : GridCore K H ga p D) (x : List (Key × V)) : GridCore K (upd H D.ld (.dK x)) ga p { D with ldD := x } :=
  { G with ob := (upd_ne (tne G.t_ga G.t_ld (by omega))).trans G.ob, kw := (upd_ne (tne G.t_kw G.t_ld (by omega))).trans G.kw, kv := (upd_ne (tne G.t_kv G.t_ld (by omega))).trans G.kv, nk := (upd_ne (tne G.t_nk G.t_ld (by omega))).trans G.nk, cc := (upd_ne (tne G.t_cc G.t_ld (by omega))).trans G.cc, ld := upd_same, wl := (upd_ne (tne G.t_wl G.t_ld (by omega))).trans G.wl, pr := (upd_ne (tne G.t_pr G.t_ld (by omega))).trans G.pr, so := (upd_ne (tne G.t_so G.t_ld (by omega))).trans G.so, gs := (upd_ne (tne G.t_gs G.t_ld (by omega))).trans G.gs, F := G.F.upd (tne G.t_fa G.t_ld (by omega)), O := G.O.upd (tne G.t_oa G.t_ld (by omega)) (tne G.t_ca G.t_ld (by omega)), t_no := fun a e => G.t_no a (none_upd e) }
theorem GridHas.set_ld (G : GridHas K H ga p D) (x : List (Key × V)) : GridHas K (upd H D.ld (.dK x)) ga p { D with ldD := x } :=
  ⟨G.toGridCore.set_ld x, fun i h => (upd_ne (tne (G.t_pra i h) G.t_ld (by omega))).trans (G.prs i h), fun i h => (upd_ne (tne (G.t_sha i h) G.t_ld (by omega))).trans (G.shs i h), G.t_pra, G.t_sha⟩
theorem GridCore.set_wl (G : GridCore K H ga p D) (x : List (Key × V)) : GridCore K (upd H D.wl (.dK x)) ga p { D with wlD := x } :=
  { G with ob := (upd_ne (tne G.t_ga G.t_wl (by omega))).trans G.ob, kw := (upd_ne (tne G.t_kw G.t_wl (by omega))).trans G.kw, kv := (upd_ne (tne G.t_kv G.t_wl (by omega))).trans G.kv, nk := (upd_ne (tne G.t_nk G.t_wl (by omega))).trans G.nk, cc := (upd_ne (tne G.t_cc G.t_wl (by omega))).trans G.cc, ld := (upd_ne (tne G.t_ld G.t_wl (by omega))).trans G.ld, wl := upd_same, pr := (upd_ne (tne G.t_pr G.t_wl (by omega))).trans G.pr, so := (upd_ne (tne G.t_so G.t_wl (by omega))).trans G.so, gs := (upd_ne (tne G.t_gs G.t_wl (by omega))).trans G.gs, F := G.F.upd (tne G.t_fa G.t_wl (by omega)), O := G.O.upd (tne G.t_oa G.t_wl (by omega)) (tne G.t_ca G.t_wl (by omega)), t_no := fun a e => G.t_no a (none_upd e) }
theorem GridHas.set_wl (G : GridHas K H ga p D) (x : List (Key × V)) : GridHas K (upd H D.wl (.dK x)) ga p { D with wlD := x } :=
  ⟨G.toGridCore.set_wl x, fun i h => (upd_ne (tne (G.t_pra i h) G.t_wl (by omega))).trans (G.prs i h), fun i h => (upd_ne (tne (G.t_sha i h) G.t_wl (by omega))).trans (G.shs i h), G.t_pra, G.t_sha⟩
theorem GridCore.set_pr (G : GridCore K H ga p D) (x : List (Key × V)) : GridCore K (upd H D.pr (.dK x)) ga p { D with prD := x } :=
  { G with ob := (upd_ne (tne G.t_ga G.t_pr (by omega))).trans G.ob, kw := (upd_ne (tne G.t_kw G.t_pr (by omega))).trans G.kw, kv := (upd_ne (tne G.t_kv G.t_pr (by omega))).trans G.kv, nk := (upd_ne (tne G.t_nk G.t_pr (by omega))).trans G.nk, cc := (upd_ne (tne G.t_cc G.t_pr (by omega))).trans G.cc, ld := (upd_ne (tne G.t_ld G.t_pr (by omega))).trans G.ld, wl := (upd_ne (tne G.t_wl G.t_pr (by omega))).trans G.wl, pr := upd_same, so := (upd_ne (tne G.t_so G.t_pr (by omega))).trans G.so, gs := (upd_ne (tne G.t_gs G.t_pr (by omega))).trans G.gs, F := G.F.upd (tne G.t_fa G.t_pr (by omega)), O := G.O.upd (tne G.t_oa G.t_pr (by omega)) (tne G.t_ca G.t_pr (by omega)), t_no := fun a e => G.t_no a (none_upd e) }
theorem GridHas.set_pr (G : GridHas K H ga p D) (x : List (Key × V)) : GridHas K (upd H D.pr (.dK x)) ga p { D with prD := x } :=
  ⟨G.toGridCore.set_pr x, fun i h => (upd_ne (tne (G.t_pra i h) G.t_pr (by omega))).trans (G.prs i h), fun i h => (upd_ne (tne (G.t_sha i h) G.t_pr (by omega))).trans (G.shs i h), G.t_pra, G.t_sha⟩
theorem GridCore.set_so (G : GridCore K H ga p D) (x : List (Key × V)) : GridCore K (upd H D.so (.dK x)) ga p { D with soD := x } :=
  { G with ob := (upd_ne (tne G.t_ga G.t_so (by omega))).trans G.ob, kw := (upd_ne (tne G.t_kw G.t_so (by omega))).trans G.kw, kv := (upd_ne (tne G.t_kv G.t_so (by omega))).trans G.kv, nk := (upd_ne (tne G.t_nk G.t_so (by omega))).trans G.nk, cc := (upd_ne (tne G.t_cc G.t_so (by omega))).trans G.cc, ld := (upd_ne (tne G.t_ld G.t_so (by omega))).trans G.ld, wl := (upd_ne (tne G.t_wl G.t_so (by omega))).trans G.wl, pr := (upd_ne (tne G.t_pr G.t_so (by omega))).trans G.pr, so := upd_same, gs := (upd_ne (tne G.t_gs G.t_so (by omega))).trans G.gs, F := G.F.upd (tne G.t_fa G.t_so (by omega)), O := G.O.upd (tne G.t_oa G.t_so (by omega)) (tne G.t_ca G.t_so (by omega)), t_no := fun a e => G.t_no a (none_upd e) }
theorem GridHas.set_so (G : GridHas K H ga p D) (x : List (Key × V)) : GridHas K (upd H D.so (.dK x)) ga p { D with soD := x } :=
  ⟨G.toGridCore.set_so x, fun i h => (upd_ne (tne (G.t_pra i h) G.t_so (by omega))).trans (G.prs i h), fun i h => (upd_ne (tne (G.t_sha i h) G.t_so (by omega))).trans (G.shs i h), G.t_pra, G.t_sha⟩
theorem GridCore.set_gs (G : GridCore K H ga p D) (x : List V) : GridCore K (upd H D.gs (.lst x)) ga p { D with gsL := x } :=
  { G with ob := (upd_ne (tne G.t_ga G.t_gs (by omega))).trans G.ob, kw := (upd_ne (tne G.t_kw G.t_gs (by omega))).trans G.kw, kv := (upd_ne (tne G.t_kv G.t_gs (by omega))).trans G.kv, nk := (upd_ne (tne G.t_nk G.t_gs (by omega))).trans G.nk, cc := (upd_ne (tne G.t_cc G.t_gs (by omega))).trans G.cc, ld := (upd_ne (tne G.t_ld G.t_gs (by omega))).trans G.ld, wl := (upd_ne (tne G.t_wl G.t_gs (by omega))).trans G.wl, pr := (upd_ne (tne G.t_pr G.t_gs (by omega))).trans G.pr, so := (upd_ne (tne G.t_so G.t_gs (by omega))).trans G.so, gs := upd_same, F := G.F.upd (tne G.t_fa G.t_gs (by omega)), O := G.O.upd (tne G.t_oa G.t_gs (by omega)) (tne G.t_ca G.t_gs (by omega)), t_no := fun a e => G.t_no a (none_upd e) }
theorem GridHas.set_gs (G : GridHas K H ga p D) (x : List V) : GridHas K (upd H D.gs (.lst x)) ga p { D with gsL := x } :=
  ⟨G.toGridCore.set_gs x, fun i h => (upd_ne (tne (G.t_pra i h) G.t_gs (by omega))).trans (G.prs i h), fun i h => (upd_ne (tne (G.t_sha i h) G.t_gs (by omega))).trans (G.shs i h), G.t_pra, G.t_sha⟩
theorem GridCore.set_up (G : GridCore K H ga p D) (z : Str) : GridCore K (upd H ga (.ins (c_Grid K) D.dx (gflds { D with up := z }))) ga p { D with up := z } :=
  { G with ob := upd_same, kw := (upd_ne (tne G.t_kw G.t_ga (by omega))).trans G.kw, kv := (upd_ne (tne G.t_kv G.t_ga (by omega))).trans G.kv, nk := (upd_ne (tne G.t_nk G.t_ga (by omega))).trans G.nk, cc := (upd_ne (tne G.t_cc G.t_ga (by omega))).trans G.cc, ld := (upd_ne (tne G.t_ld G.t_ga (by omega))).trans G.ld, wl := (upd_ne (tne G.t_wl G.t_ga (by omega))).trans G.wl, pr := (upd_ne (tne G.t_pr G.t_ga (by omega))).trans G.pr, so := (upd_ne (tne G.t_so G.t_ga (by omega))).trans G.so, gs := (upd_ne (tne G.t_gs G.t_ga (by omega))).trans G.gs, F := G.F.upd (tne G.t_fa G.t_ga (by omega)), O := G.O.upd (tne G.t_oa G.t_ga (by omega)) (tne G.t_ca G.t_ga (by omega)), t_no := fun a e => G.t_no a (none_upd e) }
theorem GridHas.set_up (G : GridHas K H ga p D) (z : Str) : GridHas K (upd H ga (.ins (c_Grid K) D.dx (gflds { D with up := z }))) ga p { D with up := z } :=
  ⟨G.toGridCore.set_up z, fun i h => (upd_ne (tne (G.t_pra i h) G.t_ga (by omega))).trans (G.prs i h), fun i h => (upd_ne (tne (G.t_sha i h) G.t_ga (by omega))).trans (G.shs i h), G.t_pra, G.t_sha⟩
/-- another object that the tags tell -/
theorem GridCore.other (G : GridCore K H ga p D) {a : Addr} {o : HO} (h : D.tg a = 0 ∨ 20 ≤ D.tg a) : GridCore K (upd H a o) ga p D := by
  have n : ∀ {b : Addr} {t : Nat}, D.tg b = t → 0 < t → t < 20 → b ≠ a := fun ht h0 h1 e => by rw [e] at ht; omega
  exact { G with ob := (upd_ne (n G.t_ga (by omega) (by omega))).trans G.ob, kw := (upd_ne (n G.t_kw (by omega) (by omega))).trans G.kw, kv := (upd_ne (n G.t_kv (by omega) (by omega))).trans G.kv, nk := (upd_ne (n G.t_nk (by omega) (by omega))).trans G.nk, cc := (upd_ne (n G.t_cc (by omega) (by omega))).trans G.cc, ld := (upd_ne (n G.t_ld (by omega) (by omega))).trans G.ld, wl := (upd_ne (n G.t_wl (by omega) (by omega))).trans G.wl, pr := (upd_ne (n G.t_pr (by omega) (by omega))).trans G.pr, so := (upd_ne (n G.t_so (by omega) (by omega))).trans G.so, gs := (upd_ne (n G.t_gs (by omega) (by omega))).trans G.gs, F := G.F.upd (n G.t_fa (by omega) (by omega)), O := G.O.upd (n G.t_oa (by omega) (by omega)) (n G.t_ca (by omega) (by omega)), t_no := fun a e => G.t_no a (none_upd e) }
theorem GridHas.other (G : GridHas K H ga p D) {a : Addr} {o : HO} (h : D.tg a = 0) : GridHas K (upd H a o) ga p D :=
  ⟨G.toGridCore.other (.inl h), fun i hi => (upd_ne (tne (G.t_pra i hi) h (by omega))).trans (G.prs i hi), fun i hi => (upd_ne (tne (G.t_sha i hi) h (by omega))).trans (G.shs i hi), G.t_pra, G.t_sha⟩
theorem GridHas.set_row (G : GridHas K H ga p D) (k : Nat) (hk : k < D.m) (x : List V) : GridHas K (upd H (D.pra k) (.lst x)) ga p { D with prL := fun i => if i = k then x else D.prL i } := by
  have c := G.toGridCore.other (a := D.pra k) (o := .lst x) (.inr (by rw [G.t_pra k hk]; omega))
  refine ⟨{ c with }, fun i h => ?_, fun i h => (upd_ne (tne (G.t_sha i h) (G.t_pra k hk) (by omega))).trans (G.shs i h), G.t_pra, G.t_sha⟩
  show upd H (D.pra k) (.lst x) (D.pra i) = some (.lst (if i = k then x else D.prL i))
  by_cases e : i = k
  · rw [if_pos e, e]; exact upd_same
  · rw [if_neg e]; exact (upd_ne (tne (G.t_pra i h) (G.t_pra k hk) (by omega))).trans (G.prs i h)
/-- one pivot more: its row and its shares stood as objects of their own -/
theorem GridHas.grow (G : GridHas K H ga p D) {r s : Addr} {x : List V} {y : List (Key × V)} (hr : H r = some (.lst x)) (hs : H s = some (.dK y)) (tr : D.tg r = 0) (ts : D.tg s = 0) :
    GridHas K H ga p { D with m := D.m + 1, pra := fun i => if i = D.m then r else D.pra i, sha := fun i => if i = D.m then s else D.sha i, prL := fun i => if i = D.m then x else D.prL i, shL := fun i => if i = D.m then y else D.shL i, tg := fun a => if a = r then 20 + 2 * D.m else if a = s then 21 + 2 * D.m else D.tg a } := by
  have nrs : s ≠ r := fun e => by rw [e, hr] at hs; cases hs
  have tk : ∀ {a : Addr} {t : Nat}, D.tg a = t → 0 < t → (if a = r then 20 + 2 * D.m else if a = s then 21 + 2 * D.m else D.tg a) = t := fun ha h0 => by
    rw [if_neg (fun e => by rw [e] at ha; omega), if_neg (fun e => by rw [e] at ha; omega)]; exact ha
  have tno : ∀ a, H a = none → (if a = r then 20 + 2 * D.m else if a = s then 21 + 2 * D.m else D.tg a) = 0 := fun a e => by
    rw [if_neg (fun z => by rw [z, hr] at e; cases e), if_neg (fun z => by rw [z, hs] at e; cases e)]; exact G.t_no a e
  refine ⟨{ G.toGridCore with t_ga := tk G.t_ga (by omega), t_kw := tk G.t_kw (by omega), t_kv := tk G.t_kv (by omega), t_nk := tk G.t_nk (by omega), t_cc := tk G.t_cc (by omega), t_ld := tk G.t_ld (by omega), t_wl := tk G.t_wl (by omega), t_pr := tk G.t_pr (by omega), t_so := tk G.t_so (by omega), t_gs := tk G.t_gs (by omega), t_fa := tk G.t_fa (by omega), t_oa := tk G.t_oa (by omega), t_ca := tk G.t_ca (by omega), t_no := tno }, fun i h => ?_, fun i h => ?_, fun i h => ?_, fun i h => ?_⟩
  · show H (if i = D.m then r else D.pra i) = some (.lst (if i = D.m then x else D.prL i))
    by_cases e : i = D.m
    · rw [if_pos e, if_pos e]; exact hr
    · rw [if_neg e, if_neg e]; exact G.prs i (by have : i < D.m + 1 := h; omega)
  · show H (if i = D.m then s else D.sha i) = some (.dK (if i = D.m then y else D.shL i))
    by_cases e : i = D.m
    · rw [if_pos e, if_pos e]; exact hs
    · rw [if_neg e, if_neg e]; exact G.shs i (by have : i < D.m + 1 := h; omega)
  · show (if (if i = D.m then r else D.pra i) = r then 20 + 2 * D.m else if (if i = D.m then r else D.pra i) = s then 21 + 2 * D.m else D.tg (if i = D.m then r else D.pra i)) = 20 + 2 * i
    by_cases e : i = D.m
    · rw [if_pos e, if_pos rfl, e]
    · rw [if_neg e]; exact tk (G.t_pra i (by have : i < D.m + 1 := h; omega)) (by omega)
  · show (if (if i = D.m then s else D.sha i) = r then 20 + 2 * D.m else if (if i = D.m then s else D.sha i) = s then 21 + 2 * D.m else D.tg (if i = D.m then s else D.sha i)) = 21 + 2 * i
    by_cases e : i = D.m
    · rw [if_pos e, if_neg nrs, if_pos rfl, e]
    · rw [if_neg e]; exact tk (G.t_sha i (by have : i < D.m + 1 := h; omega)) (by omega)
end

/-! ### dicts by places -/
def dG (m : Nat) (ky : Nat → Key) (f : Nat → V) : List (Key × V) := (List.range m).map fun i => (ky i, f i)
def aK (c i : Nat) : Key := Sum.inr (A c i)
def nK (i : Nat) : Key := Sum.inl (i : Int)
theorem kV_aK (c i : Nat) : kV (aK c i) = .str (A c i) := rfl
theorem kV_nK (i : Nat) : kV (nK i) = .int (i : Nat) := rfl
theorem aK_inj {c i j : Nat} (h : aK c i = aK c j) : i = j := A_inj (Sum.inr.inj h)
theorem nK_inj {i j : Nat} (h : nK i = nK j) : i = j := by
  have : (i : Int) = (j : Int) := Sum.inl.inj h
  omega
theorem dG_len (m : Nat) (ky : Nat → Key) (f : Nat → V) : (dG m ky f).length = m := by unfold dG; rw [List.length_map, List.length_range]
theorem dG_succ (m : Nat) (ky : Nat → Key) (f : Nat → V) : dG (m + 1) ky f = dG m ky f ++ [(ky m, f m)] := by unfold dG; rw [List.range_succ, List.map_append]; rfl
theorem dG_none {m : Nat} {ky : Nat → Key} {f : Nat → V} {x : Key} (h : ∀ i, i < m → ky i ≠ x) : valV (dG m ky f) x = none := by
  unfold valV dG
  rw [List.find?_eq_none.mpr fun q hq => ?_]
  · rfl
  · obtain ⟨i, hi, e⟩ := List.mem_map.mp hq
    rw [← e]
    simpa using h i (List.mem_range.mp hi)
theorem dG_get {m k : Nat} {ky : Nat → Key} {f : Nat → V} (inj : ∀ i j, i < m → j < m → ky i = ky j → i = j) (hk : k < m) : valV (dG m ky f) (ky k) = some (f k) := by
  induction m with
  | zero => omega
  | succ m ih =>
    rw [dG_succ, valV_snoc _ _ _ _ (dG_none fun i hi e => by have := inj i m (by omega) (by omega) e; omega)]
    by_cases e : k = m
    · rw [e, if_pos rfl]
    · rw [if_neg fun z => e (inj k m hk (by omega) z)]
      exact ih (fun i j a b => inj i j (by omega) (by omega)) (by omega)
theorem dG_congr {m : Nat} {ky ky' : Nat → Key} {f g : Nat → V} (h : ∀ i, i < m → ky i = ky' i ∧ f i = g i) : dG m ky f = dG m ky' g := by
  unfold dG
  refine List.map_congr_left fun i hi => ?_
  obtain ⟨a, b⟩ := h i (List.mem_range.mp hi)
  rw [a, b]
theorem dG_put {m k : Nat} {ky : Nat → Key} {f : Nat → V} {v : V} (inj : ∀ i j, i < m → j < m → ky i = ky j → i = j) (hk : k < m) : putK (dG m ky f) (ky k) v = dG m ky (fun i => if i = k then v else f i) := by
  unfold putK
  rw [if_pos (by rw [valV_any, dG_get inj hk]; rfl)]
  unfold dG
  rw [List.map_map]
  refine List.map_congr_left fun i hi => ?_
  have hi := List.mem_range.mp hi
  show (if ky i = ky k then (ky i, v) else (ky i, f i)) = (ky i, if i = k then v else f i)
  by_cases e : i = k
  · rw [e, if_pos rfl, if_pos rfl]
  · rw [if_neg fun z => e (inj i k hi hk z), if_neg e]
theorem dG_new {m : Nat} {ky : Nat → Key} {f : Nat → V} {v : V} (h : ∀ i, i < m → ky i ≠ ky m) : putK (dG m ky f) (ky m) v = dG (m + 1) ky (fun i => if i = m then v else f i) := by
  rw [putK_new v (dG_none h), dG_succ, if_pos rfl]
  congr 1
  exact dG_congr fun i hi => ⟨rfl, by rw [if_neg (by omega)]⟩
theorem aK_injs (c m : Nat) : ∀ i j, i < m → j < m → aK c i = aK c j → i = j := fun _ _ _ _ e => aK_inj e
/-! ### shares -/
section
variable {p : Nat} [NeZero p]
theorem fv_zero : fv (0 : _root_.Fin p) = .int 0 := by
  have : (0 : _root_.Fin p).val = 0 := by show 0 % p = 0; exact Nat.zero_mod p
  show V.int (((0 : _root_.Fin p).val : Nat) : Int) = _
  rw [this]; rfl
theorem fv_inj {x y : _root_.Fin p} (h : fv x = fv y) : x = y := by
  have : ((x.val : Nat) : Int) = ((y.val : Nat) : Int) := V.int.inj h
  exact _root_.Fin.ext (by omega)
theorem fv_one (h : 2 ≤ p) : fv (1 : _root_.Fin p) = .int 1 := by
  have : (1 : _root_.Fin p).val = 1 := by show 1 % p = 1; exact Nat.mod_eq_of_lt (by omega)
  show V.int (((1 : _root_.Fin p).val : Nat) : Int) = _
  rw [this]; rfl
theorem fv_is0 (f : _root_.Fin p) : decide (fv f = V.int 0) = decide (f = 0) := decide_eq_decide.mpr ⟨fun q => fv_inj (q.trans fv_zero.symm), fun q => by rw [q]; exact fv_zero⟩
def shD (c : Nat) (l : List (Nat × _root_.Fin p)) : List (Key × V) := l.map fun q => (aK c q.1, fv q.2)
theorem shD_len (c : Nat) (l : List (Nat × _root_.Fin p)) : (shD c l).length = l.length := List.length_map ..
theorem shD_get (c : Nat) (l : List (Nat × _root_.Fin p)) (k : Nat) : (valV (shD c l) (aK c k)).getD (.int 0) = fv (Mx.getL l k) := by
  induction l with
  | nil => exact fv_zero.symm
  | cons q r ih =>
    show (valV ((aK c q.1, fv q.2) :: shD c r) (aK c k)).getD (.int 0) = fv (if q.1 = k then q.2 else Mx.getL r k)
    by_cases e : q.1 = k
    · rw [valV_pos (show (aK c q.1, fv q.2).1 = aK c k by rw [e]), if_pos e]; rfl
    · rw [valV_neg (show ¬ (aK c q.1, fv q.2).1 = aK c k from fun z => e (aK_inj z)), if_neg e, ih]
theorem shD_none {c k : Nat} {l : List (Nat × _root_.Fin p)} (h : k ∉ Mx.keysL l) : valV (shD c l) (aK c k) = none := by
  induction l with
  | nil => rfl
  | cons q r ih =>
    show valV ((aK c q.1, fv q.2) :: shD c r) (aK c k) = none
    rw [valV_neg (show ¬ (aK c q.1, fv q.2).1 = aK c k from fun z => h (by rw [← aK_inj z]; exact List.mem_cons_self ..)), ih fun z => h (List.mem_cons_of_mem _ z)]
theorem shD_in {c k : Nat} {l : List (Nat × _root_.Fin p)} (h : k ∈ Mx.keysL l) : ∃ v, valV (shD c l) (aK c k) = some v := by
  induction l with
  | nil => cases h
  | cons q r ih =>
    by_cases e : q.1 = k
    · exact ⟨_, valV_pos (show (aK c q.1, fv q.2).1 = aK c k by rw [e])⟩
    · obtain ⟨v, hv⟩ := ih ((List.mem_cons.mp h).resolve_left fun z => e z.symm)
      exact ⟨v, (valV_neg (show ¬ (aK c q.1, fv q.2).1 = aK c k from fun z => e (aK_inj z))).trans hv⟩
theorem shD_put {c k : Nat} {l : List (Nat × _root_.Fin p)} {v : _root_.Fin p} (hn : (Mx.keysL l).Nodup) : putK (shD c l) (aK c k) (fv v) = shD c (Mx.putL l k v) := by
  by_cases h : k ∈ Mx.keysL l
  · rw [Mx.putL_old hn h]
    unfold putK
    obtain ⟨u, hu⟩ := shD_in (c := c) h
    rw [if_pos (by rw [valV_any, hu]; rfl)]
    unfold shD
    rw [List.map_map, List.map_map]
    refine List.map_congr_left fun q _ => ?_
    show (if aK c q.1 = aK c k then (aK c q.1, fv v) else (aK c q.1, fv q.2)) = (aK c (if q.1 = k then (q.1, v) else q).1, fv (if q.1 = k then (q.1, v) else q).2)
    by_cases e : q.1 = k
    · rw [if_pos (by rw [e]), if_pos e]
    · rw [if_neg fun z => e (aK_inj z), if_neg e]
  · rw [Mx.putL_new h, putK_new _ (shD_none h)]
    unfold shD
    rw [List.map_append]; rfl
end
/-! ### what a grid knows -/
def rowV {p : Nat} (n : Nat) (r : Nat → _root_.Fin p) : List V := (List.range n).map fun i => fv (r i)
def wordsV (c n : Nat) : List V := (List.range n).map fun i => .str (A c i)
theorem rowV_len {p : Nat} (n : Nat) (r : Nat → _root_.Fin p) : (rowV n r).length = n := by unfold rowV; rw [List.length_map, List.length_range]
theorem wordsV_len (c n : Nat) : (wordsV c n).length = n := by unfold wordsV; rw [List.length_map, List.length_range]
theorem rowV_get {p n i : Nat} {r : Nat → _root_.Fin p} (h : i < n) : (rowV n r)[i]? = some (fv (r i)) := by unfold rowV; rw [List.getElem?_map, List.getElem?_range h]; rfl
theorem wordsV_get {c n i : Nat} (h : i < n) : (wordsV c n)[i]? = some (.str (A c i)) := by unfold wordsV; rw [List.getElem?_map, List.getElem?_range h]; rfl
theorem rowV_succ {p : Nat} (n : Nat) (r : Nat → _root_.Fin p) : rowV (n + 1) r = rowV n r ++ [fv (r n)] := by unfold rowV; rw [List.range_succ, List.map_append]; rfl
theorem wordsV_succ (c n : Nat) : wordsV c (n + 1) = wordsV c n ++ [.str (A c n)] := by unfold wordsV; rw [List.range_succ, List.map_append]; rfl
theorem wordsV_take {c n k : Nat} (h : k ≤ n) : (wordsV c n).take k = wordsV c k := by unfold wordsV; rw [← List.map_take, List.take_range, Nat.min_eq_left h]
theorem rowV_congr {p n : Nat} {r t : Nat → _root_.Fin p} (h : ∀ i, i < n → r i = t i) : rowV n r = rowV n t := List.map_congr_left fun i hi => by rw [h i (List.mem_range.mp hi)]
section
variable {p : Nat} [NeZero p]
structure Known (D : GD) (s : Nat → _root_.Fin p) (n : Nat) : Prop where
  kw : D.kwL = wordsV D.c n
  kv : D.kvL = rowV n s
  nk : D.nkD = dG n (aK D.c) fun i => .int (i : Nat)
  le : n ≤ 1000
def Counts (D : GD) (m : Nat) (cc : Nat → Nat) : Prop := D.ccD = dG m (aK D.c) fun i => .int (cc i : Nat)
def Counts.at (m : Nat) (cc : Nat → Nat) (k : Nat) : Nat := if k < m then cc k else 0
structure Basis (D : GD) (L : Nat) (lead : Nat → Nat) (sh : Nat → List (Nat × _root_.Fin p)) : Prop where
  mL : D.m = L
  ld : D.ldD = dG L (aK D.c) fun i => .int (lead i : Nat)
  wl : D.wlD = dG L (fun i => nK (lead i)) fun i => .str (A D.c i)
  pr : D.prD = dG L (aK D.c) fun i => .ref (D.pra i)
  so : D.soD = dG L (aK D.c) fun i => .ref (D.sha i)
  sl : ∀ i, i < L → D.shL i = shD D.c (sh i)
def RowsAre (D : GD) (s : Nat → _root_.Fin p) (L : Nat) (sh : Nat → List (Nat × _root_.Fin p)) (len : Nat → Nat) : Prop := ∀ i, i < L → D.prL i = rowV (len i) fun c => Mx.piv s (sh i) c
structure Std (D : GD) (s : Nat → _root_.Fin p) (n L : Nat) (lead : Nat → Nat) (sh : Nat → List (Nat × _root_.Fin p)) : Prop where
  known : Known D s n
  counts : Counts D n fun i => n - i
  basis : Basis D L lead sh
  rows : RowsAre D s L sh fun i => n - i
  up : D.up = A D.c n
  gm : Mx.GM s n L lead sh
  rule : ∃ C, Mx.Rule s n L C
  few : n ≤ 100
theorem Std.cnt {D : GD} {s : Nat → _root_.Fin p} {n L : Nat} {lead : Nat → Nat} {sh : Nat → List (Nat × _root_.Fin p)} (S : Std D s n L lead sh) (k : Nat) : valV D.ccD (aK D.c k) = if k < n then some (.int ((n - k : Nat) : Int)) else none := by
  rw [S.counts]
  by_cases h : k < n
  · rw [if_pos h]; exact dG_get (aK_injs _ _) h
  · rw [if_neg h]; exact dG_none fun i hi e => h (by rw [← aK_inj e]; exact hi)
end
/-! ### promises -/
def sp_Grid_known_value (K : PySem.W.Frag) : Sp := fun vs H Q _ => ∃ (ga : Addr) (D : GD) (p : Nat) (_ : NeZero p) (s : Nat → _root_.Fin p) (n k : Nat), vs = [.ref ga, .str (A D.c k)] ∧ GridCore K H ga p D ∧ Known D s n ∧ k < n ∧ Q (fv (s k)) H
def sp_Grid_column_count (K : PySem.W.Frag) : Sp := fun vs H Q _ => ∃ (ga : Addr) (D : GD) (p m k : Nat) (cc : Nat → Nat), vs = [.ref ga, .str (A D.c k)] ∧ GridCore K H ga p D ∧ Counts D m cc ∧ Q (.int ((Counts.at m cc k : Nat) : Int)) H
def sp_Grid_known_row (K : PySem.W.Frag) : Sp := fun vs H Q _ => ∃ (ga : Addr) (D : GD) (p : Nat) (_ : NeZero p) (s : Nat → _root_.Fin p) (n m k : Nat) (cc : Nat → Nat), vs = [.ref ga, .str (A D.c k)] ∧ GridCore K H ga p D ∧ Known D s n ∧ Counts D m cc ∧
  (k + Counts.at m cc k ≤ n ∧ n ≤ 1000) ∧ ∀ R H', H R = none → Same H H' → H' R = some (.lst (rowV (Counts.at m cc k) fun c => s (k + c))) → Q (.ref R) H'
def sp_Grid_is_later (K : PySem.W.Frag) : Sp := fun vs H Q _ => ∃ (ga : Addr) (D : GD) (p i j : Nat), vs = [.ref ga, .str (A D.c i), .str (A D.c j)] ∧ GridCore K H ga p D ∧ (i ≤ 160 ∧ j ≤ 160) ∧ ∀ H', Same H H' → Q (.bl (decide (j < i))) H'
def sp_Grid_size_now (K : PySem.W.Frag) : Sp := fun vs H Q _ => ∃ (ga : Addr) (D : GD) (p : Nat), vs = [.ref ga] ∧ GridCore K H ga p D ∧ Q (.int (D.ldD.length : Nat)) H
def sp_Grid_pivot_value (K : PySem.W.Frag) : Sp := fun vs H Q _ => ∃ (ga : Addr) (D : GD) (p : Nat) (_ : NeZero p) (s : Nat → _root_.Fin p) (n L i c : Nat) (lead : Nat → Nat) (sh : Nat → List (Nat × _root_.Fin p)), vs = [.ref ga, .str (A D.c i), .str (A D.c c)] ∧
  GridHas K H ga p D ∧ Known D s n ∧ Basis D L lead sh ∧ (i < L ∧ ∀ q ∈ sh i, q.1 + c < n) ∧ ∀ H', Same H H' → Q (fv (Mx.piv s (sh i) c)) H'
section
variable {P : Program} {w : World} {K : PySem.W.Frag} {mg : Str → Option Value} {base : Heap}
theorem no_grid {D : GD} {f : Str} (h : (gnames.contains f) = false) : (gflds D).lookup f = none := gf_no D fun z => by
  rw [List.contains_iff_mem.mpr z] at h
  cases h
theorem ok_Grid_known_value (T : TX K mg) : FnOk P w K mg base CX0 1 (a_Grid_known_value K) (d_ K (a_Grid_known_value K)) ["self", "word"] (sp_Grid_known_value K) := by
  refine T.F_Grid_known_value.ok sc_Grid_known_value (fun vs H Q E h => ?_) (fun cdv Ar outer s0 H vs Q E hr h => ?_)
  · (repeat (obtain ⟨_, h⟩ := h)); subst_vars; rfl
  · obtain ⟨ga, D, p, _, s, n, k, rfl, G, N, hk, k0⟩ := h
    have hu := hu_of hr
    refine ⟨_, (pss_one (ps_ret (pe_ix (ix_listK (K := K) rfl) (pe_fldK (K := K) rfl (pv 0) (by rfl)) (pe_dget (by exact hu) (pe_fldK (K := K) rfl (pv 0) (by rfl)) (pv 1) (fun _ _ => rfl)) (fun _ _ => rfl)))), ?_⟩
    have g := DGet.k (k := aK D.c k) G.nk
    rw [N.nk, dG_get (aK_injs _ _) hk] at g
    refine ⟨_, rfl, ga, _, D.dx, _, _, rfl, G.ob, T.cl_Grid, T.na_Grid_known_values, gf_known_values D, _, rfl, ga, _, D.dx, _, _, rfl, G.ob, T.cl_Grid, T.na_Grid_number_of_known, gf_number_of_known D, _, rfl, D.nk, _, rfl, g, ?_⟩
    refine ⟨D.kv, D.kvL, (k : Int), fv (s k), rfl, rfl, SqL.of G.kv, ?_, k0⟩
    rw [N.kv]
    exact at_of (j := k) rfl (rowV_get hk)
theorem ok_Grid_column_count (T : TX K mg) : FnOk P w K mg base CX0 1 (a_Grid_column_count K) (d_ K (a_Grid_column_count K)) ["self", "word"] (sp_Grid_column_count K) := by
  refine T.F_Grid_column_count.ok sc_Grid_column_count (fun vs H Q E h => ?_) (fun cdv Ar outer s0 H vs Q E hr h => ?_)
  · (repeat (obtain ⟨_, h⟩ := h)); subst_vars; rfl
  · obtain ⟨ga, D, p, m, k, cc, rfl, G, N, k0⟩ := h
    have hu := hu_of hr
    refine ⟨_, (pss_one (ps_ret (pe_dget2 (by exact hu) (pe_fldK (K := K) rfl (pv 0) (by rfl)) (pv 1) pe_int ⟨rfl, by rfl, rfl, rfl⟩))), ?_⟩
    have g := DGet.k (k := aK D.c k) G.cc
    refine ⟨_, rfl, ga, _, D.dx, _, _, rfl, G.ob, T.cl_Grid, T.na_Grid_column_counts, gf_column_counts D, D.cc, rfl, .inl ⟨_, .inl G.cc⟩, _, rfl, _, g, ?_⟩
    rw [show D.ccD = dG m (aK D.c) fun i => .int (cc i : Nat) from N]
    by_cases h : k < m
    · rw [dG_get (aK_injs _ _) h]
      unfold Counts.at at k0
      rw [if_pos h] at k0
      exact k0
    · rw [dG_none fun i hi e => h (by rw [← aK_inj e]; exact hi)]
      unfold Counts.at at k0
      rw [if_neg h] at k0
      exact k0
theorem ok_Grid_size_now (T : TX K mg) : FnOk P w K mg base CX0 1 (a_Grid_size_now K) (d_ K (a_Grid_size_now K)) ["self"] (sp_Grid_size_now K) := by
  refine T.F_Grid_size_now.ok sc_Grid_size_now (fun vs H Q E h => ?_) (fun cdv Ar outer s0 H vs Q E hr h => ?_)
  · (repeat (obtain ⟨_, h⟩ := h)); subst_vars; rfl
  · obtain ⟨ga, D, p, rfl, G, k0⟩ := h
    have hu := hu_of hr
    refine ⟨_, (pss_one (ps_ret (pe_callB call_lenD (by rfl) T.n_len (by decide +kernel) (pa_cons (pe_fldK (K := K) rfl (pv 0) (by rfl)) pa_nil)))), ?_⟩
    exact ⟨_, rfl, ga, _, D.dx, _, _, rfl, G.ob, T.cl_Grid, T.na_Grid_leads, gf_leads D, D.ld, D.ldD, rfl, G.ld, k0⟩
theorem ok_Grid_is_later (T : TX K mg) : FnOk P w K mg base CX0 5 (a_Grid_is_later K) (d_ K (a_Grid_is_later K)) ["self", "word", "other"] (sp_Grid_is_later K) := by
  refine T.F_Grid_is_later.ok sc_Grid_is_later (fun vs H Q E h => ?_) (fun cdv Ar outer s0 H vs Q E hr h => ?_)
  · (repeat (obtain ⟨_, h⟩ := h)); subst_vars; rfl
  · obtain ⟨ga, D, p, i, j, rfl, G, ⟨hi, hj⟩, k0⟩ := h
    have hu := hu_of hr
    refine ⟨_, (pss_one (ps_ret (pe_meth (pe_fldK (K := K) rfl (pv 0) (by rfl)) T.cl_Order T.mt_Order_is_before (ok_Order_is_before T) (by exact hr.mono (by decide)) T.b_Order_is_before .nil pass0 (pa_cons (pv 2) (pa_cons (pv 1) pa_nil))))), ?_⟩
    obtain ⟨dx, e⟩ := G.O.ob
    exact ⟨_, rfl, ga, _, D.dx, _, _, rfl, G.ob, T.cl_Grid, T.na_Grid_own_order, gf_own_order D, D.oa, dx, _, rfl, e, oflds_no D.c D.ca (by decide +kernel) (by decide +kernel), _, rfl, _, rfl, D.oa, D.ca, D.c, j, i, rfl, G.O, ⟨hj, hi⟩, k0⟩
end
end Fa

namespace Fa
open PySem PySem.Spec L2
theorem _root_.L2.Same.upd2 {H H' : Hp} {a : Addr} {o : HO} (s : Same H H') : Same (upd H a o) (upd H' a o) := fun b u e => by
  by_cases h : b = a
  · subst h; rw [upd_same] at e ⊢; exact e
  · rw [upd_ne h] at e ⊢; exact s b u e
theorem _root_.L2.Same.put' {H H1 : Hp} {p : Addr} {o : HO} (s : Same H H1) (h : H p = none) : Same H (upd H1 p o) := s.put h
theorem cutV_pre {xs : List V} {k : Nat} (h : k ≤ xs.length) : cutV xs none (some (k : Int)) = xs.take k := by
  unfold cutV
  have e : HT.sIx xs.length xs.length (some (k : Int)) = k := by
    show (if (k : Int) < 0 then ((k : Int) + (xs.length : Int)).toNat else min (k : Int).toNat xs.length) = k
    rw [if_neg (by omega)]; omega
  rw [e]
  show (xs.drop 0).take (k - 0) = xs.take k
  rw [List.drop_zero, Nat.sub_zero]
section
variable {p : Nat} [NeZero p]
theorem shD_at {c t : Nat} {l : List (Nat × _root_.Fin p)} (h : t < l.length) : (shD c l)[t]? = some (aK c l[t].1, fv l[t].2) := by
  unfold shD
  rw [List.getElem?_map, List.getElem?_eq_getElem h]; rfl
theorem items_at {c t : Nat} {l : List (Nat × _root_.Fin p)} {x y : V} {e : List (Key × V)} (he : e = shD c l) (h : t < l.length) (hx : (fun i => e[i]?.map fun kv => kV kv.1) t = some x) (hy : (fun i => e[i]?.map Prod.snd) t = some y) : x = .str (A c l[t].1) ∧ y = fv l[t].2 := by
  subst he
  simp only [shD_at h, Option.map_some] at hx hy
  exact ⟨(Option.some.inj hx).symm, (Option.some.inj hy).symm⟩
omit [NeZero p] in
theorem rowV_eq (n : Nat) (r : Nat → _root_.Fin p) : rowV n r = ((List.range n).map r).map fv := by unfold rowV; rw [List.map_map]; rfl
theorem rowV_zip {w m : Nat} (h : w ≤ m) (r t : Nat → _root_.Fin p) (f : _root_.Fin p) : (List.zipWith (fun a b => a - f * b) ((List.range w).map r) ((List.range m).map t)).map fv = rowV w (fun x => r x - f * t x) := by
  rw [rowV_eq]
  congr 1
  refine List.ext_getElem (by simp; omega) fun i h1 h2 => ?_
  simp
end
theorem upd_back {H : Hp} {a : Addr} {u : HO} (h : H a = some u) (o : HO) : upd (upd H a o) a u = H := by
  funext b
  by_cases e : b = a
  · subst e; rw [upd_same, h]
  · rw [upd_ne e, upd_ne e]
/-! ### promises -/
def sp_Grid_in_basis_words (K : PySem.W.Frag) : Sp := fun vs H Q _ => ∃ (ga fa : Addr) (D : GD) (p : Nat) (_ : NeZero p) (L : Nat) (lead : Nat → Nat) (sh : Nat → List (Nat × _root_.Fin p)) (fs : List (Nat × _root_.Fin p)), vs = [.ref ga, .ref fa] ∧
  GridHas K H ga p D ∧ Basis D L lead sh ∧ (H fa = some (.dK (shD D.c fs)) ∧ D.tg fa = 0) ∧ ((∀ q ∈ fs, q.1 < L) ∧ (∀ i, i < L → ∀ q ∈ sh i, q.1 < L) ∧ L ≤ 1000) ∧
  ∀ R H', H R = none → Same H H' → H' R = some (.dK (shD D.c (Mx.combo sh fs))) → Q (.ref R) H'
def sp_Grid_shares_in (K : PySem.W.Frag) : Sp := fun vs H Q _ => ∃ (ga ra : Addr) (x : V) (D : GD) (p : Nat) (_ : NeZero p) (s : Nat → _root_.Fin p) (n L w : Nat) (lead : Nat → Nat) (sh : Nat → List (Nat × _root_.Fin p)) (a : Nat → _root_.Fin p), vs = [.ref ga, .ref ra, x] ∧
  GridHas K H ga p D ∧ Std D s n L lead sh ∧ SqL K H ra (rowV w fun c => Mx.sumR L fun k => a k * Mx.piv s (sh k) c) ∧ (L ≤ w ∧ w ≤ 1000 ∧ ∀ i, i < L → w ≤ n - i) ∧
  ∀ R H' (fs : List (Nat × _root_.Fin p)), H R = none → Same H H' → H' R = some (.dK (shD D.c fs)) → (∀ q ∈ fs, q.1 < L) → (∀ T : Nat → _root_.Fin p, Mx.sumL fs T = Mx.sumR L fun k => a k * T k) → Q (.ref R) H'
section
variable {P : Program} {w : World} {K : PySem.W.Frag} {mg : Str → Option Value} {base : Heap}
theorem ok_Grid_known_row (T : TX K mg) : FnOk P w K mg base CX0 2 (a_Grid_known_row K) (d_ K (a_Grid_known_row K)) ["self", "word"] (sp_Grid_known_row K) := by
  refine T.F_Grid_known_row.ok sc_Grid_known_row (fun vs H Q E h => ?_) (fun cdv Ar outer s0 H vs Q E hr h => ?_)
  · (repeat (obtain ⟨_, h⟩ := h)); subst_vars; rfl
  · obtain ⟨ga, D, p, nz, s, n, m, k, cc, rfl, G, N, C, ⟨hk, hn⟩, k0⟩ := h
    have hu := hu_of hr
    refine ⟨_, (pss_one (ps_ret (pe_lc (own := [("column", 2)]) (g := gName 2) (tt := tYes) rfl sc_Grid_known_row.nd (pi_list (pe_slice sl_list (pe_fldK (K := K) rfl (pv 0) (by rfl)) po_none (po_some (pe_meth (pv 0) T.cl_Grid T.mt_Grid_column_count (ok_Grid_column_count T) (by exact hr.mono (by decide)) T.b_Grid_column_count .nil pass0 (pa_cons (pv 1) pa_nil))))) (blkOk_by (own := [("column", 2)]) (N := N_Grid_known_row) (sc := defScope s_Grid_known_row) (by decide +kernel)) (fun _ _ _ _ _ => (pg_name (i := 2) sc_Grid_known_row.nd rfl (Or.inl rfl))) (fun _ _ _ _ _ => pts_nil) (by intro _ _ _ _ _; exact (pe_meth (pv 0) T.cl_Grid T.mt_Grid_known_value (ok_Grid_known_value T) (by exact hr.mono (by decide)) T.b_Grid_known_value .nil pass0 (pa_cons (pe_op op_add_str (pv 1) (pv 2)) pa_nil)))))), ?_⟩
    refine ⟨_, rfl, ga, _, D.dx, _, _, rfl, G.ob, T.cl_Grid, T.na_Grid_known_words, gf_known_words D, _, rfl, ga, D.dx, _, rfl, G.ob, no_grid (by decide +kernel), _, rfl, ga, D, p, m, k, cc, rfl, G, C, _, rfl, D.kw, D.kwL, rfl, SqL.of G.kw, fun R0 hR0 => ?_⟩
    rw [N.kw, cutV_pre (by rw [wordsV_len]; omega), wordsV_take (by omega)]
    refine ⟨R0, rfl, ⟨_, SqL.of upd_same⟩, fun R hR => ?_⟩
    have hR' := none_upd hR
    refine lc_map (walk_list (K := K) (a := R0) (xs := wordsV D.c (Counts.at m cc k))) (fun c => fv (s (k + c))) hR (by rw [wordsV_len]; omega) (fun H1 s1 => SqL.of (s1 _ _ upd_same)) (fun c x H1 H2 hc s1 y Kt kt => ?_) (fun H1 s1 hD => ?_)
    · obtain ⟨rfl, hx⟩ := y
      rw [wordsV_len] at hc
      rw [wordsV_get hc] at hx
      obtain rfl := (Option.some.inj hx).symm
      have G1 := G.same ((Same.new hR0).trans s1)
      refine ⟨rfl, _, rfl, ga, D.dx, _, rfl, G1.ob, no_grid (by decide +kernel), _, rfl, _, rfl, _, _, rfl, rfl, by rw [A_len, A_len]; exact sz _ (by omega), ga, D, p, nz, s, n, k + c, by rw [A_add]; rfl, G1, N, by omega, ?_⟩
      exact kt _ (Same.refl _)
    · rw [wordsV_len] at hD
      exact k0 R H1 hR' ((Same.new hR0).trans s1) hD
theorem ok_Grid_pivot_value (T : TX K mg) : FnOk P w K mg base CX0 2 (a_Grid_pivot_value K) (d_ K (a_Grid_pivot_value K)) ["self", "pivot_word", "column"] (sp_Grid_pivot_value K) := by
  refine T.F_Grid_pivot_value.ok sc_Grid_pivot_value (fun vs H Q E h => ?_) (fun cdv Ar outer s0 H vs Q E hr h => ?_)
  · (repeat (obtain ⟨_, h⟩ := h)); subst_vars; rfl
  · obtain ⟨ga, D, p, nz, s, n, L, i, c, lead, sh, rfl, G, N, B, ⟨hi, hq⟩, k0⟩ := h
    have hu := hu_of hr
    refine ⟨_, (pss_cons (ps_set (i := 3) sc_Grid_pivot_value.nd rfl (Or.inl rfl) pe_int)
      (pss_cons (ps_lock (ps_for PassesOwn.never rfl (pi_items (pe_dget (by exact hu) (pe_fldK (K := K) rfl (pv 0) (by rfl)) (pv 1) (fun _ _ => rfl))) (pg_tup (by rfl) (pgs_cons (pg_name (i := 4) sc_Grid_pivot_value.nd rfl (Or.inl rfl)) (pgs_cons (pg_name (i := 5) sc_Grid_pivot_value.nd rfl (Or.inl rfl)) pgs_nil))) (pss_one (ps_set (i := 3) sc_Grid_pivot_value.nd rfl (Or.inl rfl) (pe_meth (pe_fldK (K := K) rfl (pv 0) (by rfl)) T.cl_Modulo T.mt_Modulo_add (ok_Modulo_add T) (by exact hr.mono (by decide)) T.b_Modulo_add .nil pass0 (pa_cons (pv 3) (pa_cons (pe_meth (pe_fldK (K := K) rfl (pv 0) (by rfl)) T.cl_Modulo T.mt_Modulo_multiply (ok_Modulo_multiply T) (by exact hr.mono (by decide)) T.b_Modulo_multiply .nil pass0 (pa_cons (pv 5) (pa_cons (pe_meth (pv 0) T.cl_Grid T.mt_Grid_known_value (ok_Grid_known_value T) (by exact hr.mono (by decide)) T.b_Grid_known_value .nil pass0 (pa_cons (pe_op op_add_str (pv 4) (pv 2)) pa_nil)) pa_nil))) pa_nil)))))))
      (pss_one (ps_ret (pv 3))))), ?_⟩
    have hm : i < D.m := by rw [B.mL]; exact hi
    refine ⟨D.sha i, _, G.shs i hm, trivial, fun od => ?_⟩
    have GC := G.toGridCore.other (a := D.sha i) (o := .frz od (.dK (D.shL i))) (.inr (by rw [G.t_sha i hm]; omega))
    have g := DGet.k (k := aK D.c i) GC.so
    rw [B.so, dG_get (aK_injs _ _) hi] at g
    refine ⟨_, rfl, ga, _, D.dx, _, _, rfl, GC.ob, T.cl_Grid, T.na_Grid_shares_of, gf_shares_of D, _, rfl, D.so, _, rfl, g, D.sha i, od, _, rfl, upd_same, ?_⟩
    have hl : (D.shL i).length = (sh i).length := by rw [B.sl i hi, shD_len]
    refine for_it walk_items (fun t σ H1 => ∃ v4 v5, σ = [some (.ref ga), some (.str (A D.c i)), some (.str (A D.c c)), some (fv (Mx.sumL ((sh i).take t) fun k => s (k + c))), v4, v5] ∧ Same (upd H (D.sha i) (.frz od (.dK (D.shL i)))) H1) ⟨none, none, ?_, Same.refl _⟩ (fun t σ H1 ht pv => ?_) (fun t x σ H1 H2 ht pv y => ?_) (fun σ H1 pv => ?_)
    · show [some (V.ref ga), some (V.str (A D.c i)), some (V.str (A D.c c)), some (V.int 0), none, none] = [some (V.ref ga), some (V.str (A D.c i)), some (V.str (A D.c c)), some (fv (0 : _root_.Fin p)), none, none]
      rw [fv_zero]
    · obtain ⟨_, _, _, s1⟩ := pv
      exact s1 _ _ upd_same
    · obtain ⟨v4, v5, rfl, s1⟩ := pv
      obtain ⟨Tp, x1, x2, rfl, hT, rfl, hx, hy⟩ := y
      rw [hl] at ht
      obtain ⟨rfl, rfl⟩ := items_at (B.sl i hi) ht hx hy
      have hq1 := hq _ (List.getElem_mem ht)
      have hs2 := s1.trans (Same.new hT (o := .tup [.str (A D.c (sh i)[t].1), fv (sh i)[t].2]))
      have G1 := GC.same hs2
      obtain ⟨fdx, fe⟩ := G1.F.ob
      refine ⟨Tp, _, rfl, SqT.of upd_same, rfl, _, _, rfl, _, _, rfl, rfl, ?_⟩
      refine ⟨_, rfl, ga, _, D.dx, _, _, rfl, G1.ob, T.cl_Grid, T.na_Grid_own_field, gf_own_field D, D.fa, fdx, _, rfl, fe, no_field (by decide +kernel), _, rfl, _, rfl, ga, _, D.dx, _, _, rfl, G1.ob, T.cl_Grid, T.na_Grid_own_field, gf_own_field D, D.fa, fdx, _, rfl, fe, no_field (by decide +kernel), _, rfl, _, rfl, ga, D.dx, _, rfl, G1.ob, no_grid (by decide +kernel), _, rfl, _, rfl, _, _, rfl, rfl, ?_, ?_⟩
      · rw [A_len, A_len]; exact sz _ (by have := N.le; omega)
      · refine ⟨ga, D, p, nz, s, n, (sh i)[t].1 + c, by rw [A_add]; rfl, G1, N, hq1, D.fa, p, nz, (sh i)[t].2, s ((sh i)[t].1 + c), rfl, G1.F, D.fa, p, nz, _, _, rfl, G1.F, ?_⟩
        refine ⟨some (.str (A D.c (sh i)[t].1)), some (fv (sh i)[t].2), ?_, hs2⟩
        rw [Mx.sumL_take_succ ht]
        rfl
    · obtain ⟨v4, v5, rfl, s1⟩ := pv
      rw [hl, List.take_length]
      exact ⟨s1 _ _ upd_same, _, rfl, k0 _ (s1.unlock (G.shs i hm))⟩
theorem ok_Grid_in_basis_words (T : TX K mg) : FnOk P w K mg base CX0 2 (a_Grid_in_basis_words K) (d_ K (a_Grid_in_basis_words K)) ["self", "factors"] (sp_Grid_in_basis_words K) := by
  refine T.F_Grid_in_basis_words.ok sc_Grid_in_basis_words (fun vs H Q E h => ?_) (fun cdv Ar outer s0 H vs Q E hr h => ?_)
  · (repeat (obtain ⟨_, h⟩ := h)); subst_vars; rfl
  · obtain ⟨ga, fa, D, p, nz, L, lead, sh, fs, rfl, G, B, ⟨hfa, tfa⟩, ⟨hfs, hsh, hL⟩, k0⟩ := h
    have hu := hu_of hr
    refine ⟨_, (pss_cons (ps_set (i := 2) sc_Grid_in_basis_words.nd rfl (Or.inl rfl) pe_dnewK)
      (pss_cons (ps_lock (ps_for PassesOwn.never rfl (pi_items (pv 1)) (pg_tup (by rfl) (pgs_cons (pg_name (i := 3) sc_Grid_in_basis_words.nd rfl (Or.inl rfl)) (pgs_cons (pg_name (i := 4) sc_Grid_in_basis_words.nd rfl (Or.inl rfl)) pgs_nil))) (pss_one (ps_lock (ps_for PassesOwn.never rfl (pi_items (pe_dget (by exact hu) (pe_fldK (K := K) rfl (pv 0) (by rfl)) (pv 3) (fun _ _ => rfl))) (pg_tup (by rfl) (pgs_cons (pg_name (i := 5) sc_Grid_in_basis_words.nd rfl (Or.inl rfl)) (pgs_cons (pg_name (i := 6) sc_Grid_in_basis_words.nd rfl (Or.inl rfl)) pgs_nil))) (pss_one (ps_dput (by exact hu) (pv 2) (pv 5) (pe_meth (pe_fldK (K := K) rfl (pv 0) (by rfl)) T.cl_Modulo T.mt_Modulo_add (ok_Modulo_add T) (by exact hr.mono (by decide)) T.b_Modulo_add .nil pass0 (pa_cons (pe_dget2 (by exact hu) (pv 2) (pv 5) pe_int ⟨rfl, by rfl, rfl, rfl⟩) (pa_cons (pe_meth (pe_fldK (K := K) rfl (pv 0) (by rfl)) T.cl_Modulo T.mt_Modulo_multiply (ok_Modulo_multiply T) (by exact hr.mono (by decide)) T.b_Modulo_multiply .nil pass0 (pa_cons (pv 4) (pa_cons (pv 6) pa_nil))) pa_nil))) rfl)))))))
      (pss_one (ps_ret (pv 2))))), ?_⟩
    intro R hR
    have nRfa : fa ≠ R := fun e => by rw [e, hR] at hfa; cases hfa
    have S0 : Same H (upd H R (.dK [])) := Same.new hR
    refine ⟨fa, _, S0 _ _ hfa, trivial, fun od => ?_⟩
    refine ⟨_, rfl, fa, od, _, rfl, upd_same, ?_⟩
    have hl : (shD D.c fs).length = fs.length := shD_len ..
    let acc : Nat → List (Nat × _root_.Fin p) := fun t => (fs.take t).foldl (fun a q => Mx.putAll q.2 (sh q.1) a) []
    have acc_lt : ∀ t, ∀ q ∈ acc t, q.1 < L := fun t => Mx.combo_mem (fs := fs.take t) (fun q hq => hsh q.1 (hfs q (List.mem_of_mem_take hq)))
    have acc_nd : ∀ t, (Mx.keysL (acc t)).Nodup := fun t => Mx.combo_nodup sh (fs.take t)
    have acc_succ : ∀ t (ht : t < fs.length), acc (t + 1) = Mx.putAll fs[t].2 (sh fs[t].1) (acc t) := fun t ht => by
      show (fs.take (t + 1)).foldl _ _ = _
      rw [List.take_add_one, List.getElem?_eq_getElem ht, List.foldl_append]; rfl
    let HB : Hp := upd H fa (.frz od (.dK (shD D.c fs)))
    have GB : GridHas K HB ga p D := G.other tfa
    have RB : HB R = none := by show upd H fa _ R = none; rw [upd_ne (Ne.symm nRfa)]; exact hR
    refine for_it walk_items (fun t σ H1 => ∃ v3 v4 v5 v6, σ = [some (.ref ga), some (.ref fa), some (.ref R), v3, v4, v5, v6] ∧ Same HB H1 ∧ H1 R = some (.dK (shD D.c (acc t)))) ⟨none, none, none, none, rfl, ?_, ?_⟩ (fun t σ H1 ht pv => ?_) (fun t x σ H1 H2 ht pv y => ?_) (fun σ H1 pv => ?_)
    · refine fun b u e => ?_
      by_cases hb : b = fa
      · subst hb
        rw [upd_same]; rw [show HB b = some _ from upd_same] at e; exact e
      · rw [show HB b = H b from upd_ne hb] at e
        rw [upd_ne hb]; exact S0 _ _ e
    · rw [upd_ne (Ne.symm nRfa), upd_same]; rfl
    · obtain ⟨_, _, _, _, _, s1, _⟩ := pv
      exact s1 _ _ upd_same
    · obtain ⟨v3, v4, v5, v6, rfl, s1, hR1⟩ := pv
      obtain ⟨Tp, x1, x2, rfl, hT, rfl, hx, hy⟩ := y
      rw [hl] at ht
      obtain ⟨rfl, rfl⟩ := items_at rfl ht hx hy
      generalize hi0 : fs[t].1 = i at *
      generalize hf0 : fs[t].2 = f at *
      have hi : i < L := by rw [← hi0]; exact hfs _ (List.getElem_mem ht)
      have hm : i < D.m := by rw [B.mL]; exact hi
      have s2 := s1.trans (Same.new hT (o := .tup [.str (A D.c i), fv f]))
      have nTR : R ≠ Tp := fun e => by rw [← e, hR1] at hT; cases hT
      refine ⟨Tp, _, rfl, SqT.of upd_same, rfl, _, _, rfl, _, _, rfl, rfl, ?_⟩
      have hsha := s2 _ _ (GB.shs i hm)
      have nRs : R ≠ D.sha i := fun e => by have := GB.shs i hm; rw [← e, RB] at this; cases this
      refine ⟨D.sha i, _, hsha, trivial, fun od2 => ?_⟩
      have GC := GB.toGridCore.other (a := D.sha i) (o := .frz od2 (.dK (D.shL i))) (.inr (by rw [GB.t_sha i hm]; omega))
      have G1 := GC.same s2.upd2
      have g := DGet.k (k := aK D.c i) G1.so
      rw [B.so, dG_get (aK_injs _ _) hi] at g
      refine ⟨_, rfl, ga, _, D.dx, _, _, rfl, G1.ob, T.cl_Grid, T.na_Grid_shares_of, gf_shares_of D, _, rfl, D.so, _, rfl, g, D.sha i, od2, _, rfl, upd_same, ?_⟩
      have hl2 : (D.shL i).length = (sh i).length := by rw [B.sl i hi, shD_len]
      let ac2 : Nat → List (Nat × _root_.Fin p) := fun u => Mx.putAll f ((sh i).take u) (acc t)
      have ac2_lt : ∀ u, ∀ q ∈ ac2 u, q.1 < L := fun u => Mx.putAll_mem (fun q hq => hsh i hi q (List.mem_of_mem_take hq)) (acc_lt t)
      have ac2_nd : ∀ u, (Mx.keysL (ac2 u)).Nodup := fun u => by
        show (Mx.keysL (Mx.putAll f ((sh i).take u) (acc t))).Nodup
        have h1 : ∀ (l acc : List (Nat × _root_.Fin p)), (Mx.keysL acc).Nodup → (Mx.keysL (Mx.putAll f l acc)).Nodup := by
          intro l
          induction l with
          | nil => intro acc h; exact h
          | cons q r ih => intro acc h; exact ih _ (Mx.keysL_put h)
        exact h1 _ _ (acc_nd t)
      have ac2_succ : ∀ u (hu : u < (sh i).length), ac2 (u + 1) = Mx.putL (ac2 u) (sh i)[u].1 (Mx.getL (ac2 u) (sh i)[u].1 + f * (sh i)[u].2) := fun u hu => by
        show Mx.putAll f ((sh i).take (u + 1)) (acc t) = _
        unfold Mx.putAll
        rw [List.take_add_one, List.getElem?_eq_getElem hu, List.foldl_append]; rfl
      refine for_it walk_items (fun u σ H3 => ∃ v5 v6, σ = [some (.ref ga), some (.ref fa), some (.ref R), some (.str (A D.c i)), some (fv f), v5, v6] ∧ Same (upd HB (D.sha i) (.frz od2 (.dK (D.shL i)))) H3 ∧ H3 R = some (.dK (shD D.c (ac2 u))))
        ⟨v5, v6, rfl, s2.upd2, ?_⟩ (fun u σ H3 hu pv => ?_) (fun u x σ H3 H4 hu pv y => ?_) (fun σ H3 pv => ?_)
      · rw [upd_ne nRs, upd_ne nTR, hR1]; rfl
      · obtain ⟨_, _, _, s3, _⟩ := pv
        exact s3 _ _ upd_same
      · obtain ⟨v5, v6, rfl, s3, hR3⟩ := pv
        obtain ⟨T2, y1, y2, rfl, hT2, rfl, hx2, hy2⟩ := y
        rw [hl2] at hu
        obtain ⟨rfl, rfl⟩ := items_at (B.sl i hi) hu hx2 hy2
        have s4 := s3.trans (Same.new hT2 (o := .tup [.str (A D.c (sh i)[u].1), fv (sh i)[u].2]))
        have nT2R : R ≠ T2 := fun e => by rw [← e, hR3] at hT2; cases hT2
        have G2 := GC.same s4
        obtain ⟨fdx, fe⟩ := G2.F.ob
        have hR4 : upd H3 T2 (.tup [.str (A D.c (sh i)[u].1), fv (sh i)[u].2]) R = some (.dK (shD D.c (ac2 u))) := by rw [upd_ne nT2R]; exact hR3
        refine ⟨T2, _, rfl, SqT.of upd_same, rfl, _, _, rfl, _, _, rfl, rfl, ?_⟩
        refine ⟨_, rfl, ga, _, D.dx, _, _, rfl, G2.ob, T.cl_Grid, T.na_Grid_own_field, gf_own_field D, D.fa, fdx, _, rfl, fe, no_field (by decide +kernel), _, rfl, R, rfl, .inl ⟨_, .inl hR4⟩, _, rfl, _, DGet.k (k := aK D.c (sh i)[u].1) hR4, _, rfl, ga, _, D.dx, _, _, rfl, G2.ob, T.cl_Grid, T.na_Grid_own_field, gf_own_field D, D.fa, fdx, _, rfl, fe, no_field (by decide +kernel), _, rfl, _, rfl, D.fa, p, nz, f, (sh i)[u].2, rfl, G2.F, ?_⟩
        rw [shD_get]
        refine ⟨D.fa, p, nz, _, _, rfl, G2.F, _, rfl, _, rfl, R, _, rfl, DPut.k (k := aK D.c (sh i)[u].1) hR4 ?_, ?_⟩
        · rw [shD_len]
          exact szl _ (by have := Mx.keys_few (ac2_nd u) (ac2_lt u); omega)
        · rw [shD_put (ac2_nd u), ← ac2_succ u hu]
          refine ⟨some (.str (A D.c (sh i)[u].1)), some (fv (sh i)[u].2), rfl, s4.put ?_, upd_same⟩
          rw [upd_ne nRs]; exact RB
      · obtain ⟨v5, v6, rfl, s3, hR3⟩ := pv
        refine ⟨s3 _ _ upd_same, some (.str (A D.c i)), some (fv f), v5, v6, rfl, s3.unlock (GB.shs i hm), ?_⟩
        rw [upd_ne nRs, hR3, hl2, acc_succ t ht, hi0, hf0]
        show some (HO.dK (shD D.c (Mx.putAll f ((sh i).take (sh i).length) (acc t)))) = _
        rw [List.take_length]
    · obtain ⟨v3, v4, v5, v6, rfl, s1, hR1⟩ := pv
      refine ⟨s1 _ _ upd_same, _, rfl, k0 R _ hR (s1.unlock hfa) ?_⟩
      rw [upd_ne (Ne.symm nRfa), hR1, hl]
      show some (HO.dK (shD D.c ((fs.take fs.length).foldl (fun a q => Mx.putAll q.2 (sh q.1) a) []))) = _
      rw [List.take_length]; rfl
end
end Fa

namespace Fa
open PySem PySem.Spec L2
section
variable {P : Program} {w : World} {K : PySem.W.Frag} {mg : Str → Option Value} {base : Heap}
theorem ok_Grid_shares_in (T : TX K mg) : FnOk P w K mg base CX0 4 (a_Grid_shares_in K) (d_ K (a_Grid_shares_in K)) ["self", "row", "word"] (sp_Grid_shares_in K) := by
  refine T.F_Grid_shares_in.ok sc_Grid_shares_in (fun vs H Q E h => ?_) (fun cdv Ar outer s0 H vs Q E hr h => ?_)
  · (repeat (obtain ⟨_, h⟩ := h)); subst_vars; rfl
  · obtain ⟨ga, ra, x, D, p, nz, s, n, L, w, lead, sh, a, rfl, G, S, hr0, ⟨hLw, hw, hlen⟩, k0⟩ := h
    have hu := hu_of hr
    refine ⟨_, (pss_cons (ps_par (i := 3) (j := 4) (by rfl) sc_Grid_shares_in.nd rfl rfl (by decide) rfl rfl (pa_cons (pe_callTy call_list_of (by rfl) T.n_list (by decide +kernel) (pa_cons (pv 1) pa_nil)) (pa_cons pe_dnewK pa_nil)) (by rfl))
      (pss_cons (ps_for PassesOwn.never rfl (pi_range1 rfl T.n_range (pa_cons (pe_callB call_len_seq (by rfl) T.n_len (by decide +kernel) (pa_cons (pv 3) pa_nil)) pa_nil)) (pg_name (i := 5) sc_Grid_shares_in.nd rfl (Or.inl rfl)) (pss_one (ps_if (pt_cmpR op_ne (pe_ix (ix_listK (K := K) rfl) (pv 3) (pv 5) (fun _ _ => rfl)) pe_int (nomark _)) (pss_cons (ps_set (i := 6) sc_Grid_shares_in.nd rfl (Or.inl rfl) (pe_dget (by exact hu) (pe_fldK (K := K) rfl (pv 0) (by rfl)) (pv 5) (fun _ _ => rfl)))
      (pss_cons (ps_set (i := 7) sc_Grid_shares_in.nd rfl (Or.inl rfl) (pe_dget (by exact hu) (pe_fldK (K := K) rfl (pv 0) (by rfl)) (pv 6) (fun _ _ => rfl)))
      (pss_cons (ps_dput (by exact hu) (pv 4) (pv 6) (pe_meth (pe_fldK (K := K) rfl (pv 0) (by rfl)) T.cl_Modulo T.mt_Modulo_divide (ok_Modulo_divide T) (by exact hr.mono (by decide)) T.b_Modulo_divide .nil pass0 (pa_cons (pe_ix (ix_listK (K := K) rfl) (pv 3) (pv 5) (fun _ _ => rfl)) (pa_cons (pe_ix (ix_listK (K := K) rfl) (pv 7) (pv 5) (fun _ _ => rfl)) pa_nil))) rfl)
      (pss_one (ps_set (i := 3) sc_Grid_shares_in.nd rfl (Or.inl rfl) (pe_call (ok_without T) (by exact hr.mono (by decide)) rfl T.g_without T.F_without.kp T.b_without .nil pass0 (pa_cons (pe_fldK (K := K) rfl (pv 0) (by rfl)) (pa_cons (pv 3) (pa_cons (pe_dget (by exact hu) (pv 4) (pv 6) (fun _ _ => rfl)) (pa_cons (pv 7) pa_nil)))))))))) pss_nil)))
      (pss_one (ps_ret (pv 4))))), ?_⟩
    have hz : ∀ x y : _root_.Fin p, x * y = 0 → y ≠ 0 → x = 0 := fun x y h hy => by
      have := Mx.mul_inv G.F.six.prime y hy
      have e : x = x * y * Mx.inv y := by grind
      rw [e, h]; grind
    let rest : Nat → Nat → _root_.Fin p := fun c x => Mx.sumR L fun k => if c ≤ lead k then a k * Mx.piv s (sh k) x else 0
    have rest0 : ∀ x, Mx.sumR L (fun k => a k * Mx.piv s (sh k) x) = rest 0 x := fun x => Mx.sumR_congr fun k _ => by rw [if_pos (Nat.zero_le _)]
    have e0 : (rowV w fun c => Mx.sumR L fun k => a k * Mx.piv s (sh k) c) = rowV w (rest 0) := rowV_congr fun i _ => rest0 i
    rw [e0] at hr0
    refine ⟨_, rfl, ra, _, rfl, .inl hr0, fun R0 hR0 R hR => ?_⟩
    have hR' := none_upd hR
    have nR : R0 ≠ R := fun e => by rw [e, upd_same] at hR; cases hR
    have S0 : Same H (upd H R0 (.lst (rowV w (rest 0)))) := Same.new hR0
    have l0 : upd (upd H R0 (.lst (rowV w (rest 0)))) R (.dK []) R0 = some (.lst (rowV w (rest 0))) := by rw [upd_ne nR]; exact upd_same
    refine ⟨_, _, rfl, _, rfl, R0, _, rfl, .inl (SqL.of l0), ?_⟩
    rw [rowV_len]
    refine ⟨_, rfl, by omega, by omega, ?_⟩
    let part : (Nat → _root_.Fin p) → Nat → _root_.Fin p := fun T c => Mx.sumR L fun k => if lead k < c then a k * T k else 0
    refine for_range (n := w) (fun c σ H1 => ∃ (r : Addr) (fs : List (Nat × _root_.Fin p)) (v5 v6 v7 : Option V), σ = [some (.ref ga), some (.ref ra), some x, some (.ref r), some (.ref R), v5, v6, v7] ∧ Same H H1 ∧ H1 r = some (.lst (rowV w (rest c))) ∧ H1 R = some (.dK (shD D.c fs)) ∧
      (∀ q ∈ fs, q.1 < L ∧ lead q.1 < c) ∧ (Mx.keysL fs).Nodup ∧ ∀ T : Nat → _root_.Fin p, Mx.sumL fs T = part T c) ⟨R0, [], none, none, none, rfl, S0.put hR', l0, upd_same, fun q hq => absurd hq (by simp), by simp [Mx.keysL], fun T => (Mx.sumR_zero fun k _ => if_neg (by omega)).symm⟩ (fun c σ H1 hc pv => ?_) (fun σ H1 pv => ?_)
    · obtain ⟨r, fs, v5, v6, v7, rfl, s1, hr1, hR1, hfs, hnd, hsum⟩ := pv
      have hc' : c < w := by omega
      have G1 := G.same s1
      have hci : (0 : Int) + (c : Int) = ((c : Nat) : Int) := by omega
      have hix : (rowV w (rest c))[c]? = some (fv (rest c c)) := rowV_get hc'
      refine ⟨_, rfl, _, rfl, r, _, _, fv (rest c c), rfl, rfl, SqL.of hr1, at_of (j := c) (by omega) hix, rfl, _, rfl, ?_⟩
      have nrR : r ≠ R := fun e => by rw [e, hR1] at hr1; cases hr1
      refine ite2 (fun hne => ?_) (fun heq => ?_)
      · have hne2 : rest c c ≠ 0 := fun z => by
          rw [z, fv_zero] at hne
          simp at hne
        obtain ⟨i, hi, hli, hval, hpiv⟩ := S.gm.some_lead a c hne2
        have hm : i < D.m := by rw [S.basis.mL]; exact hi
        have g1 := DGet.k (k := nK c) G1.wl
        rw [S.basis.wl, ← hli, dG_get (ky := fun i => nK (lead i)) (fun i j a b e => S.gm.inj i j a b (nK_inj e)) hi] at g1
        have g2 := DGet.k (k := aK D.c i) G1.pr
        rw [S.basis.pr, dG_get (aK_injs _ _) hi] at g2
        have hfac : rest c c * Mx.inv (Mx.piv s (sh i) c) = a i := by
          have h1 := Mx.mul_inv G.F.six.prime _ hpiv
          show Mx.sumR L _ * _ = _
          rw [hval]; grind
        have hpr : H1 (D.pra i) = some (.lst (rowV (n - i) fun c => Mx.piv s (sh i) c)) := by rw [G1.prs i hm, S.rows i hi]
        have hci2 : c < n - i := by have := hlen i hi; omega
        obtain ⟨fdx, fe⟩ := G1.F.ob
        rw [hli] at g1
        refine ⟨_, rfl, ga, _, D.dx, _, _, rfl, G1.ob, T.cl_Grid, T.na_Grid_word_of_lead, gf_word_of_lead D, _, rfl, D.wl, .str (A D.c i), rfl, (by rw [hci]; exact g1), ?_⟩
        refine ⟨_, rfl, ga, _, D.dx, _, _, rfl, G1.ob, T.cl_Grid, T.na_Grid_pivot_rows, gf_pivot_rows D, _, rfl, D.pr, .ref (D.pra i), rfl, g2, ?_⟩
        refine ⟨_, rfl, ga, _, D.dx, _, _, rfl, G1.ob, T.cl_Grid, T.na_Grid_own_field, gf_own_field D, D.fa, fdx, _, rfl, fe, no_field (by decide +kernel), _, rfl, _, rfl, r, _, _, fv (rest c c), rfl, rfl, SqL.of hr1, at_of (j := c) (by omega) hix, _, rfl, _, rfl, D.pra i, _, _, fv (Mx.piv s (sh i) c), rfl, rfl, SqL.of hpr, at_of (j := c) (by omega) (rowV_get hci2), D.fa, p, nz, _, _, rfl, G1.F, ?_⟩
        rw [hfac]
        have hnew : i ∉ Mx.keysL fs := fun z => by
          obtain ⟨q, hq, e⟩ := List.mem_map.mp z
          have := (hfs q hq).2
          rw [show q.1 = i from e] at this
          omega
        refine ⟨_, rfl, _, rfl, R, _, rfl, DPut.k (k := aK D.c i) hR1 ?_, ?_⟩
        · rw [shD_len]
          exact szl _ (by have := Mx.keys_few hnd (fun q hq => (hfs q hq).1); omega)
        · rw [shD_put hnd, Mx.putL_new hnew]
          have s2 : Same H (upd H1 R (.dK (shD D.c (fs ++ [(i, a i)])))) := s1.put hR'
          have G2 := G.same s2
          obtain ⟨fdx2, fe2⟩ := G2.F.ob
          have g3 := DGet.k (H := upd H1 R (.dK (shD D.c (fs ++ [(i, a i)])))) (k := aK D.c i) upd_same
          have hv : valV (shD D.c (fs ++ [(i, a i)])) (aK D.c i) = some (fv (a i)) := by
            have e : shD D.c (fs ++ [(i, a i)]) = shD D.c fs ++ [(aK D.c i, fv (a i))] := by unfold shD; rw [List.map_append]; rfl
            rw [e, valV_snoc _ _ _ _ (shD_none hnew), if_pos rfl]
          rw [hv] at g3
          refine ⟨_, rfl, ga, _, D.dx, _, _, rfl, G2.ob, T.cl_Grid, T.na_Grid_own_field, gf_own_field D, _, rfl, _, rfl, _, rfl, R, fv (a i), rfl, g3, _, rfl, D.fa, r, D.pra i, p, nz, (List.range w).map (rest c), (List.range (n - i)).map (fun c => Mx.piv s (sh i) c), a i, rfl, G2.F, ?_, ?_, ⟨by have := hlen i hi; simp; omega, by simp; omega⟩, fun r2 H3 hr2 s3 hD => ?_⟩
          · rw [← rowV_eq, ]
            exact SqL.of (by rw [upd_ne nrR]; exact hr1)
          · rw [← rowV_eq]
            have := G2.prs i hm
            rw [S.rows i hi] at this
            exact SqL.of this
          · rw [rowV_zip (by have := hlen i hi; omega)] at hD
            refine ⟨r2, fs ++ [(i, a i)], _, some (.str (A D.c i)), some (.ref (D.pra i)), rfl, s2.trans s3, ?_, s3 _ _ upd_same, fun q hq => ?_, ?_, fun Tt => ?_⟩
            · rw [hD]
              congr 2
              refine rowV_congr fun y _ => ?_
              have := S.gm.col_next a hi (fun k => Mx.piv s (sh k) y)
              rw [hli] at this
              show Mx.sumR L (fun k => if c ≤ lead k then a k * Mx.piv s (sh k) y else 0) - a i * Mx.piv s (sh i) y = Mx.sumR L (fun k => if c + 1 ≤ lead k then a k * Mx.piv s (sh k) y else 0)
              rw [this]; grind
            · rcases List.mem_append.mp hq with h | h
              · have := hfs q h
                exact ⟨this.1, by omega⟩
              · obtain rfl := List.mem_singleton.mp h
                exact ⟨hi, by show lead i < c + 1; omega⟩
            · unfold Mx.keysL
              rw [List.map_append]
              refine List.nodup_append.mpr ⟨hnd, by simp, fun u hu v hv e => ?_⟩
              have : v = i := by simpa using hv
              exact hnew (by rw [← this, ← e]; exact hu)
            · rw [Mx.sumL_app, hsum]
              have := S.gm.done_next a hi Tt
              rw [hli] at this
              show part Tt c + (a i * Tt i + 0) = Mx.sumR L (fun k => if lead k < c + 1 then a k * Tt k else 0)
              rw [this]
              show Mx.sumR L (fun k => if lead k < c then a k * Tt k else 0) + _ = _
              grind
      · have h0 : rest c c = 0 := by
          by_cases z : rest c c = 0
          · exact z
          · exact absurd (by
              have : ¬ fv (rest c c) = V.int 0 := fun q => z (fv_inj (q.trans fv_zero.symm))
              simp [this]) heq
        refine ⟨r, fs, _, v6, v7, rfl, s1, ?_, hR1, fun q hq => ⟨(hfs q hq).1, by have := (hfs q hq).2; omega⟩, hnd, fun Tt => ?_⟩
        · rw [hr1]
          congr 2
          exact rowV_congr fun y _ => ((S.gm.skip hz a c h0 (fun k => Mx.piv s (sh k) y)).1).symm
        · rw [hsum]
          exact ((S.gm.skip hz a c h0 Tt).2).symm
    · obtain ⟨r, fs, v5, v6, v7, rfl, s1, hr1, hR1, hfs, hnd, hsum⟩ := pv
      refine ⟨_, rfl, k0 R H1 fs hR' s1 hR1 (fun q hq => (hfs q hq).1) fun Tt => ?_⟩
      rw [hsum]
      exact Mx.sumR_congr fun k hk => if_pos (by have := S.gm.lt k hk; omega)
end
end Fa

namespace Fa
open PySem PySem.Spec L2
theorem std_at {p : Nat} {D : GD} {s : Nat → _root_.Fin p} {n L : Nat} {lead : Nat → Nat} {sh : Nat → List (Nat × _root_.Fin p)} [NeZero p] (_ : Std D s n L lead sh) (j : Nat) : Counts.at n (fun i => n - i) j = n - j := by
  unfold Counts.at
  by_cases h : j < n
  · rw [if_pos h]
  · rw [if_neg h]; omega
theorem sh_lt {p : Nat} {s : Nat → _root_.Fin p} {n L : Nat} {lead : Nat → Nat} {sh : Nat → List (Nat × _root_.Fin p)} [NeZero p] (g : Mx.GM s n L lead sh) (i : Nat) (hi : i < L) : ∀ q ∈ sh i, q.1 ≤ i := fun q hq => by
  obtain ⟨r, hr, h⟩ := g.form i hi
  rw [hr] at hq
  rcases List.mem_append.mp hq with z | z
  · exact Nat.le_of_lt (h q z)
  · obtain rfl := List.mem_singleton.mp z
    exact Nat.le_refl _
def forcedV (c n L : Nat) : List V := (List.range (n + 1 - 2 * L)).map fun i => .str (A c (L + i))
/-! ### promises -/
def sp_Grid_combination (K : PySem.W.Frag) : Sp := fun vs H Q _ => ∃ (ga : Addr) (D : GD) (p : Nat) (_ : NeZero p) (s : Nat → _root_.Fin p) (n L j : Nat) (lead : Nat → Nat) (sh : Nat → List (Nat × _root_.Fin p)), vs = [.ref ga, .str (A D.c j)] ∧
  GridHas K H ga p D ∧ Std D s n L lead sh ∧ (L ≤ j ∧ j + L ≤ n) ∧
  ∀ R H' (h : List (Nat × _root_.Fin p)), H R = none → Same H H' → H' R = some (.dK (shD D.c h)) → (∀ q ∈ h, q.1 < L) → (Mx.keysL h).Nodup → (∀ c, c < n - j → s (j + c) = Mx.sumL h fun k => s (k + c)) → Q (.ref R) H'
def sp_Grid_forced_number (K : PySem.W.Frag) : Sp := fun vs H Q _ => ∃ (ga : Addr) (D : GD) (p : Nat) (_ : NeZero p) (s : Nat → _root_.Fin p) (n L j : Nat) (lead : Nat → Nat) (sh : Nat → List (Nat × _root_.Fin p)) (C : Nat → _root_.Fin p), vs = [.ref ga, .str (A D.c j)] ∧
  GridHas K H ga p D ∧ Std D s n L lead sh ∧ (L ≤ j ∧ j + L ≤ n) ∧ Mx.Rule s n L C ∧ ∀ H', Same H H' → Q (fv (s n - Mx.conv C s n)) H'
def sp_Grid_forced_prefixes (K : PySem.W.Frag) : Sp := fun vs H Q _ => ∃ (ga : Addr) (D : GD) (p : Nat) (_ : NeZero p) (s : Nat → _root_.Fin p) (n L : Nat) (lead : Nat → Nat) (sh : Nat → List (Nat × _root_.Fin p)), vs = [.ref ga] ∧
  GridHas K H ga p D ∧ Std D s n L lead sh ∧ ∀ R H', H R = none → Same H H' → H' R = some (.lst (forcedV D.c n L)) → Q (.ref R) H'
section
variable {P : Program} {w : World} {K : PySem.W.Frag} {mg : Str → Option Value} {base : Heap}
theorem ok_Grid_combination (T : TX K mg) : FnOk P w K mg base CX0 5 (a_Grid_combination K) (d_ K (a_Grid_combination K)) ["self", "word"] (sp_Grid_combination K) := by
  refine T.F_Grid_combination.ok sc_Grid_combination (fun vs H Q E h => ?_) (fun cdv Ar outer s0 H vs Q E hr h => ?_)
  · (repeat (obtain ⟨_, h⟩ := h)); subst_vars; rfl
  · obtain ⟨ga, D, p, nz, s, n, L, j, lead, sh, rfl, G, S, ⟨hj, hj2⟩, k0⟩ := h
    have hu := hu_of hr
    refine ⟨_, (pss_one (ps_ret (pe_meth (pv 0) T.cl_Grid T.mt_Grid_in_basis_words (ok_Grid_in_basis_words T) (by exact hr.mono (by decide)) T.b_Grid_in_basis_words .nil pass0 (pa_cons (pe_meth (pv 0) T.cl_Grid T.mt_Grid_shares_in (ok_Grid_shares_in T) (by exact hr.mono (by decide)) T.b_Grid_shares_in .nil pass0 (pa_cons (pe_meth (pv 0) T.cl_Grid T.mt_Grid_known_row (ok_Grid_known_row T) (by exact hr.mono (by decide)) T.b_Grid_known_row .nil pass0 (pa_cons (pv 1) pa_nil)) (pa_cons (pv 1) pa_nil))) pa_nil)))), ?_⟩
    obtain ⟨C, hC⟩ := S.rule
    obtain ⟨a, ha⟩ := S.gm.span hC j hj2
    have hf := S.few
    have hcnt := std_at S j
    refine ⟨_, rfl, ga, D.dx, _, rfl, G.ob, no_grid (by decide +kernel), _, rfl, ga, D.dx, _, rfl, G.ob, no_grid (by decide +kernel), _, rfl, ga, D.dx, _, rfl, G.ob, no_grid (by decide +kernel), _, rfl, ga, D, p, nz, s, n, n, j, _, rfl, G.toGridCore, S.known, S.counts, ⟨by rw [hcnt]; omega, by omega⟩, fun R1 H1 hR1 s1 hl => ?_⟩
    rw [hcnt, rowV_congr fun i hi => ha i hi] at hl
    have G1 := G.same s1
    refine ⟨_, rfl, ga, R1, _, D, p, nz, s, n, L, n - j, lead, sh, a, rfl, G1, S, SqL.of hl, ⟨by omega, by omega, fun i hi => by omega⟩, fun R2 H2 fs hR2 s2 hd hfs hsum => ?_⟩
    have G2 := G1.same s2
    have t2 := G1.t_no R2 hR2
    refine ⟨ga, R2, D, p, nz, L, lead, sh, fs, rfl, G2, S.basis, ⟨hd, t2⟩, ⟨hfs, fun i hi q hq => Nat.lt_of_le_of_lt (sh_lt S.gm i hi q hq) hi, by omega⟩, fun R H3 hR s3 hD => ?_⟩
    refine k0 R H3 _ (s1.free (s2.free hR)) ((s1.trans s2).trans s3) hD (Mx.combo_mem fun q hq p hp => Nat.lt_of_le_of_lt (sh_lt S.gm q.1 (hfs q hq) p hp) (hfs q hq)) (Mx.combo_nodup sh fs) fun c hc => ?_
    rw [Mx.sumL_combo, ha c hc, hsum]
    rfl
theorem ok_Grid_forced_prefixes (T : TX K mg) : FnOk P w K mg base CX0 6 (a_Grid_forced_prefixes K) (d_ K (a_Grid_forced_prefixes K)) ["self"] (sp_Grid_forced_prefixes K) := by
  refine T.F_Grid_forced_prefixes.ok sc_Grid_forced_prefixes (fun vs H Q E h => ?_) (fun cdv Ar outer s0 H vs Q E hr h => ?_)
  · (repeat (obtain ⟨_, h⟩ := h)); subst_vars; rfl
  · obtain ⟨ga, D, p, nz, s, n, L, lead, sh, rfl, G, S, k0⟩ := h
    have hu := hu_of hr
    refine ⟨_, (pss_cons (ps_set (i := 1) sc_Grid_forced_prefixes.nd rfl (Or.inl rfl) (pe_lst pa_nil))
      (pss_cons (ps_for PassesOwn.never rfl (pi_range1 rfl T.n_range (pa_cons (pe_op op_add (pe_callB call_len_str (by rfl) T.n_len (by decide +kernel) (pa_cons (pe_fldK (K := K) rfl (pv 0) (by rfl)) pa_nil)) pe_int) pa_nil)) (pg_name (i := 2) sc_Grid_forced_prefixes.nd rfl (Or.inl rfl)) (pss_cons (ps_set (i := 3) sc_Grid_forced_prefixes.nd rfl (Or.inl rfl) (pe_slice sl_str (pe_fldK (K := K) rfl (pv 0) (by rfl)) po_none (po_some (pv 2))))
      (pss_one (ps_if (pt_cmp (pc_dnotin (by exact hu) (pv 3) (pe_fldK (K := K) rfl (pv 0) (by rfl)))) (pss_cons (ps_set (i := 4) sc_Grid_forced_prefixes.nd rfl (Or.inl rfl) (pe_dget1 (by exact hu) (pe_fldK (K := K) rfl (pv 0) (by rfl)) (pe_meth (pv 0) T.cl_Grid T.mt_Grid_column_count (ok_Grid_column_count T) (by exact hr.mono (by decide)) T.b_Grid_column_count .nil pass0 (pa_cons (pv 3) pa_nil)) ⟨rfl, by rfl, rfl, rfl⟩))
      (pss_cons (ps_if (PW.pt (pw_and (pt_cmpR op_notN (pv 4) pe_non (nomark _)) (pw_and1 (pt_val (pe_meth (pv 0) T.cl_Grid T.mt_Grid_is_later (ok_Grid_is_later T) (by exact hr.mono (by decide)) T.b_Grid_is_later .nil pass0 (pa_cons (pv 3) (pa_cons (pv 4) pa_nil))))))) (pss_one (ps_ret (pv 1))) pss_nil)
      (pss_one (ps_expr (pe_bm PySem.F.plainAttrs_list PySem.F.slot_list_append PySem.F.type_list_append mt_append (pv 1) (pa_cons (pv 3) pa_nil)))))) pss_nil))))
      (pss_one (ps_ret (pv 1))))), ?_⟩
    obtain ⟨C, hC⟩ := S.rule
    have hLn := hC.le
    have hf := S.few
    refine ⟨by show 0 ≤ sizeLine; exact Nat.zero_le _, fun F hF => ?_⟩
    have S0 : Same H (upd H F (.lst [])) := Same.new hF
    have G0 := G.same S0
    refine ⟨_, rfl, ga, _, D.dx, _, _, rfl, G0.ob, T.cl_Grid, T.na_Grid_upcoming, gf_upcoming D, _, rfl, ?_⟩
    rw [S.up, A_len]
    refine ⟨sz _ (by omega), _, _, rfl, rfl, _, rfl, by omega, by omega, ?_⟩
    have e1 : ((n : Int) + 1).toNat = n + 1 := by omega
    rw [e1]
    refine for_range (n := n + 1) (fun l σ H1 => ∃ (v2 v3 v4 : Option V), σ = [some (.ref ga), some (.ref F), v2, v3, v4] ∧ Same H H1 ∧ H1 F = some (.lst ((List.range (l - L)).map fun i => .str (A D.c (L + i)))) ∧ (l ≤ L ∨ l ≤ n + 1 - L)) ⟨none, none, none, rfl, S0, ?_, .inl (Nat.zero_le _)⟩ (fun l σ H1 hl pv => ?_) (fun σ H1 pv => ?_)
    · rw [upd_same, Nat.zero_sub]; rfl
    · obtain ⟨v2, v3, v4, rfl, s1, hF1, hb⟩ := pv
      have G1 := G.same s1
      have hl' : l < n + 1 := by omega
      have el : (0 : Int) + (l : Int) = ((l : Nat) : Int) := by omega
      refine ⟨_, rfl, ga, _, D.dx, _, _, rfl, G1.ob, T.cl_Grid, T.na_Grid_upcoming, gf_upcoming D, _, rfl, _, rfl, ?_⟩
      rw [S.up, el]
      refine ⟨_, rfl, by rw [A_len]; exact sz _ (by omega), ?_⟩
      rw [cut_pre _ _ _ (by omega)]
      have g := DGet.k (k := aK D.c l) G1.ld
      rw [S.basis.ld] at g
      refine ⟨_, rfl, _, rfl, ga, _, D.dx, _, _, rfl, G1.ob, T.cl_Grid, T.na_Grid_leads, gf_leads D, D.ld, _, rfl, g, ?_⟩
      by_cases hlL : l < L
      · rw [dG_get (aK_injs _ _) hlL]
        refine ⟨_, rfl, iteF ⟨_, _, _, rfl, s1, ?_, .inl (by omega)⟩⟩
        rw [hF1, show l - L = l + 1 - L by omega]
      · rw [dG_none fun i hi e => hlL (by rw [← aK_inj e]; exact hi)]
        refine ⟨_, rfl, iteT ?_⟩
        have hcnt := std_at S l
        refine ⟨_, rfl, ga, _, D.dx, _, _, rfl, G1.ob, T.cl_Grid, T.na_Grid_word_of_lead, gf_word_of_lead D, D.wl, rfl, .inl ⟨_, .inl G1.wl⟩, _, rfl, ga, D.dx, _, rfl, G1.ob, no_grid (by decide +kernel), _, rfl, ga, D, p, n, l, _, rfl, G1.toGridCore, S.counts, ?_⟩
        rw [hcnt]
        refine ⟨_, DGet.k (k := nK (n - l)) G1.wl, ?_⟩
        rw [S.basis.wl]
        by_cases hc : n - l < L
        · obtain ⟨i, hi, hli⟩ := S.gm.onto _ hc
          rw [← hli, dG_get (ky := fun i => nK (lead i)) (fun i j a b e => S.gm.inj i j a b (nK_inj e)) hi]
          refine ⟨_, rfl, rfl, _, rfl, iteT ?_⟩
          refine ⟨_, rfl, ga, D.dx, _, rfl, G1.ob, no_grid (by decide +kernel), _, rfl, _, rfl, ga, D, p, l, i, rfl, G1.toGridCore, ⟨by omega, by omega⟩, fun H2 s2 => ⟨_, rfl, ?_⟩⟩
          rw [decide_eq_true (show i < l by omega)]
          refine iteT ⟨_, rfl, k0 F H2 hF (s1.trans s2) ?_⟩
          rw [s2 _ _ hF1]
          unfold forcedV
          rw [show l - L = n + 1 - 2 * L by omega]
        · rw [dG_none fun i hi e => hc (by rw [← nK_inj e]; exact S.gm.lt i hi)]
          refine ⟨_, rfl, rfl, _, rfl, iteF ?_⟩
          refine ⟨_, rfl, .inl ⟨rfl, _, SqL.of hF1⟩, _, rfl, F, _, .str (A D.c l), rfl, rfl, hF1, szl _ (by rw [List.length_map, List.length_range]; omega), ?_⟩
          refine ⟨_, _, _, rfl, s1.put hF, ?_, .inr (by omega)⟩
          rw [upd_same, show l + 1 - L = (l - L) + 1 by omega, List.range_succ, List.map_append, show [l - L].map (fun i => V.str (A D.c (L + i))) = [V.str (A D.c (L + (l - L)))] from rfl, show L + (l - L) = l by omega]
    · obtain ⟨v2, v3, v4, rfl, s1, hF1, hb⟩ := pv
      refine ⟨_, rfl, k0 F H1 hF s1 ?_⟩
      rw [hF1]
      unfold forcedV
      rw [show n + 1 - L = n + 1 - 2 * L by omega]
theorem ok_Grid_forced_number (T : TX K mg) : FnOk P w K mg base CX0 5 (a_Grid_forced_number K) (d_ K (a_Grid_forced_number K)) ["self", "prefix"] (sp_Grid_forced_number K) := by
  refine T.F_Grid_forced_number.ok sc_Grid_forced_number (fun vs H Q E h => ?_) (fun cdv Ar outer s0 H vs Q E hr h => ?_)
  · (repeat (obtain ⟨_, h⟩ := h)); subst_vars; rfl
  · obtain ⟨ga, D, p, nz, s, n, L, j, lead, sh, C, rfl, G, S, ⟨hj, hj2⟩, hC, k0⟩ := h
    have hu := hu_of hr
    refine ⟨_, (pss_cons (ps_par (i := 2) (j := 3) (by rfl) sc_Grid_forced_number.nd rfl rfl (by decide) rfl rfl (pa_cons (pe_meth (pv 0) T.cl_Grid T.mt_Grid_column_count (ok_Grid_column_count T) (by exact hr.mono (by decide)) T.b_Grid_column_count .nil pass0 (pa_cons (pv 1) pa_nil)) (pa_cons pe_int pa_nil)) (by rfl))
      (pss_cons (ps_for PassesOwn.never rfl (pi_items (pe_frz (pe_meth (pv 0) T.cl_Grid T.mt_Grid_shares_in (ok_Grid_shares_in T) (by exact hr.mono (by decide)) T.b_Grid_shares_in .nil pass0 (pa_cons (pe_meth (pv 0) T.cl_Grid T.mt_Grid_known_row (ok_Grid_known_row T) (by exact hr.mono (by decide)) T.b_Grid_known_row .nil pass0 (pa_cons (pv 1) pa_nil)) (pa_cons (pv 1) pa_nil))))) (pg_tup (by rfl) (pgs_cons (pg_name (i := 4) sc_Grid_forced_number.nd rfl (Or.inl rfl)) (pgs_cons (pg_name (i := 5) sc_Grid_forced_number.nd rfl (Or.inl rfl)) pgs_nil))) (pss_one (ps_set (i := 3) sc_Grid_forced_number.nd rfl (Or.inl rfl) (pe_meth (pe_fldK (K := K) rfl (pv 0) (by rfl)) T.cl_Modulo T.mt_Modulo_add (ok_Modulo_add T) (by exact hr.mono (by decide)) T.b_Modulo_add .nil pass0 (pa_cons (pv 3) (pa_cons (pe_meth (pe_fldK (K := K) rfl (pv 0) (by rfl)) T.cl_Modulo T.mt_Modulo_multiply (ok_Modulo_multiply T) (by exact hr.mono (by decide)) T.b_Modulo_multiply .nil pass0 (pa_cons (pv 5) (pa_cons (pe_ix (ix_listK (K := K) rfl) (pe_dget (by exact hu) (pe_fldK (K := K) rfl (pv 0) (by rfl)) (pv 4) (fun _ _ => rfl)) (pv 2) (fun _ _ => rfl)) pa_nil))) pa_nil))))))
      (pss_one (ps_ret (pv 3))))), ?_⟩
    obtain ⟨a, ha⟩ := S.gm.span hC j hj2
    have hf := S.few
    have hcnt := std_at S j
    refine ⟨_, rfl, ga, D.dx, _, rfl, G.ob, no_grid (by decide +kernel), _, rfl, ga, D, p, n, j, _, rfl, G.toGridCore, S.counts, ?_⟩
    rw [hcnt]
    refine ⟨_, _, rfl, ?_⟩
    refine ⟨_, rfl, ga, D.dx, _, rfl, G.ob, no_grid (by decide +kernel), _, rfl, ga, D.dx, _, rfl, G.ob, no_grid (by decide +kernel), _, rfl, ga, D, p, nz, s, n, n, j, _, rfl, G.toGridCore, S.known, S.counts, ⟨by rw [hcnt]; omega, by omega⟩, fun R1 H1 hR1 s1 hl => ?_⟩
    rw [hcnt, rowV_congr fun i hi => ha i hi] at hl
    have G1 := G.same s1
    refine ⟨_, rfl, ga, R1, _, D, p, nz, s, n, L, n - j, lead, sh, a, rfl, G1, S, SqL.of hl, ⟨by omega, by omega, fun i hi => by omega⟩, fun R2 H2 fs hR2 s2 hd hfs hsum => ?_⟩
    have G2 := G1.same s2
    have t2 := G1.t_no R2 hR2
    refine ⟨R2, _, rfl, hd, trivial, fun od => ?_⟩
    have S3 : Same H (upd H2 R2 (.frz od (.dK (shD D.c fs)))) := (s1.trans s2).put (s1.free hR2)
    refine ⟨R2, od, _, rfl, upd_same, ?_⟩
    refine for_it walk_items (fun t σ H3 => ∃ v4 v5, σ = [some (.ref ga), some (.str (A D.c j)), some (.int ((n - j : Nat) : Int)), some (fv (Mx.sumL (fs.take t) fun k => Mx.piv s (sh k) (n - j))), v4, v5] ∧ Same (upd H2 R2 (.frz od (.dK (shD D.c fs)))) H3) ⟨none, none, ?_, Same.refl _⟩ (fun t σ H3 ht pv => ?_) (fun t x σ H3 H4 ht pv y => ?_) (fun σ H3 pv => ?_)
    · show [some (V.ref ga), some (V.str (A D.c j)), some (V.int ((n - j : Nat) : Int)), some (V.int 0), none, none] = [some (V.ref ga), some (V.str (A D.c j)), some (V.int ((n - j : Nat) : Int)), some (fv (0 : _root_.Fin p)), none, none]
      rw [fv_zero]
    · obtain ⟨_, _, _, s3⟩ := pv
      exact s3 _ _ upd_same
    · obtain ⟨v4, v5, rfl, s3⟩ := pv
      obtain ⟨Tp, x1, x2, rfl, hT, rfl, hx, hy⟩ := y
      rw [shD_len] at ht
      obtain ⟨rfl, rfl⟩ := items_at rfl ht hx hy
      have hi := hfs _ (List.getElem_mem ht)
      have hm : fs[t].1 < D.m := by rw [S.basis.mL]; exact hi
      have s4 := s3.trans (Same.new hT (o := .tup [.str (A D.c fs[t].1), fv fs[t].2]))
      have G4 := G.same (S3.trans s4)
      obtain ⟨fdx, fe⟩ := G4.F.ob
      have g := DGet.k (k := aK D.c fs[t].1) G4.pr
      rw [S.basis.pr, dG_get (aK_injs _ _) hi] at g
      have hpr := G4.prs _ hm
      have hlt : n - j < n - fs[t].1 := by omega
      rw [S.rows _ hi] at hpr
      refine ⟨Tp, _, rfl, SqT.of upd_same, rfl, _, _, rfl, _, _, rfl, rfl, ?_⟩
      refine ⟨_, rfl, ga, _, D.dx, _, _, rfl, G4.ob, T.cl_Grid, T.na_Grid_own_field, gf_own_field D, D.fa, fdx, _, rfl, fe, no_field (by decide +kernel), _, rfl, _, rfl, ga, _, D.dx, _, _, rfl, G4.ob, T.cl_Grid, T.na_Grid_own_field, gf_own_field D, D.fa, fdx, _, rfl, fe, no_field (by decide +kernel), _, rfl, _, rfl, ga, _, D.dx, _, _, rfl, G4.ob, T.cl_Grid, T.na_Grid_pivot_rows, gf_pivot_rows D, _, rfl, D.pr, _, rfl, g, _, rfl, D.pra fs[t].1, _, _, fv (Mx.piv s (sh fs[t].1) (n - j)), rfl, rfl, SqL.of hpr, at_of (j := n - j) rfl (rowV_get hlt), D.fa, p, nz, fs[t].2, _, rfl, G4.F, D.fa, p, nz, _, _, rfl, G4.F, ?_⟩
      refine ⟨some (.str (A D.c fs[t].1)), some (fv fs[t].2), ?_, s4⟩
      rw [Mx.sumL_take_succ ht]
      rfl
    · obtain ⟨v4, v5, rfl, s3⟩ := pv
      rw [shD_len, List.take_length]
      refine ⟨_, rfl, ?_⟩
      have hh : ∀ c, c < n - j → s (j + c) = Mx.sumL (Mx.combo sh fs) fun k => s (k + c) := fun c hc => by
        rw [Mx.sumL_combo, ha c hc, hsum]; rfl
      have e := Mx.forced_is hC hj hj2 (h := Mx.combo sh fs) (Mx.combo_mem fun q hq p hp => Nat.lt_of_le_of_lt (sh_lt S.gm q.1 (hfs q hq) p hp) (hfs q hq)) hh
      rw [Mx.sumL_combo] at e
      have e2 : Mx.sumL fs (fun k => Mx.piv s (sh k) (n - j)) = s n - Mx.conv C s n := by
        rw [← e]
        show Mx.sumL fs (fun k => Mx.sumL (sh k) fun k => s (k + (n - j))) = _
        grind
      rw [e2]
      exact k0 H3 (S3.trans s3)
end
end Fa

namespace Fa
open PySem PySem.Spec L2
/-- a dict comprehension over it: Pv by the turn and the heap (the new dict at D within) -/
theorem dc_it {J : It} {n : Nat} {G : Hp → Prop} {Y : Nat → Hp → V → Hp → Prop} (w : Walk J n G Y) {g : TG} {tt : TT} {tk tv : TE} {vs : List Nat} {σ : L2.St} {H1 : Hp} {D : Addr} {Qd : Hp → Prop} (Pv : Nat → Hp → Prop) (h0 : Pv 0 (upd H1 D (.dK []))) (hG : ∀ i H, i ≤ n → Pv i H → G H)
    (hs : ∀ i x H H', i < n → Pv i H → Y i H x H' → g x (wipe σ vs) H' fun σ2 H2 => wipe σ2 vs = wipe σ vs ∧ tt σ2 H2 fun b H3 =>
      if b = true then tk σ2 H3 fun y H4 => tv σ2 H4 fun z H5 => ∃ kvs k, y = kV k ∧ H5 D = some (.dK kvs) ∧ kvs.length < sizeLine ∧ Pv (i + 1) (upd H5 D (.dK (putK kvs k z))) else Pv (i + 1) H3) (hd : ∀ H, Pv n H → Qd H) :
    ∃ W : Nat → Nat → Hp → Prop, (∃ m, W 0 m (upd H1 D (.dK []))) ∧ ∀ i m H, W i m H →
      (J.stop i H ∧ Qd H) ∨ (J.go i H ∧ ∃ Nx : Hp → Prop, (∀ H', Nx H' → ∃ m', m' < m ∧ W (i + 1) m' H') ∧ ∀ x H', J.yld i H x H' → g x (wipe σ vs) H' fun σ2 H2 => wipe σ2 vs = wipe σ vs ∧ tt σ2 H2 fun b H3 =>
        if b = true then tk σ2 H3 fun y H4 => tv σ2 H4 fun z H5 => ∃ kvs k, y = kV k ∧ H5 D = some (.dK kvs) ∧ kvs.length < sizeLine ∧ Nx (upd H5 D (.dK (putK kvs k z))) else Nx H3) := by
  refine ⟨fun i m H => m = n - i ∧ i ≤ n ∧ Pv i H, ⟨n, by simp, Nat.zero_le _, h0⟩, ?_⟩
  rintro i m H ⟨rfl, hi, p⟩
  have q := hG i H hi p
  by_cases hlt : i < n
  · exact .inr ⟨w.goes i H hlt q, Pv (i + 1), fun H' p' => ⟨n - (i + 1), by omega, rfl, hlt, p'⟩, fun x H' y => hs i x H H' hlt p (w.yields i H x H' hlt q y)⟩
  · have e : i = n := by omega
    subst e
    exact .inl ⟨w.stops H q, hd H p⟩
theorem mergeK_snoc (acc : List (Key × V)) : ∀ more : List (Key × V), ((acc ++ more).map (·.1)).Nodup → mergeK acc more = acc ++ more := by
  intro more
  induction more generalizing acc with
  | nil => intro _; show acc = acc ++ []; rw [List.append_nil]
  | cons q r ih =>
    intro hn
    have e : putK acc q.1 q.2 = acc ++ [q] := putK_new _ (by
      cases hv : valV acc q.1 with
      | none => rfl
      | some v =>
        exfalso
        have := valV_in hv
        rw [List.map_append, List.map_cons, List.nodup_append] at hn
        exact hn.2.2 q.1 this q.1 (by simp) rfl)
    show mergeK (putK acc q.1 q.2) r = _
    rw [e, ih (acc ++ [q]) (by rw [List.append_assoc]; exact hn), List.append_assoc]; rfl
theorem shD_merge {p : Nat} {c : Nat} {l : List (Nat × _root_.Fin p)} (hn : (Mx.keysL l).Nodup) : mergeK [] (shD c l) = shD c l := by
  refine mergeK_snoc [] _ ?_
  have e : ((shD c l).map (·.1)) = (Mx.keysL l).map (aK c) := by
    unfold shD Mx.keysL
    rw [List.map_map, List.map_map]; rfl
  rw [List.nil_append, e]
  have : ∀ l : List Nat, l.Nodup → (l.map (aK c)).Nodup := by
    intro l
    induction l with
    | nil => intro _; simp
    | cons a r ih =>
      intro h
      obtain ⟨h1, h2⟩ := List.nodup_cons.mp h
      refine List.nodup_cons.mpr ⟨fun m => ?_, ih h2⟩
      obtain ⟨b, hb, e⟩ := List.mem_map.mp m
      exact h1 (by rw [← aK_inj e]; exact hb)
  exact this _ hn
theorem keysL_neg {p : Nat} [NeZero p] (l : List (Nat × _root_.Fin p)) : Mx.keysL (Mx.negL l) = Mx.keysL l := by
  unfold Mx.keysL Mx.negL
  rw [List.map_map]; rfl
/-- what the tags leave alone stands -/
def Fr (t : Addr → Nat) (H H' : Hp) : Prop := ∀ a u, t a = 0 → H a = some u → H' a = some u
theorem Fr.of {t : Addr → Nat} {H H' : Hp} (s : Same H H') : Fr t H H' := fun a u _ e => s a u e
theorem Fr.trans {t : Addr → Nat} {H H' H'' : Hp} (f : Fr t H H') (g : Fr t H' H'') : Fr t H H'' := fun a u h e => g a u h (f a u h e)
theorem Fr.put {t : Addr → Nat} {H H' : Hp} {b : Addr} {o : HO} (f : Fr t H H') (h : t b ≠ 0) : Fr t H (upd H' b o) := fun a u ht e => by
  rw [upd_ne (fun z => h (by rw [← z]; exact ht))]; exact f a u ht e
theorem GridHas.rowsTo {K : PySem.W.Frag} {H : Hp} {ga : Addr} {p : Nat} {D : GD} (G : GridHas K H ga p D) {pl : Nat → List V} (h : ∀ i, i < D.m → pl i = D.prL i) : GridHas K H ga p { D with prL := pl } :=
  ⟨{ G.toGridCore with }, fun i hi => by show H (D.pra i) = some (.lst (pl i)); rw [h i hi]; exact G.prs i hi, G.shs, G.t_pra, G.t_sha⟩
theorem Basis.same {p : Nat} [NeZero p] {D D' : GD} {L : Nat} {lead : Nat → Nat} {sh : Nat → List (Nat × _root_.Fin p)} (B : Basis D L lead sh) (h1 : D'.m = D.m) (h2 : D'.ldD = D.ldD) (h3 : D'.wlD = D.wlD) (h4 : D'.prD = D.prD) (h5 : D'.soD = D.soD) (h6 : D'.c = D.c) (h7 : D'.pra = D.pra) (h8 : D'.sha = D.sha) (h9 : D'.shL = D.shL) : Basis D' L lead sh :=
  ⟨h1.trans B.mL, by rw [h2, h6]; exact B.ld, by rw [h3, h6]; exact B.wl, by rw [h4, h6, h7]; exact B.pr, by rw [h5, h6, h8]; exact B.so, by rw [h9, h6]; exact B.sl⟩
/-! ### promises -/
def sp_Grid_joined_shares (K : PySem.W.Frag) : Sp := fun vs H Q _ => ∃ (ga : Addr) (D : GD) (p : Nat) (_ : NeZero p) (s : Nat → _root_.Fin p) (n L j : Nat) (lead : Nat → Nat) (sh : Nat → List (Nat × _root_.Fin p)), vs = [.ref ga, .str (A D.c j)] ∧
  GridHas K H ga p D ∧ Std D s n L lead sh ∧ (L ≤ j ∧ j + L ≤ n) ∧
  ∀ R H' (h : List (Nat × _root_.Fin p)), H R = none → Same H H' → H' R = some (.dK (shD D.c (Mx.negL h ++ [(j, 1)]))) → (∀ q ∈ h, q.1 < L) → (∀ c, c < n - j → s (j + c) = Mx.sumL h fun k => s (k + c)) → Q (.ref R) H'
def ccAt (c n k : Nat) : List (Key × V) := dG (if k ≤ n then n else n + 1) (aK c) fun j => .int ((if j < k then n + 1 - j else n - j : Nat) : Int)
def sp_Grid_extend (K : PySem.W.Frag) : Sp := fun vs H Q _ => ∃ (ga : Addr) (D : GD) (p : Nat) (_ : NeZero p) (s : Nat → _root_.Fin p) (n L : Nat) (lead : Nat → Nat) (sh : Nat → List (Nat × _root_.Fin p)), vs = [.ref ga, .str (A D.c n)] ∧
  GridHas K H ga p D ∧ Known D s (n + 1) ∧ Counts D n (fun i => n - i) ∧ Basis D L lead sh ∧ RowsAre D s L sh (fun i => n - i) ∧ (L ≤ n ∧ n ≤ 160 ∧ ∀ i, i < L → ∀ q ∈ sh i, q.1 ≤ i) ∧
  ∀ H' (pl : Nat → List V), Fr D.tg H H' → GridHas K H' ga p { D with ccD := ccAt D.c n (n + 1), prL := pl } → (∀ i, i < L → pl i = rowV (n + 1 - i) fun c => Mx.piv s (sh i) c) → Q .non H'
section
variable {P : Program} {w : World} {K : PySem.W.Frag} {mg : Str → Option Value} {base : Heap}
theorem ok_Grid_joined_shares (T : TX K mg) : FnOk P w K mg base CX0 6 (a_Grid_joined_shares K) (d_ K (a_Grid_joined_shares K)) ["self", "prefix"] (sp_Grid_joined_shares K) := by
  refine T.F_Grid_joined_shares.ok sc_Grid_joined_shares (fun vs H Q E h => ?_) (fun cdv Ar outer s0 H vs Q E hr h => ?_)
  · (repeat (obtain ⟨_, h⟩ := h)); subst_vars; rfl
  · obtain ⟨ga, D, p, nz, s, n, L, j, lead, sh, rfl, G, S, ⟨hj, hj2⟩, k0⟩ := h
    have hu := hu_of hr
    refine ⟨_, (pss_cons (ps_set (i := 2) sc_Grid_joined_shares.nd rfl (Or.inl rfl) (pe_meth (pv 0) T.cl_Grid T.mt_Grid_combination (ok_Grid_combination T) (by exact hr.mono (by decide)) T.b_Grid_combination .nil pass0 (pa_cons (pv 1) pa_nil)))
      (pss_one (ps_ret (pe_starDict (by exact (pe_lock (pe_dc (by rfl) sc_Grid_joined_shares.nd (g := gTup K 2 (gCons (gName 3) ( gCons (gName 4) (gNil)))) (pi_items (pv 2)) (own := [("word", 3), ("number", 4)]) (blkOk_by (own := [("word", 3), ("number", 4)]) (N := N_Grid_joined_shares) (sc := defScope s_Grid_joined_shares) (by decide +kernel)) (by intro _ _ _ _ _; exact (pg_tup (by rfl) (pgs_cons (pg_name (i := 3) sc_Grid_joined_shares.nd rfl (Or.inl rfl)) (pgs_cons (pg_name (i := 4) sc_Grid_joined_shares.nd rfl (Or.inl rfl)) pgs_nil)))) (fun _ _ _ _ _ => pts_nil) (by intro _ _ _ _ _; exact (pv 3)) (by intro _ _ _ _ _; exact (pe_meth (pe_fldK (K := K) rfl (pv 0) (by rfl)) T.cl_Modulo T.mt_Modulo_negative (ok_Modulo_negative T) (by exact hr.mono (by decide)) T.b_Modulo_negative .nil pass0 (pa_cons (pv 4) pa_nil)))))) (by exact (pv 1)) (by exact pe_int))))), ?_⟩
    have hf := S.few
    refine ⟨_, rfl, ga, D.dx, _, rfl, G.ob, no_grid (by decide +kernel), _, rfl, ga, D, p, nz, s, n, L, j, lead, sh, rfl, G, S, ⟨hj, hj2⟩, fun R1 H1 h hR1 s1 hd hlt hnd hsum => ?_⟩
    intro R hR
    have nR1 : R1 ≠ R := fun e => by rw [← e, hd] at hR; cases hR
    have S1 : Same H (upd H1 R (.dK [])) := s1.trans (Same.new hR)
    have hd1 : upd H1 R (.dK []) R1 = some (.dK (shD D.c h)) := by rw [upd_ne nR1]; exact hd
    refine ⟨R1, _, hd1, trivial, fun od => ?_⟩
    let HB : Hp := upd (upd H1 R (.dK [])) R1 (.frz od (.dK (shD D.c h)))
    have SB : Same H HB := S1.put hR1
    have hRB : HB R = some (.dK []) := by show upd _ R1 _ R = _; rw [upd_ne (Ne.symm nR1)]; exact upd_same
    refine ⟨_, rfl, R1, od, _, rfl, upd_same, fun R2 hR2 => ?_⟩
    have hRB2 : HB R2 = none := hR2
    refine dc_it walk_items (fun t H2 => Same HB H2 ∧ H2 R2 = some (.dK (shD D.c (Mx.negL (h.take t))))) ⟨Same.new hR2, upd_same⟩ (fun t H2 _ pv => pv.1 _ _ upd_same) (fun t x H2 H3 ht pv y => ?_) (fun H2 pv => ?_)
    · obtain ⟨s2, hR2'⟩ := pv
      obtain ⟨Tp, x1, x2, rfl, hT, rfl, hx, hy⟩ := y
      rw [shD_len] at ht
      obtain ⟨rfl, rfl⟩ := items_at rfl ht hx hy
      have s3 := s2.trans (Same.new hT (o := .tup [.str (A D.c h[t].1), fv h[t].2]))
      have nT : R2 ≠ Tp := fun e => by rw [← e, hR2'] at hT; cases hT
      have G3 := G.same (SB.trans s3)
      obtain ⟨fdx, fe⟩ := G3.F.ob
      refine ⟨Tp, _, rfl, SqT.of upd_same, rfl, _, _, rfl, _, _, rfl, rfl, rfl, ?_⟩
      refine ⟨_, rfl, _, rfl, ga, _, D.dx, _, _, rfl, G3.ob, T.cl_Grid, T.na_Grid_own_field, gf_own_field D, D.fa, fdx, _, rfl, fe, no_field (by decide +kernel), _, rfl, D.fa, p, nz, h[t].2, rfl, G3.F, ?_⟩
      have hnt : (Mx.keysL (h.take t)).Nodup := by
        unfold Mx.keysL
        rw [List.map_take]
        exact hnd.sublist (List.take_sublist ..)
      refine ⟨shD D.c (Mx.negL (h.take t)), aK D.c h[t].1, rfl, by rw [upd_ne nT]; exact hR2', ?_, s3.put hRB2, ?_⟩
      · rw [shD_len]
        unfold Mx.negL
        rw [List.length_map, List.length_take]
        have := Mx.keys_few hnd hlt
        exact szl _ (by omega)
      · rw [upd_same, shD_put (by rw [keysL_neg]; exact hnt), Mx.putL_new, List.take_add_one, List.getElem?_eq_getElem ht]
        · unfold Mx.negL
          rw [List.map_append]; rfl
        · rw [keysL_neg]
          unfold Mx.keysL at hnd ⊢
          rw [List.map_take]
          intro z
          obtain ⟨i, hi, e⟩ := List.mem_iff_getElem.mp z
          rw [List.length_take] at hi
          rw [List.getElem_take, List.getElem_map] at e
          have := (List.getElem_inj (xs := h.map (·.1)) (i := i) (j := t) (h₀ := by omega) (h₁ := by rw [List.length_map]; exact ht) hnd).mp (by rw [List.getElem_map, List.getElem_map]; exact e)
          omega
    · obtain ⟨s2, hR2'⟩ := pv
      rw [shD_len, List.take_length] at hR2'
      have nR2 : R2 ≠ R := fun e => by rw [e, hRB] at hRB2; cases hRB2
      have nR21 : R2 ≠ R1 := fun e => by rw [e] at hRB2; rw [show HB R1 = _ from upd_same] at hRB2; cases hRB2
      have hnn : (Mx.keysL (Mx.negL h)).Nodup := by rw [keysL_neg]; exact hnd
      have s4 : Same (upd H1 R (.dK [])) (upd H2 R1 (.dK (shD D.c h))) := s2.unlock hd1
      refine ⟨s2 _ _ upd_same, s4 _ _ upd_same, R2, shD D.c (Mx.negL h), rfl, by rw [upd_ne nR21]; exact hR2', nR2, ?_⟩
      rw [shD_merge hnn]
      intro r hr
      have nrR : r ≠ R := fun e => by rw [e, upd_same] at hr; cases hr
      refine ⟨_, rfl, aK D.c j, rfl, by rw [upd_ne (Ne.symm nrR)]; exact upd_same, upd_same, ?_, ?_⟩
      · rw [shD_len]
        unfold Mx.negL
        rw [List.length_map]
        have := Mx.keys_few hnd hlt
        exact szl _ (by omega)
      · have hnew : j ∉ Mx.keysL (Mx.negL h) := fun z => by
          rw [keysL_neg] at z
          obtain ⟨q, hq, e⟩ := List.mem_map.mp z
          have := hlt q hq
          rw [show q.1 = j from e] at this
          omega
        have e1 := shD_put (c := D.c) (v := (1 : _root_.Fin p)) (k := j) hnn
        rw [fv_one G.F.six.lo, Mx.putL_new hnew] at e1
        rw [e1]
        have fR : H R = none := s1.free hR
        refine k0 R _ h fR (Same.put (Same.put (Same.put (Same.put ?_ fR) ?_) ?_) fR) upd_same hlt hsum
        · exact fun a u e => by
            have := S1 a u e
            exact s4 a u this
        · have := none_upd hr
          exact S1.free (s4.free this)
        · have := none_upd hr
          exact S1.free (s4.free this)
end
end Fa

namespace Fa
open PySem PySem.Spec L2
/-! ### a new grid -/
def But (g : Addr) (H H' : Hp) : Prop := ∀ a u, a ≠ g → H a = some u → H' a = some u
theorem But.trans {g : Addr} {H H' H'' : Hp} (x : But g H H') (y : But g H' H'') : But g H H'' := fun a u n e => y a u n (x a u n e)
theorem init_old {g : Addr} {H : Hp} {u1 : HO} {l : List Addr} (hl : l.Nodup ∧ ∀ a ∈ l, H a ≠ none) (hg : g ∈ l) :
    (upd H g u1) g = some u1 ∧ But g H (upd H g u1) ∧ (l.Nodup ∧ ∀ a ∈ l, upd H g u1 a ≠ none) :=
  ⟨upd_same, fun a u n e => by rw [upd_ne n]; exact e, hl.1, fun a ha z => hl.2 a ha (none_upd z)⟩
theorem init_new {g p : Addr} {H : Hp} {o u1 : HO} {l : List Addr} (hl : l.Nodup ∧ ∀ a ∈ l, H a ≠ none) (hg : g ∈ l) (hp : H p = none) :
    (upd (upd H p o) g u1) g = some u1 ∧ But g H (upd (upd H p o) g u1) ∧ (upd (upd H p o) g u1) p = some o ∧ ((p :: l).Nodup ∧ ∀ a ∈ p :: l, upd (upd H p o) g u1 a ≠ none) ∧ g ∈ p :: l := by
  have np : p ≠ g := fun e => hl.2 g hg (by rw [← e]; exact hp)
  refine ⟨upd_same, fun a u n e => ?_, by rw [upd_ne np]; exact upd_same, ⟨List.nodup_cons.mpr ⟨fun z => hl.2 p z hp, hl.1⟩, fun a ha z => ?_⟩, List.mem_cons_of_mem _ hg⟩
  · rw [upd_ne n, upd_ne (fun z => by rw [z, hp] at e; cases e)]; exact e
  · have z2 := none_upd z
    rcases List.mem_cons.mp ha with rfl | ha
    · rw [upd_same] at z2; cases z2
    · exact hl.2 a ha (none_upd z2)
theorem putF_snoc {f : Str} {v : V} : ∀ {ns : List Str} {vs : List V}, f ∉ ns → ns.length = vs.length → putF f v (ns.zip vs) = ns.zip vs ++ [(f, v)]
  | [], [], _, _ => rfl
  | n :: ns, u :: vs, h, hl => by
    rw [List.zip_cons_cons]
    unfold putF
    rw [if_neg fun e => h (by simp [e]), putF_snoc (fun z => h (List.mem_cons_of_mem _ z)) (by simpa using hl)]; rfl
theorem putF_next {k : Nat} {f : Str} {v : V} (h : gnames[k]? = some f) (vs : List V) (hl : vs.length = k) : putF f v ((gnames.take k).zip vs) = (gnames.take (k + 1)).zip (vs ++ [v]) := by
  have hk : k < gnames.length := (List.getElem?_eq_some_iff.mp h).1
  have h2 : gnames[k] = f := (List.getElem?_eq_some_iff.mp h).2
  have hlt : (gnames.take k).length = vs.length := by rw [List.length_take]; omega
  have hn : f ∉ gnames.take k := fun z => by
    obtain ⟨i, hi, e⟩ := List.mem_iff_getElem.mp z
    rw [List.getElem_take] at e
    rw [List.length_take] at hi
    have := (List.getElem_inj (h₀ := by omega) (h₁ := hk) gnames_nd).mp (e.trans h2.symm)
    omega
  rw [putF_snoc hn hlt, List.take_add_one, h, List.zip_append hlt]; rfl
def tagL : List Addr → List Nat → Addr → Nat
  | a :: r, n :: m, b => if b = a then n else tagL r m b
  | _, _, _ => 0
theorem tagL_no : ∀ {l : List Addr} {m : List Nat} {b : Addr}, b ∉ l → tagL l m b = 0
  | [], _, _, _ => by unfold tagL; rfl
  | _ :: _, [], _, _ => by unfold tagL; rfl
  | a :: r, n :: m, b, h => by
    unfold tagL
    rw [if_neg fun e => h (by simp [e])]
    exact tagL_no fun z => h (List.mem_cons_of_mem _ z)
theorem tagL_at : ∀ {l : List Addr} {m : List Nat} {b : Addr} {n : Nat} (i : Nat), l.Nodup → l[i]? = some b → m[i]? = some n → tagL l m b = n
  | [], _, _, _, _, _, h, _ => by simp at h
  | _ :: _, [], _, _, _, _, _, h => by simp at h
  | a :: r, k :: m, b, n, 0, _, h1, h2 => by
    simp at h1 h2
    unfold tagL
    rw [if_pos h1.symm, h2]
  | a :: r, k :: m, b, n, i + 1, hn, h1, h2 => by
    obtain ⟨k1, k2⟩ := List.nodup_cons.mp hn
    simp at h1 h2
    unfold tagL
    rw [if_neg fun e => k1 (by rw [← e]; exact List.mem_of_getElem? h1)]
    exact tagL_at i k2 h1 h2
/-! ### promises -/
def sp_Grid_init (K : PySem.W.Frag) : Sp := fun vs H Q _ => ∃ (ga fa oa ca dx : Addr) (p c : Nat), vs = [.ref ga, .ref fa, .ref oa] ∧ H ga = some (.ins (c_Grid K) dx []) ∧ FieldAt K H fa p ∧ OrderAt K H oa c ca ∧
  ∀ H' (D : GD), GridHas K H' ga p D → D.c = c → D.m = 0 → D.fa = fa → D.oa = oa → D.ca = ca → D.up = A c 0 → D.kwL = [] → D.kvL = [] → D.nkD = [] → D.ccD = [] → D.ldD = [] → D.wlD = [] → D.prD = [] → D.soD = [] → D.gsL = [.int 0] →
    (∀ a u, a ≠ ga → a ≠ fa → a ≠ oa → a ≠ ca → H a = some u → H' a = some u ∧ D.tg a = 0) → Q .non H'
section
variable {P : Program} {w : World} {K : PySem.W.Frag} {mg : Str → Option Value} {base : Heap}
theorem ok_Grid_init (T : TX K mg) : FnOk P w K mg base CX0 1 (a_Grid_init K) (d_ K (a_Grid_init K)) ["self", "field", "order"] (sp_Grid_init K) := by
  refine T.F_Grid_init.ok sc_Grid_init (fun vs H Q E h => ?_) (fun cdv Ar outer s0 H vs Q E hr h => ?_)
  · (repeat (obtain ⟨_, h⟩ := h)); subst_vars; rfl
  · obtain ⟨ga, fa, oa, ca, dx, p, c, rfl, e0, F, O, k0⟩ := h
    have hu := hu_of hr
    refine ⟨_, (pss_cons (ps_fld (pv 0) (pv 1) rfl)
      (pss_cons (ps_fld (pv 0) (pv 2) rfl)
      (pss_cons (ps_fld (pv 0) (pe_lst pa_nil) rfl)
      (pss_cons (ps_fld (pv 0) (pe_lst pa_nil) rfl)
      (pss_cons (ps_fld (pv 0) pe_dnewK rfl)
      (pss_cons (ps_fld (pv 0) pe_dnewK rfl)
      (pss_cons (ps_fld (pv 0) pe_str rfl)
      (pss_cons (ps_fld (pv 0) pe_dnewK rfl)
      (pss_cons (ps_fld (pv 0) pe_dnewK rfl)
      (pss_cons (ps_fld (pv 0) pe_dnewK rfl)
      (pss_cons (ps_fld (pv 0) pe_dnewK rfl)
      (pss_one (ps_fld (pv 0) (pe_lst (pa_cons pe_int pa_nil)) rfl))))))))))))), ?_⟩
    obtain ⟨fdx, fe⟩ := F.ob
    obtain ⟨odx, oe⟩ := O.ob
    have n1 : ga ≠ fa := ne_of e0 fe (by intro z; injection z with _ _ z; cases z)
    have n2 : ga ≠ oa := ne_of e0 oe (by intro z; injection z with _ _ z; cases z)
    have n3 : ga ≠ ca := ne_of e0 O.co (by intro z; cases z)
    have n4 : fa ≠ oa := ne_of fe oe (by
      intro z
      injection z with _ _ z
      exact absurd z (by unfold oflds; intro z; injection z with z1 z2; cases z2))
    have n5 : fa ≠ ca := ne_of fe O.co (by intro z; cases z)
    have n6 : oa ≠ ca := ne_of oe O.co (by intro z; cases z)
    have l0 : [ga, fa, oa, ca].Nodup ∧ ∀ a ∈ [ga, fa, oa, ca], H a ≠ none := ⟨by simp [n1, n2, n3, n4, n5, n6], by
      intro a ha z
      simp at ha
      rcases ha with rfl | rfl | rfl | rfl
      · rw [e0] at z; cases z
      · rw [fe] at z; cases z
      · rw [oe] at z; cases z
      · rw [O.co] at z; cases z⟩
    have g0 : ga ∈ [ga, fa, oa, ca] := by simp
    refine ⟨_, rfl, _, rfl, ga, _, dx, ((gnames.take 0).zip []), rfl, e0, T.cl_Grid, T.na_Grid_own_field, by rw [List.length_zip]; exact Nat.lt_of_le_of_lt (Nat.min_le_right _ _) (by show 0 < 1000; omega), ?_⟩
    rw [show putF ("own_field" : Str) (.ref fa) ((gnames.take 0).zip []) = ((gnames.take 1).zip [.ref fa]) from putF_next (k := 0) (f := "own_field") (v := .ref fa) rfl [] rfl]
    obtain ⟨e1, b1, l1⟩ := init_old (u1 := .ins (c_Grid K) dx ((gnames.take 1).zip [.ref fa])) l0 g0
    generalize upd H ga _ = H1 at e1 b1 l1 ⊢
    have g1 := g0
    refine ⟨_, rfl, _, rfl, ga, _, dx, ((gnames.take 1).zip [.ref fa]), rfl, e1, T.cl_Grid, T.na_Grid_own_order, by rw [List.length_zip]; exact Nat.lt_of_le_of_lt (Nat.min_le_right _ _) (by show 1 < 1000; omega), ?_⟩
    rw [show putF ("own_order" : Str) (.ref oa) ((gnames.take 1).zip [.ref fa]) = ((gnames.take 2).zip [.ref fa, .ref oa]) from putF_next (k := 1) (f := "own_order") (v := .ref oa) rfl [.ref fa] rfl]
    obtain ⟨e2, b2, l2⟩ := init_old (u1 := .ins (c_Grid K) dx ((gnames.take 2).zip [.ref fa, .ref oa])) l1 g1
    generalize upd H1 ga _ = H2 at e2 b2 l2 ⊢
    have g2 := g1
    refine ⟨by show 0 ≤ sizeLine; decide, fun kw hkw => ?_⟩
    refine ⟨_, rfl, ga, _, dx, ((gnames.take 2).zip [.ref fa, .ref oa]), rfl, by rw [upd_ne (fun e => by rw [← e, e2] at hkw; cases hkw)]; exact e2, T.cl_Grid, T.na_Grid_known_words, by rw [List.length_zip]; exact Nat.lt_of_le_of_lt (Nat.min_le_right _ _) (by show 2 < 1000; omega), ?_⟩
    rw [show putF ("known_words" : Str) (.ref kw) ((gnames.take 2).zip [.ref fa, .ref oa]) = ((gnames.take 3).zip [.ref fa, .ref oa, .ref kw]) from putF_next (k := 2) (f := "known_words") (v := .ref kw) rfl [.ref fa, .ref oa] rfl]
    obtain ⟨e3, b3, ckw0, l3, g3⟩ := init_new (o := .lst []) (u1 := .ins (c_Grid K) dx ((gnames.take 3).zip [.ref fa, .ref oa, .ref kw])) l2 g2 hkw
    generalize upd (upd H2 kw _) ga _ = H3 at e3 b3 ckw0 l3 ⊢
    refine ⟨by show 0 ≤ sizeLine; decide, fun kv hkv => ?_⟩
    refine ⟨_, rfl, ga, _, dx, ((gnames.take 3).zip [.ref fa, .ref oa, .ref kw]), rfl, by rw [upd_ne (fun e => by rw [← e, e3] at hkv; cases hkv)]; exact e3, T.cl_Grid, T.na_Grid_known_values, by rw [List.length_zip]; exact Nat.lt_of_le_of_lt (Nat.min_le_right _ _) (by show 3 < 1000; omega), ?_⟩
    rw [show putF ("known_values" : Str) (.ref kv) ((gnames.take 3).zip [.ref fa, .ref oa, .ref kw]) = ((gnames.take 4).zip [.ref fa, .ref oa, .ref kw, .ref kv]) from putF_next (k := 3) (f := "known_values") (v := .ref kv) rfl [.ref fa, .ref oa, .ref kw] rfl]
    obtain ⟨e4, b4, ckv0, l4, g4⟩ := init_new (o := .lst []) (u1 := .ins (c_Grid K) dx ((gnames.take 4).zip [.ref fa, .ref oa, .ref kw, .ref kv])) l3 g3 hkv
    generalize upd (upd H3 kv _) ga _ = H4 at e4 b4 ckv0 l4 ⊢
    intro nk hnk
    refine ⟨_, rfl, ga, _, dx, ((gnames.take 4).zip [.ref fa, .ref oa, .ref kw, .ref kv]), rfl, by rw [upd_ne (fun e => by rw [← e, e4] at hnk; cases hnk)]; exact e4, T.cl_Grid, T.na_Grid_number_of_known, by rw [List.length_zip]; exact Nat.lt_of_le_of_lt (Nat.min_le_right _ _) (by show 4 < 1000; omega), ?_⟩
    rw [show putF ("number_of_known" : Str) (.ref nk) ((gnames.take 4).zip [.ref fa, .ref oa, .ref kw, .ref kv]) = ((gnames.take 5).zip [.ref fa, .ref oa, .ref kw, .ref kv, .ref nk]) from putF_next (k := 4) (f := "number_of_known") (v := .ref nk) rfl [.ref fa, .ref oa, .ref kw, .ref kv] rfl]
    obtain ⟨e5, b5, cnk0, l5, g5⟩ := init_new (o := .dK []) (u1 := .ins (c_Grid K) dx ((gnames.take 5).zip [.ref fa, .ref oa, .ref kw, .ref kv, .ref nk])) l4 g4 hnk
    generalize upd (upd H4 nk _) ga _ = H5 at e5 b5 cnk0 l5 ⊢
    intro cc hcc
    refine ⟨_, rfl, ga, _, dx, ((gnames.take 5).zip [.ref fa, .ref oa, .ref kw, .ref kv, .ref nk]), rfl, by rw [upd_ne (fun e => by rw [← e, e5] at hcc; cases hcc)]; exact e5, T.cl_Grid, T.na_Grid_column_counts, by rw [List.length_zip]; exact Nat.lt_of_le_of_lt (Nat.min_le_right _ _) (by show 5 < 1000; omega), ?_⟩
    rw [show putF ("column_counts" : Str) (.ref cc) ((gnames.take 5).zip [.ref fa, .ref oa, .ref kw, .ref kv, .ref nk]) = ((gnames.take 6).zip [.ref fa, .ref oa, .ref kw, .ref kv, .ref nk, .ref cc]) from putF_next (k := 5) (f := "column_counts") (v := .ref cc) rfl [.ref fa, .ref oa, .ref kw, .ref kv, .ref nk] rfl]
    obtain ⟨e6, b6, ccc0, l6, g6⟩ := init_new (o := .dK []) (u1 := .ins (c_Grid K) dx ((gnames.take 6).zip [.ref fa, .ref oa, .ref kw, .ref kv, .ref nk, .ref cc])) l5 g5 hcc
    generalize upd (upd H5 cc _) ga _ = H6 at e6 b6 ccc0 l6 ⊢
    refine ⟨_, rfl, ga, _, dx, ((gnames.take 6).zip [.ref fa, .ref oa, .ref kw, .ref kv, .ref nk, .ref cc]), rfl, e6, T.cl_Grid, T.na_Grid_upcoming, by rw [List.length_zip]; exact Nat.lt_of_le_of_lt (Nat.min_le_right _ _) (by show 6 < 1000; omega), ?_⟩
    rw [show (V.str (Str.ofString "")) = V.str (A c 0) from congrArg V.str (by rfl)]
    rw [show putF ("upcoming" : Str) (.str (A c 0)) ((gnames.take 6).zip [.ref fa, .ref oa, .ref kw, .ref kv, .ref nk, .ref cc]) = ((gnames.take 7).zip [.ref fa, .ref oa, .ref kw, .ref kv, .ref nk, .ref cc, .str (A c 0)]) from putF_next (k := 6) (f := "upcoming") (v := .str (A c 0)) rfl [.ref fa, .ref oa, .ref kw, .ref kv, .ref nk, .ref cc] rfl]
    obtain ⟨e7, b7, l7⟩ := init_old (u1 := .ins (c_Grid K) dx ((gnames.take 7).zip [.ref fa, .ref oa, .ref kw, .ref kv, .ref nk, .ref cc, .str (A c 0)])) l6 g6
    generalize upd H6 ga _ = H7 at e7 b7 l7 ⊢
    have g7 := g6
    intro ld hld
    refine ⟨_, rfl, ga, _, dx, ((gnames.take 7).zip [.ref fa, .ref oa, .ref kw, .ref kv, .ref nk, .ref cc, .str (A c 0)]), rfl, by rw [upd_ne (fun e => by rw [← e, e7] at hld; cases hld)]; exact e7, T.cl_Grid, T.na_Grid_leads, by rw [List.length_zip]; exact Nat.lt_of_le_of_lt (Nat.min_le_right _ _) (by show 7 < 1000; omega), ?_⟩
    rw [show putF ("leads" : Str) (.ref ld) ((gnames.take 7).zip [.ref fa, .ref oa, .ref kw, .ref kv, .ref nk, .ref cc, .str (A c 0)]) = ((gnames.take 8).zip [.ref fa, .ref oa, .ref kw, .ref kv, .ref nk, .ref cc, .str (A c 0), .ref ld]) from putF_next (k := 7) (f := "leads") (v := .ref ld) rfl [.ref fa, .ref oa, .ref kw, .ref kv, .ref nk, .ref cc, .str (A c 0)] rfl]
    obtain ⟨e8, b8, cld0, l8, g8⟩ := init_new (o := .dK []) (u1 := .ins (c_Grid K) dx ((gnames.take 8).zip [.ref fa, .ref oa, .ref kw, .ref kv, .ref nk, .ref cc, .str (A c 0), .ref ld])) l7 g7 hld
    generalize upd (upd H7 ld _) ga _ = H8 at e8 b8 cld0 l8 ⊢
    intro wl hwl
    refine ⟨_, rfl, ga, _, dx, ((gnames.take 8).zip [.ref fa, .ref oa, .ref kw, .ref kv, .ref nk, .ref cc, .str (A c 0), .ref ld]), rfl, by rw [upd_ne (fun e => by rw [← e, e8] at hwl; cases hwl)]; exact e8, T.cl_Grid, T.na_Grid_word_of_lead, by rw [List.length_zip]; exact Nat.lt_of_le_of_lt (Nat.min_le_right _ _) (by show 8 < 1000; omega), ?_⟩
    rw [show putF ("word_of_lead" : Str) (.ref wl) ((gnames.take 8).zip [.ref fa, .ref oa, .ref kw, .ref kv, .ref nk, .ref cc, .str (A c 0), .ref ld]) = ((gnames.take 9).zip [.ref fa, .ref oa, .ref kw, .ref kv, .ref nk, .ref cc, .str (A c 0), .ref ld, .ref wl]) from putF_next (k := 8) (f := "word_of_lead") (v := .ref wl) rfl [.ref fa, .ref oa, .ref kw, .ref kv, .ref nk, .ref cc, .str (A c 0), .ref ld] rfl]
    obtain ⟨e9, b9, cwl0, l9, g9⟩ := init_new (o := .dK []) (u1 := .ins (c_Grid K) dx ((gnames.take 9).zip [.ref fa, .ref oa, .ref kw, .ref kv, .ref nk, .ref cc, .str (A c 0), .ref ld, .ref wl])) l8 g8 hwl
    generalize upd (upd H8 wl _) ga _ = H9 at e9 b9 cwl0 l9 ⊢
    intro pr hpr
    refine ⟨_, rfl, ga, _, dx, ((gnames.take 9).zip [.ref fa, .ref oa, .ref kw, .ref kv, .ref nk, .ref cc, .str (A c 0), .ref ld, .ref wl]), rfl, by rw [upd_ne (fun e => by rw [← e, e9] at hpr; cases hpr)]; exact e9, T.cl_Grid, T.na_Grid_pivot_rows, by rw [List.length_zip]; exact Nat.lt_of_le_of_lt (Nat.min_le_right _ _) (by show 9 < 1000; omega), ?_⟩
    rw [show putF ("pivot_rows" : Str) (.ref pr) ((gnames.take 9).zip [.ref fa, .ref oa, .ref kw, .ref kv, .ref nk, .ref cc, .str (A c 0), .ref ld, .ref wl]) = ((gnames.take 10).zip [.ref fa, .ref oa, .ref kw, .ref kv, .ref nk, .ref cc, .str (A c 0), .ref ld, .ref wl, .ref pr]) from putF_next (k := 9) (f := "pivot_rows") (v := .ref pr) rfl [.ref fa, .ref oa, .ref kw, .ref kv, .ref nk, .ref cc, .str (A c 0), .ref ld, .ref wl] rfl]
    obtain ⟨e10, b10, cpr0, l10, g10⟩ := init_new (o := .dK []) (u1 := .ins (c_Grid K) dx ((gnames.take 10).zip [.ref fa, .ref oa, .ref kw, .ref kv, .ref nk, .ref cc, .str (A c 0), .ref ld, .ref wl, .ref pr])) l9 g9 hpr
    generalize upd (upd H9 pr _) ga _ = H10 at e10 b10 cpr0 l10 ⊢
    intro so hso
    refine ⟨_, rfl, ga, _, dx, ((gnames.take 10).zip [.ref fa, .ref oa, .ref kw, .ref kv, .ref nk, .ref cc, .str (A c 0), .ref ld, .ref wl, .ref pr]), rfl, by rw [upd_ne (fun e => by rw [← e, e10] at hso; cases hso)]; exact e10, T.cl_Grid, T.na_Grid_shares_of, by rw [List.length_zip]; exact Nat.lt_of_le_of_lt (Nat.min_le_right _ _) (by show 10 < 1000; omega), ?_⟩
    rw [show putF ("shares_of" : Str) (.ref so) ((gnames.take 10).zip [.ref fa, .ref oa, .ref kw, .ref kv, .ref nk, .ref cc, .str (A c 0), .ref ld, .ref wl, .ref pr]) = ((gnames.take 11).zip [.ref fa, .ref oa, .ref kw, .ref kv, .ref nk, .ref cc, .str (A c 0), .ref ld, .ref wl, .ref pr, .ref so]) from putF_next (k := 10) (f := "shares_of") (v := .ref so) rfl [.ref fa, .ref oa, .ref kw, .ref kv, .ref nk, .ref cc, .str (A c 0), .ref ld, .ref wl, .ref pr] rfl]
    obtain ⟨e11, b11, cso0, l11, g11⟩ := init_new (o := .dK []) (u1 := .ins (c_Grid K) dx ((gnames.take 11).zip [.ref fa, .ref oa, .ref kw, .ref kv, .ref nk, .ref cc, .str (A c 0), .ref ld, .ref wl, .ref pr, .ref so])) l10 g10 hso
    generalize upd (upd H10 so _) ga _ = H11 at e11 b11 cso0 l11 ⊢
    refine ⟨by show 1 ≤ sizeLine; decide, fun gs hgs => ?_⟩
    refine ⟨_, rfl, ga, _, dx, ((gnames.take 11).zip [.ref fa, .ref oa, .ref kw, .ref kv, .ref nk, .ref cc, .str (A c 0), .ref ld, .ref wl, .ref pr, .ref so]), rfl, by rw [upd_ne (fun e => by rw [← e, e11] at hgs; cases hgs)]; exact e11, T.cl_Grid, T.na_Grid_grown_sizes, by rw [List.length_zip]; exact Nat.lt_of_le_of_lt (Nat.min_le_right _ _) (by show 11 < 1000; omega), ?_⟩
    rw [show putF ("grown_sizes" : Str) (.ref gs) ((gnames.take 11).zip [.ref fa, .ref oa, .ref kw, .ref kv, .ref nk, .ref cc, .str (A c 0), .ref ld, .ref wl, .ref pr, .ref so]) = ((gnames.take 12).zip [.ref fa, .ref oa, .ref kw, .ref kv, .ref nk, .ref cc, .str (A c 0), .ref ld, .ref wl, .ref pr, .ref so, .ref gs]) from putF_next (k := 11) (f := "grown_sizes") (v := .ref gs) rfl [.ref fa, .ref oa, .ref kw, .ref kv, .ref nk, .ref cc, .str (A c 0), .ref ld, .ref wl, .ref pr, .ref so] rfl]
    obtain ⟨e12, b12, cgs0, l12, g12⟩ := init_new (o := .lst [.int 0]) (u1 := .ins (c_Grid K) dx ((gnames.take 12).zip [.ref fa, .ref oa, .ref kw, .ref kv, .ref nk, .ref cc, .str (A c 0), .ref ld, .ref wl, .ref pr, .ref so, .ref gs])) l11 g11 hgs
    generalize upd (upd H11 gs _) ga _ = H12 at e12 b12 cgs0 l12 ⊢
    have nkw : kw ≠ ga := fun e => by rw [e, e3] at ckw0; cases ckw0
    have ckw3 := b4 _ _ nkw ckw0
    have ckw4 := b5 _ _ nkw ckw3
    have ckw5 := b6 _ _ nkw ckw4
    have ckw6 := b7 _ _ nkw ckw5
    have ckw7 := b8 _ _ nkw ckw6
    have ckw8 := b9 _ _ nkw ckw7
    have ckw9 := b10 _ _ nkw ckw8
    have ckw10 := b11 _ _ nkw ckw9
    have ckw11 := b12 _ _ nkw ckw10
    have zkw := ckw11
    have nkv : kv ≠ ga := fun e => by rw [e, e4] at ckv0; cases ckv0
    have ckv4 := b5 _ _ nkv ckv0
    have ckv5 := b6 _ _ nkv ckv4
    have ckv6 := b7 _ _ nkv ckv5
    have ckv7 := b8 _ _ nkv ckv6
    have ckv8 := b9 _ _ nkv ckv7
    have ckv9 := b10 _ _ nkv ckv8
    have ckv10 := b11 _ _ nkv ckv9
    have ckv11 := b12 _ _ nkv ckv10
    have zkv := ckv11
    have nnk : nk ≠ ga := fun e => by rw [e, e5] at cnk0; cases cnk0
    have cnk5 := b6 _ _ nnk cnk0
    have cnk6 := b7 _ _ nnk cnk5
    have cnk7 := b8 _ _ nnk cnk6
    have cnk8 := b9 _ _ nnk cnk7
    have cnk9 := b10 _ _ nnk cnk8
    have cnk10 := b11 _ _ nnk cnk9
    have cnk11 := b12 _ _ nnk cnk10
    have znk := cnk11
    have ncc : cc ≠ ga := fun e => by rw [e, e6] at ccc0; cases ccc0
    have ccc6 := b7 _ _ ncc ccc0
    have ccc7 := b8 _ _ ncc ccc6
    have ccc8 := b9 _ _ ncc ccc7
    have ccc9 := b10 _ _ ncc ccc8
    have ccc10 := b11 _ _ ncc ccc9
    have ccc11 := b12 _ _ ncc ccc10
    have zcc := ccc11
    have nld : ld ≠ ga := fun e => by rw [e, e8] at cld0; cases cld0
    have cld8 := b9 _ _ nld cld0
    have cld9 := b10 _ _ nld cld8
    have cld10 := b11 _ _ nld cld9
    have cld11 := b12 _ _ nld cld10
    have zld := cld11
    have nwl : wl ≠ ga := fun e => by rw [e, e9] at cwl0; cases cwl0
    have cwl9 := b10 _ _ nwl cwl0
    have cwl10 := b11 _ _ nwl cwl9
    have cwl11 := b12 _ _ nwl cwl10
    have zwl := cwl11
    have npr : pr ≠ ga := fun e => by rw [e, e10] at cpr0; cases cpr0
    have cpr10 := b11 _ _ npr cpr0
    have cpr11 := b12 _ _ npr cpr10
    have zpr := cpr11
    have nso : so ≠ ga := fun e => by rw [e, e11] at cso0; cases cso0
    have cso11 := b12 _ _ nso cso0
    have zso := cso11
    have ngs : gs ≠ ga := fun e => by rw [e, e12] at cgs0; cases cgs0
    have zgs := cgs0
    have bb : But ga H H12 := (((((((((((b1).trans b2).trans b3).trans b4).trans b5).trans b6).trans b7).trans b8).trans b9).trans b10).trans b11).trans b12
    let D : GD := { dx := dx, fa := fa, oa := oa, ca := ca, kw := kw, kv := kv, nk := nk, cc := cc, ld := ld, wl := wl, pr := pr, so := so, gs := gs, c := c, up := A c 0, kwL := [], kvL := [], gsL := [.int 0], nkD := [], ccD := [], ldD := [], wlD := [], prD := [], soD := [], m := 0, pra := fun _ => 0, sha := fun _ => 0, prL := fun _ => [], shL := fun _ => [], tg := tagL [gs, so, pr, wl, ld, cc, nk, kv, kw, ga, fa, oa, ca] [10, 9, 8, 7, 6, 5, 4, 3, 2, 1, 11, 12, 13] }
    have tg_at : ∀ {b : Addr} {n : Nat} (i : Nat), [gs, so, pr, wl, ld, cc, nk, kv, kw, ga, fa, oa, ca][i]? = some b → ([10, 9, 8, 7, 6, 5, 4, 3, 2, 1, 11, 12, 13] : List Nat)[i]? = some n → D.tg b = n := fun i h1 h2 => tagL_at i l12.1 h1 h2
    refine k0 H12 D ⟨{ ob := e12, gs := zgs, so := zso, pr := zpr, wl := zwl, ld := zld, cc := zcc, nk := znk, kv := zkv, kw := zkw, F := ⟨⟨fdx, bb _ _ (Ne.symm n1) fe⟩, F.six⟩, O := ⟨⟨odx, bb _ _ (Ne.symm n2) oe⟩, bb _ _ (Ne.symm n3) O.co, O.lo, O.hi⟩, t_no := fun a e => tagL_no fun z => l12.2 a z e, t_gs := tg_at 0 rfl rfl, t_so := tg_at 1 rfl rfl, t_pr := tg_at 2 rfl rfl, t_wl := tg_at 3 rfl rfl, t_ld := tg_at 4 rfl rfl, t_cc := tg_at 5 rfl rfl, t_nk := tg_at 6 rfl rfl, t_kv := tg_at 7 rfl rfl, t_kw := tg_at 8 rfl rfl, t_ga := tg_at 9 rfl rfl, t_fa := tg_at 10 rfl rfl, t_oa := tg_at 11 rfl rfl, t_ca := tg_at 12 rfl rfl }, fun i h => absurd h (by show ¬ i < 0; omega), fun i h => absurd h (by show ¬ i < 0; omega), fun i h => absurd h (by show ¬ i < 0; omega), fun i h => absurd h (by show ¬ i < 0; omega)⟩ rfl rfl rfl rfl rfl rfl rfl rfl rfl rfl rfl rfl rfl rfl rfl fun a u a1 a2 a3 a4 ea => ⟨bb _ _ a1 ea, tagL_no fun z => ?_⟩
    simp only [List.mem_cons, List.not_mem_nil, or_false] at z
    rcases z with z | z | z | z | z | z | z | z | z | z | z | z | z
    · have q := b11 _ _ a1 (b10 _ _ a1 (b9 _ _ a1 (b8 _ _ a1 (b7 _ _ a1 (b6 _ _ a1 (b5 _ _ a1 (b4 _ _ a1 (b3 _ _ a1 (b2 _ _ a1 (b1 _ _ a1 (ea)))))))))))
      rw [z, hgs] at q; cases q
    · have q := b10 _ _ a1 (b9 _ _ a1 (b8 _ _ a1 (b7 _ _ a1 (b6 _ _ a1 (b5 _ _ a1 (b4 _ _ a1 (b3 _ _ a1 (b2 _ _ a1 (b1 _ _ a1 (ea))))))))))
      rw [z, hso] at q; cases q
    · have q := b9 _ _ a1 (b8 _ _ a1 (b7 _ _ a1 (b6 _ _ a1 (b5 _ _ a1 (b4 _ _ a1 (b3 _ _ a1 (b2 _ _ a1 (b1 _ _ a1 (ea)))))))))
      rw [z, hpr] at q; cases q
    · have q := b8 _ _ a1 (b7 _ _ a1 (b6 _ _ a1 (b5 _ _ a1 (b4 _ _ a1 (b3 _ _ a1 (b2 _ _ a1 (b1 _ _ a1 (ea))))))))
      rw [z, hwl] at q; cases q
    · have q := b7 _ _ a1 (b6 _ _ a1 (b5 _ _ a1 (b4 _ _ a1 (b3 _ _ a1 (b2 _ _ a1 (b1 _ _ a1 (ea)))))))
      rw [z, hld] at q; cases q
    · have q := b5 _ _ a1 (b4 _ _ a1 (b3 _ _ a1 (b2 _ _ a1 (b1 _ _ a1 (ea)))))
      rw [z, hcc] at q; cases q
    · have q := b4 _ _ a1 (b3 _ _ a1 (b2 _ _ a1 (b1 _ _ a1 (ea))))
      rw [z, hnk] at q; cases q
    · have q := b3 _ _ a1 (b2 _ _ a1 (b1 _ _ a1 (ea)))
      rw [z, hkv] at q; cases q
    · have q := b2 _ _ a1 (b1 _ _ a1 (ea))
      rw [z, hkw] at q; cases q
    · exact a1 z
    · exact a2 z
    · exact a3 z
    · exact a4 z

end
end Fa

namespace Fa
open PySem PySem.Spec L2
theorem ccAt_put {c n k : Nat} (hk : k ≤ n) : putK (ccAt c n k) (aK c k) (.int ((n - k : Nat) + 1 : Int)) = ccAt c n (k + 1) := by
  unfold ccAt
  rw [if_pos hk]
  by_cases h : k < n
  · rw [dG_put (aK_injs _ _) h, if_pos (by omega)]
    refine dG_congr fun i hi => ⟨rfl, ?_⟩
    by_cases e : i = k
    · rw [if_pos e, if_pos (by omega)]
      congr 1; omega
    · rw [if_neg e]
      by_cases h2 : i < k
      · rw [if_pos h2, if_pos (by omega)]
      · rw [if_neg h2, if_neg (by omega)]
  · have e : k = n := by omega
    subst e
    rw [dG_new fun i hi z => by have := aK_inj z; omega, if_neg (by omega)]
    refine dG_congr fun i hi => ⟨rfl, ?_⟩
    by_cases e : i = k
    · rw [if_pos e, if_pos (by omega)]
      congr 1; omega
    · rw [if_neg e, if_pos (by omega), if_pos (by omega)]
theorem ccAt_at {n k : Nat} (hk : k ≤ n) : Counts.at (if k ≤ n then n else n + 1) (fun j => if j < k then n + 1 - j else n - j) k = n - k := by
  unfold Counts.at
  rw [if_pos hk]
  by_cases h : k < n
  · rw [if_pos h]
    show (if k < k then n + 1 - k else n - k) = n - k
    rw [if_neg (by omega)]
  · rw [if_neg h]; omega
theorem Known.same {p : Nat} [NeZero p] {D D' : GD} {s : Nat → _root_.Fin p} {n : Nat} (k : Known D s n) (h1 : D'.kwL = D.kwL) (h2 : D'.kvL = D.kvL) (h3 : D'.nkD = D.nkD) (h4 : D'.c = D.c) : Known D' s n :=
  ⟨by rw [h1, h4]; exact k.kw, by rw [h2]; exact k.kv, by rw [h3, h4]; exact k.nk, k.le⟩
section
variable {P : Program} {w : World} {K : PySem.W.Frag} {mg : Str → Option Value} {base : Heap}
theorem ok_Grid_extend (T : TX K mg) : FnOk P w K mg base CX0 3 (a_Grid_extend K) (d_ K (a_Grid_extend K)) ["self", "word"] (sp_Grid_extend K) := by
  refine T.F_Grid_extend.ok sc_Grid_extend (fun vs H Q E h => ?_) (fun cdv Ar outer s0 H vs Q E hr h => ?_)
  · (repeat (obtain ⟨_, h⟩ := h)); subst_vars; rfl
  · obtain ⟨ga, D, p, nz, s, n, L, lead, sh, rfl, G, N, C, B, R, ⟨hL, hn, hsh⟩, k0⟩ := h
    have hu := hu_of hr
    refine ⟨_, (pss_one (ps_for PassesOwn.never rfl (pi_range1 rfl T.n_range (pa_cons (pe_op op_add (pe_callB call_len_str (by rfl) T.n_len (by decide +kernel) (pa_cons (pv 1) pa_nil)) pe_int) pa_nil)) (pg_name (i := 2) sc_Grid_extend.nd rfl (Or.inl rfl)) (pss_cons (ps_set (i := 3) sc_Grid_extend.nd rfl (Or.inl rfl) (pe_slice sl_str (pv 1) po_none (po_some (pv 2))))
      (pss_cons (ps_dput (by exact hu) (pe_fldK (K := K) rfl (pv 0) (by rfl)) (pv 3) (pe_op op_add (pe_meth (pv 0) T.cl_Grid T.mt_Grid_column_count (ok_Grid_column_count T) (by exact hr.mono (by decide)) T.b_Grid_column_count .nil pass0 (pa_cons (pv 3) pa_nil)) pe_int) rfl)
      (pss_one (ps_if (pt_cmp (pc_din (by exact hu) (pv 3) (pe_fldK (K := K) rfl (pv 0) (by rfl)))) (pss_one (ps_expr (pe_bm PySem.F.plainAttrs_list PySem.F.slot_list_append PySem.F.type_list_append mt_append (pe_dget (by exact hu) (pe_fldK (K := K) rfl (pv 0) (by rfl)) (pv 3) (fun _ _ => rfl)) (pa_cons (pe_meth (pv 0) T.cl_Grid T.mt_Grid_pivot_value (ok_Grid_pivot_value T) (by exact hr.mono (by decide)) T.b_Grid_pivot_value .nil pass0 (pa_cons (pv 3) (pa_cons (pe_slice sl_str (pv 1) (po_some (pv 2)) po_none) pa_nil))) pa_nil)))) pss_nil)))))), ?_⟩
    refine ⟨_, rfl, _, rfl, by rw [A_len]; exact sz _ (by omega), _, _, rfl, rfl, _, rfl, by rw [A_len]; omega, by rw [A_len]; omega, ?_⟩
    rw [A_len]
    have e1 : ((n : Int) + 1).toNat = n + 1 := by omega
    rw [e1]
    refine for_range (n := n + 1) (fun k σ H1 => ∃ (pl : Nat → List V) (v2 v3 : Option V), σ = [some (.ref ga), some (.str (A D.c n)), v2, v3] ∧ Fr D.tg H H1 ∧ GridHas K H1 ga p { D with ccD := ccAt D.c n k, prL := pl } ∧
      ∀ i, i < L → pl i = rowV (if i < k then n + 1 - i else n - i) fun c => Mx.piv s (sh i) c) ⟨D.prL, none, none, rfl, Fr.of (Same.refl _), ?_, fun i hi => ?_⟩ (fun k σ H1 hk pv => ?_) (fun σ H1 pv => ?_)
    · have e : ccAt D.c n 0 = D.ccD := by
        rw [show D.ccD = _ from C]
        unfold ccAt
        rw [if_pos (Nat.zero_le _)]
        exact dG_congr fun i hi => ⟨rfl, by rw [if_neg (by omega)]⟩
      rw [e]
      exact G
    · rw [if_neg (by omega)]; exact R i hi
    · obtain ⟨pl, v2, v3, rfl, f1, G1, hpl⟩ := pv
      have hk' : k ≤ n := by omega
      have el : (0 : Int) + (k : Int) = ((k : Nat) : Int) := by omega
      refine ⟨_, rfl, _, rfl, _, rfl, _, rfl, by rw [A_len]; exact sz _ (by omega), ?_⟩
      rw [el, cut_pre _ _ _ hk']
      -- self.column_counts[prefix] = self.column_count(prefix) + 1
      refine ⟨_, rfl, ga, D.dx, _, rfl, G1.ob, no_grid (by decide +kernel), _, rfl, ga, { D with ccD := ccAt D.c n k, prL := pl }, p, (if k ≤ n then n else n + 1), k, (fun j => if j < k then n + 1 - j else n - j), rfl, G1.toGridCore, rfl, ?_⟩
      rw [ccAt_at hk']
      refine ⟨_, _, rfl, rfl, ?_⟩
      refine ⟨_, rfl, ga, _, D.dx, _, _, rfl, G1.ob, T.cl_Grid, T.na_Grid_column_counts, gf_column_counts _, _, rfl, D.cc, _, rfl, DPut.k (k := aK D.c k) G1.cc ?_, ?_⟩
      · show (ccAt D.c n k).length < sizeLine
        unfold ccAt
        rw [dG_len]
        split <;> exact szl _ (by omega)
      · show _
        have e2 := ccAt_put (c := D.c) hk'
        have G2 := G1.set_cc (ccAt D.c n (k + 1))
        have G2 : GridHas K (upd H1 D.cc (.dK (ccAt D.c n (k + 1)))) ga p { D with ccD := ccAt D.c n (k + 1), prL := pl } := G2
        have f2 : Fr D.tg H (upd H1 D.cc (.dK (ccAt D.c n (k + 1)))) := f1.put (by rw [G.t_cc]; omega)
        rw [show putK ({ D with ccD := ccAt D.c n k, prL := pl } : GD).ccD (aK D.c k) (V.int (((n - k : Nat) : Int) + 1)) = ccAt D.c n (k + 1) from e2]
        have g := DGet.k (k := aK D.c k) G2.ld
        rw [B.ld] at g
        refine ⟨_, rfl, _, rfl, ga, _, D.dx, _, _, rfl, G2.ob, T.cl_Grid, T.na_Grid_leads, gf_leads _, D.ld, _, rfl, g, ?_⟩
        by_cases hkL : k < L
        · rw [dG_get (aK_injs _ _) hkL]
          have hm : k < D.m := by rw [B.mL]; exact hkL
          have g2 := DGet.k (k := aK D.c k) G2.pr
          rw [B.pr, dG_get (aK_injs _ _) hkL] at g2
          have hrow := G2.prs k hm
          refine ⟨_, rfl, iteT ?_⟩
          refine ⟨_, rfl, ga, _, D.dx, _, _, rfl, G2.ob, T.cl_Grid, T.na_Grid_pivot_rows, gf_pivot_rows _, _, rfl, D.pr, _, rfl, g2, .inl ⟨rfl, _, SqL.of hrow⟩, _, rfl, ga, D.dx, _, rfl, G2.ob, no_grid (by decide +kernel), _, rfl, _, rfl, _, rfl, _, rfl, _, rfl, by rw [A_len]; exact sz _ (by omega), ?_⟩
          rw [cut_suf _ _ _ hk']
          have B2 : Basis { D with ccD := ccAt D.c n (k + 1), prL := pl } L lead sh := B.same rfl rfl rfl rfl rfl rfl rfl rfl rfl
          have N2 : Known { D with ccD := ccAt D.c n (k + 1), prL := pl } s (n + 1) := N.same rfl rfl rfl rfl
          refine ⟨ga, { D with ccD := ccAt D.c n (k + 1), prL := pl }, p, nz, s, n + 1, L, k, n - k, lead, sh, rfl, G2, N2, B2, ⟨hkL, fun q hq => by have := hsh k hkL q hq; omega⟩, fun H3 s3 => ?_⟩
          have G3 := G2.same s3
          have hpk := hpl k hkL
          rw [if_neg (by omega)] at hpk
          refine ⟨D.pra k, pl k, _, rfl, rfl, s3 _ _ hrow, ?_, ?_⟩
          · rw [hpk, rowV_len]; exact szl _ (by omega)
          · refine ⟨fun i => if i = k then pl k ++ [fv (Mx.piv s (sh k) (n - k))] else pl i, _, _, rfl, (f2.trans (Fr.of s3)).put (by rw [G.t_pra k hm]; omega), G3.set_row k hm _, fun i hi => ?_⟩
            show (if i = k then pl k ++ [fv (Mx.piv s (sh k) (n - k))] else pl i) = _
            by_cases e : i = k
            · subst e
              rw [if_pos rfl, if_pos (by omega), hpk, show n + 1 - i = (n - i) + 1 by omega, rowV_succ]
            · rw [if_neg e, hpl i hi]
              by_cases h2 : i < k
              · rw [if_pos h2, if_pos (by omega)]
              · rw [if_neg h2, if_neg (by omega)]
        · rw [dG_none fun i hi e => hkL (by rw [← aK_inj e]; exact hi)]
          refine ⟨_, rfl, iteF ⟨pl, _, _, rfl, f2, G2, fun i hi => ?_⟩⟩
          rw [hpl i hi, if_pos (by omega), if_pos (by omega)]
    · obtain ⟨pl, v2, v3, rfl, f1, G1, hpl⟩ := pv
      exact k0 H1 pl f1 G1 fun i hi => by rw [hpl i hi, if_pos (by omega)]
end
end Fa

namespace Fa
open PySem PySem.Spec L2
theorem okV_words (c n L : Nat) (h : c ≤ 122) : ∀ v ∈ forcedV c n L, okV v = true := fun v hv => by
  obtain ⟨i, _, rfl⟩ := List.mem_map.mp hv
  exact strOk_A c (L + i) h
theorem forcedV_len (c n L : Nat) : (forcedV c n L).length = n + 1 - 2 * L := by unfold forcedV; rw [List.length_map, List.length_range]
theorem forcedV_get {c n L i : Nat} (h : i < n + 1 - 2 * L) : (forcedV c n L)[i]? = some (.str (A c (L + i))) := by unfold forcedV; rw [List.getElem?_map, List.getElem?_range h]; rfl
section
variable {p : Nat} [NeZero p]
def shN (sh : Nat → List (Nat × _root_.Fin p)) (L : Nat) (hh : Nat → List (Nat × _root_.Fin p)) : Nat → List (Nat × _root_.Fin p) := fun i => if i < L then sh i else Mx.negL (hh (i - L)) ++ [(i, 1)]
structure Joins (D : GD) (s : Nat → _root_.Fin p) (n L T : Nat) (fa : Nat → Addr) (hh : Nat → List (Nat × _root_.Fin p)) (H : Hp) : Prop where
  at_ : ∀ k, k < T → H (fa k) = some (.dK (shD D.c (Mx.negL (hh k) ++ [(L + k, 1)])))
  lt : ∀ k, k < T → ∀ q ∈ hh k, q.1 < L
  sum : ∀ k, k < T → ∀ c, c < n - (L + k) → s (L + k + c) = Mx.sumL (hh k) fun i => s (i + c)
  inj : ∀ k k', k < T → k' < T → fa k = fa k' → k = k'
theorem Joins.same {D : GD} {s : Nat → _root_.Fin p} {n L T : Nat} {fa : Nat → Addr} {hh : Nat → List (Nat × _root_.Fin p)} {H H' : Hp} (j : Joins D s n L T fa hh H) (f : ∀ k, k < T → H' (fa k) = H (fa k)) : Joins D s n L T fa hh H' := ⟨fun k hk => (f k hk).trans (j.at_ k hk), j.lt, j.sum, j.inj⟩
/-- a new pivot row -/
theorem joined_row {s : Nat → _root_.Fin p} {n L j : Nat} {C : Nat → _root_.Fin p} {h : List (Nat × _root_.Fin p)} (r : Mx.Rule s n L C) (h1 : L ≤ j) (h2 : j + L ≤ n) (hh : ∀ q ∈ h, q.1 < L) (hs : ∀ c, c < n - j → s (j + c) = Mx.sumL h fun k => s (k + c)) :
    (List.replicate (n - j) [V.int 0]).flatten ++ [fv (Mx.conv C s n)] = rowV (n + 1 - j) fun c => Mx.piv s (Mx.negL h ++ [(j, 1)]) c := by
  have hp : ∀ c, Mx.piv s (Mx.negL h ++ [(j, 1)]) c = s (j + c) - Mx.sumL h fun k => s (k + c) := fun c => by
    unfold Mx.piv
    rw [Mx.sumL_app, Mx.sumL_neg]
    show -(Mx.sumL h fun k => s (k + c)) + (1 * s (j + c) + 0) = _
    grind
  rw [show n + 1 - j = (n - j) + 1 by omega, rowV_succ, hp]
  have e := Mx.forced_is r h1 h2 hh hs
  rw [show j + (n - j) = n by omega, e]
  congr 1
  have z : ∀ m, m ≤ n - j → (List.replicate m [V.int 0]).flatten = rowV m fun c => Mx.piv s (Mx.negL h ++ [(j, 1)]) c := by
    intro m
    induction m with
    | zero => intro _; rfl
    | succ m ih =>
      intro hm
      rw [List.replicate_succ', List.flatten_append, ih (by omega), rowV_succ, hp, hs m (by omega)]
      have : (Mx.sumL h fun k => s (k + m)) - (Mx.sumL h fun k => s (k + m)) = (0 : _root_.Fin p) := by grind
      rw [this, fv_zero]; rfl
  exact z _ (Nat.le_refl _)
def newL (C s : Nat → _root_.Fin p) (n L : Nat) : Nat := if Mx.conv C s n ≠ 0 ∧ 2 * L ≤ n then n + 1 - L else L
end
/-! ### the promise -/
def sp_Grid_take (K : PySem.W.Frag) : Sp := fun vs H Q _ => ∃ (ga : Addr) (D : GD) (p : Nat) (_ : NeZero p) (s : Nat → _root_.Fin p) (n L : Nat) (lead : Nat → Nat) (sh : Nat → List (Nat × _root_.Fin p)) (C C' : Nat → _root_.Fin p), vs = [.ref ga, fv (s n)] ∧
  GridHas K H ga p D ∧ Std D s n L lead sh ∧ Mx.Rule s n L C ∧ Mx.Rule s (n + 1) (newL C s n L) C' ∧ (n < 100 ∧ D.gsL.length ≤ 1000) ∧
  ∀ H' (D' : GD) (lead' : Nat → Nat) (sh' : Nat → List (Nat × _root_.Fin p)), GridHas K H' ga p D' → Std D' s (n + 1) (newL C s n L) lead' sh' → D'.gsL = D.gsL ++ [.int ((newL C s n L : Nat) : Int)] → D'.c = D.c →
    (∀ a u, D.tg a = 0 → H a = some u → H' a = some u ∧ D'.tg a = 0) → Q .non H'
section
variable {P : Program} {w : World} {K : PySem.W.Frag} {mg : Str → Option Value} {base : Heap}
theorem ok_Grid_take (T : TX K mg) : FnOk P w K mg base CX0 7 (a_Grid_take K) (d_ K (a_Grid_take K)) ["self", "number"] (sp_Grid_take K) := by
  refine T.F_Grid_take.ok sc_Grid_take (fun vs H Q E h => ?_) (fun cdv Ar outer s0 H vs Q E hr h => ?_)
  · (repeat (obtain ⟨_, h⟩ := h)); subst_vars; rfl
  · obtain ⟨ga, D, p, nz, s, n, L, lead, sh, C, C', rfl, G, S, hC, hC', ⟨hn, hgs⟩, k0⟩ := h
    have hu := hu_of hr
    refine ⟨_, (pss_cons (ps_par (i := 2) (j := 3) (by rfl) sc_Grid_take.nd rfl rfl (by decide) rfl rfl (pa_cons (pe_fldK (K := K) rfl (pv 0) (by rfl)) (pa_cons (pe_meth0 (pv 0) T.cl_Grid T.mt_Grid_forced_prefixes (ok_Grid_forced_prefixes T) (by exact hr.mono (by decide)) T.b_Grid_forced_prefixes .nil pass0) pa_nil)) (by rfl))
      (pss_cons (ps_set (i := 4) sc_Grid_take.nd rfl (Or.inl rfl) pe_dnewK)
      (Evl.pss_cut (ps_if (pt_cmpR (op_neNil (by exact hr.units)) (pv 3) (pe_lst pa_nil) (nomark _)) (pss_cons (ps_set (i := 5) sc_Grid_take.nd rfl (Or.inl rfl) (pe_meth (pe_fldK (K := K) rfl (pv 0) (by rfl)) T.cl_Modulo T.mt_Modulo_subtract (ok_Field_subtract T) (by exact hr.mono (by decide)) T.b_Field_subtract .nil pass0 (pa_cons (pv 1) (pa_cons (pe_meth (pv 0) T.cl_Grid T.mt_Grid_forced_number (ok_Grid_forced_number T) (by exact hr.mono (by decide)) T.b_Grid_forced_number .nil pass0 (pa_cons (pe_ix (ix_listK (K := K) rfl) (pv 3) pe_int (fun _ _ => rfl)) pa_nil)) pa_nil))))
      (pss_one (ps_if (pt_cmpR op_ne (pv 5) pe_int (nomark _)) (pss_one (ps_setDc (i := 4) (by rfl) sc_Grid_take.nd (by rfl) (by rfl) (sw_trueD rfl rfl rfl (by decide +kernel)) (g := gName 6) (pi_list (pv 3)) (own := [("prefix", 6)]) (blkOk_by (own := [("prefix", 6)]) (N := N_Grid_take) (sc := defScope s_Grid_take) (by decide +kernel)) (by intro _ _ _ _ _; exact (pg_name (i := 6) sc_Grid_take.nd rfl (Or.inl rfl))) (fun _ _ _ _ _ => pts_nil) (by intro _ _ _ _ _; exact (pv 6)) (by intro _ _ _ _ _; exact (pe_meth (pv 0) T.cl_Grid T.mt_Grid_joined_shares (ok_Grid_joined_shares T) (by exact hr.mono (by decide)) T.b_Grid_joined_shares .nil pass0 (pa_cons (pv 6) pa_nil))))) pss_nil))) pss_nil)
      (pss_cons (ps_dput (by exact hu) (pe_fldK (K := K) rfl (pv 0) (by rfl)) (pv 2) (pe_callB call_len_seq (by rfl) T.n_len (by decide +kernel) (pa_cons (pe_fldK (K := K) rfl (pv 0) (by rfl)) pa_nil)) rfl)
      (pss_cons (ps_expr (pe_bm PySem.F.plainAttrs_list PySem.F.slot_list_append PySem.F.type_list_append mt_append (pe_fldK (K := K) rfl (pv 0) (by rfl)) (pa_cons (pv 2) pa_nil)))
      (pss_cons (ps_expr (pe_bm PySem.F.plainAttrs_list PySem.F.slot_list_append PySem.F.type_list_append mt_append (pe_fldK (K := K) rfl (pv 0) (by rfl)) (pa_cons (pv 1) pa_nil)))
      (pss_cons (ps_expr (pe_meth (pv 0) T.cl_Grid T.mt_Grid_extend (ok_Grid_extend T) (by exact hr.mono (by decide)) T.b_Grid_extend .nil pass0 (pa_cons (pv 2) pa_nil)))
      (pss_cons (ps_lock (ps_for PassesOwn.never rfl (pi_items (pv 4)) (pg_tup (by rfl) (pgs_cons (pg_name (i := 6) sc_Grid_take.nd rfl (Or.inl rfl)) (pgs_cons (pg_name (i := 7) sc_Grid_take.nd rfl (Or.inl rfl)) pgs_nil))) (pss_cons (ps_set (i := 8) sc_Grid_take.nd rfl (Or.inl rfl) (pe_op op_sub (pe_meth (pv 0) T.cl_Grid T.mt_Grid_column_count (ok_Grid_column_count T) (by exact hr.mono (by decide)) T.b_Grid_column_count .nil pass0 (pa_cons (pv 6) pa_nil)) pe_int))
      (pss_cons (ps_dput (by exact hu) (pe_fldK (K := K) rfl (pv 0) (by rfl)) (pv 6) (pv 8) rfl)
      (pss_cons (ps_dput (by exact hu) (pe_fldK (K := K) rfl (pv 0) (by rfl)) (pv 8) (pv 6) rfl)
      (pss_cons (ps_dput (by exact hu) (pe_fldK (K := K) rfl (pv 0) (by rfl)) (pv 6) (pv 7) rfl)
      (pss_one (ps_dput (by exact hu) (pe_fldK (K := K) rfl (pv 0) (by rfl)) (pv 6) (pe_op op_cat (pe_op op_rep (pe_lst (pa_cons pe_int pa_nil)) (pv 8)) (pe_lst (pa_cons (pv 5) pa_nil))) rfl))))))))
      (pss_cons (ps_expr (pe_bm PySem.F.plainAttrs_list PySem.F.slot_list_append PySem.F.type_list_append mt_append (pe_fldK (K := K) rfl (pv 0) (by rfl)) (pa_cons (pe_callB call_lenD (by rfl) T.n_len (by decide +kernel) (pa_cons (pe_fldK (K := K) rfl (pv 0) (by rfl)) pa_nil)) pa_nil)))
      (pss_one (ps_fld (pv 0) (pe_meth (pe_fldK (K := K) rfl (pv 0) (by rfl)) T.cl_Order T.mt_Order_after (ok_Order_after T) (by exact hr.mono (by decide)) T.b_Order_after .nil pass0 (pa_cons (pv 2) pa_nil)) rfl))))))))))), ?_⟩
    have hLn := hC.le
    obtain ⟨fdx, fe⟩ := G.F.ob
    refine ⟨_, rfl, ga, _, D.dx, _, _, rfl, G.ob, T.cl_Grid, T.na_Grid_upcoming, gf_upcoming D, _, rfl, ga, D.dx, _, rfl, G.ob, no_grid (by decide +kernel), ga, D, p, nz, s, n, L, lead, sh, rfl, G, S, fun F H1 hF s1 hlF => ?_⟩
    refine ⟨_, _, rfl, fun J0 hJ0 => ?_⟩
    rw [S.up]
    have S2 : Same H (upd H1 J0 (.dK [])) := s1.trans (Same.new hJ0)
    have hlF2 : upd H1 J0 (.dK []) F = some (.lst (forcedV D.c n L)) := (Same.new hJ0) _ _ hlF
    have hJ0' : H J0 = none := s1.free hJ0
    refine ⟨fun σ H3 => ∃ (J : Addr) (v5 : Option V) (T : Nat) (fa : Nat → Addr) (hh : Nat → List (Nat × _root_.Fin p)), σ = [some (.ref ga), some (fv (s n)), some (.str (A D.c n)), some (.ref F), some (.ref J), v5, none, none, none] ∧
      Same H H3 ∧ H J = none ∧ H3 J = some (.dK (dG T (fun k => aK D.c (L + k)) fun k => .ref (fa k))) ∧ Joins D s n L T fa hh H3 ∧ (∀ k, k < T → H (fa k) = none ∧ fa k ≠ J) ∧ L + T = newL C s n L ∧
      (0 < T → v5 = some (fv (Mx.conv C s n)) ∧ Mx.conv C s n ≠ 0 ∧ 2 * L ≤ n), ?_, ?_⟩
    · -- the forced prefixes
      refine ⟨_, rfl, by show 0 ≤ sizeLine; exact Nat.zero_le _, fun q hq => ?_⟩
      have S3 : Same H (upd (upd H1 J0 (.dK [])) q (.lst [])) := S2.trans (Same.new hq)
      have hlF3 : upd (upd H1 J0 (.dK [])) q (.lst []) F = some (.lst (forcedV D.c n L)) := (Same.new hq) _ _ hlF2
      have hJ3 : upd (upd H1 J0 (.dK [])) q (.lst []) J0 = some (.dK []) := (Same.new hq) _ _ upd_same
      refine ⟨F, q, forcedV D.c n L, rfl, rfl, SqL.of hlF3, SqL.of upd_same, okV_words _ _ _ G.O.hi, _, rfl, ?_⟩
      have none_ : ∀ (v5 : Option V) {Hx : Hp}, Same H Hx → Hx J0 = some (.dK []) → newL C s n L = L → ∃ (J : Addr) (v5' : Option V) (T : Nat) (fa : Nat → Addr) (hh : Nat → List (Nat × _root_.Fin p)), [some (V.ref ga), some (fv (s n)), some (.str (A D.c n)), some (.ref F), some (.ref J0), v5, none, none, none] = [some (.ref ga), some (fv (s n)), some (.str (A D.c n)), some (.ref F), some (.ref J), v5', none, none, none] ∧
          Same H Hx ∧ H J = none ∧ Hx J = some (.dK (dG T (fun k => aK D.c (L + k)) fun k => .ref (fa k))) ∧ Joins D s n L T fa hh Hx ∧ (∀ k, k < T → H (fa k) = none ∧ fa k ≠ J) ∧ L + T = newL C s n L ∧
          (0 < T → v5' = some (fv (Mx.conv C s n)) ∧ Mx.conv C s n ≠ 0 ∧ 2 * L ≤ n) := fun v5 Hx sx hx e => ⟨J0, v5, 0, fun _ => 0, fun _ => [], rfl, sx, hJ0', hx, ⟨fun k hk => absurd hk (by omega), fun k hk => absurd hk (by omega), fun k hk => absurd hk (by omega), fun k _ hk => absurd hk (by omega)⟩, fun k hk => absurd hk (by omega), by rw [e]; rfl, fun h => absurd h (by omega)⟩
      by_cases h2L : 2 * L ≤ n
      · have hne : (!(forcedV D.c n L).isEmpty) = true := by
          cases hf : forcedV D.c n L with
          | nil =>
            have := forcedV_len D.c n L
            rw [hf] at this
            simp at this
            omega
          | cons _ _ => rfl
        rw [hne]
        refine iteT ?_
        have G3 := G.same S3
        obtain ⟨fdx3, fe3⟩ := G3.F.ob
        refine ⟨_, rfl, ga, _, D.dx, _, _, rfl, G3.ob, T.cl_Grid, T.na_Grid_own_field, gf_own_field D, D.fa, fdx3, _, rfl, fe3, no_field (by decide +kernel), _, rfl, _, rfl, ga, D.dx, _, rfl, G3.ob, no_grid (by decide +kernel), _, rfl, F, _, 0, .str (A D.c (L + 0)), rfl, rfl, SqL.of hlF3, at_of (j := 0) rfl (forcedV_get (by omega)), ga, D, p, nz, s, n, L, L, lead, sh, C, rfl, G3, S, ⟨Nat.le_refl _, by omega⟩, hC, fun H4 s4 => ?_⟩
        have S4 := S3.trans s4
        have G4 := G.same S4
        refine ⟨D.fa, p, nz, s n, _, rfl, G4.F, ?_⟩
        have esub : s n - (s n - Mx.conv C s n) = Mx.conv C s n := by grind
        rw [esub]
        have hJ4 := s4 _ _ hJ3
        have hlF4 := s4 _ _ hlF3
        refine ⟨_, rfl, rfl, _, rfl, ?_⟩
        rw [fv_is0]
        by_cases hc0 : Mx.conv C s n = 0
        · rw [decide_eq_true hc0]
          refine iteF (none_ _ S4 hJ4 ?_)
          unfold newL
          rw [if_neg fun z => z.1 hc0]
        · rw [decide_eq_false hc0]
          refine iteT ?_
          refine ⟨_, rfl, F, rfl, ⟨_, SqL.of hlF4⟩, fun J hJ => ?_⟩
          have hcG := G4.O.hi
          refine dc_it (walk_list (K := K) (a := F) (xs := forcedV D.c n L)) (fun t H5 => Same H4 H5 ∧ ∃ (fa : Nat → Addr) (hh : Nat → List (Nat × _root_.Fin p)), H5 J = some (.dK (dG t (fun k => aK D.c (L + k)) fun k => .ref (fa k))) ∧ Joins D s n L t fa hh H5 ∧ ∀ k, k < t → H4 (fa k) = none ∧ fa k ≠ J)
            ⟨Same.new hJ, fun _ => 0, fun _ => [], upd_same, ⟨fun k hk => absurd hk (by omega), fun k hk => absurd hk (by omega), fun k hk => absurd hk (by omega), fun k _ hk => absurd hk (by omega)⟩, fun k hk => absurd hk (by omega)⟩ (fun t H5 _ pv => SqL.of (pv.1 _ _ hlF4)) (fun t x H5 H6 ht pv y => ?_) (fun H5 pv => ?_)
          · obtain ⟨s5, fa, hh, hJ5, jn, hfa⟩ := pv
            obtain ⟨rfl, hx⟩ := y
            rw [forcedV_len] at ht
            rw [forcedV_get ht] at hx
            obtain rfl := (Option.some.inj hx).symm
            have G5 := G4.same s5
            refine ⟨rfl, _, rfl, _, rfl, ga, D.dx, _, rfl, G5.ob, no_grid (by decide +kernel), _, rfl, ga, D, p, nz, s, n, L, L + t, lead, sh, rfl, G5, S, ⟨by omega, by omega⟩, fun R H6 h hR s6 hD hlt hsum => ?_⟩
            have hRJ : R ≠ J := fun e => by rw [e, hJ5] at hR; cases hR
            have hfR : ∀ k, k < t → fa k ≠ R := fun k hk e => by
              have := jn.at_ k hk
              rw [e, hR] at this; cases this
            refine ⟨_, aK D.c (L + t), rfl, s6 _ _ hJ5, by rw [dG_len]; exact szl _ (by omega), (s5.trans s6).put hJ, fun k => if k = t then R else fa k, fun k => if k = t then h else hh k, ?_, ⟨fun k hk => ?_, fun k hk => ?_, fun k hk => ?_, fun k k' hk hk' e => ?_⟩, fun k hk => ?_⟩
            · rw [upd_same, dG_new (ky := fun k => aK D.c (L + k)) fun i hi e => by have := aK_inj e; omega]
              congr 2
              refine dG_congr fun i hi => ⟨rfl, ?_⟩
              show (if i = t then V.ref R else V.ref (fa i)) = V.ref (if i = t then R else fa i)
              by_cases e : i = t
              · rw [if_pos e, if_pos e]
              · rw [if_neg e, if_neg e]
            · show upd H6 J _ (if k = t then R else fa k) = some (.dK (shD D.c (Mx.negL (if k = t then h else hh k) ++ [(L + k, 1)])))
              by_cases e : k = t
              · subst e
                rw [if_pos rfl, if_pos rfl, upd_ne hRJ]; exact hD
              · rw [if_neg e, if_neg e, upd_ne (hfa k (by omega)).2]
                exact s6 _ _ (jn.at_ k (by omega))
            · show ∀ q ∈ (if k = t then h else hh k), q.1 < L
              by_cases e : k = t
              · rw [if_pos e]; exact hlt
              · rw [if_neg e]; exact jn.lt k (by omega)
            · show ∀ c, c < n - (L + k) → s (L + k + c) = Mx.sumL (if k = t then h else hh k) fun i => s (i + c)
              by_cases e : k = t
              · subst e
                rw [if_pos rfl]; exact hsum
              · rw [if_neg e]; exact jn.sum k (by omega)
            · replace e : (if k = t then R else fa k) = (if k' = t then R else fa k') := e
              by_cases e1 : k = t
              · by_cases e2 : k' = t
                · omega
                · rw [if_pos e1, if_neg e2] at e
                  exact absurd e.symm (hfR k' (by omega))
              · by_cases e2 : k' = t
                · rw [if_neg e1, if_pos e2] at e
                  exact absurd e (hfR k (by omega))
                · rw [if_neg e1, if_neg e2] at e
                  exact jn.inj k k' (by omega) (by omega) e
            · show H4 (if k = t then R else fa k) = none ∧ (if k = t then R else fa k) ≠ J
              by_cases e : k = t
              · rw [if_pos e]; exact ⟨s5.free hR, hRJ⟩
              · rw [if_neg e]; exact hfa k (by omega)
          · obtain ⟨s5, fa, hh, hJ5, jn, hfa⟩ := pv
            rw [forcedV_len] at hJ5 jn hfa
            refine ⟨J, some (fv (Mx.conv C s n)), n + 1 - 2 * L, fa, hh, rfl, S4.trans s5, S4.free hJ, hJ5, jn, fun k hk => ⟨S4.free (hfa k hk).1, (hfa k hk).2⟩, ?_, fun _ => ⟨rfl, hc0, h2L⟩⟩
            unfold newL
            rw [if_pos ⟨hc0, h2L⟩]
            omega
      · have hnil : forcedV D.c n L = [] := by
          unfold forcedV
          rw [show n + 1 - 2 * L = 0 by omega]; rfl
        rw [hnil]
        refine iteF (none_ none S3 hJ3 ?_)
        unfold newL
        rw [if_neg fun z => h2L z.2]
    · rintro σ H3 ⟨J, v5, Tn, fa, hh, rfl, S3, hJ0, hJ3, jn, hfa, hTn, hpos⟩
      have G3 := G.same S3
      have tJ : D.tg J = 0 := G.t_no J hJ0
      have tfa : ∀ k, k < Tn → D.tg (fa k) = 0 := fun k hk => G.t_no _ (hfa k hk).1
      -- self.number_of_known[word] = len(self.known_words)
      refine ⟨_, rfl, ga, _, D.dx, _, _, rfl, G3.ob, T.cl_Grid, T.na_Grid_known_words, gf_known_words D, D.kw, _, rfl, .inl (SqL.of G3.kw), ?_⟩
      let nk' := putK D.nkD (aK D.c n) (.int (D.kwL.length : Nat))
      have hnk : D.nkD.length = n := by rw [S.known.nk, dG_len]
      refine ⟨_, rfl, ga, _, D.dx, _, _, rfl, G3.ob, T.cl_Grid, T.na_Grid_number_of_known, gf_number_of_known D, _, rfl, D.nk, _, rfl, DPut.k (k := aK D.c n) G3.nk (by rw [hnk]; exact szl _ (by omega)), ?_⟩
      have G4 : GridHas K (upd H3 D.nk (.dK nk')) ga p { D with nkD := nk' } := G3.set_nk nk'
      have f4 : Fr D.tg H3 (upd H3 D.nk (.dK nk')) := (Fr.of (Same.refl _)).put (by rw [G.t_nk]; omega)
      generalize upd H3 D.nk (.dK nk') = H4 at G4 f4 ⊢
      -- self.known_words.append(word)
      have hkw : D.kwL.length = n := by rw [S.known.kw, wordsV_len]
      have hkv : D.kvL.length = n := by rw [S.known.kv, rowV_len]
      refine ⟨_, rfl, ga, _, D.dx, _, _, rfl, G4.ob, T.cl_Grid, T.na_Grid_known_words, gf_known_words _, .inl ⟨rfl, _, SqL.of G4.kw⟩, _, rfl, D.kw, D.kwL, _, rfl, rfl, G4.kw, by rw [hkw]; exact szl _ (by omega), ?_⟩
      have G5 : GridHas K (upd H4 D.kw (.lst (D.kwL ++ [.str (A D.c n)]))) ga p { D with nkD := nk', kwL := D.kwL ++ [.str (A D.c n)] } := G4.set_kw _
      have f5 : Fr D.tg H3 (upd H4 D.kw (.lst (D.kwL ++ [.str (A D.c n)]))) := f4.put (by rw [G.t_kw]; omega)
      generalize upd H4 D.kw (.lst (D.kwL ++ [.str (A D.c n)])) = H5 at G5 f5 ⊢
      -- self.known_values.append(number)
      refine ⟨_, rfl, ga, _, D.dx, _, _, rfl, G5.ob, T.cl_Grid, T.na_Grid_known_values, gf_known_values _, .inl ⟨rfl, _, SqL.of G5.kv⟩, _, rfl, D.kv, D.kvL, _, rfl, rfl, G5.kv, by rw [hkv]; exact szl _ (by omega), ?_⟩
      have G6 : GridHas K (upd H5 D.kv (.lst (D.kvL ++ [fv (s n)]))) ga p { D with nkD := nk', kwL := D.kwL ++ [.str (A D.c n)], kvL := D.kvL ++ [fv (s n)] } := G5.set_kv _
      have f6 : Fr D.tg H3 (upd H5 D.kv (.lst (D.kvL ++ [fv (s n)]))) := f5.put (by rw [G.t_kv]; omega)
      generalize upd H5 D.kv (.lst (D.kvL ++ [fv (s n)])) = H6 at G6 f6 ⊢
      have N6 : Known { D with nkD := nk', kwL := D.kwL ++ [.str (A D.c n)], kvL := D.kvL ++ [fv (s n)] } s (n + 1) := by
        refine ⟨?_, ?_, ?_, by omega⟩
        · show D.kwL ++ [.str (A D.c n)] = _
          rw [S.known.kw, ← wordsV_succ]
        · show D.kvL ++ [fv (s n)] = _
          rw [S.known.kv, ← rowV_succ]
        · show putK D.nkD (aK D.c n) (.int (D.kwL.length : Nat)) = dG (n + 1) (aK D.c) _
          rw [S.known.nk, hkw, dG_new fun i hi e => by have := aK_inj e; omega]
          refine dG_congr fun i hi => ⟨rfl, ?_⟩
          by_cases e : i = n
          · rw [if_pos e, e]
          · rw [if_neg e]
      -- self.extend(word)
      refine ⟨_, rfl, ga, D.dx, _, rfl, G6.ob, no_grid (by decide +kernel), _, rfl, ga, { D with nkD := nk', kwL := D.kwL ++ [.str (A D.c n)], kvL := D.kvL ++ [fv (s n)] }, p, nz, s, n, L, lead, sh, rfl, G6, N6, S.counts, S.basis.same rfl rfl rfl rfl rfl rfl rfl rfl rfl, S.rows, ⟨hLn, by omega, fun i hi => sh_lt S.gm i hi⟩, fun H7 pl f7 G7 hpl => ?_⟩
      have f7 : Fr D.tg H3 H7 := f6.trans f7
      let D7 : GD := { D with nkD := nk', kwL := D.kwL ++ [.str (A D.c n)], kvL := D.kvL ++ [fv (s n)], ccD := ccAt D.c n (n + 1), prL := pl }
      have G7 : GridHas K H7 ga p D7 := G7
      have hJ7 := f7 _ _ tJ hJ3
      refine ⟨J, _, hJ7, trivial, fun od => ?_⟩
      refine ⟨_, rfl, J, od, _, rfl, upd_same, ?_⟩
      let HB : Hp := upd H7 J (.frz od (.dK (dG Tn (fun k => aK D.c (L + k)) fun k => .ref (fa k))))
      have GB : GridHas K HB ga p D7 := G7.other tJ
      have hln : ∀ i, i < L → Mx.leadNew n L lead i = lead i := fun i hi => if_pos hi
      have hsn : ∀ i, i < L → shN sh L hh i = sh i := fun i hi => if_pos hi
      have hTn2 : 0 < Tn → L + Tn = n + 1 - L := fun h => by
        obtain ⟨_, h1, h2⟩ := hpos h
        rw [hTn]
        unfold newL
        rw [if_pos ⟨h1, h2⟩]
      refine for_it walk_items (fun t σ Hc => ∃ (Dt : GD) (v6 v7 v8 : Option V), σ = [some (.ref ga), some (fv (s n)), some (.str (A D.c n)), some (.ref F), some (.ref J), v5, v6, v7, v8] ∧ GridHas K Hc ga p Dt ∧ Known Dt s (n + 1) ∧ Counts Dt (n + 1) (fun i => n + 1 - i) ∧
        Basis Dt (L + t) (Mx.leadNew n L lead) (shN sh L hh) ∧ RowsAre Dt s (L + t) (shN sh L hh) (fun i => n + 1 - i) ∧ Dt.up = A D.c n ∧ Dt.gsL = D.gsL ∧ Dt.c = D.c ∧ ∀ a u, D.tg a = 0 → HB a = some u → (∀ k, k < t → a ≠ fa k) → Hc a = some u ∧ Dt.tg a = 0)
        ⟨D7, none, none, none, rfl, GB, N6.same rfl rfl rfl rfl, ?_, ?_, ?_, S.up, rfl, rfl, fun a u ha e _ => ⟨e, ha⟩⟩ (fun t σ Hc ht pv => ?_) (fun t x σ Hc Hd ht pv y => ?_) (fun σ Hc pv => ?_)
      · show ccAt D.c n (n + 1) = _
        unfold ccAt
        rw [if_neg (by omega)]
        exact dG_congr fun i hi => ⟨rfl, by rw [if_pos (by omega)]⟩
      · have B7 : Basis D7 L lead sh := S.basis.same rfl rfl rfl rfl rfl rfl rfl rfl rfl
        refine ⟨B7.mL, B7.ld.trans (dG_congr fun i hi => ⟨rfl, by rw [hln i hi]⟩), B7.wl.trans (dG_congr fun i hi => ⟨by rw [hln i hi], rfl⟩), B7.pr, B7.so, fun i hi => ?_⟩
        rw [hsn i hi]; exact B7.sl i hi
      · intro i hi
        show pl i = _
        rw [hpl i hi, hsn i hi]
      · obtain ⟨Dt, _, _, _, _, _, _, _, _, _, _, _, _, fr⟩ := pv
        rw [dG_len] at ht
        exact (fr J _ tJ upd_same fun k hk => Ne.symm (hfa k (by omega)).2).1
      · obtain ⟨Dt, v6, v7, v8, rfl, Gt, Nt, Ct, Bt, Rt, ut, gt, ct, fr⟩ := pv
        obtain ⟨Tp, x1, x2, rfl, hT, rfl, hx, hy⟩ := y
        rw [dG_len] at ht
        obtain ⟨rfl, hc0, h2L⟩ := hpos (by omega)
        have hLT := hTn2 (by omega)
        have hat : (dG Tn (fun k => aK D.c (L + k)) fun k => V.ref (fa k))[t]? = some (aK D.c (L + t), .ref (fa t)) := by
          unfold dG
          rw [List.getElem?_map, List.getElem?_range ht]; rfl
        have hx : some (V.str (A D.c (L + t))) = some x1 := by
          have : ((dG Tn (fun k => aK D.c (L + k)) fun k => V.ref (fa k))[t]?.map fun kv => kV kv.1) = some x1 := hx
          rw [hat] at this; exact this
        have hy : some (V.ref (fa t)) = some x2 := by
          have : ((dG Tn (fun k => aK D.c (L + k)) fun k => V.ref (fa k))[t]?.map Prod.snd) = some x2 := hy
          rw [hat] at this; exact this
        obtain rfl := Option.some.inj hx
        obtain rfl := Option.some.inj hy
        -- the share dict
        have hfaB : HB (fa t) = some (.dK (shD D.c (Mx.negL (hh t) ++ [(L + t, 1)]))) := by
          show upd H7 J _ (fa t) = _
          rw [upd_ne (hfa t ht).2]
          exact f7 _ _ (tfa t ht) (jn.at_ t ht)
        obtain ⟨hfac, tfat⟩ := fr _ _ (tfa t ht) hfaB fun k hk e => by have := jn.inj _ _ (by omega) (by omega) e; omega
        have sT : Same Hc (upd Hc Tp (.tup [V.str (A D.c (L + t)), V.ref (fa t)])) := Same.new hT
        have G1 := Gt.same sT
        have hfa1 := sT _ _ hfac
        refine ⟨Tp, _, rfl, SqT.of upd_same, rfl, _, _, rfl, _, _, rfl, rfl, ?_⟩
        clear hx hy
        generalize upd Hc Tp (.tup [V.str (A D.c (L + t)), V.ref (fa t)]) = H1c at sT G1 hfa1 ⊢
        -- column
        have hcol : ((Counts.at (n + 1) (fun i => n + 1 - i) (L + t) : Nat) : Int) - 1 = ((n - (L + t) : Nat) : Int) := by
          unfold Counts.at
          rw [if_pos (by omega)]
          show ((n + 1 - (L + t) : Nat) : Int) - 1 = _
          omega
        refine ⟨_, rfl, ga, Dt.dx, _, rfl, G1.ob, no_grid (by decide +kernel), _, rfl, ga, Dt, p, n + 1, L + t, _, by rw [ct]; rfl, G1.toGridCore, Ct, _, _, rfl, rfl, ?_⟩
        dsimp only
        rw [hcol]
        have hlt : L + t ≤ n := by omega
        have hmt : Dt.m = L + t := Bt.mL
        have bl := Bt.ld; have bw := Bt.wl; have bp := Bt.pr; have bs := Bt.so
        rw [ct] at bl bw bp bs
        have new_ : ∀ i, i < L + t → aK D.c i ≠ aK D.c (L + t) := fun i hi e => by have := aK_inj e; omega
        -- self.leads[prefix] = column
        refine ⟨_, rfl, _, rfl, ga, _, Dt.dx, _, _, rfl, G1.ob, T.cl_Grid, T.na_Grid_leads, gf_leads Dt, _, rfl, Dt.ld, _, rfl, DPut.k (k := aK D.c (L + t)) G1.ld (by rw [bl, dG_len]; exact szl _ (by omega)), ?_⟩
        have G2 := G1.set_ld (putK Dt.ldD (aK D.c (L + t)) (.int ((n - (L + t) : Nat) : Int)))
        have k2 : Fr Dt.tg H1c (upd H1c Dt.ld (.dK (putK Dt.ldD (aK D.c (L + t)) (.int ((n - (L + t) : Nat) : Int))))) := (Fr.of (Same.refl _)).put (by rw [Gt.t_ld]; omega)
        generalize upd H1c Dt.ld (.dK (putK Dt.ldD (aK D.c (L + t)) (.int ((n - (L + t) : Nat) : Int)))) = H2c at G2 k2 ⊢
        -- self.word_of_lead[column] = prefix
        refine ⟨_, rfl, _, rfl, ga, _, Dt.dx, _, _, rfl, G2.ob, T.cl_Grid, T.na_Grid_word_of_lead, gf_word_of_lead _, _, rfl, Dt.wl, _, rfl, DPut.k (k := nK (n - (L + t))) (show H2c Dt.wl = some (.dK Dt.wlD) from G2.wl) (by rw [bw, dG_len]; exact szl _ (by omega)), ?_⟩
        have G3 := G2.set_wl (putK Dt.wlD (nK (n - (L + t))) (.str (A D.c (L + t))))
        have k3 : Fr Dt.tg H1c (upd H2c Dt.wl (.dK (putK Dt.wlD (nK (n - (L + t))) (.str (A D.c (L + t)))))) := k2.put (by rw [Gt.t_wl]; omega)
        replace G3 : GridHas K (upd H2c Dt.wl (.dK (putK Dt.wlD (nK (n - (L + t))) (.str (A D.c (L + t)))))) ga p { Dt with ldD := putK Dt.ldD (aK D.c (L + t)) (.int ((n - (L + t) : Nat) : Int)), wlD := putK Dt.wlD (nK (n - (L + t))) (.str (A D.c (L + t))) } := G3
        generalize upd H2c Dt.wl (.dK (putK Dt.wlD (nK (n - (L + t))) (.str (A D.c (L + t))))) = H3c at G3 k3 ⊢
        -- self.shares_of[prefix] = shares
        refine ⟨_, rfl, _, rfl, ga, _, Dt.dx, _, _, rfl, G3.ob, T.cl_Grid, T.na_Grid_shares_of, gf_shares_of _, _, rfl, Dt.so, _, rfl, DPut.k (k := aK D.c (L + t)) (show H3c Dt.so = some (.dK Dt.soD) from G3.so) (by rw [bs, dG_len]; exact szl _ (by omega)), ?_⟩
        have G4 := G3.set_so (putK Dt.soD (aK D.c (L + t)) (.ref (fa t)))
        have k4 : Fr Dt.tg H1c (upd H3c Dt.so (.dK (putK Dt.soD (aK D.c (L + t)) (.ref (fa t))))) := k3.put (by rw [Gt.t_so]; omega)
        replace G4 : GridHas K (upd H3c Dt.so (.dK (putK Dt.soD (aK D.c (L + t)) (.ref (fa t))))) ga p { Dt with ldD := putK Dt.ldD (aK D.c (L + t)) (.int ((n - (L + t) : Nat) : Int)), wlD := putK Dt.wlD (nK (n - (L + t))) (.str (A D.c (L + t))), soD := putK Dt.soD (aK D.c (L + t)) (.ref (fa t)) } := G4
        generalize upd H3c Dt.so (.dK (putK Dt.soD (aK D.c (L + t)) (.ref (fa t)))) = H4c at G4 k4 ⊢
        -- self.pivot_rows[prefix] = [0] * column + [rest]
        refine ⟨by show 1 ≤ sizeLine; decide, fun q1 hq1 => ⟨_, rfl, q1, _, [.int 0], rfl, rfl, upd_same, by omega, by omega, by show 1 * _ ≤ sizeLine; rw [Nat.one_mul]; exact sz _ (by omega), fun q2 hq2 => ⟨_, rfl, by show 1 ≤ sizeLine; decide, fun q3 hq3 => ?_⟩⟩⟩
        have s1 : Same H4c (upd H4c q1 (.lst [.int 0])) := Same.new hq1
        have s2 := s1.trans (Same.new hq2 (o := .lst (List.replicate ((n - (L + t) : Nat) : Int).toNat [V.int 0]).flatten))
        have s3 := s2.trans (Same.new hq3 (o := .lst [fv (Mx.conv C s n)]))
        have nq23 : q2 ≠ q3 := fun e => by rw [← e, upd_same] at hq3; cases hq3
        refine ⟨q2, q3, _, _, rfl, rfl, by rw [upd_ne nq23]; exact upd_same, upd_same, by rw [List.length_flatten]; simp; exact sz _ (by omega), fun q4 hq4 => ?_⟩
        have hrow := joined_row hC (j := L + t) (h := hh t) (by omega) (by omega) (jn.lt t ht) (jn.sum t ht)
        rw [Int.toNat_natCast, hrow]
        rw [Int.toNat_natCast] at s3 hq4
        have s4 := s3.trans (Same.new hq4 (o := .lst (rowV (n + 1 - (L + t)) fun c => Mx.piv s (Mx.negL (hh t) ++ [(L + t, 1)]) c)))
        have hq4' := s3.free hq4
        have G5 := G4.same s4
        have hr5 : upd (upd (upd (upd H4c q1 (.lst [.int 0])) q2 (.lst (List.replicate (n - (L + t)) [V.int 0]).flatten)) q3 (.lst [fv (Mx.conv C s n)])) q4 (.lst (rowV (n + 1 - (L + t)) fun c => Mx.piv s (Mx.negL (hh t) ++ [(L + t, 1)]) c)) q4 = some (.lst (rowV (n + 1 - (L + t)) fun c => Mx.piv s (Mx.negL (hh t) ++ [(L + t, 1)]) c)) := upd_same
        have k5 := k4.trans (Fr.of s4)
        generalize upd (upd (upd (upd H4c q1 (.lst [.int 0])) q2 (.lst (List.replicate (n - (L + t)) [V.int 0]).flatten)) q3 (.lst [fv (Mx.conv C s n)])) q4 (.lst (rowV (n + 1 - (L + t)) fun c => Mx.piv s (Mx.negL (hh t) ++ [(L + t, 1)]) c)) = H5c at G5 hr5 k5 ⊢
        refine ⟨_, rfl, ga, _, Dt.dx, _, _, rfl, G5.ob, T.cl_Grid, T.na_Grid_pivot_rows, gf_pivot_rows _, _, rfl, Dt.pr, _, rfl, DPut.k (k := aK D.c (L + t)) (show H5c Dt.pr = some (.dK Dt.prD) from G5.pr) (by rw [bp, dG_len]; exact szl _ (by omega)), ?_⟩
        have G6 := G5.set_pr (putK Dt.prD (aK D.c (L + t)) (.ref q4))
        have tq4 : Dt.tg q4 = 0 := G4.t_no q4 hq4'
        have k6 : Fr Dt.tg H1c (upd H5c Dt.pr (.dK (putK Dt.prD (aK D.c (L + t)) (.ref q4)))) := k5.put (by rw [Gt.t_pr]; omega)
        have nq4 : q4 ≠ Dt.pr := fun e => by
          have := Gt.t_pr
          rw [← e, tq4] at this; omega
        have hr6 : upd H5c Dt.pr (.dK (putK Dt.prD (aK D.c (L + t)) (.ref q4))) q4 = some (.lst (rowV (n + 1 - (L + t)) fun c => Mx.piv s (Mx.negL (hh t) ++ [(L + t, 1)]) c)) := by rw [upd_ne nq4]; exact hr5
        have hs6 := k6 _ _ tfat hfa1
        replace G6 : GridHas K (upd H5c Dt.pr (.dK (putK Dt.prD (aK D.c (L + t)) (.ref q4)))) ga p { Dt with ldD := putK Dt.ldD (aK D.c (L + t)) (.int ((n - (L + t) : Nat) : Int)), wlD := putK Dt.wlD (nK (n - (L + t))) (.str (A D.c (L + t))), soD := putK Dt.soD (aK D.c (L + t)) (.ref (fa t)), prD := putK Dt.prD (aK D.c (L + t)) (.ref q4) } := G6
        have G7 := G6.grow hr6 hs6 tq4 tfat
        have hsh : shN sh L hh (L + t) = Mx.negL (hh t) ++ [(L + t, 1)] := by
          unfold shN
          rw [if_neg (by omega), Nat.add_sub_cancel_left]
        have hlead : Mx.leadNew n L lead (L + t) = n - (L + t) := by
          unfold Mx.leadNew
          rw [if_neg (by omega)]
        refine ⟨_, _, _, _, rfl, G7, Nt.same rfl rfl rfl rfl, Ct, ⟨?_, ?_, ?_, ?_, ?_, fun i hi => ?_⟩, fun i hi => ?_, ut, gt, ct, fun a u ha hB hk => ?_⟩
        · show Dt.m + 1 = L + (t + 1)
          rw [hmt]; omega
        · show putK Dt.ldD (aK D.c (L + t)) (.int ((n - (L + t) : Nat) : Int)) = dG (L + (t + 1)) (aK Dt.c) _
          rw [ct, bl, dG_new new_]
          refine dG_congr fun i hi => ⟨rfl, ?_⟩
          by_cases e : i = L + t
          · rw [if_pos e, e, hlead]
          · rw [if_neg e]
        · show putK Dt.wlD (nK (n - (L + t))) (.str (A D.c (L + t))) = dG (L + (t + 1)) _ fun i => .str (A Dt.c i)
          rw [ct, bw, ← hlead, dG_new (ky := fun i => nK (Mx.leadNew n L lead i)) fun i hi e => ?_]
          · refine dG_congr fun i hi => ⟨rfl, ?_⟩
            by_cases e : i = L + t
            · rw [if_pos e, e]
            · rw [if_neg e]
          · have e2 := nK_inj e
            rw [hlead] at e2
            unfold Mx.leadNew at e2
            by_cases h : i < L
            · rw [if_pos h] at e2
              have := S.gm.lt i h
              omega
            · rw [if_neg h] at e2; omega
        · show putK Dt.prD (aK D.c (L + t)) (.ref q4) = dG (L + (t + 1)) (aK Dt.c) fun i => .ref (if i = Dt.m then q4 else Dt.pra i)
          rw [ct, bp, hmt, dG_new new_]
          refine dG_congr fun i hi => ⟨rfl, ?_⟩
          by_cases e : i = L + t
          · rw [if_pos e, if_pos e]
          · rw [if_neg e, if_neg e]
        · show putK Dt.soD (aK D.c (L + t)) (.ref (fa t)) = dG (L + (t + 1)) (aK Dt.c) fun i => .ref (if i = Dt.m then fa t else Dt.sha i)
          rw [ct, bs, hmt, dG_new new_]
          refine dG_congr fun i hi => ⟨rfl, ?_⟩
          by_cases e : i = L + t
          · rw [if_pos e, if_pos e]
          · rw [if_neg e, if_neg e]
        · show (if i = Dt.m then shD D.c (Mx.negL (hh t) ++ [(L + t, 1)]) else Dt.shL i) = shD Dt.c (shN sh L hh i)
          rw [hmt, ct]
          by_cases e : i = L + t
          · rw [if_pos e, e, hsh]
          · have := Bt.sl i (by omega)
            rw [ct] at this
            rw [if_neg e]; exact this
        · show (if i = Dt.m then rowV (n + 1 - (L + t)) fun c => Mx.piv s (Mx.negL (hh t) ++ [(L + t, 1)]) c else Dt.prL i) = _
          rw [hmt]
          by_cases e : i = L + t
          · rw [if_pos e, e, hsh]
          · rw [if_neg e]; exact Rt i (by omega)
        · obtain ⟨h1, h2⟩ := fr a u ha hB fun k hk' => hk k (by omega)
          have h3 := sT _ _ h1
          refine ⟨k6 _ _ h2 h3, ?_⟩
          show (if a = q4 then 20 + 2 * Dt.m else if a = fa t then 21 + 2 * Dt.m else Dt.tg a) = 0
          have h4 := k4 _ _ h2 h3
          rw [if_neg (fun e => by rw [e, hq4'] at h4; cases h4), if_neg (hk t (by omega))]
          exact h2
      · obtain ⟨Dt, v6, v7, v8, rfl, Gt, Nt, Ct, Bt, Rt, ut, gt, ct, fr⟩ := pv
        rw [dG_len] at Bt Rt fr
        obtain ⟨hJc, tJt⟩ := fr J _ tJ upd_same fun k hk => Ne.symm (hfa k (by omega)).2
        refine ⟨hJc, ?_⟩
        have G9 := Gt.other (o := .dK (dG Tn (fun k => aK D.c (L + k)) fun k => V.ref (fa k))) tJt
        have hld : Dt.ldD.length = L + Tn := by rw [Bt.ld, dG_len]
        have fr9 : ∀ a u, D.tg a = 0 → H a = some u → upd Hc J (.dK (dG Tn (fun k => aK D.c (L + k)) fun k => V.ref (fa k))) a = some u ∧ Dt.tg a = 0 := fun a u ha e => by
          have nJ : a ≠ J := fun z => by rw [z, hJ0] at e; cases e
          have h7 := f7 _ _ ha (S3 _ _ e)
          have hB : HB a = some u := by show upd H7 J _ a = _; rw [upd_ne nJ]; exact h7
          rw [upd_ne nJ]
          exact fr a u ha hB fun k hk z => by rw [z, (hfa k hk).1] at e; cases e
        generalize upd Hc J (.dK (dG Tn (fun k => aK D.c (L + k)) fun k => V.ref (fa k))) = H9 at G9 fr9 ⊢
        refine ⟨_, rfl, ga, _, Dt.dx, _, _, rfl, G9.ob, T.cl_Grid, T.na_Grid_grown_sizes, gf_grown_sizes Dt, .inl ⟨rfl, _, SqL.of G9.gs⟩, _, rfl, ga, _, Dt.dx, _, _, rfl, G9.ob, T.cl_Grid, T.na_Grid_leads, gf_leads Dt, Dt.ld, _, rfl, G9.ld, Dt.gs, Dt.gsL, _, rfl, rfl, G9.gs, by rw [gt]; exact szl _ (by omega), ?_⟩
        have GA := G9.set_gs (Dt.gsL ++ [.int ((Dt.ldD.length : Nat) : Int)])
        have frA : ∀ a u, D.tg a = 0 → H a = some u → upd H9 Dt.gs (.lst (Dt.gsL ++ [.int ((Dt.ldD.length : Nat) : Int)])) a = some u ∧ Dt.tg a = 0 := fun a u ha e => by
          obtain ⟨h1, h2⟩ := fr9 a u ha e
          rw [upd_ne (fun z => by have := Gt.t_gs; rw [← z, h2] at this; omega)]
          exact ⟨h1, h2⟩
        generalize upd H9 Dt.gs (.lst (Dt.gsL ++ [.int ((Dt.ldD.length : Nat) : Int)])) = HA at GA frA ⊢
        obtain ⟨odx, oe⟩ := GA.O.ob
        refine ⟨_, rfl, ga, _, Dt.dx, _, _, rfl, GA.ob, T.cl_Grid, T.na_Grid_own_order, gf_own_order _, Dt.oa, odx, _, rfl, oe, oflds_no _ _ (by decide +kernel) (by decide +kernel), _, rfl, Dt.oa, Dt.ca, Dt.c, n, by rw [ct]; rfl, GA.O, by omega, fun HC sC => ?_⟩
        have GC := GA.same sC
        refine ⟨_, rfl, ga, _, Dt.dx, _, rfl, GC.ob, T.cl_Grid, T.na_Grid_upcoming, by show (gflds _).length < 1000; unfold gflds; rw [List.length_zip]; show min 12 12 < 1000; omega, ?_⟩
        have GD' := GC.set_up (A Dt.c (n + 1))
        rw [gf_up]
        have hcL : Dt.gsL ++ [.int ((Dt.ldD.length : Nat) : Int)] = D.gsL ++ [V.int ((newL C s n L : Nat) : Int)] := by rw [gt, hld, hTn]
        have BX := Bt
        rw [hTn] at BX
        refine k0 _ _ (Mx.leadNew n L lead) (shN sh L hh) GD' ⟨Nt.same rfl rfl rfl rfl, Ct, BX.same rfl rfl rfl rfl rfl rfl rfl rfl rfl, ?_, rfl, ?_, ⟨C', hC'⟩, by omega⟩ hcL ct fun a u ha e => ?_
        · rw [← hTn]; exact Rt
        · by_cases h : 0 < Tn
          · obtain ⟨_, h1, h2⟩ := hpos h
            rw [← hTn, hTn2 h]
            refine S.gm.grow hC h2 h1 (fun i hi => hsn i hi) fun j hj hj2 => ⟨hh (j - L), jn.lt _ (by have := hTn2 h; omega), fun c hc => ?_, ?_⟩
            · have := jn.sum (j - L) (by have := hTn2 h; omega) c (by omega)
              rw [show L + (j - L) = j by omega] at this
              exact this
            · unfold shN
              rw [if_neg (by omega)]
          · rw [← hTn, show L + Tn = L by omega]
            exact S.gm.more.congr hln hsn
        · obtain ⟨h1, h2⟩ := frA a u ha e
          refine ⟨?_, h2⟩
          rw [upd_ne (fun z => by have := Gt.t_ga; rw [← z, h2] at this; omega)]
          exact sC _ _ h1
end
end Fa

namespace Fa
open PySem PySem.Spec L2
/-! ### promises -/
def sp_Order_sorted_words (K : PySem.W.Frag) : Sp := fun vs H Q _ => ∃ (oa ca wa : Addr) (c k : Nat), vs = [.ref oa, .ref wa] ∧ OrderAt K H oa c ca ∧ SqT K H wa [.str (A c k)] ∧ k ≤ 160 ∧ ∀ R H', H R = none → Same H H' → H' R = some (.lst [.str (A c k)]) → Q (.ref R) H'
theorem tYes_if {σ : L2.St} {H : Hp} {A B : Hp → Prop} (h : A H) : tYes σ H fun b H3 => if b = true then A H3 else B H3 := by
  show (if true = true then A H else B H)
  rw [if_pos rfl]; exact h
theorem _root_.LamX.ExtN.seq {K : PySem.W.Frag} {H H' : Hp} {a : Addr} {xs : List V} (e : LamX.ExtN H H') (h : SqL K H a xs) : SqL K H' a xs := by
  rcases h with (h | ⟨o, h⟩) | h
  · exact .inl (.inl (e _ _ h (fun ps z => by cases z)))
  · exact .inl (.inr ⟨o, e _ _ h (fun ps z => by cases z)⟩)
  · exact .inr h
theorem _root_.LamX.ExtN.tup {K : PySem.W.Frag} {H H' : Hp} {a : Addr} {xs : List V} (e : LamX.ExtN H H') (h : SqT K H a xs) : SqT K H' a xs := by
  rcases h with (h | ⟨o, h⟩) | h
  · exact .inl (.inl (e _ _ h (fun ps z => by cases z)))
  · exact .inl (.inr ⟨o, e _ _ h (fun ps z => by cases z)⟩)
  · exact .inr h
theorem FieldAt.ext {K : PySem.W.Frag} {H H' : Hp} {fa : Addr} {p : Nat} (f : FieldAt K H fa p) (s : LamX.ExtN H H') : FieldAt K H' fa p := ⟨let ⟨dx, e⟩ := f.ob; ⟨dx, s _ _ e (fun ps z => by cases z)⟩, f.six⟩
theorem OrderAt.ext {K : PySem.W.Frag} {H H' : Hp} {oa ca : Addr} {c : Nat} (o : OrderAt K H oa c ca) (s : LamX.ExtN H H') : OrderAt K H' oa c ca := ⟨let ⟨dx, e⟩ := o.ob; ⟨dx, s _ _ e (fun ps z => by cases z)⟩, s _ _ o.co (fun ps z => by cases z), o.lo, o.hi⟩
def tgAt (H : Hp) (t : Addr → Nat) (a : Addr) : Nat := match H a with | none => 0 | some _ => t a
theorem tgAt_some {H : Hp} {t : Addr → Nat} {a : Addr} {u : HO} (h : H a = some u) : tgAt H t a = t a := by unfold tgAt; rw [h]
theorem tgAt_zero {H : Hp} {t : Addr → Nat} {a : Addr} (h : t a = 0) : tgAt H t a = 0 := by
  unfold tgAt
  cases H a with
  | none => rfl
  | some _ => exact h
theorem GridHas.ext {K : PySem.W.Frag} {H H' : Hp} {ga : Addr} {p : Nat} {D : GD} (G : GridHas K H ga p D) (e : LamX.ExtN H H') : GridHas K H' ga p { D with tg := tgAt H' D.tg } := by
  have nt : ∀ {u : HO} (ps : Array Value), (match u with | .tbl _ => False | _ => True) → u ≠ .tbl ps := fun ps h z => by subst z; exact h
  exact ⟨{ ob := e _ _ G.ob (fun ps z => by cases z), kw := e _ _ G.kw (fun ps z => by cases z), kv := e _ _ G.kv (fun ps z => by cases z), nk := e _ _ G.nk (fun ps z => by cases z), cc := e _ _ G.cc (fun ps z => by cases z), ld := e _ _ G.ld (fun ps z => by cases z), wl := e _ _ G.wl (fun ps z => by cases z), pr := e _ _ G.pr (fun ps z => by cases z), so := e _ _ G.so (fun ps z => by cases z), gs := e _ _ G.gs (fun ps z => by cases z), F := G.F.ext e, O := G.O.ext e, t_no := fun a h => by show tgAt H' D.tg a = 0; unfold tgAt; rw [h], t_ga := (tgAt_some (e _ _ G.ob (fun ps z => by cases z))).trans G.t_ga, t_kw := (tgAt_some (e _ _ G.kw (fun ps z => by cases z))).trans G.t_kw, t_kv := (tgAt_some (e _ _ G.kv (fun ps z => by cases z))).trans G.t_kv, t_nk := (tgAt_some (e _ _ G.nk (fun ps z => by cases z))).trans G.t_nk, t_cc := (tgAt_some (e _ _ G.cc (fun ps z => by cases z))).trans G.t_cc, t_ld := (tgAt_some (e _ _ G.ld (fun ps z => by cases z))).trans G.t_ld, t_wl := (tgAt_some (e _ _ G.wl (fun ps z => by cases z))).trans G.t_wl, t_pr := (tgAt_some (e _ _ G.pr (fun ps z => by cases z))).trans G.t_pr, t_so := (tgAt_some (e _ _ G.so (fun ps z => by cases z))).trans G.t_so, t_gs := (tgAt_some (e _ _ G.gs (fun ps z => by cases z))).trans G.t_gs, t_fa := (let ⟨_, q⟩ := G.F.ob; tgAt_some (e _ _ q (fun ps z => by cases z))).trans G.t_fa, t_oa := (let ⟨_, q⟩ := G.O.ob; tgAt_some (e _ _ q (fun ps z => by cases z))).trans G.t_oa, t_ca := (tgAt_some (e _ _ G.O.co (fun ps z => by cases z))).trans G.t_ca }, fun i h => e _ _ (G.prs i h) (fun ps z => by cases z), fun i h => e _ _ (G.shs i h) (fun ps z => by cases z), fun i h => (tgAt_some (e _ _ (G.prs i h) (fun ps z => by cases z))).trans (G.t_pra i h), fun i h => (tgAt_some (e _ _ (G.shs i h) (fun ps z => by cases z))).trans (G.t_sha i h)⟩

/-! ### what it knows stands whatever the tags are -/
theorem Std.tags {p : Nat} [NeZero p] {D : GD} {s : Nat → _root_.Fin p} {n L : Nat} {lead : Nat → Nat} {sh : Nat → List (Nat × _root_.Fin p)} (S : Std D s n L lead sh) (t : Addr → Nat) : Std { D with tg := t } s n L lead sh :=
  ⟨S.known.same rfl rfl rfl rfl, S.counts, S.basis.same rfl rfl rfl rfl rfl rfl rfl rfl rfl, S.rows, S.up, S.gm, S.rule, S.few⟩
def sp_Grid_basis_words (K : PySem.W.Frag) : Sp := fun vs H Q _ => ∃ (ga : Addr) (D : GD) (p : Nat) (_ : NeZero p) (s : Nat → _root_.Fin p) (n L : Nat) (lead : Nat → Nat) (sh : Nat → List (Nat × _root_.Fin p)), vs = [.ref ga] ∧ GridHas K H ga p D ∧ Std D s n L lead sh ∧ LamX.Tabs (lamT K) H ∧
  ∀ R H', LamX.ExtN H H' → LamX.Tabs (lamT K) H' → H' R = none → Q (.ref R) (upd H' R (.lst (wordsV D.c L)))
def sp_Grid_border_words (K : PySem.W.Frag) : Sp := fun vs H Q _ => ∃ (ga : Addr) (D : GD) (p : Nat) (_ : NeZero p) (s : Nat → _root_.Fin p) (n L : Nat) (lead : Nat → Nat) (sh : Nat → List (Nat × _root_.Fin p)), vs = [.ref ga] ∧ GridHas K H ga p D ∧ Std D s n L lead sh ∧
  ∀ R H', H R = none → Same H H' → H' R = some (.lst [.str (A D.c L)]) → Q (.ref R) H'
section
variable {P : Program} {w : World} {K : PySem.W.Frag} {mg : Str → Option Value} {base : Heap}
theorem ok_Order_sorted_words (T : TX K mg) : FnR P w K mg base CX0 5 (a_Order_sorted_words K) (starSp 1 (sp_Order_sorted_words K)) := by
  obtain ⟨oc, od, kV, doc, pm, an, cdv, ct, osl, e, lk, hcd⟩ := T.F_Order_sorted_words.ex
  rw [e] at lk
  refine StX.fn_star (ps := ["self"]) lk hcd sc_Order_sorted_words cxup0 (fun us rest hl => match us, hl, rest with | [_], _, [] => rfl | [_], _, _ :: _ => rfl) (sp := sp_Order_sorted_words K) (fun Ar outer s0 H vs Q E hr h => ?_)
  · obtain ⟨oa, ca, wa, c, k, rfl, O, hw, hk, k0⟩ := h
    obtain ⟨ds_nw, r_nw, b_nw⟩ := T.b_need_word
    have hu := hu_of hr
    refine ⟨_, PSs.nox (pss_cons (ps_for PassesOwn.never rfl (pi_tup (pv 1)) (pg_name (i := 2) sc_Order_sorted_words.nd rfl (Or.inl rfl)) (pss_one (ps_expr (pe_call (ok_need_word T) (by exact hr.mono (by decide)) rfl T.g_need_word T.F_need_word.kp b_nw r_nw pass0 (pa_cons (pe_fldK (K := K) rfl (pv 0) (by rfl)) (pa_cons (pv 2) pa_nil))))))
      (pss_one (ps_ret (pe_sort1 (pe_callTy (call_listD (by rfl)) (by rfl) T.n_list (by decide +kernel) (pa_cons (pe_dc (by rfl) sc_Order_sorted_words.nd (g := gName 2) (pi_tup (pv 1)) (own := [("word", 2)]) (blkOk_by (own := [("word", 2)]) (N := N_Order_sorted_words) (sc := defScope s_Order_sorted_words) (by decide +kernel)) (by intro _ _ _ _ _; exact (pg_name (i := 2) sc_Order_sorted_words.nd rfl (Or.inl rfl))) (fun _ _ _ _ _ => pts_nil) (by intro _ _ _ _ _; exact (pv 2)) (by intro _ _ _ _ _; exact pe_bl)) pa_nil)) (pv 0) (by rfl) T.n_sorted T.cl_Order T.bm_Order_key ((ok_Order_key T).raw T.b_Order_key .nil) (by exact hr.mono (by decide)))))), ?_⟩
    obtain ⟨dx, e⟩ := O.ob
    refine ⟨_, rfl, wa, rfl, ⟨_, hw⟩, ?_⟩
    refine for_it (walk_tup (K := K) (a := wa) (xs := [.str (A c k)])) (fun i σ H1 => ∃ v2, σ = [some (.ref oa), some (.ref wa), v2] ∧ Same H H1) ⟨none, rfl, Same.refl _⟩ (fun i σ H1 _ pv => by obtain ⟨_, _, s⟩ := pv; exact s.tup hw) (fun i x σ H1 H2 hi pv y => ?_) (fun σ H1 pv => ?_)
    · obtain ⟨v2, rfl, s⟩ := pv
      obtain ⟨rfl, hx⟩ := y
      obtain rfl : i = 0 := by have : i < 1 := hi; omega
      obtain rfl := (Option.some.inj (show some (V.str (A c k)) = some x from hx)).symm
      exact ⟨_, rfl, oa, _, dx, _, _, rfl, s _ _ e, T.cl_Order, T.na_Order_own_letters, oflds_letters c ca, _, rfl, c, k, rfl, hk, fun H3 s3 => ⟨_, rfl, s.trans s3⟩⟩
    · obtain ⟨v2, rfl, s⟩ := pv
      have hw1 := s.tup hw
      refine ⟨_, rfl, wa, rfl, ⟨_, hw1⟩, fun D hD => ?_⟩
      refine dc_it (walk_tup (K := K) (a := wa) (xs := [.str (A c k)])) (fun i H2 => Same H1 H2 ∧ H2 D = some (.dK (if i = 0 then [] else [(aK c k, .bl true)]))) ⟨Same.new hD, upd_same⟩ (fun i H2 _ pv => pv.1.tup hw1) (fun i x H2 H3 hi pv y => ?_) (fun H2 pv => ?_)
      · obtain ⟨s2, hD2⟩ := pv
        obtain ⟨rfl, hx⟩ := y
        obtain rfl : i = 0 := by have : i < 1 := hi; omega
        obtain rfl := (Option.some.inj (show some (V.str (A c k)) = some x from hx)).symm
        exact ⟨rfl, _, rfl, [], aK c k, rfl, hD2, by show 0 < sizeLine; decide, s2.put hD, upd_same⟩
      · obtain ⟨s2, hD2⟩ := pv
        have hD3 : H2 D = some (.dK [(aK c k, .bl true)]) := hD2
        refine ⟨D, _, rfl, .inl hD3, fun l hl => ?_⟩
        have s3 : Same H (upd H2 l (.lst [.str (A c k)])) := (s.trans s2).trans (Same.new hl)
        refine ⟨_, rfl, l, oa, dx, .str (A c k), oflds c ca, rfl, upd_same, rfl, s3 _ _ e, oflds_no c ca (by decide +kernel) (by decide +kernel), fun H3 s4 => ?_, fun R H3 hR s4 hl4 => k0 R H3 (s3.free hR) (s3.trans s4) hl4⟩
        exact ⟨oa, ca, c, k, rfl, O.same (s3.trans s4), hk, fun q H4 _ s5 _ => s5⟩
theorem ok_Grid_basis_words (T : TX K mg) (TB : LamX.TabB base mg (lc K) (lP K)) : FnOk P w K mg base CX0 3 (a_Grid_basis_words K) (d_ K (a_Grid_basis_words K)) ["self"] (sp_Grid_basis_words K) := by
  refine Fun.okC T.F_Grid_basis_words T.co_Grid_basis_words sc_Grid_basis_words (fun vs H Q E h => ?_) (fun Ar outer s0 H vs Q E hr h => ?_)
  · (repeat (obtain ⟨_, h⟩ := h)); subst_vars; rfl
  · obtain ⟨ga, D, p, nz, s, n, L, lead, sh, rfl, G, S, hT, k0⟩ := h
    have hu := hu_of hr
    refine ⟨_, (pss_one (ps_ret (pe_sortLam (i := 0) (k := 0) (T := lamT K) (pe_fldK (K := K) rfl (pv 0) (by rfl)) (by rfl) T.n_sorted TB rfl (List.mem_singleton.mpr rfl) (fun p hp _ => by rw [List.mem_singleton.mp hp]; rfl) (by exact hr.mono (by decide)) rfl (lam1_by (sc := defScope s_Grid_basis_words) (by decide +kernel)) rfl (fun _ _ _ _ _ _ => rfl) rfl (by right; left; rfl) (fun _ => rfl)))), ?_⟩
    obtain ⟨C, hC⟩ := S.rule
    have hLn := hC.le
    have hf := S.few
    refine ⟨_, rfl, ga, _, D.dx, _, _, rfl, G.ob, T.cl_Grid, T.na_Grid_leads, gf_leads D, hT, D.ld, ga, D.nk, c_Grid K, D.dx, gflds D, D.ldD, D.nkD, (List.range L).map fun i => ((i : Nat) : Int), (List.range L).map fun i => A D.c i, rfl, G.ld, ?_, rfl, G.ob, T.cl_Grid, T.na_Grid_number_of_known, gf_number_of_known D, G.nk, by simp, fun j k m h1 h2 => ?_, ?_, ?_, by simp; omega, fun R H' e t hR => ?_⟩
    · rw [S.basis.ld]
      unfold dG
      rw [List.map_map, List.map_map]; rfl
    · have hj : j < L := by have := (List.getElem?_eq_some_iff.mp h1).1; simpa using this
      rw [List.getElem?_map, List.getElem?_range hj] at h1 h2
      obtain rfl := Option.some.inj h1
      obtain rfl := Option.some.inj h2
      rw [S.known.nk]
      exact dG_get (aK_injs _ _) (by omega)
    · rw [List.pairwise_map]
      exact List.pairwise_lt_range.imp fun h => by omega
    · rw [List.nodup_iff_pairwise_ne, List.pairwise_map]
      exact List.pairwise_lt_range.imp fun h e => by have := A_inj e; omega
    · rw [List.map_map]
      exact k0 R H' e t hR
theorem ok_Grid_border_words (T : TX K mg) : FnOk P w K mg base CX0 6 (a_Grid_border_words K) (d_ K (a_Grid_border_words K)) ["self"] (sp_Grid_border_words K) := by
  refine T.F_Grid_border_words.ok sc_Grid_border_words (fun vs H Q E h => ?_) (fun cdv Ar outer s0 H vs Q E hr h => ?_)
  · (repeat (obtain ⟨_, h⟩ := h)); subst_vars; rfl
  · obtain ⟨ga, D, p, nz, s, n, L, lead, sh, rfl, G, S, k0⟩ := h
    have hu := hu_of hr
    refine ⟨_, (pss_cons (ps_if (pt_cmpR (op_eqDE (by exact hr.units0)) (pe_fldK (K := K) rfl (pv 0) (by rfl)) pe_dnewK (nomark _)) (pss_one (ps_ret (pe_lst (pa_cons pe_str pa_nil)))) pss_nil)
      (pss_cons (ps_lock (ps_setLc2 (i := 1) (own := [("word", 2), ("letter", 3)]) (vs1 := [3]) (g := gName 2) (g1 := gName 3) rfl sc_Grid_border_words.nd rfl rfl (sw_true rfl rfl rfl (by decide +kernel)) (pi_keys (pe_fldK (K := K) rfl (pv 0) (by rfl))) (blkOk_by (own := [("word", 2), ("letter", 3)]) (N := N_Grid_border_words) (sc := defScope s_Grid_border_words) (by decide +kernel)) (by decide) (by intro _ _ _ _ _; exact (pg_name (i := 2) sc_Grid_border_words.nd rfl (Or.inl rfl))) (by intro _ _ _ _ _; exact pts_nil) (by intro _ _ _ _ _; exact (pi_str (pe_prop (pe_fldK (K := K) rfl (pv 0) (by rfl)) T.cl_Order T.pr_Order_letters (ok_Order_letters T) (by exact hr.mono (by decide)) T.b_Order_letters .nil pass0 (by rfl)))) (by intro _ _ _ _ _; exact (pg_name (i := 3) sc_Grid_border_words.nd rfl (Or.inl rfl))) (by intro _ _ _ _ _; exact pts_nil) (by intro _ _ _ _ _; exact (pe_op op_add_str (pv 2) (pv 3)))))
      (pss_cons (ps_setLc (i := 1) (own := [("word", 2)]) (g := gName 2) (tt := _) rfl sc_Grid_border_words.nd rfl rfl (sw_true rfl rfl rfl (by decide +kernel)) (pi_list (pv 1)) (blkOk_by (own := [("word", 2)]) (N := N_Grid_border_words) (sc := defScope s_Grid_border_words) (by decide +kernel)) (fun _ _ _ _ _ => (pg_name (i := 2) sc_Grid_border_words.nd rfl (Or.inl rfl))) (by intro _ _ _ _ _; exact pts_one (pt_cmp (pc_dnotin (by exact hu) (pv 2) (pe_fldK (K := K) rfl (pv 0) (by rfl))))) (by intro _ _ _ _ _; exact (pv 2)))
      (pss_one (ps_ret (pe_methSL (pe_fldK (K := K) rfl (pv 0) (by rfl)) T.cl_Order T.bm_Order_sorted_words (ok_Order_sorted_words T) (by exact hr.mono (by decide)) pass0 (pv 1))))))), ?_⟩
    obtain ⟨C, hC⟩ := S.rule
    have hLn := hC.le
    have hf := S.few
    refine ⟨_, rfl, ga, _, D.dx, _, _, rfl, G.ob, T.cl_Grid, T.na_Grid_leads, gf_leads D, fun d hd => ?_⟩
    have nd : D.ld ≠ d := fun z => by rw [← z, G.ld] at hd; cases hd
    have S1 : Same H (upd H d (.dK [])) := Same.new hd
    refine ⟨D.ld, d, D.ldD, rfl, rfl, S1 _ _ G.ld, upd_same, _, rfl, ?_⟩
    have eE : D.ldD.isEmpty = decide (L = 0) := by
      rw [S.basis.ld]
      unfold dG
      cases L with
      | zero => rfl
      | succ L => rw [List.range_succ]; simp
    rw [eE]
    refine ite2 (fun h0 => ?_) (fun h0 => ?_)
    · have hL0 : L = 0 := of_decide_eq_true h0
      subst hL0
      exact ⟨by show 1 ≤ sizeLine; decide, fun R hR => k0 R _ (S1.free hR) (S1.trans (Same.new hR)) upd_same⟩
    · have hL0 : L ≠ 0 := fun z => h0 (decide_eq_true z)
      have GG := G.same S1
      refine ⟨D.ld, _, GG.ld, trivial, fun od => ?_⟩
      have hlen : D.ldD.length = L := by rw [S.basis.ld, dG_len]
      have hkey : ∀ i, i < L → ∃ v, D.ldD[i]? = some (aK D.c i, v) := fun i hi => by
        rw [S.basis.ld]
        unfold dG
        rw [List.getElem?_map, List.getElem?_range hi]
        exact ⟨_, rfl⟩
      let HB : Hp := upd (upd H d (.dK [])) D.ld (.frz od (.dK D.ldD))
      have obB : HB ga = some (.ins (c_Grid K) D.dx (gflds D)) := (upd_ne (tne GG.t_ga GG.t_ld (by omega))).trans GG.ob
      have OB : OrderAt K HB D.oa D.c D.ca := GG.O.upd (tne GG.t_oa GG.t_ld (by omega)) (tne GG.t_ca GG.t_ld (by omega))
      obtain ⟨odx, oeB⟩ := OB.ob
      refine ⟨_, rfl, ga, _, D.dx, _, _, rfl, obB, T.cl_Grid, T.na_Grid_leads, gf_leads D, D.ld, od, rfl, .inl ⟨D.ldD, upd_same, fun W hW => ?_⟩⟩
      refine lc2_it walk_keys (fun i H1 => Same HB H1 ∧ H1 W = some (.lst ((List.range i).map fun j => V.str (A D.c (j + 1))))) ⟨Same.new hW, upd_same⟩ (fun i H1 _ pv => pv.1 _ _ upd_same) (fun i x H1 H2 hi pv y => ?_) (fun H1 pv => ?_)
      · obtain ⟨s1, hW1⟩ := pv
        obtain ⟨rfl, k, v, hk, rfl⟩ := y
        rw [hlen] at hi
        obtain ⟨v', hv'⟩ := hkey i hi
        rw [hv'] at hk
        obtain ⟨rfl, rfl⟩ : aK D.c i = k ∧ v' = v := by injection hk with hk; injection hk with a b; exact ⟨a, b⟩
        refine ⟨rfl, tYes_if ?_⟩
        refine ⟨_, rfl, ga, _, D.dx, _, _, rfl, s1 _ _ obB, T.cl_Grid, T.na_Grid_own_order, gf_own_order D, D.oa, odx, _, rfl, s1 _ _ oeB, D.oa, D.ca, D.c, rfl, OB.same s1, A D.c 1, rfl, ?_⟩
        refine inner_it walk_str (fun j H3 => Same HB H3 ∧ H3 W = some (.lst ((List.range (i + j)).map fun j => V.str (A D.c (j + 1))))) ⟨s1, hW1⟩ (fun _ _ _ _ => trivial) (fun j x H3 H4 hj pv y => ?_) (fun H3 pv => ?_)
        · obtain ⟨s2, hW2⟩ := pv
          obtain ⟨rfl, cc, hcc, rfl⟩ := y
          rw [A_size] at hj
          obtain rfl : j = 0 := by omega
          obtain rfl := A_at hcc
          refine ⟨rfl, tYes_if ?_⟩
          have hWB : HB W = none := hW
          refine ⟨_, rfl, _, rfl, _, _, rfl, rfl, by rw [A_len]; exact sz _ (by show i + 1 ≤ 100000; omega), _, hW2, szl _ (by rw [List.length_map, List.length_range]; omega), ?_, ?_⟩
          · exact s2.put hWB
          · rw [upd_same, show i + (0 + 1) = (i + 0) + 1 by omega, List.range_succ, List.map_append, Nat.add_zero]
            show some (HO.lst (_ ++ [V.str (A D.c i ++ (⟨#[D.c]⟩ : Str))])) = _
            rw [A_one, A_add]; rfl
        · obtain ⟨s2, hW2⟩ := pv
          rw [A_size] at hW2
          exact ⟨s2, hW2⟩
      · obtain ⟨s1, hW1⟩ := pv
        rw [hlen] at hW1
        have hWH : H W = none := S1.free (none_upd hW)
        refine ⟨s1 _ _ upd_same, ?_⟩
        have s2 : Same (upd H d (.dK [])) (upd H1 D.ld (.dK D.ldD)) := s1.unlock GG.ld
        have s3 := S1.trans s2
        have nW : W ≠ D.ld := fun z => by rw [z, s1 _ _ upd_same] at hW1; cases hW1
        have hW3 : upd H1 D.ld (.dK D.ldD) W = some (.lst ((List.range L).map fun j => V.str (A D.c (j + 1)))) := by rw [upd_ne nW]; exact hW1
        have G3 := G.same s3
        generalize upd H1 D.ld (.dK D.ldD) = H3 at s2 s3 hW3 G3 ⊢
        have hml : ((List.range L).map fun j => V.str (A D.c (j + 1))).length = L := by rw [List.length_map, List.length_range]
        refine ⟨_, rfl, W, rfl, ⟨_, SqL.of hW3⟩, fun W2 hW2 => ?_⟩
        refine lc_fil (walk_list (K := K) (a := W) (xs := (List.range L).map fun j => V.str (A D.c (j + 1)))) (fun j => if j + 1 = L then some (.str (A D.c L)) else none) hW2 (by rw [hml]; omega) (fun H4 s4 => SqL.of (s4 _ _ hW3)) (fun j x H4 H5 hj s4 y Kt kt => ?_) (fun H4 s4 hD => ?_)
        · obtain ⟨rfl, hx⟩ := y
          rw [hml] at hj
          rw [List.getElem?_map, List.getElem?_range hj] at hx
          obtain rfl := (Option.some.inj hx).symm
          have G5 := G3.same s4
          have g := DGet.k (k := aK D.c (j + 1)) G5.ld
          rw [S.basis.ld] at g
          refine ⟨rfl, _, rfl, _, rfl, ga, _, D.dx, _, _, rfl, G5.ob, T.cl_Grid, T.na_Grid_leads, gf_leads D, D.ld, _, rfl, g, ?_⟩
          by_cases hjL : j + 1 < L
          · rw [dG_get (aK_injs _ _) hjL]
            refine ⟨_, rfl, iteF ?_⟩
            have := kt _ (Same.refl _)
            rw [if_neg (by omega)] at this
            exact this
          · rw [dG_none fun i hi e => hjL (by rw [← aK_inj e]; exact hi)]
            refine ⟨_, rfl, iteT ⟨_, rfl, ?_⟩⟩
            have := kt _ (Same.refl _)
            rw [if_pos (by omega)] at this
            show Kt (some (V.str (A D.c (j + 1)))) _
            rw [show j + 1 = L by omega]
            exact this
        · have ep : picked ((List.range L).map fun j => V.str (A D.c (j + 1))).length (fun j => if j + 1 = L then some (V.str (A D.c L)) else none) = [V.str (A D.c L)] := by
            rw [hml]
            obtain ⟨L', rfl⟩ : ∃ L', L = L' + 1 := ⟨L - 1, by omega⟩
            rw [picked_succ, if_pos rfl]
            have : ∀ m, m ≤ L' → picked m (fun j => if j + 1 = L' + 1 then some (V.str (A D.c (L' + 1))) else none) = [] := by
              intro m
              induction m with
              | zero => intro _; rfl
              | succ m ih =>
                intro hm
                rw [picked_succ, ih (by omega), if_neg (by omega)]; rfl
            rw [this _ (Nat.le_refl _)]; rfl
          rw [ep] at hD
          have G4 := G3.same s4
          obtain ⟨odx4, oe4⟩ := G4.O.ob
          refine ⟨_, rfl, ga, _, D.dx, _, _, rfl, G4.ob, T.cl_Grid, T.na_Grid_own_order, gf_own_order D, D.oa, odx4, _, rfl, oe4, oflds_no _ _ (by decide +kernel) (by decide +kernel), fun q hq => ?_⟩
          have s5 : Same H4 (upd H4 q (.met (a_Order_sorted_words K) D.oa)) := Same.new hq
          have s05 := (s3.trans s4).trans s5
          refine ⟨_, rfl, W2, [.str (A D.c L)], rfl, .inr (SqL.of (s5 _ _ hD)), upd_same, ?_⟩
          refine ⟨[.ref D.oa], [.str (A D.c L)], rfl, rfl, by show 1 ≤ sizeLine; decide, fun wp hwp => ?_⟩
          have s6 := s05.trans (Same.new hwp (o := .tup [.str (A D.c L)]))
          exact ⟨D.oa, D.ca, wp, D.c, L, rfl, G.O.same s6, SqT.of upd_same, by omega, fun R H7 hR s7 hl => k0 R H7 (s6.free hR) (s6.trans s7) hl⟩
end
end Fa

namespace Fa
open PySem PySem.Spec L2
/-! ### promises -/
def sp_Field_init (K : PySem.W.Frag) : Sp := fun vs H Q _ => ∃ (fa dx : Addr) (p : Nat), vs = [.ref fa, .int (p : Nat)] ∧ H fa = some (.ins (c_Modulo K) dx []) ∧ Q .non (upd H fa (.ins (c_Modulo K) dx [("own_prime", .int (p : Nat))]))
def sp_Order_init (K : PySem.W.Frag) : Sp := fun vs H Q _ => ∃ (oa dx d : Addr) (c : Nat), vs = [.ref oa, .str (A c 1), .ref d] ∧ H oa = some (.ins (c_Order K) dx []) ∧ H d = some (.dK []) ∧ (97 ≤ c ∧ c ≤ 122) ∧
  ∀ H' (ca : Addr), OrderAt K H' oa c ca → (∀ a u, a ≠ oa → H a = some u → H' a = some u) → H ca = none → Q .non H'
section
variable {P : Program} {w : World} {K : PySem.W.Frag} {mg : Str → Option Value} {base : Heap}
theorem ok_Field_init (T : TX K mg) : FnOk P w K mg base CX0 1 (a_Field_init K) (d_ K (a_Field_init K)) ["self", "prime"] (sp_Field_init K) := by
  refine T.F_Field_init.ok sc_Field_init (fun vs H Q E h => ?_) (fun cdv Ar outer s0 H vs Q E hr h => ?_)
  · (repeat (obtain ⟨_, h⟩ := h)); subst_vars; rfl
  · obtain ⟨fa, dx, p, rfl, e, k0⟩ := h
    have hu := hu_of hr
    refine ⟨_, (pss_one (ps_fld (pv 0) (pv 1) rfl)), ?_⟩
    exact ⟨_, rfl, _, rfl, fa, _, dx, _, rfl, e, T.cl_Modulo, T.na_Modulo_own_prime, by decide, k0⟩
theorem ok_is_prime (T : TX K mg) : FnOk P w K mg base CX0 3 (a_is_prime K) (d_ K (a_is_prime K)) ["value"] (sp_is_prime K) := by
  refine T.F_is_prime.ok sc_is_prime (fun vs H Q E h => ?_) (fun cdv Ar outer s0 H vs Q E hr h => ?_)
  · (repeat (obtain ⟨_, h⟩ := h)); subst_vars; rfl
  · obtain ⟨p, rfl, hp, k0⟩ := h
    obtain ⟨u_MAX_PRIME, h_MAX_PRIME⟩ := T.k_MAX_PRIME
    have hu := hu_of hr
    refine ⟨_, (pss_cons (ps_if (pt_not (pt_val (pe_call (ok_is_between T) (by exact hr.mono (by decide)) rfl T.g_is_between T.F_is_between.kp T.b_is_between .nil pass0 (pa_cons (pv 0) (pa_cons pe_int (pa_cons (pe_glob (v := .int 1000000000) rfl h_MAX_PRIME ⟨_, rfl⟩) pa_nil)))))) (pss_one (ps_ret pe_bl)) pss_nil)
      (pss_cons (ps_for PassesOwn.never rfl (pi_tup (pe_glob (v := .ref (He.ga K "SMALL_PRIMES")) rfl T.k_SMALL_PRIMES rfl)) (pg_name (i := 1) sc_is_prime.nd rfl (Or.inl rfl)) (pss_one (ps_if (pt_cmpR op_eq (pe_op op_mod (pv 0) (pv 1)) pe_int (nomark _)) (pss_one (ps_ret (pe_cmpR op_eq (pv 0) (pv 1) (nomark _)))) pss_nil)))
      (pss_one (ps_ret (pe_not (pe_callB (cr_any rfl) (by rfl) T.n_any (by decide +kernel) (pa_cons (pe_lc (own := [("number", 2)]) (g := gName 2) (tt := tYes) rfl sc_is_prime.nd (pi_tup (pe_glob (v := .ref (He.ga K "WITNESSES")) rfl T.k_WITNESSES rfl)) (blkOk_by (own := [("number", 2)]) (N := N_is_prime) (sc := defScope s_is_prime) (by decide +kernel)) (fun _ _ _ _ _ => (pg_name (i := 2) sc_is_prime.nd rfl (Or.inl rfl))) (fun _ _ _ _ _ => pts_nil) (by intro _ _ _ _ _; exact (pe_call (ok_is_witness T) (by exact hr.mono (by decide)) rfl T.g_is_witness T.F_is_witness.kp T.b_is_witness .nil pass0 (pa_cons (pv 2) (pa_cons (pv 0) pa_nil))))) pa_nil))))))), ?_⟩
    have h2 := hp.lo
    have h3 := hp.hi
    refine ⟨_, rfl, _, 2, 1000000000, rfl, _, rfl, ?_⟩
    rw [decide_eq_true (show (2 : Int) ≤ ((p : Nat) : Int) by omega), decide_eq_true (show ((p : Nat) : Int) ≤ 1000000000 by omega)]
    refine iteF ?_
    have hS := T.t_SMALL_PRIMES H
    refine ⟨_, rfl, ⟨_, hS⟩, ?_⟩
    let sm : List Nat := [2, 3, 5, 7, 11, 13, 17, 19, 23, 29, 31, 37]
    have hsm : (([2, 3, 5, 7, 11, 13, 17, 19, 23, 29, 31, 37] : List Int).map V.int) = sm.map fun q => V.int ((q : Nat) : Int) := rfl
    refine for_it (walk_tup (K := K) (xs := ([2, 3, 5, 7, 11, 13, 17, 19, 23, 29, 31, 37] : List Int).map V.int)) (fun i σ H1 => ∃ v1 v2, σ = [some (.int (p : Nat)), v1, v2] ∧ H1 = H ∧ ∀ (j : Nat) (q : Nat), j < i → sm[j]? = some q → ¬ q ∣ p) ⟨none, none, rfl, rfl, fun j q h => absurd h (by omega)⟩ (fun i σ H1 _ pv => by obtain ⟨_, _, _, e, _⟩ := pv; rw [e]; exact hS) (fun i x σ H1 H2 hi pv y => ?_) (fun σ H1 pv => ?_)
    · obtain ⟨v1, v2, rfl, rfl, hj⟩ := pv
      obtain ⟨rfl, hx⟩ := y
      rw [hsm, List.getElem?_map] at hx
      obtain ⟨q, hq, rfl⟩ : ∃ q, sm[i]? = some q ∧ x = V.int ((q : Nat) : Int) := by
        cases e : sm[i]? with
        | none => rw [e] at hx; cases hx
        | some q => rw [e] at hx; exact ⟨q, rfl, (Option.some.inj hx).symm⟩
      have hq2 : 2 ≤ q := by
        have : ∀ q ∈ sm, 2 ≤ q := by decide
        exact this q (List.mem_of_getElem? hq)
      refine ⟨_, rfl, _, rfl, _, _, rfl, rfl, (by show (0 : Int) < (q : Nat); omega), rfl, _, rfl, ?_⟩
      refine ite2 (fun h => ?_) (fun h => ?_)
      · have hz : ((p : Nat) : Int) % ((q : Nat) : Int) = 0 := V.int.inj (of_decide_eq_true h)
        have hd : q ∣ p := Nat.dvd_of_mod_eq_zero (by omega)
        have e : q = p := by
          rcases hp.prime.2 q hd with z | z
          · omega
          · exact z
        refine ⟨_, rfl, _, rfl, rfl, ?_⟩
        rw [e, decide_eq_true rfl]
        exact k0 _ (Same.refl _)
      · refine ⟨_, v2, rfl, rfl, fun j q' hjl hq' => ?_⟩
        by_cases hji : j < i
        · exact hj j q' hji hq'
        · have : j = i := by omega
          subst this
          rw [hq] at hq'
          obtain rfl := Option.some.inj hq'
          intro hd
          have hm : ((p % q : Nat) : Int) = 0 := by rw [Nat.mod_eq_zero_of_dvd hd]; rfl
          exact h (decide_eq_true (congrArg V.int ((Int.natCast_emod p q).symm.trans hm)))
    · obtain ⟨v1, v2, rfl, rfl, hj⟩ := pv
      have hl : ∀ (j q : Nat), sm[j]? = some q → ¬ q ∣ p := fun j q h => hj j q (by
        have := (List.getElem?_eq_some_iff.mp h).1
        exact this) h
      have hbig : p = 101 ∨ p = 1000003 := by
        rcases hp with z | z | z | z | z | z
        · exact absurd (Nat.dvd_of_mod_eq_zero (by rw [z])) (hl 0 2 rfl)
        · exact absurd (Nat.dvd_of_mod_eq_zero (by rw [z])) (hl 1 3 rfl)
        · exact absurd (Nat.dvd_of_mod_eq_zero (by rw [z])) (hl 2 5 rfl)
        · exact absurd (Nat.dvd_of_mod_eq_zero (by rw [z])) (hl 3 7 rfl)
        · exact .inl z
        · exact .inr z
      have hW := T.t_WITNESSES H1
      have hwit : ∀ a : Nat, (a = 2 ∨ a = 3 ∨ a = 5 ∨ a = 7) → ∃ n o m : Nat, n = p ∧ (a < 2 ^ 60 ∧ 3 ≤ n ∧ n < 2 ^ 60 ∧ n - 1 = o * 2 ^ m ∧ o % 2 = 1 ∧ m < 60) ∧ (a ^ o % n = 1 ∨ ∃ j, j < m ∧ sqs (a ^ o % n) n j = n - 1) := by
        intro a ha
        rcases hbig with rfl | rfl
        · refine ⟨101, 25, 2, rfl, ⟨by omega, by decide, by decide, by decide, by decide, by decide⟩, ?_⟩
          rcases ha with rfl | rfl | rfl | rfl
          · exact .inr ⟨1, by decide, by decide +kernel⟩
          · exact .inr ⟨1, by decide, by decide +kernel⟩
          · exact .inl (by decide +kernel)
          · exact .inr ⟨1, by decide, by decide +kernel⟩
        · refine ⟨1000003, 500001, 1, rfl, ⟨by omega, by decide, by decide, by decide, by decide, by decide⟩, ?_⟩
          rcases ha with rfl | rfl | rfl | rfl
          · exact .inr ⟨0, by decide, by decide +kernel⟩
          · exact .inr ⟨0, by decide, by decide +kernel⟩
          · exact .inr ⟨0, by decide, by decide +kernel⟩
          · exact .inr ⟨0, by decide, by decide +kernel⟩
      refine ⟨_, rfl, ⟨_, hW⟩, fun D hD => ?_⟩
      refine lc_map (walk_tup (K := K) (xs := ([2, 3, 5, 7] : List Int).map V.int)) (fun _ => .bl false) hD (by decide) (fun H2 s2 => s2.tup hW) (fun i x H2 H3 hi s2 y Kt kt => ?_) (fun H2 s2 hD2 => ?_)
      · obtain ⟨rfl, hx⟩ := y
        have hxa : ∃ a : Nat, (a = 2 ∨ a = 3 ∨ a = 5 ∨ a = 7) ∧ x = .int (a : Nat) := by
          have hi4 : i < 4 := hi
          rcases (show i = 0 ∨ i = 1 ∨ i = 2 ∨ i = 3 by omega) with rfl | rfl | rfl | rfl
          · exact ⟨2, .inl rfl, (Option.some.inj (show some (V.int 2) = some x from hx)).symm⟩
          · exact ⟨3, .inr (.inl rfl), (Option.some.inj (show some (V.int 3) = some x from hx)).symm⟩
          · exact ⟨5, .inr (.inr (.inl rfl)), (Option.some.inj (show some (V.int 5) = some x from hx)).symm⟩
          · exact ⟨7, .inr (.inr (.inr rfl)), (Option.some.inj (show some (V.int 7) = some x from hx)).symm⟩
        obtain ⟨a, ha, rfl⟩ := hxa
        obtain ⟨n, o, m, rfl, w1, w2⟩ := hwit a ha
        exact ⟨rfl, _, rfl, _, rfl, a, n, o, m, rfl, w1, w2, kt _ (Same.refl _)⟩
      · refine ⟨D, [false, false, false, false], rfl, SqL.of hD2, ?_⟩
        exact ⟨false, rfl, k0 H2 s2⟩
theorem ok_Order_init (T : TX K mg) : FnR P w K mg base CX0 2 (a_Order_init K) (kwSp 2 (sp_Order_init K)) := by
  obtain ⟨oc, od, kV, doc, pm, an, cdv, ct, osl, e, lk, hcd⟩ := T.F_Order_init.ex
  rw [e] at lk
  refine fn_kw (ps := ["self", "letters"]) lk hcd sc_Order_init cxup0 (fun us hl => match us, hl with | [_, _], _ => rfl) (sp := sp_Order_init K) (fun Ar outer s0 H vs Q E hr h => ?_)
  · obtain ⟨oa, dx, d, c, rfl, e, hd, ⟨h1, h2⟩, k0⟩ := h
    have hu := hu_of hr
    refine ⟨_, PSs.nox (pss_cons (ps_if (pt_not (pt_val (pe_call (ok_are_letters T) (by exact hr.mono (by decide)) rfl T.g_are_letters T.F_are_letters.kp T.b_are_letters .nil pass0 (pa_cons (pv 1) pa_nil)))) (pss_one ps_never) pss_nil)
      (pss_cons (ps_for PassesOwn.never rfl (pi_list (pe_callB (call_sortedD (by rfl)) (by rfl) T.n_sorted (by decide +kernel) (pa_cons (pv 2) pa_nil))) (pg_name (i := 3) sc_Order_init.nd rfl (Or.inl rfl)) (pss_one ps_never))
      (pss_cons (ps_fld (pv 0) (pv 1) rfl)
      (pss_one (ps_fld (pv 0) (pe_dc (by rfl) sc_Order_init.nd (g := gName 3) (pi_str (pv 1)) (own := [("letter", 3)]) (blkOk_by (own := [("letter", 3)]) (N := N_Order_init) (sc := defScope s_Order_init) (by decide +kernel)) (by intro _ _ _ _ _; exact (pg_name (i := 3) sc_Order_init.nd rfl (Or.inl rfl))) (fun _ _ _ _ _ => pts_nil) (by intro _ _ _ _ _; exact (pv 3)) (by intro _ _ _ _ _; exact (pe_dget2 (by exact hu) (pv 2) (pv 3) pe_int ⟨rfl, by rfl, rfl, rfl⟩))) rfl))))), ?_⟩
    obtain ⟨c0, hc0⟩ : ∃ c0 : Nat, c0 = c := ⟨c, rfl⟩
    refine ⟨_, rfl, c, rfl, ⟨h1, h2⟩, fun H1 s1 => ⟨_, rfl, ?_⟩⟩
    refine iteF ?_
    have e1 := s1 _ _ e
    have hd1 := s1 _ _ hd
    refine ⟨_, rfl, d, [], [], rfl, .inl hd1, rfl, by decide, fun ys q hys _ hq => ?_⟩
    obtain rfl : ys = [] := List.Perm.eq_nil hys
    have s2 := s1.trans (Same.new hq (o := .lst []))
    refine ⟨q, rfl, ⟨[], SqL.of upd_same⟩, ?_⟩
    refine for_it (walk_list (K := K) (a := q) (xs := [])) (fun i σ H2 => ∃ v3, σ = [some (.ref oa), some (.str (A c 1)), some (.ref d), v3] ∧ H2 = upd H1 q (.lst [])) ⟨none, rfl, rfl⟩ (fun i σ H2 _ pv => by obtain ⟨_, _, e⟩ := pv; rw [e]; exact SqL.of upd_same) (fun i x σ H2 H3 hi pv y => absurd hi (by simp)) (fun σ H2 pv => ?_)
    obtain ⟨v3, rfl, rfl⟩ := pv
    refine ⟨_, rfl, _, rfl, oa, _, dx, [], rfl, s2 _ _ e, T.cl_Order, T.na_Order_own_letters, by decide, ?_⟩
    have hd2 : upd (upd H1 q (.lst [])) oa (.ins (c_Order K) dx (putF "own_letters" (.str (A c 1)) [])) d = some (.dK []) := by
      rw [upd_ne (fun z => by rw [z, e] at hd; cases hd)]; exact s2 _ _ hd
    have b2 : ∀ a u, a ≠ oa → H a = some u → upd (upd H1 q (.lst [])) oa (.ins (c_Order K) dx (putF "own_letters" (.str (A c 1)) [])) a = some u := fun a u n h => by rw [upd_ne n]; exact s2 _ _ h
    have eo2 : upd (upd H1 q (.lst [])) oa (.ins (c_Order K) dx (putF "own_letters" (.str (A c 1)) [])) oa = some (.ins (c_Order K) dx [("own_letters", .str (A c 1))]) := upd_same
    generalize upd (upd H1 q (.lst [])) oa (.ins (c_Order K) dx (putF "own_letters" (.str (A c 1)) [])) = H2 at hd2 b2 eo2 ⊢
    refine ⟨_, rfl, _, rfl, fun ca hca => ?_⟩
    refine dc_it walk_str (fun i H3 => Same H2 H3 ∧ H3 ca = some (.dK (if i = 0 then [] else [(aK c 1, .int 1)]))) ⟨Same.new hca, upd_same⟩ (fun _ _ _ _ => trivial) (fun i x H3 H4 hi pv y => ?_) (fun H3 pv => ?_)
    · obtain ⟨s3, hc3⟩ := pv
      obtain ⟨rfl, cc, hcc, rfl⟩ := y
      rw [A_size] at hi
      obtain rfl : i = 0 := by omega
      obtain rfl := A_at hcc
      exact ⟨rfl, _, rfl, _, rfl, d, rfl, .inl ⟨_, .inl (s3 _ _ hd2)⟩, _, rfl, _, DGet.k (k := aK cc 1) (s3 _ _ hd2), [], aK cc 1, rfl, hc3, by show 0 < sizeLine; decide, s3.put hca, upd_same⟩
    · obtain ⟨s3, hc3⟩ := pv
      rw [A_size] at hc3
      have hc4 : H3 ca = some (.dK [(aK c 1, .int 1)]) := hc3
      have eo3 := s3 _ _ eo2
      refine ⟨_, rfl, oa, _, dx, _, rfl, eo3, T.cl_Order, T.na_Order_own_costs, by show 1 < 1000; decide, ?_⟩
      have nca : ca ≠ oa := fun z => by rw [z, eo2] at hca; cases hca
      refine k0 _ ca ⟨⟨dx, upd_same⟩, by rw [upd_ne nca]; exact hc4, h1, h2⟩ (fun a u n h => by rw [upd_ne n]; exact s3 _ _ (b2 a u n h)) ?_
      cases hz : H ca with
      | none => rfl
      | some u => rw [b2 ca u nca hz] at hca; cases hca
end
end Fa

namespace Fa
open PySem PySem.Spec L2
/-! ### promises: many answers -/
def sp_most_answers (K : PySem.W.Frag) : Sp := fun vs H Q _ => ∃ (fa : Addr) (p : Nat), vs = [.ref fa] ∧ FieldAt K H fa p ∧ Q (.int 150) H
def sp_need_answers (K : PySem.W.Frag) : Sp := fun vs H Q _ => ∃ (fa na : Addr) (p : Nat) (_ : NeZero p) (s : Nat → _root_.Fin p) (n : Nat), vs = [.ref fa, .int 0, .ref na] ∧ FieldAt K H fa p ∧ SqL K H na (rowV n s) ∧ n ≤ 100 ∧ ∀ H', Same H H' → Q .non H'
def sp_need_answers0 (K : PySem.W.Frag) : Sp := fun vs H Q _ => ∃ (fa na : Addr) (p : Nat), vs = [.ref fa, .int 0, .ref na] ∧ FieldAt K H fa p ∧ SqT K H na [] ∧ ∀ H', Same H H' → Q .non H'
section
variable {p : Nat} [NeZero p]
def bmL (s : Nat → _root_.Fin p) (n : Nat) : Nat := (Mx.bm Mx.inv s n).L
def bmLs (s : Nat → _root_.Fin p) (n : Nat) : List V := (List.range (n + 1)).map fun i => .int ((bmL s i : Nat) : Int)
theorem bmLs_succ (s : Nat → _root_.Fin p) (n : Nat) : bmLs s (n + 1) = bmLs s n ++ [.int ((bmL s (n + 1) : Nat) : Int)] := by unfold bmLs; rw [List.range_succ (n := n + 1), List.map_append]; rfl
theorem bmLs_len (s : Nat → _root_.Fin p) (n : Nat) : (bmLs s n).length = n + 1 := by unfold bmLs; rw [List.length_map, List.length_range]
theorem bmL_succ (s : Nat → _root_.Fin p) (n : Nat) : newL (Mx.bm Mx.inv s n).C s n (bmL s n) = bmL s (n + 1) := (Mx.bm_len Mx.inv s n).symm
theorem bmRule (h : sixP p) (s : Nat → _root_.Fin p) (n : Nat) : Mx.Rule s n (bmL s n) (Mx.bm Mx.inv s n).C := (Mx.bmOk Mx.inv (Mx.mul_inv h.prime) (Mx.one_ne h.prime) s n).rule
end
/-- what is not the field, the order or its costs stays -/
def Out (fa oa ca : Addr) (t : Addr → Nat) (H H' : Hp) : Prop := ∀ a u, a ≠ fa → a ≠ oa → a ≠ ca → H a = some u → H' a = some u ∧ t a = 0
theorem Out.tup {K : PySem.W.Frag} {fa oa ca : Addr} {t : Addr → Nat} {H H' : Hp} (f : Out fa oa ca t H H') {C1 d1 C2 d2 : Addr} {l1 l2 : List (Str × V)} {x : List (Key × V)} (h1 : H fa = some (.ins C1 d1 l1)) (h2 : H oa = some (.ins C2 d2 l2)) (h3 : H ca = some (.dK x)) {a : Addr} {xs : List V} (h : SqT K H a xs) : SqT K H' a xs := by
  have k : ∀ u, H a = some u → (∀ C d l, u ≠ .ins C d l) → (∀ x, u ≠ .dK x) → H' a = some u := fun u e n1 n2 => (f a u (fun z => by rw [z, h1] at e; exact n1 _ _ _ (Option.some.inj e).symm) (fun z => by rw [z, h2] at e; exact n1 _ _ _ (Option.some.inj e).symm) (fun z => by rw [z, h3] at e; exact n2 _ (Option.some.inj e).symm) e).1
  rcases h with (h | ⟨o, h⟩) | h
  · exact .inl (.inl (k _ h (fun _ _ _ z => by cases z) (fun _ z => by cases z)))
  · exact .inl (.inr ⟨o, k _ h (fun _ _ _ z => by cases z) (fun _ z => by cases z)⟩)
  · exact .inr h
def sp_grid_of (K : PySem.W.Frag) : Sp := fun vs H Q _ => ∃ (fa oa ca na : Addr) (p c : Nat) (_ : NeZero p) (s : Nat → _root_.Fin p) (n : Nat), vs = [.ref fa, .ref oa, .ref na] ∧ FieldAt K H fa p ∧ OrderAt K H oa c ca ∧ H na = some (.lst (rowV n s)) ∧ n ≤ 100 ∧
  ∀ H' ga D lead sh, H ga = none → GridHas K H' ga p D → Std D s n (bmL s n) lead sh → D.gsL = bmLs s n → D.c = c → Out fa oa ca D.tg H H' → Q (.ref ga) H'
def sp_grid_of0 (K : PySem.W.Frag) : Sp := fun vs H Q _ => ∃ (fa oa ca na : Addr) (p c : Nat) (_ : NeZero p) (s : Nat → _root_.Fin p), vs = [.ref fa, .ref oa, .ref na] ∧ FieldAt K H fa p ∧ OrderAt K H oa c ca ∧ SqT K H na [] ∧
  ∀ H' ga D lead sh, H ga = none → GridHas K H' ga p D → Std D s 0 0 lead sh → D.gsL = [.int 0] → D.c = c → D.fa = fa → D.oa = oa → D.ca = ca → Out fa oa ca D.tg H H' → Q (.ref ga) H'
section
variable {P : Program} {w : World} {K : PySem.W.Frag} {mg : Str → Option Value} {base : Heap}
theorem ok_most_answers (T : TX K mg) : FnOk P w K mg base CX0 1 (a_most_answers K) (d_ K (a_most_answers K)) ["field"] (sp_most_answers K) := by
  refine T.F_most_answers.ok sc_most_answers (fun vs H Q E h => ?_) (fun cdv Ar outer s0 H vs Q E hr h => ?_)
  · (repeat (obtain ⟨_, h⟩ := h)); subst_vars; rfl
  · obtain ⟨fa, p, rfl, F, k0⟩ := h
    obtain ⟨u_MAX_FRACTION_ANSWERS, h_MAX_FRACTION_ANSWERS⟩ := T.k_MAX_FRACTION_ANSWERS
    obtain ⟨u_MAX_ANSWERS, h_MAX_ANSWERS⟩ := T.k_MAX_ANSWERS
    have hu := hu_of hr
    refine ⟨_, (pss_one (ps_ret (pe_ifExp (pt_cmpR op_isN (pe_fldK (K := K) rfl (pv 0) (by rfl)) pe_non (nomark _)) (pe_glob (v := .int 60) rfl h_MAX_FRACTION_ANSWERS ⟨_, rfl⟩) (pe_glob (v := .int 150) rfl h_MAX_ANSWERS ⟨_, rfl⟩)))), ?_⟩
    obtain ⟨dx, e⟩ := F.ob
    refine ⟨_, rfl, fa, _, dx, _, _, rfl, e, T.cl_Modulo, T.na_Modulo_own_prime, rfl, ?_⟩
    refine ⟨rfl, _, rfl, ?_⟩
    rw [decide_eq_false (fun z => by cases z)]
    exact k0
theorem ok_need_answers (T : TX K mg) : FnOk P w K mg base CX0 5 (a_need_answers K) (d_ K (a_need_answers K)) ["field", "ahead", "numbers"] (sp_need_answers K) := by
  refine T.F_need_answers.ok sc_need_answers (fun vs H Q E h => ?_) (fun cdv Ar outer s0 H vs Q E hr h => ?_)
  · (repeat (obtain ⟨_, h⟩ := h)); subst_vars; rfl
  · obtain ⟨fa, na, p, nz, s, n, rfl, F, hl, hn, k0⟩ := h
    have hu := hu_of hr
    refine ⟨_, (pss_cons (ps_for PassesOwn.never rfl (pi_enum (by rfl) T.n_enumerate (pa_cons (pv 2) pa_nil)) (pg_tup (by rfl) (pgs_cons (pg_name (i := 3) sc_need_answers.nd rfl (Or.inl rfl)) (pgs_cons (pg_name (i := 4) sc_need_answers.nd rfl (Or.inl rfl)) pgs_nil))) (pss_one (ps_if (pt_not (pt_val (pe_meth (pv 0) T.cl_Modulo T.mt_Modulo_is_number (ok_Field_is_number T) (by exact hr.mono (by decide)) T.b_Field_is_number .nil pass0 (pa_cons (pv 4) pa_nil)))) (pss_one ps_never) pss_nil)))
      (pss_one (ps_if (pt_cmpR op_gt (pe_op op_add (pv 1) (pe_callB call_len_seq (by rfl) T.n_len (by decide +kernel) (pa_cons (pv 2) pa_nil))) (pe_call (ok_most_answers T) (by exact hr.mono (by decide)) rfl T.g_most_answers T.F_most_answers.kp T.b_most_answers .nil pass0 (pa_cons (pv 0) pa_nil)) (nomark _)) (pss_one ps_never) pss_nil))), ?_⟩
    obtain ⟨fdx, fe⟩ := F.ob
    refine ⟨_, rfl, na, _, rfl, hl, ?_⟩
    refine for_it walk_enum (fun i σ H1 => ∃ v3 v4, σ = [some (.ref fa), some (.int 0), some (.ref na), v3, v4] ∧ Same H H1) ⟨none, none, rfl, Same.refl _⟩ (fun i σ H1 _ pv => by obtain ⟨_, _, _, s1⟩ := pv; exact s1.seq hl) (fun i x σ H1 H2 hi pv y => ?_) (fun σ H1 pv => ?_)
    · obtain ⟨v3, v4, rfl, s1⟩ := pv
      obtain ⟨Tq, x1, x2, rfl, hT, rfl, h1, h2⟩ := y
      rw [rowV_len] at hi
      have h2 : (rowV n s)[i]? = some x2 := h2
      rw [rowV_get hi] at h2
      obtain rfl := (Option.some.inj h2).symm
      obtain rfl := (Option.some.inj h1).symm
      have s2 := s1.trans (Same.new (o := .tup [.int (i : Nat), fv (s i)]) hT)
      refine ⟨Tq, [.int ((i : Nat) : Int), fv (s i)], rfl, SqT.of upd_same, rfl, _, _, rfl, _, _, rfl, rfl, ?_⟩
      generalize upd H1 Tq (.tup [.int ((i : Nat) : Int), fv (s i)]) = H2 at s2 ⊢
      refine ⟨_, rfl, fa, fdx, _, rfl, s2 _ _ fe, no_field (by decide +kernel), _, rfl, fa, p, s i, rfl, F.same s2, fun H3 s3 => ?_⟩
      exact ⟨_, rfl, _, _, rfl, s2.trans s3⟩
    · obtain ⟨v3, v4, rfl, s1⟩ := pv
      refine ⟨_, rfl, _, rfl, na, _, rfl, .inl (s1.seq hl), _, _, rfl, rfl, _, rfl, fa, p, rfl, F.same s1, _, _, rfl, rfl, _, rfl, ?_⟩
      rw [rowV_len, decide_eq_false (by omega)]
      exact k0 H1 s1
theorem ok_need_answers0 (T : TX K mg) : FnOk P w K mg base CX0 5 (a_need_answers K) (d_ K (a_need_answers K)) ["field", "ahead", "numbers"] (sp_need_answers0 K) := by
  refine T.F_need_answers.ok sc_need_answers (fun vs H Q E h => ?_) (fun cdv Ar outer s0 H vs Q E hr h => ?_)
  · (repeat (obtain ⟨_, h⟩ := h)); subst_vars; rfl
  · obtain ⟨fa, na, p, rfl, F, hl, k0⟩ := h
    have hu := hu_of hr
    refine ⟨_, (pss_cons (ps_for PassesOwn.never rfl (pi_enum0 (by rfl) T.n_enumerate (pa_cons (pv 2) pa_nil)) (pg_tup (by rfl) (pgs_cons (pg_name (i := 3) sc_need_answers.nd rfl (Or.inl rfl)) (pgs_cons (pg_name (i := 4) sc_need_answers.nd rfl (Or.inl rfl)) pgs_nil))) (pss_one (ps_if (pt_not (pt_val (pe_meth (pv 0) T.cl_Modulo T.mt_Modulo_is_number (ok_Field_is_number T) (by exact hr.mono (by decide)) T.b_Field_is_number .nil pass0 (pa_cons (pv 4) pa_nil)))) (pss_one ps_never) pss_nil)))
      (pss_one (ps_if (pt_cmpR op_gt (pe_op op_add (pv 1) (pe_callB call_len_seq (by rfl) T.n_len (by decide +kernel) (pa_cons (pv 2) pa_nil))) (pe_call (ok_most_answers T) (by exact hr.mono (by decide)) rfl T.g_most_answers T.F_most_answers.kp T.b_most_answers .nil pass0 (pa_cons (pv 0) pa_nil)) (nomark _)) (pss_one ps_never) pss_nil))), ?_⟩
    obtain ⟨fdx, fe⟩ := F.ob
    refine ⟨_, rfl, na, rfl, hl, ?_⟩
    refine for_it walk_enum0 (fun i σ H1 => ∃ v3 v4, σ = [some (.ref fa), some (.int 0), some (.ref na), v3, v4] ∧ Same H H1) ⟨none, none, rfl, Same.refl _⟩ (fun i σ H1 _ pv => by obtain ⟨_, _, _, s1⟩ := pv; exact s1.tup hl) (fun i x σ H1 H2 hi pv y => y.elim) (fun σ H1 pv => ?_)
    obtain ⟨v3, v4, rfl, s1⟩ := pv
    refine ⟨_, rfl, _, rfl, na, _, rfl, .inr (s1.tup hl), _, _, rfl, rfl, _, rfl, fa, p, rfl, F.same s1, _, _, rfl, rfl, _, rfl, ?_⟩
    exact k0 H1 s1
theorem ok_grid_of (T : TX K mg) : FnOk P w K mg base CX0 8 (a_grid_of K) (d_ K (a_grid_of K)) ["field", "order", "numbers"] (sp_grid_of K) := by
  refine T.F_grid_of.ok sc_grid_of (fun vs H Q E h => ?_) (fun cdv Ar outer s0 H vs Q E hr h => ?_)
  · (repeat (obtain ⟨_, h⟩ := h)); subst_vars; rfl
  · obtain ⟨fa, oa, ca, na, p, c, nz, s, n, rfl, F, O, hl, hn, k0⟩ := h
    have hu := hu_of hr
    refine ⟨_, (pss_cons (ps_set (i := 3) sc_grid_of.nd rfl (Or.inl rfl) (pe_make T.mk_Grid (ok_Grid_init T) (by exact hr.mono (by decide)) rfl T.g_Grid T.b_Grid_init .nil pass0 (pa_cons (pv 0) (pa_cons (pv 1) pa_nil))))
      (pss_cons (ps_for PassesOwn.never rfl (pi_list (pv 2)) (pg_name (i := 4) sc_grid_of.nd rfl (Or.inl rfl)) (pss_one (ps_expr (pe_meth (pv 3) T.cl_Grid T.mt_Grid_take (ok_Grid_take T) (by exact hr.mono (by decide)) T.b_Grid_take .nil pass0 (pa_cons (pv 4) pa_nil)))))
      (pss_one (ps_ret (pv 3))))), ?_⟩
    obtain ⟨fdx, fe⟩ := F.ob
    obtain ⟨odx, oe⟩ := O.ob
    have na1 : na ≠ fa := ne_of hl fe (by intro z; cases z)
    have na2 : na ≠ oa := ne_of hl oe (by intro z; cases z)
    have na3 : na ≠ ca := ne_of hl O.co (by intro z; cases z)
    refine ⟨_, rfl, _, rfl, fun ga dx hg hdx hne => ?_⟩
    have s0' : Same H (upd (upd H dx (.own ga)) ga (.ins (c_Grid K) dx [])) := (Same.new hdx).put hg
    refine ⟨ga, fa, oa, ca, dx, p, c, rfl, upd_same, F.same s0', O.same s0', fun H1 D G hc hm hfa hoa hca hup hkw hkv hnk hcc hld hwl hpr hso hgs fr => ⟨rfl, ?_⟩⟩
    have S0 : Std D s 0 (bmL s 0) (fun _ => 0) (fun _ => []) := ⟨⟨hkw, hkv, hnk, by omega⟩, hcc, ⟨hm, hld, hwl, hpr, hso, fun i h => absurd h (Nat.not_lt_zero _)⟩, fun i h => absurd h (Nat.not_lt_zero _), by rw [hup, hc], Mx.GM.start _ _ _, ⟨_, Mx.rule_zero s⟩, by omega⟩
    have fr0 : Out fa oa ca D.tg H H1 := fun a u h1 h2 h3 e => fr a u (fun z => by rw [z, hg] at e; cases e) h1 h2 h3 (s0' _ _ e)
    have g0 : D.gsL = bmLs s 0 := hgs
    refine ⟨_, rfl, _, rfl, ⟨_, SqL.of (fr0 _ _ na1 na2 na3 hl).1⟩, ?_⟩
    refine for_it (walk_list (K := K) (a := na) (xs := rowV n s)) (fun i σ H2 => ∃ D v4 lead sh, σ = [some (.ref fa), some (.ref oa), some (.ref na), some (.ref ga), v4] ∧ GridHas K H2 ga p D ∧ Std D s i (bmL s i) lead sh ∧ D.gsL = bmLs s i ∧ D.c = c ∧ Out fa oa ca D.tg H H2) ⟨D, none, _, _, rfl, G, S0, g0, hc, fr0⟩ (fun i σ H2 _ pv => ?_) (fun i x σ H2 H3 hi pv y => ?_) (fun σ H2 pv => ?_)
    · obtain ⟨D, v4, lead, sh, rfl, G, S, g, hc, f⟩ := pv
      exact SqL.of (f _ _ na1 na2 na3 hl).1
    · obtain ⟨D, v4, lead, sh, rfl, G, S, g, hc, f⟩ := pv
      obtain ⟨rfl, hx⟩ := y
      rw [rowV_len] at hi
      rw [rowV_get hi] at hx
      obtain rfl := (Option.some.inj hx).symm
      refine ⟨_, rfl, ga, D.dx, _, rfl, G.ob, no_grid (by decide +kernel), _, rfl, ga, D, p, nz, s, i, _, lead, sh, _, (Mx.bm Mx.inv s (i + 1)).C, rfl, G, S, bmRule F.six s i, ?_, ⟨by omega, by rw [g, bmLs_len]; omega⟩, fun H4 D' lead' sh' G' S' g' hc' f' => ?_⟩
      · rw [bmL_succ]; exact bmRule F.six s (i + 1)
      · rw [bmL_succ] at S' g'
        exact ⟨D', _, lead', sh', rfl, G', S', by rw [g', g, bmLs_succ], hc'.trans hc, fun a u h1 h2 h3 e => let ⟨q1, q2⟩ := f a u h1 h2 h3 e; f' a u q2 q1⟩
    · obtain ⟨D, v4, lead, sh, rfl, G, S, g, hc, f⟩ := pv
      rw [rowV_len] at S g
      exact ⟨_, rfl, k0 H2 ga D lead sh hg G S g hc f⟩
theorem ok_grid_of0 (T : TX K mg) : FnOk P w K mg base CX0 8 (a_grid_of K) (d_ K (a_grid_of K)) ["field", "order", "numbers"] (sp_grid_of0 K) := by
  refine T.F_grid_of.ok sc_grid_of (fun vs H Q E h => ?_) (fun cdv Ar outer s0 H vs Q E hr h => ?_)
  · (repeat (obtain ⟨_, h⟩ := h)); subst_vars; rfl
  · obtain ⟨fa, oa, ca, na, p, c, nz, s, rfl, F, O, hl, k0⟩ := h
    have hu := hu_of hr
    refine ⟨_, (pss_cons (ps_set (i := 3) sc_grid_of.nd rfl (Or.inl rfl) (pe_make T.mk_Grid (ok_Grid_init T) (by exact hr.mono (by decide)) rfl T.g_Grid T.b_Grid_init .nil pass0 (pa_cons (pv 0) (pa_cons (pv 1) pa_nil))))
      (pss_cons (ps_for PassesOwn.never rfl (pi_tup (pv 2)) (pg_name (i := 4) sc_grid_of.nd rfl (Or.inl rfl)) (pss_one (ps_expr (pe_meth (pv 3) T.cl_Grid T.mt_Grid_take (ok_Grid_take T) (by exact hr.mono (by decide)) T.b_Grid_take .nil pass0 (pa_cons (pv 4) pa_nil)))))
      (pss_one (ps_ret (pv 3))))), ?_⟩
    obtain ⟨fdx, fe⟩ := F.ob
    obtain ⟨odx, oe⟩ := O.ob
    refine ⟨_, rfl, _, rfl, fun ga dx hg hdx hne => ?_⟩
    have s0' : Same H (upd (upd H dx (.own ga)) ga (.ins (c_Grid K) dx [])) := (Same.new hdx).put hg
    refine ⟨ga, fa, oa, ca, dx, p, c, rfl, upd_same, F.same s0', O.same s0', fun H1 D G hc hm hfa hoa hca hup hkw hkv hnk hcc hld hwl hpr hso hgs fr => ⟨rfl, ?_⟩⟩
    have S0 : Std D s 0 0 (fun _ => 0) (fun _ => []) := ⟨⟨hkw, hkv, hnk, by omega⟩, hcc, ⟨hm, hld, hwl, hpr, hso, fun i h => absurd h (Nat.not_lt_zero _)⟩, fun i h => absurd h (Nat.not_lt_zero _), by rw [hup, hc], Mx.GM.start _ _ _, ⟨_, Mx.rule_zero s⟩, by omega⟩
    have fr0 : Out fa oa ca D.tg H H1 := fun a u h1 h2 h3 e => fr a u (fun z => by rw [z, hg] at e; cases e) h1 h2 h3 (s0' _ _ e)
    have ht := fr0.tup fe oe O.co hl
    refine ⟨_, rfl, _, rfl, ⟨_, ht⟩, ?_⟩
    refine for_it (walk_tup (K := K) (a := na) (xs := [])) (fun i σ H2 => ∃ v4, σ = [some (.ref fa), some (.ref oa), some (.ref na), some (.ref ga), v4] ∧ H2 = H1) ⟨none, rfl, rfl⟩ (fun i σ H2 _ pv => by obtain ⟨_, _, e⟩ := pv; rw [e]; exact ht) (fun i x σ H2 H3 hi pv y => absurd hi (by simp)) (fun σ H2 pv => ?_)
    obtain ⟨v4, rfl, rfl⟩ := pv
    exact ⟨_, rfl, k0 H2 ga D _ _ hg G S0 hgs hc hfa hoa hca fr0⟩
end
end Fa

namespace Fa
open PySem PySem.Spec L2
/-! ### answers kept -/
def anF (g n : Addr) (z : Int) (b o c : Addr) : List (Str × V) := [("own_grid", .ref g), ("own_numbers", .ref n), ("own_size", .int z), ("own_basis", .ref b), ("own_borders", .ref o), ("own_columns", .ref c)]
/-- all but the tables and one object stay -/
def Kp (aa : Addr) (H H' : Hp) : Prop := ∀ a u, a ≠ aa → (∀ ps, u ≠ .tbl ps) → H a = some u → H' a = some u
theorem Kp.trans {aa : Addr} {H H' H'' : Hp} (f : Kp aa H H') (g : Kp aa H' H'') : Kp aa H H'' := fun a u n t e => g a u n t (f a u n t e)
theorem Kp.of {aa : Addr} {H H' : Hp} (s : Same H H') : Kp aa H H' := fun a u _ _ e => s a u e
theorem Kp.ext {aa : Addr} {H H' : Hp} (s : LamX.ExtN H H') : Kp aa H H' := fun a u _ t e => s a u e t
theorem Kp.put {aa : Addr} {H : Hp} {o : HO} : Kp aa H (upd H aa o) := fun a u n _ e => by rw [upd_ne n]; exact e
theorem Kp.tup {K : PySem.W.Frag} {aa : Addr} {H H' : Hp} (f : Kp aa H H') {a : Addr} {xs : List V} (n : a ≠ aa) (h : SqT K H a xs) : SqT K H' a xs := by
  rcases h with (h | ⟨o, h⟩) | h
  · exact .inl (.inl (f _ _ n (fun _ z => by cases z) h))
  · exact .inl (.inr ⟨o, f _ _ n (fun _ z => by cases z) h⟩)
  · exact .inr h
theorem tabs_fr {T : List (Addr × Str)} {H H' : Hp} (t : LamX.Tabs T H) (e : ∀ a u, H a = some u → ((∃ ps, u = .tbl ps) ∨ ∃ f, u = .ext f) → H' a = some u) : LamX.Tabs T H' := fun p hp => by
  obtain ⟨ps, h1, h2, h3⟩ := t p hp
  refine ⟨ps, e _ _ h1 (.inl ⟨_, rfl⟩), h2, fun pos cv hc => ?_⟩
  obtain ⟨c, e1, e2⟩ := h3 pos cv hc
  exact ⟨c, e1, e _ _ e2 (.inr ⟨_, rfl⟩)⟩
theorem tabs_same {T : List (Addr × Str)} {H H' : Hp} (t : LamX.Tabs T H) (s : Same H H') : LamX.Tabs T H' := tabs_fr t fun a u e _ => s a u e
theorem tabs_put {T : List (Addr × Str)} {H : Hp} {aa C dx : Addr} {l : List (Str × V)} {o : HO} (t : LamX.Tabs T H) (h : H aa = some (.ins C dx l)) : LamX.Tabs T (upd H aa o) := tabs_fr t fun a u e z => by
  rw [upd_ne fun q => by
    rw [q, h] at e
    obtain rfl := Option.some.inj e
    rcases z with ⟨_, z⟩ | ⟨_, z⟩ <;> cases z]
  exact e
def AnsFl (fl : List (Str × V)) : Prop := fl = [] ∨ ∃ g n z b o c, fl = anF g n z b o c
theorem putF_len {f : Str} {v : V} : ∀ l : List (Str × V), (putF f v l).length ≤ l.length + 1
  | [] => by unfold putF; exact Nat.le_refl _
  | (n, u) :: r => by
    unfold putF
    split
    · simp
    · have := putF_len (f := f) (v := v) r
      simp only [List.length_cons]; omega
theorem AnsFl.len {fl : List (Str × V)} (h : AnsFl fl) : fl.length ≤ 6 := by
  rcases h with rfl | ⟨g', n', z', b', o', c', rfl⟩
  · exact Nat.zero_le _
  · exact Nat.le_refl 6
theorem AnsFl.fin {fl : List (Str × V)} (h : AnsFl fl) (g n : Addr) (z : Int) (b o c : Addr) : putF "own_columns" (.ref c) (putF "own_borders" (.ref o) (putF "own_basis" (.ref b) (putF "own_size" (.int z) (putF "own_numbers" (.ref n) (putF "own_grid" (.ref g) fl))))) = anF g n z b o c := by
  rcases h with rfl | ⟨g', n', z', b', o', c', rfl⟩
  · rfl
  · rfl
theorem AnsFl.bas {fl : List (Str × V)} (h : AnsFl fl) (g n : Addr) (z : Int) (b o : Addr) : (putF "own_borders" (.ref o) (putF "own_basis" (.ref b) (putF "own_size" (.int z) (putF "own_numbers" (.ref n) (putF "own_grid" (.ref g) fl))))).lookup ("own_basis" : Str) = some (V.ref b) := by
  rcases h with rfl | ⟨g', n', z', b', o', c', rfl⟩
  · rfl
  · rfl
theorem AnsFl.no {fl : List (Str × V)} (h : AnsFl fl) : fl.lookup ("keep" : Str) = none := by
  rcases h with rfl | ⟨g', n', z', b', o', c', rfl⟩
  · rfl
  · rfl
def sp_Answers_keep (K : PySem.W.Frag) : Sp := fun vs H Q _ => ∃ (aa ga dx : Addr) (fl : List (Str × V)) (D : GD) (p : Nat) (_ : NeZero p) (s : Nat → _root_.Fin p) (n L : Nat) (lead : Nat → Nat) (sh : Nat → List (Nat × _root_.Fin p)), vs = [.ref aa, .ref ga] ∧
  H aa = some (.ins (c_Answers K) dx fl) ∧ AnsFl fl ∧ GridHas K H ga p D ∧ Std D s n L lead sh ∧ D.tg aa = 0 ∧ LamX.Tabs (lamT K) H ∧
  ∀ H' (t : Addr → Nat) (na ba bo co : Addr), GridHas K H' ga p { D with tg := t } → t aa = 0 → H' aa = some (.ins (c_Answers K) dx (anF ga na (L : Nat) ba bo co)) → SqT K H' ba (wordsV D.c L) → SqT K H' bo [.str (A D.c L)] → LamX.Tabs (lamT K) H' → Kp aa H H' → Q .non H'
section
variable {P : Program} {w : World} {K : PySem.W.Frag} {mg : Str → Option Value} {base : Heap}
theorem ok_Answers_keep (T : TX K mg) (TB : LamX.TabB base mg (lc K) (lP K)) : FnOk P w K mg base CX0 7 (a_Answers_keep K) (d_ K (a_Answers_keep K)) ["self", "grid"] (sp_Answers_keep K) := by
  refine T.F_Answers_keep.ok sc_Answers_keep (fun vs H Q E h => ?_) (fun cdv Ar outer s0 H vs Q E hr h => ?_)
  · (repeat (obtain ⟨_, h⟩ := h)); subst_vars; rfl
  · obtain ⟨aa, ga, dx, fl, D, p, nz, s, n, L, lead, sh, rfl, e0, hfl, G, S, ta, tb0, k0⟩ := h
    have hu := hu_of hr
    refine ⟨_, (pss_cons (ps_fld (pv 0) (pv 1) rfl)
      (pss_cons (ps_fld (pv 0) (pe_callTy call_tuple_of (by rfl) T.n_tuple (by decide +kernel) (pa_cons (pe_fldK (K := K) rfl (pv 1) (by rfl)) pa_nil)) rfl)
      (pss_cons (ps_fld (pv 0) (pe_meth0 (pv 1) T.cl_Grid T.mt_Grid_size_now (ok_Grid_size_now T) (by exact hr.mono (by decide)) T.b_Grid_size_now .nil pass0) rfl)
      (pss_cons (ps_fld (pv 0) (pe_callTy call_tuple_of (by rfl) T.n_tuple (by decide +kernel) (pa_cons (pe_meth0 (pv 1) T.cl_Grid T.mt_Grid_basis_words (ok_Grid_basis_words T TB) (by exact hr.mono (by decide)) T.b_Grid_basis_words .nil pass0) pa_nil)) rfl)
      (pss_cons (ps_fld (pv 0) (pe_callTy call_tuple_of (by rfl) T.n_tuple (by decide +kernel) (pa_cons (pe_meth0 (pv 1) T.cl_Grid T.mt_Grid_border_words (ok_Grid_border_words T) (by exact hr.mono (by decide)) T.b_Grid_border_words .nil pass0) pa_nil)) rfl)
      (pss_one (ps_fld (pv 0) (pe_callTy call_tuple_of (by rfl) T.n_tuple (by decide +kernel) (pa_cons (pe_lc (own := [("word", 2)]) (g := gName 2) (tt := tYes) rfl sc_Answers_keep.nd (pi_tup (pe_fldK (K := K) rfl (pv 0) (by rfl))) (blkOk_by (own := [("word", 2)]) (N := N_Answers_keep) (sc := defScope s_Answers_keep) (by decide +kernel)) (fun _ _ _ _ _ => (pg_name (i := 2) sc_Answers_keep.nd rfl (Or.inl rfl))) (fun _ _ _ _ _ => pts_nil) (by intro _ _ _ _ _; exact (pe_ix (ix_listK (K := K) rfl) (pe_fldK (K := K) rfl (pv 1) (by rfl)) (pe_dget (by exact hu) (pe_fldK (K := K) rfl (pv 1) (by rfl)) (pv 2) (fun _ _ => rfl)) (fun _ _ => rfl)))) pa_nil)) rfl))))))), ?_⟩
    obtain ⟨C, hC⟩ := S.rule
    have hLn := hC.le
    have hf := S.few
    have l0 := hfl.len
    have na0 : ∀ {b : Addr} {u : HO}, H b = some u → (∀ f, u ≠ .ins (c_Answers K) dx f) → b ≠ aa := fun e n z => by rw [z, e0] at e; exact n _ (Option.some.inj e).symm
    -- own_grid
    refine ⟨_, rfl, _, rfl, aa, _, dx, _, rfl, e0, T.cl_Answers, T.na_Answers_own_grid, by omega, ?_⟩
    have l1 := putF_len (f := "own_grid") (v := .ref ga) fl
    have G1 := G.other (o := .ins (c_Answers K) dx (putF "own_grid" (.ref ga) fl)) ta
    have tb1 := tabs_put (o := .ins (c_Answers K) dx (putF "own_grid" (.ref ga) fl)) tb0 e0
    have e1 : upd H aa (.ins (c_Answers K) dx (putF "own_grid" (.ref ga) fl)) aa = some (.ins (c_Answers K) dx (putF "own_grid" (.ref ga) fl)) := upd_same
    have k1 : Kp aa H (upd H aa (.ins (c_Answers K) dx (putF "own_grid" (.ref ga) fl))) := Kp.put
    generalize upd H aa (.ins (c_Answers K) dx (putF "own_grid" (.ref ga) fl)) = H1 at G1 tb1 e1 k1 ⊢
    -- own_numbers
    refine ⟨_, rfl, ga, _, D.dx, _, _, rfl, G1.ob, T.cl_Grid, T.na_Grid_known_values, gf_known_values D, D.kv, _, rfl, .inl ⟨SqL.of G1.kv, fun na hna => ?_⟩⟩
    have sn : Same H1 (upd H1 na (.tup D.kvL)) := Same.new hna
    refine ⟨_, rfl, aa, _, dx, _, rfl, sn _ _ e1, T.cl_Answers, T.na_Answers_own_numbers, by omega, ?_⟩
    have l2 := putF_len (f := "own_numbers") (v := .ref na) (putF "own_grid" (.ref ga) fl)
    have G2 := (G1.same sn).other (o := .ins (c_Answers K) dx (putF "own_numbers" (.ref na) (putF "own_grid" (.ref ga) fl))) ta
    have tb2 := tabs_put (o := .ins (c_Answers K) dx (putF "own_numbers" (.ref na) (putF "own_grid" (.ref ga) fl))) (tabs_same tb1 sn) (sn _ _ e1)
    have e2 : upd (upd H1 na (.tup D.kvL)) aa (.ins (c_Answers K) dx (putF "own_numbers" (.ref na) (putF "own_grid" (.ref ga) fl))) aa = some (.ins (c_Answers K) dx (putF "own_numbers" (.ref na) (putF "own_grid" (.ref ga) fl))) := upd_same
    have k2 : Kp aa H (upd (upd H1 na (.tup D.kvL)) aa (.ins (c_Answers K) dx (putF "own_numbers" (.ref na) (putF "own_grid" (.ref ga) fl)))) := (k1.trans (Kp.of sn)).trans Kp.put
    generalize upd (upd H1 na (.tup D.kvL)) aa (.ins (c_Answers K) dx (putF "own_numbers" (.ref na) (putF "own_grid" (.ref ga) fl))) = H2 at G2 tb2 e2 k2 ⊢
    have bas := hfl.bas ga na (L : Nat)
    have fin := hfl.fin ga na (L : Nat)
    generalize putF "own_numbers" (.ref na) (putF "own_grid" (.ref ga) fl) = f2 at l2 e2 bas fin
    -- own_size
    have hld : D.ldD.length = L := by rw [S.basis.ld, dG_len]
    refine ⟨_, rfl, ga, D.dx, _, rfl, G2.ob, no_grid (by decide +kernel), ga, D, p, rfl, G2.toGridCore, _, rfl, aa, _, dx, _, rfl, e2, T.cl_Answers, T.na_Answers_own_size, by omega, ?_⟩
    rw [hld]
    have l3 := putF_len (f := "own_size") (v := .int (L : Nat)) f2
    have G3 := G2.other (o := .ins (c_Answers K) dx (putF "own_size" (.int (L : Nat)) f2)) ta
    have tb3 := tabs_put (o := .ins (c_Answers K) dx (putF "own_size" (.int (L : Nat)) f2)) tb2 e2
    have e3 : upd H2 aa (.ins (c_Answers K) dx (putF "own_size" (.int (L : Nat)) f2)) aa = some (.ins (c_Answers K) dx (putF "own_size" (.int (L : Nat)) f2)) := upd_same
    have k3 : Kp aa H (upd H2 aa (.ins (c_Answers K) dx (putF "own_size" (.int (L : Nat)) f2))) := k2.trans Kp.put
    generalize upd H2 aa (.ins (c_Answers K) dx (putF "own_size" (.int (L : Nat)) f2)) = H3 at G3 tb3 e3 k3 ⊢
    generalize putF "own_size" (.int (L : Nat)) f2 = f3 at l3 e3 bas fin
    -- own_basis
    refine ⟨_, rfl, ga, D.dx, _, rfl, G3.ob, no_grid (by decide +kernel), ga, D, p, nz, s, n, L, lead, sh, rfl, G3, S, tb3, fun R H4 x4 tb4 hR => ?_⟩
    have G4 := G3.ext x4
    have e4 := x4 _ _ e3 (fun _ z => by cases z)
    refine ⟨R, _, rfl, .inl ⟨SqL.of upd_same, fun ba hba => ?_⟩⟩
    have sb : Same H4 (upd (upd H4 R (.lst (wordsV D.c L))) ba (.tup (wordsV D.c L))) := (Same.new hR).trans (Same.new hba)
    have hb5 : upd (upd H4 R (.lst (wordsV D.c L))) ba (.tup (wordsV D.c L)) ba = some (.tup (wordsV D.c L)) := upd_same
    generalize upd (upd H4 R (.lst (wordsV D.c L))) ba (.tup (wordsV D.c L)) = H5 at sb hb5 ⊢
    have G5 := G4.same sb
    have e5 := sb _ _ e4
    have nb : ba ≠ aa := fun z => by rw [z, e5] at hb5; cases hb5
    refine ⟨_, rfl, aa, _, dx, _, rfl, e5, T.cl_Answers, T.na_Answers_own_basis, by omega, ?_⟩
    have l4 := putF_len (f := "own_basis") (v := .ref ba) f3
    have ta5 : ({ D with tg := tgAt H4 D.tg } : GD).tg aa = 0 := tgAt_zero ta
    have G6 := G5.other (o := .ins (c_Answers K) dx (putF "own_basis" (.ref ba) f3)) ta5
    have tb6 := tabs_put (o := .ins (c_Answers K) dx (putF "own_basis" (.ref ba) f3)) (tabs_same tb4 sb) e5
    have e6 : upd H5 aa (.ins (c_Answers K) dx (putF "own_basis" (.ref ba) f3)) aa = some (.ins (c_Answers K) dx (putF "own_basis" (.ref ba) f3)) := upd_same
    have k6 : Kp aa H (upd H5 aa (.ins (c_Answers K) dx (putF "own_basis" (.ref ba) f3))) := ((k3.trans (Kp.ext x4)).trans (Kp.of sb)).trans Kp.put
    have hb6 : upd H5 aa (.ins (c_Answers K) dx (putF "own_basis" (.ref ba) f3)) ba = some (.tup (wordsV D.c L)) := by rw [upd_ne nb]; exact hb5
    generalize upd H5 aa (.ins (c_Answers K) dx (putF "own_basis" (.ref ba) f3)) = H6 at G6 tb6 e6 k6 hb6 ⊢
    have bas := bas ba
    have fin := fin ba
    generalize putF "own_basis" (.ref ba) f3 = f4 at l4 e6 bas fin
    have S6 := S.tags (tgAt H4 D.tg)
    generalize tgAt H4 D.tg = t at G6 S6 ta5
    -- own_borders
    refine ⟨_, rfl, ga, D.dx, _, rfl, G6.ob, no_grid (by decide +kernel), ga, _, p, nz, s, n, L, lead, sh, rfl, G6, S6, fun R2 H7 hR2 s7 hl7 => ?_⟩
    have G7 := G6.same s7
    have e7 := s7 _ _ e6
    refine ⟨R2, _, rfl, .inl ⟨SqL.of hl7, fun bo hbo => ?_⟩⟩
    have s8 : Same H7 (upd H7 bo (.tup [.str (A D.c L)])) := Same.new hbo
    have hb8 : upd H7 bo (.tup [.str (A D.c L)]) bo = some (.tup [.str (A D.c L)]) := upd_same
    generalize upd H7 bo (.tup [.str (A D.c L)]) = H8 at s8 hb8 ⊢
    have G8 := G7.same s8
    have e8 := s8 _ _ e7
    have no : bo ≠ aa := fun z => by rw [z, e8] at hb8; cases hb8
    refine ⟨_, rfl, aa, _, dx, _, rfl, e8, T.cl_Answers, T.na_Answers_own_borders, by omega, ?_⟩
    have l5 := putF_len (f := "own_borders") (v := .ref bo) f4
    have G9 := G8.other (o := .ins (c_Answers K) dx (putF "own_borders" (.ref bo) f4)) ta5
    have tb9 := tabs_put (o := .ins (c_Answers K) dx (putF "own_borders" (.ref bo) f4)) (tabs_same tb6 (s7.trans s8)) e8
    have e9 : upd H8 aa (.ins (c_Answers K) dx (putF "own_borders" (.ref bo) f4)) aa = some (.ins (c_Answers K) dx (putF "own_borders" (.ref bo) f4)) := upd_same
    have k9 : Kp aa H (upd H8 aa (.ins (c_Answers K) dx (putF "own_borders" (.ref bo) f4))) := (k6.trans (Kp.of (s7.trans s8))).trans Kp.put
    have hb9 : upd H8 aa (.ins (c_Answers K) dx (putF "own_borders" (.ref bo) f4)) bo = some (.tup [.str (A D.c L)]) := by rw [upd_ne no]; exact hb8
    have hc9 : upd H8 aa (.ins (c_Answers K) dx (putF "own_borders" (.ref bo) f4)) ba = some (.tup (wordsV D.c L)) := by rw [upd_ne nb]; exact s8 _ _ (s7 _ _ hb6)
    generalize upd H8 aa (.ins (c_Answers K) dx (putF "own_borders" (.ref bo) f4)) = H9 at G9 tb9 e9 k9 hb9 hc9 ⊢
    have bas := bas bo
    have fin := fin bo
    generalize putF "own_borders" (.ref bo) f4 = f5 at l5 e9 bas fin
    -- own_columns
    refine ⟨_, rfl, aa, _, dx, _, _, rfl, e9, T.cl_Answers, T.na_Answers_own_basis, bas, ba, rfl, ⟨_, SqT.of hc9⟩, fun R3 hR3 => ?_⟩
    refine lc_map (walk_tup (K := K) (a := ba) (xs := wordsV D.c L)) (fun i => .str (A D.c (lead i))) hR3 (by rw [wordsV_len]; omega) (fun Hx sx => SqT.of (sx _ _ hc9)) (fun i x Hx Hy hi sx y Kt kt => ?_) (fun Hx sx hD => ?_)
    · obtain ⟨rfl, hx⟩ := y
      rw [wordsV_len] at hi
      rw [wordsV_get hi] at hx
      obtain rfl := (Option.some.inj hx).symm
      have Gx := G9.same sx
      have g := DGet.k (k := aK D.c i) Gx.ld
      rw [S6.basis.ld, show ({ D with tg := t } : GD).c = D.c from rfl, dG_get (aK_injs _ _) hi] at g
      have hk := S.gm.kn i hi
      refine ⟨rfl, _, rfl, ga, _, D.dx, _, _, rfl, Gx.ob, T.cl_Grid, T.na_Grid_known_words, gf_known_words _, _, rfl, ga, _, D.dx, _, _, rfl, Gx.ob, T.cl_Grid, T.na_Grid_leads, gf_leads _, _, rfl, D.ld, _, rfl, g, D.kw, D.kwL, (lead i : Int), .str (A D.c (lead i)), rfl, rfl, SqL.of Gx.kw, ?_, kt _ (Same.refl _)⟩
      rw [S.known.kw]
      exact at_of (j := lead i) rfl (wordsV_get (by omega))
    · rw [wordsV_len] at hD
      refine ⟨R3, _, rfl, .inl ⟨SqL.of hD, fun co hco => ?_⟩⟩
      have sc : Same H9 (upd Hx co (.tup ((List.range L).map fun i => V.str (A D.c (lead i))))) := sx.trans (Same.new hco)
      generalize upd Hx co (.tup ((List.range L).map fun i => V.str (A D.c (lead i)))) = Hz at sc ⊢
      have ez := sc _ _ e9
      refine ⟨_, rfl, aa, _, dx, _, rfl, ez, T.cl_Answers, T.na_Answers_own_columns, by omega, ?_⟩
      rw [fin co]
      refine k0 _ t na ba bo co ((G9.same sc).other ta5) ta5 upd_same ?_ ?_ (tabs_put (tabs_same tb9 sc) ez) ((k9.trans (Kp.of sc)).trans Kp.put)
      · exact SqT.of ((upd_ne nb).trans (sc _ _ hc9))
      · exact SqT.of ((upd_ne no).trans (sc _ _ hb9))
/-! ### promises: the maker and the class method -/
def sp_Answers_init (K : PySem.W.Frag) : Sp := fun vs H Q _ => ∃ (aa fa oa ca va dx : Addr) (p c : Nat), vs = [.ref aa, .ref fa, .ref oa, .ref va] ∧ H aa = some (.ins (c_Answers K) dx []) ∧ FieldAt K H fa p ∧ OrderAt K H oa c ca ∧ SqT K H va [] ∧ LamX.Tabs (lamT K) H ∧
  ∀ H' fl, H' aa = some (.ins (c_Answers K) dx fl) → AnsFl fl → FieldAt K H' fa p → OrderAt K H' oa c ca → LamX.Tabs (lamT K) H' → (∀ a u, a ≠ aa → a ≠ fa → a ≠ oa → a ≠ ca → (∀ ps, u ≠ .tbl ps) → H a = some u → H' a = some u) → Q .non H'
def sp_answers_on (K : PySem.W.Frag) : Sp := fun vs H Q _ => ∃ (ga : Addr) (D : GD) (p : Nat) (_ : NeZero p) (s : Nat → _root_.Fin p) (n L : Nat) (lead : Nat → Nat) (sh : Nat → List (Nat × _root_.Fin p)), vs = [.ref ga] ∧ GridHas K H ga p D ∧ Std D s n L lead sh ∧ LamX.Tabs (lamT K) H ∧
  ∀ H' (aa dx na ba bo co : Addr) (t : Addr → Nat), GridHas K H' ga p { D with tg := t } → H' aa = some (.ins (c_Answers K) dx (anF ga na (L : Nat) ba bo co)) → SqT K H' ba (wordsV D.c L) → SqT K H' bo [.str (A D.c L)] → LamX.Tabs (lamT K) H' → (∀ a u, a ≠ D.fa → a ≠ D.oa → a ≠ D.ca → (∀ ps, u ≠ HO.tbl ps) → H a = some u → H' a = some u) → Q (.ref aa) H'
end
theorem GridHas.back {K : PySem.W.Frag} {H H' : Hp} {ga : Addr} {p : Nat} {D : GD} (G : GridHas K H ga p D) (f : FieldAt K H' D.fa p) (o : OrderAt K H' D.oa D.c D.ca) (e : ∀ a u, a ≠ D.fa → a ≠ D.oa → a ≠ D.ca → (∀ ps, u ≠ HO.tbl ps) → H a = some u → H' a = some u) : GridHas K H' ga p { D with tg := tgAt H' D.tg } := by
  exact ⟨{ ob := e _ _ (tne G.t_ga G.t_fa (by omega)) (tne G.t_ga G.t_oa (by omega)) (tne G.t_ga G.t_ca (by omega)) (fun ps z => by cases z) G.ob, kw := e _ _ (tne G.t_kw G.t_fa (by omega)) (tne G.t_kw G.t_oa (by omega)) (tne G.t_kw G.t_ca (by omega)) (fun ps z => by cases z) G.kw, kv := e _ _ (tne G.t_kv G.t_fa (by omega)) (tne G.t_kv G.t_oa (by omega)) (tne G.t_kv G.t_ca (by omega)) (fun ps z => by cases z) G.kv, nk := e _ _ (tne G.t_nk G.t_fa (by omega)) (tne G.t_nk G.t_oa (by omega)) (tne G.t_nk G.t_ca (by omega)) (fun ps z => by cases z) G.nk, cc := e _ _ (tne G.t_cc G.t_fa (by omega)) (tne G.t_cc G.t_oa (by omega)) (tne G.t_cc G.t_ca (by omega)) (fun ps z => by cases z) G.cc, ld := e _ _ (tne G.t_ld G.t_fa (by omega)) (tne G.t_ld G.t_oa (by omega)) (tne G.t_ld G.t_ca (by omega)) (fun ps z => by cases z) G.ld, wl := e _ _ (tne G.t_wl G.t_fa (by omega)) (tne G.t_wl G.t_oa (by omega)) (tne G.t_wl G.t_ca (by omega)) (fun ps z => by cases z) G.wl, pr := e _ _ (tne G.t_pr G.t_fa (by omega)) (tne G.t_pr G.t_oa (by omega)) (tne G.t_pr G.t_ca (by omega)) (fun ps z => by cases z) G.pr, so := e _ _ (tne G.t_so G.t_fa (by omega)) (tne G.t_so G.t_oa (by omega)) (tne G.t_so G.t_ca (by omega)) (fun ps z => by cases z) G.so, gs := e _ _ (tne G.t_gs G.t_fa (by omega)) (tne G.t_gs G.t_oa (by omega)) (tne G.t_gs G.t_ca (by omega)) (fun ps z => by cases z) G.gs, F := f, O := o, t_no := fun a h => by show tgAt H' D.tg a = 0; unfold tgAt; rw [h], t_ga := (tgAt_some (e _ _ (tne G.t_ga G.t_fa (by omega)) (tne G.t_ga G.t_oa (by omega)) (tne G.t_ga G.t_ca (by omega)) (fun ps z => by cases z) G.ob)).trans G.t_ga, t_kw := (tgAt_some (e _ _ (tne G.t_kw G.t_fa (by omega)) (tne G.t_kw G.t_oa (by omega)) (tne G.t_kw G.t_ca (by omega)) (fun ps z => by cases z) G.kw)).trans G.t_kw, t_kv := (tgAt_some (e _ _ (tne G.t_kv G.t_fa (by omega)) (tne G.t_kv G.t_oa (by omega)) (tne G.t_kv G.t_ca (by omega)) (fun ps z => by cases z) G.kv)).trans G.t_kv, t_nk := (tgAt_some (e _ _ (tne G.t_nk G.t_fa (by omega)) (tne G.t_nk G.t_oa (by omega)) (tne G.t_nk G.t_ca (by omega)) (fun ps z => by cases z) G.nk)).trans G.t_nk, t_cc := (tgAt_some (e _ _ (tne G.t_cc G.t_fa (by omega)) (tne G.t_cc G.t_oa (by omega)) (tne G.t_cc G.t_ca (by omega)) (fun ps z => by cases z) G.cc)).trans G.t_cc, t_ld := (tgAt_some (e _ _ (tne G.t_ld G.t_fa (by omega)) (tne G.t_ld G.t_oa (by omega)) (tne G.t_ld G.t_ca (by omega)) (fun ps z => by cases z) G.ld)).trans G.t_ld, t_wl := (tgAt_some (e _ _ (tne G.t_wl G.t_fa (by omega)) (tne G.t_wl G.t_oa (by omega)) (tne G.t_wl G.t_ca (by omega)) (fun ps z => by cases z) G.wl)).trans G.t_wl, t_pr := (tgAt_some (e _ _ (tne G.t_pr G.t_fa (by omega)) (tne G.t_pr G.t_oa (by omega)) (tne G.t_pr G.t_ca (by omega)) (fun ps z => by cases z) G.pr)).trans G.t_pr, t_so := (tgAt_some (e _ _ (tne G.t_so G.t_fa (by omega)) (tne G.t_so G.t_oa (by omega)) (tne G.t_so G.t_ca (by omega)) (fun ps z => by cases z) G.so)).trans G.t_so, t_gs := (tgAt_some (e _ _ (tne G.t_gs G.t_fa (by omega)) (tne G.t_gs G.t_oa (by omega)) (tne G.t_gs G.t_ca (by omega)) (fun ps z => by cases z) G.gs)).trans G.t_gs, t_fa := (let ⟨_, q⟩ := f.ob; tgAt_some q).trans G.t_fa, t_oa := (let ⟨_, q⟩ := o.ob; tgAt_some q).trans G.t_oa, t_ca := (tgAt_some o.co).trans G.t_ca }, fun i h => e _ _ (tne (G.t_pra i h) G.t_fa (by omega)) (tne (G.t_pra i h) G.t_oa (by omega)) (tne (G.t_pra i h) G.t_ca (by omega)) (fun ps z => by cases z) (G.prs i h), fun i h => e _ _ (tne (G.t_sha i h) G.t_fa (by omega)) (tne (G.t_sha i h) G.t_oa (by omega)) (tne (G.t_sha i h) G.t_ca (by omega)) (fun ps z => by cases z) (G.shs i h), fun i h => (tgAt_some (e _ _ (tne (G.t_pra i h) G.t_fa (by omega)) (tne (G.t_pra i h) G.t_oa (by omega)) (tne (G.t_pra i h) G.t_ca (by omega)) (fun ps z => by cases z) (G.prs i h))).trans (G.t_pra i h), fun i h => (tgAt_some (e _ _ (tne (G.t_sha i h) G.t_fa (by omega)) (tne (G.t_sha i h) G.t_oa (by omega)) (tne (G.t_sha i h) G.t_ca (by omega)) (fun ps z => by cases z) (G.shs i h))).trans (G.t_sha i h)⟩

section
variable {P : Program} {w : World} {K : PySem.W.Frag} {mg : Str → Option Value} {base : Heap}
theorem ok_Answers_init (T : TX K mg) (TB : LamX.TabB base mg (lc K) (lP K)) : FnR P w K mg base CX0 9 (a_Answers_init K) (starSp 3 (sp_Answers_init K)) := by
  obtain ⟨oc, od, kV, doc, pm, an, cdv, ct, osl, e, lk, hcd⟩ := T.F_Answers_init.ex
  rw [e] at lk
  refine StX.fn_star (ps := ["self", "field", "order"]) lk hcd sc_Answers_init cxup0 (fun us rest hl => match us, hl, rest with | [_, _, _], _, [] => rfl | [_, _, _], _, _ :: _ => rfl) (sp := sp_Answers_init K) (fun Ar outer s0 H vs Q E hr h => ?_)
  · obtain ⟨aa, fa, oa, ca, va, dx, p, c, rfl, e0, F, O, hv, tb0, k0⟩ := h
    have hu := hu_of hr
    refine ⟨_, PSs.nox (pss_cons (ps_expr (pe_call (ok_need_answers0 T) (by exact hr.mono (by decide)) rfl T.g_need_answers T.F_need_answers.kp T.b_need_answers .nil pass0 (pa_cons (pv 1) (pa_cons pe_int (pa_cons (pv 3) pa_nil)))))
      (pss_one (ps_expr (pe_meth (pv 0) T.cl_Answers T.mt_Answers_keep (ok_Answers_keep T TB) (by exact hr.mono (by decide)) T.b_Answers_keep .nil pass0 (pa_cons (pe_call (ok_grid_of0 T) (by exact hr.mono (by decide)) rfl T.g_grid_of T.F_grid_of.kp T.b_grid_of .nil pass0 (pa_cons (pv 1) (pa_cons (pv 2) (pa_cons (pv 3) pa_nil)))) pa_nil))))), ?_⟩
    have nz : NeZero p := ⟨by have := F.six.lo; omega⟩
    obtain ⟨fdx, fe⟩ := F.ob
    obtain ⟨odx, oe⟩ := O.ob
    refine ⟨_, rfl, _, rfl, fa, va, p, rfl, F, hv, fun H1 s1 => ?_⟩
    refine ⟨_, rfl, aa, dx, _, rfl, s1 _ _ e0, rfl, _, rfl, _, rfl, _, rfl, fa, oa, ca, va, p, c, nz, (fun _ => 0), rfl, F.same s1, O.same s1, s1.tup hv, fun H2 ga D lead sh hg G S hgs hc hfa hoa hca f => ?_⟩
    have n1 : aa ≠ fa := ne_of e0 fe (by intro z; injection z with _ _ z; cases z)
    have n2 : aa ≠ oa := ne_of e0 oe (by intro z; injection z with _ _ z; cases z)
    have n3 : aa ≠ ca := ne_of e0 O.co (by intro z; cases z)
    obtain ⟨e2, t2⟩ := f _ _ n1 n2 n3 (s1 _ _ e0)
    have tb2 := tabs_fr (tabs_same tb0 s1) (fun a u e z => (f a u (fun q => by rw [q, s1 _ _ fe] at e; obtain rfl := Option.some.inj e; rcases z with ⟨_, z⟩ | ⟨_, z⟩ <;> cases z) (fun q => by rw [q, s1 _ _ oe] at e; obtain rfl := Option.some.inj e; rcases z with ⟨_, z⟩ | ⟨_, z⟩ <;> cases z) (fun q => by rw [q, s1 _ _ O.co] at e; obtain rfl := Option.some.inj e; rcases z with ⟨_, z⟩ | ⟨_, z⟩ <;> cases z) e).1)
    refine ⟨aa, ga, dx, [], D, p, nz, (fun _ => 0), 0, 0, lead, sh, rfl, e2, .inl rfl, G, S, t2, tb2, fun H3 t na ba bo co G3 t3 e3 hb ho tb3 k3 => ?_⟩
    have F3 := G3.F
    have O3 := G3.O
    rw [show ({ D with tg := t } : GD).fa = fa from hfa] at F3
    rw [show ({ D with tg := t } : GD).oa = oa from hoa, show ({ D with tg := t } : GD).ca = ca from hca, show ({ D with tg := t } : GD).c = c from hc] at O3
    exact k0 H3 _ e3 (.inr ⟨_, _, _, _, _, _, rfl⟩) F3 O3 tb3 fun a u m0 m1 m2 m3 mt e => k3 _ _ m0 mt (f _ _ m1 m2 m3 (s1 _ _ e)).1
theorem ok_answers_on (T : TX K mg) (TB : LamX.TabB base mg (lc K) (lP K)) : FnOk P w K mg base CX0 11 (a_answers_on K) (d_ K (a_answers_on K)) ["grid"] (sp_answers_on K) := by
  refine T.F_answers_on.ok sc_answers_on (fun vs H Q E h => ?_) (fun cdv Ar outer s0 H vs Q E hr h => ?_)
  · (repeat (obtain ⟨_, h⟩ := h)); subst_vars; rfl
  · obtain ⟨ga, D, p, nz, s, n, L, lead, sh, rfl, G, S, tb0, k0⟩ := h
    have hu := hu_of hr
    refine ⟨_, (pss_cons (ps_set (i := 1) sc_answers_on.nd rfl (Or.inl rfl) (StX.pe_makeR T.mk_Answers (ok_Answers_init T TB) (by exact hr.mono (by decide)) rfl T.g_Answers pass0 (pa_cons (pe_fldK (K := K) rfl (pv 0) (by rfl)) (pa_cons (pe_fldK (K := K) rfl (pv 0) (by rfl)) pa_nil))))
      (pss_cons (ps_expr (pe_meth (pv 1) T.cl_Answers T.mt_Answers_keep (ok_Answers_keep T TB) (by exact hr.mono (by decide)) T.b_Answers_keep .nil pass0 (pa_cons (pv 0) pa_nil)))
      (pss_one (ps_ret (pv 1))))), ?_⟩
    refine ⟨_, rfl, ga, _, D.dx, _, _, rfl, G.ob, T.cl_Grid, T.na_Grid_own_field, gf_own_field D, _, rfl, ga, _, D.dx, _, _, rfl, G.ob, T.cl_Grid, T.na_Grid_own_order, gf_own_order D, fun aa dx ha hdx hne => ?_⟩
    have s1 : Same H (upd (upd H dx (.own aa)) aa (.ins (c_Answers K) dx [])) := (Same.new hdx).put ha
    refine ⟨[.ref aa, .ref D.fa, .ref D.oa], [], rfl, rfl, Nat.zero_le _, fun va hva => ?_⟩
    have s2 := s1.trans (Same.new hva (o := .tup []))
    have e1 : upd (upd (upd H dx (.own aa)) aa (.ins (c_Answers K) dx [])) va (.tup []) aa = some (.ins (c_Answers K) dx []) := Same.new hva _ _ upd_same
    refine ⟨aa, D.fa, D.oa, D.ca, va, dx, p, D.c, rfl, e1, G.F.same s2, G.O.same s2, SqT.of upd_same, tabs_same tb0 s2, fun H2 fl e2 hfl F2 O2 tb2 k2 => ⟨rfl, ?_⟩⟩
    have G2 := G.back F2 O2 fun a u n1 n2 n3 nt e => k2 a u (fun z => by rw [z, ha] at e; cases e) n1 n2 n3 nt (s2 _ _ e)
    have S2 := S.tags (tgAt H2 D.tg)
    refine ⟨_, rfl, aa, dx, _, rfl, e2, hfl.no, _, rfl, aa, ga, dx, fl, _, p, nz, s, n, L, lead, sh, rfl, e2, hfl, G2, S2, tgAt_zero (G.t_no aa ha), tb2, fun H3 t na ba bo co G3 t3 e3 hb ho tb3 k3 => ?_⟩
    exact ⟨_, rfl, k0 H3 aa dx na ba bo co t G3 e3 hb ho tb3 fun a u n1 n2 n3 nt e => k3 _ _ (fun z => by rw [z, ha] at e; cases e) nt (k2 a u (fun z => by rw [z, ha] at e; cases e) n1 n2 n3 nt (s2 _ _ e))⟩
/-! ### what answers tell -/
/-- the answers of a grid -/
structure AnsAt (K : PySem.W.Frag) (H : Hp) (aa ga : Addr) (D : GD) (p L : Nat) (ba bo : Addr) : Prop where
  ob : ∃ dx na co, H aa = some (.ins (c_Answers K) dx (anF ga na (L : Nat) ba bo co))
  G : GridHas K H ga p D
def sp_Answers_size (K : PySem.W.Frag) : Sp := fun vs H Q _ => ∃ (aa ga : Addr) (D : GD) (p L : Nat) (ba bo : Addr), vs = [.ref aa] ∧ AnsAt K H aa ga D p L ba bo ∧ Q (.int (L : Nat)) H
def sp_Answers_basis (K : PySem.W.Frag) : Sp := fun vs H Q _ => ∃ (aa ga : Addr) (D : GD) (p L : Nat) (ba bo : Addr), vs = [.ref aa] ∧ AnsAt K H aa ga D p L ba bo ∧ Q (.ref ba) H
def sp_Answers_borders (K : PySem.W.Frag) : Sp := fun vs H Q _ => ∃ (aa ga : Addr) (D : GD) (p L : Nat) (ba bo : Addr), vs = [.ref aa] ∧ AnsAt K H aa ga D p L ba bo ∧ Q (.ref bo) H
def sp_Answers_profile (K : PySem.W.Frag) : Sp := fun vs H Q _ => ∃ (aa ga : Addr) (D : GD) (p L : Nat) (ba bo : Addr), vs = [.ref aa] ∧ AnsAt K H aa ga D p L ba bo ∧ ∀ q, H q = none → Q (.ref q) (upd H q (.tup D.gsL))
theorem ok_Answers_size (T : TX K mg) : FnOk P w K mg base CX0 1 (a_Answers_size K) (d_ K (a_Answers_size K)) ["self"] (sp_Answers_size K) := by
  refine T.F_Answers_size.ok sc_Answers_size (fun vs H Q E h => ?_) (fun cdv Ar outer s0 H vs Q E hr h => ?_)
  · (repeat (obtain ⟨_, h⟩ := h)); subst_vars; rfl
  · obtain ⟨aa, ga, D, p, L, ba, bo, rfl, N, k0⟩ := h
    have hu := hu_of hr
    refine ⟨_, (pss_one (ps_ret (pe_fldK (K := K) rfl (pv 0) (by rfl)))), ?_⟩
    obtain ⟨dx, na, co, e⟩ := N.ob
    exact ⟨_, rfl, aa, _, dx, _, _, rfl, e, T.cl_Answers, T.na_Answers_own_size, rfl, k0⟩
theorem ok_Answers_basis (T : TX K mg) : FnOk P w K mg base CX0 1 (a_Answers_basis K) (d_ K (a_Answers_basis K)) ["self"] (sp_Answers_basis K) := by
  refine T.F_Answers_basis.ok sc_Answers_basis (fun vs H Q E h => ?_) (fun cdv Ar outer s0 H vs Q E hr h => ?_)
  · (repeat (obtain ⟨_, h⟩ := h)); subst_vars; rfl
  · obtain ⟨aa, ga, D, p, L, ba, bo, rfl, N, k0⟩ := h
    have hu := hu_of hr
    refine ⟨_, (pss_one (ps_ret (pe_fldK (K := K) rfl (pv 0) (by rfl)))), ?_⟩
    obtain ⟨dx, na, co, e⟩ := N.ob
    exact ⟨_, rfl, aa, _, dx, _, _, rfl, e, T.cl_Answers, T.na_Answers_own_basis, rfl, k0⟩
theorem ok_Answers_borders (T : TX K mg) : FnOk P w K mg base CX0 1 (a_Answers_borders K) (d_ K (a_Answers_borders K)) ["self"] (sp_Answers_borders K) := by
  refine T.F_Answers_borders.ok sc_Answers_borders (fun vs H Q E h => ?_) (fun cdv Ar outer s0 H vs Q E hr h => ?_)
  · (repeat (obtain ⟨_, h⟩ := h)); subst_vars; rfl
  · obtain ⟨aa, ga, D, p, L, ba, bo, rfl, N, k0⟩ := h
    have hu := hu_of hr
    refine ⟨_, (pss_one (ps_ret (pe_fldK (K := K) rfl (pv 0) (by rfl)))), ?_⟩
    obtain ⟨dx, na, co, e⟩ := N.ob
    exact ⟨_, rfl, aa, _, dx, _, _, rfl, e, T.cl_Answers, T.na_Answers_own_borders, rfl, k0⟩
theorem ok_Answers_profile (T : TX K mg) : FnOk P w K mg base CX0 1 (a_Answers_profile K) (d_ K (a_Answers_profile K)) ["self"] (sp_Answers_profile K) := by
  refine T.F_Answers_profile.ok sc_Answers_profile (fun vs H Q E h => ?_) (fun cdv Ar outer s0 H vs Q E hr h => ?_)
  · (repeat (obtain ⟨_, h⟩ := h)); subst_vars; rfl
  · obtain ⟨aa, ga, D, p, L, ba, bo, rfl, N, k0⟩ := h
    have hu := hu_of hr
    refine ⟨_, (pss_one (ps_ret (pe_callTy call_tuple_of (by rfl) T.n_tuple (by decide +kernel) (pa_cons (pe_fldK (K := K) rfl (pe_fldK (K := K) rfl (pv 0) (by rfl)) (by rfl)) pa_nil)))), ?_⟩
    obtain ⟨dx, na, co, e⟩ := N.ob
    exact ⟨_, rfl, aa, _, dx, _, _, rfl, e, T.cl_Answers, T.na_Answers_own_grid, rfl, ga, _, D.dx, _, _, rfl, N.G.ob, T.cl_Grid, T.na_Grid_grown_sizes, gf_grown_sizes D, D.gs, _, rfl, .inl ⟨SqL.of N.G.gs, k0⟩⟩
end
end Fa

namespace Fa
open PySem PySem.Spec L2
/-! ### Answers.given -/
def sp_Answers_given (K : PySem.W.Frag) : Sp := fun vs H Q _ => ∃ (cv : V) (fa oa ca na : Addr) (p c : Nat) (_ : NeZero p) (s : Nat → _root_.Fin p) (n : Nat), vs = [cv, .ref fa, .ref oa, .ref na] ∧ FieldAt K H fa p ∧ OrderAt K H oa c ca ∧ H na = some (.lst (rowV n s)) ∧ n ≤ 100 ∧ LamX.Tabs (lamT K) H ∧
  ∀ H' aa ga D ba bo, AnsAt K H' aa ga D p (bmL s n) ba bo → D.gsL = bmLs s n → SqT K H' ba (wordsV c (bmL s n)) → SqT K H' bo [.str (A c (bmL s n))] → LamX.Tabs (lamT K) H' → (∀ a u, a ≠ fa → a ≠ oa → a ≠ ca → (∀ ps, u ≠ HO.tbl ps) → H a = some u → H' a = some u) → Q (.ref aa) H'
theorem Out.tabs {fa oa ca : Addr} {t : Addr → Nat} {H H' : Hp} (f : Out fa oa ca t H H') {C1 d1 C2 d2 : Addr} {l1 l2 : List (Str × V)} {x : List (Key × V)} (h1 : H fa = some (.ins C1 d1 l1)) (h2 : H oa = some (.ins C2 d2 l2)) (h3 : H ca = some (.dK x)) {T : List (Addr × Str)} (h : LamX.Tabs T H) : LamX.Tabs T H' :=
  tabs_fr h fun a u e z => (f a u (fun q => by rw [q, h1] at e; obtain rfl := Option.some.inj e; rcases z with ⟨_, z⟩ | ⟨_, z⟩ <;> cases z) (fun q => by rw [q, h2] at e; obtain rfl := Option.some.inj e; rcases z with ⟨_, z⟩ | ⟨_, z⟩ <;> cases z) (fun q => by rw [q, h3] at e; obtain rfl := Option.some.inj e; rcases z with ⟨_, z⟩ | ⟨_, z⟩ <;> cases z) e).1
/-! ### the pen -/
def penK (ca : Addr) (b l : Nat) : List (Key × V) := [(Sum.inr "cells", .ref ca), (Sum.inr "begun", .int (b : Nat)), (Sum.inr "left", .int (l : Nat))]
def penK' (ca : Addr) (b : Nat) (l : Int) : List (Key × V) := [(Sum.inr "cells", .ref ca), (Sum.inr "begun", .int (b : Nat)), (Sum.inr "left", .int l)]
structure PenAt (H : Hp) (pa ca : Addr) (cs : List Int) (N : Nat) : Prop where
  pd : ∃ b l : Nat, b ≤ N ∧ H pa = some (.dK (penK ca b l))
  cl : H ca = some (.lst (cs.map V.int))
  few : cs.length ≤ 63
theorem PenAt.mono {H : Hp} {pa ca : Addr} {cs : List Int} {N M : Nat} (p : PenAt H pa ca cs N) (h : N ≤ M) : PenAt H pa ca cs M := ⟨let ⟨b, l, h1, h2⟩ := p.pd; ⟨b, l, by omega, h2⟩, p.cl, p.few⟩
theorem PenAt.same {H H' : Hp} {pa ca : Addr} {cs : List Int} {N : Nat} (p : PenAt H pa ca cs N) (s : Same H H') : PenAt H' pa ca cs N := ⟨let ⟨b, l, h1, h2⟩ := p.pd; ⟨b, l, h1, s _ _ h2⟩, s _ _ p.cl, p.few⟩
theorem penK_left (ca : Addr) (b l : Nat) : valV (penK ca b l) (Sum.inr "left") = some (.int (l : Nat)) := rfl
theorem penK_begun (ca : Addr) (b l : Nat) : valV (penK ca b l) (Sum.inr "begun") = some (.int (b : Nat)) := rfl
theorem penK_cells (ca : Addr) (b l : Nat) : valV (penK ca b l) (Sum.inr "cells") = some (.ref ca) := rfl
theorem penK_put_left (ca : Addr) (b l k : Nat) : putK (penK ca b l) (Sum.inr "left") (.int (k : Nat)) = penK ca b k := rfl
theorem penK_put_begun (ca : Addr) (b l k : Nat) : putK (penK ca b l) (Sum.inr "begun") (.int (k : Nat)) = penK ca k l := rfl
def sp_law_pen (K : PySem.W.Frag) : Sp := fun vs H Q _ => ∃ (sa : Addr) (xs : List Int), vs = [.ref sa] ∧ SqL K H sa (xs.map V.int) ∧ ∀ H' pa ca, Same H H' → H pa = none → PenAt H' pa ca (xs.take 63) 0 → Q (.ref pa) H'
def sp_law_draw (_ : PySem.W.Frag) : Sp := fun vs H Q _ => ∃ (pa ca : Addr) (cs : List Int) (N m : Nat), vs = [.ref pa, .int (m : Nat)] ∧ PenAt H pa ca cs N ∧ (1 ≤ m ∧ m < 1073741824) ∧ N < 1000000 ∧
  ∀ H' (r : Nat), PenAt H' pa ca cs (N + 1) → But pa H H' → r < m → Q (.int (r : Nat)) H'
def sp_law_pick (K : PySem.W.Frag) : Sp := fun vs H Q _ => ∃ (pa ca oa : Addr) (cs : List Int) (N : Nat) (xs : List V), vs = [.ref pa, .ref oa] ∧ PenAt H pa ca cs N ∧ SqL K H oa xs ∧ oa ≠ pa ∧ (1 ≤ xs.length ∧ xs.length < 1000) ∧ N < 1000000 ∧
  ∀ H' x, PenAt H' pa ca cs (N + 1) → But pa H H' → x ∈ xs → Q x H'
def sp_law_prime (_ : PySem.W.Frag) : Sp := fun vs H Q _ => ∃ (pa ca : Addr) (cs : List Int) (N : Nat), vs = [.ref pa] ∧ PenAt H pa ca cs N ∧ N < 1000000 ∧ ∀ H' p, PenAt H' pa ca cs (N + 1) → But pa H H' → sixP p → Q (.int (p : Nat)) H'
def sp_law_number (_ : PySem.W.Frag) : Sp := fun vs H Q _ => ∃ (pa ca : Addr) (cs : List Int) (N p : Nat), vs = [.ref pa, .int (p : Nat)] ∧ PenAt H pa ca cs N ∧ sixP p ∧ N < 900000 ∧ ∀ H' r, PenAt H' pa ca cs (N + 2) → But pa H H' → r < p → Q (.int (r : Nat)) H'
section
variable {P : Program} {w : World} {K : PySem.W.Frag} {mg : Str → Option Value} {base : Heap}
theorem ok_Answers_given (T : TX K mg) (TB : LamX.TabB base mg (lc K) (lP K)) : FnOk P w K mg base CX0 12 (a_Answers_given K) (d_ K (a_Answers_given K)) ["cls", "field", "order", "numbers"] (sp_Answers_given K) := by
  refine T.F_Answers_given.ok sc_Answers_given (fun vs H Q E h => ?_) (fun cdv Ar outer s0 H vs Q E hr h => ?_)
  · (repeat (obtain ⟨_, h⟩ := h)); subst_vars; rfl
  · obtain ⟨cv, fa, oa, ca, na, p, c, nz, s, n, rfl, F, O, hl, hn, tb0, k0⟩ := h
    have hu := hu_of hr
    refine ⟨_, (pss_cons (ps_expr (pe_call (ok_need_answers T) (by exact hr.mono (by decide)) rfl T.g_need_answers T.F_need_answers.kp T.b_need_answers .nil pass0 (pa_cons (pv 1) (pa_cons pe_int (pa_cons (pv 3) pa_nil)))))
      (pss_one (ps_ret (pe_call (ok_answers_on T TB) (by exact hr.mono (by decide)) rfl T.g_answers_on T.F_answers_on.kp T.b_answers_on .nil pass0 (pa_cons (pe_call (ok_grid_of T) (by exact hr.mono (by decide)) rfl T.g_grid_of T.F_grid_of.kp T.b_grid_of .nil pass0 (pa_cons (pv 1) (pa_cons (pv 2) (pa_cons (pv 3) pa_nil)))) pa_nil))))), ?_⟩
    obtain ⟨fdx, fe⟩ := F.ob
    obtain ⟨odx, oe⟩ := O.ob
    refine ⟨_, rfl, _, rfl, fa, na, p, nz, s, n, rfl, F, SqL.of hl, hn, fun H1 s1 => ?_⟩
    refine ⟨_, rfl, _, rfl, _, rfl, fa, oa, ca, na, p, c, nz, s, n, rfl, F.same s1, O.same s1, s1 _ _ hl, hn, fun H2 ga D lead sh hg G S hgs hc f => ?_⟩
    have tb2 := f.tabs (s1 _ _ fe) (s1 _ _ oe) (s1 _ _ O.co) (tabs_same tb0 s1)
    refine ⟨ga, D, p, nz, s, n, bmL s n, lead, sh, rfl, G, S, tb2, fun H3 aa dx na' ba bo co t G3 e3 hb ho tb3 k3 => ?_⟩
    rw [hc] at hb ho
    refine k0 H3 aa ga { D with tg := t } ba bo ⟨⟨dx, na', co, e3⟩, G3⟩ hgs hb ho tb3 fun a u n1 n2 n3 nt e => ?_
    obtain ⟨q1, q2⟩ := f a u n1 n2 n3 (s1 _ _ e)
    exact k3 a u (tne q2 G.t_fa (by omega)) (tne q2 G.t_oa (by omega)) (tne q2 G.t_ca (by omega)) nt q1
theorem ok_law_pen (T : TX K mg) : FnOk P w K mg base CX0 1 (a_law_pen K) (d_ K (a_law_pen K)) ["_law_script"] (sp_law_pen K) := by
  refine T.F_law_pen.ok sc_law_pen (fun vs H Q E h => ?_) (fun cdv Ar outer s0 H vs Q E hr h => ?_)
  · (repeat (obtain ⟨_, h⟩ := h)); subst_vars; rfl
  · obtain ⟨sa, xs, rfl, hx, k0⟩ := h
    have hu := hu_of hr
    refine ⟨_, (pss_one (ps_ret (pe_disp (pps_cons pe_str (pe_callTy call_list_of (by rfl) T.n_list (by decide +kernel) (pa_cons (pe_slice sl_list (pv 0) po_none (po_some pe_int)) pa_nil)) (pps_cons pe_str pe_int (pps_cons pe_str pe_int pps_nil))) (by rfl) (by rfl) (fun z => by cases z) (by decide)))), ?_⟩
    refine fun pa hpa => ?_
    refine ⟨_, rfl, 63, rfl, sa, xs.map V.int, rfl, (Same.new hpa).seq hx, fun q hq => ?_⟩
    have ec : cutV (xs.map V.int) none (some 63) = (xs.take 63).map V.int := by
      unfold cutV
      show ((xs.map V.int).drop 0).take (HT.sIx _ _ (some 63) - 0) = _
      rw [List.drop_zero, Nat.sub_zero, List.map_take]
      have : HT.sIx (xs.map V.int).length (xs.map V.int).length (some 63) = min 63 (xs.map V.int).length := rfl
      rw [this]
      exact List.take_eq_take_min.symm
    rw [ec]
    refine ⟨q, _, rfl, .inl (SqL.of upd_same), fun ca hca => ?_⟩
    have s1 : Same (upd H pa (.dK [])) (upd (upd (upd H pa (.dK [])) q (.lst ((xs.take 63).map V.int))) ca (.lst ((xs.take 63).map V.int))) := (Same.new hq).trans (Same.new hca)
    have hp1 := s1 _ _ upd_same
    have hc1 : upd (upd (upd H pa (.dK [])) q (.lst ((xs.take 63).map V.int))) ca (.lst ((xs.take 63).map V.int)) ca = some (.lst ((xs.take 63).map V.int)) := upd_same
    generalize upd (upd (upd H pa (.dK [])) q (.lst ((xs.take 63).map V.int))) ca (.lst ((xs.take 63).map V.int)) = H2 at s1 hp1 hc1 ⊢
    refine ⟨hp1, penK ca 0 0, rfl, by show 3 ≤ 15; decide, ?_⟩
    refine k0 _ pa ca (fun a u e => ?_) hpa ⟨⟨0, 0, Nat.le_refl _, upd_same⟩, ?_, by rw [List.length_take]; omega⟩
    · rw [upd_ne (fun z => by rw [z, hpa] at e; cases e)]
      exact s1 _ _ ((Same.new hpa) _ _ e)
    · rw [upd_ne (fun z => by rw [z, hp1] at hc1; cases hc1)]; exact hc1
theorem ok_law_draw (T : TX K mg) : FnOk P w K mg base CX0 1 (a_law_draw K) (d_ K (a_law_draw K)) ["_law_pen_here", "_law_many"] (sp_law_draw K) := by
  refine T.F_law_draw.ok sc_law_draw (fun vs H Q E h => ?_) (fun cdv Ar outer s0 H vs Q E hr h => ?_)
  · (repeat (obtain ⟨_, h⟩ := h)); subst_vars; rfl
  · obtain ⟨pa, ca, cs, N, m, rfl, pen, hm, hN, k0⟩ := h
    have hu := hu_of hr
    refine ⟨_, (pss_cons (ps_if (pt_cmpR op_gt (pe_dget (by exact hu) (pv 0) pe_str (fun _ _ => rfl)) pe_int (nomark _)) (pss_cons (ps_set (i := 2) sc_law_draw.nd rfl (Or.inl rfl) (pe_op op_mod (pe_callTy call_int1 (by rfl) T.n_int (by decide +kernel) (pa_cons (pe_dget (by exact hu) (pv 0) pe_str (fun _ _ => rfl)) pa_nil)) (pv 1)))
      (pss_cons (ps_dput (by exact hu) (pv 0) pe_str (pe_op op_fdiv (pe_dget (by exact hu) (pv 0) pe_str (fun _ _ => rfl)) (pv 1)) rfl)
      (pss_one (ps_ret (pv 2))))) pss_nil)
      (pss_cons (ps_set (i := 3) sc_law_draw.nd rfl (Or.inl rfl) (pe_dget (by exact hu) (pv 0) pe_str (fun _ _ => rfl)))
      (pss_cons (ps_dput (by exact hu) (pv 0) pe_str (pe_op op_add (pv 3) pe_int) rfl)
      (pss_cons (ps_set (i := 4) sc_law_draw.nd rfl (Or.inl rfl) (pe_op op_add (pe_op op_mul pe_int (pv 3)) pe_int))
      (Evl.pss_cut (ps_if (pt_cmpR (op_neNil (by exact hr.units)) (pe_dget (by exact hu) (pv 0) pe_str (fun _ _ => rfl)) (pe_lst pa_nil) (nomark _)) (pss_one (ps_set (i := 4) sc_law_draw.nd rfl (Or.inl rfl) (pe_ix (ix_listK (K := K) rfl) (pe_dget (by exact hu) (pv 0) pe_str (fun _ _ => rfl)) (pe_op op_mod (pe_callTy call_int1 (by rfl) T.n_int (by decide +kernel) (pa_cons (pv 3) pa_nil)) (pe_callB call_len_seq (by rfl) T.n_len (by decide +kernel) (pa_cons (pe_dget (by exact hu) (pv 0) pe_str (fun _ _ => rfl)) pa_nil))) (fun _ _ => rfl)))) pss_nil)
      (Evl.pss_cut (ps_if (PW.pt (pw_and (pt_cmpR op_lt (pv 3) (pe_callB call_len_seq (by rfl) T.n_len (by decide +kernel) (pa_cons (pe_dget (by exact hu) (pv 0) pe_str (fun _ _ => rfl)) pa_nil)) (nomark _)) (pw_and1 (pt_cmpR op_ge (pe_callB call_abs (by rfl) T.n_abs (by decide +kernel) (pa_cons (pv 4) pa_nil)) (pe_op op_pow pe_int pe_int) (nomark _))))) (pss_cons (ps_dput (by exact hu) (pv 0) pe_str (pe_op op_fdiv (pe_op op_sub (pe_callB call_abs (by rfl) T.n_abs (by decide +kernel) (pa_cons (pv 4) pa_nil)) (pe_op op_pow pe_int pe_int)) (pv 1)) rfl)
      (pss_one (ps_ret (pe_op op_mod (pe_callTy call_int1 (by rfl) T.n_int (by decide +kernel) (pa_cons (pe_op op_sub (pe_callB call_abs (by rfl) T.n_abs (by decide +kernel) (pa_cons (pv 4) pa_nil)) (pe_op op_pow pe_int pe_int)) pa_nil)) (pv 1))))) pss_nil)
      (Evl.pss_cut (ps_set (i := 5) sc_law_draw.nd rfl (Or.inl rfl) (pe_op op_mul (pe_op op_mod (pe_callTy call_int1 (by rfl) T.n_int (by decide +kernel) (pa_cons (pv 4) pa_nil)) pe_int) pe_int))
      (Evl.pss_cut (ps_set (i := 6) sc_law_draw.nd rfl (Or.inl rfl) (pe_op op_mod (pe_callTy call_int1 (by rfl) T.n_int (by decide +kernel) (pa_cons (pe_op op_add (pe_op op_add (pv 5) (pe_op op_mul (pv 3) (pe_op op_add (pe_op op_mul pe_int (pv 3)) pe_int))) pe_int) pa_nil)) pe_int))
      (Evl.pss_cut (ps_set (i := 6) sc_law_draw.nd rfl (Or.inl rfl) (pe_op op_mod (pe_callTy call_int1 (by rfl) T.n_int (by decide +kernel) (pa_cons (pe_op op_add (pe_op op_add (pe_op op_add (pe_op op_mul (pv 6) (pv 6)) (pe_op op_mul pe_int (pv 6))) (pe_op op_mul pe_int (pv 3))) pe_int) pa_nil)) pe_int))
      (pss_one (ps_ret (pe_op op_mod (pe_callTy call_int1 (by rfl) T.n_int (by decide +kernel) (pa_cons (pe_op op_fdiv (pe_op op_mod (pe_callTy call_int1 (by rfl) T.n_int (by decide +kernel) (pa_cons (pe_op op_mul (pv 6) (pe_op op_add (pv 6) pe_int)) pa_nil)) pe_int) pe_int) pa_nil)) (pv 1))))))))))))), ?_⟩
    obtain ⟨hm1, hm2⟩ := hm
    obtain ⟨b, l, hb, hp⟩ := pen.pd
    have npc : ca ≠ pa := fun z => by have := pen.cl; rw [z, hp] at this; cases this
    have gl := DGet.k (k := Sum.inr "left") hp
    have gb := DGet.k (k := Sum.inr "begun") hp
    rw [penK_left] at gl
    rw [penK_begun] at gb
    refine ⟨_, rfl, pa, _, rfl, gl, _, _, rfl, rfl, _, rfl, ?_⟩
    refine ite2 (fun hl => ?_) (fun _ => ?_)
    · refine ⟨_, rfl, pa, _, rfl, gl, .inl ⟨_, rfl, _, rfl, _, _, rfl, rfl, (by show (0 : Int) < (m : Nat); omega), ?_⟩⟩
      refine ⟨_, rfl, pa, _, rfl, gl, _, rfl, _, _, rfl, rfl, ⟨by omega, by omega⟩, _, rfl, pa, _, rfl, DPut.k (k := Sum.inr "left") hp (by show 3 < sizeLine; decide), ?_⟩
      refine ⟨_, rfl, ?_⟩
      exact k0 _ (l % m) ⟨⟨b, l / m, by omega, upd_same⟩, by rw [upd_ne npc]; exact pen.cl, pen.few⟩ (fun a u n e => by rw [upd_ne n]; exact e) (Nat.mod_lt _ (by omega))
    · refine ⟨_, rfl, pa, _, rfl, gb, ?_⟩
      refine ⟨_, rfl, _, _, rfl, rfl, _, rfl, pa, _, rfl, DPut.k (k := Sum.inr "begun") hp (by show 3 < sizeLine; decide), ?_⟩
      have hp1 : upd H pa (.dK (putK (penK ca b l) (Sum.inr "begun") (.int ((b : Nat) + 1)))) pa = some (.dK (penK ca (b + 1) l)) := upd_same
      have bu1 : But pa H (upd H pa (.dK (putK (penK ca b l) (Sum.inr "begun") (.int ((b : Nat) + 1))))) := fun a u n e => by rw [upd_ne n]; exact e
      have cl1 : upd H pa (.dK (putK (penK ca b l) (Sum.inr "begun") (.int ((b : Nat) + 1)))) ca = some (.lst (cs.map V.int)) := by rw [upd_ne npc]; exact pen.cl
      generalize upd H pa (.dK (putK (penK ca b l) (Sum.inr "begun") (.int ((b : Nat) + 1)))) = H1 at hp1 bu1 cl1 ⊢
      have gc := DGet.k (k := Sum.inr "cells") hp1
      rw [penK_cells] at gc
      refine ⟨_, rfl, _, _, rfl, rfl, .inl ⟨by omega, by omega⟩, _, _, rfl, rfl, ?_⟩
      refine ⟨fun σ H2 => ∃ x : Int, σ = [some (.ref pa), some (.int (m : Nat)), none, some (.int (b : Nat)), some (.int x), none, none] ∧ But pa H H2 ∧ H2 pa = some (.dK (penK ca (b + 1) l)) ∧ H2 ca = some (.lst (cs.map V.int)), ?_, ?_⟩
      · refine ⟨_, rfl, pa, _, rfl, gc, by show 0 ≤ sizeLine; exact Nat.zero_le _, fun q hq => ?_⟩
        have s2 : Same H1 (upd H1 q (.lst [])) := Same.new hq
        have hq2 : upd H1 q (.lst []) q = some (.lst []) := upd_same
        generalize upd H1 q (.lst []) = H2 at s2 hq2 ⊢
        have cl2 := s2 _ _ cl1
        have hp2 := s2 _ _ hp1
        have bu2 : But pa H H2 := fun a u n e => s2 _ _ (bu1 a u n e)
        have gc := DGet.k (k := Sum.inr "cells") hp2
        rw [penK_cells] at gc
        refine ⟨ca, q, cs.map V.int, rfl, rfl, SqL.of cl2, SqL.of hq2, (fun v hv => by obtain ⟨i, _, rfl⟩ := List.mem_map.mp hv; rfl), _, rfl, ?_⟩
        by_cases hc : cs = []
        · rw [hc]
          refine iteF ?_
          exact ⟨_, rfl, bu2, hp2, by rw [← hc]; exact cl2⟩
        · have hlen : 0 < cs.length := by cases cs with
            | nil => exact absurd rfl hc
            | cons _ _ => simp
          have hbl : b % cs.length < cs.length := Nat.mod_lt _ hlen
          have hemp : (!(cs.map V.int).isEmpty) = true := by cases cs with
            | nil => exact absurd rfl hc
            | cons _ _ => rfl
          rw [hemp]
          refine iteT ?_
          refine ⟨_, rfl, pa, _, rfl, gc, _, rfl, .inl ⟨_, rfl, _, rfl, pa, _, rfl, gc, ca, _, rfl, .inl (SqL.of cl2), _, _, rfl, rfl, ?_, ca, _, _, .int cs[b % cs.length], rfl, rfl, SqL.of cl2, ?_, ?_⟩⟩
          · rw [List.length_map]; show (0 : Int) < (cs.length : Nat); omega
          · rw [List.length_map]
            exact at_of (j := b % cs.length) rfl (by rw [List.getElem?_map, List.getElem?_eq_getElem hbl]; rfl)
          · exact ⟨_, rfl, bu2, hp2, cl2⟩
      · rintro σ H2 ⟨x, rfl, bu2, hp2, cl2⟩
        have gc := DGet.k (k := Sum.inr "cells") hp2
        rw [penK_cells] at gc
        have fin2 : ∀ r : Nat, r < m → Q (.int (r : Nat)) H2 := fun r hr => k0 H2 r ⟨⟨b + 1, l, by omega, hp2⟩, cl2, pen.few⟩ bu2 hr
        have pw : CPow 10 18 := ⟨by decide, by decide, by decide⟩
        have em : ∀ (y : Int) (k : Int), 0 < k → 0 ≤ y % k ∧ y % k < k := fun y k h => ⟨Int.emod_nonneg y (by omega), Int.emod_lt_of_pos y h⟩
        refine ⟨fun σ H3 => σ = [some (.ref pa), some (.int (m : Nat)), none, some (.int (b : Nat)), some (.int x), none, none] ∧ H3 = H2, ?_, ?_⟩
        · refine ⟨_, rfl, _, rfl, pa, _, rfl, gc, ca, _, rfl, .inl (SqL.of cl2), _, _, rfl, rfl, _, rfl, ?_⟩
          refine ite2 (fun _ => ?_) (fun _ => ⟨rfl, rfl⟩)
          refine ⟨_, rfl, _, rfl, _, _, rfl, rfl, pw, _, _, rfl, rfl, _, rfl, ?_⟩
          refine ite2 (fun hge => ?_) (fun _ => ⟨rfl, rfl⟩)
          have hge := of_decide_eq_true hge
          refine ⟨_, rfl, _, rfl, _, _, rfl, rfl, pw, _, _, rfl, rfl, _, rfl, _, _, rfl, rfl, ⟨by omega, by omega⟩, _, rfl, pa, _, rfl, DPut.k (k := Sum.inr "left") hp2 (by show 3 < sizeLine; decide), ?_⟩
          refine ⟨_, rfl, _, rfl, _, _, rfl, rfl, pw, _, _, rfl, rfl, .inl ⟨_, rfl, _, rfl, _, _, rfl, rfl, (by show (0 : Int) < (m : Nat); omega), ?_⟩⟩
          obtain ⟨k, hk⟩ : ∃ k : Nat, (if x < 0 then -x else x) - 10 ^ (18 : Int).toNat = (k : Int) := ⟨((if x < 0 then -x else x) - 10 ^ (18 : Int).toNat).toNat, by omega⟩
          show Q (.int (((if x < 0 then -x else x) - 10 ^ (18 : Int).toNat) % (m : Nat))) (upd H2 pa (.dK (penK' ca (b + 1) (((if x < 0 then -x else x) - 10 ^ (18 : Int).toNat) / (m : Nat)))))
          rw [hk]
          exact k0 _ (k % m) ⟨⟨b + 1, k / m, by omega, upd_same⟩, by rw [upd_ne npc]; exact cl2, pen.few⟩ (fun a u n e => by rw [upd_ne n]; exact bu2 a u n e) (Nat.mod_lt _ (by omega))
        rintro σ H3 ⟨rfl, rfl⟩
        refine ⟨fun σ H2 => ∃ y : Int, (0 ≤ y ∧ y < 2 ^ 62) ∧ σ = [some (.ref pa), some (.int (m : Nat)), none, some (.int (b : Nat)), some (.int x), some (.int y), none] ∧ H2 = H3, ?_, ?_⟩
        · have e1 := em x 4294967197 (by decide)
          refine ⟨_, rfl, .inl ⟨_, rfl, _, _, rfl, rfl, (by show (0 : Int) < 4294967197; decide), _, _, rfl, rfl, .inl ⟨by omega, by omega⟩, ?_⟩⟩
          exact ⟨_, by omega, rfl, rfl⟩
        rintro σ H3 ⟨y, hy, rfl, rfl⟩
        refine ⟨fun σ H2 => ∃ z : Int, (0 ≤ z ∧ z < 2 ^ 32) ∧ σ = [some (.ref pa), some (.int (m : Nat)), none, some (.int (b : Nat)), some (.int x), some (.int y), some (.int z)] ∧ H2 = H3, ?_, ?_⟩
        · refine ⟨_, rfl, _, rfl, _, rfl, _, _, rfl, rfl, .inl ⟨by omega, by omega⟩, _, _, rfl, rfl, _, _, rfl, rfl, .inl ⟨by omega, by omega⟩, _, _, rfl, rfl, _, _, rfl, rfl, .inl ⟨_, rfl, _, _, rfl, rfl, (by show (0 : Int) < 4294967189; decide), ?_⟩⟩
          have e := em (y + b * (40009 * b + 1511) + 331) 4294967189 (by decide)
          exact ⟨(y + b * (40009 * b + 1511) + 331) % 4294967189, by omega, rfl, rfl⟩
        rintro σ H3 ⟨z, hz, rfl, rfl⟩
        refine ⟨fun σ H2 => ∃ z : Int, (0 ≤ z ∧ z < 2 ^ 32) ∧ σ = [some (.ref pa), some (.int (m : Nat)), none, some (.int (b : Nat)), some (.int x), some (.int y), some (.int z)] ∧ H2 = H3, ?_, ?_⟩
        · refine ⟨_, rfl, _, rfl, _, _, rfl, rfl, .inl ⟨by omega, by omega⟩, _, rfl, _, _, rfl, rfl, .inl ⟨by omega, by omega⟩, _, _, rfl, rfl, _, rfl, _, _, rfl, rfl, .inl ⟨by omega, by omega⟩, _, _, rfl, rfl, _, _, rfl, rfl, .inl ⟨_, rfl, _, _, rfl, rfl, (by show (0 : Int) < 4294967161; decide), ?_⟩⟩
          have e := em (z * z + 75629 * z + 19 * b + 7) 4294967161 (by decide)
          exact ⟨(z * z + 75629 * z + 19 * b + 7) % 4294967161, by omega, rfl, rfl⟩
        rintro σ H3 ⟨z, hz, rfl, rfl⟩
        refine ⟨_, rfl, _, rfl, _, _, rfl, rfl, _, _, rfl, rfl, .inl ⟨by omega, by omega⟩, .inl ⟨_, rfl, _, _, rfl, rfl, (by show (0 : Int) < 4294967143; decide), _, _, rfl, rfl, ⟨by omega, by omega⟩, .inl ⟨_, rfl, _, rfl, _, _, rfl, rfl, (by show (0 : Int) < (m : Nat); omega), ?_⟩⟩⟩
        have e := em (z * (z + 52361) % 4294967143 / 64) (m : Nat) (by omega)
        obtain ⟨r, hr2⟩ : ∃ r : Nat, z * (z + 52361) % 4294967143 / 64 % ((m : Nat) : Int) = (r : Int) := ⟨(z * (z + 52361) % 4294967143 / 64 % ((m : Nat) : Int)).toNat, by omega⟩
        show Q (.int (z * (z + 52361) % 4294967143 / 64 % ((m : Nat) : Int))) H3
        rw [hr2]
        exact k0 H3 r ⟨⟨b + 1, l, by omega, hp2⟩, cl2, pen.few⟩ bu2 (by omega)
theorem ok_law_pick (T : TX K mg) : FnOk P w K mg base CX0 2 (a_law_pick K) (d_ K (a_law_pick K)) ["_law_pen_here", "_law_options"] (sp_law_pick K) := by
  refine T.F_law_pick.ok sc_law_pick (fun vs H Q E h => ?_) (fun cdv Ar outer s0 H vs Q E hr h => ?_)
  · (repeat (obtain ⟨_, h⟩ := h)); subst_vars; rfl
  · obtain ⟨pa, ca, oa, cs, N, xs, rfl, pen, hx, noa, hl, hN, k0⟩ := h
    have hu := hu_of hr
    refine ⟨_, (pss_one (ps_ret (pe_ix (ix_listK (K := K) rfl) (pv 1) (pe_call (ok_law_draw T) (by exact hr.mono (by decide)) rfl T.g_law_draw T.F_law_draw.kp T.b_law_draw .nil pass0 (pa_cons (pv 0) (pa_cons (pe_callB call_len_seq (by rfl) T.n_len (by decide +kernel) (pa_cons (pv 1) pa_nil)) pa_nil))) (fun _ _ => rfl)))), ?_⟩
    refine ⟨_, rfl, _, rfl, _, rfl, oa, xs, rfl, .inl hx, pa, ca, cs, N, xs.length, rfl, pen, ⟨hl.1, by omega⟩, hN, fun H' r p1 b1 hr => ?_⟩
    have hx' : SqL K H' oa xs := by
      rcases hx with (h | ⟨o, h⟩) | h
      · exact .inl (.inl (b1 _ _ noa h))
      · exact .inl (.inr ⟨o, b1 _ _ noa h⟩)
      · exact .inr h
    exact ⟨oa, xs, (r : Int), xs[r], rfl, rfl, hx', at_of (j := r) rfl (List.getElem?_eq_getElem hr), k0 H' _ p1 b1 (List.getElem_mem hr)⟩
theorem ok_law_prime (T : TX K mg) : FnOk P w K mg base CX0 3 (a_law_prime K) (d_ K (a_law_prime K)) ["_law_pen_here"] (sp_law_prime K) := by
  refine T.F_law_prime.ok sc_law_prime (fun vs H Q E h => ?_) (fun cdv Ar outer s0 H vs Q E hr h => ?_)
  · (repeat (obtain ⟨_, h⟩ := h)); subst_vars; rfl
  · obtain ⟨pa, ca, cs, N, rfl, pen, hN, k0⟩ := h
    have hu := hu_of hr
    refine ⟨_, (pss_one (ps_ret (pe_call (ok_law_pick T) (by exact hr.mono (by decide)) rfl T.g_law_pick T.F_law_pick.kp T.b_law_pick .nil pass0 (pa_cons (pv 0) (pa_cons (pe_lst (pa_cons pe_int (pa_cons pe_int (pa_cons pe_int (pa_cons pe_int (pa_cons pe_int (pa_cons pe_int (pa_cons pe_int (pa_cons pe_int pa_nil))))))))) pa_nil))))), ?_⟩
    refine ⟨_, rfl, by show 8 ≤ sizeLine; decide, fun q hq => ?_⟩
    have nq : q ≠ pa := fun z => by obtain ⟨_, _, _, e⟩ := pen.pd; rw [z, e] at hq; cases hq
    refine ⟨pa, ca, q, cs, N, _, rfl, pen.same (Same.new hq), SqL.of upd_same, nq, ⟨by decide, by decide⟩, hN, fun H' x p1 b1 hx => ?_⟩
    have b0 : But pa H H' := fun a u n e => b1 a u n ((Same.new hq) a u e)
    have : ∃ p : Nat, sixP p ∧ x = .int (p : Nat) := by
      simp only [List.mem_cons, List.not_mem_nil, or_false] at hx
      rcases hx with rfl | rfl | rfl | rfl | rfl | rfl | rfl | rfl
      · exact ⟨2, .inl rfl, rfl⟩
      · exact ⟨2, .inl rfl, rfl⟩
      · exact ⟨3, .inr (.inl rfl), rfl⟩
      · exact ⟨3, .inr (.inl rfl), rfl⟩
      · exact ⟨5, .inr (.inr (.inl rfl)), rfl⟩
      · exact ⟨7, .inr (.inr (.inr (.inl rfl))), rfl⟩
      · exact ⟨101, .inr (.inr (.inr (.inr (.inl rfl)))), rfl⟩
      · exact ⟨1000003, .inr (.inr (.inr (.inr (.inr rfl)))), rfl⟩
    obtain ⟨p, hp, rfl⟩ := this
    exact k0 H' p p1 b0 hp
theorem ok_law_number (T : TX K mg) : FnOk P w K mg base CX0 3 (a_law_number K) (d_ K (a_law_number K)) ["_law_pen_here", "_law_prime_here"] (sp_law_number K) := by
  refine T.F_law_number.ok sc_law_number (fun vs H Q E h => ?_) (fun cdv Ar outer s0 H vs Q E hr h => ?_)
  · (repeat (obtain ⟨_, h⟩ := h)); subst_vars; rfl
  · obtain ⟨pa, ca, cs, N, p, rfl, pen, hp, hN, k0⟩ := h
    have hu := hu_of hr
    refine ⟨_, (pss_one (ps_ret (pe_call (ok_law_pick T) (by exact hr.mono (by decide)) rfl T.g_law_pick T.F_law_pick.kp T.b_law_pick .nil pass0 (pa_cons (pv 0) (pa_cons (pe_lst (pa_cons pe_int (pa_cons pe_int (pa_cons pe_int (pa_cons (pe_op op_sub (pe_callTy call_int1 (by rfl) T.n_int (by decide +kernel) (pa_cons (pv 1) pa_nil)) pe_int) (pa_cons (pe_call (ok_law_draw T) (by exact hr.mono (by decide)) rfl T.g_law_draw T.F_law_draw.kp T.b_law_draw .nil pass0 (pa_cons (pv 0) (pa_cons (pv 1) pa_nil))) pa_nil)))))) pa_nil))))), ?_⟩
    have h2 := hp.lo
    have h3 := hp.hi
    refine ⟨_, rfl, _, rfl, .inl ⟨_, rfl, _, _, rfl, rfl, _, rfl, _, rfl, pa, ca, cs, N, p, rfl, pen, ⟨by omega, by omega⟩, by omega, fun H1 r1 p1 b1 hr1 => ⟨by show 5 ≤ sizeLine; decide, fun q hq => ?_⟩⟩⟩
    have nq : q ≠ pa := fun z => by obtain ⟨_, _, _, e⟩ := p1.pd; rw [z, e] at hq; cases hq
    refine ⟨pa, ca, q, cs, N + 1, _, rfl, p1.same (Same.new hq), SqL.of upd_same, nq, ⟨by show 1 ≤ 5; decide, by show 5 < 1000; decide⟩, by omega, fun H' x p2 b2 hx => ?_⟩
    have b0 : But pa H H' := fun a u n e => b2 a u n ((Same.new hq) a u (b1 a u n e))
    have : ∃ r : Nat, r < p ∧ x = .int (r : Nat) := by
      simp only [List.mem_cons, List.not_mem_nil, or_false] at hx
      rcases hx with rfl | rfl | rfl | rfl | rfl
      · exact ⟨0, by omega, rfl⟩
      · exact ⟨0, by omega, rfl⟩
      · exact ⟨1, by omega, rfl⟩
      · exact ⟨p - 1, by omega, by congr 1; omega⟩
      · exact ⟨r1, hr1, rfl⟩
    obtain ⟨r, hr, rfl⟩ := this
    exact k0 H' r p2 b0 hr
end
end Fa

namespace Fa
open PySem PySem.Spec L2
/-! ### the law's own helpers -/
def sp_law_shuffled (K : PySem.W.Frag) : Sp := fun vs H Q _ => ∃ (pa ca ia : Addr) (cs : List Int) (N : Nat) (xs : List Int), vs = [.ref pa, .ref ia] ∧ PenAt H pa ca cs N ∧ SqL K H ia (xs.map V.int) ∧ xs.length ≤ 1000 ∧ N < 900000 ∧
  ∀ H' q (ys : List Int), ys.length = xs.length → (∀ y ∈ ys, y ∈ xs) → H q = none → H' q = some (.lst (ys.map V.int)) → PenAt H' pa ca cs (N + xs.length) → But pa H H' → Q (.ref q) H'
def sp_law_letters (_ : PySem.W.Frag) : Sp := fun vs H Q _ => ∃ (pa ca : Addr) (cs : List Int) (N : Nat), vs = [.ref pa, .int 1] ∧ PenAt H pa ca cs N ∧ N < 800000 ∧ ∀ H' (c : Nat), (97 ≤ c ∧ c ≤ 122) → PenAt H' pa ca cs (N + 27) → But pa H H' → Q (.str (A c 1)) H'
def sp_law_inverse (_ : PySem.W.Frag) : Sp := fun vs H Q _ => ∃ (p : Nat) (_ : NeZero p) (b : _root_.Fin p), vs = [fv b, .int (p : Nat)] ∧ sixP p ∧ b ≠ 0 ∧ ∀ H', Same H H' → Q (fv (Mx.inv b)) H'
theorem erase_map {α β : Type} (f : α → β) : ∀ (l : List α) (r : Nat), (l.map f).eraseIdx r = (l.eraseIdx r).map f
  | [], _ => rfl
  | _ :: _, 0 => rfl
  | a :: l, r + 1 => by
    show f a :: (l.map f).eraseIdx r = f a :: (l.eraseIdx r).map f
    rw [erase_map f l r]
theorem Same.tupH {H H' : Hp} {a : Addr} {o : HO} (s : Same H H') (h : H a = some o) : H' a = some o := s _ _ h
section
variable {P : Program} {w : World} {K : PySem.W.Frag} {mg : Str → Option Value} {base : Heap}
theorem ok_law_inverse (T : TX K mg) : FnOk P w K mg base CX0 1 (a_law_inverse K) (d_ K (a_law_inverse K)) ["_law_number_here", "_law_prime_here"] (sp_law_inverse K) := by
  refine T.F_law_inverse.ok sc_law_inverse (fun vs H Q E h => ?_) (fun cdv Ar outer s0 H vs Q E hr h => ?_)
  · (repeat (obtain ⟨_, h⟩ := h)); subst_vars; rfl
  · obtain ⟨p, nz, b, rfl, hp, hb, k0⟩ := h
    have hu := hu_of hr
    refine ⟨_, (pss_cons (ps_par (i := 2) (j := 3) (by rfl) sc_law_inverse.nd rfl rfl (by decide) rfl rfl (pa_cons (pe_tup (pa_cons (pv 0) (pa_cons pe_int pa_nil))) (pa_cons (pe_tup (pa_cons (pv 1) (pa_cons pe_int pa_nil))) pa_nil)) (by rfl))
      (pss_cons (ps_while PassesOwn.never (pt_cmpR op_gt (pe_ix ix_tup (pv 3) pe_int (fun _ _ => rfl)) pe_int (nomark _)) (pss_cons (ps_set (i := 4) sc_law_inverse.nd rfl (Or.inl rfl) (pe_op op_fdiv (pe_ix ix_tup (pv 2) pe_int (fun _ _ => rfl)) (pe_ix ix_tup (pv 3) pe_int (fun _ _ => rfl))))
      (pss_one (ps_par (i := 2) (j := 3) (by rfl) sc_law_inverse.nd rfl rfl (by decide) rfl rfl (pa_cons (pv 3) (pa_cons (pe_tup (pa_cons (pe_op op_sub (pe_ix ix_tup (pv 2) pe_int (fun _ _ => rfl)) (pe_op op_mul (pv 4) (pe_ix ix_tup (pv 3) pe_int (fun _ _ => rfl)))) (pa_cons (pe_op op_sub (pe_ix ix_tup (pv 2) pe_int (fun _ _ => rfl)) (pe_op op_mul (pv 4) (pe_ix ix_tup (pv 3) pe_int (fun _ _ => rfl)))) pa_nil))) pa_nil)) (by rfl)))))
      (pss_one (ps_ret (pe_op op_mod (pe_callTy call_int1 (by rfl) T.n_int (by decide +kernel) (pa_cons (pe_ix ix_tup (pv 2) pe_int (fun _ _ => rfl)) pa_nil)) (pv 1)))))), ?_⟩
    have h2 := hp.lo
    have h3 := hp.hi
    have hbv : 0 < b.val := Nat.pos_of_ne_zero fun z => hb (Fin.ext z)
    have hbp := b.isLt
    refine ⟨_, rfl, by show 2 ≤ sizeLine; decide, fun la hla => ?_⟩
    refine ⟨_, rfl, by show 2 ≤ sizeLine; decide, fun ra hra => ?_⟩
    have s0 : Same H (upd (upd H la (.tup [fv b, .int 1])) ra (.tup [.int (p : Nat), .int 0])) := (Same.new hla).trans (Same.new hra)
    have hl0 : upd (upd H la (.tup [fv b, .int 1])) ra (.tup [.int (p : Nat), .int 0]) la = some (.tup [fv b, .int 1]) := (Same.new hra) _ _ upd_same
    have hr0 : upd (upd H la (.tup [fv b, .int 1])) ra (.tup [.int (p : Nat), .int 0]) ra = some (.tup [.int (p : Nat), .int 0]) := upd_same
    generalize upd (upd H la (.tup [fv b, .int 1])) ra (.tup [.int (p : Nat), .int 0]) = H0 at s0 hl0 hr0 ⊢
    have hc : Nat.gcd b.val p = 1 := Mx.cop_of hp.prime fun d => by have := Nat.le_of_dvd hbv d; omega
    refine ⟨_, _, rfl, fun m σ H1 => ∃ (la ra : Addr) (x y : Nat) (u v : Int) (v4 : Option V), y = m ∧ σ = [some (fv b), some (.int (p : Nat)), some (.ref la), some (.ref ra), v4] ∧ Same H H1 ∧ H1 la = some (.tup [.int (x : Nat), .int u]) ∧ H1 ra = some (.tup [.int (y : Nat), .int v]) ∧
      (x ≤ p ∧ y ≤ p ∧ Nat.gcd x y = 1) ∧ (p : Int) ∣ (u * b.val - x) ∧ (p : Int) ∣ (v * b.val - y), ⟨_, la, ra, b.val, p, 1, 0, none, rfl, rfl, s0, hl0, hr0, ⟨by omega, by omega, hc⟩, ⟨0, by omega⟩, ⟨-1, by omega⟩⟩, ?_⟩
    rintro m σ H1 ⟨la, ra, x, y, u, v, v4, rfl, rfl, s1, hl1, hr1, ⟨hx, hy, hg⟩, d1, d2⟩
    refine ⟨_, rfl, ra, _, 0, .int (y : Nat), rfl, rfl, SqT.of hr1, rfl, _, _, rfl, rfl, _, rfl, ?_⟩
    refine ite2 (fun h0 => ?_) (fun h0 => ?_)
    · have h0 := of_decide_eq_true h0
      refine ⟨fun σ H2 => ∃ (la ra : Addr) (x' y' : Nat) (u v : Int) (v4 : Option V), y' < y ∧ σ = [some (fv b), some (.int (p : Nat)), some (.ref la), some (.ref ra), v4] ∧ Same H H2 ∧ H2 la = some (.tup [.int (x' : Nat), .int u]) ∧ H2 ra = some (.tup [.int (y' : Nat), .int v]) ∧
        (x' ≤ p ∧ y' ≤ p ∧ Nat.gcd x' y' = 1) ∧ (p : Int) ∣ (u * b.val - x') ∧ (p : Int) ∣ (v * b.val - y'), ?_, ?_⟩
      · rintro σ' H' ⟨la, ra, x', y', u, v, v4, hlt, e, s, hl, hr, h1, h2, h3⟩
        exact ⟨y', hlt, la, ra, x', y', u, v, v4, rfl, e, s, hl, hr, h1, h2, h3⟩
      · refine ⟨_, rfl, la, _, 0, .int (x : Nat), rfl, rfl, SqT.of hl1, rfl, _, rfl, ra, _, 0, .int (y : Nat), rfl, rfl, SqT.of hr1, rfl, _, _, rfl, rfl, ⟨by omega, by omega⟩, ?_⟩
        have hyp : 0 < y := by omega
        have hq : x / y ≤ x := Nat.div_le_self _ _
        refine ⟨_, rfl, _, rfl, la, _, 0, .int (x : Nat), rfl, rfl, SqT.of hl1, rfl, _, rfl, _, rfl, ra, _, 0, .int (y : Nat), rfl, rfl, SqT.of hr1, rfl, _, _, rfl, rfl, .inr ⟨by omega, by omega⟩, _, _, rfl, rfl, ?_⟩
        have hqb : -(2 ^ 64) < ((x / y : Nat) : Int) ∧ ((x / y : Nat) : Int) < 2 ^ 64 := by
          generalize x / y = t at hq
          omega
        have e : ((x : Nat) : Int) - ((x / y : Nat) : Int) * ((y : Nat) : Int) = ((x % y : Nat) : Int) := by
          have h1 := Nat.div_add_mod x y
          have h2 : ((y * (x / y) + x % y : Nat) : Int) = (x : Nat) := by rw [h1]
          rw [Int.natCast_add, Int.natCast_mul, Int.mul_comm] at h2
          omega
        refine ⟨_, rfl, la, _, 1, .int u, rfl, rfl, SqT.of hl1, rfl, _, rfl, _, rfl, ra, _, 1, .int v, rfl, rfl, SqT.of hr1, rfl, _, _, rfl, rfl, .inl hqb, _, _, rfl, rfl, by show 2 ≤ sizeLine; decide, fun q hq => ?_⟩
        refine ⟨_, _, rfl, ra, q, y, x % y, v, u - ((x / y : Nat) : Int) * v, _, Nat.mod_lt _ hyp, rfl, s1.trans (Same.new hq), (Same.new hq) _ _ hr1, ?_, ⟨hy, Nat.le_trans (Nat.mod_le _ _) hx, ?_⟩, d2, ?_⟩
        · rw [upd_same]
          show some (HO.tup [V.int (((x : Nat) : Int) - ((x / y : Nat) : Int) * ((y : Nat) : Int)), V.int (u - ((x / y : Nat) : Int) * v)]) = _
          rw [e]
        · rw [Nat.gcd_comm, ← Nat.gcd_rec, Nat.gcd_comm]; exact hg
        · have z2 : (p : Int) ∣ ((x / y : Nat) : Int) * (v * b.val - y) := Int.dvd_mul_of_dvd_right d2
          have z := Int.dvd_sub d1 z2
          have ez : (u - ((x / y : Nat) : Int) * v) * b.val - ((x % y : Nat) : Int) = u * b.val - x - ((x / y : Nat) : Int) * (v * b.val - y) := by
            rw [← e]
            generalize ((x / y : Nat) : Int) = t
            grind
          rw [ez]; exact z
    · have y0 : y = 0 := by
        rcases Nat.eq_zero_or_pos y with h | h
        · exact h
        · exact absurd (decide_eq_true (show (0 : Int) < (y : Nat) by omega)) h0
      rw [y0, Nat.gcd_zero_right] at hg
      subst hg
      refine ⟨_, rfl, la, _, 1, .int u, rfl, rfl, SqT.of hl1, rfl, .inl ⟨_, rfl, _, rfl, _, _, rfl, rfl, (by show (0 : Int) < (p : Nat); omega), ?_⟩⟩
      have hp0 : (0 : Int) < (p : Nat) := by omega
      have m0 := Int.emod_nonneg u (Int.ne_of_gt hp0)
      have m1 := Int.emod_lt_of_pos u hp0
      obtain ⟨r, hr⟩ : ∃ r : Nat, u % ((p : Nat) : Int) = (r : Int) := ⟨(u % ((p : Nat) : Int)).toNat, by omega⟩
      have hrp : r < p := by omega
      have hi : (⟨r, hrp⟩ : _root_.Fin p) = Mx.inv b := by
        refine Mx.inv_uniq hp.prime (Fin.ext ?_)
        show b.val * r % p = 1 % p
        have q1 : (p : Int) ∣ ((r : Int) * b.val - 1) := by
          have q2 := Int.mul_ediv_add_emod u p
          rw [hr] at q2
          obtain ⟨t, ht⟩ := d1
          refine ⟨t - u / p * b.val, ?_⟩
          generalize u / (p : Int) = w9 at q2
          have ht2 : u * b.val - 1 = p * t := ht
          grind
        have q3 : ((b.val * r : Nat) : Int) % p = ((1 : Nat) : Int) % p := by
          rw [Int.emod_eq_emod_iff_emod_sub_eq_zero]
          refine Int.emod_eq_zero_of_dvd ?_
          rw [Int.natCast_mul, Int.mul_comm]
          exact q1
        rw [← Int.natCast_emod, ← Int.natCast_emod] at q3
        exact Int.ofNat.inj q3
      show Q (.int (u % ((p : Nat) : Int))) H1
      rw [hr]
      have := k0 H1 s1
      rw [← hi] at this
      exact this
theorem ok_law_shuffled (T : TX K mg) : FnOk P w K mg base CX0 2 (a_law_shuffled K) (d_ K (a_law_shuffled K)) ["_law_pen_here", "_law_items"] (sp_law_shuffled K) := by
  refine T.F_law_shuffled.ok sc_law_shuffled (fun vs H Q E h => ?_) (fun cdv Ar outer s0 H vs Q E hr h => ?_)
  · (repeat (obtain ⟨_, h⟩ := h)); subst_vars; rfl
  · obtain ⟨pa, ca, ia, cs, N, xs, rfl, pen, hx, hl, hN, k0⟩ := h
    have hu := hu_of hr
    refine ⟨_, (pss_cons (ps_par (i := 2) (j := 3) (by rfl) sc_law_shuffled.nd rfl rfl (by decide) rfl rfl (pa_cons (pe_callTy call_list_of (by rfl) T.n_list (by decide +kernel) (pa_cons (pv 1) pa_nil)) (pa_cons (pe_lst pa_nil) pa_nil)) (by rfl))
      (pss_cons (ps_while PassesOwn.never (pt_cmpR (op_neNil (by exact hr.units)) (pv 2) (pe_lst pa_nil) (nomark _)) (pss_one (ps_expr (pe_bm PySem.F.plainAttrs_list PySem.F.slot_list_append PySem.F.type_list_append mt_append (pv 3) (pa_cons (pe_bm PySem.F.plainAttrs_list PySem.F.slot_list_pop PySem.F.type_list_pop mt_popAt (pv 2) (pa_cons (pe_call (ok_law_draw T) (by exact hr.mono (by decide)) rfl T.g_law_draw T.F_law_draw.kp T.b_law_draw .nil pass0 (pa_cons (pv 0) (pa_cons (pe_callB call_len_seq (by rfl) T.n_len (by decide +kernel) (pa_cons (pv 2) pa_nil)) pa_nil))) pa_nil)) pa_nil)))))
      (pss_one (ps_ret (pv 3))))), ?_⟩
    refine ⟨_, rfl, ia, _, rfl, .inl hx, fun ra hra => ⟨by show 0 ≤ sizeLine; exact Nat.zero_le _, fun fa hfa => ?_⟩⟩
    have s0 : Same H (upd (upd H ra (.lst (xs.map V.int))) fa (.lst [])) := (Same.new hra).trans (Same.new hfa)
    have hr0 : upd (upd H ra (.lst (xs.map V.int))) fa (.lst []) ra = some (.lst (xs.map V.int)) := (Same.new hfa) _ _ upd_same
    have hf0 : upd (upd H ra (.lst (xs.map V.int))) fa (.lst []) fa = some (.lst []) := upd_same
    have nfr : fa ≠ ra := fun z => by rw [z, upd_same] at hfa; cases hfa
    have hfaH : H fa = none := none_upd hfa
    obtain ⟨b0, l0, _, hp0⟩ := pen.pd
    have nra : ra ≠ pa := fun z => by rw [z, hp0] at hra; cases hra
    have nfa : fa ≠ pa := fun z => by rw [z, hp0] at hfaH; cases hfaH
    generalize upd (upd H ra (.lst (xs.map V.int))) fa (.lst []) = H0 at s0 hr0 hf0 ⊢
    refine ⟨_, _, rfl, fun m σ H1 => ∃ (rs fs : List Int), rs.length = m ∧ σ = [some (.ref pa), some (.ref ia), some (.ref ra), some (.ref fa)] ∧ H1 ra = some (.lst (rs.map V.int)) ∧ H1 fa = some (.lst (fs.map V.int)) ∧ rs.length + fs.length = xs.length ∧ (∀ y ∈ rs, y ∈ xs) ∧ (∀ y ∈ fs, y ∈ xs) ∧ PenAt H1 pa ca cs (N + fs.length) ∧ But pa H H1, ⟨_, xs, [], rfl, rfl, hr0, hf0, rfl, fun y h => h, (fun y h => absurd h (by simp)), pen.same s0, fun a u _ e => s0 a u e⟩, ?_⟩
    rintro m σ H1 ⟨rs, fs, rfl, rfl, hr1, hf1, hlen, h1, h2, p1, b1⟩
    refine ⟨_, rfl, by show 0 ≤ sizeLine; exact Nat.zero_le _, fun q hq => ?_⟩
    have s2 : Same H1 (upd H1 q (.lst [])) := Same.new hq
    have hq2 : upd H1 q (.lst []) q = some (.lst []) := upd_same
    generalize upd H1 q (.lst []) = H2 at s2 hq2 ⊢
    refine ⟨ra, q, rs.map V.int, rfl, rfl, SqL.of (s2 _ _ hr1), SqL.of hq2, (fun v hv => by obtain ⟨i, _, rfl⟩ := List.mem_map.mp hv; rfl), _, rfl, ?_⟩
    have p2 := p1.same s2
    have b2 : But pa H H2 := fun a u n e => s2 _ _ (b1 a u n e)
    by_cases h0 : rs = []
    · subst h0
      refine iteF ?_
      exact ⟨_, rfl, k0 H2 fa fs (by simpa using hlen) h2 hfaH (s2 _ _ hf1) (p2.mono (by simp at hlen; omega)) b2⟩
    · have hpos : 0 < rs.length := List.length_pos_iff.mpr h0
      rw [show (!(rs.map V.int).isEmpty) = true by cases rs with
        | nil => exact absurd rfl h0
        | cons _ _ => rfl]
      refine iteT ⟨fun σ H3 => ∃ (rs' fs' : List Int), rs'.length + 1 = rs.length ∧ σ = [some (.ref pa), some (.ref ia), some (.ref ra), some (.ref fa)] ∧ H3 ra = some (.lst (rs'.map V.int)) ∧ H3 fa = some (.lst (fs'.map V.int)) ∧ rs'.length + fs'.length = xs.length ∧ (∀ y ∈ rs', y ∈ xs) ∧ (∀ y ∈ fs', y ∈ xs) ∧ PenAt H3 pa ca cs (N + fs'.length) ∧ But pa H H3, ?_, ?_⟩
      · rintro σ' H' ⟨rs', fs', e, h⟩
        exact ⟨rs'.length, by omega, rs', fs', rfl, h⟩
      · refine ⟨_, rfl, .inl ⟨rfl, _, SqL.of (s2 _ _ hf1)⟩, _, rfl, .inl ⟨rfl, _, SqL.of (s2 _ _ hr1)⟩, _, rfl, _, rfl, ra, _, rfl, .inl (SqL.of (s2 _ _ hr1)), pa, ca, cs, N + fs.length, rs.length, by rw [List.length_map]; rfl, p2, ⟨by omega, by omega⟩, by omega, fun H3 r p3 b3 hr => ?_⟩
        have hr3 := b3 _ _ nra (s2 _ _ hr1)
        have hf3 := b3 _ _ nfa (s2 _ _ hf1)
        refine ⟨ra, rs.map V.int, (r : Int), r, .int rs[r], rfl, rfl, hr3, by omega, by omega, ?_, ?_, ?_⟩
        · rw [seqIndex_of (by omega) (by rw [List.length_map]; omega)]; rfl
        · rw [List.getElem?_map, List.getElem?_eq_getElem hr]; rfl
        · have er : upd H3 ra (.lst ((rs.map V.int).eraseIdx r)) ra = some (.lst ((rs.eraseIdx r).map V.int)) := by rw [upd_same, erase_map]
          have ef : upd H3 ra (.lst ((rs.map V.int).eraseIdx r)) fa = some (.lst (fs.map V.int)) := by rw [upd_ne nfr]; exact hf3
          have lr : (rs.eraseIdx r).length + 1 = rs.length := by rw [List.length_eraseIdx_of_lt hr]; omega
          have nrc : ca ≠ ra := fun z => by
            have h3 := pen.cl
            rw [z, hra] at h3; cases h3
          have nfc : ca ≠ fa := fun z => by
            have h3 := pen.cl
            rw [z, hfaH] at h3; cases h3
          have p4 : PenAt (upd H3 ra (.lst ((rs.map V.int).eraseIdx r))) pa ca cs (N + fs.length + 1) := ⟨let ⟨b, l, h1, h2⟩ := p3.pd; ⟨b, l, h1, by rw [upd_ne (Ne.symm nra)]; exact h2⟩, by rw [upd_ne nrc]; exact p3.cl, p3.few⟩
          have bu4 : But pa H (upd H3 ra (.lst ((rs.map V.int).eraseIdx r))) := fun a u n e => by
            rw [upd_ne (fun z => by rw [z, hra] at e; cases e)]; exact b3 _ _ n (b2 _ _ n e)
          generalize upd H3 ra (.lst ((rs.map V.int).eraseIdx r)) = H4 at er ef p4 bu4 ⊢
          refine ⟨fa, fs.map V.int, _, rfl, rfl, ef, szl _ (by rw [List.length_map]; omega), rs.eraseIdx r, fs ++ [rs[r]], lr, rfl, by rw [upd_ne (Ne.symm nfr)]; exact er, by rw [upd_same, List.map_append]; rfl, by rw [List.length_append]; show _ + (_ + 1) = _; omega, fun y hy => h1 y (List.mem_of_mem_eraseIdx hy), fun y hy => ?_, ?_, fun a u n e => ?_⟩
          · rcases List.mem_append.mp hy with h | h
            · exact h2 y h
            · rw [List.mem_singleton.mp h]; exact h1 _ (List.getElem_mem hr)
          · refine ⟨let ⟨b, l, h1, h2⟩ := p4.pd; ⟨b, l, by rw [List.length_append]; show _ ≤ N + (_ + 1); omega, by rw [upd_ne (Ne.symm nfa)]; exact h2⟩, ?_, p4.few⟩
            rw [upd_ne nfc]; exact p4.cl
          · rw [upd_ne (fun z => by rw [z, hfaH] at e; cases e)]; exact bu4 a u n e
theorem ok_law_letters (T : TX K mg) : FnOk P w K mg base CX0 3 (a_law_letters K) (d_ K (a_law_letters K)) ["_law_pen_here", "_law_most"] (sp_law_letters K) := by
  refine T.F_law_letters.ok sc_law_letters (fun vs H Q E h => ?_) (fun cdv Ar outer s0 H vs Q E hr h => ?_)
  · (repeat (obtain ⟨_, h⟩ := h)); subst_vars; rfl
  · obtain ⟨pa, ca, cs, N, rfl, pen, hN, k0⟩ := h
    have hu := hu_of hr
    refine ⟨_, (pss_cons (ps_set (i := 2) sc_law_letters.nd rfl (Or.inl rfl) (pe_callB cr_sorted (by rfl) T.n_sorted (by decide +kernel) (pa_cons (pe_slice sl_list (pe_call (ok_law_shuffled T) (by exact hr.mono (by decide)) rfl T.g_law_shuffled T.F_law_shuffled.kp T.b_law_shuffled .nil pass0 (pa_cons (pv 0) (pa_cons (pe_listRg rfl (by rfl) T.n_list (prg_1 (by rfl) T.n_range pe_int)) pa_nil))) po_none (po_some (pe_op op_add pe_int (pe_call (ok_law_draw T) (by exact hr.mono (by decide)) rfl T.g_law_draw T.F_law_draw.kp T.b_law_draw .nil pass0 (pa_cons (pv 0) (pa_cons (pv 1) pa_nil)))))) pa_nil)))
      (pss_one (ps_ret (pe_join pe_str (pe_lc (own := [("_law_place", 3)]) (g := gName 3) (tt := tYes) rfl sc_law_letters.nd (pi_list (pv 2)) (blkOk_by (own := [("_law_place", 3)]) (N := N_law_letters) (sc := defScope s_law_letters) (by decide +kernel)) (fun _ _ _ _ _ => (pg_name (i := 3) sc_law_letters.nd rfl (Or.inl rfl))) (fun _ _ _ _ _ => pts_nil) (by intro _ _ _ _ _; exact (pe_item_str pe_str (pv 3) (fun _ _ => rfl)))))))), ?_⟩
    refine ⟨_, rfl, 26, rfl, RgOk.of_le (by decide) (by decide) (by decide) (by decide), fun ia hia => ?_⟩
    have s0 : Same H (upd H ia (.lst (rgV 0 26))) := Same.new hia
    have h0 : SqL K (upd H ia (.lst (rgV 0 26))) ia (((List.range 26).map fun i : Nat => ((0 : Int) + (i : Nat))).map V.int) := by
      rw [List.map_map]; exact SqL.of upd_same
    generalize upd H ia (.lst (rgV 0 26)) = H0 at s0 h0 ⊢
    refine ⟨pa, ca, ia, cs, N, _, rfl, pen.same s0, h0, by decide, by omega, fun H1 q ys hl hm hq hq1 p1 b1 => ?_⟩
    have nq : q ≠ pa := fun z => by obtain ⟨_, _, _, e⟩ := (pen.same s0).pd; rw [z, e] at hq; cases hq
    have hl : ys.length = 26 := hl
    refine ⟨_, rfl, _, rfl, pa, ca, cs, N + 26, 1, rfl, p1, ⟨by omega, by omega⟩, by omega, fun H2 r p2 b2 hr => ?_⟩
    obtain rfl : r = 0 := by omega
    obtain ⟨y0, yr, rfl⟩ : ∃ y0 yr, ys = y0 :: yr := by cases ys with
      | nil => cases hl
      | cons a l => exact ⟨a, l, rfl⟩
    have hy0 := hm y0 (by simp)
    obtain ⟨i, hi, he⟩ := List.mem_map.mp hy0
    have hi := List.mem_range.mp hi
    have he : y0 = ((i : Nat) : Int) := by rw [← he, Int.zero_add]
    subst he
    refine ⟨_, _, rfl, rfl, _, rfl, q, _, rfl, SqL.of (b2 _ _ nq hq1), fun q2 hq2 => ?_⟩
    have ec : cutV ((((i : Nat) : Int) :: yr).map V.int) none (some (1 + ((0 : Nat) : Int))) = [((i : Nat) : Int)].map V.int := by
      unfold cutV
      show (((((i : Nat) : Int) :: yr).map V.int).drop 0).take (min 1 ((((i : Nat) : Int) :: yr).map V.int).length - 0) = _
      rw [List.length_map, hl]; rfl
    have s3 : Same H2 (upd H2 q2 (.lst (cutV ((((i : Nat) : Int) :: yr).map V.int) none (some (1 + ((0 : Nat) : Int)))))) := Same.new hq2
    have h3 : SqL K (upd H2 q2 (.lst (cutV ((((i : Nat) : Int) :: yr).map V.int) none (some (1 + ((0 : Nat) : Int)))))) q2 ([((i : Nat) : Int)].map V.int) := by rw [ec]; exact SqL.of upd_same
    refine ⟨q2, _, rfl, h3, by show 1 < 64; decide, fun ns q3 hp hs hq3 => ?_⟩
    obtain rfl := List.perm_singleton.mp hp
    have s4 := s3.trans (Same.new hq3 (o := .lst ([((i : Nat) : Int)].map V.int)))
    have h4 : SqL K (upd (upd H2 q2 (.lst (cutV ((((i : Nat) : Int) :: yr).map V.int) none (some (1 + ((0 : Nat) : Int)))))) q3 (.lst ([((i : Nat) : Int)].map V.int))) q3 ([((i : Nat) : Int)].map V.int) := SqL.of upd_same
    generalize upd (upd H2 q2 (.lst (cutV ((((i : Nat) : Int) :: yr).map V.int) none (some (1 + ((0 : Nat) : Int)))))) q3 (.lst ([((i : Nat) : Int)].map V.int)) = H4 at s4 h4 ⊢
    refine ⟨⟨_, rfl⟩, _, rfl, q3, rfl, ⟨_, h4⟩, fun D hD => ?_⟩
    refine lc_map (walk_list (K := K) (a := q3) (xs := [((i : Nat) : Int)].map V.int)) (fun _ => .str (A (97 + i) 1)) hD (by show 1 ≤ 100000; decide) (fun Hx sx => sx.seq h4) (fun j x Hx Hy hj sx y Kt kt => ?_) (fun Hx sx hDx => ?_)
    · obtain ⟨rfl, hx⟩ := y
      obtain rfl : j = 0 := by have : j < 1 := hj; omega
      obtain rfl := (Option.some.inj (show some (V.int ((i : Nat) : Int)) = some x from hx)).symm
      refine ⟨rfl, _, rfl, _, ((i : Nat) : Int), 97 + i, rfl, rfl, by omega, by omega, ?_, ?_, kt _ (Same.refl _)⟩
      · show ((i : Nat) : Int) < 26
        omega
      · have : ∀ i, i < 26 → ("abcdefghijklmnopqrstuvwxyz" : Str).cps[i]? = some (97 + i) := by decide +kernel
        rw [Int.toNat_natCast]
        exact this i hi
    · refine ⟨_, D, [A (97 + i) 1], rfl, rfl, .inl (SqL.of hDx), by show 1 + 1 * 0 ≤ 16777216; decide, ?_⟩
      have ej : Txt.join ("" : Str) [A (97 + i) 1] = A (97 + i) 1 := by rfl
      rw [ej]
      refine k0 Hx (97 + i) (by omega) ((p2.same s4).same sx) fun a u n e => sx _ _ (s4 _ _ (b2 _ _ n (b1 _ _ n (s0 _ _ e))))
end
end Fa

namespace Fa
open PySem PySem.Spec L2
/-! ### the law's own rule lengths -/
section
variable {p : Nat} [NeZero p]
theorem fadd (x y : _root_.Fin p) : ∃ k : Int, ((x.val : Nat) : Int) + (y.val : Nat) = (((x + y).val : Nat) : Int) + p * k := by
  refine ⟨(((x.val + y.val) / p : Nat) : Int), ?_⟩
  have h : (x + y).val = (x.val + y.val) % p := rfl
  rw [h]
  have := Nat.div_add_mod (x.val + y.val) p
  have e : ((p * ((x.val + y.val) / p) + (x.val + y.val) % p : Nat) : Int) = ((x.val + y.val : Nat) : Int) := by rw [this]
  rw [Int.natCast_add, Int.natCast_mul, Int.natCast_add] at e
  omega
theorem fmul (x y : _root_.Fin p) : ∃ k : Int, ((x.val : Nat) : Int) * (y.val : Nat) = (((x * y).val : Nat) : Int) + p * k := by
  refine ⟨(((x.val * y.val) / p : Nat) : Int), ?_⟩
  have h : (x * y).val = (x.val * y.val) % p := rfl
  rw [h]
  have := Nat.div_add_mod (x.val * y.val) p
  have e : ((p * ((x.val * y.val) / p) + (x.val * y.val) % p : Nat) : Int) = ((x.val * y.val : Nat) : Int) := by rw [this]
  rw [Int.natCast_add, Int.natCast_mul, Int.natCast_mul] at e
  omega
theorem fsub (x y : _root_.Fin p) : ∃ k : Int, ((x.val : Nat) : Int) - (y.val : Nat) = (((x - y).val : Nat) : Int) + p * k := by
  obtain ⟨k, hk⟩ := fadd (x - y) y
  rw [show x - y + y = x by grind] at hk
  exact ⟨-k, by rw [Int.mul_neg]; omega⟩
theorem fv_of {z : Int} {a : _root_.Fin p} {k : Int} (h : z = ((a.val : Nat) : Int) + p * k) : V.int (z % (p : Nat)) = fv a := by
  rw [h, Int.add_mul_emod_self_left, Int.emod_eq_of_lt (Int.natCast_nonneg _) (by have := a.isLt; omega)]
theorem fv_addmul (a b c : _root_.Fin p) : V.int ((((a.val : Nat) : Int) + ((b.val : Nat) : Int) * ((c.val : Nat) : Int)) % (p : Nat)) = fv (a + b * c) := by
  obtain ⟨k1, h1⟩ := fmul b c
  obtain ⟨k2, h2⟩ := fadd a (b * c)
  exact fv_of (k := k1 + k2) (by rw [Int.mul_add]; omega)
theorem fv_mul (b c : _root_.Fin p) : V.int ((((b.val : Nat) : Int) * ((c.val : Nat) : Int)) % (p : Nat)) = fv (b * c) := by
  obtain ⟨k1, h1⟩ := fmul b c
  exact fv_of h1
theorem fv_add (a b : _root_.Fin p) : V.int ((((a.val : Nat) : Int) + ((b.val : Nat) : Int)) % (p : Nat)) = fv (a + b) := by
  obtain ⟨k1, h1⟩ := fadd a b
  exact fv_of h1
theorem fv_negmul (b c : _root_.Fin p) : V.int ((0 - ((b.val : Nat) : Int) * ((c.val : Nat) : Int)) % (p : Nat)) = fv (0 - b * c) := by
  obtain ⟨k1, h1⟩ := fmul b c
  obtain ⟨k2, h2⟩ := fsub 0 (b * c)
  have h0 : (((0 : _root_.Fin p).val : Nat) : Int) = 0 := by
    have : (0 : _root_.Fin p).val = 0 := Nat.zero_mod _
    rw [this]; rfl
  rw [h0] at h2
  exact fv_of (k := k2 - k1) (by rw [Int.mul_sub]; omega)
/-- the list tells the function, and behind it all is 0 -/
def IsL (l : List (_root_.Fin p)) (C : Nat → _root_.Fin p) : Prop := ∀ k, l.getD k 0 = C k
def fl (l : List (_root_.Fin p)) : List V := l.map fv
theorem fl_len (l : List (_root_.Fin p)) : (fl l).length = l.length := List.length_map ..
theorem fl_get {l : List (_root_.Fin p)} {k : Nat} (h : k < l.length) : (fl l)[k]? = some (fv l[k]) := by unfold fl; rw [List.getElem?_map, List.getElem?_eq_getElem h]; rfl
theorem IsL.get {l : List (_root_.Fin p)} {C : Nat → _root_.Fin p} (h : IsL l C) {k : Nat} (hk : k < l.length) : l[k] = C k := by
  have := h k
  rw [List.getD_eq_getElem?_getD, List.getElem?_eq_getElem hk] at this
  exact this
theorem IsL.zero {l : List (_root_.Fin p)} {C : Nat → _root_.Fin p} (h : IsL l C) {k : Nat} (hk : l.length ≤ k) : C k = 0 := by
  have := h k
  rw [List.getD_eq_getElem?_getD, List.getElem?_eq_none hk] at this
  exact this.symm
theorem IsL.one : IsL [(1 : _root_.Fin p)] Mx.one0 := fun k => by
  unfold Mx.one0
  cases k with
  | zero => rfl
  | succ k => rw [if_neg (by omega)]; rfl
/-- the moved list -/
def movedL (t : _root_.Fin p) (m : Nat) (O : List (_root_.Fin p)) : List (_root_.Fin p) := List.replicate m 0 ++ O.map fun o => 0 - t * o
theorem movedL_len (t : _root_.Fin p) (m : Nat) (O : List (_root_.Fin p)) : (movedL t m O).length = m + O.length := by unfold movedL; rw [List.length_append, List.length_replicate, List.length_map]
theorem movedL_is {t : _root_.Fin p} {m : Nat} {O : List (_root_.Fin p)} {B : Nat → _root_.Fin p} (h : IsL O B) : IsL (movedL t m O) fun k => if m ≤ k then 0 - t * B (k - m) else 0 := fun k => by
  unfold movedL
  show _ = if m ≤ k then 0 - t * B (k - m) else 0
  rw [List.getD_eq_getElem?_getD]
  by_cases hk : m ≤ k
  · rw [if_pos hk, List.getElem?_append_right (by rw [List.length_replicate]; exact hk), List.length_replicate, List.getElem?_map]
    by_cases ho : k - m < O.length
    · rw [List.getElem?_eq_getElem ho, ← h.get ho]; rfl
    · rw [List.getElem?_eq_none (by omega), h.zero (by omega)]
      show (0 : _root_.Fin p) = 0 - t * 0
      grind
  · rw [if_neg hk, List.getElem?_append_left (by rw [List.length_replicate]; omega), List.getElem?_replicate, if_pos (by omega)]; rfl
/-- the rule, made long enough, with so many places of the moved list added -/
def addL (R M : List (_root_.Fin p)) (j : Nat) : List (_root_.Fin p) := (List.range (max R.length M.length)).map fun k => if k < j then R.getD k 0 + M.getD k 0 else R.getD k 0
theorem addL_len (R M : List (_root_.Fin p)) (j : Nat) : (addL R M j).length = max R.length M.length := by unfold addL; rw [List.length_map, List.length_range]
theorem addL_get {R M : List (_root_.Fin p)} {j k : Nat} (h : k < max R.length M.length) : (addL R M j)[k]? = some (if k < j then R.getD k 0 + M.getD k 0 else R.getD k 0) := by unfold addL; rw [List.getElem?_map, List.getElem?_range h]; rfl
theorem addL_zero (R M : List (_root_.Fin p)) : addL R M 0 = R ++ List.replicate (M.length - R.length) 0 := by
  refine List.ext_getElem? fun k => ?_
  by_cases h : k < max R.length M.length
  · rw [addL_get h, if_neg (by omega), List.getD_eq_getElem?_getD]
    by_cases hR : k < R.length
    · rw [List.getElem?_append_left hR, List.getElem?_eq_getElem hR]; rfl
    · rw [List.getElem?_append_right (by omega), List.getElem?_replicate, if_pos (by omega), List.getElem?_eq_none (by omega)]; rfl
  · rw [List.getElem?_eq_none (by rw [addL_len]; omega), List.getElem?_eq_none (by rw [List.length_append, List.length_replicate]; omega)]
theorem addL_set {R M : List (_root_.Fin p)} {j : Nat} (h : j < M.length) : (addL R M j).set j (R.getD j 0 + M.getD j 0) = addL R M (j + 1) := by
  refine List.ext_getElem? fun k => ?_
  by_cases hk : k < max R.length M.length
  · rw [addL_get hk, List.getElem?_set, addL_len, addL_get hk]
    by_cases e : j = k
    · subst e; rw [if_pos rfl, if_pos hk, if_pos (by omega)]
    · rw [if_neg e]
      by_cases hkj : k < j
      · rw [if_pos hkj, if_pos (by omega)]
      · rw [if_neg hkj, if_neg (by omega)]
  · rw [List.getElem?_eq_none (by rw [List.length_set, addL_len]; omega), List.getElem?_eq_none (by rw [addL_len]; omega)]
theorem addL_is {R O : List (_root_.Fin p)} {C B : Nat → _root_.Fin p} {t : _root_.Fin p} {m : Nat} (hR : IsL R C) (hO : IsL O B) : IsL (addL R (movedL t m O) (movedL t m O).length) (Mx.mixed C B t m) := fun k => by
  have hM := movedL_is (t := t) (m := m) hO
  have hmix : Mx.mixed C B t m k = C k + (if m ≤ k then 0 - t * B (k - m) else 0) := by
    unfold Mx.mixed
    by_cases h : m ≤ k
    · rw [if_pos h, if_pos h]; grind
    · rw [if_neg h, if_neg h]; grind
  have hMk : (movedL t m O).getD k 0 = if m ≤ k then 0 - t * B (k - m) else 0 := hM k
  rw [hmix, ← hR k, ← hMk, List.getD_eq_getElem?_getD]
  by_cases hk : k < max R.length (movedL t m O).length
  · rw [addL_get hk]
    by_cases hm : k < (movedL t m O).length
    · rw [if_pos hm]; rfl
    · rw [if_neg hm, List.getD_eq_getElem?_getD (l := movedL t m O), List.getElem?_eq_none (by omega)]
      show R.getD k 0 = R.getD k 0 + 0
      grind
  · rw [List.getElem?_eq_none (by rw [addL_len]; omega), List.getD_eq_getElem?_getD, List.getElem?_eq_none (by omega), List.getD_eq_getElem?_getD (l := movedL t m O), List.getElem?_eq_none (by omega)]
    show (0 : _root_.Fin p) = 0 + 0
    grind
end
def sp_law_rule_lengths (K : PySem.W.Frag) : Sp := fun vs H Q _ => ∃ (va : Addr) (p : Nat) (_ : NeZero p) (s : Nat → _root_.Fin p) (n : Nat), vs = [.ref va, .int (p : Nat)] ∧ SqL K H va (rowV n s) ∧ n ≤ 100 ∧ sixP p ∧ ∀ H' q, Same H H' → H q = none → H' q = some (.lst (bmLs s n)) → Q (.ref q) H'
/-- the state of the law's own steps -/
structure RL {p : Nat} [NeZero p] (s : Nat → _root_.Fin p) (H H1 : Hp) (ra oa fa : Addr) (R O : List (_root_.Fin p)) (x : Mx.BM (_root_.Fin p)) (i : Nat) (fs : List V) : Prop where
  same : Same H H1
  hr : H1 ra = some (.lst (fl R))
  ho : H1 oa = some (.lst (fl O))
  hf : H1 fa = some (.lst fs)
  nr : H ra = none
  no : H oa = none
  nf : H fa = none
  fr : fa ≠ ra
  fo : fa ≠ oa
  isR : IsL R x.C
  isO : IsL O x.B
  lr : R.length ≤ i + 1
  lo : O.length + x.m ≤ i + 2
theorem RL.lift {p : Nat} [NeZero p] {s : Nat → _root_.Fin p} {H H1 H2 : Hp} {ra oa fa : Addr} {R O : List (_root_.Fin p)} {x : Mx.BM (_root_.Fin p)} {i : Nat} {fs : List V} (r : RL s H H1 ra oa fa R O x i fs) (s2 : Same H1 H2) : RL s H H2 ra oa fa R O x i fs :=
  ⟨r.same.trans s2, s2 _ _ r.hr, s2 _ _ r.ho, s2 _ _ r.hf, r.nr, r.no, r.nf, r.fr, r.fo, r.isR, r.isO, r.lr, r.lo⟩
theorem rep_fl {p : Nat} [NeZero p] (m : Nat) : (List.replicate m [V.int 0]).flatten = fl (List.replicate m (0 : _root_.Fin p)) := by
  unfold fl
  rw [List.map_replicate, fv_zero]
  induction m with
  | zero => rfl
  | succ m ih => rw [List.replicate_succ, List.flatten_cons, ih, List.replicate_succ]; rfl
section
variable {P : Program} {w : World} {K : PySem.W.Frag} {mg : Str → Option Value} {base : Heap}
theorem ok_law_rule_lengths (T : TX K mg) : FnOk P w K mg base CX0 2 (a_law_rule_lengths K) (d_ K (a_law_rule_lengths K)) ["_law_values", "_law_prime_here"] (sp_law_rule_lengths K) := by
  refine T.F_law_rule_lengths.ok sc_law_rule_lengths (fun vs H Q E h => ?_) (fun cdv Ar outer s0 H vs Q E hr h => ?_)
  · (repeat (obtain ⟨_, h⟩ := h)); subst_vars; rfl
  · obtain ⟨va, p, nz, s, n, rfl, hv, hn, hp, k0⟩ := h
    have hu := hu_of hr
    refine ⟨_, (pss_cons (ps_asg (pe_tup (pa_cons (pe_lst (pa_cons pe_int pa_nil)) (pa_cons (pe_lst (pa_cons pe_int pa_nil)) (pa_cons pe_int (pa_cons pe_int (pa_cons pe_int (pa_cons (pe_lst (pa_cons pe_int pa_nil)) pa_nil))))))) (pg_tup (by rfl) (pgs_cons (pg_name (i := 2) sc_law_rule_lengths.nd rfl (Or.inl rfl)) (pgs_cons (pg_name (i := 3) sc_law_rule_lengths.nd rfl (Or.inl rfl)) (pgs_cons (pg_name (i := 4) sc_law_rule_lengths.nd rfl (Or.inl rfl)) (pgs_cons (pg_name (i := 5) sc_law_rule_lengths.nd rfl (Or.inl rfl)) (pgs_cons (pg_name (i := 6) sc_law_rule_lengths.nd rfl (Or.inl rfl)) (pgs_cons (pg_name (i := 7) sc_law_rule_lengths.nd rfl (Or.inl rfl)) pgs_nil))))))))
      (pss_cons (ps_for PassesOwn.never rfl (pi_range1 rfl T.n_range (pa_cons (pe_callB call_len_seq (by rfl) T.n_len (by decide +kernel) (pa_cons (pv 0) pa_nil)) pa_nil)) (pg_name (i := 8) sc_law_rule_lengths.nd rfl (Or.inl rfl)) (pss_cons (ps_set (i := 9) sc_law_rule_lengths.nd rfl (Or.inl rfl) pe_int)
      (pss_cons (ps_for PassesOwn.never rfl (pi_range1 rfl T.n_range (pa_cons (pe_op op_add (pv 4) pe_int) pa_nil)) (pg_name (i := 10) sc_law_rule_lengths.nd rfl (Or.inl rfl)) (Evl.pss_cut (ps_set (i := 11) sc_law_rule_lengths.nd rfl (Or.inl rfl) (pe_ifExp (pt_cmpR op_lt (pv 10) (pe_callB call_len_seq (by rfl) T.n_len (by decide +kernel) (pa_cons (pv 2) pa_nil)) (nomark _)) (pe_ix (ix_listK (K := K) rfl) (pv 2) (pv 10) (fun _ _ => rfl)) pe_int))
      (pss_one (ps_set (i := 9) sc_law_rule_lengths.nd rfl (Or.inl rfl) (pe_op op_mod (pe_callTy call_int1 (by rfl) T.n_int (by decide +kernel) (pa_cons (pe_op op_add (pv 9) (pe_op op_mul (pv 11) (pe_ix (ix_listK (K := K) rfl) (pv 0) (pe_op op_sub (pv 8) (pv 10)) (fun _ _ => rfl)))) pa_nil)) (pv 1))))))
      (Evl.pss_cut (ps_if (pt_cmpR op_ne (pv 9) pe_int (nomark _)) (pss_cons (ps_set (i := 12) sc_law_rule_lengths.nd rfl (Or.inl rfl) (pe_op op_mod (pe_callTy call_int1 (by rfl) T.n_int (by decide +kernel) (pa_cons (pe_op op_mul (pv 9) (pe_call (ok_law_inverse T) (by exact hr.mono (by decide)) rfl T.g_law_inverse T.F_law_inverse.kp T.b_law_inverse .nil pass0 (pa_cons (pv 6) (pa_cons (pv 1) pa_nil)))) pa_nil)) (pv 1)))
      (pss_cons (ps_par (i := 13) (j := 14) (by rfl) sc_law_rule_lengths.nd rfl rfl (by decide) rfl rfl (pa_cons (pe_callTy call_list_of (by rfl) T.n_list (by decide +kernel) (pa_cons (pv 2) pa_nil)) (pa_cons (pe_op op_rep (pe_lst (pa_cons pe_int pa_nil)) (pv 5)) pa_nil)) (by rfl))
      (pss_cons (ps_for PassesOwn.never rfl (pi_list (pv 3)) (pg_name (i := 15) sc_law_rule_lengths.nd rfl (Or.inl rfl)) (pss_one (ps_expr (pe_bm PySem.F.plainAttrs_list PySem.F.slot_list_append PySem.F.type_list_append mt_append (pv 14) (pa_cons (pe_op op_mod (pe_callTy call_int1 (by rfl) T.n_int (by decide +kernel) (pa_cons (pe_op op_sub pe_int (pe_op op_mul (pv 12) (pv 15))) pa_nil)) (pv 1)) pa_nil)))))
      (pss_cons (ps_set (i := 2) sc_law_rule_lengths.nd rfl (Or.inl rfl) (pe_op op_cat (pv 2) (pe_op op_rep (pe_lst (pa_cons pe_int pa_nil)) (pe_op op_sub (pe_callB call_len_seq (by rfl) T.n_len (by decide +kernel) (pa_cons (pv 14) pa_nil)) (pe_callB call_len_seq (by rfl) T.n_len (by decide +kernel) (pa_cons (pv 2) pa_nil))))))
      (pss_cons (ps_for PassesOwn.never rfl (pi_range1 rfl T.n_range (pa_cons (pe_callB call_len_seq (by rfl) T.n_len (by decide +kernel) (pa_cons (pv 14) pa_nil)) pa_nil)) (pg_name (i := 10) sc_law_rule_lengths.nd rfl (Or.inl rfl)) (pss_one (ps_asg (pe_op op_mod (pe_callTy call_int1 (by rfl) T.n_int (by decide +kernel) (pa_cons (pe_op op_add (pe_ix (ix_listK (K := K) rfl) (pv 2) (pv 10) (fun _ _ => rfl)) (pe_ix (ix_listK (K := K) rfl) (pv 14) (pv 10) (fun _ _ => rfl))) pa_nil)) (pv 1)) (pg_sub (pv 2) (pv 10) set_list))))
      (pss_one (ps_if (pt_cmpR op_le (pe_op op_mul pe_int (pv 4)) (pv 8) (nomark _)) (pss_one (ps_asg (pe_tup (pa_cons (pv 13) (pa_cons (pv 9) (pa_cons (pe_op op_sub (pe_op op_add (pv 8) pe_int) (pv 4)) (pa_cons pe_int pa_nil))))) (pg_tup (by rfl) (pgs_cons (pg_name (i := 3) sc_law_rule_lengths.nd rfl (Or.inl rfl)) (pgs_cons (pg_name (i := 6) sc_law_rule_lengths.nd rfl (Or.inl rfl)) (pgs_cons (pg_name (i := 4) sc_law_rule_lengths.nd rfl (Or.inl rfl)) (pgs_cons (pg_name (i := 5) sc_law_rule_lengths.nd rfl (Or.inl rfl)) pgs_nil))))))) pss_nil))))))) pss_nil)
      (pss_cons (ps_set (i := 5) sc_law_rule_lengths.nd rfl (Or.inl rfl) (pe_op op_add (pv 5) pe_int))
      (pss_one (ps_expr (pe_bm PySem.F.plainAttrs_list PySem.F.slot_list_append PySem.F.type_list_append mt_append (pv 7) (pa_cons (pv 4) pa_nil)))))))))
      (pss_one (ps_ret (pv 7))))), ?_⟩
    have h2 := hp.lo
    have h3 := hp.hi
    refine ⟨by show 1 ≤ sizeLine; decide, fun ra hra => ⟨by show 1 ≤ sizeLine; decide, fun oa hoa => ⟨by show 1 ≤ sizeLine; decide, fun fa hfa => ⟨by show 6 ≤ sizeLine; decide, fun tq htq => ?_⟩⟩⟩⟩
    refine ⟨tq, _, rfl, SqT.of upd_same, rfl, _, _, rfl, _, _, rfl, _, _, rfl, _, _, rfl, _, _, rfl, _, _, rfl, rfl, ?_⟩
    have nro : oa ≠ ra := fun z => by rw [z, upd_same] at hoa; cases hoa
    have nfo : fa ≠ oa := fun z => by rw [z, upd_same] at hfa; cases hfa
    have nfr : fa ≠ ra := fun z => by rw [z, upd_ne (Ne.symm nro), upd_same] at hfa; cases hfa
    have hoaH : H oa = none := none_upd hoa
    have hfaH : H fa = none := none_upd (none_upd hfa)
    have s0 : Same H (upd (upd (upd (upd H ra (.lst [.int 1])) oa (.lst [.int 1])) fa (.lst [.int 0])) tq (.tup [.ref ra, .ref oa, .int 0, .int 1, .int 1, .ref fa])) := (((Same.new hra).trans (Same.new hoa)).trans (Same.new hfa)).trans (Same.new htq)
    have hr0 : upd (upd (upd (upd H ra (.lst [.int 1])) oa (.lst [.int 1])) fa (.lst [.int 0])) tq (.tup [.ref ra, .ref oa, .int 0, .int 1, .int 1, .ref fa]) ra = some (.lst (fl [(1 : _root_.Fin p)])) := by
      show _ = some (HO.lst [fv (1 : _root_.Fin p)])
      rw [fv_one h2]
      exact (Same.new htq) _ _ ((Same.new hfa) _ _ ((Same.new hoa) _ _ upd_same))
    have ho0 : upd (upd (upd (upd H ra (.lst [.int 1])) oa (.lst [.int 1])) fa (.lst [.int 0])) tq (.tup [.ref ra, .ref oa, .int 0, .int 1, .int 1, .ref fa]) oa = some (.lst (fl [(1 : _root_.Fin p)])) := by
      show _ = some (HO.lst [fv (1 : _root_.Fin p)])
      rw [fv_one h2]
      exact (Same.new htq) _ _ ((Same.new hfa) _ _ upd_same)
    have hf0 : upd (upd (upd (upd H ra (.lst [.int 1])) oa (.lst [.int 1])) fa (.lst [.int 0])) tq (.tup [.ref ra, .ref oa, .int 0, .int 1, .int 1, .ref fa]) fa = some (.lst (bmLs s 0)) := (Same.new htq) _ _ upd_same
    generalize upd (upd (upd (upd H ra (.lst [.int 1])) oa (.lst [.int 1])) fa (.lst [.int 0])) tq (.tup [.ref ra, .ref oa, .int 0, .int 1, .int 1, .ref fa]) = H0 at s0 hr0 ho0 hf0 ⊢
    have r0 : RL s H H0 ra oa fa [1] [1] (Mx.bm Mx.inv s 0) 0 (bmLs s 0) := ⟨s0, hr0, ho0, hf0, hra, hoaH, hfaH, nfr, nfo, IsL.one, IsL.one, by show 1 ≤ 0 + 1; decide, by show 1 + 1 ≤ 0 + 2; decide⟩
    refine ⟨_, rfl, va, _, rfl, .inl (s0.seq hv), _, rfl, by omega, by rw [rowV_len]; omega, ?_⟩
    rw [rowV_len]
    refine for_it (walk_range (lo := 0) (n := n)) (fun i σ H1 => ∃ (ra oa : Addr) (R O : List (_root_.Fin p)) (v8 v9 v10 v11 v12 v13 v14 v15 : Option V), σ = [some (.ref va), some (.int (p : Nat)), some (.ref ra), some (.ref oa), some (.int ((Mx.bm Mx.inv s i).L : Nat)), some (.int ((Mx.bm Mx.inv s i).m : Nat)), some (fv (Mx.bm Mx.inv s i).b), some (.ref fa), v8, v9, v10, v11, v12, v13, v14, v15] ∧ RL s H H1 ra oa fa R O (Mx.bm Mx.inv s i) i (bmLs s i)) ⟨ra, oa, [1], [1], none, none, none, none, none, none, none, none, ?_, r0⟩ (fun _ _ _ _ _ => trivial) (fun i x σ H1 H2 hi pv y => ?_) (fun σ H1 pv => ?_)
    · show [some (V.ref va), some (.int (p : Nat)), some (.ref ra), some (.ref oa), some (.int 0), some (.int 1), some (.int 1), some (.ref fa), none, none, none, none, none, none, none, none] = [some (V.ref va), some (.int (p : Nat)), some (.ref ra), some (.ref oa), some (.int 0), some (.int 1), some (fv (1 : _root_.Fin p)), some (.ref fa), none, none, none, none, none, none, none, none]
      rw [fv_one h2]
    · obtain ⟨ra, oa, R, O, v8, v9, v10, v11, v12, v13, v14, v15, rfl, r⟩ := pv
      obtain ⟨hH, rfl⟩ := y
      rw [hH]
      have hrule := bmRule hp s i
      have hok := Mx.bmOk Mx.inv (Mx.mul_inv hp.prime) (Mx.one_ne hp.prime) s i
      have hL := hrule.le
      have hstep : Mx.bm Mx.inv s (i + 1) = Mx.bmStep Mx.inv s i (Mx.bm Mx.inv s i) := rfl
      have hLs : bmL s (i + 1) = (Mx.bm Mx.inv s (i + 1)).L := rfl
      have hL0 : bmL s i = (Mx.bm Mx.inv s i).L := rfl
      rw [hL0] at hrule hL
      generalize Mx.bm Mx.inv s i = x at r hrule hok hL hstep hL0 ⊢
      dsimp only
      rw [Int.zero_add]
      have hvx : SqL K H1 va (rowV n s) := r.same.seq hv
      refine ⟨_, rfl, _, _, rfl, rfl, _, rfl, by omega, by omega, ?_⟩
      refine for_it (walk_range (lo := 0) (n := x.L + 1)) (fun k σ H2 => ∃ (v10 v11 : Option V), σ = [some (.ref va), some (.int (p : Nat)), some (.ref ra), some (.ref oa), some (.int (x.L : Nat)), some (.int (x.m : Nat)), some (fv x.b), some (.ref fa), some (.int (i : Nat)), some (fv (Mx.sumR k fun k => x.C k * s (i - k))), v10, v11, v12, v13, v14, v15] ∧ H2 = H1) ⟨v10, v11, ?_, rfl⟩ (fun _ _ _ _ _ => trivial) (fun k x2 σ H2 H3 hk pv y => ?_) (fun σ H2 pv => ?_)
      · show _ = [some (.ref va), some (.int (p : Nat)), some (.ref ra), some (.ref oa), some (.int (x.L : Nat)), some (.int (x.m : Nat)), some (fv x.b), some (.ref fa), some (.int (i : Nat)), some (fv (0 : _root_.Fin p)), v10, v11, v12, v13, v14, v15]
        rw [fv_zero]; rfl
      · obtain ⟨v10, v11, rfl, e2⟩ := pv
        obtain ⟨e3, rfl⟩ := y
        rw [e3, e2]
        dsimp only
        rw [Int.zero_add]
        refine ⟨fun σ H3 => σ = [some (.ref va), some (.int (p : Nat)), some (.ref ra), some (.ref oa), some (.int (x.L : Nat)), some (.int (x.m : Nat)), some (fv x.b), some (.ref fa), some (.int (i : Nat)), some (fv (Mx.sumR k fun k => x.C k * s (i - k))), some (.int (k : Nat)), some (fv (x.C k)), v12, v13, v14, v15] ∧ H3 = H1, ?_, ?_⟩
        · refine ⟨_, rfl, _, rfl, ra, _, rfl, .inl (SqL.of r.hr), _, _, rfl, rfl, _, rfl, ?_⟩
          rw [fl_len]
          by_cases hkR : k < R.length
          · rw [decide_eq_true (show ((k : Nat) : Int) < (R.length : Nat) by omega)]
            refine iteT ⟨_, rfl, _, rfl, ra, fl R, (k : Int), fv (x.C k), rfl, rfl, SqL.of r.hr, at_of (j := k) rfl (by rw [fl_get hkR, r.isR.get hkR]), rfl, rfl⟩
          · rw [decide_eq_false (show ¬ ((k : Nat) : Int) < (R.length : Nat) by omega)]
            refine iteF ?_
            have h0 : x.C k = 0 := r.isR.zero (by omega)
            refine ⟨?_, rfl⟩
            rw [h0, fv_zero]; rfl
        · rintro σ H4 ⟨rfl, e4⟩
          rw [e4]
          have hki : k ≤ i := by omega
          refine ⟨_, rfl, _, rfl, _, rfl, _, rfl, _, rfl, _, _, rfl, rfl, va, rowV n s, ((i : Nat) : Int) - (k : Nat), fv (s (i - k)), rfl, rfl, hvx, at_of (j := i - k) (by omega) (rowV_get (by omega)), _, _, rfl, rfl, .inl ⟨by omega, by have := (x.C k).isLt; omega⟩, _, _, rfl, rfl, .inl ⟨_, rfl, _, rfl, _, _, rfl, rfl, (by show (0 : Int) < (p : Nat); omega), ?_⟩⟩
          refine ⟨some (.int (k : Nat)), some (fv (x.C k)), ?_, rfl⟩
          show _ = [some (.ref va), some (.int (p : Nat)), some (.ref ra), some (.ref oa), some (.int (x.L : Nat)), some (.int (x.m : Nat)), some (fv x.b), some (.ref fa), some (.int (i : Nat)), some (fv ((Mx.sumR k fun k => x.C k * s (i - k)) + x.C k * s (i - k))), some (.int (k : Nat)), some (fv (x.C k)), v12, v13, v14, v15]
          rw [← fv_addmul]; rfl
      · obtain ⟨v10, v11, rfl, e2⟩ := pv
        rw [e2]
        have hcv := Mx.conv_cut (s := s) hrule.deg hL
        rw [← hcv]
        refine ⟨fun σ H3 => ∃ (ra oa : Addr) (R O : List (_root_.Fin p)) (m0 : Nat) (v9 v10 v11 v12 v13 v14 v15 : Option V), σ = [some (.ref va), some (.int (p : Nat)), some (.ref ra), some (.ref oa), some (.int ((Mx.bm Mx.inv s (i + 1)).L : Nat)), some (.int (m0 : Nat)), some (fv (Mx.bm Mx.inv s (i + 1)).b), some (.ref fa), some (.int (i : Nat)), v9, v10, v11, v12, v13, v14, v15] ∧ m0 + 1 = (Mx.bm Mx.inv s (i + 1)).m ∧ RL s H H3 ra oa fa R O (Mx.bm Mx.inv s (i + 1)) (i + 1) (bmLs s i), ?_, ?_⟩
        · refine ⟨_, rfl, rfl, _, rfl, ?_⟩
          have hoff : decide (fv (Mx.conv x.C s i) = V.int 0) = decide (Mx.conv x.C s i = 0) := fv_is0 _
          refine ite2 (fun hne => ?_) (fun heq => ?_)
          · have h0 : Mx.conv x.C s i ≠ 0 := fun h => by
              rw [hoff, decide_eq_true h] at hne
              exact absurd hne (by decide)
            have hcb := (Mx.conv x.C s i).isLt
            refine ⟨_, rfl, _, rfl, _, rfl, p, nz, x.b, rfl, hp, hok.nz, fun H2 s2 => ⟨_, _, rfl, rfl, .inl ⟨by omega, by omega⟩, .inl ⟨_, rfl, _, rfl, _, _, rfl, rfl, (by show (0 : Int) < (p : Nat); omega), ?_⟩⟩⟩
            dsimp only
            rw [fv_mul]
            obtain ⟨t, ht⟩ : ∃ t, t = Mx.conv x.C s i * Mx.inv x.b := ⟨_, rfl⟩
            rw [← ht]
            have r2 := r.lift s2
            have hlo := r.lo
            have hlr := r.lr
            refine ⟨_, rfl, ra, _, rfl, .inl (SqL.of r2.hr), fun ka hka => ⟨by show 1 ≤ sizeLine; decide, fun z hz => ⟨_, rfl, z, (x.m : Nat), [.int 0], rfl, rfl, upd_same, by omega, by omega, by show 1 * x.m ≤ sizeLine; exact sz _ (by omega), fun ma hma => ?_⟩⟩⟩
            have s3 : Same H2 (upd (upd (upd H2 ka (.lst (fl R))) z (.lst [.int 0])) ma (.lst (List.replicate ((x.m : Nat) : Int).toNat [V.int 0]).flatten)) := ((Same.new hka).trans (Same.new hz)).trans (Same.new hma)
            have nkz : ka ≠ z := fun q => by rw [← q, upd_same] at hz; cases hz
            have nkm : ka ≠ ma := fun q => by rw [← q, upd_ne nkz, upd_same] at hma; cases hma
            have hk3 : upd (upd (upd H2 ka (.lst (fl R))) z (.lst [.int 0])) ma (.lst (List.replicate ((x.m : Nat) : Int).toNat [V.int 0]).flatten) ka = some (.lst (fl R)) := by rw [upd_ne nkm, upd_ne nkz]; exact upd_same
            have hm3 : upd (upd (upd H2 ka (.lst (fl R))) z (.lst [.int 0])) ma (.lst (List.replicate ((x.m : Nat) : Int).toNat [V.int 0]).flatten) ma = some (.lst (fl (List.replicate x.m (0 : _root_.Fin p)))) := by rw [upd_same, ← rep_fl]; rfl
            have hma2 : H2 ma = none := none_upd (none_upd hma)
            generalize upd (upd (upd H2 ka (.lst (fl R))) z (.lst [.int 0])) ma (.lst (List.replicate ((x.m : Nat) : Int).toNat [V.int 0]).flatten) = H3 at s3 hk3 hm3 ⊢
            have r3 := r2.lift s3
            have hmaH : H ma = none := r2.same.free hma2
            have hkaH : H ka = none := r2.same.free hka
            refine ⟨_, _, rfl, ?_⟩
            refine ⟨_, rfl, oa, rfl, ⟨_, SqL.of r3.ho⟩, ?_⟩
            refine for_it (walk_list (K := K) (a := oa) (xs := fl O)) (fun j σ H4 => ∃ v15 : Option V, σ = [some (.ref va), some (.int (p : Nat)), some (.ref ra), some (.ref oa), some (.int (x.L : Nat)), some (.int (x.m : Nat)), some (fv x.b), some (.ref fa), some (.int (i : Nat)), some (fv (Mx.conv x.C s i)), v10, v11, some (fv t), some (.ref ka), some (.ref ma), v15] ∧ But ma H3 H4 ∧ H4 ma = some (.lst (fl (movedL t x.m (O.take j))))) ⟨v15, rfl, fun a u _ e => e, ?_⟩ (fun j σ H4 _ pv => ?_) (fun j y σ H4 H5 hj pv yy => ?_) (fun σ H4 pv => ?_)
            · rw [hm3]
              unfold movedL
              rw [List.take_zero, List.map_nil, List.append_nil]
            · obtain ⟨v15, _, b4, _⟩ := pv
              exact SqL.of (b4 _ _ (fun q => by have := r2.ho; rw [q, hma2] at this; cases this) r3.ho)
            · obtain ⟨v15, rfl, b4, hm4⟩ := pv
              obtain ⟨e5, hy⟩ := yy
              rw [e5]
              have hj : j < O.length := by rw [fl_len] at hj; exact hj
              rw [fl_get hj] at hy
              obtain rfl := (Option.some.inj hy).symm
              have htb := t.isLt
              refine ⟨_, rfl, .inl ⟨rfl, _, SqL.of hm4⟩, _, rfl, _, rfl, _, _, rfl, rfl, .inl ⟨by omega, by omega⟩, _, _, rfl, rfl, .inl ⟨_, rfl, _, rfl, _, _, rfl, rfl, (by show (0 : Int) < (p : Nat); omega), ma, _, _, rfl, rfl, hm4, szl _ (by rw [fl_len, movedL_len, List.length_take]; omega), ?_⟩⟩
              refine ⟨some (fv O[j]), rfl, fun a u n e => by rw [upd_ne n]; exact b4 a u n e, ?_⟩
              rw [upd_same]
              show some (HO.lst (fl (movedL t x.m (O.take j)) ++ [V.int ((0 - ((t.val : Nat) : Int) * ((O[j].val : Nat) : Int)) % (p : Nat))])) = _
              rw [fv_negmul, List.take_succ_eq_append_getElem hj]
              unfold movedL fl
              rw [List.map_append, List.map_append, List.map_append, List.map_append, List.append_assoc]; rfl
            · obtain ⟨v15, rfl, b4, hm4⟩ := pv
              rw [fl_len, List.take_length] at hm4
              have nrm : ra ≠ ma := fun q => by have := r2.hr; rw [q, hma2] at this; cases this
              have nom : oa ≠ ma := fun q => by have := r2.ho; rw [q, hma2] at this; cases this
              have nfm : fa ≠ ma := fun q => by have := r2.hf; rw [q, hma2] at this; cases this
              have hr4 := b4 _ _ nrm r3.hr
              have ho4 := b4 _ _ nom r3.ho
              have hf4 := b4 _ _ nfm r3.hf
              have hk4 := b4 _ _ nkm hk3
              have s4 : Same H H4 := fun a u e => b4 a u (fun q => by rw [q, hmaH] at e; cases e) (r3.same _ _ e)
              obtain ⟨M, hM⟩ : ∃ M, M = movedL t x.m O := ⟨_, rfl⟩
              have hMl : M.length = x.m + O.length := by rw [hM, movedL_len]
              rw [← hM] at hm4
              refine ⟨_, rfl, by show 1 ≤ sizeLine; decide, fun z2 hz2 => ?_⟩
              have sz4 : Same H4 (upd H4 z2 (.lst [.int 0])) := Same.new hz2
              refine ⟨_, rfl, ma, _, rfl, .inl (SqL.of (sz4 _ _ hm4)), _, rfl, ra, _, rfl, .inl (SqL.of (sz4 _ _ hr4)), _, _, rfl, rfl, z2, _, [.int 0], rfl, rfl, upd_same, ?_, ?_, ?_, fun z3 hz3 => ?_⟩
              · rw [fl_len, fl_len]; omega
              · rw [fl_len, fl_len]; omega
              · rw [fl_len, fl_len]; show 1 * _ ≤ sizeLine; exact sz _ (by omega)
              · have sz5 : Same H4 (upd (upd H4 z2 (.lst [.int 0])) z3 (.lst (List.replicate (((fl M).length : Int) - (fl R).length).toNat [V.int 0]).flatten)) := sz4.trans (Same.new hz3)
                have hz3' : upd (upd H4 z2 (.lst [.int 0])) z3 (.lst (List.replicate (((fl M).length : Int) - (fl R).length).toNat [V.int 0]).flatten) z3 = some (.lst (fl (List.replicate (M.length - R.length) (0 : _root_.Fin p)))) := by
                  have en : (((M.length : Nat) : Int) - ((R.length : Nat) : Int)).toNat = M.length - R.length := by omega
                  rw [upd_same, ← rep_fl, fl_len, fl_len, en]
                have hz3H : H4 z3 = none := none_upd hz3
                generalize upd (upd H4 z2 (.lst [.int 0])) z3 (.lst (List.replicate (((fl M).length : Int) - (fl R).length).toNat [V.int 0]).flatten) = H5 at sz5 hz3' ⊢
                have hlR : R.length ≤ 101 := by omega
                have hlM : M.length ≤ 102 := by omega
                refine ⟨ra, z3, fl R, _, rfl, rfl, sz5 _ _ hr4, hz3', sz _ (by rw [fl_len, fl_len, List.length_replicate]; omega), fun na hna => ?_⟩
                have s6 : Same H (upd H5 na (.lst (fl R ++ fl (List.replicate (M.length - R.length) (0 : _root_.Fin p))))) := (s4.trans sz5).trans (Same.new hna)
                have s56 : Same H4 (upd H5 na (.lst (fl R ++ fl (List.replicate (M.length - R.length) (0 : _root_.Fin p))))) := sz5.trans (Same.new hna)
                have hn6 : upd H5 na (.lst (fl R ++ fl (List.replicate (M.length - R.length) (0 : _root_.Fin p)))) na = some (.lst (fl (addL R M 0))) := by
                  rw [upd_same, addL_zero]
                  unfold fl
                  rw [List.map_append]
                have hna4 : H4 na = none := sz5.free hna
                have hnaH : H na = none := s4.free hna4
                have nna : ∀ a u, H4 a = some u → a ≠ na := fun a u e q => by rw [q, hna4] at e; cases e
                have n1 := nna _ _ hf4
                have n2 := nna _ _ ho4
                have n3 := nna _ _ hk4
                have n4 := nna _ _ hm4
                have ho6 := s56 _ _ ho4
                have hf6 := s56 _ _ hf4
                have hk6 := s56 _ _ hk4
                have hm6 := s56 _ _ hm4
                generalize upd H5 na (.lst (fl R ++ fl (List.replicate (M.length - R.length) (0 : _root_.Fin p)))) = H6 at s6 hn6 ho6 hf6 hk6 hm6 ⊢
                refine ⟨_, rfl, ma, _, rfl, .inl (SqL.of hm6), _, rfl, by omega, by rw [fl_len]; omega, ?_⟩
                rw [fl_len]
                refine for_it (walk_range (lo := 0) (n := M.length)) (fun j σ H7 => ∃ v10 : Option V, σ = [some (.ref va), some (.int (p : Nat)), some (.ref na), some (.ref oa), some (.int (x.L : Nat)), some (.int (x.m : Nat)), some (fv x.b), some (.ref fa), some (.int (i : Nat)), some (fv (Mx.conv x.C s i)), v10, v11, some (fv t), some (.ref ka), some (.ref ma), v15] ∧ But na H6 H7 ∧ H7 na = some (.lst (fl (addL R M j)))) ⟨v10, rfl, fun a u _ e => e, hn6⟩ (fun _ _ _ _ _ => trivial) (fun j y σ H7 H8 hj pv yy => ?_) (fun σ H7 pv => ?_)
                · obtain ⟨v10, rfl, b7, hn7⟩ := pv
                  obtain ⟨e8, rfl⟩ := yy
                  rw [e8]
                  dsimp only
                  rw [Int.zero_add]
                  have hjm : j < max R.length M.length := by omega
                  have hja : j < (addL R M j).length := by rw [addL_len]; exact hjm
                  have hg : (fl (addL R M j))[j]? = some (fv (R.getD j 0)) := by
                    unfold fl
                    rw [List.getElem?_map, addL_get hjm, if_neg (by omega)]; rfl
                  have hg2 : (fl M)[j]? = some (fv (M.getD j 0)) := by
                    rw [fl_get hj, List.getD_eq_getElem?_getD, List.getElem?_eq_getElem hj]; rfl
                  refine ⟨_, rfl, _, rfl, na, _, ((j : Nat) : Int), _, rfl, rfl, SqL.of hn7, at_of (j := j) rfl hg, _, rfl, _, rfl, ma, _, ((j : Nat) : Int), _, rfl, rfl, SqL.of (b7 _ _ (Ne.symm n4).symm hm6), at_of (j := j) rfl hg2, _, _, rfl, rfl, .inl ⟨_, rfl, _, rfl, _, _, rfl, rfl, (by show (0 : Int) < (p : Nat); omega), _, rfl, _, rfl, na, _, ((j : Nat) : Int), j, rfl, rfl, hn7, by unfold ixN; rw [if_pos (by omega), if_pos (by rw [fl_len]; omega)]; rfl, ?_⟩⟩
                  refine ⟨some (.int (j : Nat)), rfl, fun a u n e => by rw [upd_ne n]; exact b7 a u n e, ?_⟩
                  rw [upd_same]
                  show some (HO.lst ((fl (addL R M j)).set j (V.int (((((R.getD j 0).val : Nat) : Int) + (((M.getD j 0).val : Nat) : Int)) % (p : Nat))))) = _
                  rw [fv_add, ← addL_set hj]
                  unfold fl
                  rw [List.map_set]
                · obtain ⟨v10, rfl, b7, hn7⟩ := pv
                  have ho7 := b7 _ _ n2 ho6
                  have hf7 := b7 _ _ n1 hf6
                  have hk7 := b7 _ _ n3 hk6
                  have s7 : Same H H7 := fun a u e => b7 a u (fun q => by rw [q, hnaH] at e; cases e) (s6 _ _ e)
                  have hlA : (addL R M M.length).length ≤ i + 2 := by rw [addL_len]; omega
                  have isA : IsL (addL R M M.length) (Mx.mixed x.C x.B t x.m) := by rw [hM]; exact addL_is r.isR r.isO
                  have hy0 : Mx.bm Mx.inv s (i + 1) = if 2 * x.L ≤ i then ⟨Mx.mixed x.C x.B t x.m, x.C, i + 1 - x.L, 1, Mx.conv x.C s i⟩ else ⟨Mx.mixed x.C x.B t x.m, x.B, x.L, x.m + 1, x.b⟩ := by rw [ht]; exact hstep.trans (if_neg h0)
                  refine ⟨_, rfl, _, _, rfl, rfl, .inl ⟨by omega, by omega⟩, _, rfl, _, _, rfl, rfl, _, rfl, ?_⟩
                  by_cases h2L : 2 * x.L ≤ i
                  · rw [decide_eq_true (show (2 : Int) * (x.L : Nat) ≤ (i : Nat) by omega)]
                    refine iteT ?_
                    rw [if_pos h2L] at hy0
                    refine ⟨_, rfl, _, rfl, _, rfl, _, _, rfl, rfl, _, rfl, _, _, rfl, rfl, by show 4 ≤ sizeLine; decide, fun tq htq => ?_⟩
                    refine ⟨tq, _, rfl, SqT.of upd_same, rfl, _, _, rfl, _, _, rfl, _, _, rfl, _, _, rfl, rfl, ?_⟩
                    have sq := Same.new (o := .tup [.ref ka, fv (Mx.conv x.C s i), .int ((i : Nat) + 1 - (x.L : Nat)), .int 0]) htq
                    rw [hy0]
                    refine ⟨na, ka, addL R M M.length, R, 0, some (fv (Mx.conv x.C s i)), v10, v11, some (fv t), some (.ref ka), some (.ref ma), v15, ?_, rfl, s7.trans sq, sq _ _ hn7, sq _ _ hk7, sq _ _ hf7, hnaH, hkaH, r.nf, n1, ?_, isA, r.isR, hlA, by show R.length + 1 ≤ _; omega⟩
                    · have eL : V.int ((i + 1 - x.L : Nat) : Int) = V.int (((i : Nat) : Int) + 1 - (x.L : Nat)) := by congr 1; omega
                      show _ = [some (V.ref va), some (V.int (p : Nat)), some (V.ref na), some (V.ref ka), some (V.int ((i + 1 - x.L : Nat) : Int)), some (V.int 0), some (fv (Mx.conv x.C s i)), some (V.ref fa), some (V.int (i : Nat)), some (fv (Mx.conv x.C s i)), v10, v11, some (fv t), some (V.ref ka), some (V.ref ma), v15]
                      rw [eL]; rfl
                    · exact fun q => by have := r2.hf; rw [q, hka] at this; cases this
                  · rw [decide_eq_false (show ¬ (2 : Int) * (x.L : Nat) ≤ (i : Nat) by omega)]
                    refine iteF ?_
                    rw [if_neg h2L] at hy0
                    rw [hy0]
                    exact ⟨na, oa, addL R M M.length, O, x.m, some (fv (Mx.conv x.C s i)), v10, v11, some (fv t), some (.ref ka), some (.ref ma), v15, rfl, rfl, s7, hn7, ho7, hf7, hnaH, r.no, r.nf, n1, r.fo, isA, r.isO, hlA, by show O.length + (x.m + 1) ≤ _; omega⟩
          · have h0 : Mx.conv x.C s i = 0 := by
              rw [hoff] at heq
              by_cases h : Mx.conv x.C s i = 0
              · exact h
              · rw [decide_eq_false h] at heq
                exact absurd rfl heq
            have hy : Mx.bm Mx.inv s (i + 1) = { x with m := x.m + 1 } := hstep.trans (if_pos h0)
            rw [hy]
            have l1 := r.lr
            have l2 := r.lo
            exact ⟨ra, oa, R, O, x.m, some (fv (Mx.conv x.C s i)), v10, v11, v12, v13, v14, v15, rfl, rfl, r.same, r.hr, r.ho, r.hf, r.nr, r.no, r.nf, r.fr, r.fo, r.isR, r.isO, by omega, by show _ + (_ + 1) ≤ _; omega⟩
        · rintro σ H3 ⟨ra, oa, R, O, m0, v9, v10, v11, v12, v13, v14, v15, rfl, hm, r⟩
          refine ⟨_, rfl, _, _, rfl, rfl, ?_⟩
          refine ⟨_, rfl, .inl ⟨rfl, _, SqL.of r.hf⟩, _, rfl, fa, bmLs s i, _, rfl, rfl, r.hf, szl _ (by rw [bmLs_len]; omega), ?_⟩
          refine ⟨ra, oa, R, O, some (.int (i : Nat)), v9, v10, v11, v12, v13, v14, v15, ?_, ?_⟩
          · rw [← hm]; rfl
          · rw [bmLs_succ, hLs]
            exact ⟨r.same.put r.nf, by rw [upd_ne (Ne.symm r.fr)]; exact r.hr, by rw [upd_ne (Ne.symm r.fo)]; exact r.ho, upd_same, r.nr, r.no, r.nf, r.fr, r.fo, r.isR, r.isO, r.lr, r.lo⟩
    · obtain ⟨ra, oa, R, O, v8, v9, v10, v11, v12, v13, v14, v15, rfl, r⟩ := pv
      exact ⟨_, rfl, k0 H1 fa r.same r.nf r.hf⟩
end
end Fa

namespace Fa
open PySem PySem.Spec L2
/-! ### Modulo.__init__: is_prime asked, then Field.__init__ by super() -/
def sp_Modulo_init (K : PySem.W.Frag) : Sp := fun vs H Q _ => ∃ (fa dx : Addr) (p : Nat), vs = [.ref fa, .int (p : Nat)] ∧ H fa = some (.ins (c_Modulo K) dx []) ∧ sixP p ∧
  ∀ H', H' fa = some (.ins (c_Modulo K) dx [("own_prime", .int (p : Nat))]) → (∀ a u, a ≠ fa → H a = some u → H' a = some u) → Q .non H'
abbrev nM : List Str := ["self", "prime", "__class__"]
abbrev fM (cda cc : Addr) : NdefX.NF := ⟨"__init__", "Modulo.__init__", defArgs s_Modulo_init, defBody s_Modulo_init, defScope s_Modulo_init, [("__class__", cc)], cda⟩
theorem nsM : NdefX.NScope nM ["self", "prime"] ["__class__"] (defScope s_Modulo_init) := NdefX.nscope_by (by decide +kernel)
theorem topM : ((PySem.Challenge.pw_firstanswers_k46_whole_one_letter_and_li).main.scope.names.lookup ("super" : Str)).isSome = false := by decide +kernel
theorem bootSuper : bootBuiltins "super" = some (.type "super") := by kernel_rfl
section
variable {w : World} {K : PySem.W.Frag} {mg : Str → Option Value} {base : Heap}
abbrev xM (w : World) (K : PySem.W.Frag) (mg : Str → Option Value) (base : Heap) (cda cc : Addr) (A : Around) (outer : List Env) (s : Shared) (H : Hp) (E : XK) : Cx :=
  NdefX.ncx CX0 PySem.Challenge.pw_firstanswers_k46_whole_one_letter_and_li w K mg base nM (fM cda cc) (a_Modulo_init K) A outer s H E
/-- its defaults: none -/
def MI0 (K : PySem.W.Frag) : Prop := ∃ (oc : Value) (od : Option Addr) (fd : FuncData) (osl : Array (Option Value)), K.lookup (a_Modulo_init K) = some ⟨oc, od, .func fd, osl⟩ ∧ fd.defaults = .none
theorem ok_Modulo_init (T : TX K mg) (M0 : MI0 K) : FnR PySem.Challenge.pw_firstanswers_k46_whole_one_letter_and_li w K mg base CX0 4 (a_Modulo_init K) (sp_Modulo_init K) := by
  intro A outer s H us vs Q E hr e0 r hsp
  obtain ⟨fa, dx, p, rfl, hfa, hp, k0⟩ := hsp
  obtain ⟨oc, dV, kV, doc, pm, ct, ccl, cl, od, an, cdd, cld, osl, ccs, csl, cda, cc, vf, file, tf, lk, hcd, hcda, hvs, hfile, hcc⟩ := T.F_Modulo_init
  obtain ⟨oc', od', fd', osl', lk', hd'⟩ := M0
  rw [lk] at lk'
  cases lk'
  obtain rfl : dV = Value.none := hd'
  obtain ⟨cdM, hcM, hal⟩ := T.i_Modulo
  have kin := e0.mod.kin
  have KX : K.In s.heap := kin.keeps fun b o e => (e0.bs b o e).1
  have lim : s.heap.NoLimit := e0.mod.nolimit.keeps fun b o e => (e0.bs b o e).1
  have hl : us.length = 2 := r.length.symm
  have hbcc := kin _ _ hcc
  have C : NdefX.CellsAt [("__class__", cc)] ["__class__"] [none] s.heap H := by
    have lk1 : ∀ (y : Str) (c : Addr), ([("__class__", cc)] : List (Str × Addr)).lookup y = some c → y = "__class__" ∧ c = cc := fun y c e => by
      have hm := PySem.mem_of_lookup e
      have e1 := List.mem_singleton.mp hm
      exact ⟨congrArg Prod.fst e1, congrArg Prod.snd e1⟩
    refine ⟨rfl, fun y c e => ?_, fun x y c h1 h2 => ?_, fun i y hy => ?_⟩
    · obtain ⟨_, rfl⟩ := lk1 y c e
      exact ⟨(e0.bs _ _ hbcc).2, _, _, (e0.bs _ _ hbcc).1, rfl⟩
    · rw [(lk1 x c h1).1, (lk1 y c h2).1]
    · cases i with
      | zero =>
        obtain rfl : "__class__" = y := Option.some.inj hy
        exact ⟨cc, rfl, fun v hv => by cases hv⟩
      | succ i => cases hy
  refine ks_codeAny_call_defAt (binds := (["self", "prime"] : List Str).zip us) hr.depth (KX _ _ lk) rfl lim (PySem.W.codeRec_of KX hcd) rfl (.of_eq (match us, hl with | [_, _], _ => rfl)) (fun x hx => nsM.nocell x hx) (fun y hy => nsM.par y.1 (List.of_mem_zip hy).1) (fun h₁ hns kp => ?_)
  have I : Inv (xM w K mg base cda cc A outer s H E) [] (NdefX.startF nM [.ref fa, .int (p : Nat)] [none]) H { s with heap := h₁, toks := s.toks + ((["self", "prime"] : List Str).zip us).length } := NdefX.inv_startN nsM hr.hd e0 rfl r C hns kp
  have hr' : Room 3 (xM w K mg base cda cc A outer s H E).A := hr.deeper _
  generalize ({ s with heap := h₁, toks := s.toks + ((["self", "prime"] : List Str).zip us).length } : Shared) = s0 at I ⊢
  refine ks_wpAt_execs_cons ?_
  refine PySem.wpAt_of_wpAny ?_
  have h1 : PS (xM w K mg base cda cc A outer s H E) ((defBody s_Modulo_init).headD (.Pass ⟨0, 0, 0, 0⟩)) _ := ps_if (pt_not (pt_val (pe_call (ok_is_prime T) hr' rfl T.g_is_prime T.F_is_prime.kp T.b_is_prime .nil pass0 (pa_cons (pv 1) pa_nil)))) (pss_one ps_never) pss_nil
  refine wpAny_mono (h1.run [] _ _ _ { nx := fun σ' H' => σ' = NdefX.startF nM [.ref fa, .int (p : Nat)] [none] ∧ Same H H', rt := fun _ _ => False } I ?_) (fun fl s1 hs => ?_) fun e s' z => z
  · exact ⟨_, rfl, p, rfl, hp, fun H' s' => ⟨_, rfl, rfl, s'⟩⟩
  cases fl with
  | next =>
    obtain ⟨σ', H1, I1, rfl, s1h⟩ := hs
    have KX1 : K.In s1.heap := I1.kIn
    obtain ⟨mb, hb1, hb2⟩ := I1.mod.blt
    have hfa1 := s1h _ _ hfa
    obtain ⟨mA, O, _, _, _, _⟩ := ins_get I1.hok hfa1
    obtain ⟨odx, IA, _⟩ := O.look
    obtain ⟨mL, hmL, hLk⟩ := I1.loc
    obtain ⟨uS, rS, lS⟩ := hLk 0 "self" (.ref fa) rfl rfl (Or.inl rfl)
    obtain rfl : uS = Value.ref fa := rS
    have lS2 : mL "self" = some (Value.ref fa) := by
      rcases lS with ⟨_, e⟩ | ⟨e, _⟩
      · exact e
      · rcases e with e | e <;> cases e
    obtain ⟨oD, hD1, hD2⟩ : ∃ oD, s1.heap.get? (c_Modulo K) = some oD ∧ oD.data = .cls cdM := by
      unfold PySem.W.clsIn at hcM
      split at hcM
      · rename_i c d cd' sl ho
        cases hcM
        exact ⟨_, KX1 _ _ ho, rfl⟩
      · cases hcM
    have hxC : fa ≠ c_Modulo K := PySem.W.ks_ne KX1 IA hcM
    obtain ⟨hh, g, d, tk, os⟩ := s1
    refine ks_wpAt_execs_cons (ks_wpAt_Expr_any (ks_wpAt_MethodCall ?_))
    refine ks_wpAt_super_base (env := (xM w K mg base cda cc A outer s H E).env) rfl rfl rfl rfl (KX1 _ _ lk) rfl rfl rfl (KX1 _ _ hcda) rfl hvs hfile topM ?_
    refine PySem.W.ks_loadName_global rfl rfl (Calls.loadGlobal_builtin (by rw [I1.ok.glob]; exact I1.mod.glob.keeps I1.bk) T.n_super (by rw [I1.ok.blt]; exact hb1.keeps I1.bk) ((hb2 "super" (by decide)).trans bootSuper) ⟨rfl, ?_⟩)
    refine wpAny_loadName_free rfl rfl rfl ⟨_, KX1 _ _ hcc, rfl⟩ ?_
    refine wpAny_loadName_local rfl rfl hmL lS2 ?_
    refine ks_wpAny_isType_cls hD1 hD2 ⟨rfl, ?_⟩
    refine ks_wpAny_call_super hD1 hD2 IA.at_ IA.cls (fun c e => ?_) (PySem.W.looks_mroIn KX1 T.su_Modulo) (fun h' e k => ?_)
    · have := IA.no
      unfold PySem.W.notCls at this
      rw [e] at this
      exact Bool.noConfusion this
    have I2 := ClX.pin_new (t' := tk) I1 k (Nat.le_refl _) e (fun v z => nomatch z)
    have KX2 : K.In h' := I2.kIn
    obtain ⟨oF, hoF, hoFc⟩ : ∃ of, h'.get? (a_Field_init K) = some of ∧ of.cls = .type "function" := by
      have ht : (K.lookup (a_Field_init K)).map (·.cls) = some (.type "function") := T.ty_Field_init
      cases z : K.lookup (a_Field_init K) with
      | none => rw [z] at ht; cases ht
      | some of => rw [z] at ht; exact ⟨of, KX2 _ _ z, Option.some.inj ht⟩
    refine ks_wpAny_getMethod_super (ClX.pin_at I2) (PySem.W.looks_opaque KX2 T.ns_any) (l₀ := cdM.mro) (fun A Q E s k q => wpAny_bind ((PySem.W.looks_clsIn KX2 hcM) A _ E s k (wpAny_pure q))) rfl KX2 hal hoF hoFc hxC (by decide) ?_
    have I3 := ClX.met_new (g := a_Field_init K) (C := fa) I2
    have hfn : PySem.W.fnIn K (a_Field_init K) = true := by
      obtain ⟨_, _, _, _, _, _, _, _, _, e9, lk9, _⟩ := T.F_Field_init.ex
      unfold PySem.W.fnIn
      rw [lk9]
    have hpa : PA (xM w K mg base cda cc A outer s H E) [.Name "prime" ⟨502, 25, 502, 30⟩] _ := pa_cons (pv 1) pa_nil
    refine ClX.callwith_cm I3 (ClX.base_none I2 (Nat.le_refl _)) hfn (thn (hpa.run _ _ _ _ H1 (fun vs H2 => sp_Field_init K (V.ref fa :: vs) H2 (fun v H' => v = V.non ∧ Q .non H') E0) I3 ?_) fun us' s3 ⟨vs, H2, I4, rv, q2⟩ => ⟨⟨ClX.pin_at I4, I4.kIn⟩, ?_⟩) rfl rfl
    · refine ⟨_, rfl, fa, dx, p, rfl, hfa1, rfl, ?_⟩
      exact k0 _ upd_same fun a u n h => by rw [upd_ne n]; exact s1h _ _ h
    · refine thn (ClX.run_cm (CX := CX0) (E := E0) ((ok_Field_init T).raw T.b_Field_init .nil) (hr'.mono (by decide)) pass0 I4 rv (by rw [List.append_nil]; exact q2)) fun u s4 hu => ?_
      obtain ⟨v, H3, I5, ru, rfl, q⟩ := hu
      exact PySem.wpAt_of_wpAny (wpAny_execs_nil ⟨.non, H3, I5.os, I5.bare, I5.base, I5.hok, rfl, q⟩)
  | brk => exact False.elim (let ⟨_, _, _, q⟩ := hs; q)
  | cont => exact False.elim (let ⟨_, _, _, q⟩ := hs; q)
  | ret u => exact False.elim (let ⟨_, _, _, _, _, q⟩ := hs; q)
end
end Fa

namespace Fa
open PySem PySem.Spec L2
/-! ### the law -/
def sp_law (K : PySem.W.Frag) : Sp := fun vs H Q _ => ∃ (sa : Addr) (xs : List Int), vs = [.ref sa] ∧ SqL K H sa (xs.map V.int) ∧ LamX.Tabs (lamT K) H ∧ ∀ H', Q (.bl true) H'
theorem tabs_but {T : List (Addr × Str)} {H H' : Hp} {pa : Addr} {x : List (Key × V)} (t : LamX.Tabs T H) (h : H pa = some (.dK x)) (b : But pa H H') : LamX.Tabs T H' := tabs_fr t fun a u e z => b a u (fun q => by
  rw [q, h] at e
  obtain rfl := Option.some.inj e
  rcases z with ⟨_, z⟩ | ⟨_, z⟩ <;> cases z) e
theorem PenAt.tabs {T : List (Addr × Str)} {H H' : Hp} {pa ca : Addr} {cs : List Int} {N : Nat} (p : PenAt H pa ca cs N) (t : LamX.Tabs T H) (b : But pa H H') : LamX.Tabs T H' :=
  let ⟨_, _, _, e⟩ := p.pd
  tabs_but t e b
theorem PenAt.ne {H : Hp} {pa ca : Addr} {cs : List Int} {N : Nat} (p : PenAt H pa ca cs N) {a : Addr} (h : H a = none) : a ≠ pa := fun q => by
  obtain ⟨_, _, _, e⟩ := p.pd
  rw [q, e] at h; cases h
theorem PenAt.neL {H : Hp} {pa ca : Addr} {cs : List Int} {N : Nat} (p : PenAt H pa ca cs N) {a : Addr} {l : List V} (h : H a = some (.lst l)) : a ≠ pa := fun q => by
  obtain ⟨_, _, _, e⟩ := p.pd
  rw [q, e] at h; cases h
theorem PenAt.put {H : Hp} {pa ca : Addr} {cs : List Int} {N : Nat} (p : PenAt H pa ca cs N) {a : Addr} {o : HO} (n : a ≠ pa) (m : a ≠ ca) : PenAt (upd H a o) pa ca cs N :=
  ⟨let ⟨b, l, h1, h2⟩ := p.pd; ⟨b, l, h1, by rw [upd_ne (Ne.symm n)]; exact h2⟩, by rw [upd_ne (Ne.symm m)]; exact p.cl, p.few⟩
theorem tabs_lst {T : List (Addr × Str)} {H : Hp} {a : Addr} {l : List V} {o : HO} (t : LamX.Tabs T H) (h : H a = some (.lst l)) : LamX.Tabs T (upd H a o) := tabs_fr t fun b u e z => by
  rw [upd_ne fun q => by
    rw [q, h] at e
    obtain rfl := Option.some.inj e
    rcases z with ⟨_, z⟩ | ⟨_, z⟩ <;> cases z]
  exact e
theorem AnsAt.same {K : PySem.W.Frag} {H H' : Hp} {aa ga : Addr} {D : GD} {p L : Nat} {ba bo : Addr} (x : AnsAt K H aa ga D p L ba bo) (s : Same H H') : AnsAt K H' aa ga D p L ba bo :=
  ⟨let ⟨dx, na, co, e⟩ := x.ob; ⟨dx, na, co, s _ _ e⟩, x.G.same s⟩
theorem fl_row {p : Nat} [NeZero p] (vs : List (_root_.Fin p)) : fl vs = rowV vs.length fun i => vs.getD i 0 := by
  refine List.ext_getElem? fun i => ?_
  by_cases h : i < vs.length
  · rw [fl_get h, rowV_get h]
    show _ = some (fv (vs.getD i 0))
    rw [List.getD_eq_getElem?_getD, List.getElem?_eq_getElem h]; rfl
  · rw [List.getElem?_eq_none (by rw [fl_len]; omega), List.getElem?_eq_none (by rw [rowV_len]; omega)]
theorem okV_bm {p : Nat} [NeZero p] (s : Nat → _root_.Fin p) (n : Nat) : ∀ v ∈ bmLs s n, okV v = true := fun v hv => by
  unfold bmLs at hv
  obtain ⟨i, _, rfl⟩ := List.mem_map.mp hv
  rfl
section
variable {w : World} {K : PySem.W.Frag} {mg : Str → Option Value} {base : Heap}

theorem ok_law (T : TX K mg) (M0 : MI0 K) (TB : LamX.TabB base mg (lc K) (lP K)) : FnOk PySem.Challenge.pw_firstanswers_k46_whole_one_letter_and_li w K mg base CX0 13 (a_law K) (d_ K (a_law K)) ["_law_script"] (sp_law K) := by
  refine T.F_law.ok sc_law (fun vs H Q E h => ?_) (fun cdv Ar outer s0 H vs Q E hr h => ?_)
  · (repeat (obtain ⟨_, h⟩ := h)); subst_vars; rfl
  · obtain ⟨sa, xs, rfl, hx, tb, k0⟩ := h
    have hu := hu_of hr
    refine ⟨_, (pss_cons (ps_set (i := 1) sc_law.nd rfl (Or.inr rfl) (pe_call (ok_law_pen T) (by exact hr.mono (by decide)) rfl T.g_law_pen T.F_law_pen.kp T.b_law_pen .nil pass0 (pa_cons (pv 0) pa_nil)))
      (pss_cons (ps_for PassesOwn.never rfl (pi_range1 rfl T.n_range (pa_cons pe_int pa_nil)) (pg_name (i := 2) sc_law.nd rfl (Or.inl rfl)) (pss_cons (ps_asg (pe_tup (pa_cons (pe_call (ok_law_prime T) (by exact hr.mono (by decide)) rfl T.g_law_prime T.F_law_prime.kp T.b_law_prime .nil pass0 (pa_cons (pv 1) pa_nil)) (pa_cons (pe_call (ok_law_draw T) (by exact hr.mono (by decide)) rfl T.g_law_draw T.F_law_draw.kp T.b_law_draw .nil pass0 (pa_cons (pv 1) (pa_cons pe_int pa_nil))) pa_nil))) (pg_tup (by rfl) (pgs_cons (pg_name (i := 3) sc_law.nd rfl (Or.inr rfl)) (pgs_cons (pg_name (i := 4) sc_law.nd rfl (Or.inl rfl)) pgs_nil))))
      (pss_cons (ps_asg (pe_tup (pa_cons (pe_call (ok_law_letters T) (by exact hr.mono (by decide)) rfl T.g_law_letters T.F_law_letters.kp T.b_law_letters .nil pass0 (pa_cons (pv 1) (pa_cons pe_int pa_nil))) (pa_cons (pe_call (ok_law_draw T) (by exact hr.mono (by decide)) rfl T.g_law_draw T.F_law_draw.kp T.b_law_draw .nil pass0 (pa_cons (pv 1) (pa_cons pe_int pa_nil))) (pa_cons (pe_lst pa_nil) pa_nil)))) (pg_tup (by rfl) (pgs_cons (pg_name (i := 5) sc_law.nd rfl (Or.inr rfl)) (pgs_cons (pg_name (i := 6) sc_law.nd rfl (Or.inl rfl)) (pgs_cons (pg_name (i := 7) sc_law.nd rfl (Or.inl rfl)) pgs_nil)))))
      (pss_cons (ps_setLc (i := 8) (own := [("_law_k", 13)]) (g := gName 13) (tt := tYes) rfl sc_law.nd rfl rfl (sw_true rfl rfl rfl (by decide +kernel)) (pi_range1 rfl T.n_range (pa_cons (pe_op op_add pe_int (pe_call (ok_law_draw T) (by exact hr.mono (by decide)) rfl T.g_law_draw T.F_law_draw.kp T.b_law_draw .nil pass0 (pa_cons (pv 1) (pa_cons pe_int pa_nil)))) pa_nil)) (blkOk_by (own := [("_law_k", 13)]) (N := N_law) (sc := defScope s_law) (by decide +kernel)) (fun _ _ _ _ _ => (pg_name (i := 13) sc_law.nd rfl (Or.inl rfl))) (fun _ _ _ _ _ => pts_nil) (by intro _ _ _ _ _; exact (pe_call (ok_law_number T) (by exact hr.mono (by decide)) rfl T.g_law_number T.F_law_number.kp T.b_law_number .nil pass0 (pa_cons (pv 1) (pa_cons (pv 3) pa_nil)))))
      (pss_cons (ps_for PassesOwn.never rfl (pi_range1 rfl T.n_range (pa_cons (pv 4) pa_nil)) (pg_name (i := 9) sc_law.nd rfl (Or.inl rfl)) (pss_cons (ps_set (i := 10) sc_law.nd rfl (Or.inl rfl) (pe_callB (cr_sum rfl) (by rfl) T.n_sum (by decide +kernel) (pa_cons (pe_lc (own := [("_law_one", 14), ("_law_two", 15)]) (g := gTup K 2 (gCons (gName 14) ( gCons (gName 15) (gNil)))) (tt := tYes) rfl sc_law.nd (pi_zip (by rfl) T.n_zip (pa_cons (pv 8) (pa_cons (pe_revL (pv 7)) pa_nil))) (blkOk_by (own := [("_law_one", 14), ("_law_two", 15)]) (N := N_law) (sc := defScope s_law) (by decide +kernel)) (fun _ _ _ _ _ => (pg_tup (by rfl) (pgs_cons (pg_name (i := 14) sc_law.nd rfl (Or.inl rfl)) (pgs_cons (pg_name (i := 15) sc_law.nd rfl (Or.inl rfl)) pgs_nil)))) (fun _ _ _ _ _ => pts_nil) (by intro _ _ _ _ _; exact (pe_op op_mul (pv 14) (pv 15)))) pa_nil)))
      (Evl.pss_cut (ps_set (i := 11) sc_law.nd rfl (Or.inl rfl) (pe_ifExp (pt_cmpR op_ge (pv 9) (pe_callB call_len_seq (by rfl) T.n_len (by decide +kernel) (pa_cons (pv 8) pa_nil)) (nomark _)) (pe_op op_mod (pe_callTy call_int1 (by rfl) T.n_int (by decide +kernel) (pa_cons (pv 10) pa_nil)) (pv 3)) (pe_call (ok_law_number T) (by exact hr.mono (by decide)) rfl T.g_law_number T.F_law_number.kp T.b_law_number .nil pass0 (pa_cons (pv 1) (pa_cons (pv 3) pa_nil)))))
      (Evl.pss_cut (ps_if (PW.pt (pw_or (pt_cmpR op_eq (pv 6) pe_int (nomark _)) (pw_or1 (PW.pt (pw_and (pt_cmpR op_eq (pv 6) pe_int (nomark _)) (pw_and1 (pt_cmpR op_eq (pe_call (ok_law_draw T) (by exact hr.mono (by decide)) rfl T.g_law_draw T.F_law_draw.kp T.b_law_draw .nil pass0 (pa_cons (pv 1) (pa_cons pe_int pa_nil))) pe_int (nomark _)))))))) (pss_one (ps_set (i := 11) sc_law.nd rfl (Or.inl rfl) (pe_call (ok_law_draw T) (by exact hr.mono (by decide)) rfl T.g_law_draw T.F_law_draw.kp T.b_law_draw .nil pass0 (pa_cons (pv 1) (pa_cons (pv 3) pa_nil))))) pss_nil)
      (pss_one (ps_expr (pe_bm PySem.F.plainAttrs_list PySem.F.slot_list_append PySem.F.type_list_append mt_append (pv 7) (pa_cons (pe_ifExp (PW.pt (pw_and (pt_cmpR op_eq (pv 6) pe_int (nomark _)) (pw_and1 (pt_cmpR op_lt (pv 9) (pe_op op_fdiv (pv 4) pe_int) (nomark _))))) pe_int (pv 11)) pa_nil))))))))
      (pss_cons (ps_set (i := 12) sc_law.nd rfl (Or.inl rfl) (ClX.pe_cmeth (pe_glob (v := .ref (c_Answers K)) rfl T.g_Answers rfl) T.cr_Answers T.cm_Answers_given ((ok_Answers_given T TB).raw T.b_Answers_given .nil) (by exact hr.mono (by decide)) pass0 (pa_cons (StX.pe_makeR T.mk_Modulo (ok_Modulo_init T M0) (by exact hr.mono (by decide)) rfl T.g_Modulo pass0 (pa_cons (pv 3) pa_nil)) (pa_cons (StX.pe_makeR T.mk_Order (ok_Order_init T) (by exact hr.mono (by decide)) rfl T.g_Order pass0 (pa_cons (pv 5) pa_nil)) (pa_cons (pv 7) pa_nil)))))
      (pss_cons (ps_if (pt_cmpR (op_neTT (by exact hr.units)) (pe_meth0 (pv 12) T.cl_Answers T.mt_Answers_profile (ok_Answers_profile T) (by exact hr.mono (by decide)) T.b_Answers_profile .nil pass0) (pe_callTy call_tuple_of (by rfl) T.n_tuple (by decide +kernel) (pa_cons (pe_call (ok_law_rule_lengths T) (by exact hr.mono (by decide)) rfl T.g_law_rule_lengths T.F_law_rule_lengths.kp T.b_law_rule_lengths .nil pass0 (pa_cons (pv 7) (pa_cons (pv 3) pa_nil))) pa_nil)) (nomark _)) (pss_one (ps_ret pe_bl)) pss_nil)
      (pss_cons (ps_if (pt_cmpR (op_neTT (by exact hr.units)) (pe_prop (pv 12) T.cl_Answers T.pr_Answers_basis (ok_Answers_basis T) (by exact hr.mono (by decide)) T.b_Answers_basis .nil pass0 (by rfl)) (pe_callTy call_tuple_of (by rfl) T.n_tuple (by decide +kernel) (pa_cons (pe_lc (own := [("_law_k", 13)]) (g := gName 13) (tt := tYes) rfl sc_law.nd (pi_range1 rfl T.n_range (pa_cons (pe_prop (pv 12) T.cl_Answers T.pr_Answers_size (ok_Answers_size T) (by exact hr.mono (by decide)) T.b_Answers_size .nil pass0 (by rfl)) pa_nil)) (blkOk_by (own := [("_law_k", 13)]) (N := N_law) (sc := defScope s_law) (by decide +kernel)) (fun _ _ _ _ _ => (pg_name (i := 13) sc_law.nd rfl (Or.inl rfl))) (fun _ _ _ _ _ => pts_nil) (by intro _ _ _ _ _; exact (pe_op op_repS (pv 5) (pv 13)))) pa_nil)) (nomark _)) (pss_one (ps_ret pe_bl)) pss_nil)
      (pss_one (ps_if (pt_cmpR (op_neTT (by exact hr.units)) (pe_prop (pv 12) T.cl_Answers T.pr_Answers_borders (ok_Answers_borders T) (by exact hr.mono (by decide)) T.b_Answers_borders .nil pass0 (by rfl)) (pe_tup (pa_cons (pe_op op_repS (pv 5) (pe_prop (pv 12) T.cl_Answers T.pr_Answers_size (ok_Answers_size T) (by exact hr.mono (by decide)) T.b_Answers_size .nil pass0 (by rfl))) pa_nil)) (nomark _)) (pss_one (ps_ret pe_bl)) pss_nil))))))))))
      (pss_one (ps_ret pe_bl)))), ?_⟩
    refine ⟨_, rfl, sa, xs, rfl, hx, fun H1 pa ca s1 hpa pen => ?_⟩
    have tb1 := tabs_same tb s1
    generalize xs.take 63 = cs at pen
    refine ⟨_, rfl, by omega, by omega, ?_⟩
    refine for_it (walk_range (lo := 0) (n := 6)) (fun i σ H => ∃ (v2 v3 v4 v5 v6 v7 v8 v9 v10 v11 v12 v13 v14 v15 : Option V), σ = [some (.ref sa), some (.ref pa), v2, v3, v4, v5, v6, v7, v8, v9, v10, v11, v12, v13, v14, v15] ∧ PenAt H pa ca cs (1000 * i) ∧ LamX.Tabs (lamT K) H) ⟨none, none, none, none, none, none, none, none, none, none, none, none, none, none, rfl, pen, tb1⟩ (fun _ _ _ _ _ => trivial) (fun i x σ H2 H3 hi pv y => ?_) (fun σ H2 pv => ?_)
    · obtain ⟨v2, v3, v4, v5, v6, v7, v8, v9, v10, v11, v12, v13, v14, v15, rfl, pen, tb2⟩ := pv
      obtain ⟨e3, rfl⟩ := y
      rw [e3]
      clear e3 H3
      dsimp only
      rw [Int.zero_add]
      -- a prime, how many
      refine ⟨_, rfl, pa, ca, cs, 1000 * i, rfl, pen, by omega, fun H3 p pen3 b3 hp => ?_⟩
      have h2 := hp.lo
      have h3 := hp.hi
      have nz : NeZero p := ⟨by omega⟩
      have tb3 := pen.tabs tb2 b3
      refine ⟨_, rfl, pa, ca, cs, 1000 * i + 1, 41, rfl, pen3, ⟨by decide, by decide⟩, by omega, fun H4 many pen4 b4 hmany => ?_⟩
      have tb4 := pen3.tabs tb3 b4
      refine ⟨by show 2 ≤ sizeLine; decide, fun tq htq => ?_⟩
      refine ⟨tq, _, rfl, SqT.of upd_same, rfl, _, _, rfl, _, _, rfl, rfl, ?_⟩
      have s5 : Same H4 (upd H4 tq (.tup [.int (p : Nat), .int (many : Nat)])) := Same.new htq
      have pen5 := pen4.same s5
      have tb5 := tabs_same tb4 s5
      generalize upd H4 tq (.tup [.int (p : Nat), .int (many : Nat)]) = H5 at pen5 tb5 ⊢
      clear s5 tb4 pen4 b4 tb3 pen3 b3 tb2 pen htq tq H3 H4
      -- a letter, a way, the values
      refine ⟨_, rfl, pa, ca, cs, 1000 * i + 1 + 1, rfl, pen5, by omega, fun H6 c hc pen6 b6 => ?_⟩
      have tb6 := pen5.tabs tb5 b6
      refine ⟨_, rfl, pa, ca, cs, 1000 * i + 1 + 1 + 27, 4, rfl, pen6, ⟨by decide, by decide⟩, by omega, fun H7 way pen7 b7 hway => ?_⟩
      have tb7 := pen6.tabs tb6 b7
      refine ⟨by show 0 ≤ sizeLine; exact Nat.zero_le _, fun va hva => ⟨by show 3 ≤ sizeLine; decide, fun tq htq => ?_⟩⟩
      refine ⟨tq, _, rfl, SqT.of upd_same, rfl, _, _, rfl, _, _, rfl, _, _, rfl, rfl, ?_⟩
      have s8 : Same H7 (upd (upd H7 va (.lst [])) tq (.tup [.str (A c 1), .int (way : Nat), .ref va])) := (Same.new hva).trans (Same.new htq)
      have hv8 : upd (upd H7 va (.lst [])) tq (.tup [.str (A c 1), .int (way : Nat), .ref va]) va = some (.lst (fl ([] : List (_root_.Fin p)))) := (Same.new htq) _ _ upd_same
      have pen8 := pen7.same s8
      have tb8 := tabs_same tb7 s8
      generalize upd (upd H7 va (.lst [])) tq (.tup [.str (A c 1), .int (way : Nat), .ref va]) = H8 at pen8 tb8 hv8 ⊢
      have nvac : va ≠ ca := fun q => by
        have h1 := pen7.cl
        rw [q] at hva
        rw [hva] at h1; cases h1
      clear s8 tb7 pen7 b7 tb6 pen6 b6 tb5 pen5 htq tq hva H5 H6 H7
      have nva := pen8.neL hv8
      -- the rule
      refine ⟨_, rfl, pa, ca, cs, 1000 * i + 1 + 1 + 27 + 1, 6, rfl, pen8, ⟨by decide, by decide⟩, by omega, fun H9 r pen9 b9 hr => ?_⟩
      have hv9 := b9 _ _ nva hv8
      have tb9 := pen8.tabs tb8 b9
      refine ⟨_, _, rfl, rfl, _, rfl, by omega, by omega, fun D hD => ?_⟩
      have nD : D ≠ pa := pen9.ne hD
      have nDv : va ≠ D := fun q => by rw [← q, hv9] at hD; cases hD
      refine lc_it (walk_range (lo := 0) (n := 1 + r)) (fun j Hx => ∃ rl : List (_root_.Fin p), rl.length = j ∧ Hx D = some (.lst (fl rl)) ∧ Hx va = some (.lst (fl ([] : List (_root_.Fin p)))) ∧ PenAt Hx pa ca cs (1000 * i + 31 + 2 * j) ∧ LamX.Tabs (lamT K) Hx)
        ⟨[], rfl, upd_same, by rw [upd_ne nDv]; exact hv9, pen9.same (Same.new hD), tabs_same tb9 (Same.new hD)⟩ (fun _ _ _ _ => trivial) (fun j x Hx Hy hj pv y => ?_) (fun Hx pv => ?_)
      · obtain ⟨rl, hl, hDx, hvx, penx, tbx⟩ := pv
        obtain ⟨ey, rfl⟩ := y
        rw [ey]
        refine ⟨rfl, ?_⟩
        dsimp only [tYes]
        rw [if_pos rfl]
        refine ⟨_, rfl, _, rfl, pa, ca, cs, 1000 * i + 31 + 2 * j, p, rfl, penx, hp, by omega, fun Hz u penz bz hu => ?_⟩
        have hDz := bz _ _ nD hDx
        have nDc : D ≠ ca := fun q => by
          have h1 := penz.cl
          have h2 := pen9.cl
          rw [q] at hD
          rw [hD] at h2; cases h2
        refine ⟨fl rl, hDz, szl _ (by rw [fl_len]; omega), rl ++ [⟨u, hu⟩], by rw [List.length_append, hl]; rfl, ?_, ?_, ?_, ?_⟩
        · rw [upd_same]
          unfold fl
          rw [List.map_append]; rfl
        · rw [upd_ne nDv]; exact bz _ _ nva hvx
        · exact (penz.put nD nDc).mono (by omega)
        · exact tabs_lst (penx.tabs tbx bz) hDz
      · obtain ⟨rl, hl, hDx, hvx, penx, tbx⟩ := pv
        have nDx := penx.neL hDx
        have hN0 : 1000 * i + 31 + 2 * (1 + r) ≤ 1000 * i + 50 := by omega
        generalize 1000 * i + 31 + 2 * (1 + r) = N0 at penx hN0
        clear b9 hv9 tb9 pen9 hD nD hr H9 tb8 pen8 hv8 H8
        -- the values
        refine ⟨_, rfl, _, rfl, by omega, by omega, ?_⟩
        refine for_it (walk_range (lo := 0) (n := many)) (fun j σ Hx => ∃ (vs : List (_root_.Fin p)) (w9 w10 w11 w12 w13 w14 w15 : Option V), σ = [some (.ref sa), some (.ref pa), some (.int (i : Nat)), some (.int (p : Nat)), some (.int (many : Nat)), some (.str (A c 1)), some (.int (way : Nat)), some (.ref va), some (.ref D), w9, w10, w11, w12, w13, w14, w15] ∧ vs.length = j ∧ Hx va = some (.lst (fl vs)) ∧ Hx D = some (.lst (fl rl)) ∧ PenAt Hx pa ca cs (N0 + 10 * j) ∧ LamX.Tabs (lamT K) Hx)
          ⟨[], _, _, _, _, _, _, _, rfl, rfl, hvx, hDx, penx, tbx⟩ (fun _ _ _ _ _ => trivial) (fun j x σ Hy Hz hj pv y => ?_) (fun σ Hy pv => ?_)
        · obtain ⟨vs, w9, w10, w11, w12, w13, w14, w15, rfl, hl2, hv, hd, peny, tby⟩ := pv
          obtain ⟨ey, rfl⟩ := y
          rw [ey]
          clear ey Hz
          dsimp only
          rw [Int.zero_add]
          refine ⟨_, rfl, _, rfl, va, _, rfl, SqL.of hv, fun q hq => ?_⟩
          have sq : Same Hy (upd Hy q (.lst (fl vs).reverse)) := Same.new hq
          refine ⟨D, q, fl rl, (fl vs).reverse, rfl, SqL.of (sq _ _ hd), SqL.of upd_same, fun W hW => ?_⟩
          have hq1 : upd Hy q (.lst (fl vs).reverse) q = some (.lst (fl vs).reverse) := upd_same
          have hd1 := sq _ _ hd
          generalize upd Hy q (.lst (fl vs).reverse) = H1y at sq hW hq1 hd1 ⊢
          refine lc_map (walk_zip (n := min (fl rl).length (fl vs).reverse.length) rfl) (fun k => V.int ((((rl.getD k 0).val : Nat) : Int) * (((vs.reverse.getD k 0).val : Nat) : Int))) hW (by rw [fl_len, List.length_reverse, fl_len]; omega) (fun Ha sa => ⟨SqL.of (sa _ _ hd1), SqL.of (sa _ _ hq1)⟩) (fun k x Ha Hb hk sa y Kt kt => ?_) (fun Ha sA hWa => ?_)
          · obtain ⟨Tp, a, b, rfl, hT, rfl, ha, hb⟩ := y
            rw [fl_len, List.length_reverse, fl_len] at hk
            have hk1 : k < rl.length := by omega
            have hk2 : k < vs.reverse.length := by rw [List.length_reverse]; omega
            have ha2 : a = fv (rl.getD k 0) := by
              replace ha : (fl rl)[k]? = some a := ha
              rw [fl_get hk1] at ha
              rw [List.getD_eq_getElem?_getD, List.getElem?_eq_getElem hk1]
              exact (Option.some.inj ha).symm
            have hb2 : b = fv (vs.reverse.getD k 0) := by
              replace hb : (fl vs).reverse[k]? = some b := hb
              rw [show (fl vs).reverse = fl vs.reverse from List.map_reverse.symm, fl_get hk2] at hb
              rw [List.getD_eq_getElem?_getD, List.getElem?_eq_getElem hk2]
              exact (Option.some.inj hb).symm
            subst ha2 hb2
            have l1 := (rl.getD k 0).isLt
            have l2 := (vs.reverse.getD k 0).isLt
            refine ⟨Tp, _, rfl, SqT.of upd_same, rfl, _, _, rfl, _, _, rfl, rfl, rfl, ?_⟩
            exact ⟨_, rfl, _, rfl, _, _, rfl, rfl, .inl ⟨by omega, by omega⟩, kt _ (Same.new hT)⟩
          · refine ⟨W, (List.range (min (fl rl).length (fl vs).reverse.length)).map fun k => (((rl.getD k 0).val : Nat) : Int) * (((vs.reverse.getD k 0).val : Nat) : Int), rfl, by rw [List.map_map]; exact SqL.of hWa, ?_⟩
            have hva := (sq.trans sA) _ _ hv
            have hda := (sq.trans sA) _ _ hd
            have pena := peny.same (sq.trans sA)
            have tba := tabs_same tby (sq.trans sA)
            generalize (List.map (fun k => (((rl.getD k 0).val : Nat) : Int) * (((vs.reverse.getD k 0).val : Nat) : Int)) (List.range (min (fl rl).length (fl vs).reverse.length))).sum = told
            clear hWa sA hW hq1 hd1 sq hq tby peny hd hv
            have nD2 := pena.neL hda
            -- the value by the rule, or drawn
            refine ⟨fun σ Hc => ∃ (v : _root_.Fin p) (w12 w13 w14 w15 : Option V), σ = [some (.ref sa), some (.ref pa), some (.int (i : Nat)), some (.int (p : Nat)), some (.int (many : Nat)), some (.str (A c 1)), some (.int (way : Nat)), some (.ref va), some (.ref D), some (.int (j : Nat)), some (.int told), some (fv v), w12, w13, w14, w15] ∧ Hc va = some (.lst (fl vs)) ∧ Hc D = some (.lst (fl rl)) ∧ PenAt Hc pa ca cs (N0 + 10 * j + 2) ∧ LamX.Tabs (lamT K) Hc, ?_, ?_⟩
            · refine ⟨_, rfl, _, rfl, D, _, rfl, .inl (SqL.of hda), _, _, rfl, rfl, _, rfl, ?_⟩
              refine ite2 (fun _ => ?_) (fun _ => ?_)
              · refine ⟨_, rfl, .inl ⟨_, rfl, _, rfl, _, _, rfl, rfl, (by show (0 : Int) < (p : Nat); omega), ?_⟩⟩
                have m0 := Int.emod_nonneg told (show ((p : Nat) : Int) ≠ 0 by omega)
                have m1 := Int.emod_lt_of_pos told (show (0 : Int) < ((p : Nat) : Int) by omega)
                obtain ⟨u, hu⟩ : ∃ u : Nat, told % ((p : Nat) : Int) = (u : Int) := ⟨(told % ((p : Nat) : Int)).toNat, by omega⟩
                refine ⟨⟨u, by omega⟩, w12, w13, w14, w15, ?_, hva, hda, pena.mono (by omega), tba⟩
                show [some (V.ref sa), some (V.ref pa), some (V.int (i : Nat)), some (V.int (p : Nat)), some (V.int (many : Nat)), some (V.str (A c 1)), some (V.int (way : Nat)), some (V.ref va), some (V.ref D), some (V.int (j : Nat)), some (V.int told), some (V.int (told % ((p : Nat) : Int))), w12, w13, w14, w15] = _
                rw [hu]
              · refine ⟨_, rfl, _, rfl, pa, ca, cs, N0 + 10 * j, p, rfl, pena, hp, by omega, fun Hc u penc bc hu => ?_⟩
                exact ⟨⟨u, hu⟩, w12, w13, w14, w15, rfl, bc _ _ nva hva, bc _ _ nD2 hda, penc, pena.tabs tba bc⟩
            rintro σ Hc ⟨v, w12, w13, w14, w15, rfl, hvc, hdc, penc, tbc⟩
            -- sometimes drawn anew
            refine ⟨fun σ Hc => ∃ (v : _root_.Fin p) (w12 w13 w14 w15 : Option V), σ = [some (.ref sa), some (.ref pa), some (.int (i : Nat)), some (.int (p : Nat)), some (.int (many : Nat)), some (.str (A c 1)), some (.int (way : Nat)), some (.ref va), some (.ref D), some (.int (j : Nat)), some (.int told), some (fv v), w12, w13, w14, w15] ∧ Hc va = some (.lst (fl vs)) ∧ Hc D = some (.lst (fl rl)) ∧ PenAt Hc pa ca cs (N0 + 10 * j + 4) ∧ LamX.Tabs (lamT K) Hc, ?_, ?_⟩
            · refine ⟨_, rfl, rfl, _, rfl, ?_⟩
              refine ite2 (fun _ => ?_) (fun _ => ?_)
              · refine iteT ⟨_, rfl, _, rfl, pa, ca, cs, N0 + 10 * j + 2, p, rfl, penc, ⟨by omega, by omega⟩, by omega, fun He u pe be hu => ?_⟩
                exact ⟨⟨u, hu⟩, w12, w13, w14, w15, rfl, be _ _ (penc.neL hvc) hvc, be _ _ (penc.neL hdc) hdc, pe.mono (by omega), penc.tabs tbc be⟩
              · refine ⟨_, rfl, rfl, _, rfl, ?_⟩
                refine ite2 (fun _ => ?_) (fun _ => ?_)
                · refine ⟨_, rfl, pa, ca, cs, N0 + 10 * j + 2, 9, rfl, penc, ⟨by decide, by decide⟩, by omega, fun Hd u pend bd hu => ?_⟩
                  have hvd := bd _ _ (penc.neL hvc) hvc
                  have hdd := bd _ _ (penc.neL hdc) hdc
                  have tbd := penc.tabs tbc bd
                  refine ⟨rfl, _, rfl, ?_⟩
                  refine ite2 (fun _ => ?_) (fun _ => ?_)
                  · refine ⟨_, rfl, _, rfl, pa, ca, cs, N0 + 10 * j + 2 + 1, p, rfl, pend, ⟨by omega, by omega⟩, by omega, fun He u pe be hu => ?_⟩
                    exact ⟨⟨u, hu⟩, w12, w13, w14, w15, rfl, be _ _ (pend.neL hvd) hvd, be _ _ (pend.neL hdd) hdd, pe.mono (by omega), pend.tabs tbd be⟩
                  · exact ⟨v, w12, w13, w14, w15, rfl, hvd, hdd, pend.mono (by omega), tbd⟩
                · exact iteF ⟨v, w12, w13, w14, w15, rfl, hvc, hdc, penc.mono (by omega), tbc⟩
            rintro σ Hd ⟨v, w12, w13, w14, w15, rfl, hvd, hdd, pend, tbd⟩
            have nvd := pend.neL hvd
            have fin : ∀ u : _root_.Fin p, ∃ (vs' : List (_root_.Fin p)) (w9 w10 w11 w12' w13' w14' w15' : Option V), ([some (.ref sa), some (.ref pa), some (.int (i : Nat)), some (.int (p : Nat)), some (.int (many : Nat)), some (.str (A c 1)), some (.int (way : Nat)), some (.ref va), some (.ref D), some (.int (j : Nat)), some (.int told), some (fv v), w12, w13, w14, w15] : L2.St) = [some (.ref sa), some (.ref pa), some (.int (i : Nat)), some (.int (p : Nat)), some (.int (many : Nat)), some (.str (A c 1)), some (.int (way : Nat)), some (.ref va), some (.ref D), w9, w10, w11, w12', w13', w14', w15'] ∧
                vs'.length = j + 1 ∧ upd Hd va (.lst (fl vs ++ [fv u])) va = some (.lst (fl vs')) ∧ upd Hd va (.lst (fl vs ++ [fv u])) D = some (.lst (fl rl)) ∧ PenAt (upd Hd va (.lst (fl vs ++ [fv u]))) pa ca cs (N0 + 10 * (j + 1)) ∧ LamX.Tabs (lamT K) (upd Hd va (.lst (fl vs ++ [fv u]))) := fun u => by
              refine ⟨vs ++ [u], _, _, _, _, _, _, _, rfl, by rw [List.length_append, hl2]; rfl, ?_, ?_, (pend.put nvd nvac).mono (by omega), tabs_lst tbd hvd⟩
              · rw [upd_same]
                unfold fl
                rw [List.map_append]; rfl
              · rw [upd_ne (Ne.symm nDv)]; exact hdd
            refine ⟨_, rfl, .inl ⟨rfl, _, SqL.of hvd⟩, ?_⟩
            refine ⟨_, rfl, rfl, _, rfl, ?_⟩
            refine ite2 (fun _ => ?_) (fun _ => ?_)
            · refine ⟨_, rfl, _, rfl, _, _, rfl, rfl, ⟨by omega, by omega⟩, _, _, rfl, rfl, _, rfl, ?_⟩
              refine ite2 (fun _ => ?_) (fun _ => ?_)
              · refine ⟨va, _, _, rfl, rfl, hvd, szl _ (by rw [fl_len]; omega), ?_⟩
                have := fin 0
                rw [fv_zero] at this
                exact this
              · exact ⟨_, rfl, va, _, _, rfl, rfl, hvd, szl _ (by rw [fl_len]; omega), fin v⟩
            · refine iteF ⟨_, rfl, va, _, _, rfl, rfl, hvd, szl _ (by rw [fl_len]; omega), fin v⟩
        · obtain ⟨vs, w9, w10, w11, w12, w13, w14, w15, rfl, hl2, hv, hd, peny, tby⟩ := pv
          rw [fl_row, hl2] at hv
          obtain ⟨s, hs⟩ : ∃ s : Nat → _root_.Fin p, s = fun i => vs.getD i 0 := ⟨_, rfl⟩
          rw [← hs] at hv
          clear hd penx tbx hDx hvx nDx hs
          -- the answers
          refine ⟨rfl, _, rfl, fun fa fdx hfa hfdx hne => ?_⟩
          have s1y : Same Hy (upd (upd Hy fdx (.own fa)) fa (.ins (c_Modulo K) fdx [])) := (Same.new hfdx).put hfa
          refine ⟨fa, fdx, p, rfl, upd_same, hp, fun Ha e1 k1 => ⟨rfl, ?_⟩⟩
          have sA : Same Hy Ha := fun a u e => k1 a u (fun q => by rw [q, hfa] at e; cases e) (s1y _ _ e)
          clear k1 s1y
          refine ⟨_, rfl, fun oa odx hoa hodx hne2 => ?_⟩
          have s2a : Same Ha (upd (upd Ha odx (.own oa)) oa (.ins (c_Order K) odx [])) := (Same.new hodx).put hoa
          have eo : upd (upd Ha odx (.own oa)) oa (.ins (c_Order K) odx []) oa = some (.ins (c_Order K) odx []) := upd_same
          refine ⟨rfl, fun d hd0 => ?_⟩
          refine ⟨oa, odx, d, c, rfl, (Same.new hd0) _ _ eo, upd_same, hc, fun Hb ca2 O kb hca2 => ⟨rfl, ?_⟩⟩
          have s3a := s2a.trans (Same.new hd0 (o := .dK []))
          have sB : Same Ha Hb := fun a u e => kb a u (fun q => by rw [q, hoa] at e; cases e) (s3a _ _ e)
          have hca3 : Ha ca2 = none := s3a.free hca2
          clear kb hca2 s3a hd0 eo s2a
          have F : FieldAt K Hb fa p := ⟨⟨fdx, sB _ _ e1⟩, hp⟩
          have sY := sA.trans sB
          have hLn : bmL s many ≤ many := (bmRule hp s many).le
          refine ⟨_, rfl, .ref (c_Answers K), fa, oa, ca2, va, p, c, nz, s, many, rfl, F, O, sY _ _ hv, by omega, tabs_same tby sY, fun Hc aa ga D2 ba bo AA hgs hb ho tbc keep => ?_⟩
          have kY : ∀ a u, (∀ ps, u ≠ HO.tbl ps) → Hy a = some u → Hc a = some u := fun a u nt e => keep a u (fun q => by rw [q, hfa] at e; cases e) (fun q => by rw [q, sA.free hoa] at e; cases e) (fun q => by rw [q, sA.free hca3] at e; cases e) nt (sY _ _ e)
          have penc : PenAt Hc pa ca cs (N0 + 10 * many) := ⟨let ⟨b, l, h1, h2⟩ := peny.pd; ⟨b, l, h1, kY _ _ (fun ps z => by cases z) h2⟩, kY _ _ (fun ps z => by cases z) peny.cl, peny.few⟩
          have hvc := kY _ _ (fun ps z => by cases z) hv
          clear keep kY sY sB sA F O hca3 hoa hodx hne2 hfa hfdx hne e1 tby peny hv
          obtain ⟨dx, na, co, ea⟩ := AA.ob
          -- the sizes
          refine ⟨_, rfl, aa, dx, _, rfl, ea, rfl, aa, ga, D2, p, bmL s many, ba, bo, rfl, AA, fun q hq => ?_⟩
          have sq : Same Hc (upd Hc q (.tup D2.gsL)) := Same.new hq
          have eq : upd Hc q (.tup D2.gsL) q = some (.tup D2.gsL) := upd_same
          generalize upd Hc q (.tup D2.gsL) = H1c at sq eq ⊢
          refine ⟨_, rfl, _, rfl, va, p, nz, s, many, rfl, SqL.of (sq _ _ hvc), by omega, hp, fun H2c q2 sr hq2 e2 => ?_⟩
          refine ⟨q2, _, rfl, .inl ⟨SqL.of e2, fun t ht => ?_⟩⟩
          have st : Same H2c (upd H2c t (.tup (bmLs s many))) := Same.new ht
          rw [hgs] at eq
          refine ⟨q, t, bmLs s many, bmLs s many, rfl, rfl, SqT.of ((sr.trans st) _ _ eq), SqT.of upd_same, okV_bm s many, okV_bm s many, _, rfl, ?_⟩
          rw [decide_eq_true (rfl : bmLs s many = bmLs s many)]
          refine iteF ?_
          have s3 := sq.trans (sr.trans st)
          generalize upd H2c t (.tup (bmLs s many)) = H3c at s3 ⊢
          have AA3 := AA.same s3
          have hb3 := s3.tup hb
          have ho3 := s3.tup ho
          have pen3 := penc.same s3
          have tb3 := tabs_same tbc s3
          clear s3 st eq ht e2 hq2 sr sq hq hvc penc tbc hb ho AA ea
          obtain ⟨dx, na, co, ea⟩ := AA3.ob
          -- the basis
          refine ⟨_, rfl, aa, dx, _, rfl, ea, aa, ga, D2, p, bmL s many, ba, bo, rfl, AA3, ?_⟩
          refine ⟨_, rfl, aa, dx, _, rfl, ea, aa, ga, D2, p, bmL s many, ba, bo, rfl, AA3, _, rfl, by omega, by omega, fun W hW => ?_⟩
          refine lc_map (walk_range (lo := 0) (n := bmL s many)) (fun k => V.str (A c k)) hW (by omega) (fun _ _ => trivial) (fun k x Hm Hn hk sm y Kt kt => ?_) (fun Hm sm hWm => ?_)
          · obtain ⟨ey, rfl⟩ := y
            rw [ey]
            have kt2 := kt _ (Same.refl _)
            refine ⟨rfl, _, rfl, _, rfl, c, k, rfl, ?_, by omega, kt2⟩
            show V.int (0 + (k : Nat)) = _
            rw [Int.zero_add]
          have hWm2 : Hm W = some (.lst (wordsV c (bmL s many))) := hWm
          refine ⟨W, _, rfl, .inl ⟨SqL.of hWm2, fun t ht => ?_⟩⟩
          have st : Same Hm (upd Hm t (.tup (wordsV c (bmL s many)))) := Same.new ht
          have hok : ∀ v ∈ wordsV c (bmL s many), okV v = true := fun v hv => by
            obtain ⟨k, _, rfl⟩ := List.mem_map.mp hv
            exact strOk_A c k hc.2
          refine ⟨ba, t, wordsV c (bmL s many), wordsV c (bmL s many), rfl, rfl, (sm.trans st).tup hb3, SqT.of upd_same, hok, hok, _, rfl, ?_⟩
          rw [decide_eq_true (rfl : wordsV c (bmL s many) = wordsV c (bmL s many))]
          refine iteF ?_
          have s4 := sm.trans st
          generalize upd Hm t (.tup (wordsV c (bmL s many))) = H4c at s4 ⊢
          have AA4 := AA3.same s4
          have ho4 := s4.tup ho3
          have pen4 := pen3.same s4
          have tb4 := tabs_same tb3 s4
          clear s4 st ht hWm2 hWm sm hW ea AA3 hb3 ho3 pen3 tb3
          obtain ⟨dx, na, co, ea⟩ := AA4.ob
          -- the borders
          refine ⟨_, rfl, aa, dx, _, rfl, ea, aa, ga, D2, p, bmL s many, ba, bo, rfl, AA4, ?_⟩
          refine ⟨_, rfl, _, rfl, aa, dx, _, rfl, ea, aa, ga, D2, p, bmL s many, ba, bo, rfl, AA4, c, bmL s many, rfl, rfl, by omega, by show 1 ≤ sizeLine; decide, fun t ht => ?_⟩
          have st : Same H4c (upd H4c t (.tup [.str (A c (bmL s many))])) := Same.new ht
          have hok1 : ∀ v ∈ [V.str (A c (bmL s many))], okV v = true := fun v hv => by
            rw [List.mem_singleton.mp hv]
            exact strOk_A c _ hc.2
          refine ⟨bo, t, [.str (A c (bmL s many))], [.str (A c (bmL s many))], rfl, rfl, st.tup ho4, SqT.of upd_same, hok1, hok1, _, rfl, ?_⟩
          rw [decide_eq_true (rfl : [V.str (A c (bmL s many))] = [V.str (A c (bmL s many))])]
          refine iteF ?_
          exact ⟨_, _, _, _, _, _, _, _, _, _, _, _, _, _, rfl, (pen4.same st).mono (by omega), tabs_same tb4 st⟩
    · obtain ⟨v2, v3, v4, v5, v6, v7, v8, v9, v10, v11, v12, v13, v14, v15, rfl, pen, tb⟩ := pv
      exact k0 H2
end
end Fa

namespace Fa
open PySem PySem.Spec L2
/-! ### the law's promise behind the top -/
theorem law_at (w : World) (mg : Str → Option Value) (fa : Addr) (h : Heap) (Y : hookF.says w h) (G : h.Ns mainGlobals mg) (hmg : mg ("law" : Str) = some (.ref fa)) :
    ∃ K : PySem.W.Frag, K.In h ∧ LamX.LawAtS PySem.Challenge.rw_firstanswers_k46_whole_one_letter_and_li w K CX0 13 63 "_law_script" mg fa h := by
  obtain ⟨K, KX, c⟩ := Y
  have T := tx_of KX G c
  obtain ⟨t1, t2, t3⟩ := tab_of c
  have e : fa = a_law K := by
    have q := hmg.symm.trans T.g_law
    cases q; rfl
  subst e
  refine ⟨K, KX, d_ K (a_law K), [(lc K, lP K)], sp_law K, fun p hp => ?_, fun p hp => ?_, fun p hp => ?_, fun s u => ?_, fun H a ns _ _ hH hS => ?_, fun base _ _ TB => ok_law T (mi0_of c) (TB _ List.mem_cons_self)⟩
  · rw [List.mem_singleton.mp hp]; exact c.tb
  · rw [List.mem_singleton.mp hp]; exact t2
  · rw [List.mem_singleton.mp hp]; exact PySem.W.codeHd_of_K KX t1
  · obtain ⟨oc, od, kV, doc, pm, an, cdv, ct, osl, e, _⟩ := T.F_law.ex
    rw [e]
    exact .of_eq rfl
  · refine ⟨a, ns, rfl, hS, fun p hp => ?_, fun _ => rfl⟩
    obtain rfl : p = (lP K, qLam) := List.mem_singleton.mp hp
    refine ⟨#[], hH (lc K, lP K) List.mem_cons_self, True.intro, fun pos cv hc => ?_⟩
    have z : codeAmong pos [] = some cv := hc
    simp [codeAmong] at z
end Fa
open PySem PySem.W PySem.Calls PyProof.Rows
theorem PySem.Challenge.cw_firstanswers_k46_whole_one_letter_and_li_holds : PySem.Challenge.rw_firstanswers_k46_whole_one_letter_and_li.Holds := by
  w_on; o_law
  refine HandSHeadRun.head_any (r := OpenLaw.row PySem.Challenge.rw_firstanswers_k46_whole_one_letter_and_li) (q := Fa.qv) (H := Fa.hookF) (ob := Fa.obF) (M := 20000) (loose := Fa.nms) (d := HandSHeadRun.topDef (OpenLaw.row PySem.Challenge.rw_firstanswers_k46_whole_one_letter_and_li).prog 68) (kwd := []) Fa.obF_eq
    (by kernel_rfl) (fun s => by kernel_rfl) Fa.run (by kernel_rfl) (by kernel_rfl) (by kernel_rfl) (by rfl) (by first | assumption | decide +kernel) (by decide +kernel) ⟨rfl, rfl, rfl, rfl, rfl, by decide +kernel⟩ ?hw ?hc
  case hw => w_witness2
  case hc =>
    refine LamX.walk_ofTsE (l := PySem.Challenge.rw_firstanswers_k46_whole_one_letter_and_li) (n := 63) (k := 13) (x := "_law_script") (CX := fun _ => L2.CX0) rfl (by decide) (by kernel_rfl) ⟨rfl, by decide, by decide⟩ ?F (fun _ _ _ _ _ z => z)
    intro w mg fa h Y G hmg0
    have hmg : mg ("law" : PySem.Str) = some (.ref fa) := by
      have e : (HandSHeadRun.topDef (OpenLaw.row PySem.Challenge.rw_firstanswers_k46_whole_one_letter_and_li).prog 68).name = ("law" : PySem.Str) := by kernel_rfl
      rw [← e]
      exact hmg0
    exact Fa.law_at w mg fa h Y G hmg

