import PyProof.Rows.All
import Wide.All
import OpenK.AllK
import Wide.FinOn
import KE.KStateDown
import HandS.ForMost
import HandS.Defaults
import PySem.Challenge.RW_wordvault_k38_whole_counted_signs
import HandS.ExcField
import HandS.HeadHook4
import HandS.Head2
import KE.KSuper
import HandS.ForExc
import HandS.IsInst
import HandS.Walk
import HandS.Zip
import HandS.Style
import HandS.SortRule
import HandS.SortInts
import HandS.OwnEq
import HandS.HeadHook2
import KE.GoesMore
import KE.GoesEnum
import KE.GoesZip
import HandS.Codes
import HandS.TupAny
import HandS.ExcInit
import HandS.ExcSuper
import HandS.Nested
import HandS.ClsMeth
import KE.KExcSuper
import PyProof.InstNe
import OpenK.KOwn
import HandS.TryMany
import HandS.Lambda
import HandS.Conv
import HandS.HeadWalk
set_option Elab.async false
set_option linter.all false
set_option maxRecDepth 100000
set_option maxHeartbeats 2000000
/-! The text by places: printed by places.py. -/
namespace K38
open PySem PySem.Spec PyProof.Rows L2
def top (i : Nat) : Stmt := PySem.Challenge.pw_wordvault_k38_whole_counted_signs.main.body.getD i (.Pass ⟨0, 0, 0, 0⟩)
abbrev s_is_count : Stmt := top 14
abbrev n_is_count : List Str := ["value"]
theorem sc_is_count : FnScope n_is_count ["value"] (defScope s_is_count) := ⟨rfl, rfl, rfl, by decide +kernel, rfl, by decide +kernel, by decide +kernel⟩
abbrev s_two_power : Stmt := top 15
abbrev n_two_power : List Str := ["many", "found", "base"]
theorem sc_two_power : FnScope n_two_power ["many"] (defScope s_two_power) := ⟨rfl, rfl, rfl, by decide +kernel, rfl, by decide +kernel, by decide +kernel⟩
abbrev s_check_signs : Stmt := top 16
abbrev n_check_signs : List Str := ["many"]
theorem sc_check_signs : FnScope n_check_signs ["many"] (defScope s_check_signs) := ⟨rfl, rfl, rfl, by decide +kernel, rfl, by decide +kernel, by decide +kernel⟩
abbrev s_check_counts : Stmt := top 17
abbrev n_check_counts : List Str := ["counts", "index", "count"]
theorem sc_check_counts : FnScope n_check_counts ["counts"] (defScope s_check_counts) := ⟨rfl, rfl, rfl, by decide +kernel, rfl, by decide +kernel, by decide +kernel⟩
abbrev s_bits_of : Stmt := top 18
abbrev n_bits_of : List Str := ["number", "size", "found", "turn"]
theorem sc_bits_of : FnScope n_bits_of ["number", "size"] (defScope s_bits_of) := ⟨rfl, rfl, rfl, by decide +kernel, rfl, by decide +kernel, by decide +kernel⟩
abbrev s_canonical : Stmt := top 19
abbrev n_canonical : List Str := ["lengths", "found", "number", "size", "length", "sign"]
theorem sc_canonical : FnScope n_canonical ["lengths"] (defScope s_canonical) := ⟨rfl, rfl, rfl, by decide +kernel, rfl, by decide +kernel, by decide +kernel⟩
abbrev s_is_bits : Stmt := top 20
abbrev n_is_bits : List Str := ["value", "size", "bit"]
theorem sc_is_bits : FnScope n_is_bits ["value", "size"] (defScope s_is_bits) := ⟨rfl, rfl, rfl, by decide +kernel, rfl, by decide +kernel, by decide +kernel⟩
abbrev s_checked_words : Stmt := top 21
abbrev n_checked_words : List Str := ["lengths", "words", "index", "length", "order", "word", "after"]
theorem sc_checked_words : FnScope n_checked_words ["lengths", "words"] (defScope s_checked_words) := ⟨rfl, rfl, rfl, by decide +kernel, rfl, by decide +kernel, by decide +kernel⟩
abbrev s_check_beginnings : Stmt := top 22
abbrev n_check_beginnings : List Str := ["words", "index", "word", "other"]
theorem sc_check_beginnings : FnScope n_check_beginnings ["words"] (defScope s_check_beginnings) := ⟨rfl, rfl, rfl, by decide +kernel, rfl, by decide +kernel, by decide +kernel⟩
abbrev s_Code_init : Stmt := inClass (top 23) 0
abbrev n_Code_init : List Str := ["self", "lengths", "words", "index", "length", "longest"]
theorem sc_Code_init : FnScope n_Code_init ["self", "lengths", "words"] (defScope s_Code_init) := ⟨rfl, rfl, rfl, by decide +kernel, rfl, by decide +kernel, by decide +kernel⟩
abbrev s_Code_eq : Stmt := inClass (top 23) 1
abbrev n_Code_eq : List Str := ["self", "other"]
theorem sc_Code_eq : FnScope n_Code_eq ["self", "other"] (defScope s_Code_eq) := ⟨rfl, rfl, rfl, by decide +kernel, rfl, by decide +kernel, by decide +kernel⟩
abbrev s_code_of : Stmt := top 24
abbrev n_code_of : List Str := ["words", "word"]
theorem sc_code_of : FnScope n_code_of ["words"] (defScope s_code_of) := ⟨rfl, rfl, rfl, by decide +kernel, rfl, by decide +kernel, by decide +kernel⟩
abbrev s_check_pair : Stmt := top 25
abbrev n_check_pair : List Str := ["code", "counts"]
theorem sc_check_pair : FnScope n_check_pair ["code", "counts"] (defScope s_check_pair) := ⟨rfl, rfl, rfl, by decide +kernel, rfl, by decide +kernel, by decide +kernel⟩
abbrev s_cost_by : Stmt := top 26
abbrev n_cost_by : List Str := ["code", "counts", "count", "length"]
theorem sc_cost_by : FnScope n_cost_by ["code", "counts"] (defScope s_cost_by) := ⟨rfl, rfl, rfl, by decide +kernel, rfl, by decide +kernel, by decide +kernel⟩
abbrev s_joined_pairs : Stmt := top 27
abbrev n_joined_pairs : List Str := ["counts", "signs", "sign", "count", "made", "at", "first", "turn", "nodes", "weight", "part"]
theorem sc_joined_pairs : FnScope n_joined_pairs ["counts"] (defScope s_joined_pairs) := ⟨rfl, rfl, rfl, by decide +kernel, rfl, by decide +kernel, by decide +kernel⟩
abbrev s_least_of : Stmt := top 28
abbrev n_least_of : List Str := ["counts", "one", "other", "weight"]
theorem sc_least_of : FnScope n_least_of ["counts"] (defScope s_least_of) := ⟨rfl, rfl, rfl, by decide +kernel, rfl, by decide +kernel, by decide +kernel⟩
abbrev s_lengths_for : Stmt := top 29
abbrev n_lengths_for : List Str := ["counts", "many", "heights", "steps", "at", "below", "sign"]
theorem sc_lengths_for : FnScope n_lengths_for ["counts"] (defScope s_lengths_for) := ⟨rfl, rfl, rfl, by decide +kernel, rfl, by decide +kernel, by decide +kernel⟩
abbrev s_is_least_for : Stmt := top 30
abbrev n_is_least_for : List Str := ["code", "counts"]
theorem sc_is_least_for : FnScope n_is_least_for ["code", "counts"] (defScope s_is_least_for) := ⟨rfl, rfl, rfl, by decide +kernel, rfl, by decide +kernel, by decide +kernel⟩
abbrev s_as_frozen : Stmt := top 31
abbrev n_as_frozen : List Str := ["value", "one"]
theorem sc_as_frozen : FnScope n_as_frozen ["value"] (defScope s_as_frozen) := ⟨rfl, rfl, rfl, by decide +kernel, rfl, by decide +kernel, by decide +kernel⟩
abbrev s_check_rank : Stmt := top 33
abbrev n_check_rank : List Str := ["code", "rank"]
theorem sc_check_rank : FnScope n_check_rank ["code", "rank"] (defScope s_check_rank) := ⟨rfl, rfl, rfl, by decide +kernel, rfl, by decide +kernel, by decide +kernel⟩
abbrev s_is_sign_of : Stmt := top 34
abbrev n_is_sign_of : List Str := ["code", "value"]
theorem sc_is_sign_of : FnScope n_is_sign_of ["code", "value"] (defScope s_is_sign_of) := ⟨rfl, rfl, rfl, by decide +kernel, rfl, by decide +kernel, by decide +kernel⟩
abbrev s_parted_code : Stmt := top 35
abbrev n_parted_code : List Str := ["code", "sign", "rank", "words", "word"]
theorem sc_parted_code : FnScope n_parted_code ["code", "sign", "rank"] (defScope s_parted_code) := ⟨rfl, rfl, rfl, by decide +kernel, rfl, by decide +kernel, by decide +kernel⟩
abbrev s_Kept_init : Stmt := inClass (top 36) 0
abbrev n_Kept_init : List Str := ["self", "code", "counts", "rank", "count", "sign"]
theorem sc_Kept_init : FnScope n_Kept_init ["self", "code", "counts", "rank", "count", "sign"] (defScope s_Kept_init) := ⟨rfl, rfl, rfl, by decide +kernel, rfl, by decide +kernel, by decide +kernel⟩
abbrev s_Recoded_init : Stmt := inClass (top 37) 0
abbrev n_Recoded_init : List Str := ["self", "code", "counts", "rank", "count", "other"]
theorem sc_Recoded_init : FnScope n_Recoded_init ["self", "code", "counts", "rank", "count", "other"] (defScope s_Recoded_init) := ⟨rfl, rfl, rfl, by decide +kernel, rfl, by decide +kernel, by decide +kernel⟩
abbrev s_put_prices : Stmt := top 38
abbrev n_put_prices : List Str := ["code", "counts", "count", "own", "length"]
theorem sc_put_prices : FnScope n_put_prices ["code", "counts", "count"] (defScope s_put_prices) := ⟨rfl, rfl, rfl, by decide +kernel, rfl, by decide +kernel, by decide +kernel⟩
abbrev s_grown_counts : Stmt := top 39
abbrev n_grown_counts : List Str := ["counts", "rank", "count"]
theorem sc_grown_counts : FnScope n_grown_counts ["counts", "rank", "count"] (defScope s_grown_counts) := ⟨rfl, rfl, rfl, by decide +kernel, rfl, by decide +kernel, by decide +kernel⟩
abbrev s_check_put : Stmt := top 40
abbrev n_check_put : List Str := ["code", "counts", "rank", "count"]
theorem sc_check_put : FnScope n_check_put ["code", "counts", "rank", "count"] (defScope s_check_put) := ⟨rfl, rfl, rfl, by decide +kernel, rfl, by decide +kernel, by decide +kernel⟩
abbrev s_put_counted : Stmt := top 41
abbrev n_put_counted : List Str := ["code", "counts", "rank", "count", "grown", "prices", "due"]
theorem sc_put_counted : FnScope n_put_counted ["code", "counts", "rank", "count"] (defScope s_put_counted) := ⟨rfl, rfl, rfl, by decide +kernel, rfl, by decide +kernel, by decide +kernel⟩
abbrev s_kept_code : Stmt := top 42
abbrev n_kept_code : List Str := ["kept"]
theorem sc_kept_code : FnScope n_kept_code ["kept"] (defScope s_kept_code) := ⟨rfl, rfl, rfl, by decide +kernel, rfl, by decide +kernel, by decide +kernel⟩
abbrev s_can_put : Stmt := top 43
abbrev n_can_put : List Str := ["told", "count"]
theorem sc_can_put : FnScope n_can_put ["told"] (defScope s_can_put) := ⟨rfl, rfl, rfl, by decide +kernel, rfl, by decide +kernel, by decide +kernel⟩
abbrev s_is_kept : Stmt := top 44
abbrev n_is_kept : List Str := ["kept", "due"]
theorem sc_is_kept : FnScope n_is_kept ["kept"] (defScope s_is_kept) := ⟨rfl, rfl, rfl, by decide +kernel, rfl, by decide +kernel, by decide +kernel⟩
abbrev s_is_recoded : Stmt := top 45
abbrev n_is_recoded : List Str := ["recoded", "other", "grown", "prices"]
theorem sc_is_recoded : FnScope n_is_recoded ["recoded"] (defScope s_is_recoded) := ⟨rfl, rfl, rfl, by decide +kernel, rfl, by decide +kernel, by decide +kernel⟩
abbrev s_l_pen_of : Stmt := top 47
abbrev n_l_pen_of : List Str := ["_law_script"]
theorem sc_l_pen_of : FnScope n_l_pen_of ["_law_script"] (defScope s_l_pen_of) := ⟨rfl, rfl, rfl, by decide +kernel, rfl, by decide +kernel, by decide +kernel⟩
abbrev s_l_draw : Stmt := top 48
abbrev n_l_draw : List Str := ["_law_pen", "_law_many", "_law_digit", "_law_index", "_law_size", "_law_cell", "_law_mixed"]
theorem sc_l_draw : FnScope n_l_draw ["_law_pen", "_law_many"] (defScope s_l_draw) := ⟨rfl, rfl, rfl, by decide +kernel, rfl, by decide +kernel, by decide +kernel⟩
abbrev s_l_pick : Stmt := top 49
abbrev n_l_pick : List Str := ["_law_pen", "_law_items"]
theorem sc_l_pick : FnScope n_l_pick ["_law_pen", "_law_items"] (defScope s_l_pick) := ⟨rfl, rfl, rfl, by decide +kernel, rfl, by decide +kernel, by decide +kernel⟩
abbrev s_l_shuffled : Stmt := top 50
abbrev n_l_shuffled : List Str := ["_law_pen", "_law_items", "_law_rest", "_law_found"]
theorem sc_l_shuffled : FnScope n_l_shuffled ["_law_pen", "_law_items"] (defScope s_l_shuffled) := ⟨rfl, rfl, rfl, by decide +kernel, rfl, by decide +kernel, by decide +kernel⟩
abbrev s_l_some_code : Stmt := top 51
abbrev n_l_some_code : List Str := ["_law_pen", "_law_many", "_law_lengths", "_law_at"]
theorem sc_l_some_code : FnScope n_l_some_code ["_law_pen", "_law_many"] (defScope s_l_some_code) := ⟨rfl, rfl, rfl, by decide +kernel, rfl, by decide +kernel, by decide +kernel⟩
abbrev s_l_cost : Stmt := top 52
abbrev n_l_cost : List Str := ["_law_lengths", "_law_counts", "_law_length", "_law_count"]
theorem sc_l_cost : FnScope n_l_cost ["_law_lengths", "_law_counts"] (defScope s_l_cost) := ⟨rfl, rfl, rfl, by decide +kernel, rfl, by decide +kernel, by decide +kernel⟩
abbrev s_l_some_counts : Stmt := top 53
abbrev n_l_some_counts : List Str := ["_law_pen", "_law_many", "_law_kind", "_law_sign"]
theorem sc_l_some_counts : FnScope n_l_some_counts ["_law_pen", "_law_many"] (defScope s_l_some_counts) := ⟨rfl, rfl, rfl, by decide +kernel, rfl, by decide +kernel, by decide +kernel⟩
abbrev s_l_least : Stmt := top 54
abbrev n_l_least : List Str := ["_law_counts", "_law_left", "_law_total", "_law_weight"]
theorem sc_l_least : FnScope n_l_least ["_law_counts"] (defScope s_l_least) := ⟨rfl, rfl, rfl, by decide +kernel, rfl, by decide +kernel, by decide +kernel⟩
abbrev s_l_words : Stmt := top 55
abbrev n_l_words : List Str := ["_law_pen", "_law_many", "_law_found", "_law_word"]
theorem sc_l_words : FnScope n_l_words ["_law_pen", "_law_many"] (defScope s_l_words) := ⟨rfl, rfl, rfl, by decide +kernel, rfl, by decide +kernel, by decide +kernel⟩
abbrev s_l_code : Stmt := top 56
abbrev n_l_code : List Str := ["_law_words_here", "_law_word"]
theorem sc_l_code : FnScope n_l_code ["_law_words_here"] (defScope s_l_code) := ⟨rfl, rfl, rfl, by decide +kernel, rfl, by decide +kernel, by decide +kernel⟩
abbrev s_l_near_counts : Stmt := top 57
abbrev n_l_near_counts : List Str := ["_law_pen", "_law_lengths", "_law_way", "_law_found", "_law_length", "_law_count", "_law_turn", "_law_at"]
theorem sc_l_near_counts : FnScope n_l_near_counts ["_law_pen", "_law_lengths"] (defScope s_l_near_counts) := ⟨rfl, rfl, rfl, by decide +kernel, rfl, by decide +kernel, by decide +kernel⟩
abbrev s_l_met : Stmt := top 58
abbrev n_l_met : List Str := ["_law_call", "e"]
theorem sc_l_met : FnScope n_l_met ["_law_call"] (defScope s_l_met) := ⟨rfl, rfl, rfl, by decide +kernel, rfl, by decide +kernel, by decide +kernel⟩
abbrev s_l_parted : Stmt := top 59
abbrev n_l_parted : List Str := ["_law_words_here", "_law_sign", "_law_rank", "_law_found"]
theorem sc_l_parted : FnScope n_l_parted ["_law_words_here", "_law_sign", "_law_rank"] (defScope s_l_parted) := ⟨rfl, rfl, rfl, by decide +kernel, rfl, by decide +kernel, by decide +kernel⟩
abbrev s_l_right_signs : Stmt := top 60
abbrev n_l_right_signs : List Str := ["_law_words_here", "_law_grown", "_law_rank", "_law_found", "_law_least_here", "_law_sign", "_law_lengths", "_law_word"]
theorem sc_l_right_signs : FnScope n_l_right_signs ["_law_words_here", "_law_grown", "_law_rank"] (defScope s_l_right_signs) := ⟨rfl, rfl, rfl, by decide +kernel, rfl, by decide +kernel, by decide +kernel⟩
abbrev s_l_some_count : Stmt := top 61
abbrev n_l_some_count : List Str := ["_law_pen", "_law_counts", "_law_near"]
theorem sc_l_some_count : FnScope n_l_some_count ["_law_pen", "_law_counts"] (defScope s_l_some_count) := ⟨rfl, rfl, rfl, by decide +kernel, rfl, by decide +kernel, by decide +kernel⟩
abbrev s_l_are_papers : Stmt := top 62
abbrev n_l_are_papers : List Str := ["_law_pen", "_law_words_here", "_law_counts", "_law_rank", "_law_count", "_law_right", "_law_code_here", "_law_grown", "_law_some", "_law_sign", "_law_due", "_law_strange", "_law_one", "_law_tally", "_law_spot", "_law_many", "_law_others", "_law_other"]
theorem sc_l_are_papers : FnScope n_l_are_papers ["_law_pen", "_law_words_here", "_law_counts", "_law_rank", "_law_count", "_law_right"] (defScope s_l_are_papers) := ⟨rfl, rfl, rfl, by decide +kernel, rfl, by decide +kernel, by decide +kernel⟩
abbrev s_l_are_refused : Stmt := top 63
abbrev n_l_are_refused : List Str := ["_law_pen", "_law_words_here", "_law_counts", "_law_code_here", "_law_many", "_law_odd", "_law_wrong"]
theorem sc_l_are_refused : FnScope n_l_are_refused ["_law_pen", "_law_words_here", "_law_counts"] (defScope s_l_are_refused) := ⟨rfl, rfl, rfl, by decide +kernel, rfl, by decide +kernel, by decide +kernel⟩
abbrev s_law : Stmt := top 64
abbrev n_law : List Str := ["_law_script", "_law_pen", "_law_turn", "_law_words_here", "_law_counts", "_law_rank", "_law_word", "_law_count", "_law_code_here", "_law_grown", "_law_told", "_law_right", "_law_due"]
theorem sc_law : FnScope n_law ["_law_script"] (defScope s_law) := ⟨rfl, rfl, rfl, by decide +kernel, rfl, by decide +kernel, by decide +kernel⟩
end K38

set_option Elab.async false
set_option linter.all false
set_option maxRecDepth 100000
set_option maxHeartbeats 0
/-! The head, its run: what is looked at when the top is done. By one equation. -/
namespace K38
open PySem PySem.Spec PyProof.Rows L2
abbrev RWL : PySem.W.OpenLaw := PySem.Challenge.rw_wordvault_k38_whole_counted_signs
abbrev RR : PySem.W.OpenRow := PySem.W.OpenLaw.row RWL
abbrev PX : Program := RWL.prog
def oexB (K : PySem.W.Frag) (C : Addr) : Bool := match K.lookup C with
  | some ⟨.type "type", _, .cls cd, sl⟩ => (match cd.mro, sl.toList with
    | .ref C' :: bm, [_, _, _, _, some (.builtin n), _] => C' == C && n == "ValueError.__new__" && !cd.hasDel && cd.hasDict && PySem.HandSPX.refsVE bm
    | _, _ => false)
  | _ => false
def fnB (K : PySem.W.Frag) (f : Addr) : Bool := match K.lookup f with
  | some ⟨.type "function", _, _, _⟩ => true
  | _ => false
def eqcB (K : PySem.W.Frag) (C f : Addr) : Bool := (match K.lookup C with
  | some ⟨.type "type", _, .cls cd, sl⟩ => (match cd.mro, sl.toList with
    | .ref C' :: bm, [_, _, _, _, some (.builtin _), _] => C' == C && bm == [.type "object"] && !cd.hasDel && PySem.W.nsOkIn K cd.ns && decide (PySem.W.nsIn K cd.ns "__eq__" = some (some (.ref f))) && decide (PySem.W.nsIn K cd.ns "__ne__" = some none)
    | _, _ => false)
  | _ => false) && fnB K f
abbrev FnY : Type := Option (Str × Str × Arguments × FuncBody × Scope × Addr × List Str × Addr)
def fnY (K : PySem.W.Frag) (x : Str) : FnY := match K.lookup (He.fAd K (x, some "__init__")) with
  | some ⟨_, _, .func fd, _⟩ => some (fd.name, fd.qualname, fd.params, fd.body, fd.scope, fd.globals, fd.closure.map (·.1), fd.builtins)
  | _ => none
def valY (p : Str × Stmt × Str) : FnY := some ("__init__", p.2.2, defArgs p.2.1, .stmts (defBody p.2.1), defScope p.2.1, mainGlobals, ["__class__"], builtinsNs)
def isN : Value → Bool
  | .none => true
  | _ => false
def fileB (K : PySem.W.Frag) : Value → Bool
  | .ref cda => (match K.lookup cda with
    | some ⟨_, _, .fields vs, _⟩ => (match (vs[2]? : Option Value) with
      | some (.str f _) => PX.main.file == f
      | _ => false)
    | _ => false)
  | _ => false
def cellB (K : PySem.W.Frag) (C : Addr) : List (Str × Addr) → Bool
  | [(_, cc)] => (match K.lookup cc with
    | some ⟨_, _, .cell (some (.ref D)), _⟩ => decide (D = C)
    | _ => false)
  | _ => false
def supC (K : PySem.W.Frag) (x qual : Str) (cl : List (Str × Addr)) (dv cdv : Value) : Bool := PySem.W.codeIn K cdv qual && (isN dv && (fileB K cdv && cellB K (He.ga K x) cl))
def supB (K : PySem.W.Frag) (x qual : Str) : Bool := match K.lookup (He.fAd K (x, some "__init__")) with
  | some ⟨_, _, .func fd, _⟩ => supC K x qual fd.closure fd.defaults fd.code
  | _ => false

abbrev y_OtherSize : Stmt := inClass (top 9) 0
abbrev y_BadCount : Stmt := inClass (top 3) 0
abbrev y_BadRank : Stmt := inClass (top 10) 0
def faL0 : List He.Fa := [.free "len", .free "isinstance", .free "int", .free "bool", .free "str", .free "list", .free "tuple", .free "range", .free "enumerate", .free "sorted", .free "all", .free "any", .free "zip", .free "max", .free "min", .free "sum", .free "abs", .free "repr", .glo "is_count", .glo "two_power", .glo "check_signs", .glo "check_counts", .glo "bits_of", .glo "canonical", .glo "is_bits", .glo "checked_words", .glo "check_beginnings", .glo "code_of", .glo "check_pair", .glo "cost_by"]
def faL1 : List He.Fa := [.glo "joined_pairs", .glo "least_of", .glo "lengths_for", .glo "is_least_for", .glo "as_frozen", .glo "check_rank", .glo "is_sign_of", .glo "parted_code", .glo "put_prices", .glo "grown_counts", .glo "check_put", .glo "put_counted", .glo "kept_code", .glo "can_put", .glo "is_kept", .glo "is_recoded", .glo "_law_pen_of", .glo "_law_draw", .glo "_law_pick", .glo "_law_shuffled", .glo "_law_some_code", .glo "_law_cost", .glo "_law_some_counts", .glo "_law_least", .glo "_law_words", .glo "_law_code", .glo "_law_near_counts", .glo "_law_met", .glo "_law_parted", .glo "_law_right_signs"]
def faL2 : List He.Fa := [.glo "_law_some_count", .glo "_law_are_papers", .glo "_law_are_refused", .glo "law", .glo "Code", .glo "Kept", .glo "Recoded", .int "MOST_SIGNS" 2000, .int "MOST_LENGTH" 1999, .cls "Code", .mkr "Code", .noat "Code" "lengths", .noat "Code" "words", .noat "Code" "size", .noat "Code" "longest", .cls "Kept", .mkr "Kept", .noat "Kept" "code", .noat "Kept" "counts", .noat "Kept" "rank", .noat "Kept" "count", .noat "Kept" "sign", .cls "Recoded", .mkr "Recoded", .noat "Recoded" "code", .noat "Recoded" "counts", .noat "Recoded" "rank", .noat "Recoded" "count", .noat "Recoded" "other", .meth "Code" "__eq__"]
def faL3 : List He.Fa := [.glo "TooMany", .glo "BadRank", .glo "BadCount", .glo "OtherSize", .exm "BadRank" "BadRank" true, .exm "BadCount" "BadRank" false, .exm "BadCount" "TooMany" false, .exm "BadCount" "BadCount" true, .exm "OtherSize" "BadRank" false, .exm "OtherSize" "TooMany" false, .exm "OtherSize" "BadCount" false, .exm "OtherSize" "OtherSize" true, .noat "BadRank" "rank", .noat "BadCount" "count", .noat "OtherSize" "many", .noat "OtherSize" "wanted", .free "super"]
def faL : List He.Fa := faL0 ++ faL1 ++ faL2 ++ faL3
def fnL0 : List He.DefD := [⟨("is_count", none), "is_count", "is_count", defArgs s_is_count, defBody s_is_count, defScope s_is_count, [], []⟩, ⟨("two_power", none), "two_power", "two_power", defArgs s_two_power, defBody s_two_power, defScope s_two_power, [], []⟩, ⟨("check_signs", none), "check_signs", "check_signs", defArgs s_check_signs, defBody s_check_signs, defScope s_check_signs, [], []⟩, ⟨("check_counts", none), "check_counts", "check_counts", defArgs s_check_counts, defBody s_check_counts, defScope s_check_counts, [], []⟩, ⟨("bits_of", none), "bits_of", "bits_of", defArgs s_bits_of, defBody s_bits_of, defScope s_bits_of, [], []⟩, ⟨("canonical", none), "canonical", "canonical", defArgs s_canonical, defBody s_canonical, defScope s_canonical, [], []⟩, ⟨("is_bits", none), "is_bits", "is_bits", defArgs s_is_bits, defBody s_is_bits, defScope s_is_bits, [], []⟩, ⟨("checked_words", none), "checked_words", "checked_words", defArgs s_checked_words, defBody s_checked_words, defScope s_checked_words, [], []⟩, ⟨("check_beginnings", none), "check_beginnings", "check_beginnings", defArgs s_check_beginnings, defBody s_check_beginnings, defScope s_check_beginnings, [], []⟩, ⟨("code_of", none), "code_of", "code_of", defArgs s_code_of, defBody s_code_of, defScope s_code_of, [], []⟩, ⟨("check_pair", none), "check_pair", "check_pair", defArgs s_check_pair, defBody s_check_pair, defScope s_check_pair, [], []⟩, ⟨("cost_by", none), "cost_by", "cost_by", defArgs s_cost_by, defBody s_cost_by, defScope s_cost_by, [], []⟩, ⟨("joined_pairs", none), "joined_pairs", "joined_pairs", defArgs s_joined_pairs, defBody s_joined_pairs, defScope s_joined_pairs, [], []⟩, ⟨("least_of", none), "least_of", "least_of", defArgs s_least_of, defBody s_least_of, defScope s_least_of, [], []⟩, ⟨("lengths_for", none), "lengths_for", "lengths_for", defArgs s_lengths_for, defBody s_lengths_for, defScope s_lengths_for, [], []⟩, ⟨("is_least_for", none), "is_least_for", "is_least_for", defArgs s_is_least_for, defBody s_is_least_for, defScope s_is_least_for, [], []⟩, ⟨("as_frozen", none), "as_frozen", "as_frozen", defArgs s_as_frozen, defBody s_as_frozen, defScope s_as_frozen, [], []⟩, ⟨("check_rank", none), "check_rank", "check_rank", defArgs s_check_rank, defBody s_check_rank, defScope s_check_rank, [], []⟩, ⟨("is_sign_of", none), "is_sign_of", "is_sign_of", defArgs s_is_sign_of, defBody s_is_sign_of, defScope s_is_sign_of, [], []⟩, ⟨("parted_code", none), "parted_code", "parted_code", defArgs s_parted_code, defBody s_parted_code, defScope s_parted_code, [], []⟩]
def fnL1 : List He.DefD := [⟨("put_prices", none), "put_prices", "put_prices", defArgs s_put_prices, defBody s_put_prices, defScope s_put_prices, [], []⟩, ⟨("grown_counts", none), "grown_counts", "grown_counts", defArgs s_grown_counts, defBody s_grown_counts, defScope s_grown_counts, [], []⟩, ⟨("check_put", none), "check_put", "check_put", defArgs s_check_put, defBody s_check_put, defScope s_check_put, [], []⟩, ⟨("put_counted", none), "put_counted", "put_counted", defArgs s_put_counted, defBody s_put_counted, defScope s_put_counted, [], []⟩, ⟨("kept_code", none), "kept_code", "kept_code", defArgs s_kept_code, defBody s_kept_code, defScope s_kept_code, [], []⟩, ⟨("can_put", none), "can_put", "can_put", defArgs s_can_put, defBody s_can_put, defScope s_can_put, [], []⟩, ⟨("is_kept", none), "is_kept", "is_kept", defArgs s_is_kept, defBody s_is_kept, defScope s_is_kept, [], []⟩, ⟨("is_recoded", none), "is_recoded", "is_recoded", defArgs s_is_recoded, defBody s_is_recoded, defScope s_is_recoded, [], []⟩, ⟨("_law_pen_of", none), "_law_pen_of", "_law_pen_of", defArgs s_l_pen_of, defBody s_l_pen_of, defScope s_l_pen_of, [], []⟩, ⟨("_law_draw", none), "_law_draw", "_law_draw", defArgs s_l_draw, defBody s_l_draw, defScope s_l_draw, [], []⟩, ⟨("_law_pick", none), "_law_pick", "_law_pick", defArgs s_l_pick, defBody s_l_pick, defScope s_l_pick, [], []⟩, ⟨("_law_shuffled", none), "_law_shuffled", "_law_shuffled", defArgs s_l_shuffled, defBody s_l_shuffled, defScope s_l_shuffled, [], []⟩, ⟨("_law_some_code", none), "_law_some_code", "_law_some_code", defArgs s_l_some_code, defBody s_l_some_code, defScope s_l_some_code, [], []⟩, ⟨("_law_cost", none), "_law_cost", "_law_cost", defArgs s_l_cost, defBody s_l_cost, defScope s_l_cost, [], []⟩, ⟨("_law_some_counts", none), "_law_some_counts", "_law_some_counts", defArgs s_l_some_counts, defBody s_l_some_counts, defScope s_l_some_counts, [], []⟩, ⟨("_law_least", none), "_law_least", "_law_least", defArgs s_l_least, defBody s_l_least, defScope s_l_least, [], []⟩, ⟨("_law_words", none), "_law_words", "_law_words", defArgs s_l_words, defBody s_l_words, defScope s_l_words, [], []⟩, ⟨("_law_code", none), "_law_code", "_law_code", defArgs s_l_code, defBody s_l_code, defScope s_l_code, [], []⟩, ⟨("_law_near_counts", none), "_law_near_counts", "_law_near_counts", defArgs s_l_near_counts, defBody s_l_near_counts, defScope s_l_near_counts, [], []⟩, ⟨("_law_met", none), "_law_met", "_law_met", defArgs s_l_met, defBody s_l_met, defScope s_l_met, [], []⟩]
def fnL2 : List He.DefD := [⟨("_law_parted", none), "_law_parted", "_law_parted", defArgs s_l_parted, defBody s_l_parted, defScope s_l_parted, [], []⟩, ⟨("_law_right_signs", none), "_law_right_signs", "_law_right_signs", defArgs s_l_right_signs, defBody s_l_right_signs, defScope s_l_right_signs, [], []⟩, ⟨("_law_some_count", none), "_law_some_count", "_law_some_count", defArgs s_l_some_count, defBody s_l_some_count, defScope s_l_some_count, [], []⟩, ⟨("_law_are_papers", none), "_law_are_papers", "_law_are_papers", defArgs s_l_are_papers, defBody s_l_are_papers, defScope s_l_are_papers, [], []⟩, ⟨("_law_are_refused", none), "_law_are_refused", "_law_are_refused", defArgs s_l_are_refused, defBody s_l_are_refused, defScope s_l_are_refused, [], []⟩, ⟨("law", none), "law", "law", defArgs s_law, defBody s_law, defScope s_law, [], []⟩, ⟨("Code", some "__init__"), "__init__", "Code.__init__", defArgs s_Code_init, defBody s_Code_init, defScope s_Code_init, [.non], []⟩, ⟨("Code", some "__eq__"), "__eq__", "Code.__eq__", defArgs s_Code_eq, defBody s_Code_eq, defScope s_Code_eq, [], []⟩, ⟨("Kept", some "__init__"), "__init__", "Kept.__init__", defArgs s_Kept_init, defBody s_Kept_init, defScope s_Kept_init, [], []⟩, ⟨("Recoded", some "__init__"), "__init__", "Recoded.__init__", defArgs s_Recoded_init, defBody s_Recoded_init, defScope s_Recoded_init, [], []⟩]
def fnL : List He.DefD := fnL0 ++ fnL1 ++ fnL2

def exL0 (K : PySem.W.Frag) : List Bool := [decide (PySem.W.kitOne K (.ref (He.ga K "Code")) (.type "int") = some false), decide (PySem.W.kitOne K (.ref (He.ga K "Code")) (.type "bool") = some false), decide (PySem.W.kitOne K (.ref (He.ga K "Code")) (.type "str") = some false), decide (PySem.W.kitOne K (.ref (He.ga K "Code")) (.type "list") = some false), decide (PySem.W.kitOne K (.ref (He.ga K "Code")) (.type "tuple") = some false), decide (PySem.W.kitOne K (.type "NoneType") (.ref (He.ga K "Code")) = some false), decide (PySem.W.kitOne K (.type "int") (.ref (He.ga K "Code")) = some false), decide (PySem.W.kitOne K (.type "bool") (.ref (He.ga K "Code")) = some false), decide (PySem.W.kitOne K (.type "str") (.ref (He.ga K "Code")) = some false), decide (PySem.W.kitOne K (.type "list") (.ref (He.ga K "Code")) = some false), decide (PySem.W.kitOne K (.type "tuple") (.ref (He.ga K "Code")) = some false), decide (PySem.W.kitOne K (.ref (He.ga K "Recoded")) (.ref (He.ga K "Kept")) = some false), decide (PySem.W.kitOne K (.ref (He.ga K "Kept")) (.ref (He.ga K "Kept")) = some true), decide (PySem.W.kitOne K (.ref (He.ga K "Code")) (.ref (He.ga K "Code")) = some true), decide (PySem.W.findIn K (.ref (He.ga K "Code")) "__class__" = some (some (.builtin "object.__class__"))), decide (PySem.W.mroIn K (He.ga K "Code") (.type "object") = some true), decide (PySem.W.findIn K (.ref (He.ga K "Kept")) "__class__" = some (some (.builtin "object.__class__"))), decide (PySem.W.mroIn K (He.ga K "Kept") (.type "object") = some true), decide (PySem.W.findIn K (.ref (He.ga K "Recoded")) "__class__" = some (some (.builtin "object.__class__"))), decide (PySem.W.mroIn K (He.ga K "Recoded") (.type "object") = some true)]
def exL1 (K : PySem.W.Frag) : List Bool := [decide (PySem.W.specialIn K (.builtin "object.__class__") "__get__" = some (some (.builtin "getset_descriptor.__get__"))), decide (PySem.W.takesIn K (.builtin "object.__class__") = some true), decide (PySem.W.findIn K (.ref (He.ga K "BadRank")) "__init__" = some (some (.ref (He.ma K (He.ga K "BadRank") "__init__")))), decide (PySem.W.typeIn K (.ref (He.ma K (He.ga K "BadRank") "__init__")) = some (.type "function")), decide (PySem.W.findIn K (.ref (He.ga K "BadRank")) "__setattr__" = some (some (.builtin "object.__setattr__"))), decide (PySem.W.subIn K (.ref (He.ga K "BadRank")) (.type "BaseException") = some true), decide (PySem.W.typeIn K (.ref (He.ga K "BadRank")) = some (.type "type")), decide (PySem.W.ks_superIn K (He.ga K "BadRank") (He.ga K "BadRank") "__init__" = some (some (.builtin "ValueError.__init__"))), decide (PySem.W.mroIn K (He.ga K "BadRank") (.ref (He.ga K "BadRank")) = some true), decide (PySem.W.subIn K (.ref (He.ga K "BadRank")) (.type "ValueError") = some true), PySem.W.keepIn K (.ref (He.ga K "BadRank")), oexB K (He.ga K "BadRank"), xfB K (He.ga K "BadRank"), supB K "BadRank" "BadRank.__init__", decide (PySem.W.findIn K (.ref (He.ga K "BadCount")) "__init__" = some (some (.ref (He.ma K (He.ga K "BadCount") "__init__")))), decide (PySem.W.typeIn K (.ref (He.ma K (He.ga K "BadCount") "__init__")) = some (.type "function")), decide (PySem.W.findIn K (.ref (He.ga K "BadCount")) "__setattr__" = some (some (.builtin "object.__setattr__"))), decide (PySem.W.subIn K (.ref (He.ga K "BadCount")) (.type "BaseException") = some true), decide (PySem.W.typeIn K (.ref (He.ga K "BadCount")) = some (.type "type")), decide (PySem.W.ks_superIn K (He.ga K "BadCount") (He.ga K "BadCount") "__init__" = some (some (.builtin "ValueError.__init__")))]
def exL2 (K : PySem.W.Frag) : List Bool := [decide (PySem.W.mroIn K (He.ga K "BadCount") (.ref (He.ga K "BadCount")) = some true), decide (PySem.W.subIn K (.ref (He.ga K "BadCount")) (.type "ValueError") = some true), PySem.W.keepIn K (.ref (He.ga K "BadCount")), oexB K (He.ga K "BadCount"), xfB K (He.ga K "BadCount"), supB K "BadCount" "BadCount.__init__", decide (PySem.W.findIn K (.ref (He.ga K "OtherSize")) "__init__" = some (some (.ref (He.ma K (He.ga K "OtherSize") "__init__")))), decide (PySem.W.typeIn K (.ref (He.ma K (He.ga K "OtherSize") "__init__")) = some (.type "function")), decide (PySem.W.findIn K (.ref (He.ga K "OtherSize")) "__setattr__" = some (some (.builtin "object.__setattr__"))), decide (PySem.W.subIn K (.ref (He.ga K "OtherSize")) (.type "BaseException") = some true), decide (PySem.W.typeIn K (.ref (He.ga K "OtherSize")) = some (.type "type")), decide (PySem.W.ks_superIn K (He.ga K "OtherSize") (He.ga K "OtherSize") "__init__" = some (some (.builtin "ValueError.__init__"))), decide (PySem.W.mroIn K (He.ga K "OtherSize") (.ref (He.ga K "OtherSize")) = some true), decide (PySem.W.subIn K (.ref (He.ga K "OtherSize")) (.type "ValueError") = some true), PySem.W.keepIn K (.ref (He.ga K "OtherSize")), oexB K (He.ga K "OtherSize"), xfB K (He.ga K "OtherSize"), supB K "OtherSize" "OtherSize.__init__", decide (PySem.W.nsIn K cStatics "thirdparty.any" = some none), eqcB K (He.ga K "Code") (He.ma K (He.ga K "Code") "__eq__")]
def exL (K : PySem.W.Frag) : List Bool := exL0 K ++ exL1 K ++ exL2 K
def loose0 : List Str := ["__name__", "VaultError", "TooMany", "BadCount", "BadBits", "BadTally", "BadLength", "NotFull", "Begins", "OtherSize", "BadRank", "MOST_SIGNS", "MOST_LENGTH", "is_count", "two_power", "check_signs", "check_counts", "bits_of", "canonical", "is_bits", "checked_words", "check_beginnings", "Code", "code_of", "check_pair", "cost_by", "joined_pairs", "least_of", "lengths_for", "is_least_for"]
def loose1 : List Str := ["as_frozen", "check_rank", "is_sign_of", "parted_code", "Kept", "Recoded", "put_prices", "grown_counts", "check_put", "put_counted", "kept_code", "can_put", "is_kept", "is_recoded", "_law_pen_of", "_law_draw", "_law_pick", "_law_shuffled", "_law_some_code", "_law_cost", "_law_some_counts", "_law_least", "_law_words", "_law_code", "_law_near_counts", "_law_met", "_law_parted", "_law_right_signs", "_law_some_count", "_law_are_papers"]
def loose2 : List Str := ["_law_are_refused"]
def loose : List Str := loose0 ++ loose1 ++ loose2
abbrev lawAt : Nat := 64
def yL : List (Str × Stmt × Str) := [("BadRank", y_BadRank, "BadRank.__init__"), ("BadCount", y_BadCount, "BadCount.__init__"), ("OtherSize", y_OtherSize, "OtherSize.__init__")]
abbrev tfL : List He.Defn := [("_law_are_refused", none)]
def exA (K : PySem.W.Frag) : Bool := (exL K).all id
/-- what is reached: each object asked once; what was seen is a number's bits -/
def refsG (g : Addr → Option Obj) (a : Addr) : List Addr := match g a with
  | some o => He.refsD o
  | none => []
def freshL : List Addr → Nat → (List Addr → Nat → List Addr) → List Addr
  | [], seen, k => k [] seen
  | a :: r, seen, k => (match Nat.testBit seen a with
    | true => freshL r seen k
    | false => freshL r (seen ||| (1 <<< a)) fun l s => k (a :: l) s)
def reachW (g : Addr → Option Obj) : Nat → List Addr → Nat → List Addr
  | 0, _, _ => []
  | n + 1, new, seen => new ++ freshL (new.flatMap (refsG g)) seen fun l s => reachW g n l s
def frK (g : Addr → Option Obj) : PySem.W.Frag := He.frT g (cStatics :: reachW g 7 [mainGlobals] (1 <<< mainGlobals))
abbrev AlB : Type := Bool × List FnY
abbrev AlK : Type := He.AlT × AlB
def obsA (g : Addr → Option Obj) : He.AlT := He.obsT faL fnL [] (frK g)
def obsB (g : Addr → Option Obj) : AlB := (exA (frK g) && He.tabsB g tfL (frK g), yL.map fun p => fnY (frK g) p.1)
def valA (w : World) : He.AlT := He.valT fnL [] w
def valB : AlB := (true, yL.map valY)
/-- a Hook that tells nothing -/
abbrev mute {A : Type} (o : Shared → A) (v : World → A) : PySem.W.Hook := ⟨A, o, v, fun _ _ => True, fun _ _ _ => trivial, fun _ _ _ _ _ => trivial⟩
def obsK (g : Addr → Option Obj) : AlK := (obsA g, obsB g)
def valK (w : World) : AlK := (valA w, valB)
theorem run0 (w : World) : HandSHeadRun.RunEq RR (PySem.W.view RR.prog [lawAt]) (mute (fun s => obsK s.heap.get?) valK) (fun s => obsK (HandSHeadRun.getT s)) 20000 loose w := by
  intro os
  kernel_rfl
end K38


/-! The mathematics of the least cost: joining, lengths, full codes. No program in sight. -/
namespace M38

theorem sum_perm {l m : List Int} (h : l.Perm m) : l.sum = m.sum := by
  induction h with
  | nil => rfl
  | cons x _ ih => simp only [List.sum_cons, ih]
  | swap x y l => simp only [List.sum_cons]; omega
  | trans _ _ a b => exact a.trans b

/-! ### joining the two least, again and again -/
/-- ws are the weights made, one after the other, out of the nodes R -/
inductive Joins : List Int → List Int → Prop
  | done {R : List Int} (h : R.length ≤ 1) : Joins R []
  | step {R r ws : List Int} {x y : Int} (p : R.Perm (x :: y :: r)) (h1 : x ≤ y) (h2 : ∀ z ∈ r, y ≤ z) (t : Joins ((x + y) :: r) ws) : Joins R ((x + y) :: ws)

theorem min_unique {x y : Int} {r s : List Int} (p : (x :: r).Perm (y :: s)) (hx : ∀ z ∈ r, x ≤ z) (hy : ∀ z ∈ s, y ≤ z) : x = y ∧ r.Perm s := by
  have a : x ∈ y :: s := p.mem_iff.mp (List.mem_cons_self ..)
  have b : y ∈ x :: r := p.mem_iff.mpr (List.mem_cons_self ..)
  have e : x = y := by
    rcases List.mem_cons.mp a with a | a
    · exact a
    · rcases List.mem_cons.mp b with b | b
      · exact b.symm
      · have := hx _ b
        have := hy _ a
        omega
  subst e
  exact ⟨rfl, List.Perm.cons_inv p⟩

theorem Joins.unique {R ws : List Int} (h : Joins R ws) : ∀ {S vs : List Int}, Joins S vs → R.Perm S → ws = vs := by
  induction h with
  | done hl =>
    intro S vs h p
    cases h with
    | done _ => rfl
    | step q _ _ _ =>
      have e1 := p.length_eq
      have e2 := q.length_eq
      simp only [List.length_cons] at e2
      omega
  | @step R r ws x y q h1 h2 t ih =>
    intro S vs h p
    cases h with
    | done hl =>
      have e1 := p.length_eq
      have e2 := q.length_eq
      simp only [List.length_cons] at e2
      omega
    | @step _ r' ws' x' y' q' h1' h2' t' =>
      have pq : (x :: y :: r).Perm (x' :: y' :: r') := q.symm.trans (p.trans q')
      obtain ⟨ex, p2⟩ := min_unique pq (fun z hz => by
        rcases List.mem_cons.mp hz with e | e
        · omega
        · have := h2 z e
          omega) (fun z hz => by
        rcases List.mem_cons.mp hz with e | e
        · omega
        · have := h2' z e
          omega)
      obtain ⟨ey, p3⟩ := min_unique p2 h2 h2'
      subst ex ey
      rw [ih t' (p3.cons _)]

/-- l is the least cost of the counts R -/
def Lst (R : List Int) (l : Int) : Prop := ∃ ws, Joins R ws ∧ l = ws.sum
theorem Lst.unique {R S : List Int} {l k : Int} (h : Lst R l) (g : Lst S k) (p : R.Perm S) : l = k := by
  obtain ⟨ws, j, rfl⟩ := h
  obtain ⟨vs, j', rfl⟩ := g
  rw [j.unique j' p]

/-- insertion, for there being one -/
def ins (x : Int) : List Int → List Int
  | [] => [x]
  | y :: r => if x ≤ y then x :: y :: r else y :: ins x r
theorem ins_perm (x : Int) : ∀ l : List Int, (ins x l).Perm (x :: l)
  | [] => List.Perm.refl _
  | y :: r => by
    unfold ins
    split
    · exact List.Perm.refl _
    · exact ((ins_perm x r).cons y).trans (List.Perm.swap x y r)
theorem ins_sorted (x : Int) : ∀ l : List Int, l.Pairwise (· ≤ ·) → (ins x l).Pairwise (· ≤ ·)
  | [], _ => by simp [ins]
  | y :: r, h => by
    unfold ins
    rw [List.pairwise_cons] at h
    split
    · rename_i hxy
      rw [List.pairwise_cons]
      refine ⟨fun z hz => ?_, List.pairwise_cons.mpr h⟩
      rcases List.mem_cons.mp hz with e | e
      · omega
      · have := h.1 z e
        omega
    · rename_i hxy
      rw [List.pairwise_cons]
      refine ⟨fun z hz => ?_, ins_sorted x r h.2⟩
      rcases List.mem_cons.mp ((ins_perm x r).mem_iff.mp hz) with e | e
      · omega
      · exact h.1 z e
def isort : List Int → List Int
  | [] => []
  | x :: r => ins x (isort r)
theorem isort_perm : ∀ l : List Int, (isort l).Perm l
  | [] => List.Perm.refl _
  | x :: r => (ins_perm x _).trans ((isort_perm r).cons x)
theorem isort_sorted : ∀ l : List Int, (isort l).Pairwise (· ≤ ·)
  | [] => List.Pairwise.nil
  | x :: r => ins_sorted x _ (isort_sorted r)

theorem Joins.perm {R S ws : List Int} (h : Joins R ws) (p : R.Perm S) : Joins S ws := by
  cases h with
  | done hl => exact .done (by rw [← p.length_eq]; exact hl)
  | step q h1 h2 t => exact .step (p.symm.trans q) h1 h2 t

theorem joins_exist : ∀ (n : Nat) (R : List Int), R.length = n → ∃ ws, Joins R ws
  | 0, R, h => ⟨[], .done (by omega)⟩
  | 1, R, h => ⟨[], .done (by omega)⟩
  | n + 2, R, h => by
    have p := isort_perm R
    have s := isort_sorted R
    have e := p.length_eq
    match hR : isort R with
    | [] =>
      rw [hR] at e
      simp at e
      omega
    | [x] =>
      rw [hR] at e
      simp at e
      omega
    | x :: y :: r =>
      rw [hR] at e p s
      simp only [List.length_cons] at e
      obtain ⟨ws, hw⟩ := joins_exist (n + 1) ((x + y) :: r) (by simp only [List.length_cons]; omega)
      rw [List.pairwise_cons, List.pairwise_cons] at s
      exact ⟨_, .step p.symm (s.1 y (List.mem_cons_self ..)) s.2.1 hw⟩

/-- THE LEAST COST -/
noncomputable def L (R : List Int) : Int := (Classical.choose (joins_exist R.length R rfl)).sum
theorem L_lst (R : List Int) : Lst R (L R) := ⟨_, Classical.choose_spec (joins_exist R.length R rfl), rfl⟩
theorem Lst.eq {R S : List Int} {l : Int} (h : Lst R l) (p : R.Perm S) : l = L S := h.unique (L_lst S) p

/-! ### full codes: lengths -/
/-- no word longer than D; the words' shares of 2 ^ D make up the whole -/
def Full (D : Nat) (ls : List Nat) : Prop := (∀ l ∈ ls, l ≤ D) ∧ (ls.map fun l => 2 ^ (D - l)).sum = 2 ^ D
theorem Full.perm {D : Nat} {ls ms : List Nat} (h : Full D ls) (p : ls.Perm ms) : Full D ms :=
  ⟨fun l hl => h.1 l (p.mem_iff.mpr hl), by rw [← (p.map _).sum_nat]; exact h.2⟩
theorem sum_half : ∀ (D : Nat) (ls : List Nat), (∀ l ∈ ls, l ≤ D) → (ls.map fun l => 2 ^ (D + 1 - l)).sum = 2 * (ls.map fun l => 2 ^ (D - l)).sum
  | D, [], _ => rfl
  | D, l :: ls, h => by
    have hl := h l (List.mem_cons_self ..)
    have ih := sum_half D ls fun m hm => h m (List.mem_cons_of_mem _ hm)
    simp only [List.map_cons, List.sum_cons, ih]
    have e : D + 1 - l = (D - l) + 1 := by omega
    rw [e, Nat.pow_succ]
    omega
theorem Full.up {D : Nat} {ls : List Nat} (h : Full D ls) : Full (D + 1) ls :=
  ⟨fun l hl => Nat.le_succ_of_le (h.1 l hl), by rw [sum_half D ls h.1, h.2, Nat.pow_succ]; omega⟩
theorem Full.down {D : Nat} {ls : List Nat} (h : Full (D + 1) ls) (n : D + 1 ∉ ls) : Full D ls := by
  have b : ∀ l ∈ ls, l ≤ D := fun l hl => by
    have h1 := h.1 l hl
    have h2 : l ≠ D + 1 := fun e => n (e ▸ hl)
    omega
  refine ⟨b, ?_⟩
  have e := h.2
  rw [sum_half D ls b, Nat.pow_succ] at e
  omega
/-- the greatest length stands there -/
theorem Full.top : ∀ {D : Nat} {ls : List Nat}, Full D ls → ∃ D', D' ≤ D ∧ Full D' ls ∧ D' ∈ ls
  | 0, ls, h => by
    cases ls with
    | nil => have := h.2; simp at this
    | cons l r =>
      have := h.1 l (List.mem_cons_self ..)
      have e : l = 0 := by omega
      exact ⟨0, Nat.le_refl _, h, by rw [e]; exact List.mem_cons_self ..⟩
  | D + 1, ls, h => by
    by_cases n : D + 1 ∈ ls
    · exact ⟨D + 1, Nat.le_refl _, h, n⟩
    · obtain ⟨D', h1, h2, h3⟩ := (h.down n).top
      exact ⟨D', by omega, h2, h3⟩
theorem Full.upTo {D : Nat} {ls : List Nat} (h : Full D ls) : ∀ k, Full (D + k) ls
  | 0 => h
  | k + 1 => (h.upTo k).up
/-- as Code reckons it: at the greatest length -/
theorem Full.max {D m : Nat} {ls : List Nat} (h : Full D ls) (hm : m ∈ ls) (hx : ∀ l ∈ ls, l ≤ m) : Full m ls := by
  obtain ⟨D', h1, h2, h3⟩ := h.top
  have e : D' = m := Nat.le_antisymm (hx _ h3) (h2.1 _ hm)
  rw [← e]
  exact h2
theorem pow_odd_even : ∀ k : Nat, (2 ^ (k + 1)) % 2 = 0 := fun k => by rw [Nat.pow_succ]; omega
/-- how many are longest has the parity of the sum -/
theorem parity (D : Nat) : ∀ ls : List Nat, (∀ l ∈ ls, l ≤ D) → (ls.map fun l => 2 ^ (D - l)).sum % 2 = ls.count D % 2
  | [], _ => rfl
  | l :: ls, h => by
    have ih := parity D ls fun m hm => h m (List.mem_cons_of_mem _ hm)
    have hl := h l (List.mem_cons_self ..)
    rw [List.map_cons, List.sum_cons, List.count_cons]
    by_cases e : l = D
    · subst e
      simp only [Nat.sub_self, Nat.pow_zero, beq_self_eq_true, if_true]
      omega
    · have e2 : (l == D) = false := by simpa using e
      rw [e2]
      have e3 : D - l = (D - l - 1) + 1 := by omega
      have e4 := pow_odd_even (D - l - 1)
      rw [← e3] at e4
      simp only [Bool.false_eq_true, if_false]
      omega
/-- two words are longest -/
theorem Full.two {D : Nat} {ls : List Nat} (h : Full D ls) (hD : D ∈ ls) (h2 : 2 ≤ ls.length) : 2 ≤ ls.count D ∧ 1 ≤ D := by
  have d1 : 1 ≤ D := by
    cases D with
    | succ n => omega
    | zero =>
      have e := h.2
      have : ∀ ms : List Nat, (∀ l ∈ ms, l ≤ 0) → (ms.map fun l => 2 ^ (0 - l)).sum = ms.length := by
        intro ms
        induction ms with
        | nil => intro _; rfl
        | cons a r ih =>
          intro hm
          rw [List.map_cons, List.sum_cons, ih fun l hl => hm l (List.mem_cons_of_mem _ hl)]
          simp only [Nat.zero_sub, Nat.pow_zero, List.length_cons]
          omega
      rw [this ls h.1] at e
      omega
  refine ⟨?_, d1⟩
  have p := parity D ls h.1
  rw [h.2] at p
  have e : D = (D - 1) + 1 := by omega
  have q := pow_odd_even (D - 1)
  rw [← e] at q
  have c : 0 < ls.count D := List.count_pos_iff.mpr hD
  omega

/-! ### least: no full code costs less -/
/-- counts with lengths -/
abbrev Pr := List (Int × Nat)
def costP (P : Pr) : Int := (P.map fun p => p.1 * (p.2 : Int)).sum
theorem costP_cons (p : Int × Nat) (P : Pr) : costP (p :: P) = p.1 * (p.2 : Int) + costP P := by
  unfold costP
  rw [List.map_cons, List.sum_cons]
theorem costP_perm {P Q : Pr} (h : P.Perm Q) : costP P = costP Q := sum_perm (h.map _)
theorem pair_of {P : Pr} {x : Int} {r : List Int} (h : (P.map (·.1)).Perm (x :: r)) : ∃ a Q, P.Perm ((x, a) :: Q) ∧ (Q.map (·.1)).Perm r := by
  have hx : x ∈ P.map (·.1) := h.mem_iff.mpr (List.mem_cons_self ..)
  obtain ⟨⟨x', a⟩, hp, e⟩ := List.mem_map.mp hx
  dsimp only at e
  subst e
  obtain ⟨s, t, e⟩ := List.append_of_mem hp
  have p1 : P.Perm ((x', a) :: (s ++ t)) := by
    rw [e]
    exact List.perm_middle
  refine ⟨a, s ++ t, p1, ?_⟩
  have p2 := (p1.map (·.1)).symm.trans h
  rw [List.map_cons] at p2
  exact p2.cons_inv
theorem pair_len {Q : Pr} {D : Nat} (h : D ∈ Q.map (·.2)) : ∃ z Q', Q.Perm ((z, D) :: Q') := by
  obtain ⟨⟨z, d⟩, hp, e⟩ := List.mem_map.mp h
  dsimp only at e
  subst e
  obtain ⟨s, t, e⟩ := List.append_of_mem hp
  exact ⟨z, s ++ t, by rw [e]; exact List.perm_middle⟩
/-- the least count is put to a longest word: the cost does not grow -/
theorem swap_deep {x : Int} {a D : Nat} {Q : Pr} (hx : ∀ q ∈ Q, x ≤ q.1) (ha : a ≤ D) (hD : a = D ∨ D ∈ Q.map (·.2)) :
    ∃ Q' : Pr, (Q'.map (·.1)).Perm (Q.map (·.1)) ∧ (D :: Q'.map (·.2)).Perm (a :: Q.map (·.2)) ∧ x * (D : Int) + costP Q' ≤ x * (a : Int) + costP Q := by
  by_cases e : a = D
  · subst e
    exact ⟨Q, List.Perm.refl _, List.Perm.refl _, Int.le_refl _⟩
  · have hD' := hD.resolve_left e
    obtain ⟨z, Q2, p⟩ := pair_len hD'
    have hz : x ≤ z := hx (z, D) (p.mem_iff.mpr (List.mem_cons_self ..))
    refine ⟨(z, a) :: Q2, ?_, ?_, ?_⟩
    · exact (p.map (·.1)).symm
    · have pm : (Q.map (·.2)).Perm (D :: Q2.map (·.2)) := p.map (·.2)
      exact (List.Perm.swap _ _ _).trans (pm.symm.cons a)
    · rw [costP_perm p, costP_cons, costP_cons]
      dsimp only
      obtain ⟨k, hk⟩ : ∃ k : Nat, D = a + k := ⟨D - a, by omega⟩
      obtain ⟨j, hj⟩ : ∃ j : Int, z = x + j := ⟨z - x, by omega⟩
      have h0 : 0 ≤ j * (k : Int) := Int.mul_nonneg (by omega) (Int.natCast_nonneg k)
      subst hk hj
      simp only [Int.natCast_add, Int.mul_add, Int.add_mul]
      omega
theorem least_le {R ws : List Int} (h : Joins R ws) : ∀ {P : Pr} {D : Nat}, (P.map (·.1)).Perm R → (∀ c ∈ R, 0 ≤ c) → Full D (P.map (·.2)) → ws.sum ≤ costP P := by
  induction h with
  | done hl =>
    intro P D p h0 _
    show (0 : Int) ≤ costP P
    have : ∀ Q : Pr, (∀ q ∈ Q, 0 ≤ q.1) → 0 ≤ costP Q := by
      intro Q
      induction Q with
      | nil => intro _; exact Int.le_refl _
      | cons q Q ih =>
        intro hq
        rw [costP_cons]
        have a := ih fun r hr => hq r (List.mem_cons_of_mem _ hr)
        have b : 0 ≤ q.1 * (q.2 : Int) := Int.mul_nonneg (hq q (List.mem_cons_self ..)) (Int.natCast_nonneg _)
        omega
    exact this P fun q hq => h0 _ (p.mem_iff.mp (List.mem_map.mpr ⟨q, hq, rfl⟩))
  | @step R r ws x y q h1 h2 t ih =>
    intro P D p h0 hF
    obtain ⟨D', hD1, hF', hD'⟩ := hF.top
    have len2 : 2 ≤ (P.map (·.2)).length := by
      have e := (p.trans q).length_eq
      simp only [List.length_map, List.length_cons] at e ⊢
      omega
    obtain ⟨c2, d1⟩ := hF'.two hD' len2
    obtain ⟨a, Q, pa, pQ⟩ := pair_of (p.trans q)
    have xQ : ∀ u ∈ Q, x ≤ u.1 := fun u hu => by
      rcases List.mem_cons.mp (pQ.mem_iff.mp (List.mem_map.mpr ⟨u, hu, rfl⟩)) with e | e
      · omega
      · have := h2 _ e
        omega
    have pl := pa.map (·.2)
    rw [List.map_cons] at pl
    have aD : a ≤ D' := hF'.1 a (pl.mem_iff.mpr (List.mem_cons_self ..))
    have dm : a = D' ∨ D' ∈ Q.map (·.2) := by
      rcases List.mem_cons.mp (pl.mem_iff.mp hD') with e | e
      · exact .inl e.symm
      · exact .inr e
    obtain ⟨Q1, q1, q2, q3⟩ := swap_deep xQ aD dm
    obtain ⟨b, Q2, pb, pQ2⟩ := pair_of (q1.trans pQ)
    have yQ : ∀ u ∈ Q2, y ≤ u.1 := fun u hu => h2 _ (pQ2.mem_iff.mp (List.mem_map.mpr ⟨u, hu, rfl⟩))
    have pl2 := pb.map (·.2)
    rw [List.map_cons] at pl2
    have pall : (P.map (·.2)).Perm (D' :: b :: Q2.map (·.2)) := (pl.trans q2.symm).trans (pl2.cons D')
    have bD : b ≤ D' := hF'.1 b (pall.mem_iff.mpr (List.mem_cons_of_mem _ (List.mem_cons_self ..)))
    have dm2 : b = D' ∨ D' ∈ Q2.map (·.2) := by
      have e := pall.count_eq D'
      rw [List.count_cons, beq_self_eq_true, if_pos rfl] at e
      have : 0 < (b :: Q2.map (·.2)).count D' := by omega
      rcases List.mem_cons.mp (List.count_pos_iff.mp this) with e | e
      · exact .inl e.symm
      · exact .inr e
    obtain ⟨Q3, q4, q5, q6⟩ := swap_deep yQ bD dm2
    have hF2 : Full D' (D' :: D' :: Q3.map (·.2)) := hF'.perm (pall.trans (q5.symm.cons D'))
    have hF3 : Full D' ((D' - 1) :: Q3.map (·.2)) := by
      refine ⟨fun l hl => ?_, ?_⟩
      · rcases List.mem_cons.mp hl with e | e
        · omega
        · exact hF2.1 l (List.mem_cons_of_mem _ (List.mem_cons_of_mem _ e))
      · have e := hF2.2
        rw [List.map_cons, List.map_cons, List.sum_cons, List.sum_cons] at e
        rw [List.map_cons, List.sum_cons]
        have e1 : D' - (D' - 1) = 1 := by omega
        rw [e1]
        rw [Nat.sub_self] at e
        omega
    have g := ih (P := (x + y, D' - 1) :: Q3) (D := D') ((q4.trans pQ2).cons (x + y)) (fun c hc => by
      have hx : 0 ≤ x := h0 x (q.mem_iff.mpr (List.mem_cons_self ..))
      have hy : 0 ≤ y := h0 y (q.mem_iff.mpr (List.mem_cons_of_mem _ (List.mem_cons_self ..)))
      rcases List.mem_cons.mp hc with e | e
      · omega
      · exact h0 c (q.mem_iff.mpr (List.mem_cons_of_mem _ (List.mem_cons_of_mem _ e)))) hF3
    rw [costP_cons] at g
    rw [costP_perm pa, costP_cons, List.sum_cons]
    rw [costP_perm pb, costP_cons] at q3
    dsimp only at g q3 ⊢
    obtain ⟨k, hk⟩ : ∃ k : Nat, D' = k + 1 := ⟨D' - 1, by omega⟩
    subst hk
    simp only [Nat.add_sub_cancel, Int.natCast_add, Int.mul_add, Int.add_mul] at g q3 q6 ⊢
    simp only [Int.natCast_one, Int.mul_one] at g q3 q6
    omega
/-- no full code costs less than L -/
theorem L_le {R : List Int} {P : Pr} {D : Nat} (p : (P.map (·.1)).Perm R) (h0 : ∀ c ∈ R, 0 ≤ c) (hF : Full D (P.map (·.2))) : L R ≤ costP P := by
  obtain ⟨ws, j, e⟩ := L_lst R
  rw [e]
  exact least_le j p h0 hF
end M38

/-! The two queues; heights. -/
namespace M38

abbrev Nd := List (Int × Nat)
abbrev Stp := List (Nat × Nat × Int)
/-- nodes (weight, number) are joined; the next number is id; the steps -/
inductive JoinsN : Nat → Nd → Stp → Prop
  | done {id : Nat} {N : Nd} (h : N.length ≤ 1) : JoinsN id N []
  | step {id i j : Nat} {x y : Int} {N r : Nd} {ss : Stp} (p : N.Perm ((x, i) :: (y, j) :: r)) (h1 : x ≤ y) (h2 : ∀ z ∈ r, y ≤ z.1) (t : JoinsN (id + 1) ((x + y, id) :: r) ss) : JoinsN id N ((i, j, x + y) :: ss)
theorem JoinsN.perm {id : Nat} {N M : Nd} {ss : Stp} (h : JoinsN id N ss) (p : N.Perm M) : JoinsN id M ss := by
  cases h with
  | done hl => exact .done (by rw [← p.length_eq]; exact hl)
  | step q h1 h2 t => exact .step (p.symm.trans q) h1 h2 t
theorem JoinsN.joins {id : Nat} {N : Nd} {ss : Stp} (h : JoinsN id N ss) : Joins (N.map (·.1)) (ss.map (·.2.2)) := by
  induction h with
  | done hl => exact .done (by rw [List.length_map]; exact hl)
  | step q h1 h2 t ih =>
    refine .step (q.map (·.1)) h1 (fun z hz => ?_) ih
    obtain ⟨p, hp, e⟩ := List.mem_map.mp hz
    rw [← e]
    exact h2 p hp
theorem JoinsN.len {id : Nat} {N : Nd} {ss : Stp} (h : JoinsN id N ss) : ss.length = N.length - 1 := by
  induction h with
  | done hl => simp only [List.length_nil]; omega
  | step q h1 h2 t ih =>
    have e := q.length_eq
    simp only [List.length_cons] at e ih ⊢
    omega

/-! ### heights -/
def hts : Nat → Stp → Nat → Nat
  | _, [], _ => 0
  | id, (i, j, _) :: ss, v => if v = i ∨ v = j then hts (id + 1) ss id + 1 else hts (id + 1) ss v
theorem hts_cons (id i j : Nat) (w : Int) (ss : Stp) (v : Nat) : hts id ((i, j, w) :: ss) v = if v = i ∨ v = j then hts (id + 1) ss id + 1 else hts (id + 1) ss v := rfl
def child (ss : Stp) (v : Nat) : Prop := ∃ s ∈ ss, v = s.1 ∨ v = s.2.1
theorem hts_no : ∀ {id : Nat} {ss : Stp} {v : Nat}, ¬ child ss v → hts id ss v = 0
  | _, [], _, _ => rfl
  | id, (i, j, w) :: ss, v, h => by
    have h1 : ¬ (v = i ∨ v = j) := fun e => h ⟨_, List.mem_cons_self .., e⟩
    have h2 : ¬ child ss v := fun ⟨s, hs, e⟩ => h ⟨s, List.mem_cons_of_mem _ hs, e⟩
    rw [hts_cons, if_neg h1]
    exact hts_no h2
theorem hts_le : ∀ (id : Nat) (ss : Stp) (v : Nat), hts id ss v ≤ ss.length
  | _, [], _ => Nat.le_refl _
  | id, (i, j, w) :: ss, v => by
    rw [hts_cons]
    have a := hts_le (id + 1) ss id
    have b := hts_le (id + 1) ss v
    rw [List.length_cons]
    split <;> omega
theorem full_split {D h : Nat} {ls : List Nat} (f : Full D (h :: ls)) : Full (D + 1) ((h + 1) :: (h + 1) :: ls) := by
  have hl := f.1 h (List.mem_cons_self ..)
  refine ⟨fun l hm => ?_, ?_⟩
  · rcases List.mem_cons.mp hm with e | hm
    · omega
    · rcases List.mem_cons.mp hm with e | hm
      · omega
      · have := f.1 l (List.mem_cons_of_mem _ hm)
        omega
  · have e := f.2
    rw [List.map_cons, List.sum_cons] at e
    rw [List.map_cons, List.map_cons, List.sum_cons, List.sum_cons, sum_half D ls fun l hm => f.1 l (List.mem_cons_of_mem _ hm), Nat.pow_succ]
    have e1 : D + 1 - (h + 1) = D - h := by omega
    rw [e1]
    omega
theorem JoinsN.heights {id : Nat} {N : Nd} {ss : Stp} (h : JoinsN id N ss) : N ≠ [] → (N.map (·.2)).Nodup → (∀ p ∈ N, p.2 < id) →
    Full ss.length (N.map fun p => hts id ss p.2) ∧ (N.map fun p => p.1 * (hts id ss p.2 : Int)).sum = (ss.map (·.2.2)).sum ∧ (2 ≤ N.length → ∀ p ∈ N, child ss p.2 ∧ 1 ≤ hts id ss p.2) := by
  induction h with
  | @done id N hl =>
    intro ne _ _
    match N, ne, hl with
    | [p], _, _ =>
      refine ⟨⟨fun l hm => ?_, rfl⟩, ?_, fun h2 => ?_⟩
      · have : l = 0 := by simpa [hts] using hm
        omega
      · simp [hts]
      · simp at h2
  | @step id i j x y N r ss q h1 h2 t ih =>
    intro _ nd lt
    have q2 : (N.map (·.2)).Perm (i :: j :: r.map (·.2)) := q.map (·.2)
    have nd2 := q2.nodup_iff.mp nd
    rw [List.nodup_cons, List.nodup_cons] at nd2
    obtain ⟨ni, nj, nr⟩ := nd2
    have lt2 : ∀ p ∈ ((x, i) :: (y, j) :: r : Nd), p.2 < id := fun p hp => lt p (q.mem_iff.mpr hp)
    have li : i < id := lt2 (x, i) (List.mem_cons_self ..)
    have lj : j < id := lt2 (y, j) (List.mem_cons_of_mem _ (List.mem_cons_self ..))
    have lr : ∀ p ∈ r, p.2 < id := fun p hp => lt2 p (List.mem_cons_of_mem _ (List.mem_cons_of_mem _ hp))
    have nid : id ∉ r.map (·.2) := fun hm => by
      obtain ⟨p, hp, e⟩ := List.mem_map.mp hm
      have := lr p hp
      omega
    obtain ⟨f, s, c⟩ := ih (by simp) (by rw [List.map_cons, List.nodup_cons]; exact ⟨nid, nr⟩) (fun p hp => by
      rcases List.mem_cons.mp hp with e | hp
      · rw [e]
        exact Nat.lt_succ_self _
      · exact Nat.lt_succ_of_lt (lr p hp))
    have hi : hts id ((i, j, x + y) :: ss) i = hts (id + 1) ss id + 1 := by
      rw [hts_cons, if_pos (.inl rfl)]
    have hj : hts id ((i, j, x + y) :: ss) j = hts (id + 1) ss id + 1 := by
      rw [hts_cons, if_pos (.inr rfl)]
    have hr : ∀ p ∈ r, hts id ((i, j, x + y) :: ss) p.2 = hts (id + 1) ss p.2 := fun p hp => by
      have n1 : ¬ (p.2 = i ∨ p.2 = j) := by
        rintro (e | e)
        · exact ni (List.mem_cons_of_mem _ (List.mem_map.mpr ⟨p, hp, e⟩))
        · exact nj (List.mem_map.mpr ⟨p, hp, e⟩)
      rw [hts_cons, if_neg n1]
    rw [List.map_cons] at f
    rw [List.map_cons, List.sum_cons] at s
    have e1 : r.map (fun p => hts id ((i, j, x + y) :: ss) p.2) = r.map (fun p => hts (id + 1) ss p.2) := List.map_congr_left hr
    have e2 : r.map (fun p => p.1 * (hts id ((i, j, x + y) :: ss) p.2 : Int)) = r.map (fun p => p.1 * (hts (id + 1) ss p.2 : Int)) := List.map_congr_left fun p hp => by rw [hr p hp]
    refine ⟨?_, ?_, fun _ p hp => ?_⟩
    · refine (full_split f).perm ?_
      have g := (q.map fun p => hts id ((i, j, x + y) :: ss) p.2).symm
      rw [List.map_cons, List.map_cons, hi, hj, e1] at g
      exact g
    · rw [sum_perm (q.map _), List.map_cons, List.map_cons, List.sum_cons, List.sum_cons, hi, hj, e2, List.map_cons, List.sum_cons, ← s]
      dsimp only
      simp only [Int.natCast_add, Int.mul_add, Int.add_mul, Int.natCast_one, Int.mul_one]
      omega
    · have hp2 := q.mem_iff.mp hp
      rcases List.mem_cons.mp hp2 with e | hp2
      · rw [e]
        refine ⟨⟨_, List.mem_cons_self .., .inl rfl⟩, ?_⟩
        rw [hi]
        omega
      · rcases List.mem_cons.mp hp2 with e | hp2
        · rw [e]
          refine ⟨⟨_, List.mem_cons_self .., .inr rfl⟩, ?_⟩
          rw [hj]
          omega
        · have l2 : 2 ≤ ((x + y, id) :: r).length := by
            have := List.length_pos_of_mem hp2
            rw [List.length_cons]
            omega
          obtain ⟨⟨st, hs, e⟩, c2⟩ := c l2 p (List.mem_cons_of_mem _ hp2)
          refine ⟨⟨st, List.mem_cons_of_mem _ hs, e⟩, ?_⟩
          rw [hr p hp2]
          exact c2

/-! ### the two queues -/
/-- the made nodes: weight, number -/
def madeN (n : Nat) : Stp → Nd
  | [] => []
  | (_, _, w) :: ss => (w, n) :: madeN (n + 1) ss
theorem madeN_len : ∀ (n : Nat) (ss : Stp), (madeN n ss).length = ss.length
  | _, [] => rfl
  | n, (_, _, _) :: ss => by
    unfold madeN
    rw [List.length_cons, List.length_cons, madeN_len (n + 1) ss]
theorem madeN_snoc : ∀ (n : Nat) (ss : Stp) (s : Nat × Nat × Int), madeN n (ss ++ [s]) = madeN n ss ++ [(s.2.2, n + ss.length)]
  | n, [], (_, _, _) => rfl
  | n, (a, b, w) :: ss, s => by
    show (w, n) :: madeN (n + 1) (ss ++ [s]) = (w, n) :: (madeN (n + 1) ss ++ _)
    rw [madeN_snoc (n + 1) ss s, List.length_cons]
    have e : n + 1 + ss.length = n + (ss.length + 1) := by omega
    rw [e]
theorem madeN_get : ∀ {n : Nat} {ss : Stp} {k : Nat} {s : Nat × Nat × Int}, ss[k]? = some s → (madeN n ss)[k]? = some (s.2.2, n + k)
  | n, [], k, s, h => by simp at h
  | n, (a, b, w) :: ss, 0, s, h => by
    have e : (a, b, w) = s := by simpa using h
    rw [← e]
    rfl
  | n, (a, b, w) :: ss, k + 1, s, h => by
    have h' : ss[k]? = some s := by simpa using h
    have g := madeN_get (n := n + 1) h'
    show (madeN (n + 1) ss)[k]? = _
    rw [g]
    have e : n + 1 + k = n + (k + 1) := by omega
    rw [e]

/-- what is left of both queues -/
abbrev remN (AA BB : Nd) (a f : Nat) : Nd := AA.drop a ++ BB.drop f
theorem drop_get {α : Type} {l : List α} {k : Nat} {x : α} (h : l[k]? = some x) : l.drop k = x :: l.drop (k + 1) := by
  obtain ⟨h1, h2⟩ := List.getElem?_eq_some_iff.mp h
  rw [← h2]
  exact List.drop_eq_getElem_cons h1
/-- what picking the lesser front gives: from the signs -/
theorem pick_sign {AA BB : Nd} {a f i : Nat} {x : Int} (sA : AA.Pairwise fun p q => p.1 ≤ q.1) (sB : BB.Pairwise fun p q => p.1 ≤ q.1) (hx : AA[a]? = some (x, i)) (hb : f = BB.length ∨ ∃ q, BB[f]? = some q ∧ x ≤ q.1) :
    (remN AA BB a f).Perm ((x, i) :: remN AA BB (a + 1) f) ∧ ∀ p ∈ remN AA BB (a + 1) f, x ≤ p.1 := by
  have e := drop_get hx
  refine ⟨by unfold remN; rw [e]; exact List.Perm.refl _, fun p hp => ?_⟩
  rcases List.mem_append.mp hp with hp | hp
  · have s := sA.drop (i := a)
    rw [e, List.pairwise_cons] at s
    exact s.1 p hp
  · rcases hb with hb | ⟨q, hq, hxq⟩
    · rw [hb, List.drop_length] at hp
      cases hp
    · have e2 := drop_get hq
      have s := sB.drop (i := f)
      rw [e2, List.pairwise_cons] at s
      rw [e2] at hp
      rcases List.mem_cons.mp hp with e | hp
      · rw [e]
        exact hxq
      · have := s.1 p hp
        omega
/-- from the made ones -/
theorem pick_made {AA BB : Nd} {a f i : Nat} {x : Int} (sA : AA.Pairwise fun p q => p.1 ≤ q.1) (sB : BB.Pairwise fun p q => p.1 ≤ q.1) (hx : BB[f]? = some (x, i)) (hb : a = AA.length ∨ ∃ q, AA[a]? = some q ∧ x ≤ q.1) :
    (remN AA BB a f).Perm ((x, i) :: remN AA BB a (f + 1)) ∧ ∀ p ∈ remN AA BB a (f + 1), x ≤ p.1 := by
  have e := drop_get hx
  refine ⟨by unfold remN; rw [e]; exact List.perm_middle, fun p hp => ?_⟩
  rcases List.mem_append.mp hp with hp | hp
  · rcases hb with hb | ⟨q, hq, hxq⟩
    · rw [hb, List.drop_length] at hp
      cases hp
    · have e2 := drop_get hq
      have s := sA.drop (i := a)
      rw [e2, List.pairwise_cons] at s
      rw [e2] at hp
      rcases List.mem_cons.mp hp with e | hp
      · rw [e]
        exact hxq
      · have := s.1 p hp
        omega
  · have s := sB.drop (i := f)
    rw [e, List.pairwise_cons] at s
    exact s.1 p hp

/-- between two turns of the outer loop -/
structure Two (AA : Nd) (t a f : Nat) (made : Stp) : Prop where
  len : made.length = t
  sum : a + f = 2 * t
  ale : a ≤ AA.length
  fle : f ≤ t
  lo : ∃ m : Int, 0 ≤ m ∧ (∀ p ∈ remN AA (madeN AA.length made) a f, m ≤ p.1) ∧ ∀ p ∈ madeN AA.length made, p.1 ≤ 2 * m
  srt : (madeN AA.length made).Pairwise fun p q => p.1 ≤ q.1
  go : ∀ rest, JoinsN (AA.length + t) (remN AA (madeN AA.length made) a f) rest → JoinsN AA.length AA (made ++ rest)
/-- within a turn: what was picked -/
structure Pk (AA : Nd) (made : Stp) (a0 f0 : Nat) (pk : Nd) (a f : Nat) : Prop where
  sum : a + f = a0 + f0 + pk.length
  ale : a ≤ AA.length
  fle : f ≤ made.length
  perm : (remN AA (madeN AA.length made) a0 f0).Perm (pk ++ remN AA (madeN AA.length made) a f)
  srt : pk.Pairwise fun p q => p.1 ≤ q.1
  lo : ∀ p ∈ pk, ∀ q ∈ remN AA (madeN AA.length made) a f, p.1 ≤ q.1
theorem Two.start {AA : Nd} (h0 : ∀ p ∈ AA, 0 ≤ p.1) : Two AA 0 0 0 [] where
  len := rfl
  sum := rfl
  ale := Nat.zero_le _
  fle := Nat.le_refl _
  lo := by
    refine ⟨0, Int.le_refl _, fun p hp => ?_, fun p hp => ?_⟩
    · rcases List.mem_append.mp hp with hp | hp
      · exact h0 p hp
      · cases hp
    · cases hp
  srt := List.Pairwise.nil
  go := fun rest h => by
    have e : remN AA (madeN AA.length []) 0 0 = AA := by
      unfold remN madeN
      simp
    rw [e] at h
    exact h
theorem Pk.start {AA : Nd} {made : Stp} {t a f : Nat} (w : Two AA t a f made) : Pk AA made a f [] a f :=
  ⟨rfl, w.ale, by rw [w.len]; exact w.fle, List.Perm.refl _, List.Pairwise.nil, fun p hp => by cases hp⟩
theorem Pk.push {AA : Nd} {made : Stp} {a0 f0 a f a' f' i : Nat} {pk : Nd} {x : Int} (w : Pk AA made a0 f0 pk a f) (hs : a' + f' = a + f + 1) (ha : a' ≤ AA.length) (hf : f' ≤ made.length)
    (hp : (remN AA (madeN AA.length made) a f).Perm ((x, i) :: remN AA (madeN AA.length made) a' f')) (hl : ∀ p ∈ remN AA (madeN AA.length made) a' f', x ≤ p.1) : Pk AA made a0 f0 (pk ++ [(x, i)]) a' f' where
  sum := by rw [List.length_append, List.length_singleton]; have := w.sum; omega
  ale := ha
  fle := hf
  perm := by
    rw [List.append_assoc]
    exact w.perm.trans (hp.append_left pk)
  srt := by
    rw [List.pairwise_append]
    refine ⟨w.srt, List.pairwise_singleton _ _, fun p hp' q hq => ?_⟩
    have e : q = (x, i) := by simpa using hq
    rw [e]
    exact w.lo p hp' (x, i) (hp.mem_iff.mpr (List.mem_cons_self ..))
  lo := fun p hp' q hq => by
    rcases List.mem_append.mp hp' with h | h
    · exact w.lo p h q (hp.mem_iff.mpr (List.mem_cons_of_mem _ hq))
    · have e : p = (x, i) := by simpa using h
      rw [e]
      exact hl q hq
theorem Two.turn {AA : Nd} {t a f a' f' i j : Nat} {made : Stp} {x y : Int} (w : Two AA t a f made) (k : Pk AA made a f [(x, i), (y, j)] a' f') : Two AA (t + 1) a' f' (made ++ [(i, j, x + y)]) := by
  obtain ⟨m, m0, m1, m2⟩ := w.lo
  have lenM : (madeN AA.length made).length = t := by rw [madeN_len, w.len]
  have fl : f' ≤ (madeN AA.length made).length := by rw [madeN_len]; exact k.fle
  have hxy : x ≤ y := by
    have s := k.srt
    rw [List.pairwise_cons] at s
    exact s.1 _ (List.mem_cons_self ..)
  have hx : m ≤ x := m1 (x, i) (k.perm.mem_iff.mpr (List.mem_cons_self ..))
  have eM : madeN AA.length (made ++ [(i, j, x + y)]) = madeN AA.length made ++ [(x + y, AA.length + t)] := by rw [madeN_snoc, w.len]
  have eR : remN AA (madeN AA.length (made ++ [(i, j, x + y)])) a' f' = remN AA (madeN AA.length made) a' f' ++ [(x + y, AA.length + t)] := by
    unfold remN
    rw [eM, List.drop_append_of_le_length fl, List.append_assoc]
  have rest_lo : ∀ p ∈ remN AA (madeN AA.length made) a' f', y ≤ p.1 := fun p hp => k.lo (y, j) (by simp) p hp
  refine ⟨by rw [List.length_append, w.len]; rfl, by have := k.sum; have := w.sum; simp only [List.length_cons, List.length_nil] at *; omega, k.ale, by have := k.fle; rw [w.len] at this; omega, ⟨y, by omega, fun p hp => ?_, fun p hp => ?_⟩, ?_, fun rest h => ?_⟩
  · rw [eR] at hp
    rcases List.mem_append.mp hp with hp | hp
    · exact rest_lo p hp
    · have e : p = (x + y, AA.length + t) := by simpa using hp
      rw [e]
      show y ≤ x + y
      omega
  · rw [eM] at hp
    rcases List.mem_append.mp hp with hp | hp
    · have := m2 p hp
      omega
    · have e : p = (x + y, AA.length + t) := by simpa using hp
      rw [e]
      show x + y ≤ 2 * y
      omega
  · rw [eM, List.pairwise_append]
    refine ⟨w.srt, List.pairwise_singleton _ _, fun p hp q hq => ?_⟩
    have e : q = (x + y, AA.length + t) := by simpa using hq
    have := m2 p hp
    rw [e]
    show p.1 ≤ x + y
    omega
  · rw [List.append_assoc]
    refine w.go _ (.step k.perm hxy rest_lo ?_)
    refine h.perm ?_
    rw [eR]
    exact List.perm_append_singleton _ _
theorem Two.done {AA : Nd} {t a f : Nat} {made : Stp} (w : Two AA t a f made) (ht : AA.length ≤ t + 1) : JoinsN AA.length AA made := by
  have e := w.go [] (.done (by
    unfold remN
    rw [List.length_append, List.length_drop, List.length_drop, madeN_len, w.len]
    have := w.sum
    have := w.ale
    have := w.fle
    omega))
  rw [List.append_nil] at e
  exact e
/-- something is left to be picked -/
theorem Two.some {AA : Nd} {t a f : Nat} {made : Stp} {pk : Nd} {a' f' : Nat} (w : Two AA t a f made) (k : Pk AA made a f pk a' f') (ht : t + 1 < AA.length) (hk : pk.length < 2) : a' < AA.length ∨ f' < made.length := by
  have := w.sum
  have := k.sum
  have := w.len
  have := k.ale
  have := k.fle
  omega
end M38

set_option Elab.async false
set_option linter.all false
set_option maxRecDepth 100000
set_option maxHeartbeats 4000000
/-! Calls by one bundle; what stays of a heap; data. -/
namespace K38
open PySem PySem.Spec PyProof.Rows L2

/-! ### a def that keeps its promise, under its name -/
structure Cal (P : Program) (w : World) (K : PySem.W.Frag) (mg : Str → Option Value) (base : Heap) (CX : CXT) (k : Nat) (x : Str) (ps : List Str) (sp : Sp) : Prop where
  ex : ∃ (f : Addr) (fd : FuncData), mg x = some (.ref f) ∧ PySem.W.keepIn K (.ref f) = true ∧ Binds K fd ps [] ∧ FnOk P w K mg base CX k f fd ps sp
abbrev FnP (K : PySem.W.Frag) (x : Str) (st : Stmt) : Prop := ∃ fd, FunD K x x (defArgs st) (defBody st) (defScope st) [] [] (He.ga K x) fd
section
variable {P : Program} {w : World} {K : PySem.W.Frag} {mg : Str → Option Value} {base : Heap} {x : Str} {st : Stmt} {N ps : List Str} {k : Nat} {sp : Sp}
/-- a def that lets nothing out -/
theorem cal_of (g : mg x = some (.ref (He.ga K x))) (F : FnP K x st) (S : FnScope N ps (defScope st))
    (hb : ∀ (kV doc pm : Value) (an : Option Addr) (cdv ct : Value) (us : List Value), us.length = ps.length → bindArgs (PySem.W.fnOf x x (defArgs st) (defBody st) (defScope st) .none kV doc pm an cdv ct) ⟨us, []⟩ = pure (ps.zip us))
    (len : ∀ vs H Q E, sp vs H Q E → vs.length = ps.length)
    (hbody : ∀ (fd : FuncData) (cdv : Value) (A : Around) (outer : List Env) (s : Shared) (H : Hp) (vs : List V) (Q : VK) (E : XK), Room k (A.deeper (envOfC x (defScope st) s.heap.objs.size (He.ga K x) cdv)) → sp vs H Q E →
      ∃ t, PSs (cxOf CX0 P w K mg base N x (defScope st) (He.ga K x) cdv A outer s H E).nox (defBody st) t ∧ t { nx := fun _ H' => Q .non H', rt := Q } (start N vs) H) : Cal P w K mg base CX0 (k + 1) x ps sp := by
  obtain ⟨fd, F⟩ := F
  refine ⟨_, fd, g, F.kp, F.bindsN hb, F.ok S len fun cdv A outer s H vs Q E hr hsp => ?_⟩
  obtain ⟨t, h, q⟩ := hbody fd cdv A outer s H vs Q E hr hsp
  exact ⟨t, h.nox, q⟩
/-- a def that may raise -/
theorem cal_ofX (g : mg x = some (.ref (He.ga K x))) (F : FnP K x st) (S : FnScope N ps (defScope st))
    (hb : ∀ (kV doc pm : Value) (an : Option Addr) (cdv ct : Value) (us : List Value), us.length = ps.length → bindArgs (PySem.W.fnOf x x (defArgs st) (defBody st) (defScope st) .none kV doc pm an cdv ct) ⟨us, []⟩ = pure (ps.zip us))
    (len : ∀ vs H Q E, sp vs H Q E → vs.length = ps.length)
    (hbody : ∀ (fd : FuncData) (cdv : Value) (A : Around) (outer : List Env) (s : Shared) (H : Hp) (vs : List V) (Q : VK) (E : XK), Room k (A.deeper (envOfC x (defScope st) s.heap.objs.size (He.ga K x) cdv)) → sp vs H Q E →
      ∃ t, PSs (cxOf (L2.CX P w) P w K mg base N x (defScope st) (He.ga K x) cdv A outer s H E) (defBody st) t ∧ t { nx := fun _ H' => Q .non H', rt := Q } (start N vs) H) : Cal P w K mg base (L2.CX P w) (k + 1) x ps sp := by
  obtain ⟨fd, F⟩ := F
  exact ⟨_, fd, g, F.kp, F.bindsN hb, F.ok S len fun cdv A outer s H vs Q E hr hsp => hbody fd cdv A outer s H vs Q E hr hsp⟩
theorem Cal.mono {CX : CXT} {j : Nat} (h : Cal P w K mg base CX j x ps sp) (e : j ≤ k) : Cal P w K mg base CX k x ps sp := by
  obtain ⟨f, fd, a, b, c, d⟩ := h
  exact ⟨f, fd, a, b, c, d.mono e⟩
end
section
variable {X : Cx} {CX : CXT} {k : Nat} {ps : List Str} {sp : Sp} {E : XK} {x : Str} {p pos : Pos} {e : Expr} {es : List Expr} {t : TA}
/-- f(e, ..) -/
theorem pe_cal (G : Cal X.prog X.w X.K X.mg X.base CX k x ps sp) (hr : Room k X.A) (hg : Gl X x) (hx : Passes CX X E) (ha : PA X (e :: es) t) (hdb : (x == ("__debug__" : Str)) = false := by decide)
    (he : starEach (e :: es) X.env = (false, eval e X.env) :: starEach es X.env := by rfl) (hpl : (backTo pos (starEach es X.env)).any (·.1) = false := by rfl) : PE X (.Call (.Name x p) (e :: es) [] pos) (tCall sp [] E t) := by
  refine ⟨fun pins s σ H Q I h => ?_⟩
  obtain ⟨f, fd, g, kp, b, F⟩ := G.ex
  exact (pe_call F hr hg g kp b .nil hx ha hdb he hpl).run pins s σ H Q I h
end

/-! ### what stays of a heap -/
/-- all but the object at p -/
def Px (p : Addr) (H H' : Hp) : Prop := ∀ b o, b ≠ p → H b = some o → H' b = some o
theorem Px.refl (p : Addr) (H : Hp) : Px p H H := fun _ _ _ h => h
theorem Px.trans {p : Addr} {H H1 H2 : Hp} (a : Px p H H1) (b : Px p H1 H2) : Px p H H2 := fun c o n h => b c o n (a c o n h)
theorem Px.of {p : Addr} {H H' : Hp} (s : Same H H') : Px p H H' := fun b o _ h => s b o h
theorem Px.upd {p : Addr} {H H' : Hp} {o : HO} (s : Px p H H') : Px p H (upd H' p o) := fun b u n h => by
  rw [upd_ne n]
  exact s b u n h
theorem _root_.L2.Same.new {H H' : Hp} {p : Addr} {o : HO} (s : Same H H') (h : H' p = none) : Same H (upd H' p o) := fun b u e => by
  rw [upd_ne (ne_of_none (s b u e) h)]
  exact s b u e
theorem same_new {H : Hp} {p : Addr} {o : HO} (h : H p = none) : Same H (upd H p o) := (Same.refl H).new h
/-- an object that the first heap does not know may change -/
theorem _root_.L2.Same.mut {H H' : Hp} {p : Addr} {o : HO} (s : Same H H') (h : H p = none) : Same H (upd H' p o) := fun b u e => by
  rw [upd_ne (ne_of_none e h)]
  exact s b u e
theorem _root_.L2.Same.tup {K : PySem.W.Frag} {H H' : Hp} {a : Addr} {xs : List V} (e : Same H H') (h : SqT K H a xs) : SqT K H' a xs := by
  rcases h with (h | ⟨o, h⟩) | h
  · exact .inl (.inl (e _ _ h))
  · exact .inl (.inr ⟨o, e _ _ h⟩)
  · exact .inr h
theorem rd_px {p a : Addr} {H H' : Hp} {u : HO} (e : Px p H H') (h : Rd H a u) (n : a ≠ p) : Rd H' a u := by
  rcases h with h | ⟨o, h⟩
  · exact .inl (e _ _ n h)
  · exact .inr ⟨o, e _ _ n h⟩
/-- a list or a tuple -/
def Seq (K : PySem.W.Frag) (H : Hp) (a : Addr) (xs : List V) : Prop := SqL K H a xs ∨ SqT K H a xs
theorem Seq.same {K : PySem.W.Frag} {H H' : Hp} {a : Addr} {xs : List V} (h : Seq K H a xs) (e : Same H H') : Seq K H' a xs := h.elim (fun h => .inl (e.seq h)) fun h => .inr (e.tup h)
theorem seq_at {K : PySem.W.Frag} {H : Hp} {a : Addr} {xs : List V} (h : H a = some (.lst xs)) : SqL K H a xs := .inl (.inl h)
theorem tup_at {K : PySem.W.Frag} {H : Hp} {a : Addr} {xs : List V} (h : H a = some (.tup xs)) : SqT K H a xs := .inl (.inl h)

/-- an item of a comprehension without a test -/
theorem yesI {A B : Hp → Prop} {σ : L2.St} {H : Hp} (h : A H) : tYes σ H (fun b H3 => if b = true then A H3 else B H3) := by
  show if true = true then A H else B H
  rw [if_pos rfl]
  exact h
theorem getI {ns : List Int} {i : Nat} {v : V} (h : (ns.map V.int)[i]? = some v) : ∃ n, ns[i]? = some n ∧ v = .int n := by
  rw [List.getElem?_map] at h
  cases e : ns[i]? with
  | none =>
    rw [e] at h
    cases h
  | some n =>
    rw [e] at h
    exact ⟨n, rfl, (Option.some.inj h).symm⟩
theorem getS {ns : List Str} {i : Nat} {v : V} (h : (ns.map V.str)[i]? = some v) : ∃ n, ns[i]? = some n ∧ v = .str n := by
  rw [List.getElem?_map] at h
  cases e : ns[i]? with
  | none =>
    rw [e] at h
    cases h
  | some n =>
    rw [e] at h
    exact ⟨n, rfl, (Option.some.inj h).symm⟩
theorem mapI {ns : List Int} {i : Nat} {n : Int} (h : ns[i]? = some n) : (ns.map V.int)[i]? = some (.int n) := by rw [List.getElem?_map, h]; rfl
theorem mapS {ns : List Str} {i : Nat} {n : Str} (h : ns[i]? = some n) : (ns.map V.str)[i]? = some (.str n) := by rw [List.getElem?_map, h]; rfl
theorem line_of {n : Nat} (h : n ≤ 1000) : n ≤ sizeLine := Nat.le_of_lt (small1000 h)
end K38

set_option Elab.async false
set_option linter.all false
set_option maxRecDepth 100000
/-! What the defs' proofs take of the program's top: printed by facts.py. -/
namespace K38
open PySem PySem.Spec PyProof.Rows L2
structure Tx (K : PySem.W.Frag) (mg : Str → Option Value) : Prop where
  b_len : mg "len" = none
  b_isinstance : mg "isinstance" = none
  b_int : mg "int" = none
  b_bool : mg "bool" = none
  b_str : mg "str" = none
  b_list : mg "list" = none
  b_tuple : mg "tuple" = none
  b_range : mg "range" = none
  b_enumerate : mg "enumerate" = none
  b_sorted : mg "sorted" = none
  b_all : mg "all" = none
  b_any : mg "any" = none
  b_zip : mg "zip" = none
  b_max : mg "max" = none
  b_min : mg "min" = none
  b_sum : mg "sum" = none
  b_abs : mg "abs" = none
  b_repr : mg "repr" = none
  g_is_count : mg "is_count" = some (.ref (He.ga K "is_count"))
  g_two_power : mg "two_power" = some (.ref (He.ga K "two_power"))
  g_check_signs : mg "check_signs" = some (.ref (He.ga K "check_signs"))
  g_check_counts : mg "check_counts" = some (.ref (He.ga K "check_counts"))
  g_bits_of : mg "bits_of" = some (.ref (He.ga K "bits_of"))
  g_canonical : mg "canonical" = some (.ref (He.ga K "canonical"))
  g_is_bits : mg "is_bits" = some (.ref (He.ga K "is_bits"))
  g_checked_words : mg "checked_words" = some (.ref (He.ga K "checked_words"))
  g_check_beginnings : mg "check_beginnings" = some (.ref (He.ga K "check_beginnings"))
  g_code_of : mg "code_of" = some (.ref (He.ga K "code_of"))
  g_check_pair : mg "check_pair" = some (.ref (He.ga K "check_pair"))
  g_cost_by : mg "cost_by" = some (.ref (He.ga K "cost_by"))
  g_joined_pairs : mg "joined_pairs" = some (.ref (He.ga K "joined_pairs"))
  g_least_of : mg "least_of" = some (.ref (He.ga K "least_of"))
  g_lengths_for : mg "lengths_for" = some (.ref (He.ga K "lengths_for"))
  g_is_least_for : mg "is_least_for" = some (.ref (He.ga K "is_least_for"))
  g_as_frozen : mg "as_frozen" = some (.ref (He.ga K "as_frozen"))
  g_check_rank : mg "check_rank" = some (.ref (He.ga K "check_rank"))
  g_is_sign_of : mg "is_sign_of" = some (.ref (He.ga K "is_sign_of"))
  g_parted_code : mg "parted_code" = some (.ref (He.ga K "parted_code"))
  g_put_prices : mg "put_prices" = some (.ref (He.ga K "put_prices"))
  g_grown_counts : mg "grown_counts" = some (.ref (He.ga K "grown_counts"))
  g_check_put : mg "check_put" = some (.ref (He.ga K "check_put"))
  g_put_counted : mg "put_counted" = some (.ref (He.ga K "put_counted"))
  g_kept_code : mg "kept_code" = some (.ref (He.ga K "kept_code"))
  g_can_put : mg "can_put" = some (.ref (He.ga K "can_put"))
  g_is_kept : mg "is_kept" = some (.ref (He.ga K "is_kept"))
  g_is_recoded : mg "is_recoded" = some (.ref (He.ga K "is_recoded"))
  g_l_pen_of : mg "_law_pen_of" = some (.ref (He.ga K "_law_pen_of"))
  g_l_draw : mg "_law_draw" = some (.ref (He.ga K "_law_draw"))
  g_l_pick : mg "_law_pick" = some (.ref (He.ga K "_law_pick"))
  g_l_shuffled : mg "_law_shuffled" = some (.ref (He.ga K "_law_shuffled"))
  g_l_some_code : mg "_law_some_code" = some (.ref (He.ga K "_law_some_code"))
  g_l_cost : mg "_law_cost" = some (.ref (He.ga K "_law_cost"))
  g_l_some_counts : mg "_law_some_counts" = some (.ref (He.ga K "_law_some_counts"))
  g_l_least : mg "_law_least" = some (.ref (He.ga K "_law_least"))
  g_l_words : mg "_law_words" = some (.ref (He.ga K "_law_words"))
  g_l_code : mg "_law_code" = some (.ref (He.ga K "_law_code"))
  g_l_near_counts : mg "_law_near_counts" = some (.ref (He.ga K "_law_near_counts"))
  g_l_met : mg "_law_met" = some (.ref (He.ga K "_law_met"))
  g_l_parted : mg "_law_parted" = some (.ref (He.ga K "_law_parted"))
  g_l_right_signs : mg "_law_right_signs" = some (.ref (He.ga K "_law_right_signs"))
  g_l_some_count : mg "_law_some_count" = some (.ref (He.ga K "_law_some_count"))
  g_l_are_papers : mg "_law_are_papers" = some (.ref (He.ga K "_law_are_papers"))
  g_l_are_refused : mg "_law_are_refused" = some (.ref (He.ga K "_law_are_refused"))
  g_law : mg "law" = some (.ref (He.ga K "law"))
  g_Code : mg "Code" = some (.ref (He.ga K "Code"))
  g_Kept : mg "Kept" = some (.ref (He.ga K "Kept"))
  g_Recoded : mg "Recoded" = some (.ref (He.ga K "Recoded"))
  mS : ∃ t, mg "MOST_SIGNS" = some (.int 2000 t)
  mL : ∃ t, mg "MOST_LENGTH" = some (.int 1999 t)
  cl_Code : Cls K (He.ga K "Code")
  mk_Code : Mk K (He.ga K "Code") (He.ma K (He.ga K "Code") "__init__")
  na_Code_lengths : NoAttr K (He.ga K "Code") "lengths"
  na_Code_words : NoAttr K (He.ga K "Code") "words"
  na_Code_size : NoAttr K (He.ga K "Code") "size"
  na_Code_longest : NoAttr K (He.ga K "Code") "longest"
  cl_Kept : Cls K (He.ga K "Kept")
  mk_Kept : Mk K (He.ga K "Kept") (He.ma K (He.ga K "Kept") "__init__")
  na_Kept_code : NoAttr K (He.ga K "Kept") "code"
  na_Kept_counts : NoAttr K (He.ga K "Kept") "counts"
  na_Kept_rank : NoAttr K (He.ga K "Kept") "rank"
  na_Kept_count : NoAttr K (He.ga K "Kept") "count"
  na_Kept_sign : NoAttr K (He.ga K "Kept") "sign"
  cl_Recoded : Cls K (He.ga K "Recoded")
  mk_Recoded : Mk K (He.ga K "Recoded") (He.ma K (He.ga K "Recoded") "__init__")
  na_Recoded_code : NoAttr K (He.ga K "Recoded") "code"
  na_Recoded_counts : NoAttr K (He.ga K "Recoded") "counts"
  na_Recoded_rank : NoAttr K (He.ga K "Recoded") "rank"
  na_Recoded_count : NoAttr K (He.ga K "Recoded") "count"
  na_Recoded_other : NoAttr K (He.ga K "Recoded") "other"
  me_Code : Meth K (He.ga K "Code") "__eq__" (He.ma K (He.ga K "Code") "__eq__")
  f_is_count : FnP K "is_count" s_is_count
  f_two_power : FnP K "two_power" s_two_power
  f_check_signs : FnP K "check_signs" s_check_signs
  f_check_counts : FnP K "check_counts" s_check_counts
  f_bits_of : FnP K "bits_of" s_bits_of
  f_canonical : FnP K "canonical" s_canonical
  f_is_bits : FnP K "is_bits" s_is_bits
  f_checked_words : FnP K "checked_words" s_checked_words
  f_check_beginnings : FnP K "check_beginnings" s_check_beginnings
  f_code_of : FnP K "code_of" s_code_of
  f_check_pair : FnP K "check_pair" s_check_pair
  f_cost_by : FnP K "cost_by" s_cost_by
  f_joined_pairs : FnP K "joined_pairs" s_joined_pairs
  f_least_of : FnP K "least_of" s_least_of
  f_lengths_for : FnP K "lengths_for" s_lengths_for
  f_is_least_for : FnP K "is_least_for" s_is_least_for
  f_as_frozen : FnP K "as_frozen" s_as_frozen
  f_check_rank : FnP K "check_rank" s_check_rank
  f_is_sign_of : FnP K "is_sign_of" s_is_sign_of
  f_parted_code : FnP K "parted_code" s_parted_code
  f_put_prices : FnP K "put_prices" s_put_prices
  f_grown_counts : FnP K "grown_counts" s_grown_counts
  f_check_put : FnP K "check_put" s_check_put
  f_put_counted : FnP K "put_counted" s_put_counted
  f_kept_code : FnP K "kept_code" s_kept_code
  f_can_put : FnP K "can_put" s_can_put
  f_is_kept : FnP K "is_kept" s_is_kept
  f_is_recoded : FnP K "is_recoded" s_is_recoded
  f_l_pen_of : FnP K "_law_pen_of" s_l_pen_of
  f_l_draw : FnP K "_law_draw" s_l_draw
  f_l_pick : FnP K "_law_pick" s_l_pick
  f_l_shuffled : FnP K "_law_shuffled" s_l_shuffled
  f_l_some_code : FnP K "_law_some_code" s_l_some_code
  f_l_cost : FnP K "_law_cost" s_l_cost
  f_l_some_counts : FnP K "_law_some_counts" s_l_some_counts
  f_l_least : FnP K "_law_least" s_l_least
  f_l_words : FnP K "_law_words" s_l_words
  f_l_code : FnP K "_law_code" s_l_code
  f_l_near_counts : FnP K "_law_near_counts" s_l_near_counts
  f_l_met : FnP K "_law_met" s_l_met
  f_l_parted : FnP K "_law_parted" s_l_parted
  f_l_right_signs : FnP K "_law_right_signs" s_l_right_signs
  f_l_some_count : FnP K "_law_some_count" s_l_some_count
  f_l_are_papers : FnP K "_law_are_papers" s_l_are_papers
  f_l_are_refused : FnP K "_law_are_refused" s_l_are_refused
  f_law : FnP K "law" s_law
  f_Code_init : ∃ fd, FunD K "__init__" "Code.__init__" (defArgs s_Code_init) (defBody s_Code_init) (defScope s_Code_init) [V.non] [] (He.ma K (He.ga K "Code") "__init__") fd
  f_Code_eq : ∃ fd, FunD K "__eq__" "Code.__eq__" (defArgs s_Code_eq) (defBody s_Code_eq) (defScope s_Code_eq) [] [] (He.ma K (He.ga K "Code") "__eq__") fd
  f_Kept_init : ∃ fd, FunD K "__init__" "Kept.__init__" (defArgs s_Kept_init) (defBody s_Kept_init) (defScope s_Kept_init) [] [] (He.ma K (He.ga K "Kept") "__init__") fd
  f_Recoded_init : ∃ fd, FunD K "__init__" "Recoded.__init__" (defArgs s_Recoded_init) (defBody s_Recoded_init) (defScope s_Recoded_init) [] [] (He.ma K (He.ga K "Recoded") "__init__") fd
  k0 : PySem.W.kitOne K (.ref (He.ga K "Code")) (.type "int") = some false
  k1 : PySem.W.kitOne K (.ref (He.ga K "Code")) (.type "bool") = some false
  k2 : PySem.W.kitOne K (.ref (He.ga K "Code")) (.type "str") = some false
  k3 : PySem.W.kitOne K (.ref (He.ga K "Code")) (.type "list") = some false
  k4 : PySem.W.kitOne K (.ref (He.ga K "Code")) (.type "tuple") = some false
  k5 : PySem.W.kitOne K (.type "NoneType") (.ref (He.ga K "Code")) = some false
  k6 : PySem.W.kitOne K (.type "int") (.ref (He.ga K "Code")) = some false
  k7 : PySem.W.kitOne K (.type "bool") (.ref (He.ga K "Code")) = some false
  k8 : PySem.W.kitOne K (.type "str") (.ref (He.ga K "Code")) = some false
  k9 : PySem.W.kitOne K (.type "list") (.ref (He.ga K "Code")) = some false
  k10 : PySem.W.kitOne K (.type "tuple") (.ref (He.ga K "Code")) = some false
  k11 : PySem.W.kitOne K (.ref (He.ga K "Recoded")) (.ref (He.ga K "Kept")) = some false
  k12 : PySem.W.kitOne K (.ref (He.ga K "Kept")) (.ref (He.ga K "Kept")) = some true
  k13 : PySem.W.kitOne K (.ref (He.ga K "Code")) (.ref (He.ga K "Code")) = some true
  cc_Code : PySem.W.findIn K (.ref (He.ga K "Code")) "__class__" = some (some (.builtin "object.__class__"))
  co_Code : PySem.W.mroIn K (He.ga K "Code") (.type "object") = some true
  cc_Kept : PySem.W.findIn K (.ref (He.ga K "Kept")) "__class__" = some (some (.builtin "object.__class__"))
  co_Kept : PySem.W.mroIn K (He.ga K "Kept") (.type "object") = some true
  cc_Recoded : PySem.W.findIn K (.ref (He.ga K "Recoded")) "__class__" = some (some (.builtin "object.__class__"))
  co_Recoded : PySem.W.mroIn K (He.ga K "Recoded") (.type "object") = some true
  cg : PySem.W.specialIn K (.builtin "object.__class__") "__get__" = some (some (.builtin "getset_descriptor.__get__"))
  ct : PySem.W.takesIn K (.builtin "object.__class__") = some true
end K38

set_option Elab.async false
set_option linter.all false
set_option maxRecDepth 100000
set_option maxHeartbeats 4000000
/-! Words of bits: none begins another one; parting. -/
namespace K38
open PySem PySem.Spec PyProof.Rows L2 M38

abbrev cl (z : Str) : List Nat := z.cps.toList
theorem cl_app (a b : Str) : cl (a ++ b) = cl a ++ cl b := by
  show (a.cps ++ b.cps).toList = _
  simp
theorem len_cl (z : Str) : z.length = (cl z).length := by simp [cl, Str.length]
theorem cl_inj {a b : Str} (h : cl a = cl b) : a = b := by
  cases a
  cases b
  simp only [cl] at h
  rw [Str.mk.injEq]
  exact Array.toList_inj.mp h
abbrev s0 : Str := "0"
abbrev s1 : Str := "1"
theorem cl0 : cl s0 = [48] := by decide +kernel
theorem cl1 : cl s1 = [49] := by decide +kernel
theorem starts_iff (a b : Str) : Txt.startswith a b = true ↔ cl b <+: cl a := by
  unfold Txt.startswith
  rw [StrLaws.subAt_eq, Bool.and_eq_true, decide_eq_true_eq, List.drop_zero, beq_iff_eq, len_cl, len_cl]
  constructor
  · rintro ⟨_, h⟩
    rw [List.prefix_iff_eq_take]
    exact h.symm
  · intro h
    refine ⟨by have := h.length_le; omega, (List.prefix_iff_eq_take.mp h).symm⟩
def Np (a b : Str) : Prop := ¬ cl a <+: cl b ∧ ¬ cl b <+: cl a
theorem Np.symm {a b : Str} (h : Np a b) : Np b a := ⟨h.2, h.1⟩
abbrev PF (ws : List Str) : Prop := ws.Pairwise Np
theorem PF.perm {ws vs : List Str} (h : PF ws) (p : ws.Perm vs) : PF vs := (p.pairwise_iff fun h => Np.symm h).mp h
def Bw (z : Str) : Prop := ∀ c ∈ cl z, c = 48 ∨ c = 49
theorem Bw.app {a b : Str} (h : Bw a) (g : Bw b) : Bw (a ++ b) := fun c hc => by
  rw [cl_app] at hc
  rcases List.mem_append.mp hc with e | e
  · exact h c e
  · exact g c e
theorem bw0 : Bw s0 := fun c hc => by
  rw [cl0] at hc
  exact .inl (by simpa using hc)
theorem bw1 : Bw s1 := fun c hc => by
  rw [cl1] at hc
  exact .inr (by simpa using hc)
theorem np_grow {w x t : Str} {c : Nat} (ht : cl t = [c]) (h : Np w x) : Np (w ++ t) x := by
  constructor
  · rw [cl_app]
    exact fun q => h.1 ((List.prefix_append _ _).trans q)
  · rw [cl_app, ht]
    intro q
    rcases List.prefix_concat_iff.mp q with e | e
    · exact h.1 (by rw [e]; exact List.prefix_append _ _)
    · exact h.2 e
theorem np_parted (w : Str) : Np (w ++ s0) (w ++ s1) := by
  constructor
  · rw [cl_app, cl_app, cl0, cl1]
    intro q
    have := q.eq_of_length (by simp)
    simp at this
  · rw [cl_app, cl_app, cl0, cl1]
    intro q
    have := q.eq_of_length (by simp)
    simp at this
theorem pf_split {w : Str} {r : List Str} (h : PF (w :: r)) : PF ((w ++ s0) :: (w ++ s1) :: r) := by
  rw [PF, List.pairwise_cons] at h
  rw [PF, List.pairwise_cons, List.pairwise_cons]
  refine ⟨fun x hx => ?_, fun x hx => np_grow cl1 (h.1 x hx), h.2⟩
  rcases List.mem_cons.mp hx with e | e
  · rw [e]
    exact np_parted w
  · exact np_grow cl0 (h.1 x e)
/-- the words of a full code -/
structure Wd (ws : List Str) : Prop where
  bits : ∀ w ∈ ws, Bw w
  pf : PF ws
  full : ∃ D, Full D (ws.map Str.length)
  two : 2 ≤ ws.length
  len : ∀ w ∈ ws, 1 ≤ w.length ∧ w.length + 1 ≤ ws.length
theorem Wd.perm {ws vs : List Str} (h : Wd ws) (p : ws.Perm vs) : Wd vs := by
  obtain ⟨D, f⟩ := h.full
  exact ⟨fun w hw => h.bits w (p.mem_iff.mpr hw), h.pf.perm p, ⟨D, f.perm (p.map _)⟩, by rw [← p.length_eq]; exact h.two, fun w hw => by rw [← p.length_eq]; exact h.len w (p.mem_iff.mpr hw)⟩
theorem len0 : s0.length = 1 := by decide +kernel
theorem len1 : s1.length = 1 := by decide +kernel
theorem len_app (a b : Str) : (a ++ b).length = a.length + b.length := by rw [len_cl, cl_app, List.length_append, ← len_cl, ← len_cl]
theorem Wd.start : Wd [s0, s1] := by
  refine ⟨fun w hw => ?_, ?_, ⟨1, ?_, ?_⟩, Nat.le_refl _, fun w hw => ?_⟩
  · rcases List.mem_cons.mp hw with e | e
    · rw [e]; exact bw0
    · have e : w = s1 := by simpa using e
      rw [e]; exact bw1
  · rw [PF, List.pairwise_cons]
    refine ⟨fun x hx => ?_, List.pairwise_singleton _ _⟩
    have e : x = s1 := by simpa using hx
    rw [e, Np, cl0, cl1]
    decide
  · rw [List.map_cons, List.map_cons, len0, len1]
    decide
  · show (([s0, s1] : List Str).map Str.length |>.map fun l => 2 ^ (1 - l)).sum = 2 ^ 1
    rw [show ([s0, s1] : List Str).map Str.length = [1, 1] by decide +kernel]
    decide
  · rcases List.mem_cons.mp hw with e | e
    · rw [e, len0]; decide
    · have e : w = s1 := by simpa using e
      rw [e, len1]; decide
theorem Wd.split {w : Str} {r : List Str} (h : Wd (w :: r)) : Wd ((w ++ s0) :: (w ++ s1) :: r) := by
  obtain ⟨D, f⟩ := h.full
  refine ⟨fun x hx => ?_, pf_split h.pf, ⟨D + 1, ?_⟩, by have := h.two; simp only [List.length_cons] at *; omega, fun x hx => ?_⟩
  · rcases List.mem_cons.mp hx with e | hx
    · rw [e]; exact (h.bits w (List.mem_cons_self ..)).app bw0
    · rcases List.mem_cons.mp hx with e | hx
      · rw [e]; exact (h.bits w (List.mem_cons_self ..)).app bw1
      · exact h.bits x (List.mem_cons_of_mem _ hx)
  · rw [List.map_cons, List.map_cons, len_app, len_app, len0, len1]
    exact full_split f
  · have l := h.len w (List.mem_cons_self ..)
    rcases List.mem_cons.mp hx with e | hx
    · rw [e, len_app, len0]
      simp only [List.length_cons] at *
      omega
    · rcases List.mem_cons.mp hx with e | hx
      · rw [e, len_app, len1]
        simp only [List.length_cons] at *
        omega
      · have := h.len x (List.mem_cons_of_mem _ hx)
        simp only [List.length_cons] at *
        omega

/-! ### a sign parted, the new one put in at a rank -/
def parted (ws : List Str) (i k : Nat) (w : Str) : List Str := (ws.set i (w ++ s0)).take k ++ [w ++ s1] ++ (ws.set i (w ++ s0)).drop k
def put {α : Type} (l : List α) (k : Nat) (x : α) : List α := l.take k ++ [x] ++ l.drop k
theorem put_perm {α : Type} (l : List α) (k : Nat) (x : α) : (put l k x).Perm (x :: l) := by
  unfold put
  rw [List.append_assoc]
  have h : (l.take k ++ x :: l.drop k).Perm (x :: (l.take k ++ l.drop k)) := List.perm_middle
  rw [List.take_append_drop] at h
  exact h
theorem put_len {α : Type} (l : List α) (k : Nat) (x : α) : (put l k x).length = l.length + 1 := (put_perm l k x).length_eq
theorem set_perm {α : Type} : ∀ {l : List α} {i : Nat} {x : α} (y : α), l[i]? = some x → ∃ r, l.Perm (x :: r) ∧ (l.set i y).Perm (y :: r)
  | [], i, x, y, h => by simp at h
  | a :: r, 0, x, y, h => by
    have e : a = x := by simpa using h
    exact ⟨r, by rw [e], List.Perm.refl _⟩
  | a :: r, i + 1, x, y, h => by
    obtain ⟨q, p1, p2⟩ := set_perm (l := r) (i := i) y (by simpa using h)
    exact ⟨a :: q, (p1.cons a).trans (List.Perm.swap _ _ _), (p2.cons a).trans (List.Perm.swap _ _ _)⟩
theorem parted_eq (ws : List Str) (i k : Nat) (w : Str) : parted ws i k w = put (ws.set i (w ++ s0)) k (w ++ s1) := rfl
theorem Wd.parted {ws : List Str} {i : Nat} {w : Str} (h : Wd ws) (k : Nat) (hw : ws[i]? = some w) : Wd (parted ws i k w) := by
  obtain ⟨r, p1, p2⟩ := set_perm (w ++ s0) hw
  refine ((h.perm p1).split).perm ?_
  rw [parted_eq]
  exact ((put_perm _ _ _).trans (p2.cons _)).symm.trans (List.Perm.refl _) |>.symm.symm |> fun p => (List.Perm.swap _ _ _).trans p
end K38

set_option Elab.async false
set_option linter.all false
set_option maxRecDepth 100000
set_option maxHeartbeats 4000000
/-! Further rules: zip of a list or a tuple with a list or a tuple, enumerate of a tuple. -/
namespace PySem
open Sem (wp)
open AutoSeq1 (wpAny_loadPart')
theorem meets_enumX {v : Value} {o : Obj} {H : Heap → Prop} (B : Begins v o H) :
    Meets (Builtin.«enumerate.__new__» ⟨[.type "enumerate", v], []⟩) (fun _ R s => H s.heap ∧ R (.ok (.ret (.ref (s.heap.push o).objs.size)))
      { s with heap := (s.heap.push o).push { cls := .type "enumerate", data := .fields #[.none, .bool false, .ref s.heap.objs.size, rawInt 0, .none, .none] } }) := .of_wp fun prog w A R s h => by
  obtain ⟨hp, g, d, tk, os⟩ := s
  obtain ⟨h1, h⟩ := h
  have sub := sub_enumerate
  have go : ∀ {A' : Around} {E : Value → Shared → Prop} {Q : Value → Shared → Prop}, Q (.ref hp.objs.size) ⟨hp.push o, g, d, tk, os⟩ → wpAny (model prog w) A' (pyIter v) Q E ⟨hp, g, d, tk, os⟩ := fun q => B.iter prog w _ _ ⟨hp, g, d, tk, os⟩ _ h1 q
  wp_walk using go
  refine wpAny_stack_any fun st => wpAny_pure ?_
  split
  · rename_i c _ _ _ _ _
    cases (c == Value.type "enumerate") <;> (wp_walk using go; exact ⟨_, rfl, h⟩)
  · wp_walk using go
    exact ⟨_, rfl, h⟩
section
variable {prog : Program} {w : World} {A : Around} {E : Value → Shared → Prop} {s : Shared}
theorem call_enumX {v : Value} {o : Obj} {H : Heap → Prop} {Q : Value → Shared → Prop} (B : Begins v o H) (h1 : H s.heap)
    (h : ∀ h', IsEnum h' (s.heap.objs.size + 1) s.heap.objs.size 0 .none → h'.get? s.heap.objs.size = some o → (∀ b o, s.heap.get? b = some o → h'.get? b = some o) → Q (.ref (s.heap.objs.size + 1)) { s with heap := h' }) :
    wpAny (model prog w) A (call (.type "enumerate") [v]) Q E s := by
  refine callType_new F.called_enumerate (by decide) (F.typeCall_enumerate_1 _) (F.newCall_enumerate_1 _) (fun obj => F.args_object_init_2 obj _) F.entry_enumerate_new (meets_enumX B) ⟨h1, ?_⟩
  have hz : (s.heap.push o).objs.size = s.heap.objs.size + 1 := Heap.size_push ..
  show _ ∧ _
  rw [hz]
  have he : IsEnum ((s.heap.push o).push { cls := .type "enumerate", data := .fields #[.none, .bool false, .ref s.heap.objs.size, rawInt 0, .none, .none] }) (s.heap.objs.size + 1) s.heap.objs.size 0 .none := by
    have e := Heap.get?_push_size (s.heap.push o) (o := { cls := .type "enumerate", data := .fields #[.none, .bool false, .ref s.heap.objs.size, rawInt 0, .none, .none] }) rfl
    rw [hz] at e
    exact e
  exact ⟨⟨_, he, rfl⟩, h _ he (Heap.get?_push_of_some _ (Heap.get?_push_size _ B.free)) fun b o x => Heap.get?_push_of_some _ (Heap.get?_push_of_some _ x)⟩
end
end PySem
namespace K38
open PySem PySem.Spec PyProof.Rows L2
/-- a list (true), a tuple (false) -/
def SqK (K : PySem.W.Frag) (k : Bool) (H : Hp) (a : Addr) (xs : List V) : Prop := if k = true then SqL K H a xs else SqT K H a xs
def IsK (k : Bool) (h : Heap) (a : Addr) (its : Array Value) : Prop := if k = true then h.IsList a its else h.IsTuple a its
def ItK (k : Bool) (h : Heap) (it a : Addr) (i : Nat) : Prop := if k = true then h.IsListIter it a i else h.IsTupleIter it a i
def oK (k : Bool) (a : Addr) : Obj := if k = true then { cls := .type "list_iterator", data := .fields #[.ref a, .int 0 0] } else { cls := .type "tuple_iterator", data := .fields #[.ref a, .int 0 0] }
theorem begK (k : Bool) (a : Addr) (its : Array Value) : Begins (.ref a) (oK k a) fun h => IsK k h a its := by
  cases k with
  | true => exact begins_list a its
  | false => exact begins_tuple a its
theorem drawK (k : Bool) {prog : Program} {w : World} {A : Around} (hh : A.handled = none) (it a : Addr) (hne : a ≠ it) (its : Array Value) :
    Draws prog w A it [it, a] its.size (fun i v => its[i]? = some v) (fun i h => ItK k h it a i ∧ IsK k h a its) := by
  cases k with
  | true => exact Draws.list hh it a hne its
  | false => exact Draws.tuple hh it a hne its
theorem itK_at {k : Bool} {h h' : Heap} {it a : Addr} {i : Nat} (x : ItK k h it a i) (e : ∀ o, h.get? it = some o → h'.get? it = some o) : ItK k h' it a i := by
  cases k with
  | true => exact Heap.IsListIter.at x e
  | false => exact Heap.IsTupleIter.at x e
theorem itK_obj {k : Bool} {h : Heap} {it a : Addr} {i : Nat} (x : ItK k h it a i) : ∃ o, h.get? it = some o ∧ ∀ v, o.data ≠ .cell v := by
  cases k with
  | true =>
    obtain ⟨o, e, _, d⟩ := (x : h.IsListIter it a i)
    exact ⟨o, e, fun v q => by rw [d] at q; cases q⟩
  | false =>
    obtain ⟨o, e, _, d⟩ := (x : h.IsTupleIter it a i)
    exact ⟨o, e, fun v q => by rw [d] at q; cases q⟩
theorem itK_new {k : Bool} {h : Heap} {it a : Addr} (e : h.get? it = some (oK k a)) : ItK k h it a 0 := by
  cases k with
  | true => exact ⟨_, e, rfl, rfl⟩
  | false => exact ⟨_, e, rfl, rfl⟩
section
variable {X : Cx} {pins : List (Addr × Obj)} {σ : L2.St} {H : Hp} {s : Shared}
theorem sqK_is {k : Bool} {a : Addr} {xs : List V} (I : Inv X pins σ H s) (h : SqK X.K k H a xs) : ∃ its : List Value, Vals xs its ∧ IsK k s.heap a its.toArray := by
  cases k with
  | true =>
    obtain ⟨its, r, p, _⟩ := I.list h
    exact ⟨its, r, p.isList⟩
  | false =>
    obtain ⟨its, r, p, _⟩ := I.tuple h
    exact ⟨its, r, p⟩
theorem sqK_inj {k : Bool} {a : Addr} {xs ys : List V} (I : Inv X pins σ H s) (h : SqK X.K k H a xs) (h' : SqK X.K k H a ys) : xs = ys := by
  cases k with
  | true => exact I.list_inj h h'
  | false => exact I.tuple_inj h h'
theorem isK_lt {k : Bool} {a : Addr} {its : Array Value} {h : Heap} (x : IsK k h a its) : a < h.objs.size := by
  cases k with
  | true =>
    obtain ⟨o, e, _⟩ := (x : h.IsList a its)
    exact Heap.lt_size e
  | false =>
    obtain ⟨o, e, _⟩ := (x : h.IsTuple a its)
    exact Heap.lt_size e
end
/-- both as they stand at each turn, the items in new pairs -/
def ItzM (K : PySem.W.Frag) (k l : Bool) (a b : Addr) : It :=
  ⟨fun i H => ∃ xs ys : List V, SqK K k H a xs ∧ SqK K l H b ys ∧ i < min xs.length ys.length,
    fun i H v H' => ∃ T x y, v = .ref T ∧ H T = none ∧ H' = upd H T (.tup [x, y]) ∧ (∀ xs, SqK K k H a xs → xs[i]? = some x) ∧ ∀ ys, SqK K l H b ys → ys[i]? = some y,
    fun i H => ∃ xs ys : List V, SqK K k H a xs ∧ SqK K l H b ys ∧ i = min xs.length ys.length⟩
theorem turn_zipM {P : Program} {w : World} {K : PySem.W.Frag} {elts : List Expr} {kk : Nat} {tpos : Pos} {k l : Bool} {a b z TI TO i1 i2 : Addr} (S : ZipSep2 z TI TO i1 i2 [i1, a] [i2, b]) (na : a ≠ i1) (nb : b ≠ i2) :
    Turn P w K (.Tuple elts kk tpos) (ItzM K k l a b) [z, TI, TO, i1, i2] z (fun i h => IsZip h z TI TO .none ∧ IsTupOf2 h TI (.ref i1) (.ref i2) ∧ (∃ x y, IsTupOf2 h TO x y) ∧ ItK k h i1 a i ∧ ItK l h i2 b i) where
  mem := by simp
  obj := fun i h st c hc => by
    obtain ⟨hz, hTI, ⟨x, y, hTO⟩, h1, h2⟩ := st
    have e : c = z ∨ c = TI ∨ c = TO ∨ c = i1 ∨ c = i2 := by simpa using hc
    rcases e with q | q | q | q | q
    · rw [q]; exact ⟨_, hz, fun v q => nomatch q⟩
    · rw [q]; exact ⟨_, hTI, fun v q => nomatch q⟩
    · rw [q]; exact ⟨_, hTO, fun v q => nomatch q⟩
    · rw [q]; exact itK_obj h1
    · rw [q]; exact itK_obj h2
  keep := fun i h h' st kp => by
    obtain ⟨hz, hTI, ⟨x, y, hTO⟩, h1, h2⟩ := st
    exact ⟨kp z (by simp) _ hz, kp TI (by simp) _ hTI, ⟨x, y, kp TO (by simp) _ hTO⟩, itK_at h1 fun o q => kp i1 (by simp) o q, itK_at h2 fun o q => kp i2 (by simp) o q⟩
  item := by
    intro X hP hw hK hc i pins s σ H E I hf st hg
    subst hP hw hK
    obtain ⟨xs, ys, hx, hy, hi⟩ := hg
    obtain ⟨its, rv, p⟩ := sqK_is I hx
    obtain ⟨its2, rv2, p2⟩ := sqK_is I hy
    have l1 := rv.length
    have l2 := rv2.length
    have hh : X.A.in1.handled = none := I.ok.hd hc
    obtain ⟨hz, hTI, hTO, h1, h2⟩ := st
    have W := WalksT.zipD2 (prog := X.prog) (w := X.w) S (drawK k hh i1 a na its.toArray) (drawK l hh i2 b nb its2.toArray)
    have hi2 : i < min its.toArray.size its2.toArray.size := by
      rw [List.size_toArray, List.size_toArray, ← l1, ← l2]
      exact hi
    have wr : ∀ {c : Addr}, c ∉ [z, TI, TO, i1, i2] → c ∉ [z, TO, i1, i2] := fun {c} n m => n (by
      have e : c = z ∨ c = TO ∨ c = i1 ∨ c = i2 := by simpa using m
      rcases e with q | q | q | q <;> simp [q])
    refine W.item i s _ E hi2 ⟨hz, hTI, hTO, ⟨h1, p⟩, ⟨h2, p2⟩⟩ fun T vals h' tk hPt hT hIs hMid hk => ?_
    obtain ⟨x1, x2, e1, e2, rfl⟩ := hPt
    refine ⟨_, rfl, W.go elts kk tpos i T _ _ E hMid fun h'' st2 hk2 => ?_⟩
    have hi' : i < xs.length := by omega
    have hi'' : i < ys.length := by omega
    obtain ⟨u1, g1, r1⟩ := rv.get (List.getElem?_eq_getElem hi')
    obtain ⟨u2, g2, r2⟩ := rv2.get (List.getElem?_eq_getElem hi'')
    have q1 : x1 = u1 := Option.some.inj (e1.symm.trans (by simpa using g1))
    have q2 : x2 = u2 := Option.some.inj (e2.symm.trans (by simpa using g2))
    subst q1 q2
    have apT := W.apart i T h' hMid
    obtain ⟨oT, eT, cT, nT, dT⟩ := hIs
    have eT2 : h''.get? T = some oT := hk2 T oT apT eT
    have new : ObjOk X.prog X.w (upd H T (.tup [xs[i], ys[i]])) h'' T (.tup [xs[i], ys[i]]) := ⟨by show 2 ≤ sizeLine; decide, [x1, x2], .cons r1 (.cons r2 .nil), ⟨oT, eT2, cT, nT, dT⟩⟩
    have I1 : Inv X pins σ (upd H T (.tup [xs[i], ys[i]])) { s with heap := h'', toks := tk } :=
      I.turnedNew (t' := tk) (ch := [z, TI, TO, i1, i2]) (fun c o hb q => hk2 c o (wr hb) (hk c o (wr hb) q)) hf hT new
    obtain ⟨a1, a2, a3, ⟨a4, _⟩, ⟨a5, _⟩⟩ := st2
    refine ⟨.ref T, _, I1, rfl, ⟨T, _, _, rfl, I.hok.fresh hT, rfl, fun l hl => ?_, fun l hl => ?_⟩, ⟨a1, a2, a3, a4, a5⟩, fun c hcm => ?_⟩
    · rw [sqK_inj I hl hx]
      exact List.getElem?_eq_getElem hi'
    · rw [sqK_inj I hl hy]
      exact List.getElem?_eq_getElem hi''
    · have hlt : c < s.heap.objs.size := by
        have e : c = z ∨ c = TI ∨ c = TO ∨ c = i1 ∨ c = i2 := by simpa using hcm
        obtain ⟨_, _, hTO'⟩ := hTO
        rcases e with q | q | q | q | q
        · rw [q]; exact Heap.lt_size hz
        · rw [q]; exact Heap.lt_size hTI
        · rw [q]; exact Heap.lt_size hTO'
        · rw [q]
          obtain ⟨_, e1, _⟩ := itK_obj h1
          exact Heap.lt_size e1
        · rw [q]
          obtain ⟨_, e1, _⟩ := itK_obj h2
          exact Heap.lt_size e1
      rw [upd_ne (Nat.ne_of_lt (Nat.lt_of_lt_of_le hlt hT))]
      exact (hf c hcm).1
  done := by
    intro X hP hw hK hc i pins s σ H E I hf st hg
    subst hP hw hK
    obtain ⟨xs, ys, hx, hy, hi⟩ := hg
    obtain ⟨its, rv, p⟩ := sqK_is I hx
    obtain ⟨its2, rv2, p2⟩ := sqK_is I hy
    have l1 := rv.length
    have l2 := rv2.length
    have hh : X.A.in1.handled = none := I.ok.hd hc
    obtain ⟨hz, hTI, hTO, h1, h2⟩ := st
    have W := WalksT.zipD2 (prog := X.prog) (w := X.w) S (drawK k hh i1 a na its.toArray) (drawK l hh i2 b nb its2.toArray)
    have hi2 : i = min its.toArray.size its2.toArray.size := by
      rw [List.size_toArray, List.size_toArray, ← l1, ← l2]
      exact hi
    have st : IsZip s.heap z TI TO .none ∧ IsTupOf2 s.heap TI (.ref i1) (.ref i2) ∧ (∃ a1 a2, IsTupOf2 s.heap TO a1 a2) ∧ (ItK k s.heap i1 a i ∧ IsK k s.heap a its.toArray) ∧ (ItK l s.heap i2 b i ∧ IsK l s.heap b its2.toArray) := ⟨hz, hTI, hTO, ⟨h1, p⟩, ⟨h2, p2⟩⟩
    rw [hi2] at st
    refine W.done s _ E st fun h' tk hk => ⟨rfl, I.turnedL (t' := tk) (ch := [z, TI, TO, i1, i2]) (fun c o hb q => hk c o (fun m => hb ?_) q) hf⟩
    have e : c = z ∨ c = TO ∨ c = i1 ∨ c = i2 := by simpa using m
    rcases e with q | q | q | q <;> simp [q]
  self := fun A i s Q E st h => wpAny_pyIter_zip st.1 h
def iZipM (K : PySem.W.Frag) (ta : TA) : TI := fun σ H R => ta σ H fun vs H1 => ∃ (k l : Bool) (a b : Addr) (xs ys : List V), vs = [.ref a, .ref b] ∧ SqK K k H1 a xs ∧ SqK K l H1 b ys ∧ R (ItzM K k l a b) H1
theorem pi_zipM {X : Cx} {e e2 : Expr} {ta : TA} {p pos tpos : Pos} {elts : List Expr} {kk : Nat} (hg : Gl X "zip") (hm : X.mg "zip" = none) (ha : PA X [e, e2] ta)
    (hs : starEach [e, e2] X.env = (false, eval e X.env) :: starEach [e2] X.env := by rfl) (hpl : (backTo pos (starEach [e2] X.env)).any (·.1) = false := by rfl) :
    PI X (.Tuple elts kk tpos) (.Call (.Name "zip" p) [e, e2] [] pos) (iZipM X.K ta) := by
  refine ⟨fun pins s σ H R I h => ?_⟩
  refine Call_ (ld_blt I hg hm PyProof.Rows.boot_zip (PyProof.Rows.callWith_type1 (thn (ha.run pos pins s σ H _ I h) fun us s1 ⟨vs, H1, I1, r1, q1⟩ => ?_) hs hpl))
  obtain ⟨k, l, a, b, xs, ys, ex, hx, hy, q⟩ := q1
  subst ex
  obtain ⟨u1, u2, rfl, ra, rb⟩ := vals2 r1
  cases ra
  cases rb
  obtain ⟨its, rv, p1⟩ := sqK_is I1 hx
  obtain ⟨its2, rv2, p2⟩ := sqK_is I1 hy
  have la := isK_lt p1
  have lb := isK_lt p2
  refine zip_begins2 (begK k a its.toArray) (begK l b its2.toArray) p1 p2 fun h' hz hTI hTO e1 e2 hsz hk => wpAny_pyIter_zip hz ?_
  have I2 : Inv X pins σ H1 { s1 with heap := h' } := I1.kept (t' := s1.toks) hk
  have S : ZipSep2 (s1.heap.objs.size + 4) (s1.heap.objs.size + 2) (s1.heap.objs.size + 3) s1.heap.objs.size (s1.heap.objs.size + 1) [s1.heap.objs.size, a] [s1.heap.objs.size + 1, b] :=
    zip_sep2 (fun c hc => by rw [List.mem_singleton.mp hc]; exact la) (fun c hc => by rw [List.mem_singleton.mp hc]; exact lb)
  refine ⟨s1.heap.objs.size + 4, [s1.heap.objs.size + 4, s1.heap.objs.size + 2, s1.heap.objs.size + 3, s1.heap.objs.size, s1.heap.objs.size + 1], _, _, H1, rfl, I2, turn_zipM S (Nat.ne_of_lt la) (Nat.ne_of_lt (Nat.lt_succ_of_lt lb)), ⟨hz, hTI, ⟨_, _, hTO⟩, itK_new e1, itK_new e2⟩, fun c hcm => ?_, q⟩
  have hle : s1.heap.objs.size ≤ c := by
    have e' : c = s1.heap.objs.size + 4 ∨ c = s1.heap.objs.size + 2 ∨ c = s1.heap.objs.size + 3 ∨ c = s1.heap.objs.size ∨ c = s1.heap.objs.size + 1 := by simpa using hcm
    rcases e' with z | z | z | z | z
    · rw [z]; exact Nat.le_add_right _ _
    · rw [z]; exact Nat.le_add_right _ _
    · rw [z]; exact Nat.le_add_right _ _
    · rw [z]; exact Nat.le_refl _
    · rw [z]; exact Nat.le_add_right _ _
  exact I1.fpOk hle (I1.hok.fresh hle)
theorem walk_zipM {K : PySem.W.Frag} {k l : Bool} {a b : Addr} {xs ys : List V} {n : Nat} (hn : n = min xs.length ys.length) :
    Walk (ItzM K k l a b) n (fun H => SqK K k H a xs ∧ SqK K l H b ys) (YPair (fun i => xs[i]?) (fun i => ys[i]?)) := by
  subst hn
  refine ⟨fun i _ hi q => ⟨xs, ys, q.1, q.2, hi⟩, fun _ q => ⟨xs, ys, q.1, q.2, rfl⟩, fun i H v H' _ q y => ?_⟩
  obtain ⟨T, x, z, h1, h2, h3, h4, h5⟩ := y
  exact ⟨T, x, z, h1, h2, h3, h4 xs q.1, h5 ys q.2⟩

/-! ### enumerate of a tuple -/
def IteT (K : PySem.W.Frag) (a : Addr) : It :=
  ⟨fun i H => ∃ xs : List V, SqT K H a xs ∧ i < xs.length, fun i H v H' => ∃ T x, v = .ref T ∧ H T = none ∧ H' = upd H T (.tup [.int (i : Nat), x]) ∧ ∀ xs, SqT K H a xs → xs[i]? = some x,
    fun i H => ∃ xs : List V, SqT K H a xs ∧ i = xs.length⟩
theorem turn_enumT {P : Program} {w : World} {K : PySem.W.Frag} {elts : List Expr} {kk : Nat} {tpos : Pos} {a e it : Addr} (ne : e ≠ it) (nea : a ≠ e) (nia : a ≠ it) :
    Turn P w K (.Tuple elts kk tpos) (IteT K a) [e, it] e (fun i h => (∃ old, IsEnum h e it (0 + (i : Int)) old) ∧ h.IsTupleIter it a i) where
  mem := by simp
  obj := fun i h st c hc => by
    obtain ⟨⟨old, he⟩, h1⟩ := st
    have e' : c = e ∨ c = it := by simpa using hc
    rcases e' with q | q
    · rw [q]; exact ⟨_, he, fun v q => nomatch q⟩
    · rw [q]; exact itK_obj (k := false) h1
  keep := fun i h h' st kp => by
    obtain ⟨⟨old, he⟩, h1⟩ := st
    exact ⟨⟨old, kp e (by simp) _ he⟩, Heap.IsTupleIter.at h1 fun o q => kp it (by simp) o q⟩
  item := by
    intro X hP hw hK hc i pins s σ H E I hf st hg
    subst hP hw hK
    obtain ⟨xs, hx, hi⟩ := hg
    obtain ⟨its, rv, p, _⟩ := I.tuple hx
    have l1 := rv.length
    have hh : X.A.in1.handled = none := I.ok.hd hc
    obtain ⟨he, h1⟩ := st
    have W := WalksT.enumFrom 0 (Draws.tuple (prog := X.prog) (w := X.w) hh it a nia its.toArray) e ne (by simp [ne, nea.symm]) (by simp)
    have hi2 : i < its.toArray.size := by
      rw [List.size_toArray, ← l1]
      exact hi
    refine W.item i s _ E hi2 ⟨he, h1, p⟩ fun T vals h' tk hPt hT hIs hMid hk => ?_
    obtain ⟨t, x1, e1, rfl⟩ := hPt
    refine ⟨_, rfl, W.go elts kk tpos i T _ _ E hMid fun h'' st2 hk2 => ?_⟩
    obtain ⟨u1, g1, r1⟩ := rv.get (List.getElem?_eq_getElem hi)
    have q1 : x1 = u1 := Option.some.inj (e1.symm.trans (by simpa using g1))
    subst q1
    have apT := W.apart i T h' hMid
    obtain ⟨oT, eT, cT, nT, dT⟩ := hIs
    have eT2 : h''.get? T = some oT := hk2 T oT apT eT
    have new : ObjOk X.prog X.w (upd H T (.tup [.int (i : Nat), xs[i]])) h'' T (.tup [.int (i : Nat), xs[i]]) :=
      ⟨by show 2 ≤ sizeLine; decide, [.int (0 + (i : Int)) t, x1], .cons ⟨t, by rw [Int.zero_add]⟩ (.cons r1 .nil), ⟨oT, eT2, cT, nT, dT⟩⟩
    have I1 : Inv X pins σ (upd H T (.tup [.int (i : Nat), xs[i]])) { s with heap := h'', toks := tk } := I.turnedNew (t' := tk) (ch := [e, it]) (fun c o hb q => hk2 c o hb (hk c o hb q)) hf hT new
    obtain ⟨a1, a2, _⟩ := st2
    refine ⟨.ref T, _, I1, rfl, ⟨T, _, rfl, I.hok.fresh hT, rfl, fun l hl => ?_⟩, ⟨a1, a2⟩, fun c hcm => ?_⟩
    · rw [I.tuple_inj hl hx]
      exact List.getElem?_eq_getElem hi
    · have hlt : c < s.heap.objs.size := by
        have e' : c = e ∨ c = it := by simpa using hcm
        obtain ⟨_, he'⟩ := he
        rcases e' with q | q
        · rw [q]; exact Heap.lt_size he'
        · rw [q]
          obtain ⟨_, e1, _⟩ := itK_obj (k := false) h1
          exact Heap.lt_size e1
      rw [upd_ne (Nat.ne_of_lt (Nat.lt_of_lt_of_le hlt hT))]
      exact (hf c hcm).1
  done := by
    intro X hP hw hK hc i pins s σ H E I hf st hg
    subst hP hw hK
    obtain ⟨xs, hx, hi⟩ := hg
    obtain ⟨its, rv, p, _⟩ := I.tuple hx
    have l1 := rv.length
    have hh : X.A.in1.handled = none := I.ok.hd hc
    have W := WalksT.enumFrom 0 (Draws.tuple (prog := X.prog) (w := X.w) hh it a nia its.toArray) e ne (by simp [ne, nea.symm]) (by simp)
    have hi2 : i = its.toArray.size := by
      rw [List.size_toArray, ← l1]
      exact hi
    have st' : (∃ old, IsEnum s.heap e it (0 + (i : Int)) old) ∧ s.heap.IsTupleIter it a i ∧ s.heap.IsTuple a its.toArray := ⟨st.1, st.2, p⟩
    rw [hi2] at st'
    exact W.done s _ E st' fun h' tk hk => ⟨rfl, I.turnedL (t' := tk) (ch := [e, it]) hk hf⟩
  self := fun A i s Q E st h => let ⟨⟨_, he⟩, _⟩ := st; wpAny_pyIter_enum he h
def iEnumT (K : PySem.W.Frag) (ta : TA) : TI := fun σ H R => ta σ H fun vs H1 => ∃ a xs, vs = [.ref a] ∧ SqT K H1 a xs ∧ R (IteT K a) H1
theorem pi_enumT {X : Cx} {e : Expr} {ta : TA} {p pos tpos : Pos} {elts : List Expr} {kk : Nat} (hg : Gl X "enumerate") (hm : X.mg "enumerate" = none) (ha : PA X [e] ta) (hs : starEach [e] X.env = [(false, eval e X.env)] := by rfl) :
    PI X (.Tuple elts kk tpos) (.Call (.Name "enumerate" p) [e] [] pos) (iEnumT X.K ta) := by
  refine ⟨fun pins s σ H R I h => ?_⟩
  refine Call_ (ld_blt I hg hm boot_enumerate (PyProof.Rows.callWith_type1 (thn (ha.run pos pins s σ H _ I h) fun us s1 ⟨vs, H1, I1, r1, q1⟩ => ?_) hs rfl))
  obtain ⟨a, xs, ex, hq, q⟩ := q1
  subst ex
  obtain ⟨u1, rfl, ra⟩ := vals1 r1
  cases ra
  obtain ⟨its, rv, p', hz⟩ := I1.tuple hq
  have la : a < s1.heap.objs.size := isK_lt (k := false) p'
  refine call_enumX (begins_tuple a its.toArray) p' fun h' he hit hk => wpAny_pyIter_enum he ?_
  have I2 : Inv X pins σ H1 { s1 with heap := h' } := I1.kept (t' := s1.toks) hk
  refine ⟨s1.heap.objs.size + 1, [s1.heap.objs.size + 1, s1.heap.objs.size], _, _, H1, rfl, I2, turn_enumT (a := a) (e := s1.heap.objs.size + 1) (it := s1.heap.objs.size) (Nat.succ_ne_self _) (Nat.ne_of_lt (Nat.lt_succ_of_lt la)) (Nat.ne_of_lt la), ⟨⟨_, he⟩, itK_new (k := false) hit⟩, fun b hb => ?_, q⟩
  have e' : b = s1.heap.objs.size + 1 ∨ b = s1.heap.objs.size := by simpa using hb
  have hle : s1.heap.objs.size ≤ b := by
    rcases e' with z | z
    · rw [z]; exact Nat.le_add_right _ _
    · rw [z]; exact Nat.le_refl _
  exact I1.fpOk hle (I1.hok.fresh hle)
theorem walk_enumT {K : PySem.W.Frag} {a : Addr} {xs : List V} : Walk (IteT K a) xs.length (fun H => SqT K H a xs) (YPair (fun i => some (.int (i : Nat))) (fun i => xs[i]?)) := by
  refine ⟨fun i _ hi q => ⟨xs, q, hi⟩, fun _ q => ⟨xs, q, rfl⟩, fun i H v H' _ q y => ?_⟩
  obtain ⟨T, x, h1, h2, h3, h4⟩ := y
  exact ⟨T, .int (i : Nat), x, h1, h2, h3, rfl, h4 xs q⟩
end K38

set_option Elab.async false
set_option linter.all false
set_option maxRecDepth 100000
set_option maxHeartbeats 4000000
/-! is_count, two_power, check_signs, check_counts, bits_of, is_bits -/
namespace K38
open PySem PySem.Spec PyProof.Rows L2

/-- the values that come: flat ones, a list, a code -/
inductive Va (K : PySem.W.Frag) (H : Hp) : V → Prop
  | non : Va K H .non
  | int (i : Int) : Va K H (.int i)
  | bl (b : Bool) : Va K H (.bl b)
  | str (z : Str) : Va K H (.str z)
  | lst {a : Addr} {xs : List V} (h : H a = some (.lst xs)) : Va K H (.ref a)
  | cod {a dx : Addr} {fs : List (Str × V)} (h : H a = some (.ins (He.ga K "Code") dx fs)) : Va K H (.ref a)
def isCnt : V → Bool
  | .int i => decide (0 ≤ i)
  | _ => false
def isI : V → Bool
  | .int _ => true
  | .bl _ => true
  | _ => false
section
variable {K : PySem.W.Frag} {mg : Str → Option Value} {H H' : Hp} {v : V}
theorem Va.same (h : Va K H v) (s : Same H H') : Va K H' v := by
  cases h with
  | non => exact .non
  | int i => exact .int i
  | bl b => exact .bl b
  | str z => exact .str z
  | lst h => exact .lst (s _ _ h)
  | cod h => exact .cod (s _ _ h)
/-- an instance's type -/
theorem ty_ins {c : Str} {a dx : Addr} {fs : List (Str × V)} (h : H a = some (.ins (He.ga K c) dx fs)) (cl : Cls K (He.ga K c)) (cc : PySem.W.findIn K (.ref (He.ga K c)) "__class__" = some (some (.builtin "object.__class__")))
    (T : Tx K mg) (co : PySem.W.mroIn K (He.ga K c) (.type "object") = some true) : TyX K H (.ref a) (.ref (He.ga K c)) := .base (.ins h cl cc T.cg T.ct co)
theorem ty_code (T : Tx K mg) {a dx : Addr} {fs : List (Str × V)} (h : H a = some (.ins (He.ga K "Code") dx fs)) : TyX K H (.ref a) (.ref (He.ga K "Code")) := ty_ins h T.cl_Code T.cc_Code T T.co_Code
theorem Va.isInt (T : Tx K mg) (h : Va K H v) : ∃ t, TyX K H v t ∧ PySem.W.kitOne K t (.type "int") = some (isI v) := by
  cases h with
  | non => exact ⟨_, .base .non, kit_ty (by decide +kernel)⟩
  | int i => exact ⟨_, .base (.int i), kit_ty (r := true) (by decide +kernel)⟩
  | bl b => exact ⟨_, .base (.bl b), kit_ty (r := true) (by decide +kernel)⟩
  | str z => exact ⟨_, .base (.str z), kit_ty (r := false) (by decide +kernel)⟩
  | lst h => exact ⟨_, .base (.lst h), kit_ty (r := false) (by decide +kernel)⟩
  | cod h => exact ⟨_, ty_code T h, T.k0⟩
end
theorem iteE {c : Bool} {A B : Prop} (h : if c = true then A else B) (e : c = true) : A := by rw [if_pos e] at h; exact h

section
variable {P : Program} {w : World} {K : PySem.W.Frag} {mg : Str → Option Value} {base : Heap}
/-! ### is_count -/
def spIsCount (K : PySem.W.Frag) : Sp := fun vs H Q _ => ∃ v, vs = [v] ∧ Va K H v ∧ Q (.bl (isCnt v)) H
theorem ok_is_count (T : Tx K mg) : Cal P w K mg base CX0 1 "is_count" ["value"] (spIsCount K) := by
  refine cal_of T.g_is_count T.f_is_count sc_is_count (fun _ _ _ _ _ _ us hl => match us, hl with | [_], _ => rfl) (fun vs H Q E ⟨v, e, _⟩ => by rw [e]; rfl) (fun fd cdv A outer s H vs Q E hr h => ?_)
  obtain ⟨v, rfl, hv, q⟩ := h
  refine ⟨_, (pss_one (ps_ret (pe_and (pe_callB call_isi (by rfl) T.b_isinstance (by decide +kernel) (pa_cons (pv 0) (pa_cons (pe_bltn (v := .ty "int") (u := .type "int") rfl T.b_int (by decide +kernel) rfl) pa_nil))) (pe_and (pe_not (pe_callB call_isi (by rfl) T.b_isinstance (by decide +kernel) (pa_cons (pv 0) (pa_cons (pe_bltn (v := .ty "bool") (u := .type "bool") rfl T.b_bool (by decide +kernel) rfl) pa_nil)))) (pe_one (pe_cmpR op_ge (pv 0) pe_int (nomark _))))))), ?_⟩
  obtain ⟨t, ty, ki⟩ := hv.isInt T
  refine ⟨_, rfl, _, _, _, _, _, rfl, .ty "int", ty, ki, _, rfl, ?_⟩
  cases hv with
  | int i =>
    refine iteT ⟨_, rfl, _, _, _, _, _, rfl, .ty "bool", .base (.int i), kit_ty (r := false) (by decide +kernel), _, rfl, _, rfl, iteT ?_⟩
    exact ⟨_, rfl, _, _, rfl, rfl, q⟩
  | bl b =>
    refine iteT ⟨_, rfl, _, _, _, _, _, rfl, .ty "bool", .base (.bl b), kit_ty (r := true) (by decide +kernel), _, rfl, _, rfl, iteF ?_⟩
    exact q
  | non => exact iteF q
  | str z => exact iteF q
  | lst h => exact iteF q
  | cod h => exact iteF q
/-! ### two_power -/
def spTwoPower : Sp := fun vs H Q _ => ∃ m : Int, vs = [.int m] ∧ m ≤ 60 ∧ ∀ H', Same H H' → Q (.int (2 ^ m.toNat)) H'
/-- what is left of the power: b ^ (2 ^ ..) -/
theorem two_inv {m f b : Int} {r : Nat} (hm : 0 < m) (h : f * b ^ m.toNat = 2 ^ r) : (if m % 2 = 1 then f * b else f) * (b * b) ^ (m / 2).toNat = 2 ^ r := by
  obtain ⟨k, hk⟩ : ∃ k : Nat, m = k := ⟨m.toNat, by omega⟩
  subst hk
  have e1 : (k : Int).toNat = k := by omega
  have e2 : ((k : Int) / 2).toNat = k / 2 := by omega
  rw [e1] at h
  rw [e2, ← h]
  have e3 : (b * b) ^ (k / 2) = b ^ (2 * (k / 2)) := by rw [Int.pow_mul, Int.pow_succ, Int.pow_succ, Int.pow_zero, Int.one_mul]
  rw [e3]
  by_cases o : (k : Int) % 2 = 1
  · rw [if_pos o]
    have e4 : k = 2 * (k / 2) + 1 := by omega
    conv => rhs; rw [e4, Int.pow_succ]
    rw [Int.mul_assoc, Int.mul_comm b]
  · rw [if_neg o]
    have e4 : k = 2 * (k / 2) := by omega
    conv => rhs; rw [e4]
theorem pow_le_pow2 {a b : Nat} (h : a ≤ b) : (2 : Int) ^ a ≤ 2 ^ b := by
  have := Nat.pow_le_pow_right (n := 2) (by decide) h
  exact_mod_cast this
theorem pow_ge_one {b : Int} (hb : 1 ≤ b) : ∀ n : Nat, 1 ≤ b ^ n
  | 0 => by simp
  | n + 1 => by
    rw [Int.pow_succ]
    have := pow_ge_one hb n
    have h := Int.mul_le_mul this hb (by omega) (by omega)
    omega
theorem base_le {f b : Int} {n r : Nat} (hf : 1 ≤ f) (hb : 2 ≤ b) (hn : 0 < n) (h : f * b ^ n = 2 ^ r) (hr : r ≤ 60) : b ≤ 2 ^ 60 := by
  obtain ⟨k, rfl⟩ : ∃ k, n = k + 1 := ⟨n - 1, by omega⟩
  have h1 := pow_ge_one (show 1 ≤ b by omega) k
  have h2 : b ≤ b ^ (k + 1) := by
    rw [Int.pow_succ]
    have := Int.mul_le_mul h1 (Int.le_refl b) (by omega) (by omega)
    omega
  have h3 : b ^ (k + 1) ≤ f * b ^ (k + 1) := by
    have := Int.mul_le_mul hf (Int.le_refl (b ^ (k + 1))) (by omega) (by omega)
    omega
  have h4 := pow_le_pow2 hr
  omega
theorem ok_two_power (T : Tx K mg) : Cal P w K mg base CX0 1 "two_power" ["many"] spTwoPower := by
  refine cal_of T.g_two_power T.f_two_power sc_two_power (fun _ _ _ _ _ _ us hl => match us, hl with | [_], _ => rfl) (fun vs H Q E ⟨v, e, _⟩ => by rw [e]; rfl) (fun fd cdv A outer s H vs Q E hr h => ?_)
  obtain ⟨m, rfl, hm, q⟩ := h
  refine ⟨_, (pss_cons (ps_asg (pe_tup (pa_cons pe_int (pa_cons pe_int pa_nil))) (pg_tup rfl (pgs_cons (pg_name (i := 1) sc_two_power.nd rfl (Or.inl rfl)) (pgs_cons (pg_name (i := 2) sc_two_power.nd rfl (Or.inl rfl)) pgs_nil))))
    (pss_cons (ps_while PassesOwn.never (pt_cmpR op_gt (pv 0) pe_int (nomark _))
      (pss_cons (ps_if (pt_cmpR op_eq (pe_op op_mod (pv 0) pe_int) pe_int (nomark _))
        (pss_one (ps_set (i := 1) sc_two_power.nd rfl (Or.inl rfl) (pe_op op_mul (pv 1) (pv 2))))
        pss_nil)
      (pss_cons (ps_set (i := 2) sc_two_power.nd rfl (Or.inl rfl) (pe_op op_mul (pv 2) (pv 2)))
      (pss_one (ps_set (i := 0) sc_two_power.nd rfl (Or.inl rfl) (pe_op op_fdiv (pv 0) pe_int))))))
    (pss_one (ps_ret (pv 1))))), ?_⟩
  refine ⟨(by show 2 ≤ sizeLine; decide), fun p hp => ?_⟩
  refine ⟨p, _, rfl, tup_at upd_same, rfl, _, _, rfl, _, _, rfl, rfl, ?_⟩
  refine ⟨fun k σ H' => ∃ m' f b : Int, σ = [some (.int m'), some (.int f), some (.int b)] ∧ k = m'.toNat ∧ m' ≤ 60 ∧ 1 ≤ f ∧ 2 ≤ b ∧ f * b ^ m'.toNat = 2 ^ m.toNat ∧ Same H H',
    ⟨_, m, 1, 2, rfl, rfl, hm, by decide, by decide, by rw [Int.one_mul], same_new hp⟩, ?_⟩
  rintro k σ H' ⟨m', f, b, rfl, rfl, hm', hf, hb, e, sm⟩
  refine ⟨_, rfl, _, _, rfl, rfl, _, rfl, ?_⟩
  refine ite2 (fun hc => ?_) (fun hc => ?_)
  · have m0 : 0 < m' := of_decide_eq_true hc
    have bl := base_le hf hb (show 0 < m'.toNat by omega) e (show m.toNat ≤ 60 by omega)
    have inv := two_inv m0 e
    have b64 : -(2 ^ 64) < b ∧ b < 2 ^ 64 := by constructor <;> omega
    refine ⟨fun σ' H2 => ∃ f2 b2 : Int, σ' = [some (.int (m' / 2)), some (.int f2), some (.int b2)] ∧ 1 ≤ f2 ∧ 2 ≤ b2 ∧ f2 * b2 ^ (m' / 2).toNat = 2 ^ m.toNat ∧ Same H H2, fun σ' H2 ⟨f2, b2, e1, e2, e3, e4, e5⟩ => ⟨_, ?_, m' / 2, f2, b2, e1, rfl, by omega, e2, e3, e4, e5⟩, ?_⟩
    · omega
    have hbb : 2 ≤ b * b := by
      have := Int.mul_le_mul hb (show 1 ≤ b by omega) (by omega) (by omega)
      omega
    refine ⟨_, rfl, _, _, rfl, rfl, (by show (0 : Int) < 2; decide), rfl, _, rfl, ?_⟩
    refine ite2 (fun ho => ?_) (fun ho => ?_)
    · have o : m' % 2 = 1 := V.int.inj (of_decide_eq_true ho)
      rw [if_pos o] at inv
      refine ⟨_, rfl, _, rfl, _, _, rfl, rfl, .inr b64, _, rfl, _, rfl, _, _, rfl, rfl, .inl b64, _, rfl, _, _, rfl, rfl, ⟨by decide, by decide⟩, f * b, b * b, rfl, ?_, hbb, inv, sm⟩
      have := Int.mul_le_mul hf (show 1 ≤ b by omega) (by omega) (by omega)
      omega
    · have o : ¬ m' % 2 = 1 := fun z => ho (decide_eq_true (congrArg V.int z))
      rw [if_neg o] at inv
      exact ⟨_, rfl, _, rfl, _, _, rfl, rfl, .inl b64, _, rfl, _, _, rfl, rfl, ⟨by decide, by decide⟩, f, b * b, rfl, hf, hbb, inv, sm⟩
  · have m0 : ¬ 0 < m' := fun z => hc (decide_eq_true z)
    have e1 : m'.toNat = 0 := by omega
    rw [e1, Int.pow_zero, Int.mul_one] at e
    exact ⟨_, rfl, by rw [e]; exact q _ sm⟩
/-! ### check_signs -/
def spCheckSigns : Sp := fun vs H Q _ => ∃ m : Int, vs = [.int m] ∧ 2 ≤ m ∧ m ≤ 2000 ∧ Q .non H
theorem ok_check_signs (T : Tx K mg) : Cal P w K mg base CX0 1 "check_signs" ["many"] spCheckSigns := by
  refine cal_of T.g_check_signs T.f_check_signs sc_check_signs (fun _ _ _ _ _ _ us hl => match us, hl with | [_], _ => rfl) (fun vs H Q E ⟨v, e, _⟩ => by rw [e]; rfl) (fun fd cdv A outer s H vs Q E hr h => ?_)
  obtain ⟨m, rfl, h1, h2, q⟩ := h
  obtain ⟨tS, mS⟩ := T.mS
  refine ⟨_, (pss_one (ps_if (pt_not (pt_chain op_le op_le pe_int (pv 0) (pe_glob (v := .int 2000) rfl mS ⟨_, rfl⟩)))
      (pss_one ps_never)
      pss_nil)), ?_⟩
  refine ⟨_, rfl, _, _, rfl, rfl, _, rfl, ?_⟩
  rw [decide_eq_true (show (2 : Int) ≤ m from h1)]
  refine iteT ⟨_, _, rfl, rfl, _, rfl, ?_⟩
  rw [decide_eq_true (show m ≤ (2000 : Int) from h2)]
  exact iteF q
/-! ### check_counts -/
def spCheckCounts (K : PySem.W.Frag) : Sp := fun vs H Q _ => ∃ (a : Addr) (ns : List Int), vs = [.ref a] ∧ SqL K H a (ns.map V.int) ∧ 2 ≤ ns.length ∧ ns.length ≤ 1000 ∧ (∀ n ∈ ns, 0 ≤ n) ∧ ∀ H', Same H H' → Q .non H'
theorem ok_check_counts (T : Tx K mg) : Cal P w K mg base CX0 2 "check_counts" ["counts"] (spCheckCounts K) := by
  have c_check_signs := ok_check_signs (P := P) (w := w) (base := base) T
  have c_is_count := ok_is_count (P := P) (w := w) (base := base) T
  refine cal_of T.g_check_counts T.f_check_counts sc_check_counts (fun _ _ _ _ _ _ us hl => match us, hl with | [_], _ => rfl) (fun vs H Q E ⟨a, ns, e, _⟩ => by rw [e]; rfl) (fun fd cdv A outer s H vs Q E hr h => ?_)
  obtain ⟨a, ns, rfl, hS, l2, l1, h0, q⟩ := h
  refine ⟨_, (pss_cons (ps_expr (pe_cal c_check_signs (hr.mono (by decide)) rfl pass0 (pa_cons (pe_callB call_len_seq (by rfl) T.b_len (by decide +kernel) (pa_cons (pv 0) pa_nil)) pa_nil)))
    (pss_one (ps_for PassesOwn.never rfl (pi_enum rfl T.b_enumerate (pa_cons (pv 0) pa_nil)) (pg_tup rfl (pgs_cons (pg_name (i := 1) sc_check_counts.nd rfl (Or.inl rfl)) (pgs_cons (pg_name (i := 2) sc_check_counts.nd rfl (Or.inl rfl)) pgs_nil)))
      (pss_one (ps_if (pt_not (pt_val (pe_cal c_is_count (hr.mono (by decide)) rfl pass0 (pa_cons (pv 2) pa_nil))))
        (pss_one ps_never)
        pss_nil))))), ?_⟩
  refine ⟨_, rfl, a, _, rfl, .inl hS, _, rfl, by rw [List.length_map]; omega, by rw [List.length_map]; omega, ?_⟩
  refine ⟨_, rfl, a, _, rfl, hS, ?_⟩
  refine for_it walk_enum (fun i σ H' => ∃ x y, σ = [some (.ref a), x, y] ∧ Same H H') ⟨none, none, rfl, .refl H⟩ (fun i σ H' _ ⟨_, _, _, s⟩ => s.seq hS) ?_ ?_
  · rintro i x σ H1 H2 hi ⟨y1, y2, rfl, s⟩ ⟨t, u, v, rfl, nt, rfl, hu, hv⟩
    obtain ⟨n, hn, rfl⟩ := getI hv
    have s2 : Same H (upd H1 t (.tup [u, .int n])) := s.new nt
    refine ⟨t, _, rfl, tup_at upd_same, rfl, _, _, rfl, _, _, rfl, rfl, ?_⟩
    refine ⟨_, rfl, _, rfl, .int n, _, rfl, ?_⟩
    have c : isCnt (.int n) = true := decide_eq_true (h0 n (List.mem_of_getElem? hn))
    rw [c]
    exact iteF ⟨_, _, rfl, s2⟩
  · rintro σ H' ⟨_, _, _, s⟩
    exact q H' s
/-! ### bits_of -/
def spBitsOf : Sp := fun vs H Q _ => ∃ n k : Int, vs = [.int n, .int k] ∧ 0 ≤ k ∧ k ≤ 1000 ∧ ∀ H' z, Same H H' → Q (.str z) H'
theorem ok_bits_of (T : Tx K mg) : Cal P w K mg base CX0 1 "bits_of" ["number", "size"] spBitsOf := by
  refine cal_of T.g_bits_of T.f_bits_of sc_bits_of (fun _ _ _ _ _ _ us hl => match us, hl with | [_, _], _ => rfl) (fun vs H Q E ⟨a, ns, e, _⟩ => by rw [e]; rfl) (fun fd cdv A outer s H vs Q E hr h => ?_)
  obtain ⟨n, k, rfl, k0, k1, q⟩ := h
  refine ⟨_, (pss_cons (ps_set (i := 2) sc_bits_of.nd rfl (Or.inl rfl) (pe_lst pa_nil))
    (pss_cons (ps_for PassesOwn.never rfl (pi_range1 rfl T.b_range (pa_cons (pv 1) pa_nil)) (pg_name (i := 3) sc_bits_of.nd rfl (Or.inl rfl))
      (pss_cons (ps_expr (pe_bm PySem.F.plainAttrs_list PySem.F.slot_list_append PySem.F.type_list_append mt_append (pv 2) (pa_cons (pe_ifExp (pt_cmpR op_eq (pe_op op_mod (pv 0) pe_int) pe_int (nomark _)) pe_str pe_str) pa_nil)))
      (pss_one (ps_set (i := 0) sc_bits_of.nd rfl (Or.inl rfl) (pe_op op_fdiv (pv 0) pe_int)))))
    (pss_one (ps_ret (pe_join pe_str (pe_revL (pv 2))))))), ?_⟩
  refine ⟨Nat.zero_le _, fun l hl => ?_⟩
  refine ⟨_, rfl, k, rfl, by omega, by omega, ?_⟩
  refine for_it walk_range (fun i σ H' => ∃ (n' : Int) (y : Option V) (zs : List Str), σ = [some (.int n'), some (.int k), some (.ref l), y] ∧ Same H H' ∧ H' l = some (.lst (zs.map V.str)) ∧ zs.length = i ∧ ∀ z ∈ zs, z.length = 1)
    ⟨n, none, [], rfl, same_new hl, upd_same, rfl, fun z hz => by cases hz⟩ (fun _ _ _ _ _ => trivial) ?_ ?_
  · rintro i x σ H1 H2 hi ⟨n', y, zs, rfl, s, hz, hlen, h1⟩ ⟨rfl, rfl⟩
    have go : ∀ c : Str, c.length = 1 → ∃ (n'' : Int) (y : Option V) (zs' : List Str), [some (V.int (n' / 2)), some (.int k), some (.ref l), some (.int (0 + (i : Int)))] = [some (.int n''), some (.int k), some (.ref l), y] ∧ Same H (upd H2 l (.lst (zs.map V.str ++ [.str c]))) ∧ upd H2 l (.lst (zs.map V.str ++ [.str c])) l = some (.lst (zs'.map V.str)) ∧ zs'.length = i + 1 ∧ ∀ z ∈ zs', z.length = 1 := fun c hc =>
      ⟨_, _, zs ++ [c], rfl, s.mut hl, by rw [upd_same, List.map_append]; rfl, by rw [List.length_append, hlen]; rfl, fun z hm => by
        rcases List.mem_append.mp hm with e | e
        · exact h1 z e
        · have e2 : z = c := by simpa using e
          rw [e2]
          exact hc⟩
    have small : (zs.map V.str).length < sizeLine := by rw [List.length_map]; exact small1000 (by omega)
    refine ⟨_, rfl, .inl ⟨rfl, _, seq_at hz⟩, _, rfl, _, _, rfl, rfl, (by show (0 : Int) < 2; decide), rfl, _, rfl, ?_⟩
    refine ite2 (fun _ => ?_) (fun _ => ?_)
    · exact ⟨l, _, _, rfl, rfl, hz, small, _, rfl, _, _, rfl, rfl, ⟨by decide, by decide⟩, go _ (by decide +kernel)⟩
    · exact ⟨l, _, _, rfl, rfl, hz, small, _, rfl, _, _, rfl, rfl, ⟨by decide, by decide⟩, go _ (by decide +kernel)⟩
  · rintro σ H' ⟨n', y, zs, rfl, s, hz, hlen, h1⟩
    refine ⟨⟨_, rfl⟩, _, rfl, l, _, rfl, seq_at hz, fun p np => ?_⟩
    have hsum : ∀ ws : List Str, (∀ z ∈ ws, z.length = 1) → (ws.map (·.length)).sum = ws.length := by
      intro ws
      induction ws with
      | nil => intro _; rfl
      | cons z ws ih =>
        intro hw
        rw [List.map_cons, List.sum_cons, ih fun y hy => hw y (List.mem_cons_of_mem _ hy), hw z (List.mem_cons_self ..), List.length_cons]
        omega
    refine ⟨_, p, zs.reverse, rfl, rfl, .inl (seq_at (by rw [upd_same, List.map_reverse])), ?_, q _ _ (s.new np)⟩
    rw [hsum _ fun z hz => h1 z (List.mem_reverse.mp hz), List.length_reverse, hlen]
    have e0 : (("" : Str)).length = 0 := by decide +kernel
    rw [e0]
    omega
/-! ### is_bits -/
def spIsBits : Sp := fun vs H Q _ => ∃ w : Str, vs = [.str w, .int (w.length : Int)] ∧ Bw w ∧ w.length ≤ 1000 ∧ ∀ H', Same H H' → Q (.bl true) H'
theorem ok_is_bits (T : Tx K mg) : Cal P w K mg base CX0 1 "is_bits" ["value", "size"] spIsBits := by
  refine cal_of T.g_is_bits T.f_is_bits sc_is_bits (fun _ _ _ _ _ _ us hl => match us, hl with | [_, _], _ => rfl) (fun vs H Q E ⟨a, e, _⟩ => by rw [e]; rfl) (fun fd cdv A outer s H vs Q E hr h => ?_)
  obtain ⟨z, rfl, hb, hl, q⟩ := h
  refine ⟨_, (pss_one (ps_ret (pe_and (pe_callB call_isi (by rfl) T.b_isinstance (by decide +kernel) (pa_cons (pv 0) (pa_cons (pe_bltn (v := .ty "str") (u := .type "str") rfl T.b_str (by decide +kernel) rfl) pa_nil))) (pe_and (pe_cmpR op_eq (pe_callB call_len_str (by rfl) T.b_len (by decide +kernel) (pa_cons (pv 0) pa_nil)) (pv 1) (nomark _)) (pe_one (pe_callB (cr_all rfl) (by rfl) T.b_all (by decide +kernel) (pa_cons (pe_lc (own := [("bit", 2)]) (g := gName 2) (tt := tYes) rfl sc_is_bits.nd (pi_str (pv 0)) (blkOk_by (own := [("bit", 2)]) (N := n_is_bits) (sc := defScope s_is_bits) (by decide +kernel)) (fun _ _ _ _ _ => (pg_name (i := 2) sc_is_bits.nd rfl (Or.inl rfl))) (fun _ _ _ _ _ => pts_nil) (fun _ _ _ _ _ => (pe_cmpR (r := rIn K false) op_in_seq (pv 2) (pe_tup (pa_cons pe_str (pa_cons pe_str pa_nil))) (by rfl)))) pa_nil))))))), ?_⟩
  refine ⟨_, rfl, _, _, _, _, _, rfl, .ty "str", .base (.str z), kit_ty (r := true) (by decide +kernel), _, rfl, iteT ?_⟩
  refine ⟨_, rfl, z, rfl, line_of hl, _, rfl, rfl, _, rfl, ?_⟩
  rw [decide_eq_true rfl]
  refine iteT ⟨_, rfl, z, rfl, fun D nD => ?_⟩
  refine lc_it walk_str (fun i H' => Same H H' ∧ H' D = some (.lst ((List.replicate i true).map V.bl))) ⟨same_new nD, upd_same⟩ (fun _ _ _ _ => trivial) ?_ ?_
  · rintro i x H1 H2 hi ⟨s, hD⟩ ⟨rfl, c, hc, rfl⟩
    refine ⟨rfl, yesI ⟨_, rfl, (by show 2 ≤ sizeLine; decide), fun t nt => ?_⟩⟩
    have nDt : D ≠ t := ne_of_none hD nt
    refine ⟨t, _, rfl, .inr (tup_at upd_same), rfl, rfl, (List.replicate i true).map V.bl, by rw [upd_ne nDt]; exact hD, ?_, (s.new nt).mut nD, ?_⟩
    · rw [List.length_map, List.length_replicate]
      have : i < z.length := hi
      exact small1000 (by omega)
    · rw [upd_same]
      have hm : c ∈ cl z := Array.mem_toList_iff.mpr (Array.mem_of_getElem? hc)
      have e : inV (.str ⟨#[c]⟩) [.str "0", .str "1"] = true := by
        rcases hb c hm with e | e
        · rw [e]; decide +kernel
        · rw [e]; decide +kernel
      show some (HO.lst _) = _
      rw [List.replicate_succ', List.map_append]
      show some (HO.lst ((List.replicate i true).map V.bl ++ [V.bl (inV (.str ⟨#[c]⟩) [.str "0", .str "1"])])) = _
      rw [e]
      rfl
  · rintro H' ⟨s, hD⟩
    refine ⟨D, _, rfl, seq_at hD, ?_⟩
    rw [show (List.replicate z.cps.size true).all id = true from by simp]
    exact q H' s
end
end K38


set_option Elab.async false
set_option linter.all false
set_option maxRecDepth 100000
set_option maxHeartbeats 4000000
/-! canonical, checked_words -/
namespace K38
open PySem PySem.Spec PyProof.Rows L2
theorem putK_len {kvs : List (Key × V)} {k : Key} {v : V} : (putK kvs k v).length ≤ kvs.length + 1 := by
  unfold putK
  split
  · rw [List.length_map]; omega
  · rw [List.length_append, List.length_singleton]; omega
/-- tuples at these addresses -/
def Tups (H : Hp) (ts : List Addr) (us : List (List V)) : Prop := ts.length = us.length ∧ ∀ (i : Nat) (t : Addr) (u : List V), ts[i]? = some t → us[i]? = some u → H t = some (.tup u)
theorem Tups.same {H H' : Hp} {ts : List Addr} {us : List (List V)} (h : Tups H ts us) (s : Same H H') : Tups H' ts us := ⟨h.1, fun i t u a b => s _ _ (h.2 i t u a b)⟩
theorem Tups.nil {H : Hp} : Tups H [] [] := ⟨rfl, fun i t u a _ => by simp at a⟩
theorem Tups.snoc {H : Hp} {ts : List Addr} {us : List (List V)} {t : Addr} {u : List V} (h : Tups H ts us) (e : H t = some (.tup u)) : Tups H (ts ++ [t]) (us ++ [u]) := by
  refine ⟨by rw [List.length_append, List.length_append, h.1]; rfl, fun i t' u' a b => ?_⟩
  by_cases hi : i < ts.length
  · rw [List.getElem?_append_left hi] at a
    rw [List.getElem?_append_left (by rw [← h.1]; exact hi)] at b
    exact h.2 i t' u' a b
  · have l1 : i < (ts ++ [t]).length := (List.getElem?_eq_some_iff.mp a).1
    rw [List.length_append, List.length_singleton] at l1
    have ei : i = ts.length := by omega
    subst ei
    rw [List.getElem?_append_right (Nat.le_refl _), Nat.sub_self] at a
    rw [h.1, List.getElem?_append_right (Nat.le_refl _), Nat.sub_self] at b
    have e1 : t = t' := by simpa using a
    have e2 : u = u' := by simpa using b
    rw [← e1, ← e2]
    exact e
theorem Tups.mut {H : Hp} {ts : List Addr} {us : List (List V)} {p : Addr} {o : HO} (h : Tups H ts us) (n : ∀ xs, H p ≠ some (.tup xs)) : Tups (upd H p o) ts us := ⟨h.1, fun i t u a b => by
  have e := h.2 i t u a b
  have ne : t ≠ p := fun q => n u (by rw [← q]; exact e)
  rw [upd_ne ne]
  exact e⟩
section
variable {P : Program} {w : World} {K : PySem.W.Frag} {mg : Str → Option Value} {base : Heap}
/-! ### canonical -/
def spCanonical (K : PySem.W.Frag) : Sp := fun vs H Q _ => ∃ (a : Addr) (ls : List Int), vs = [.ref a] ∧ SqT K H a (ls.map V.int) ∧ (∀ l ∈ ls, 0 ≤ l ∧ l ≤ 60) ∧ ls.length ≤ 60 ∧
  ∀ (H' : Hp) (r : Addr) (ws : List Str), Same H H' → SqT K H' r (ws.map V.str) → ws.length = ls.length → Q (.ref r) H'
theorem ok_canonical (T : Tx K mg) : Cal P w K mg base CX0 2 "canonical" ["lengths"] (spCanonical K) := by
  have c_two_power := ok_two_power (P := P) (w := w) (base := base) T
  have c_bits_of := ok_bits_of (P := P) (w := w) (base := base) T
  refine cal_of T.g_canonical T.f_canonical sc_canonical (fun _ _ _ _ _ _ us hl => match us, hl with | [_], _ => rfl) (fun vs H Q E ⟨a, ls, e, _⟩ => by rw [e]; rfl) (fun fd cdv A outer s H vs Q E hr h => ?_)
  obtain ⟨a, ls, rfl, hA, h60, hn, q⟩ := h
  refine ⟨_, (pss_cons (ps_asg (pe_tup (pa_cons pe_dnewK (pa_cons pe_int (pa_cons pe_int pa_nil)))) (pg_tup rfl (pgs_cons (pg_name (i := 1) sc_canonical.nd rfl (Or.inr rfl)) (pgs_cons (pg_name (i := 2) sc_canonical.nd rfl (Or.inl rfl)) (pgs_cons (pg_name (i := 3) sc_canonical.nd rfl (Or.inl rfl)) pgs_nil)))))
    (pss_cons (ps_for PassesOwn.never rfl (pi_list (pe_callB cr_sortedP (by rfl) T.b_sorted (by decide +kernel) (pa_cons (pe_lc (own := [("sign", 5), ("length", 4)]) (g := gTup K 2 (gCons (gName 5) (gCons (gName 4) gNil))) (tt := tYes) rfl sc_canonical.nd (pi_enumT rfl T.b_enumerate (pa_cons (pv 0) pa_nil)) (blkOk_by (own := [("sign", 5), ("length", 4)]) (N := n_canonical) (sc := defScope s_canonical) (by decide +kernel)) (fun _ _ _ _ _ => (pg_tup rfl (pgs_cons (pg_name (i := 5) sc_canonical.nd rfl (Or.inl rfl)) (pgs_cons (pg_name (i := 4) sc_canonical.nd rfl (Or.inl rfl)) pgs_nil)))) (fun _ _ _ _ _ => pts_nil) (fun _ _ _ _ _ => (pe_tup (pa_cons (pv 4) (pa_cons (pv 5) pa_nil))))) pa_nil))) (pg_tup rfl (pgs_cons (pg_name (i := 4) sc_canonical.nd rfl (Or.inl rfl)) (pgs_cons (pg_name (i := 5) sc_canonical.nd rfl (Or.inl rfl)) pgs_nil)))
      (pss_cons (ps_set (i := 2) sc_canonical.nd rfl (Or.inl rfl) (pe_op op_mul (pv 2) (pe_cal c_two_power (hr.mono (by decide)) rfl pass0 (pa_cons (pe_op op_sub (pv 4) (pv 3)) pa_nil))))
      (pss_cons (ps_set (i := 3) sc_canonical.nd rfl (Or.inl rfl) (pv 4))
      (pss_cons (ps_dput (hu_of hr) (pv 1) (pv 5) (pe_cal c_bits_of (hr.mono (by decide)) rfl pass0 (pa_cons (pv 2) (pa_cons (pv 3) pa_nil))) rfl)
      (pss_one (ps_aug (i := 2) sc_canonical.nd rfl (Or.inl rfl) pe_int ip_add))))))
    (pss_one (ps_ret (pe_callTy call_tuple_of (by rfl) T.b_tuple (by decide +kernel) (pa_cons (pe_lc (own := [("sign", 5)]) (g := gName 5) (tt := tYes) rfl sc_canonical.nd (pi_range1 rfl T.b_range (pa_cons (pe_callB call_len_seq (by rfl) T.b_len (by decide +kernel) (pa_cons (pv 0) pa_nil)) pa_nil)) (blkOk_by (own := [("sign", 5)]) (N := n_canonical) (sc := defScope s_canonical) (by decide +kernel)) (fun _ _ _ _ _ => (pg_name (i := 5) sc_canonical.nd rfl (Or.inl rfl))) (fun _ _ _ _ _ => pts_nil) (fun _ _ _ _ _ => (pe_dget (hu_of hr) (pv 1) (pv 5) (fun _ _ => rfl)))) pa_nil)))))), ?_⟩
  intro d nd
  refine ⟨(by show 3 ≤ sizeLine; decide), fun p np => ?_⟩
  have ndp : d ≠ p := fun e => by rw [← e, upd_same] at np; cases np
  have sm1 : Same H (upd (upd H d (.dK [])) p (.tup [.ref d, .int 0, .int 0])) := (same_new nd).new np
  have hd1 : upd (upd H d (.dK [])) p (.tup [.ref d, .int 0, .int 0]) d = some (.dK []) := by rw [upd_ne ndp, upd_same]
  revert sm1 hd1
  generalize eH1 : upd (upd H d (.dK [])) p (.tup [.ref d, .int 0, .int 0]) = H1
  intro sm1 hd1
  have hp1 : H1 p = some (.tup [.ref d, .int 0, .int 0]) := by rw [← eH1, upd_same]
  refine ⟨p, _, rfl, tup_at hp1, rfl, _, _, rfl, _, _, rfl, _, _, rfl, rfl, ?_⟩
  refine ⟨_, rfl, a, _, rfl, sm1.tup hA, fun D nD => ?_⟩
  refine lc_it walk_enumT (fun i H' => Same H1 H' ∧ ∃ ts : List Addr, H' D = some (.lst (ts.map V.ref)) ∧ Tups H' ts ((ls.zipIdx.take i).map fun z => [.int z.1, .int (z.2 : Int)])) ⟨same_new nD, [], upd_same, Tups.nil⟩
    (fun i H' _ p => p.1.tup (sm1.tup hA)) ?_ ?_
  · rintro i x H2 H3 hi ⟨s2, ts, hD, hT⟩ ⟨t, u, v, rfl, nt, rfl, hu, hv⟩
    obtain ⟨l, hl, rfl⟩ := getI hv
    obtain rfl : u = .int (i : Nat) := (Option.some.inj hu).symm
    refine ⟨t, _, rfl, tup_at upd_same, rfl, _, _, rfl, _, _, rfl, rfl, rfl, yesI ?_⟩
    refine ⟨_, rfl, _, rfl, (by show 2 ≤ sizeLine; decide), fun t2 nt2 => ?_⟩
    have nDt : D ≠ t := ne_of_none hD nt
    have hD3 : upd H2 t (.tup [.int (i : Nat), .int l]) D = some (.lst (ts.map V.ref)) := by rw [upd_ne nDt]; exact hD
    have nDt2 : D ≠ t2 := ne_of_none hD3 nt2
    have hlen : ts.length = i := by
      rw [hT.1, List.length_map, List.length_take, List.length_zipIdx]
      rw [List.length_map] at hi
      omega
    have hlen60 : i < 60 := by rw [List.length_map] at hi; omega
    refine ⟨ts.map V.ref, by rw [upd_ne nDt2]; exact hD3, by rw [List.length_map, hlen]; exact small1000 (by omega), ((s2.new nt).new nt2).mut nD, ts ++ [t2], by rw [upd_same, List.map_append]; rfl, ?_⟩
    have e1 : (ls.zipIdx.take (i + 1)).map (fun z => ([.int z.1, .int (z.2 : Int)] : List V)) = (ls.zipIdx.take i).map (fun z => [.int z.1, .int (z.2 : Int)]) ++ [[.int l, .int (i : Int)]] := by
      rw [List.take_add_one, List.map_append, List.getElem?_zipIdx, hl]
      simp
    rw [e1]
    refine ((((hT.same (same_new nt)).same (same_new nt2)).snoc upd_same).mut fun xs e => ?_)
    rw [upd_ne nDt2, hD3] at e
    cases e
  · rintro H2 ⟨s2, ts, hD, hT⟩
    rw [List.length_map, show ls.zipIdx.take ls.length = ls.zipIdx from List.take_of_length_le (by rw [List.length_zipIdx]; exact Nat.le_refl _)] at hT
    have lts : ts.length = ls.length := by rw [hT.1, List.length_map, List.length_zipIdx]
    have tup_of : ∀ {i : Nat} {t : Addr}, ts[i]? = some t → ∃ l, ls[i]? = some l ∧ H2 t = some (.tup [.int l, .int (i : Int)]) := fun {i t} ht => by
      have hi : i < ls.length := by rw [← lts]; exact (List.getElem?_eq_some_iff.mp ht).1
      refine ⟨ls[i], List.getElem?_eq_getElem hi, hT.2 i t _ ht ?_⟩
      rw [List.getElem?_map, List.getElem?_zipIdx, List.getElem?_eq_getElem hi]
      simp
    refine ⟨D, _, rfl, seq_at hD, fun x hx => ?_, fun ys p2 pm np2 => ?_⟩
    · obtain ⟨t, ht, rfl⟩ := List.mem_map.mp hx
      obtain ⟨i, hi⟩ := List.getElem?_of_mem ht
      obtain ⟨l, _, e⟩ := tup_of hi
      exact ⟨t, _, _, rfl, e⟩
    have s3 : Same H1 (upd H2 p2 (.lst ys)) := s2.new np2
    have hp2 : upd H2 p2 (.lst ys) p2 = some (.lst ys) := upd_same
    have tup_of3 : ∀ {i : Nat} {t : Addr}, ts[i]? = some t → ∃ l, ls[i]? = some l ∧ upd H2 p2 (.lst ys) t = some (.tup [.int l, .int (i : Int)]) := fun {i t} ht => by
      obtain ⟨l, h1, h2⟩ := tup_of ht
      exact ⟨l, h1, (same_new np2) _ _ h2⟩
    revert s3 hp2 tup_of3
    generalize upd H2 p2 (.lst ys) = H3
    intro s3 hp2 tup_of3
    have hd3 := s3 _ _ hd1
    have lys : ys.length = ls.length := by rw [pm.length_eq, List.length_map, lts]
    refine ⟨p2, rfl, ⟨_, seq_at hp2⟩, ?_⟩
    refine for_it (walk_list (xs := ys)) (fun j σ H' => ∃ (n z : Int) (x y : Option V) (kvs : List (Key × V)), σ = [some (.ref a), some (.ref d), some (.int n), some (.int z), x, y] ∧ Px d H3 H' ∧ H' d = some (.dK kvs) ∧ kvs.length ≤ j ∧ 0 ≤ z ∧ z ≤ 60 ∧
        (∀ k v, valV kvs k = some v → ∃ b, v = .str b) ∧ ∀ (k i : Nat) (t : Addr), k < j → ys[k]? = some (.ref t) → ts[i]? = some t → ∃ v, valV kvs (.inl (i : Int)) = some v)
      ⟨0, 0, none, none, [], rfl, Px.refl _ _, hd3, Nat.le_refl _, by decide, by decide, fun k v e => (by cases e), fun k i t hk => absurd hk (Nat.not_lt_zero _)⟩ (fun j σ H' _ ⟨_, _, _, _, _, _, px, _⟩ => seq_at (px _ _ (fun e => by rw [e, hd3] at hp2; cases hp2) hp2)) ?_ ?_
    · rintro j x σ H4 H5 hj ⟨n, z, x1, x2, kvs, rfl, px, hd, hl, z0, z60, hstr, hall⟩ ⟨rfl, hx⟩
      have hxm : x ∈ ts.map V.ref := pm.mem_iff.mp (List.mem_of_getElem? hx)
      obtain ⟨t, ht, rfl⟩ := List.mem_map.mp hxm
      obtain ⟨i, hi⟩ := List.getElem?_of_mem ht
      obtain ⟨l, hli, e3⟩ := tup_of3 hi
      have ntd : t ≠ d := fun e => by rw [e, hd3] at e3; cases e3
      have et : H5 t = some (.tup [.int l, .int (i : Int)]) := px _ _ ntd e3
      obtain ⟨l0, l60⟩ := h60 l (List.mem_of_getElem? hli)
      refine ⟨t, _, rfl, tup_at et, rfl, _, _, rfl, _, _, rfl, rfl, ?_⟩
      refine ⟨_, rfl, _, rfl, _, rfl, _, _, rfl, rfl, _, rfl, (by omega), fun H6 s6 => ?_⟩
      have pb : (1 : Int) ≤ 2 ^ (l - z).toNat := pow_ge_one (by decide) _
      have pb2 := pow_le_pow2 (show (l - z).toNat ≤ 60 by omega)
      refine ⟨_, _, rfl, rfl, .inr ⟨by omega, by omega⟩, _, rfl, ?_⟩
      refine ⟨_, rfl, _, rfl, _, l, rfl, l0, (by omega), fun H7 b s7 => ?_⟩
      have hd7 : H7 d = some (.dK kvs) := s7 _ _ (s6 _ _ hd)
      refine ⟨_, rfl, _, rfl, d, _, rfl, DPut.k (k := Sum.inl (i : Int)) hd7 (small1000 (by rw [lys] at hj; omega)), ?_⟩
      refine ⟨_, rfl, _, _, rfl, rfl, ?_⟩
      refine ⟨_, l, _, _, putK kvs (.inl (i : Int)) (.str b), rfl, ((px.trans (Px.of s6)).trans (Px.of s7)).upd, upd_same, ?_, l0, l60, fun k v e => ?_, fun k i2 t2 hk hyk hi2 => ?_⟩
      · have := putK_len (kvs := kvs) (k := Sum.inl (i : Int)) (v := .str b)
        omega
      · rw [valV_put] at e
        split at e
        · exact ⟨b, (Option.some.inj e).symm⟩
        · exact hstr k v e
      · rw [valV_put]
        split
        · exact ⟨_, rfl⟩
        · rename_i ne
          by_cases e : k = j
          · rw [e, hx] at hyk
            have e2 : t = t2 := V.ref.inj (Option.some.inj hyk)
            rw [← e2] at hi2
            obtain ⟨l', _, e4⟩ := tup_of3 hi2
            rw [e3] at e4
            have e5 := congrArg (fun o : HO => match o with | .tup [_, .int m] => some m | _ => none) (Option.some.inj e4)
            have e6 : ((i : Nat) : Int) = (i2 : Int) := Option.some.inj e5
            exact absurd (by rw [e6]) ne
          · exact hall k i2 t2 (by omega) hyk hi2
    · rintro σ H4 ⟨n, z, x1, x2, kvs, rfl, px, hd, hl, z0, z60, hstr, hall⟩
      have all : ∀ i : Nat, i < ls.length → ∃ b, valV kvs (.inl (i : Int)) = some (.str b) := fun i hi => by
        have ht : ts[i]? = some ts[i] := List.getElem?_eq_getElem (by rw [lts]; exact hi)
        have hm : V.ref ts[i] ∈ ys := pm.mem_iff.mpr (List.mem_map.mpr ⟨_, List.mem_of_getElem? ht, rfl⟩)
        obtain ⟨k, hk⟩ := List.getElem?_of_mem hm
        obtain ⟨v, hv⟩ := hall k i _ ((List.getElem?_eq_some_iff.mp hk).1) hk ht
        obtain ⟨b, rfl⟩ := hstr _ _ hv
        exact ⟨b, hv⟩
      have sm4 : Same H H4 := fun b o e => by
        have nb : b ≠ d := ne_of_none e nd
        exact px _ _ nb (s3 _ _ (sm1 _ _ e))
      refine ⟨_, rfl, a, _, rfl, .inr (sm4.tup hA), ?_⟩
      refine ⟨_, rfl, (by rw [List.length_map]; omega), (by rw [List.length_map]; omega), fun D2 nD2 => ?_⟩
      have nDd : D2 ≠ d := fun e => by rw [e, hd] at nD2; cases nD2
      refine lc_it walk_range (fun i H' => Same H4 H' ∧ ∃ ws : List Str, H' D2 = some (.lst (ws.map V.str)) ∧ ws.length = i) ⟨same_new nD2, [], upd_same, rfl⟩ (fun _ _ _ _ => trivial) ?_ ?_
      · rintro i x H5 H6 hi ⟨s5, ws, hD5, hw⟩ ⟨rfl, rfl⟩
        rw [List.length_map] at hi
        have hi' : i < ls.length := by omega
        obtain ⟨b, hb⟩ := all i hi'
        refine ⟨rfl, yesI ⟨_, rfl, _, rfl, d, .str b, rfl, ?_, ?_⟩⟩
        · have g := DGet.k (k := Sum.inl (0 + (i : Int))) (s5 _ _ hd)
          rw [Int.zero_add, hb] at g
          show DGet H6 d (.int (0 + (i:Int))) _
          rw [Int.zero_add]
          exact g
        · exact ⟨_, hD5, by rw [List.length_map]; exact small1000 (by omega), s5.mut nD2, ws ++ [b], by rw [upd_same, List.map_append]; rfl, by rw [List.length_append, hw]; rfl⟩
      · rintro H5 ⟨s5, ws, hD5, hw⟩
        refine ⟨D2, _, rfl, .inl ⟨seq_at hD5, fun r nr => ?_⟩⟩
        refine q _ r ws ((sm4.trans s5).new nr) (tup_at upd_same) ?_
        rw [hw, List.length_map]
        omega
end
end K38


set_option Elab.async false
set_option linter.all false
set_option maxRecDepth 100000
set_option maxHeartbeats 4000000
/-! checked_words; Code; code_of -/
namespace K38
open PySem PySem.Spec PyProof.Rows L2 M38
theorem cut_to {xs : List V} {k : Nat} : cutV xs none (some (k : Int)) = xs.take k := by
  unfold cutV
  rw [HT.sIx_nat, HT.sIx_none, List.drop_zero, Nat.sub_zero]
  by_cases h : k ≤ xs.length
  · rw [Nat.min_eq_left h]
  · rw [Nat.min_eq_right (by omega), List.take_of_length_le (Nat.le_refl _), List.take_of_length_le (by omega)]
theorem cut_from {xs : List V} {k : Nat} : cutV xs (some (k : Int)) none = xs.drop k := by
  unfold cutV
  rw [HT.sIx_nat, HT.sIx_none]
  by_cases h : k ≤ xs.length
  · rw [Nat.min_eq_left h, List.take_of_length_le (by rw [List.length_drop]; exact Nat.le_refl _)]
  · rw [Nat.min_eq_right (by omega), List.drop_of_length_le (Nat.le_refl _), List.drop_of_length_le (show xs.length ≤ k by omega), List.take_nil]
/-- a slice of a list or a tuple -/
theorem sl_seq {X : Cx} : L2.SlR X (fun x lo hi H Q => rSlL X.K x lo hi H Q ∨ rSlA X.K x lo hi H Q) := sl_list.or sl_tupA
/-- natural numbers as values -/
abbrev nI (l : Nat) : V := .int (l : Int)
theorem getN {ns : List Nat} {i : Nat} {v : V} (h : (ns.map nI)[i]? = some v) : ∃ n, ns[i]? = some n ∧ v = .int (n : Int) := by
  rw [List.getElem?_map] at h
  cases e : ns[i]? with
  | none =>
    rw [e] at h
    cases h
  | some n =>
    rw [e] at h
    exact ⟨n, rfl, (Option.some.inj h).symm⟩
/-- the two sides of a pairing differ in place -/
theorem pf_next {ws : List Str} (h : PF ws) {i : Nat} {u v : Str} (hu : ws[i]? = some u) (hv : (ws.drop 1)[i]? = some v) : Np u v := by
  rw [List.getElem?_drop] at hv
  obtain ⟨h1, e1⟩ := List.getElem?_eq_some_iff.mp hu
  obtain ⟨h2, e2⟩ := List.getElem?_eq_some_iff.mp hv
  rw [← e1, ← e2]
  exact (List.pairwise_iff_getElem.mp h) i (1 + i) h1 h2 (by omega)
section
variable {P : Program} {w : World} {K : PySem.W.Frag} {mg : Str → Option Value} {base : Heap}
/-! ### checked_words -/
def spCheckedWords (K : PySem.W.Frag) : Sp := fun vs H Q _ => ∃ (a b : Addr) (ws : List Str), vs = [.ref a, .ref b] ∧ SqT K H a ((ws.map Str.length).map nI) ∧ SqL K H b (ws.map V.str) ∧ (∀ w ∈ ws, Bw w) ∧ PF ws ∧ ws.length ≤ 60 ∧ (∀ w ∈ ws, w.length ≤ 60) ∧
  ∀ (H' : Hp) (r : Addr), Same H H' → SqT K H' r (ws.map V.str) → Q (.ref r) H'
theorem ok_checked_words (T : Tx K mg) : Cal P w K mg base CX0 2 "checked_words" ["lengths", "words"] (spCheckedWords K) := by
  have c_is_bits := ok_is_bits (P := P) (w := w) (base := base) T
  refine cal_of T.g_checked_words T.f_checked_words sc_checked_words (fun _ _ _ _ _ _ us hl => match us, hl with | [_, _], _ => rfl) (fun vs H Q E ⟨a, b, ls, e, _⟩ => by rw [e]; rfl) (fun fd cdv A outer s H vs Q E hr h => ?_)
  obtain ⟨a, b, ws, rfl, hA, hB, hbw, hpf, hn, h60, q⟩ := h
  refine ⟨_, (pss_cons (ps_for PassesOwn.never rfl (pi_enumT rfl T.b_enumerate (pa_cons (pv 0) pa_nil)) (pg_tup rfl (pgs_cons (pg_name (i := 2) sc_checked_words.nd rfl (Or.inl rfl)) (pgs_cons (pg_name (i := 3) sc_checked_words.nd rfl (Or.inl rfl)) pgs_nil)))
      (pss_one (ps_if (pt_not (pt_val (pe_cal c_is_bits (hr.mono (by decide)) rfl pass0 (pa_cons (pe_ix ix_list (pv 1) (pv 2) (fun _ _ => rfl)) (pa_cons (pv 3) pa_nil)))))
        (pss_one ps_never)
        pss_nil)))
    (pss_cons (ps_set (i := 4) sc_checked_words.nd rfl (Or.inl rfl) (pe_callB cr_sortedS (by rfl) T.b_sorted (by decide +kernel) (pa_cons (pv 1) pa_nil)))
    (pss_cons (ps_if (pt_val (pe_callB (cr_any rfl) (by rfl) T.b_any (by decide +kernel) (pa_cons (pe_lc (own := [("word", 5), ("after", 6)]) (g := gTup K 2 (gCons (gName 5) (gCons (gName 6) gNil))) (tt := tYes) rfl sc_checked_words.nd (pi_zipM rfl T.b_zip (pa_cons (pv 4) (pa_cons (pe_slice sl_list (pv 4) (po_some pe_int) po_none) pa_nil))) (blkOk_by (own := [("word", 5), ("after", 6)]) (N := n_checked_words) (sc := defScope s_checked_words) (by decide +kernel)) (fun _ _ _ _ _ => (pg_tup rfl (pgs_cons (pg_name (i := 5) sc_checked_words.nd rfl (Or.inl rfl)) (pgs_cons (pg_name (i := 6) sc_checked_words.nd rfl (Or.inl rfl)) pgs_nil)))) (fun _ _ _ _ _ => pts_nil) (fun _ _ _ _ _ => (pe_m1 PySem.F.slot_str_startswith PySem.F.type_str_startswith mt_startswith (pv 6) (pv 5)))) pa_nil)))
      (pss_one ps_never)
      pss_nil)
    (pss_one (ps_ret (pe_callTy call_tuple_of (by rfl) T.b_tuple (by decide +kernel) (pa_cons (pv 1) pa_nil))))))), ?_⟩
  refine ⟨_, rfl, a, _, rfl, hA, ?_⟩
  refine for_it walk_enumT (fun i σ H' => ∃ x y, σ = [some (.ref a), some (.ref b), x, y, none, none, none] ∧ Same H H') ⟨none, none, rfl, .refl H⟩ (fun i σ H' _ ⟨_, _, _, s⟩ => s.tup hA) ?_ ?_
  · rintro i x σ H1 H2 hi ⟨y1, y2, rfl, s⟩ ⟨t, u, v, rfl, nt, rfl, hu, hv⟩
    obtain ⟨n, hn2, rfl⟩ := getN hv
    rw [List.getElem?_map] at hn2
    cases hz : ws[i]? with
    | none => rw [hz] at hn2; cases hn2
    | some z =>
    rw [hz] at hn2
    obtain rfl : z.length = n := Option.some.inj hn2
    obtain rfl : u = .int (i : Nat) := (Option.some.inj hu).symm
    have hzm := List.mem_of_getElem? hz
    have s2 : Same H (upd H1 t (.tup [.int (i : Nat), .int z.length])) := s.new nt
    refine ⟨t, _, rfl, tup_at upd_same, rfl, _, _, rfl, _, _, rfl, rfl, ?_⟩
    refine ⟨_, rfl, _, rfl, b, _, _, _, rfl, rfl, s2.seq hB, atI_nat (mapS hz), _, rfl, z, rfl, hbw z hzm, by have := h60 z hzm; omega, fun H3 s3 => ?_⟩
    exact ⟨_, rfl, iteF ⟨_, _, rfl, s2.trans s3⟩⟩
  · rintro σ H2 ⟨y1, y2, rfl, s⟩
    refine ⟨_, rfl, b, ws, rfl, s.seq hB, by omega, fun ys p pm _ np => ?_⟩
    have s2 : Same H (upd H2 p (.lst (ys.map V.str))) := s.new np
    have hp : upd H2 p (.lst (ys.map V.str)) p = some (.lst (ys.map V.str)) := upd_same
    revert s2 hp
    generalize upd H2 p (.lst (ys.map V.str)) = H3
    intro s2 hp
    have hpf2 : PF ys := hpf.perm pm.symm
    refine ⟨_, rfl, _, rfl, _, rfl, p, _, rfl, seq_at hp, fun p2 np2 => ?_⟩
    rw [show (some (1 : Int)) = some ((1 : Nat) : Int) from rfl, cut_from]
    have np3 : p ≠ p2 := ne_of_none hp np2
    refine ⟨true, true, p, p2, _, _, rfl, seq_at (by rw [upd_ne np3]; exact hp), seq_at upd_same, fun D nD => ?_⟩
    have s4 : Same H3 (upd H3 p2 (.lst ((ys.map V.str).drop 1))) := same_new np2
    have hp2 : upd H3 p2 (.lst ((ys.map V.str).drop 1)) p2 = some (.lst ((ys.map V.str).drop 1)) := upd_same
    revert s4 hp2 nD
    generalize upd H3 p2 (.lst ((ys.map V.str).drop 1)) = H4
    intro nD s4 hp2
    have hp4 := s4 _ _ hp
    have nDp : p ≠ D := ne_of_none hp4 nD
    have nDp2 : p2 ≠ D := ne_of_none hp2 nD
    refine lc_it (walk_zipM rfl) (fun i H' => Same H4 H' ∧ H' D = some (.lst ((List.replicate i false).map V.bl))) ⟨same_new nD, upd_same⟩
      (fun i H' _ q => ⟨seq_at (q.1 _ _ hp4), seq_at (q.1 _ _ hp2)⟩) ?_ ?_
    · rintro i x H5 H6 hi ⟨s5, hD⟩ ⟨t, u, v, rfl, nt, rfl, hu, hv⟩
      obtain ⟨z1, hz1, rfl⟩ := getS hu
      rw [← List.map_drop] at hv
      obtain ⟨z2, hz2, rfl⟩ := getS hv
      have nDt : D ≠ t := ne_of_none hD nt
      refine ⟨t, _, rfl, tup_at upd_same, rfl, _, _, rfl, _, _, rfl, rfl, rfl, yesI ?_⟩
      refine ⟨_, rfl, ⟨_, rfl⟩, _, rfl, z2, z1, rfl, rfl, ?_⟩
      have e : Txt.startswith z2 z1 = false := by
        cases h : Txt.startswith z2 z1 with
        | false => rfl
        | true => exact absurd ((starts_iff _ _).mp h) (pf_next hpf2 hz1 hz2).1
      rw [e]
      refine ⟨(List.replicate i false).map V.bl, by rw [upd_ne nDt]; exact hD, ?_, (s5.new nt).mut nD, ?_⟩
      · rw [List.length_map, List.length_replicate]
        rw [List.length_map, pm.length_eq] at hi
        exact small1000 (by omega)
      · rw [upd_same, List.replicate_succ', List.map_append]
        rfl
    · rintro H5 ⟨s5, hD⟩
      refine ⟨D, _, rfl, seq_at hD, _, rfl, ?_⟩
      rw [show ∀ n, (List.replicate n false).any id = false from fun n => by simp]
      exact iteF ⟨_, rfl, b, ws.map V.str, rfl, .inl ⟨((s2.trans s4).trans s5).seq hB, fun r nr => q _ r (((s2.trans s4).trans s5).new nr) (tup_at upd_same)⟩⟩
/-! ### Code -/
/-- a code: its lengths, its words -/
def codF (A B : Addr) (n : Nat) (m : Int) : List (Str × V) := [("lengths", .ref A), ("words", .ref B), ("size", nI n), ("longest", .int m)]
structure CodeAt (K : PySem.W.Frag) (H : Hp) (r : Addr) (ls : List Nat) (ws : List Str) : Prop where
  ex : ∃ (dx A B : Addr) (m : Int), H r = some (.ins (He.ga K "Code") dx (codF A B ls.length m)) ∧ SqT K H A (ls.map nI) ∧ SqT K H B (ws.map V.str)
theorem CodeAt.same {H H' : Hp} {r : Addr} {ls : List Nat} {ws : List Str} (h : CodeAt K H r ls ws) (s : Same H H') : CodeAt K H' r ls ws := by
  obtain ⟨dx, A, B, m, a, b, c⟩ := h.ex
  exact ⟨dx, A, B, m, s _ _ a, s.tup b, s.tup c⟩
theorem CodeAt.va {H : Hp} {r : Addr} {ls : List Nat} {ws : List Str} (h : CodeAt K H r ls ws) : Va K H (.ref r) := by
  obtain ⟨dx, A, B, m, a, b, c⟩ := h.ex
  exact .cod a
/-- what is made stays; all else stays -/
theorem same_made {H H' : Hp} {x dx : Addr} {o : HO} (nx : H x = none) (nd : H dx = none) (h : Px x (upd (upd H dx (.own x)) x o) H') : Same H H' := fun b u e => by
  have n1 : b ≠ x := ne_of_none e nx
  have n2 : b ≠ dx := ne_of_none e nd
  exact h b u n1 (by rw [upd_ne n1, upd_ne n2]; exact e)
def spCodeInit (K : PySem.W.Frag) : Sp := fun vs H Q _ => ∃ (x dx a : Addr) (wv : V) (ls : List Nat) (tgt : Option (List Str)), vs = [.ref x, .ref a, wv] ∧ H x = some (.ins (He.ga K "Code") dx []) ∧ H a = some (.lst (ls.map nI)) ∧ 2 ≤ ls.length ∧ ls.length ≤ 60 ∧ (∃ D, Full D ls) ∧ (∀ l ∈ ls, 1 ≤ l ∧ l ≤ 60) ∧
  ((wv = .non ∧ tgt = none) ∨ ∃ b ws, wv = .ref b ∧ tgt = some ws ∧ H b = some (.lst (ws.map V.str)) ∧ ls = ws.map Str.length ∧ (∀ w ∈ ws, Bw w) ∧ PF ws) ∧
  ∀ (H' : Hp) (ws : List Str), Px x H H' → CodeAt K H' x ls ws → ws.length = ls.length → (∀ us, tgt = some us → ws = us) → Q .non H'
end
end K38


set_option Elab.async false
set_option linter.all false
set_option maxRecDepth 100000
set_option maxHeartbeats 4000000
/-! An own exception over an own class over ValueError, whose __init__ begins with super().__init__(..). -/
namespace K38
open PySem PySem.Spec PyProof.Rows L2

/-- the wrapper of ValueError.__init__ bound to e, called -/
theorem call_mwV {prog : Program} {w : World} {A : Around} {E : Value → Shared → Prop} {h : Heap} {g : Array GenState} {d : Drawn} {t : Nat} {os : OsState}
    {nm q : Str} {C N : Addr} {bs bm : List Value} {hdct : Bool} {sn : List Str} {sub : List Value} {ab : Bool} {col : Option Bool} {dd : Option Addr} {k0 k1 k2 k3 k5 : Option Value} {u e t0 : Addr} {rest : List Value} {Q : Value → Shared → Prop}
    (hC : h.get? C = some (excClassObj nm q C N bs bm hdct sn sub ab col dd k0 k1 k2 k3 k5 "ValueError.__new__")) (he : h.get? e = some (HandSPX.excO C t0)) (hu : h.get? u = some (PySem.W.kxs_mw "ValueError.__init__" e)) (hrest : rest.length ≤ sizeLine)
    (hq : ∀ h' t1, (∀ b o, b ≠ e → h.get? b = some o → h'.get? b = some o) → h'.get? e = some (HandSPX.excO C t1) → Q .none ⟨h', g, d, t, os⟩) :
    wpAny (model prog w) A (call (.ref u) rest) Q E ⟨h, g, d, t, os⟩ := by
  refine wpAny_call (codeAny_of_tree ?_)
  show wpAny _ A.in1 (callAny (.ref u) ⟨rest, []⟩) _ _ _
  simp only [callAny]
  refine wpAny_bind (wpAny_load hu ?_)
  simp only [PySem.W.kxs_mw, show (Value.type "method-wrapper" == Value.type "method" || Value.type "method-wrapper" == Value.type "builtin_function_or_method" || Value.type "method-wrapper" == Value.type "method-wrapper") = true by decide, if_true]
  refine PySem.W.KFB.if_so (by decide) ?_
  refine wpAny_bind (PySem.ESX.check_bound F.excBase_ValueError hC he rfl ?_)
  refine wpAny_bind (wpAny_pure (wpAny_pure ?_))
  refine ⟨Code.quiet_builtin _ (by decide +kernel), codeAny_builtin F.excBase_ValueError.initEntry ?_⟩
  rw [Around.under_plainId F.excBase_ValueError.init.plain _]
  wp_walk
  refine hq _ h.objs.size (fun b o hb ho => ?_) ?_
  · rw [Heap.get?_update_other _ _ (Ne.symm hb)]
    exact Heap.get?_push_of_some _ ho
  · rw [Heap.get?_update_self _ (Heap.get?_push_of_some _ he) rfl]
    rfl
/-- what the written part says of such a class's __init__ -/
structure SupF (P : Program) (K : PySem.W.Frag) (C f cda cc : Addr) (fd : FuncData) : Prop where
  lk : ∃ oc od osl, K.lookup f = some ⟨oc, od, .func fd, osl⟩
  lc : ∃ cl dd vs sl file tf, K.lookup cda = some ⟨cl, dd, .fields vs, sl⟩ ∧ vs[2]? = some (.str file tf) ∧ ((P.main.file : Str) == file) = true
  cell : ∃ cl dd sl, K.lookup cc = some ⟨cl, dd, .cell (some (.ref C)), sl⟩
  top : (P.main.scope.names.lookup ("super" : Str)).isSome = false
  free : PySem.W.nsIn K mainGlobals "super" = some none
  opq : PySem.W.nsIn K cStatics "thirdparty.any" = some none
  sup : PySem.W.ks_superIn K C C "__init__" = some (some (.builtin "ValueError.__init__"))
  sub : PySem.W.mroIn K C (.ref C) = some true
  subV : PySem.W.subIn K (.ref C) (.type "ValueError") = some true
theorem mgN {K : PySem.W.Frag} {mg : Str → Option Value} {base : Heap} (m : Mod K mg base) {x : Str} (h : PySem.W.nsIn K mainGlobals x = some none) : mg x = none := PySem.W.mg_none_of m.kin m.glob h
section
variable {X : Cx} {pins : List (Addr × Obj)} {σ : L2.St} {H : Hp} {s : Shared} {C f cda cc a : Addr} {fd : FuncData} {ar : Arg} {body : List Stmt} {p0 p1 p2 p3 p4 : Pos} {e : Expr} {es : List Expr} {ta : TA} {i : Nat}
/-- super().__init__(e, ..), as a statement -/
theorem sup_exec (S : SupF X.prog X.K C f cda cc fd) (T : OexC X.K C) (I : Inv X pins σ H s) (hks : X.env.kindOf "super" = some .globalImplicit) (hkc : X.env.kindOf "__class__" = some .free) (hfu : X.env.func = some f) (hco : X.env.code = .ref cda) (hcl : X.env.cells.lookup ("__class__" : Str) = some cc)
    (hp : (fd.params.posonlyargs ++ fd.params.args).head? = some ar) (hka : X.env.kindOf ar.arg = some .local) (hN : X.N[i]? = some ar.arg) (hσ : σ[i]? = some (some (.ref a))) (ea : H a = some (exo a C none)) (ha : PA X (e :: es) ta)
    {R : Hp → Prop} (hta : ta σ H fun vs H1 => vs.length ≤ 1000 ∧ H1 a = some (exo a C none) ∧ R H1) {Q : Flow → Shared → Prop} (hq : ∀ s' H1, Inv X pins σ H1 s' → R H1 → Q .next s')
    (hi : interactive X.env = false) (hs : swapsWith (.Call (.Attribute (.Call (.Name "super" p0) [] [] p1) "__init__" p2) (e :: es) [] p3) none p4.line X.env = pure false)
    (he : eval (.Call (.Attribute (.Call (.Name "super" p0) [] [] p1) "__init__" p2) (e :: es) [] p3) X.env = (do
      let ov ← attributeBase (.Call (.Name "super" p0) [] [] p1) "__init__" X.env (eval (.Call (.Name "super" p0) [] [] p1) X.env)
      standAt p2.atName
      let (f, first) ← holding [ov] (getMethod ov "__init__" (pure false))
      callWith p3 f first (backTo p3 (starEach (e :: es) X.env)) []))
    (hst : starEach (e :: es) X.env = (false, eval e X.env) :: starEach es X.env := by rfl) (hpl : (backTo p3 (starEach es X.env)).any (·.1) = false := by rfl) :
    PySem.wpAt (model X.prog X.w) X.A (.func body X.env) (exec (.Expr (.Call (.Attribute (.Call (.Name "super" p0) [] [] p1) "__init__" p2) (e :: es) [] p3) p4) X.env) Q X.xe s := by
  obtain ⟨oc, od, osl, lkf⟩ := S.lk
  obtain ⟨cl1, dd1, vs, sl1, file, tf, lkc, hvs, hfile⟩ := S.lc
  obtain ⟨cl2, dd2, sl2, lkl⟩ := S.cell
  obtain ⟨nm, q, N', bs, bm, sn, sub, ab, col, dd, k0, k1, k2, k3, k5, hC, hbm⟩ := T.cls
  have hcl2 : PySem.W.clsIn X.K C = some { name := nm, bases := bs, mro := .ref C :: bm, ns := N', qualname := q, hasDict := true, slotNames := sn, subclasses := sub, abstract := ab, collection := col, hasDel := false } := by unfold PySem.W.clsIn; rw [hC] <;> rfl
  obtain ⟨t1, ho⟩ := exo_at I.hok ea
  refine PySem.ks_wpAt_Expr_any ?_ hi hs
  refine PySem.ks_wpAt_MethodCall (pl := pure false) ?_ he
  refine PySem.ks_wpAt_super_base hks hkc (by decide) hfu (I.kIn _ _ lkf) rfl hp hco (I.kIn _ _ lkc) rfl hvs hfile S.top ?_
  obtain ⟨mb, h1, h2⟩ := I.mod.blt
  refine PySem.W.ks_loadName_global I.ok.kind hks (Calls.loadGlobal_builtin (by rw [I.ok.glob]; exact I.mod.glob.keeps I.bk) (mgN I.mod S.free) (by rw [I.ok.blt]; exact h1.keeps I.bk) ((h2 _ (by decide +kernel)).trans (show bootBuiltins "super" = some (.type "super") by decide +kernel)) ⟨rfl, ?_⟩)
  refine wpAny_loadName_free I.ok.kind hkc hcl ⟨_, I.kIn _ _ lkl, rfl⟩ ?_
  obtain ⟨m, hn, hl⟩ := I.loc
  obtain ⟨u, ru, lk⟩ := hl i ar.arg (.ref a) hN hσ (Or.inl hka)
  obtain rfl : u = .ref a := ru
  have lk2 : m ar.arg = some (.ref a) := by
    rcases lk with ⟨_, z⟩ | ⟨z, _⟩
    · exact z
    · rw [hka] at z
      rcases z with z | z <;> cases z
  refine wpAny_loadName_local I.ok.kind hka hn lk2 ?_
  have Is : PySem.W.InstAt s.heap a { cls := .ref C, dict := none, data := .fields #[.ref t1, .none, .none, .none, .bool false, .none] } C none := ⟨ho, rfl, rfl, trivial⟩
  obtain ⟨hp0, g, d, t, os⟩ := s
  refine PySem.ks_wpAny_isType_cls (I.kIn _ _ hC) rfl ⟨rfl, ?_⟩
  refine PySem.ks_wpAny_call_super (I.kIn _ _ hC) rfl ho rfl (fun c z => by cases z) (PySem.W.looks_mroIn I.kIn S.sub) (fun h' eso k => ?_)
  have I2 : Inv X pins σ H ⟨h', g, d, t, os⟩ := I.kept (t' := t) k
  have hI : PySem.W.Looks (model X.prog X.w) h' (isInstance (.ref a) (.type "ValueError")) true := by
    have Is2 : PySem.W.InstAt h' a { cls := .ref C, dict := none, data := .fields #[.ref t1, .none, .none, .none, .bool false, .none] } C none := ⟨k _ _ ho, rfl, rfl, trivial⟩
    exact Is2.type.andThen (PySem.W.looks_subIn I2.kIn S.subV)
  have hsp := S.sup
  unfold PySem.W.ks_superIn at hsp
  rw [hcl2] at hsp
  refine PySem.W.kxs_getMethod PySem.W.kxs_ValueError eso (PySem.W.looks_opaque I2.kIn S.opq) (l₀ := .ref C :: bm) (fun A Q E s kk q => wpAny_bind ((PySem.W.looks_clsIn I2.kIn hcl2) A _ E s kk (wpAny_pure q))) rfl I2.kIn hsp hI (PySem.W.ks_ne I.kIn Is hcl2) (by decide) ?_
  have I3 : Inv X ((h'.objs.size, PySem.W.kxs_mw "ValueError.__init__" a) :: pins) σ H ⟨h'.push (PySem.W.kxs_mw "ValueError.__init__" a), g, d, t + 1, os⟩ :=
    ClX.pin_new (t' := t + 1) I2 (fun b o z => Heap.get?_push_of_some _ z) (Nat.le_refl _) (Heap.get?_push_at rfl rfl) (fun v z => by cases z)
  show wpAny _ _ (callWith p3 (.ref h'.objs.size) [] (backTo p3 (starEach (e :: es) X.env)) []) _ _ _
  rw [hst]
  refine PySem.W.kxs_callWith (i := "ValueError.__init__") (x := a) (by show (false || (backTo p3 (starEach es X.env)).any (·.1)) = false; rw [hpl]; rfl) ?_
  have hrun := ha.run p3 _ _ σ H _ I3 hta
  rw [hst] at hrun
  refine PySem.Calls.evalArgs_plain (thn hrun fun us s4 ⟨vs4, H1, I4, r, hlen, ea4, hR⟩ => ⟨ClX.pin_at I4, ?_⟩)
  have hlen2 : us.length ≤ sizeLine := by
    rw [← Paired.length r, sizeLine_eq]
    omega
  obtain ⟨t4, ho4⟩ := exo_at I4.hok ea4
  have I5 := ClX.unpin I4
  have hu := ClX.pin_at I4
  obtain ⟨hp4, g4, d4, t4', os4⟩ := s4
  refine call_mwV (I5.kIn _ _ hC) ho4 hu hlen2 fun h5 t5 k5 hx5 => ?_
  have J := I5.write (t' := t4') (x := a) (e := a) (o := exo a C none) (by rw [ea4]; exact True.intro) (.inl rfl) k5 ⟨_, hx5⟩ (exo_ok hx5)
  have eu : upd H1 a (exo a C none) = H1 := by
    funext b
    by_cases hb : b = a
    · rw [hb, upd_same, ea4]
    · rw [upd_ne hb]
  rw [eu] at J
  exact hq _ H1 J hR
end
/-- the context of such an __init__'s body -/
abbrev nfS (qual : Str) (params : Arguments) (body : List Stmt) (scope : Scope) (cda cc : Addr) : NdefX.NF := ⟨"__init__", qual, params, body, scope, [("__class__", cc)], cda⟩
/-- THE RULE: such an __init__ by its body -/
theorem fnok_super {CX : CXT} {P : Program} {w : World} {K : PySem.W.Frag} {mg : Str → Option Value} {base : Heap} {k : Nat} {C f cda cc : Addr} {name qual : Str} {params : Arguments} {scope : Scope} {dV kV doc pm ct : Value} {an : Option Addr} {N ps : List Str} {sp : Sp} {ar : Arg}
    {p0 p1 p2 p3 p4 : Pos} {e : Expr} {es : List Expr} {rest : List Stmt}
    (SF : SupF P K C f cda cc (PySem.W.fnX name qual params (.Expr (.Call (.Attribute (.Call (.Name "super" p0) [] [] p1) "__init__" p2) (e :: es) [] p3) p4 :: rest) scope [("__class__", cc)] dV kV doc pm an (.ref cda) ct))
    (T : OexC K C) (hcd : PySem.W.codeIn K (.ref cda) qual = true) (S : NdefX.NScope N ps ["__class__"] scope) (hks : scope.names.lookup ("super" : Str) = some .globalImplicit)
    (hp : (params.posonlyargs ++ params.args).head? = some ar) (hps : ps[0]? = some ar.arg) (len : ∀ vs H Q E, sp vs H Q E → vs.length = ps.length)
    (hbody : ∀ (A : Around) (outer : List Env) (s : Shared) (H : Hp) (vs : List V) (Q : VK) (E : XK), sp vs H Q E →
      ∃ (a : Addr) (ta : TA) (t : TS), vs.head? = some (.ref a) ∧ H a = some (exo a C none) ∧
        PA (NdefX.ncx CX P w K mg base N (nfS qual params (.Expr (.Call (.Attribute (.Call (.Name "super" p0) [] [] p1) "__init__" p2) (e :: es) [] p3) p4 :: rest) scope cda cc) f A outer s H E) (e :: es) ta ∧
        PSs (NdefX.ncx CX P w K mg base N (nfS qual params (.Expr (.Call (.Attribute (.Call (.Name "super" p0) [] [] p1) "__init__" p2) (e :: es) [] p3) p4 :: rest) scope cda cc) f A outer s H E) rest t ∧
        ta (NdefX.startF N vs [none]) H fun us H1 => us.length ≤ 1000 ∧ H1 a = some (exo a C none) ∧ t { nx := fun _ H' => Q .non H', rt := Q } (NdefX.startF N vs [none]) H1)
    (hpl : ∀ env : Env, (backTo p3 (starEach es env)).any (·.1) = false) (hst : ∀ env : Env, starEach (e :: es) env = (false, eval e env) :: starEach es env)
    (hs : ∀ env : Env, swapsWith (.Call (.Attribute (.Call (.Name "super" p0) [] [] p1) "__init__" p2) (e :: es) [] p3) none p4.line env = pure false) (hi : ∀ L, interactive (NdefX.envF (nfS qual params (.Expr (.Call (.Attribute (.Call (.Name "super" p0) [] [] p1) "__init__" p2) (e :: es) [] p3) p4 :: rest) scope cda cc) f L) = false)
    (he : ∀ env : Env, eval (.Call (.Attribute (.Call (.Name "super" p0) [] [] p1) "__init__" p2) (e :: es) [] p3) env = (do
      let ov ← attributeBase (.Call (.Name "super" p0) [] [] p1) "__init__" env (eval (.Call (.Name "super" p0) [] [] p1) env)
      standAt p2.atName
      let (f, first) ← holding [ov] (getMethod ov "__init__" (pure false))
      callWith p3 f first (backTo p3 (starEach (e :: es) env)) [])) :
    FnOk P w K mg base CX (k + 1) f (PySem.W.fnX name qual params (.Expr (.Call (.Attribute (.Call (.Name "super" p0) [] [] p1) "__init__" p2) (e :: es) [] p3) p4 :: rest) scope [("__class__", cc)] dV kV doc pm an (.ref cda) ct) ps sp := by
  refine ⟨len, fun A outer s H args us vs Q E hr e0 hb r hsp => ?_⟩
  have hl := len _ _ _ _ hsp
  have KX : K.In s.heap := e0.mod.kin.keeps fun b o z => (e0.bs b o z).1
  have lim : s.heap.NoLimit := e0.mod.nolimit.keeps fun b o z => (e0.bs b o z).1
  obtain ⟨oc, od, osl, lk⟩ := SF.lk
  obtain ⟨cl2, dd2, sl2, lkl⟩ := SF.cell
  generalize hF : nfS qual params (.Expr (.Call (.Attribute (.Call (.Name "super" p0) [] [] p1) "__init__" p2) (e :: es) [] p3) p4 :: rest) scope cda cc = F at *
  refine codeAny_call_function hr.depth (KX _ _ lk) rfl S.co S.gen rfl (PySem.W.codeRec_of KX hcd) (hb _ _ _ _ ?_)
  refine wpAny_newFunctionEnv S.nocell (fun ⟨n, _⟩ hy => S.par n (List.of_mem_zip hy).1) (fun h₁ hns hsb => ⟨lim.fresh _ hsb, PySem.ks_codeAny_funcAt ?_⟩) S.kind
  have kp : ∀ b o, s.heap.get? b = some o → h₁.get? b = some o := fun b o z => hsb.extBut b o (Nat.ne_of_lt (Heap.lt_size z)) (Heap.get?_push_of_some _ z)
  have cb : ∃ o, base.get? cc = some o ∧ o.data = .cell (some (.ref C)) := ⟨_, e0.mod.kin _ _ lkl, rfl⟩
  have CA : NdefX.CellsAt F.cl ["__class__"] [none] s.heap H := by
    subst hF
    obtain ⟨o, h1, h2⟩ := cb
    obtain ⟨h3, h4⟩ := e0.bs _ _ h1
    have one : ∀ {y : Str} {c : Addr}, List.lookup y [(("__class__" : Str), cc)] = some c → y = "__class__" ∧ c = cc := fun {y c} z => by
      by_cases hy : y = "__class__"
      · subst hy
        have z2 : some cc = some c := by simpa [List.lookup] using z
        exact ⟨rfl, (Option.some.inj z2).symm⟩
      · have hb : (y == ("__class__" : Str)) = false := by simpa using hy
        simp [List.lookup, hb] at z
    refine ⟨rfl, fun y c z => ?_, fun x y c z1 z2 => (one z1).1.trans (one z2).1.symm, fun i y z => ?_⟩
    · obtain ⟨_, rfl⟩ := one z
      exact ⟨h4, _, _, h3, h2⟩
    · cases i with
      | zero =>
        have ey : y = "__class__" := by simpa using z.symm
        subst ey
        exact ⟨cc, by simp [List.lookup], fun v hv => by simp at hv⟩
      | succ i => simp at z
  have I : Inv (NdefX.ncx CX P w K mg base N F f A outer s H E) [] (NdefX.startF N vs [none]) H { s with heap := h₁, toks := s.toks + (ps.zip us).length } := NdefX.inv_startN (by subst hF; exact S) hr.hd e0 hl r CA hns kp
  obtain ⟨a, ta, t, ehd, ea, ha, ht, hq⟩ := hbody A outer s H vs Q E hsp
  subst hF
  obtain ⟨vs', rfl⟩ : ∃ vs', vs = .ref a :: vs' := by
    cases vs with
    | nil => cases ehd
    | cons v vs' => exact ⟨vs', by rw [Option.some.inj ehd]⟩
  have hp0 : 0 < ps.length := (List.getElem?_eq_some_iff.mp hps).1
  have hN : N[0]? = some ar.arg := by
    have z : (N.take (ps.length + 1))[0]? = (ps ++ (["__class__"] : List Str))[0]? := by rw [show N.take (ps.length + 1) = ps ++ (["__class__"] : List Str) from S.pre]
    rw [List.getElem?_take_of_lt (by omega), List.getElem?_append_left hp0] at z
    rw [z, hps]
  refine PySem.ks_wpAt_execs_cons ?_
  refine sup_exec (i := 0) (ar := ar) SF T I hks (S.frk _ (List.mem_singleton.mpr rfl)) rfl rfl (by show List.lookup ("__class__" : Str) [(("__class__" : Str), cc)] = some cc; simp [List.lookup]) hp (S.par _ (List.mem_of_getElem? hps)) hN rfl ea ha (R := fun H1 => t { nx := fun _ H' => Q .non H', rt := Q } (NdefX.startF N (.ref a :: vs') [none]) H1) hq (fun s' H1 J q => ?_) (hi _) (hs _) (he _) (hst _) (hpl _)
  refine PyProof.Rows.wpAt_of_any (wpAny_mono (ht.run [] _ _ _ _ J q) (fun fl s' hs => ?_) fun e s' hs => hs)
  have fin : ∀ {σ' : L2.St} {H' : Hp} {v : V} {u : Value}, Inv (NdefX.ncx CX P w K mg base N (nfS qual params (.Expr (.Call (.Attribute (.Call (.Name "super" p0) [] [] p1) "__init__" p2) (e :: es) [] p3) p4 :: rest) scope cda cc) f A outer s H E) [] σ' H' s' → L2.RelV v u → Q v H' → CE outer P w H s Q u s' :=
    fun {σ' H' v u} J rv q => ⟨v, H', J.os, J.bare, J.base, J.hok, rv, q⟩
  cases fl with
  | ret u =>
    obtain ⟨v, σ', H', J, rv, q⟩ := hs
    exact fin J rv q
  | next =>
    obtain ⟨σ', H', J, q⟩ := hs
    exact fin (v := V.non) (u := Value.none) J rfl q
  | brk =>
    obtain ⟨_, _, _, q⟩ := hs
    exact False.elim q
  | cont =>
    obtain ⟨_, _, _, q⟩ := hs
    exact False.elim q
end K38

set_option Elab.async false
set_option linter.all false
set_option maxRecDepth 100000
set_option maxHeartbeats 4000000
/-! Code.__init__ -/
namespace K38
open PySem PySem.Spec PyProof.Rows L2 M38
theorem sqT_px {K : PySem.W.Frag} {x C c dx : Addr} {fs : List (Str × V)} {H H' : Hp} {xs : List V} (p : Px x H H') (h : SqT K H C xs) (hx : H x = some (.ins c dx fs)) : SqT K H' C xs := by
  rcases h with (h | ⟨o, h⟩) | h
  · exact .inl (.inl (p _ _ (fun e => by rw [e, hx] at h; cases h) h))
  · exact .inl (.inr ⟨o, p _ _ (fun e => by rw [e, hx] at h; cases h) h⟩)
  · exact .inr h
theorem nI_map (ls : List Nat) : ls.map nI = (ls.map fun n : Nat => (n : Int)).map V.int := by rw [List.map_map]; rfl
theorem sum_pow (m : Nat) : ∀ ls : List Nat, (ls.map fun l : Nat => (2 : Int) ^ ((m : Int) - (l : Int)).toNat).sum = (((ls.map fun l => 2 ^ (m - l)).sum : Nat) : Int)
  | [] => rfl
  | l :: ls => by
    rw [List.map_cons, List.sum_cons, List.map_cons, List.sum_cons, sum_pow m ls, Int.natCast_add]
    rw [show ((m : Int) - (l : Int)).toNat = m - l by omega]
    congr 1
section
variable {P : Program} {w : World} {K : PySem.W.Frag} {mg : Str → Option Value} {base : Heap}
theorem fn_code_init (T : Tx K mg) : ∃ fd, FnOk P w K mg base CX0 3 (He.ma K (He.ga K "Code") "__init__") fd ["self", "lengths", "words"] (spCodeInit K) ∧ FunD K "__init__" "Code.__init__" (defArgs s_Code_init) (defBody s_Code_init) (defScope s_Code_init) [V.non] [] (He.ma K (He.ga K "Code") "__init__") fd := by
  have c_check_signs := ok_check_signs (P := P) (w := w) (base := base) T
  have c_is_count := ok_is_count (P := P) (w := w) (base := base) T
  have c_two_power := ok_two_power (P := P) (w := w) (base := base) T
  have c_canonical := ok_canonical (P := P) (w := w) (base := base) T
  have c_checked_words := ok_checked_words (P := P) (w := w) (base := base) T
  obtain ⟨tL, mL⟩ := T.mL
  obtain ⟨fd, F⟩ := T.f_Code_init
  refine ⟨fd, F.ok sc_Code_init (fun vs H Q E ⟨x, dx, a, wv, ls, t, e, _⟩ => by rw [e]; rfl) fun cdv A outer s H vs Q E hr hsp => ?_, F⟩
  suffices hb : ∃ t, PSs (cxOf CX0 P w K mg base n_Code_init "Code.__init__" (defScope s_Code_init) (He.ma K (He.ga K "Code") "__init__") cdv A outer s H E).nox (defBody s_Code_init) t ∧ t { nx := fun _ H' => Q .non H', rt := Q } (L2.start n_Code_init vs) H by
    obtain ⟨t, h, q⟩ := hb
    exact ⟨t, h.nox, q⟩
  obtain ⟨x, dx, a, wv, ls, tgt, rfl, hx, hA', n2, n60, ⟨DF, hF⟩, h60, hw, q⟩ := hsp
  refine ⟨_, (pss_cons (ps_expr (pe_cal c_check_signs (hr.mono (by decide)) rfl pass0 (pa_cons (pe_callB call_len_seq (by rfl) T.b_len (by decide +kernel) (pa_cons (pv 1) pa_nil)) pa_nil)))
    (pss_cons (ps_for PassesOwn.never rfl (pi_enum rfl T.b_enumerate (pa_cons (pv 1) pa_nil)) (pg_tup rfl (pgs_cons (pg_name (i := 3) sc_Code_init.nd rfl (Or.inl rfl)) (pgs_cons (pg_name (i := 4) sc_Code_init.nd rfl (Or.inl rfl)) pgs_nil)))
      (pss_one (ps_if (PW.pt (pw_or (pt_not (pt_val (pe_cal c_is_count (hr.mono (by decide)) rfl pass0 (pa_cons (pv 4) pa_nil)))) (pw_or1 (pt_not (pt_chain op_le op_le pe_int (pv 4) (pe_glob (v := .int 1999) rfl mL ⟨_, rfl⟩))))))
        (pss_one ps_never)
        pss_nil)))
    (pss_cons (ps_set (i := 5) sc_Code_init.nd rfl (Or.inr rfl) (pe_callB (cr_max rfl) (by rfl) T.b_max (by decide +kernel) (pa_cons (pv 1) pa_nil)))
    (pss_cons (ps_if (pt_cmpR op_ne (pe_callB (cr_sum rfl) (by rfl) T.b_sum (by decide +kernel) (pa_cons (pe_lc (own := [("length", 4)]) (g := gName 4) (tt := tYes) rfl sc_Code_init.nd (pi_list (pv 1)) (blkOk_by (own := [("length", 4)]) (N := n_Code_init) (sc := defScope s_Code_init) (by decide +kernel)) (fun _ _ _ _ _ => (pg_name (i := 4) sc_Code_init.nd rfl (Or.inl rfl))) (fun _ _ _ _ _ => pts_nil) (fun _ _ _ _ _ => (pe_cal c_two_power (hr.mono (by decide)) rfl pass0 (pa_cons (pe_op op_sub (pv 5) (pv 4)) pa_nil)))) pa_nil)) (pe_cal c_two_power (hr.mono (by decide)) rfl pass0 (pa_cons (pv 5) pa_nil)) (nomark _))
      (pss_one ps_never)
      pss_nil)
    (pss_cons (ps_fld (pv 0) (pe_callTy call_tuple_of (by rfl) T.b_tuple (by decide +kernel) (pa_cons (pv 1) pa_nil)) rfl)
    (pss_cons (ps_fld (pv 0) (pe_ifExp (pt_cmpR op_isN (pv 2) pe_non (nomark _)) (pe_cal c_canonical (hr.mono (by decide)) rfl pass0 (pa_cons (pe_fld (pv 0) rfl) pa_nil)) (pe_cal c_checked_words (hr.mono (by decide)) rfl pass0 (pa_cons (pe_fld (pv 0) rfl) (pa_cons (pv 2) pa_nil)))) rfl)
    (pss_cons (ps_fld (pv 0) (pe_callB call_len_seq (by rfl) T.b_len (by decide +kernel) (pa_cons (pe_fld (pv 0) rfl) pa_nil)) rfl)
    (pss_one (ps_fld (pv 0) (pv 5) rfl))))))))), ?_⟩
  have hA : SqL K H a (ls.map nI) := seq_at hA'
  refine ⟨_, rfl, a, _, rfl, .inl hA, _, rfl, by rw [List.length_map]; omega, by rw [List.length_map]; omega, ?_⟩
  refine ⟨_, rfl, a, _, rfl, hA, ?_⟩
  refine for_it walk_enum (fun i σ H' => ∃ y z, σ = [some (.ref x), some (.ref a), some wv, y, z, none] ∧ Same H H') ⟨none, none, rfl, .refl H⟩ (fun i σ H' _ ⟨_, _, _, s⟩ => s.seq hA) ?_ ?_
  · rintro i y σ H1 H2 hi ⟨y1, y2, rfl, s⟩ ⟨t, u, v, rfl, nt, rfl, hu, hv⟩
    obtain ⟨n, hn, rfl⟩ := getN hv
    have s2 : Same H (upd H1 t (.tup [u, .int n])) := s.new nt
    obtain ⟨l1, l60⟩ := h60 n (List.mem_of_getElem? hn)
    refine ⟨t, _, rfl, tup_at upd_same, rfl, _, _, rfl, _, _, rfl, rfl, ?_⟩
    refine ⟨_, rfl, _, rfl, .int n, _, rfl, ?_⟩
    have c : isCnt (.int n) = true := decide_eq_true (show (0 : Int) ≤ n by omega)
    rw [c]
    refine iteF ⟨_, rfl, _, _, rfl, rfl, _, rfl, ?_⟩
    rw [decide_eq_true (show (1 : Int) ≤ n by omega)]
    refine iteT ⟨_, _, rfl, rfl, _, rfl, ?_⟩
    rw [decide_eq_true (show (n : Int) ≤ 1999 by omega)]
    exact iteF ⟨_, _, rfl, s2⟩
  · rintro σ H1 ⟨y1, y2, rfl, s1⟩
    have hA1 : SqL K H1 a ((ls.map fun n : Nat => (n : Int)).map V.int) := by rw [← nI_map]; exact s1.seq hA
    refine ⟨_, rfl, a, _, rfl, hA1, by rw [List.length_map]; omega, fun m hm hmax => ?_⟩
    obtain ⟨L, hL, rfl⟩ := List.mem_map.mp hm
    have hmax2 : ∀ l ∈ ls, l ≤ L := fun l hl => by have := hmax _ (List.mem_map.mpr ⟨l, hl, rfl⟩); omega
    obtain ⟨L1, L60⟩ := h60 L hL
    have hFL := hF.max hL hmax2
    refine ⟨_, rfl, a, rfl, ⟨_, s1.seq hA⟩, fun D nD => ?_⟩
    refine lc_it walk_list (fun i H' => Same H1 H' ∧ H' D = some (.lst (((ls.take i).map fun l : Nat => (2 : Int) ^ ((L : Int) - (l : Int)).toNat).map V.int))) ⟨same_new nD, by rw [upd_same]; rfl⟩ (fun i H' _ s => s.1.seq (s1.seq hA)) ?_ ?_
    · rintro i y H2 H3 hi ⟨s2, hD⟩ ⟨rfl, hv⟩
      obtain ⟨n, hn, rfl⟩ := getN hv
      obtain ⟨l1, l60⟩ := h60 n (List.mem_of_getElem? hn)
      refine ⟨rfl, yesI ⟨_, rfl, _, rfl, _, _, rfl, rfl, _, rfl, by omega, fun H4 s4 => ?_⟩⟩
      refine ⟨_, s4 _ _ hD, by simp only [List.length_map, List.length_take]; exact small1000 (by omega), (s2.trans s4).mut nD, ?_⟩
      rw [upd_same, List.take_add_one, hn, List.map_append, List.map_append]
      rfl
    · rintro H2 ⟨s2, hD⟩
      rw [List.length_map, List.take_length] at hD
      refine ⟨D, _, rfl, seq_at hD, ?_⟩
      refine ⟨_, rfl, _, rfl, by omega, fun H3 s3 => ?_⟩
      have e : (ls.map fun l : Nat => (2 : Int) ^ ((L : Int) - (l : Int)).toNat).sum = 2 ^ ((L : Int)).toNat := by
        rw [sum_pow, hFL.2, Int.toNat_natCast, Int.natCast_pow]
        rfl
      refine ⟨rfl, _, rfl, ?_⟩
      rw [decide_eq_true (congrArg V.int e)]
      have s13 : Same H H3 := s1.trans (s2.trans s3)
      refine iteF ?_
      refine ⟨_, rfl, a, _, rfl, .inl ⟨s13.seq hA, fun B nB => ?_⟩⟩
      have nBx : B ≠ x := fun e => by rw [e, s13 _ _ hx] at nB; cases nB
      refine ⟨_, rfl, x, _, dx, [], rfl, by rw [upd_ne nBx.symm]; exact s13 _ _ hx, T.cl_Code, T.na_Code_lengths, by decide, ?_⟩
      have px : Px x H (upd (upd H3 B (.tup (ls.map nI))) x (.ins (He.ga K "Code") dx (putF "lengths" (.ref B) []))) := (Px.of (s13.new nB)).upd
      have hB : upd (upd H3 B (.tup (ls.map nI))) x (.ins (He.ga K "Code") dx (putF "lengths" (.ref B) [])) B = some (.tup (ls.map nI)) := by rw [upd_ne nBx, upd_same]
      have hX : upd (upd H3 B (.tup (ls.map nI))) x (.ins (He.ga K "Code") dx (putF "lengths" (.ref B) [])) x = some (.ins (He.ga K "Code") dx [("lengths", .ref B)]) := upd_same
      revert px hB hX
      generalize upd (upd H3 B (.tup (ls.map nI))) x (.ins (He.ga K "Code") dx (putF "lengths" (.ref B) [])) = H4
      intro px hB hX
      have c_l : (ls.map nI) = (ls.map fun n : Nat => (n : Int)).map V.int := nI_map ls
      rcases hw with ⟨ew, et⟩ | ⟨b, ws, ew, et, hb, hlw, hbw, hpf⟩
      case' inl =>
        subst ew
        refine ⟨_, rfl, rfl, _, rfl, ?_⟩
        rw [decide_eq_true rfl]
        refine iteT ⟨_, rfl, x, _, dx, _, _, rfl, hX, T.cl_Code, T.na_Code_lengths, rfl, B, ls.map fun n : Nat => (n : Int), rfl, tup_at (by rw [← nI_map]; exact hB), ?_, by rw [List.length_map]; exact n60, fun H5 C ws s5 hC lw => ?_⟩
        · intro l hl
          obtain ⟨k, hk, rfl⟩ := List.mem_map.mp hl
          have := h60 k hk
          omega
        rw [List.length_map] at lw
        have ht : ∀ us, tgt = some us → ws = us := fun us e => by rw [et] at e; cases e
      case' inr =>
        subst ew
        have nbx : b ≠ x := fun e => by rw [e, hx] at hb; cases hb
        refine ⟨_, rfl, rfl, _, rfl, ?_⟩
        rw [decide_eq_false (show ¬ V.ref b = V.non from fun e => by cases e)]
        refine iteF ⟨_, rfl, x, _, dx, _, _, rfl, hX, T.cl_Code, T.na_Code_lengths, rfl, _, rfl, B, b, ws, rfl, tup_at (by rw [← hlw]; exact hB), seq_at (px _ _ nbx hb), hbw, hpf, ?_, ?_, fun H5 C s5 hC => ?_⟩
        · rw [hlw, List.length_map] at n60
          exact n60
        · intro z hz
          exact (h60 z.length (by rw [hlw]; exact List.mem_map_of_mem hz)).2
        have lw : ws.length = ls.length := by rw [hlw, List.length_map]
        have ht : ∀ us, tgt = some us → ws = us := fun us e => by rw [et] at e; exact Option.some.inj e
      all_goals
        have hX5 := s5 _ _ hX
        have hB5 := s5 _ _ hB
        have nBx : B ≠ x := fun e => by rw [e, hX] at hB; cases hB
        refine ⟨_, rfl, x, _, dx, _, rfl, hX5, T.cl_Code, T.na_Code_words, by show (1 : Nat) < 1000; decide, ?_⟩
        refine ⟨_, rfl, x, _, dx, _, _, rfl, upd_same, T.cl_Code, T.na_Code_lengths, rfl, B, _, rfl, .inr (tup_at (by rw [upd_ne nBx]; exact hB5)), _, rfl, x, _, dx, _, rfl, upd_same, T.cl_Code, T.na_Code_size, by show (2 : Nat) < 1000; decide, ?_⟩
        refine ⟨_, rfl, _, rfl, x, _, dx, _, rfl, upd_same, T.cl_Code, T.na_Code_longest, by show (3 : Nat) < 1000; decide, ?_⟩
        have p1 : Px x H5 (upd (upd (upd H5 x (.ins (He.ga K "Code") dx (putF "words" (.ref C) [("lengths", .ref B)]))) x (.ins (He.ga K "Code") dx (putF "size" (nI (ls.map nI).length) (putF "words" (.ref C) [("lengths", .ref B)])))) x
            (.ins (He.ga K "Code") dx (putF "longest" (nI L) (putF "size" (nI (ls.map nI).length) (putF "words" (.ref C) [("lengths", .ref B)]))))) := (Px.refl x H5).upd.upd.upd
        refine q _ ws ((px.trans (Px.of s5)).trans p1) ⟨dx, B, C, L, ?_, sqT_px p1 (tup_at hB5) hX5, sqT_px p1 hC hX5⟩ lw ht
        rw [upd_same, List.length_map]
        rfl
end
end K38


set_option Elab.async false
set_option linter.all false
set_option maxRecDepth 100000
set_option maxHeartbeats 4000000
/-! Code by its name; code_of; Code.__eq__ -/
namespace K38
open PySem PySem.Spec PyProof.Rows L2 M38
/-! ### equal sequences of flat values -/
def flD : V → PyData
  | .bl b => .bool b
  | .int i => .int i
  | .str z => .str z
  | _ => .none
def okV : V → Bool
  | .str z => PyData.strOk z
  | .ref _ => false
  | .non => true
  | .bl _ => true
  | .int _ => true
  | _ => false
theorem okV_dp {K : PySem.W.Frag} {H : Hp} {v : V} (h : okV v = true) : Dp K H v (flD v) := by
  cases v with
  | non => exact .non
  | bl b => exact .bl b
  | int i => exact .int i
  | str z => exact .str z
  | _ => cases h
theorem okV_all {K : PySem.W.Frag} {H : Hp} : ∀ {xs : List V}, (∀ v ∈ xs, okV v = true) → DpAll K H xs (xs.map flD)
  | [], _ => .nil
  | x :: xs, h => .cons (okV_dp (h x (List.mem_cons_self ..))) (okV_all fun v hv => h v (List.mem_cons_of_mem _ hv))
theorem okV_lay : ∀ {v : V}, okV v = true → (flD v).canLay0 = true ∧ (flD v).depth = 0 := by
  intro v h
  cases v with
  | non => exact ⟨by simp [flD, PyData.canLay0], by simp [flD, PyData.depth]⟩
  | bl b => exact ⟨by simp [flD, PyData.canLay0], by simp [flD, PyData.depth]⟩
  | int i => exact ⟨by simp [flD, PyData.canLay0], by simp [flD, PyData.depth]⟩
  | str z => exact ⟨by simp only [flD, PyData.canLay0]; exact h, by simp [flD, PyData.depth]⟩
  | _ => cases h
theorem okV_lays : ∀ {xs : List V}, (∀ v ∈ xs, okV v = true) → PyData.canLayAll0 (xs.map flD) = true ∧ PyData.depthAll (xs.map flD) = 0
  | [], _ => ⟨by simp [PyData.canLayAll0], by simp [PyData.depthAll]⟩
  | x :: xs, h => by
    obtain ⟨a, b⟩ := okV_lay (h x (List.mem_cons_self ..))
    obtain ⟨c, d⟩ := okV_lays (xs := xs) fun v hv => h v (List.mem_cons_of_mem _ hv)
    exact ⟨by simp only [List.map_cons, PyData.canLayAll0, a, c, Bool.and_self], by simp only [List.map_cons, PyData.depthAll, b, d, Nat.max_self]⟩
abbrev tupD (xs : List V) : PyData := .tuple (xs.map flD)
abbrev lstD (xs : List V) : PyData := .list (xs.map flD)
section
variable {K : PySem.W.Frag} {H : Hp} {a : Addr} {xs : List V} (h : ∀ v ∈ xs, okV v = true)
include h
theorem sh_tup : SeqAt.shaped (tupD xs) = true := by
  obtain ⟨p, q⟩ := okV_lays h
  unfold SeqAt.shaped
  simp only [tupD, PyData.canLay0, PyData.depth, p, q]
  decide
theorem sh_lst : SeqAt.shaped (lstD xs) = true := by
  obtain ⟨p, q⟩ := okV_lays h
  unfold SeqAt.shaped
  simp only [lstD, PyData.canLay0, PyData.depth, p, q]
  decide
theorem dp_tup (e : SqT K H a xs) : Dp K H (.ref a) (tupD xs) := .tup e (okV_all h)
theorem dp_lst (e : SqL K H a xs) : Dp K H (.ref a) (lstD xs) := .lst e (okV_all h)
theorem eq_tup : PyData.eqv (tupD xs) (tupD xs) = true := SeqAt.eqv_refl _ (by simp only [tupD, PyData.canLay0]; exact (okV_lays h).1)
end
theorem eq_nil (xs : List V) : PyData.eqv (lstD xs) (lstD []) = xs.isEmpty := by
  cases xs <;> simp [lstD, PyData.eqv, PyData.eqvAll]
theorem bw_ok {w : Str} (h : Bw w) : okV (.str w) = true := by
  show w.cps.all (fun c => decide (c < 0x110000)) = true
  rw [← Array.all_toList, List.all_eq_true]
  intro c hc
  rcases h c hc with e | e <;> · rw [e]; decide
theorem bws_ok {ws : List Str} (h : ∀ w ∈ ws, Bw w) : ∀ v ∈ ws.map V.str, okV v = true := fun v hv => by
  obtain ⟨w, hw, rfl⟩ := List.mem_map.mp hv
  exact bw_ok (h w hw)
theorem ints_ok (ns : List Int) : ∀ v ∈ ns.map V.int, okV v = true := fun v hv => by
  obtain ⟨w, hw, rfl⟩ := List.mem_map.mp hv
  rfl
section
variable {P : Program} {w : World} {K : PySem.W.Frag} {mg : Str → Option Value} {base : Heap}
theorem mk_code1 (T : Tx K mg) : C8.Mak P w K mg base 3 "Code" (He.ga K "Code") (spCodeInit K) [.non] := by
  obtain ⟨fd, F, D⟩ := fn_code_init (P := P) (w := w) (base := base) T
  obtain ⟨ds, h1, h2⟩ := D.binds1 (ps := ["self", "lengths", "words"]) 2 0 (by simp) rfl (fun TT kV doc pm an cdv ct us its hu hi => by
    match us, hu, its, hi with
    | [u1, u2], _, [i1], _ => exact ⟨_, rfl, rfl⟩)
  exact ⟨_, fd, _, ds, T.mk_Code, F, T.g_Code, h2, h1⟩
theorem mk_code2 (T : Tx K mg) : C8.Mak P w K mg base 3 "Code" (He.ga K "Code") (spCodeInit K) [] := by
  obtain ⟨fd, F, D⟩ := fn_code_init (P := P) (w := w) (base := base) T
  obtain ⟨ds, h1, h2⟩ := D.binds1 (ps := ["self", "lengths", "words"]) 3 1 (by simp) rfl (fun TT kV doc pm an cdv ct us its hu hi => by
    match us, hu, its, hi with
    | [u1, u2, u3], _, [i1], _ => exact ⟨_, rfl, rfl⟩)
  exact ⟨_, fd, _, ds, T.mk_Code, F, T.g_Code, h2, h1⟩
/-- what a call of Code gives -/
theorem use_code {H : Hp} {R : Addr → Hp → Prop} {E : XK} {a : Addr} {wv : V} {ls : List Nat} (tgt : Option (List Str)) (hA : H a = some (.lst (ls.map nI))) (n2 : 2 ≤ ls.length) (n60 : ls.length ≤ 60) (hF : ∃ D, Full D ls) (h60 : ∀ l ∈ ls, 1 ≤ l ∧ l ≤ 60)
    (hw : (wv = .non ∧ tgt = none) ∨ ∃ b ws, wv = .ref b ∧ tgt = some ws ∧ H b = some (.lst (ws.map V.str)) ∧ ls = ws.map Str.length ∧ (∀ w ∈ ws, Bw w) ∧ PF ws)
    (q : ∀ (H' : Hp) (x : Addr) (ws : List Str), Same H H' → CodeAt K H' x ls ws → ws.length = ls.length → (∀ us, tgt = some us → ws = us) → R x H') :
    ∀ x dx, H x = none → H dx = none → dx ≠ x → spCodeInit K [.ref x, .ref a, wv] (upd (upd H dx (.own x)) x (.ins (He.ga K "Code") dx [])) (fun v H2 => v = .non ∧ R x H2) E := by
  intro x dx nx nd ne
  have ap : ∀ (b : Addr) (u : HO), H b = some u → upd (upd H dx (.own x)) x (.ins (He.ga K "Code") dx []) b = some u := fun b u e => by
    rw [upd_ne (ne_of_none e nx), upd_ne (ne_of_none e nd)]
    exact e
  refine ⟨x, dx, a, wv, ls, tgt, rfl, upd_same, ap _ _ hA, n2, n60, hF, h60, ?_, fun H' ws px c l t => ⟨rfl, q H' x ws (same_made nx nd px) c l t⟩⟩
  rcases hw with hw | ⟨b, ws, e1, e2, e3, e4⟩
  · exact .inl hw
  · exact .inr ⟨b, ws, e1, e2, ap _ _ e3, e4⟩
/-! ### code_of -/
def spCodeOf (K : PySem.W.Frag) : Sp := fun vs H Q _ => ∃ (a : Addr) (ws : List Str), vs = [.ref a] ∧ H a = some (.lst (ws.map V.str)) ∧ Wd ws ∧ ws.length ≤ 60 ∧ ∀ (H' : Hp) (r : Addr), Same H H' → CodeAt K H' r (ws.map Str.length) ws → Q (.ref r) H'
theorem ok_code_of (T : Tx K mg) : Cal P w K mg base CX0 5 "code_of" ["words"] (spCodeOf K) := by
  have c_Code2 := mk_code2 (P := P) (w := w) (base := base) T
  refine cal_of T.g_code_of T.f_code_of sc_code_of (fun _ _ _ _ _ _ us hl => match us, hl with | [_], _ => rfl) (fun vs H Q E ⟨a, b, e, _⟩ => by rw [e]; rfl) (fun fd cdv A outer s H vs Q E hr h => ?_)
  obtain ⟨a, ws, rfl, hA, hW, hn, q⟩ := h
  refine ⟨_, (pss_one (ps_ret (C8.pe_mk c_Code2 hr (by decide) rfl (pa_cons (pe_lc (own := [("word", 1)]) (g := gName 1) (tt := tYes) rfl sc_code_of.nd (pi_list (pv 0)) (blkOk_by (own := [("word", 1)]) (N := n_code_of) (sc := defScope s_code_of) (by decide +kernel)) (fun _ _ _ _ _ => (pg_name (i := 1) sc_code_of.nd rfl (Or.inl rfl))) (fun _ _ _ _ _ => pts_nil) (fun _ _ _ _ _ => (pe_callB call_len_str (by rfl) T.b_len (by decide +kernel) (pa_cons (pv 1) pa_nil)))) (pa_cons (pv 0) pa_nil))))), ?_⟩
  refine ⟨_, rfl, a, rfl, ⟨_, seq_at hA⟩, fun D nD => ?_⟩
  refine lc_it walk_list (fun i H' => Same H H' ∧ H' D = some (.lst (((ws.take i).map Str.length).map nI))) ⟨same_new nD, by rw [upd_same]; rfl⟩ (fun i H' _ s => seq_at (s.1 _ _ hA)) ?_ ?_
  · rintro i y H2 H3 hi ⟨s2, hD⟩ ⟨rfl, hv⟩
    obtain ⟨z, hz, rfl⟩ := getS hv
    rw [List.length_map] at hi
    refine ⟨rfl, yesI ⟨_, rfl, z, rfl, ?_, ?_⟩⟩
    · have := hW.len z (List.mem_of_getElem? hz)
      exact line_of (by omega)
    · refine ⟨_, hD, by simp only [List.length_map, List.length_take]; exact small1000 (by omega), s2.mut nD, ?_⟩
      rw [upd_same, List.take_add_one, hz, List.map_append, List.map_append]
      rfl
  · rintro H2 ⟨s2, hD⟩
    rw [List.length_map, List.take_length] at hD
    refine ⟨_, rfl, ?_⟩
    refine use_code (some ws) hD (by rw [List.length_map]; exact hW.two) (by rw [List.length_map]; exact hn) hW.full ?_ (.inr ⟨a, ws, rfl, rfl, s2 _ _ hA, rfl, hW.bits, hW.pf⟩) fun H' x us s3 hc hl ht => ?_
    · intro l hl
      obtain ⟨z, hz, rfl⟩ := List.mem_map.mp hl
      have := hW.len z hz
      omega
    · rw [ht ws rfl] at hc
      exact q H' x (s2.trans s3) hc
/-! ### Code.__eq__ -/
def codR (K : PySem.W.Frag) : Addr → Addr → Hp → Prop := fun a b H => ∃ ls ms ws, CodeAt K H a ls ws ∧ CodeAt K H b ms ws ∧ ∀ w ∈ ws, Bw w
theorem fn_code_eq (T : Tx K mg) : ∃ fd, FnOk P w K mg base CX0 1 (He.ma K (He.ga K "Code") "__eq__") fd ["self", "other"] (spEq (codR K)) ∧ FunD K "__eq__" "Code.__eq__" (defArgs s_Code_eq) (defBody s_Code_eq) (defScope s_Code_eq) [] [] (He.ma K (He.ga K "Code") "__eq__") fd := by
  obtain ⟨fd, F⟩ := T.f_Code_eq
  refine ⟨fd, F.ok sc_Code_eq (fun vs H Q E ⟨x, y, e, _⟩ => by rw [e]; rfl) fun cdv A outer s H vs Q E hr hsp => ?_, F⟩
  suffices hb : ∃ t, PSs (cxOf CX0 P w K mg base n_Code_eq "Code.__eq__" (defScope s_Code_eq) (He.ma K (He.ga K "Code") "__eq__") cdv A outer s H E).nox (defBody s_Code_eq) t ∧ t { nx := fun _ H' => Q .non H', rt := Q } (L2.start n_Code_eq vs) H by
    obtain ⟨t, h, q⟩ := hb
    exact ⟨t, h.nox, q⟩
  obtain ⟨a, b, rfl, ⟨ls, ms, ws, ha, hb, hw⟩, q⟩ := hsp
  refine ⟨_, (pss_one (ps_ret (pe_and (pe_callB call_isi (by rfl) T.b_isinstance (by decide +kernel) (pa_cons (pv 1) (pa_cons (pe_glob (v := .ref (He.ga K "Code")) rfl T.g_Code rfl) pa_nil))) (pe_one (pe_cmpR (op_eqD hr.units) (pe_fld (pv 0) rfl) (pe_fld (pv 1) rfl) (nomark _)))))), ?_⟩
  obtain ⟨dx, A1, B1, m1, e1, e2, e3⟩ := ha.ex
  obtain ⟨dy, A2, B2, m2, f1, f2, f3⟩ := hb.ex
  have ok := bws_ok hw
  refine ⟨_, rfl, _, _, _, _, _, rfl, .own (He.ga K "Code"), ty_code T f1, T.k13, _, rfl, iteT ?_⟩
  refine ⟨_, rfl, a, _, _, _, _, rfl, e1, T.cl_Code, T.na_Code_words, rfl, _, rfl, b, _, _, _, _, rfl, f1, T.cl_Code, T.na_Code_words, rfl, _, _, dp_tup ok e3, dp_tup ok f3, sh_tup ok, sh_tup ok, ?_⟩
  rw [eq_tup ok]
  exact q H fun _ _ e => e
end
end K38


set_option Elab.async false
set_option linter.all false
set_option maxRecDepth 100000
set_option maxHeartbeats 4000000
/-! a != b of an own class that has __eq__ and no __ne__ -/
namespace K38
open PySem PySem.Spec PyProof.Rows L2
/-- what the written part says of the class -/
structure EqC (K : PySem.W.Frag) (C f : Addr) : Prop where
  cls : ∃ nm q N bs hdct sn sub ab col dd k0 k1 k2 k3 k5 newId, K.lookup C = some (excClassObj nm q C N bs [.type "object"] hdct sn sub ab col dd k0 k1 k2 k3 k5 newId) ∧ PySem.W.nsOkIn K N = true ∧ PySem.W.nsIn K N "__eq__" = some (some (.ref f)) ∧ PySem.W.nsIn K N "__ne__" = some none
  fn : ∃ o, K.lookup f = some o ∧ o.cls = .type "function"
def rNeOwn (D : Eqv) : R2 := fun x y H Q => D x y H ∧ ∀ H', Ext H H' → Q (.bl false) H'
theorem ns_some_of {K : PySem.W.Frag} {h : Heap} {N : Addr} {mg : Str → Option Value} {n : Str} {v : Value} (X : K.In h) (G : h.Ns N mg) (e : PySem.W.nsIn K N n = some (some v)) : mg n = some v := by
  obtain ⟨o, es, ep, ho, hd, _, hf⟩ := G
  unfold PySem.W.nsIn at e
  split at e
  · rename_i c d es' n' sl q
    have hz := X _ _ q
    rw [ho] at hz
    cases hz
    cases hd
    split at e
    · rename_i en he
      cases e
      rw [← hf]
      unfold nsFind findBy
      rw [← Array.find?_toList, he]
      rfl
    · split at e <;> cases e
  · cases e
theorem op_neOwn {X : Cx} {CX : CXT} {k n : Nat} {C f : Addr} {fd : FuncData} {ps : List Str} {R : Addr → Addr → Hp → Prop} {E : XK} (F : FnOk X.prog X.w X.K X.mg X.base CX n f fd ps (spEq R)) (ec : EqC X.K C f)
    (hb : Binds X.K fd ps []) (hx : Passes CX X E) (hr : Room k X.A) (hk : n + 1 ≤ k) : OpR X (compareOp .NotEq) (rNeOwn (DIns C R)) := by
  intro pins s σ H x y v u Q I rx ry hq
  obtain ⟨⟨a, b, dx, dy, fs, gs, rfl, rfl, ha, hb', hR⟩, q⟩ := hq
  cases rx
  cases ry
  obtain ⟨nm, qn, N, bs, hdct, sn, sub, ab, col, dd, k0, k1, k2, k3, k5, newId, hC, hns, heq, hne⟩ := ec.cls
  obtain ⟨of, hof, hofc⟩ := ec.fn
  obtain ⟨mA, J, _⟩ := ins_get I.hok ha
  obtain ⟨mB, J', _⟩ := ins_get I.hok hb'
  obtain ⟨od, J, _⟩ := J.look
  obtain ⟨od', J', _⟩ := J'.look
  have KX := I.kIn
  have G : s.heap.Ns N (s.heap.nsMap N) := .of_isNs (PySem.W.isNs_of_in KX hns)
  have Y : s.heap.OwnEqNoNe a C f "object" [.type "object"] :=
    ⟨_, of, nm, qn, N, bs, hdct, sn, sub, ab, col, dd, k0, k1, k2, k3, k5, newId, s.heap.nsMap N, _, J.at_, J.cls, KX _ _ hC, G, ns_some_of KX G heq, KX _ _ hof, hofc, PySem.F.cmp_object.mro, PySem.F.cmp_object.eq.lookup, PySem.W.ns_none_of KX G hne⟩
  have hsp : spEq R [.ref a, .ref b] H (fun v H' => v = .bl true ∧ Ext H H') E := ⟨a, b, rfl, hR, fun H' e => ⟨rfl, e⟩⟩
  have e0 : Env0 X.prog X.w X.K X.mg X.base X.A.in1 X.stack s H := by
    have e := I.env0
    exact ⟨e.frames, e.mod, e.bs, e.bsz, e.funs, e.frf, e.hok, e.bare⟩
  have hl := F.len _ _ _ _ hsp
  have r2 : Vals [V.ref a, V.ref b] [Value.ref a, Value.ref b] := .cons rfl (.cons rfl .nil)
  have hu := hr.units
  have run := F.run X.A.in1 X.stack s H ⟨[.ref a, .ref b], []⟩ [.ref a, .ref b] [.ref a, .ref b] _ E (hr.mono hk).in1 e0 (by
    have := hb s [.ref a, .ref b] I.kIn (by simpa using hl)
    simpa using this) r2 hsp
  obtain ⟨hh, g, dd2, t, os⟩ := s
  refine compareOp_ne_ownEq PySem.F.cmp_object Y J'.at_ J'.cls (by omega) (wpAny_call (codeAny_mono run fun r s' hq => ?_))
  cases r with
  | error e => exact hx pins σ H _ e s' I hq
  | ok fl =>
    cases fl with
    | ret w =>
      obtain ⟨z, H', I', rz, ez, ex⟩ := I.after hq
      subst ez
      cases rz
      exact ⟨true, rfl, .bl false, H', I', rfl, q H' ex⟩
    | next => exact False.elim hq
    | brk => exact False.elim hq
    | cont => exact False.elim hq
end K38

set_option Elab.async false
set_option linter.all false
set_option maxRecDepth 100000
set_option maxHeartbeats 4000000
/-! cost_by, put_prices, grown_counts -/
namespace K38
open PySem PySem.Spec PyProof.Rows L2 M38
theorem SqK.same {K : PySem.W.Frag} {k : Bool} {H H' : Hp} {a : Addr} {xs : List V} (h : SqK K k H a xs) (s : Same H H') : SqK K k H' a xs := by
  cases k with
  | true => exact s.seq (show SqL K H a xs from h)
  | false => exact s.tup (show SqT K H a xs from h)
theorem SqK.seq {K : PySem.W.Frag} {k : Bool} {H : Hp} {a : Addr} {xs : List V} (h : SqK K k H a xs) : SqL K H a xs ∨ SqT K H a xs := by
  cases k with
  | true => exact .inl h
  | false => exact .inr h
theorem use_slice {K : PySem.W.Frag} {k : Bool} {H : Hp} {a : Addr} {xs : List V} {lo hi : Option Int} {Q : VK} (h : SqK K k H a xs)
    (q : ∀ H' p, Same H H' → (SqL K H' p (cutV xs lo hi) ∨ SqT K H' p (cutV xs lo hi)) → Q (.ref p) H') : rSlL K (.ref a) lo hi H Q ∨ rSlA K (.ref a) lo hi H Q := by
  cases k with
  | true => exact .inl ⟨a, xs, rfl, h, fun p np => q _ p (same_new np) (.inl (seq_at upd_same))⟩
  | false =>
    refine .inr ⟨a, xs, rfl, h, fun e => q H a (.refl H) (.inr ?_), fun _ p np => q _ p (same_new np) (.inr (tup_at upd_same))⟩
    unfold cutV
    rw [e.1, e.2, List.drop_zero, Nat.sub_zero, List.take_of_length_le (Nat.le_refl _)]
    exact h
def prices (ns : List Int) (ls : List Nat) (c : Int) : List Int := (ns.zip ls).map fun p => p.1 + c * ((p.2 : Int) + 1)
section
variable {P : Program} {w : World} {K : PySem.W.Frag} {mg : Str → Option Value} {base : Heap}
/-! ### cost_by -/
def spCostBy (K : PySem.W.Frag) : Sp := fun vs H Q _ => ∃ (c a : Addr) (k : Bool) (ns : List Int) (ls : List Nat) (ws : List Str), vs = [.ref c, .ref a] ∧ CodeAt K H c ls ws ∧ SqK K k H a (ns.map V.int) ∧ (∀ l ∈ ls, l ≤ 60) ∧ ls.length ≤ 60 ∧ ∀ H', Same H H' → Q (.int (costP (ns.zip ls))) H'
theorem ok_cost_by (T : Tx K mg) : Cal P w K mg base CX0 1 "cost_by" ["code", "counts"] (spCostBy K) := by
  refine cal_of T.g_cost_by T.f_cost_by sc_cost_by (fun _ _ _ _ _ _ us hl => match us, hl with | [_, _], _ => rfl) (fun vs H Q E ⟨a, b, _, _, _, _, e, _⟩ => by rw [e]; rfl) (fun fd cdv A outer s H vs Q E hr h => ?_)
  obtain ⟨c, a, k, ns, ls, ws, rfl, hc, ha, h60, hn, q⟩ := h
  refine ⟨_, (pss_one (ps_ret (pe_callB (cr_sum rfl) (by rfl) T.b_sum (by decide +kernel) (pa_cons (pe_lc (own := [("count", 2), ("length", 3)]) (g := gTup K 2 (gCons (gName 2) (gCons (gName 3) gNil))) (tt := tYes) rfl sc_cost_by.nd (pi_zipM rfl T.b_zip (pa_cons (pv 1) (pa_cons (pe_fld (pv 0) rfl) pa_nil))) (blkOk_by (own := [("count", 2), ("length", 3)]) (N := n_cost_by) (sc := defScope s_cost_by) (by decide +kernel)) (fun _ _ _ _ _ => (pg_tup rfl (pgs_cons (pg_name (i := 2) sc_cost_by.nd rfl (Or.inl rfl)) (pgs_cons (pg_name (i := 3) sc_cost_by.nd rfl (Or.inl rfl)) pgs_nil)))) (fun _ _ _ _ _ => pts_nil) (fun _ _ _ _ _ => (pe_op op_mul (pv 2) (pv 3)))) pa_nil)))), ?_⟩
  obtain ⟨dx, B, C, m, e1, e2, e3⟩ := hc.ex
  refine ⟨_, rfl, _, rfl, c, _, _, _, _, rfl, e1, T.cl_Code, T.na_Code_lengths, rfl, k, false, a, B, _, _, rfl, ha, e2, fun D nD => ?_⟩
  refine lc_it (walk_zipM rfl) (fun i H' => Same H H' ∧ H' D = some (.lst ((((ns.zip ls).take i).map fun p => p.1 * (p.2 : Int)).map V.int))) ⟨same_new nD, by rw [upd_same]; rfl⟩
    (fun i H' _ q => ⟨ha.same q.1, q.1.tup e2⟩) ?_ ?_
  · rintro i x H5 H6 hi ⟨s5, hD⟩ ⟨t, u, v, rfl, nt, rfl, hu, hv⟩
    obtain ⟨n, hn1, rfl⟩ := getI hu
    obtain ⟨l, hl, rfl⟩ := getN hv
    have nDt : D ≠ t := ne_of_none hD nt
    have l60 := h60 l (List.mem_of_getElem? hl)
    have hz : (ns.zip ls)[i]? = some (n, l) := List.getElem?_zip_eq_some.mpr ⟨hn1, hl⟩
    refine ⟨t, _, rfl, tup_at upd_same, rfl, _, _, rfl, _, _, rfl, rfl, rfl, yesI ⟨_, rfl, _, rfl, _, _, rfl, rfl, .inr ⟨by omega, by omega⟩, ?_⟩⟩
    refine ⟨_, by rw [upd_ne nDt]; exact hD, ?_, (s5.new nt).mut nD, ?_⟩
    · have : min (List.map V.int ns).length (List.map nI ls).length ≤ 60 := by rw [List.length_map, List.length_map]; omega
      rw [List.length_map, List.length_map, List.length_take]
      exact small1000 (by omega)
    · rw [upd_same, List.take_add_one, hz, List.map_append, List.map_append]
      rfl
  · rintro H5 ⟨s5, hD⟩
    rw [List.length_map, List.length_map, show (ns.zip ls).take (min ns.length ls.length) = ns.zip ls from List.take_of_length_le (by rw [List.length_zip]; exact Nat.le_refl _)] at hD
    exact ⟨D, _, rfl, seq_at hD, q H5 s5⟩
/-! ### put_prices -/
def spPutPrices (K : PySem.W.Frag) : Sp := fun vs H Q _ => ∃ (c a : Addr) (k : Bool) (ns : List Int) (ls : List Nat) (ws : List Str) (x : Int), vs = [.ref c, .ref a, .int x] ∧ CodeAt K H c ls ws ∧ SqK K k H a (ns.map V.int) ∧ (∀ l ∈ ls, l ≤ 60) ∧ ls.length ≤ 60 ∧
  ∀ (H' : Hp) (r : Addr), Same H H' → H' r = some (.lst ((prices ns ls x).map V.int)) → Q (.ref r) H'
theorem ok_put_prices (T : Tx K mg) : Cal P w K mg base CX0 1 "put_prices" ["code", "counts", "count"] (spPutPrices K) := by
  refine cal_of T.g_put_prices T.f_put_prices sc_put_prices (fun _ _ _ _ _ _ us hl => match us, hl with | [_, _, _], _ => rfl) (fun vs H Q E ⟨a, b, _, _, _, _, _, e, _⟩ => by rw [e]; rfl) (fun fd cdv A outer s H vs Q E hr h => ?_)
  obtain ⟨c, a, k, ns, ls, ws, x, rfl, hc, ha, h60, hn, q⟩ := h
  refine ⟨_, (pss_one (ps_ret (pe_lc (own := [("own", 3), ("length", 4)]) (g := gTup K 2 (gCons (gName 3) (gCons (gName 4) gNil))) (tt := tYes) rfl sc_put_prices.nd (pi_zipM rfl T.b_zip (pa_cons (pv 1) (pa_cons (pe_fld (pv 0) rfl) pa_nil))) (blkOk_by (own := [("own", 3), ("length", 4)]) (N := n_put_prices) (sc := defScope s_put_prices) (by decide +kernel)) (fun _ _ _ _ _ => (pg_tup rfl (pgs_cons (pg_name (i := 3) sc_put_prices.nd rfl (Or.inl rfl)) (pgs_cons (pg_name (i := 4) sc_put_prices.nd rfl (Or.inl rfl)) pgs_nil)))) (fun _ _ _ _ _ => pts_nil) (fun _ _ _ _ _ => (pe_op op_add (pv 3) (pe_op op_mul (pv 2) (pe_op op_add (pv 4) pe_int))))))), ?_⟩
  obtain ⟨dx, B, C, m, e1, e2, e3⟩ := hc.ex
  refine ⟨_, rfl, _, rfl, c, _, _, _, _, rfl, e1, T.cl_Code, T.na_Code_lengths, rfl, k, false, a, B, _, _, rfl, ha, e2, fun D nD => ?_⟩
  refine lc_it (walk_zipM rfl) (fun i H' => Same H H' ∧ H' D = some (.lst ((((ns.zip ls).take i).map fun p => p.1 + x * ((p.2 : Int) + 1)).map V.int))) ⟨same_new nD, by rw [upd_same]; rfl⟩
    (fun i H' _ q => ⟨ha.same q.1, q.1.tup e2⟩) ?_ ?_
  · rintro i y H5 H6 hi ⟨s5, hD⟩ ⟨t, u, v, rfl, nt, rfl, hu, hv⟩
    obtain ⟨n, hn1, rfl⟩ := getI hu
    obtain ⟨l, hl, rfl⟩ := getN hv
    have nDt : D ≠ t := ne_of_none hD nt
    have l60 := h60 l (List.mem_of_getElem? hl)
    have hz : (ns.zip ls)[i]? = some (n, l) := List.getElem?_zip_eq_some.mpr ⟨hn1, hl⟩
    refine ⟨t, _, rfl, tup_at upd_same, rfl, _, _, rfl, _, _, rfl, rfl, rfl, yesI ⟨_, rfl, _, rfl, _, rfl, _, _, rfl, rfl, _, _, rfl, rfl, .inr ⟨by omega, by omega⟩, _, _, rfl, rfl, ?_⟩⟩
    refine ⟨_, by rw [upd_ne nDt]; exact hD, ?_, (s5.new nt).mut nD, ?_⟩
    · have : min (List.map V.int ns).length (List.map nI ls).length ≤ 60 := by rw [List.length_map, List.length_map]; omega
      rw [List.length_map, List.length_map, List.length_take]
      exact small1000 (by omega)
    · rw [upd_same, List.take_add_one, hz, List.map_append, List.map_append]
      rfl
  · rintro H5 ⟨s5, hD⟩
    rw [List.length_map, List.length_map, show (ns.zip ls).take (min ns.length ls.length) = ns.zip ls from List.take_of_length_le (by rw [List.length_zip]; exact Nat.le_refl _)] at hD
    exact q H5 D s5 hD
/-! ### grown_counts -/
def spGrown (K : PySem.W.Frag) : Sp := fun vs H Q _ => ∃ (a : Addr) (k : Bool) (ns : List Int) (rk : Nat) (x : Int), vs = [.ref a, nI rk, .int x] ∧ SqK K k H a (ns.map V.int) ∧ rk ≤ ns.length ∧ ns.length ≤ 60 ∧
  ∀ (H' : Hp) (r : Addr), Same H H' → H' r = some (.lst ((put ns rk x).map V.int)) → Q (.ref r) H'
theorem ok_grown_counts (T : Tx K mg) : Cal P w K mg base CX0 1 "grown_counts" ["counts", "rank", "count"] (spGrown K) := by
  refine cal_of T.g_grown_counts T.f_grown_counts sc_grown_counts (fun _ _ _ _ _ _ us hl => match us, hl with | [_, _, _], _ => rfl) (fun vs H Q E ⟨a, b, _, _, _, e, _⟩ => by rw [e]; rfl) (fun fd cdv A outer s H vs Q E hr h => ?_)
  obtain ⟨a, k, ns, rk, x, rfl, ha, hrk, hn, q⟩ := h
  refine ⟨_, (pss_one (ps_ret (pe_op op_cat (pe_op op_cat (pe_callTy call_list_of (by rfl) T.b_list (by decide +kernel) (pa_cons (pe_slice sl_seq (pv 0) po_none (po_some (pv 1))) pa_nil)) (pe_lst (pa_cons (pv 2) pa_nil))) (pe_callTy call_list_of (by rfl) T.b_list (by decide +kernel) (pa_cons (pe_slice sl_seq (pv 0) (po_some (pv 1)) po_none) pa_nil))))), ?_⟩
  refine ⟨_, rfl, _, rfl, _, rfl, use_slice ha fun H1 p1 s1 h1 => ?_⟩
  refine ⟨p1, _, rfl, h1, fun l nl => ?_⟩
  rw [cut_to]
  have s2 : Same H (upd H1 l (.lst ((ns.map V.int).take rk))) := s1.new nl
  have hl : upd H1 l (.lst ((ns.map V.int).take rk)) l = some (.lst ((ns.map V.int).take rk)) := upd_same
  revert s2 hl
  generalize upd H1 l (.lst ((ns.map V.int).take rk)) = H2
  intro s2 hl
  refine ⟨_, rfl, (by show 1 ≤ sizeLine; decide), fun l2 nl2 => ?_⟩
  have n12 : l ≠ l2 := ne_of_none hl nl2
  have lt : ((ns.map V.int).take rk).length ≤ 60 := by rw [List.length_take, List.length_map]; omega
  have ld : ((ns.map V.int).drop rk).length ≤ 60 := by rw [List.length_drop, List.length_map]; omega
  refine ⟨l, l2, _, _, rfl, rfl, by rw [upd_ne n12]; exact hl, upd_same, line_of (by show _ + 1 ≤ 1000; omega), fun l3 nl3 => ?_⟩
  have s3 : Same H (upd (upd H2 l2 (.lst [.int x])) l3 (.lst ((ns.map V.int).take rk ++ [.int x]))) := (s2.new nl2).new nl3
  have hl3 : upd (upd H2 l2 (.lst [.int x])) l3 (.lst ((ns.map V.int).take rk ++ [.int x])) l3 = some (.lst ((ns.map V.int).take rk ++ [.int x])) := upd_same
  revert s3 hl3
  generalize upd (upd H2 l2 (.lst [.int x])) l3 (.lst ((ns.map V.int).take rk ++ [.int x])) = H3
  intro s3 hl3
  refine ⟨_, rfl, _, rfl, _, rfl, use_slice (ha.same s3) fun H4 p4 s4 h4 => ?_⟩
  refine ⟨p4, _, rfl, h4, fun l5 nl5 => ?_⟩
  rw [cut_from]
  have hl4 := s4 _ _ hl3
  have n35 : l3 ≠ l5 := ne_of_none hl4 nl5
  refine ⟨l3, l5, _, _, rfl, rfl, by rw [upd_ne n35]; exact hl4, upd_same, line_of (by rw [List.length_append]; show _ + 1 + _ ≤ 1000; omega), fun l6 nl6 => ?_⟩
  refine q _ l6 (((s3.trans s4).new nl5).new nl6) ?_
  rw [upd_same]
  unfold put
  rw [List.map_append, List.map_append, List.map_take, List.map_drop]
  rfl
end
end K38


set_option Elab.async false
set_option linter.all false
set_option maxRecDepth 100000
set_option maxHeartbeats 4000000
/-! joined_pairs -/
namespace K38
open PySem PySem.Spec PyProof.Rows L2 M38
theorem if_split {c : TT} {t u : TS} {D : Ends} {σ : L2.St} {H : Hp} (b : Bool) (hb : ∀ Q' : Bool → Hp → Prop, Q' b H → c σ H Q') (h1 : b = true → t D σ H) (h2 : b = false → u D σ H) : tIfS c t u D σ H := by
  refine hb _ ?_
  cases b with
  | true => exact iteT (h1 rfl)
  | false => exact iteF (h2 rfl)
/-- a list of tuples -/
def Tab (H : Hp) (r : Addr) (us : List (List V)) : Prop := ∃ ts : List Addr, H r = some (.lst (ts.map V.ref)) ∧ Tups H ts us
theorem Tab.same {H H' : Hp} {r : Addr} {us : List (List V)} (h : Tab H r us) (s : Same H H') : Tab H' r us := by
  obtain ⟨ts, a, b⟩ := h
  exact ⟨ts, s _ _ a, b.same s⟩
theorem Tab.get {H : Hp} {r : Addr} {us : List (List V)} {i : Nat} {u : List V} (h : Tab H r us) (e : us[i]? = some u) : ∃ (xs : List V) (t : Addr), H r = some (.lst xs) ∧ xs[i]? = some (.ref t) ∧ H t = some (.tup u) := by
  obtain ⟨ts, a, b⟩ := h
  have hi : i < ts.length := by rw [b.1]; exact (List.getElem?_eq_some_iff.mp e).1
  exact ⟨_, ts[i], a, by rw [List.getElem?_map, List.getElem?_eq_getElem hi]; rfl, b.2 i _ u (List.getElem?_eq_getElem hi) e⟩
theorem Tab.len {H : Hp} {r : Addr} {us : List (List V)} (h : Tab H r us) : ∃ xs : List V, H r = some (.lst xs) ∧ xs.length = us.length := by
  obtain ⟨ts, a, b⟩ := h
  exact ⟨_, a, by rw [List.length_map, b.1]⟩
abbrev ndT (z : Int × Nat) : List V := [.int z.1, nI z.2]
abbrev stT (s : Nat × Nat × Int) : List V := [nI s.1, nI s.2.1, .int s.2.2]
/-- the pair that a tuple holds -/
def kf (H : Hp) (x : V) : Int × Int := match x with
  | .ref t => match H t with
    | some (.tup [.int a, .int b]) => (a, b)
    | _ => (0, 0)
  | _ => (0, 0)
def adr : V → Addr
  | .ref t => t
  | _ => 0
/-- sorted pairs: a rearrangement by the first -/
theorem sorted_nd {H : Hp} {ts : List Addr} {N : Nd} {ys : List V} (h : Tups H ts (N.map ndT)) (st : SrtO.Srtd (ltP (kf H)) ys) (pm : ys.Perm (ts.map V.ref)) :
    ∃ AA : Nd, AA.Perm N ∧ AA.Pairwise (fun p q => p.1 ≤ q.1) ∧ ys = (ys.map adr).map V.ref ∧ Tups H (ys.map adr) (AA.map ndT) := by
  have one : ∀ {x : V}, x ∈ ys → ∃ (i : Nat) (t : Addr) (z : Int × Nat), x = .ref t ∧ ts[i]? = some t ∧ N[i]? = some z ∧ H t = some (.tup (ndT z)) ∧ kf H x = (z.1, (z.2 : Int)) := fun {x} hx => by
    obtain ⟨t, ht, rfl⟩ := List.mem_map.mp (pm.mem_iff.mp hx)
    obtain ⟨i, hi⟩ := List.getElem?_of_mem ht
    have hl : i < N.length := by
      have := h.1
      rw [List.length_map] at this
      rw [← this]
      exact (List.getElem?_eq_some_iff.mp hi).1
    have e := h.2 i t (ndT N[i]) hi (by rw [List.getElem?_map, List.getElem?_eq_getElem hl]; rfl)
    exact ⟨i, t, N[i], rfl, hi, List.getElem?_eq_getElem hl, e, by unfold kf; simp only [e]⟩
  refine ⟨ys.map fun x => ((kf H x).1, (kf H x).2.toNat), ?_, ?_, ?_, ?_, ?_⟩
  · refine (pm.map _).trans (List.Perm.of_eq ?_)
    refine List.ext_getElem? fun i => ?_
    rw [List.map_map, List.getElem?_map]
    have hlen : ts.length = N.length := by rw [h.1, List.length_map]
    by_cases hi : i < ts.length
    · rw [List.getElem?_eq_getElem hi, List.getElem?_eq_getElem (show i < N.length by omega)]
      have e := h.2 i ts[i] (ndT N[i]) (List.getElem?_eq_getElem hi) (by rw [List.getElem?_map, List.getElem?_eq_getElem (show i < N.length by omega)]; rfl)
      simp only [Option.map_some, Function.comp_apply, kf, e, Int.toNat_natCast]
    · rw [List.getElem?_eq_none (by omega), List.getElem?_eq_none (by omega)]
      rfl
  · rw [List.pairwise_map]
    refine List.Pairwise.imp (fun {x y} hxy => ?_) st
    have := SrtO.lexB_no.mp hxy
    show (kf H x).1 ≤ (kf H y).1
    omega
  · rw [List.map_map]
    refine (List.map_id ys).symm.trans (List.map_congr_left fun x hx => ?_)
    obtain ⟨_, t, _, rfl, _⟩ := one hx
    rfl
  · rw [List.length_map, List.length_map, List.length_map]
  · intro i t u ht hu
    rw [List.getElem?_map] at ht
    rw [List.map_map, List.getElem?_map] at hu
    cases hy : ys[i]? with
    | none => rw [hy] at ht; cases ht
    | some y =>
      rw [hy] at ht hu
      obtain ⟨_, t', z, rfl, _, _, e, ek⟩ := one (List.mem_of_getElem? hy)
      obtain rfl : t' = t := Option.some.inj ht
      rw [← Option.some.inj hu]
      show H t' = some (.tup (ndT ((kf H (.ref t')).1, (kf H (.ref t')).2.toNat)))
      rw [ek]
      exact e
section
variable {P : Program} {w : World} {K : PySem.W.Frag} {mg : Str → Option Value} {base : Heap}
def spJoined (K : PySem.W.Frag) : Sp := fun vs H Q _ => ∃ (a : Addr) (ns : List Int), vs = [.ref a] ∧ H a = some (.lst (ns.map V.int)) ∧ 2 ≤ ns.length ∧ ns.length ≤ 60 ∧ (∀ n ∈ ns, 0 ≤ n) ∧
  ∀ (H' : Hp) (r : Addr) (ss : Stp), Same H H' → JoinsN ns.length ns.zipIdx ss → Tab H' r (ss.map stT) → Q (.ref r) H'
theorem ok_joined_pairs (T : Tx K mg) : Cal P w K mg base CX0 1 "joined_pairs" ["counts"] (spJoined K) := by
  refine cal_of T.g_joined_pairs T.f_joined_pairs sc_joined_pairs (fun _ _ _ _ _ _ us hl => match us, hl with | [_], _ => rfl) (fun vs H Q E ⟨a, b, e, _⟩ => by rw [e]; rfl) (fun fd cdv A outer s H vs Q E hr h => ?_)
  obtain ⟨a, ns, rfl, hA, n2, n60, h0, q⟩ := h
  refine ⟨_, (pss_cons (ps_set (i := 1) sc_joined_pairs.nd rfl (Or.inl rfl) (pe_callB cr_sortedPO (by rfl) T.b_sorted (by decide +kernel) (pa_cons (pe_lc (own := [("sign", 2), ("count", 3)]) (g := gTup K 2 (gCons (gName 2) (gCons (gName 3) gNil))) (tt := tYes) rfl sc_joined_pairs.nd (pi_enum rfl T.b_enumerate (pa_cons (pv 0) pa_nil)) (blkOk_by (own := [("sign", 2), ("count", 3)]) (N := n_joined_pairs) (sc := defScope s_joined_pairs) (by decide +kernel)) (fun _ _ _ _ _ => (pg_tup rfl (pgs_cons (pg_name (i := 2) sc_joined_pairs.nd rfl (Or.inl rfl)) (pgs_cons (pg_name (i := 3) sc_joined_pairs.nd rfl (Or.inl rfl)) pgs_nil)))) (fun _ _ _ _ _ => pts_nil) (fun _ _ _ _ _ => (pe_tup (pa_cons (pv 3) (pa_cons (pv 2) pa_nil))))) pa_nil)))
    (pss_cons (ps_par3 (i := 4) (j := 5) (l := 6) (by rfl) sc_joined_pairs.nd rfl rfl rfl (by decide) (by decide) (by decide) rfl rfl rfl (pa_cons (pe_lst pa_nil) (pa_cons pe_int (pa_cons pe_int pa_nil))) (by rfl))
    (pss_cons (ps_for PassesOwn.never rfl (pi_range1 rfl T.b_range (pa_cons (pe_op op_sub (pe_callB call_len_seq (by rfl) T.b_len (by decide +kernel) (pa_cons (pv 0) pa_nil)) pe_int) pa_nil)) (pg_name (i := 7) sc_joined_pairs.nd rfl (Or.inl rfl))
      (pss_cons (ps_par (i := 8) (j := 9) (by rfl) sc_joined_pairs.nd rfl rfl (by decide) rfl rfl (pa_cons (pe_lst pa_nil) (pa_cons pe_int pa_nil)) (by rfl))
      (pss_cons (ps_for PassesOwn.never rfl (pi_range1 rfl T.b_range (pa_cons pe_int pa_nil)) (pg_name (i := 10) sc_joined_pairs.nd rfl (Or.inl rfl))
        (pss_one (ps_if (PW.pt (pw_and (pt_cmpR op_lt (pv 5) (pe_callB call_len_seq (by rfl) T.b_len (by decide +kernel) (pa_cons (pv 1) pa_nil)) (nomark _)) (pw_and1 (PW.pt (pw_or (pt_cmpR op_eq (pv 6) (pe_callB call_len_seq (by rfl) T.b_len (by decide +kernel) (pa_cons (pv 4) pa_nil)) (nomark _)) (pw_or1 (pt_cmpR op_le (pe_ix ix_tup (pe_ix ix_list (pv 1) (pv 5) (fun _ _ => rfl)) pe_int (fun _ _ => rfl)) (pe_ix ix_tup (pe_ix ix_list (pv 4) (pv 6) (fun _ _ => rfl)) pe_int (fun _ _ => rfl)) (nomark _))))))))
          (pss_cons (ps_expr (pe_bm PySem.F.plainAttrs_list PySem.F.slot_list_append PySem.F.type_list_append mt_append (pv 8) (pa_cons (pe_ix ix_tup (pe_ix ix_list (pv 1) (pv 5) (fun _ _ => rfl)) pe_int (fun _ _ => rfl)) pa_nil)))
          (pss_cons (ps_aug (i := 9) sc_joined_pairs.nd rfl (Or.inl rfl) (pe_ix ix_tup (pe_ix ix_list (pv 1) (pv 5) (fun _ _ => rfl)) pe_int (fun _ _ => rfl)) ip_add)
          (pss_one (ps_aug (i := 5) sc_joined_pairs.nd rfl (Or.inl rfl) pe_int ip_add))))
          (pss_cons (ps_expr (pe_bm PySem.F.plainAttrs_list PySem.F.slot_list_append PySem.F.type_list_append mt_append (pv 8) (pa_cons (pe_op op_add (pe_callB call_len_seq (by rfl) T.b_len (by decide +kernel) (pa_cons (pv 0) pa_nil)) (pv 6)) pa_nil)))
          (pss_cons (ps_aug (i := 9) sc_joined_pairs.nd rfl (Or.inl rfl) (pe_ix ix_tup (pe_ix ix_list (pv 4) (pv 6) (fun _ _ => rfl)) pe_int (fun _ _ => rfl)) ip_add)
          (pss_one (ps_aug (i := 6) sc_joined_pairs.nd rfl (Or.inl rfl) pe_int ip_add)))))))
      (pss_one (ps_expr (pe_bm PySem.F.plainAttrs_list PySem.F.slot_list_append PySem.F.type_list_append mt_append (pv 4) (pa_cons (pe_tup (pa_cons (pe_ix ix_list (pv 8) pe_int (fun _ _ => rfl)) (pa_cons (pe_ix ix_list (pv 8) pe_int (fun _ _ => rfl)) (pa_cons (pv 9) pa_nil)))) pa_nil)))))))
    (pss_one (ps_ret (pv 4)))))), ?_⟩
  have hS : SqL K H a (ns.map V.int) := seq_at hA
  refine ⟨_, rfl, a, _, rfl, hS, fun D nD => ?_⟩
  refine lc_it walk_enum (fun i H' => Same H H' ∧ ∃ ts : List Addr, H' D = some (.lst (ts.map V.ref)) ∧ Tups H' ts ((ns.zipIdx.take i).map ndT)) ⟨same_new nD, [], upd_same, Tups.nil⟩
    (fun i H' _ p => p.1.seq hS) ?_ ?_
  · rintro i x H2 H3 hi ⟨s2, ts, hD, hT⟩ ⟨t, u, v, rfl, nt, rfl, hu, hv⟩
    obtain ⟨l, hl, rfl⟩ := getI hv
    obtain rfl : u = .int (i : Nat) := (Option.some.inj hu).symm
    refine ⟨t, _, rfl, tup_at upd_same, rfl, _, _, rfl, _, _, rfl, rfl, rfl, yesI ?_⟩
    refine ⟨_, rfl, _, rfl, (by show 2 ≤ sizeLine; decide), fun t2 nt2 => ?_⟩
    have nDt : D ≠ t := ne_of_none hD nt
    have hD3 : upd H2 t (.tup [.int (i : Nat), .int l]) D = some (.lst (ts.map V.ref)) := by rw [upd_ne nDt]; exact hD
    have nDt2 : D ≠ t2 := ne_of_none hD3 nt2
    have hlen : ts.length = i := by
      rw [hT.1, List.length_map, List.length_take, List.length_zipIdx]
      rw [List.length_map] at hi
      omega
    have hlen60 : i < 60 := by rw [List.length_map] at hi; omega
    refine ⟨ts.map V.ref, by rw [upd_ne nDt2]; exact hD3, by rw [List.length_map, hlen]; exact small1000 (by omega), ((s2.new nt).new nt2).mut nD, ts ++ [t2], by rw [upd_same, List.map_append]; rfl, ?_⟩
    have e1 : (ns.zipIdx.take (i + 1)).map ndT = (ns.zipIdx.take i).map ndT ++ [[.int l, .int (i : Int)]] := by
      rw [List.take_add_one, List.map_append, List.getElem?_zipIdx, hl]
      simp
    rw [e1]
    refine ((((hT.same (same_new nt)).same (same_new nt2)).snoc upd_same).mut fun xs e => ?_)
    rw [upd_ne nDt2, hD3] at e
    cases e
  · rintro H2 ⟨s2, ts, hD, hT⟩
    rw [List.length_map, show ns.zipIdx.take ns.length = ns.zipIdx from List.take_of_length_le (by rw [List.length_zipIdx]; exact Nat.le_refl _)] at hT
    refine ⟨D, _, kf H2, rfl, seq_at hD, fun x hx => ?_, fun ys p srt stb np => ?_⟩
    · obtain ⟨t, ht, rfl⟩ := List.mem_map.mp hx
      obtain ⟨i, hi⟩ := List.getElem?_of_mem ht
      have hl : i < ns.zipIdx.length := by
        have := hT.1
        rw [List.length_map] at this
        rw [← this]
        exact (List.getElem?_eq_some_iff.mp hi).1
      have e := hT.2 i t (ndT ns.zipIdx[i]) hi (by rw [List.getElem?_map, List.getElem?_eq_getElem hl]; rfl)
      refine ⟨t, rfl, ?_⟩
      unfold kf
      simp only [e]
    obtain ⟨AA, pA, sA, eY, hY⟩ := sorted_nd hT srt stb.perm
    have lA : AA.length = ns.length := by rw [pA.length_eq, List.length_zipIdx]
    have s3 : Same H (upd H2 p (.lst ys)) := s2.new np
    have hP : Tab (upd H2 p (.lst ys)) p (AA.map ndT) := ⟨ys.map adr, by rw [upd_same, ← eY], hY.same (same_new np)⟩
    revert s3 hP
    generalize upd H2 p (.lst ys) = H3
    intro s3 hP
    have h0A : ∀ z ∈ AA, 0 ≤ z.1 := fun z hz => by
      obtain ⟨i, hi⟩ := List.getElem?_of_mem (pA.mem_iff.mp hz)
      rw [List.getElem?_zipIdx] at hi
      cases hn : ns[i]? with
      | none => rw [hn] at hi; cases hi
      | some n =>
        rw [hn] at hi
        have e : z = (n, 0 + i) := (Option.some.inj hi).symm
        rw [e]
        exact h0 n (List.mem_of_getElem? hn)
    refine ⟨Nat.zero_le _, fun d nd => ?_⟩
    refine ⟨_, _, _, rfl, ?_⟩
    have hP0 := hP
    refine ⟨_, rfl, a, _, rfl, .inl ((s3.new nd).seq hS), _, _, rfl, rfl, _, rfl, by rw [List.length_map]; omega, by rw [List.length_map]; omega, ?_⟩
    rw [List.length_map, show ((ns.length : Int) - 1).toNat = ns.length - 1 by omega]
    refine for_it walk_range (fun t σ H' => ∃ (at_ f : Nat) (ss : Stp) (v7 v8 v9 v10 : Option V), σ = [some (.ref a), some (.ref p), none, none, some (.ref d), some (nI at_), some (nI f), v7, v8, v9, v10] ∧ Same H3 H' ∧ Tab H' d (ss.map stT) ∧ Two AA t at_ f ss)
      ⟨0, 0, [], none, none, none, none, rfl, same_new nd, ⟨[], upd_same, Tups.nil⟩, Two.start h0A⟩ (fun _ _ _ _ _ => trivial) ?_ ?_
    · rintro t x σ H4 H5 ht ⟨at_, f, ss, v7, v8, v9, v10, rfl, s4, hM, hw⟩ ⟨rfl, rfl⟩
      refine ⟨Nat.zero_le _, fun l nl => ?_⟩
      refine ⟨_, _, rfl, ?_⟩
      refine ⟨2, rfl, by decide, by decide, ?_⟩
      refine for_it walk_range (fun j σ H' => ∃ (a' f' : Nat) (pk : Nd) (W : Int) (v10 : Option V), σ = [some (.ref a), some (.ref p), none, none, some (.ref d), some (nI a'), some (nI f'), some (.int (0 + (t : Int))), some (.ref l), some (.int W), v10] ∧ W = (pk.map (·.1)).sum ∧ Same H5 H' ∧
          H' l = some (.lst (pk.map fun z => nI z.2)) ∧ Pk AA ss at_ f pk a' f' ∧ pk.length = j)
        ⟨at_, f, [], 0, v10, rfl, rfl, same_new nl, upd_same, Pk.start hw, rfl⟩ (fun _ _ _ _ _ => trivial) ?_ ?_
      · rintro j x σ H6 H7 hj ⟨a', f', pk, W, v10, rfl, eW, s6, hL, hk, lk⟩ ⟨rfl, rfl⟩
        have hj2 : pk.length < 2 := by rw [lk]; exact hj
        have hP6 : Tab H7 p (AA.map ndT) := hP.same (s4.trans s6)
        have hM6 : Tab H7 d (ss.map stT) := hM.same s6
        obtain ⟨xsP, eP, lP⟩ := hP6.len
        obtain ⟨xsM, eM, lM⟩ := hM6.len
        rw [List.length_map] at lP lM
        have hz : ∀ {z : Int × Nat}, AA[a']? = some z → ∃ (xs : List V) (t : Addr), H7 p = some (.lst xs) ∧ xs[a']? = some (.ref t) ∧ H7 t = some (.tup (ndT z)) := fun {z} e => hP6.get (by rw [List.getElem?_map, e]; rfl)
        have hs : ∀ {z : Nat × Nat × Int}, ss[f']? = some z → ∃ (xs : List V) (t : Addr), H7 d = some (.lst xs) ∧ xs[f']? = some (.ref t) ∧ H7 t = some (.tup (stT z)) := fun {z} e => hM6.get (by rw [List.getElem?_map, e]; rfl)
        have small : (pk.map fun z => nI z.2).length < sizeLine := by rw [List.length_map]; exact small1000 (by omega)
        refine if_split (decide (a' < AA.length ∧ (f' = ss.length ∨ ∃ q, (madeN AA.length ss)[f']? = some q ∧ ∃ z, AA[a']? = some z ∧ z.1 ≤ q.1))) (fun Q' hQ => ?_) (fun hc => ?_) (fun hc => ?_)
        · by_cases c1 : a' < AA.length
          · refine ⟨_, rfl, _, rfl, p, _, rfl, .inl (seq_at eP), _, _, rfl, rfl, _, rfl, ?_⟩
            rw [lP, decide_eq_true (show ((a' : Int) < (AA.length : Int)) by omega)]
            refine iteT ⟨_, rfl, _, rfl, d, _, rfl, .inl (seq_at eM), rfl, _, rfl, ?_⟩
            rw [lM]
            by_cases c2 : f' = ss.length
            · rw [decide_eq_true (show nI f' = nI ss.length from congrArg nI c2)]
              rw [decide_eq_true ⟨c1, .inl c2⟩] at hQ
              exact iteT hQ
            · rw [decide_eq_false (show ¬ nI f' = nI ss.length from fun e => c2 (by have := V.int.inj e; omega))]
              have c3 : f' < ss.length := by have := hk.fle; omega
              have ez : AA[a']? = some AA[a'] := List.getElem?_eq_getElem c1
              have es : ss[f']? = some ss[f'] := List.getElem?_eq_getElem c3
              obtain ⟨xs1, t1, g1, g2, g3⟩ := hz ez
              obtain ⟨xs2, t2, k1, k2, k3⟩ := hs es
              refine iteF ⟨_, rfl, _, rfl, p, _, _, _, rfl, rfl, seq_at g1, atI_nat g2, t1, _, _, _, rfl, rfl, tup_at g3, rfl, _, rfl, _, rfl, d, _, _, _, rfl, rfl, seq_at k1, atI_nat k2, t2, _, _, _, rfl, rfl, tup_at k3, rfl, _, _, rfl, rfl, _, rfl, ?_⟩
              have e : decide (a' < AA.length ∧ (f' = ss.length ∨ ∃ q, (madeN AA.length ss)[f']? = some q ∧ ∃ z, AA[a']? = some z ∧ z.1 ≤ q.1)) = decide (AA[a'].1 ≤ ss[f'].2.2) := by
                refine decide_eq_decide.mpr ⟨fun hh => ?_, fun hh => ⟨c1, .inr ⟨_, madeN_get es, _, ez, hh⟩⟩⟩
                rcases hh.2 with h1 | ⟨q1, h1, z1, h2, h3⟩
                · exact absurd h1 c2
                · rw [madeN_get es] at h1
                  rw [ez] at h2
                  rw [← Option.some.inj h1, ← Option.some.inj h2] at h3
                  exact h3
              rw [e] at hQ
              exact hQ
          · refine ⟨_, rfl, _, rfl, p, _, rfl, .inl (seq_at eP), _, _, rfl, rfl, _, rfl, ?_⟩
            rw [lP, decide_eq_false (show ¬ ((a' : Int) < (AA.length : Int)) by omega)]
            rw [decide_eq_false fun hh => c1 hh.1] at hQ
            exact iteF hQ
        · obtain ⟨c1, hb⟩ := of_decide_eq_true hc
          have ez : AA[a']? = some AA[a'] := List.getElem?_eq_getElem c1
          obtain ⟨xs1, t1, g1, g2, g3⟩ := hz ez
          refine ⟨_, rfl, .inl ⟨rfl, _, seq_at hL⟩, _, rfl, _, rfl, p, _, _, _, rfl, rfl, seq_at g1, atI_nat g2, t1, _, _, _, rfl, rfl, tup_at g3, rfl, l, _, _, rfl, rfl, hL, small, ?_⟩
          have s8 : Same H5 (upd H7 l (.lst ((pk.map fun z => nI z.2) ++ [nI AA[a'].2]))) := s6.mut nl
          have hP8 := hP.same (s4.trans s8)
          obtain ⟨xs2, t2, k1, k2, k3⟩ := hP8.get (show (AA.map ndT)[a']? = some (ndT AA[a']) by rw [List.getElem?_map, ez]; rfl)
          refine ⟨_, rfl, _, rfl, _, rfl, p, _, _, _, rfl, rfl, seq_at k1, atI_nat k2, t2, _, _, _, rfl, rfl, tup_at k3, rfl, _, _, rfl, rfl, ?_⟩
          refine ⟨_, rfl, _, _, rfl, rfl, ?_⟩
          have hx : AA[a']? = some (AA[a'].1, AA[a'].2) := ez
          obtain ⟨p1, p2⟩ := pick_sign sA hw.srt hx (f := f') (hb.imp (fun e => by rw [madeN_len]; exact e) fun ⟨q1, h1, z1, h2, h3⟩ => ⟨q1, h1, by rw [ez] at h2; rw [Option.some.inj h2]; exact h3⟩)
          refine ⟨a' + 1, f', pk ++ [(AA[a'].1, AA[a'].2)], _, _, rfl, ?_, s8, by rw [upd_same, List.map_append]; rfl, hk.push (by omega) (by omega) hk.fle p1 p2, by rw [List.length_append, lk]; rfl⟩
          rw [List.map_append, List.sum_append, eW]
          simp
        · have hcf : ¬ (a' < AA.length ∧ (f' = ss.length ∨ ∃ q, (madeN AA.length ss)[f']? = some q ∧ ∃ z, AA[a']? = some z ∧ z.1 ≤ q.1)) := of_decide_eq_false hc
          have c3 : f' < ss.length := by
            by_cases c1 : a' < AA.length
            · have := hk.fle
              have : f' ≠ ss.length := fun e => hcf ⟨c1, .inl e⟩
              omega
            · rcases hw.some hk (by omega) hj2 with h | h
              · exact absurd h c1
              · exact h
          have es : ss[f']? = some ss[f'] := List.getElem?_eq_getElem c3
          have hb : a' = AA.length ∨ ∃ q, AA[a']? = some q ∧ ss[f'].2.2 ≤ q.1 := by
            by_cases c1 : a' < AA.length
            · refine .inr ⟨AA[a'], List.getElem?_eq_getElem c1, ?_⟩
              have : ¬ AA[a'].1 ≤ ss[f'].2.2 := fun e => hcf ⟨c1, .inr ⟨_, madeN_get es, _, List.getElem?_eq_getElem c1, e⟩⟩
              omega
            · have := hk.ale
              exact .inl (by omega)
          have s7 := s4.trans s6
          refine ⟨_, rfl, .inl ⟨rfl, _, seq_at hL⟩, _, rfl, a, _, rfl, .inl ((s3.trans s7).seq hS), _, rfl, _, _, rfl, rfl, l, _, _, rfl, rfl, hL, small, ?_⟩
          have s8 : Same H5 (upd H7 l (.lst ((pk.map fun z => nI z.2) ++ [.int (((ns.map V.int).length : Int) + (f' : Int))]))) := s6.mut nl
          have hM8 := hM.same s8
          obtain ⟨xs2, t2, k1, k2, k3⟩ := hM8.get (show (ss.map stT)[f']? = some (stT ss[f']) by rw [List.getElem?_map, es]; rfl)
          refine ⟨_, rfl, _, rfl, _, rfl, d, _, _, _, rfl, rfl, seq_at k1, atI_nat k2, t2, _, _, _, rfl, rfl, tup_at k3, rfl, _, _, rfl, rfl, ?_⟩
          refine ⟨_, rfl, _, _, rfl, rfl, ?_⟩
          obtain ⟨p1, p2⟩ := pick_made sA hw.srt (madeN_get es) hb
          refine ⟨a', f' + 1, pk ++ [(ss[f'].2.2, AA.length + f')], _, _, rfl, ?_, s8, ?_, hk.push (by omega) hk.ale (by omega) p1 p2, by rw [List.length_append, lk]; rfl⟩
          · rw [List.map_append, List.sum_append, eW]
            simp
          · rw [upd_same, List.map_append, List.length_map, lA]
            rfl
      · rintro σ H6 ⟨a', f', pk, W, v10, rfl, eW, s6, hL, hk, lk⟩
        obtain ⟨x, i, y, j, rfl⟩ : ∃ x i y j, pk = [(x, i), (y, j)] := match pk, lk with
          | [(x, i), (y, j)], _ => ⟨x, i, y, j, rfl⟩
        have s7 := s4.trans s6
        obtain ⟨ts, eM, hTM⟩ := hM.same s6
        refine ⟨_, rfl, .inl ⟨rfl, _, seq_at eM⟩, _, rfl, l, _, _, _, rfl, rfl, seq_at hL, rfl, _, rfl, l, _, _, _, rfl, rfl, seq_at hL, rfl, _, rfl, (by show 3 ≤ sizeLine; decide), fun tt ntt => ?_⟩
        have ndt : d ≠ tt := ne_of_none eM ntt
        have lts : ts.length = ss.length := by rw [hTM.1, List.length_map]
        have lss : ss.length = t := hw.len
        refine ⟨d, _, _, rfl, rfl, by rw [upd_ne ndt]; exact eM, by rw [List.length_map, lts, lss]; exact small1000 (by omega), ?_⟩
        refine ⟨a', f', ss ++ [(i, j, x + y)], _, _, _, _, rfl, (s7.new ntt).mut nd, ⟨ts ++ [tt], by rw [upd_same, List.map_append]; rfl, ?_⟩, hw.turn hk⟩
        rw [List.map_append]
        refine ((hTM.same (same_new ntt)).snoc ?_).mut fun xs e => by rw [upd_ne ndt, eM] at e; cases e
        rw [upd_same, eW]
        simp [stT, nI]
    · rintro σ H4 ⟨at_, f, ss, v7, v8, v9, v10, rfl, s4, hM, hw⟩
      refine ⟨_, rfl, q H4 d ss (s3.trans s4) ?_ hM⟩
      have := hw.done (by omega)
      rw [lA] at this
      exact this.perm pA
end
end K38


set_option Elab.async false
set_option linter.all false
set_option maxRecDepth 100000
set_option maxHeartbeats 4000000
/-! least_of, lengths_for, is_least_for -/
namespace K38
open PySem PySem.Spec PyProof.Rows L2 M38
/-- lengths of a full code that Code takes -/
structure GoodL (ls : List Nat) : Prop where
  full : ∃ D, Full D ls
  len : ∀ l ∈ ls, 1 ≤ l ∧ l ≤ 60
  two : 2 ≤ ls.length
  most : ls.length ≤ 60
theorem GoodL.le {ls : List Nat} (h : GoodL ls) : ∀ l ∈ ls, l ≤ 60 := fun l hl => (h.len l hl).2
theorem Wd.good {ws : List Str} (h : Wd ws) (n : ws.length ≤ 60) : GoodL (ws.map Str.length) := by
  refine ⟨h.full, fun l hl => ?_, by rw [List.length_map]; exact h.two, by rw [List.length_map]; exact n⟩
  obtain ⟨z, hz, rfl⟩ := List.mem_map.mp hl
  have := h.len z hz
  omega
theorem idx_fst (ns : List Int) : ns.zipIdx.map (·.1) = ns := by
  refine List.ext_getElem? fun i => ?_
  rw [List.getElem?_map, List.getElem?_zipIdx]
  cases ns[i]? <;> rfl
theorem idx_snd (ns : List Int) : ns.zipIdx.map (·.2) = List.range ns.length := by
  refine List.ext_getElem? fun i => ?_
  rw [List.getElem?_map, List.getElem?_zipIdx]
  by_cases h : i < ns.length
  · rw [List.getElem?_eq_getElem h, List.getElem?_range h]
    simp
  · rw [List.getElem?_eq_none (by omega), List.getElem?_eq_none (by rw [List.length_range]; omega)]
    rfl
/-- what the joining tells -/
theorem joined_least {ns : List Int} {ss : Stp} (h : JoinsN ns.length ns.zipIdx ss) : (ss.map (·.2.2)).sum = L ns := by
  have j := h.joins
  rw [idx_fst] at j
  exact (show Lst ns (ss.map (·.2.2)).sum from ⟨_, j, rfl⟩).eq (List.Perm.refl _)
theorem zip_idx (ns : List Int) (f : Nat → Nat) : ns.zip ((List.range ns.length).map f) = ns.zipIdx.map fun p => (p.1, f p.2) := by
  refine List.ext_getElem? fun i => ?_
  rw [List.getElem?_map, List.getElem?_zipIdx]
  by_cases h : i < ns.length
  · have e1 : ((List.range ns.length).map f)[i]? = some (f i) := by rw [List.getElem?_map, List.getElem?_range h]; rfl
    rw [(List.getElem?_zip_eq_some (z := (ns[i], f i))).mpr ⟨List.getElem?_eq_getElem h, e1⟩, List.getElem?_eq_getElem h]
    simp
  · have e1 : (ns.zip ((List.range ns.length).map f)).length = ns.length := by rw [List.length_zip, List.length_map, List.length_range, Nat.min_self]
    rw [List.getElem?_eq_none (show (ns.zip ((List.range ns.length).map f)).length ≤ i by omega), List.getElem?_eq_none (show ns.length ≤ i by omega)]
    rfl
theorem joined_heights {ns : List Int} {ss : Stp} (h : JoinsN ns.length ns.zipIdx ss) (n2 : 2 ≤ ns.length) (n60 : ns.length ≤ 60) :
    GoodL ((List.range ns.length).map (hts ns.length ss)) ∧ costP (ns.zip ((List.range ns.length).map (hts ns.length ss))) = L ns ∧ ∀ i < ns.length, child ss i := by
  have ne : ns.zipIdx ≠ [] := fun e => by
    have z : ns.zipIdx.length = 0 := by rw [e]; rfl
    rw [List.length_zipIdx] at z
    omega
  have nd : (ns.zipIdx.map (·.2)).Nodup := by rw [idx_snd]; exact List.nodup_range
  obtain ⟨h1, h2, h3⟩ := h.heights ne nd (fun p hp => by
    have : p.2 ∈ ns.zipIdx.map (·.2) := List.mem_map_of_mem hp
    rw [idx_snd] at this
    exact List.mem_range.mp this)
  have h4 := h3 (by rw [List.length_zipIdx]; exact n2)
  have mem : ∀ i < ns.length, ∃ p ∈ ns.zipIdx, p.2 = i := fun i hi => by
    have : i ∈ ns.zipIdx.map (·.2) := by rw [idx_snd]; exact List.mem_range.mpr hi
    exact List.mem_map.mp this
  have e : (ns.zipIdx.map fun p => hts ns.length ss p.2) = (List.range ns.length).map (hts ns.length ss) := by rw [← idx_snd, List.map_map]; rfl
  refine ⟨⟨⟨ss.length, by rw [← e]; exact h1⟩, fun l hl => ?_, by rw [List.length_map, List.length_range]; exact n2, by rw [List.length_map, List.length_range]; exact n60⟩, ?_, fun i hi => ?_⟩
  · obtain ⟨i, hi, rfl⟩ := List.mem_map.mp hl
    obtain ⟨p, hp, rfl⟩ := mem i (List.mem_range.mp hi)
    refine ⟨(h4 p hp).2, ?_⟩
    have a := hts_le ns.length ss p.2
    have b := h.len
    rw [List.length_zipIdx] at b
    omega
  · rw [zip_idx, ← joined_least h, ← h2]
    unfold costP
    rw [List.map_map]
    rfl
  · obtain ⟨p, hp, rfl⟩ := mem i hi
    exact (h4 p hp).1
section
variable {P : Program} {w : World} {K : PySem.W.Frag} {mg : Str → Option Value} {base : Heap}
/-! ### least_of -/
def spLeast (K : PySem.W.Frag) : Sp := fun vs H Q _ => ∃ (a : Addr) (ns : List Int), vs = [.ref a] ∧ H a = some (.lst (ns.map V.int)) ∧ 2 ≤ ns.length ∧ ns.length ≤ 60 ∧ (∀ n ∈ ns, 0 ≤ n) ∧ ∀ H', Same H H' → Q (.int (L ns)) H'
theorem ok_least_of (T : Tx K mg) : Cal P w K mg base CX0 2 "least_of" ["counts"] (spLeast K) := by
  have c_joined_pairs := ok_joined_pairs (P := P) (w := w) (base := base) T
  refine cal_of T.g_least_of T.f_least_of sc_least_of (fun _ _ _ _ _ _ us hl => match us, hl with | [_], _ => rfl) (fun vs H Q E ⟨a, b, e, _⟩ => by rw [e]; rfl) (fun fd cdv A outer s H vs Q E hr h => ?_)
  obtain ⟨a, ns, rfl, hA, n2, n60, h0, q⟩ := h
  refine ⟨_, (pss_one (ps_ret (pe_callB (cr_sum rfl) (by rfl) T.b_sum (by decide +kernel) (pa_cons (pe_lc (own := [("one", 1), ("other", 2), ("weight", 3)]) (g := gTup K 3 (gCons (gName 1) (gCons (gName 2) (gCons (gName 3) gNil)))) (tt := tYes) rfl sc_least_of.nd (pi_list (pe_cal c_joined_pairs (hr.mono (by decide)) rfl pass0 (pa_cons (pv 0) pa_nil))) (blkOk_by (own := [("one", 1), ("other", 2), ("weight", 3)]) (N := n_least_of) (sc := defScope s_least_of) (by decide +kernel)) (fun _ _ _ _ _ => (pg_tup rfl (pgs_cons (pg_name (i := 1) sc_least_of.nd rfl (Or.inl rfl)) (pgs_cons (pg_name (i := 2) sc_least_of.nd rfl (Or.inl rfl)) (pgs_cons (pg_name (i := 3) sc_least_of.nd rfl (Or.inl rfl)) pgs_nil))))) (fun _ _ _ _ _ => pts_nil) (fun _ _ _ _ _ => (pv 3))) pa_nil)))), ?_⟩
  refine ⟨_, rfl, a, ns, rfl, hA, n2, n60, h0, fun H1 r ss s1 hj hT => ?_⟩
  have hl := hj.len
  rw [List.length_zipIdx] at hl
  obtain ⟨ts, hr1, hT1⟩ := hT
  have lts : ts.length = ss.length := by rw [hT1.1, List.length_map]
  refine ⟨r, rfl, ⟨_, seq_at hr1⟩, fun D nD => ?_⟩
  refine lc_it walk_list (fun i H' => Same H1 H' ∧ H' D = some (.lst (((ss.take i).map (·.2.2)).map V.int))) ⟨same_new nD, by rw [upd_same]; rfl⟩ (fun i H' _ s => s.1.seq (seq_at hr1)) ?_ ?_
  · rintro i y H2 H3 hi ⟨s2, hD⟩ ⟨rfl, hv⟩
    rw [List.getElem?_map] at hv
    cases ht : ts[i]? with
    | none => rw [ht] at hv; cases hv
    | some t =>
    rw [ht] at hv
    obtain rfl : V.ref t = y := Option.some.inj hv
    have his : i < ss.length := by rw [← lts]; exact (List.getElem?_eq_some_iff.mp ht).1
    have es : ss[i]? = some ss[i] := List.getElem?_eq_getElem his
    have et := s2 _ _ (hT1.2 i t (stT ss[i]) ht (by rw [List.getElem?_map, es]; rfl))
    refine ⟨t, _, rfl, tup_at et, rfl, _, _, rfl, _, _, rfl, _, _, rfl, rfl, rfl, yesI ⟨_, rfl, _, hD, by simp only [List.length_map, List.length_take]; exact small1000 (by omega), s2.mut nD, ?_⟩⟩
    rw [upd_same, List.take_add_one, es, List.map_append, List.map_append]
    rfl
  · rintro H2 ⟨s2, hD⟩
    rw [List.length_map, lts, List.take_length] at hD
    refine ⟨D, _, rfl, seq_at hD, ?_⟩
    rw [joined_least hj]
    exact q H2 (s1.trans s2)
/-! ### is_least_for -/
def spIsLeast (K : PySem.W.Frag) : Sp := fun vs H Q _ => ∃ (c a : Addr) (ns : List Int) (ls : List Nat) (ws : List Str), vs = [.ref c, .ref a] ∧ CodeAt K H c ls ws ∧ (∀ l ∈ ls, l ≤ 60) ∧ ls.length ≤ 60 ∧ H a = some (.lst (ns.map V.int)) ∧ 2 ≤ ns.length ∧ ns.length ≤ 60 ∧ (∀ n ∈ ns, 0 ≤ n) ∧
  ∀ H', Same H H' → Q (.bl (decide (costP (ns.zip ls) = L ns))) H'
theorem ok_is_least_for (T : Tx K mg) : Cal P w K mg base CX0 3 "is_least_for" ["code", "counts"] (spIsLeast K) := by
  have c_cost_by := ok_cost_by (P := P) (w := w) (base := base) T
  have c_least_of := ok_least_of (P := P) (w := w) (base := base) T
  refine cal_of T.g_is_least_for T.f_is_least_for sc_is_least_for (fun _ _ _ _ _ _ us hl => match us, hl with | [_, _], _ => rfl) (fun vs H Q E ⟨a, b, _, _, _, e, _⟩ => by rw [e]; rfl) (fun fd cdv A outer s H vs Q E hr h => ?_)
  obtain ⟨c, a, ns, ls, ws, rfl, hc, h60, hn, hA, n2, n60, h0, q⟩ := h
  refine ⟨_, (pss_one (ps_ret (pe_cmpR op_eq (pe_cal c_cost_by (hr.mono (by decide)) rfl pass0 (pa_cons (pv 0) (pa_cons (pv 1) pa_nil))) (pe_cal c_least_of (hr.mono (by decide)) rfl pass0 (pa_cons (pv 1) pa_nil)) (nomark _)))), ?_⟩
  refine ⟨_, rfl, _, rfl, c, a, true, ns, ls, ws, rfl, hc, seq_at hA, h60, hn, fun H1 s1 => ?_⟩
  refine ⟨_, rfl, a, ns, rfl, s1 _ _ hA, n2, n60, h0, fun H2 s2 => ?_⟩
  refine ⟨rfl, ?_⟩
  rw [show decide (V.int (costP (ns.zip ls)) = V.int (L ns)) = decide (costP (ns.zip ls) = L ns) from decide_eq_decide.mpr ⟨V.int.inj, congrArg V.int⟩]
  exact q H2 (s1.trans s2)
end
end K38


set_option Elab.async false
set_option linter.all false
set_option maxRecDepth 100000
set_option maxHeartbeats 4000000
/-! lengths_for -/
namespace K38
open PySem PySem.Spec PyProof.Rows L2 M38
/-- the dict of heights -/
def Hd (kvs : List (Key × V)) (id : Nat) (ss : Stp) : Prop := ∀ v : Nat, (child ss v → valV kvs (.inl (v : Int)) = some (nI (hts id ss v))) ∧ (¬ child ss v → valV kvs (.inl (v : Int)) = none)
theorem Hd.get {kvs : List (Key × V)} {id : Nat} {ss : Stp} (h : Hd kvs id ss) (v : Nat) : (valV kvs (.inl (v : Int))).getD (.int 0) = nI (hts id ss v) := by
  by_cases c : child ss v
  · rw [(h v).1 c]
    rfl
  · rw [(h v).2 c, hts_no c]
    rfl
theorem Hd.put {kvs : List (Key × V)} {id i j : Nat} {x : Int} {ss : Stp} (h : Hd kvs (id + 1) ss) :
    Hd (putK (putK kvs (.inl (i : Int)) (nI (hts (id + 1) ss id + 1))) (.inl (j : Int)) (nI (hts (id + 1) ss id + 1))) id ((i, j, x) :: ss) := by
  intro v
  have key : ∀ a b : Nat, ((Sum.inl (a : Int) : Key) = .inl (b : Int)) ↔ a = b := fun a b => ⟨fun e => by have := Sum.inl.inj e; omega, fun e => by rw [e]⟩
  rw [valV_put, valV_put, hts_cons]
  by_cases e : v = i ∨ v = j
  · have c : child ((i, j, x) :: ss) v := ⟨_, List.mem_cons_self .., e⟩
    refine ⟨fun _ => ?_, fun n => absurd c n⟩
    rw [if_pos e]
    by_cases ej : v = j
    · rw [if_pos ((key _ _).mpr ej)]
    · rw [if_neg (fun q => ej ((key _ _).mp q)), if_pos ((key _ _).mpr (e.resolve_right ej))]
  · rw [if_neg e, if_neg (fun q => e (.inr ((key _ _).mp q))), if_neg (fun q => e (.inl ((key _ _).mp q)))]
    refine ⟨fun c => (h v).1 ?_, fun n => (h v).2 fun ⟨s, hs, q⟩ => n ⟨s, List.mem_cons_of_mem _ hs, q⟩⟩
    obtain ⟨s, hs, q⟩ := c
    rcases List.mem_cons.mp hs with z | hs
    · rw [z] at q
      exact absurd q e
    · exact ⟨s, hs, q⟩
section
variable {P : Program} {w : World} {K : PySem.W.Frag} {mg : Str → Option Value} {base : Heap}
def spLengths (K : PySem.W.Frag) : Sp := fun vs H Q _ => ∃ (a : Addr) (ns : List Int), vs = [.ref a] ∧ H a = some (.lst (ns.map V.int)) ∧ 2 ≤ ns.length ∧ ns.length ≤ 60 ∧ (∀ n ∈ ns, 0 ≤ n) ∧
  ∀ (H' : Hp) (r : Addr) (hs : List Nat), Same H H' → H' r = some (.lst (hs.map nI)) → hs.length = ns.length → GoodL hs → costP (ns.zip hs) = L ns → Q (.ref r) H'
theorem ok_lengths_for (T : Tx K mg) : Cal P w K mg base CX0 2 "lengths_for" ["counts"] (spLengths K) := by
  have c_joined_pairs := ok_joined_pairs (P := P) (w := w) (base := base) T
  refine cal_of T.g_lengths_for T.f_lengths_for sc_lengths_for (fun _ _ _ _ _ _ us hl => match us, hl with | [_], _ => rfl) (fun vs H Q E ⟨a, b, e, _⟩ => by rw [e]; rfl) (fun fd cdv A outer s H vs Q E hr h => ?_)
  obtain ⟨a, ns, rfl, hA, n2, n60, h0, q⟩ := h
  refine ⟨_, (pss_cons (ps_asg (pe_tup (pa_cons (pe_callB call_len_seq (by rfl) T.b_len (by decide +kernel) (pa_cons (pv 0) pa_nil)) (pa_cons pe_dnewK pa_nil))) (pg_tup rfl (pgs_cons (pg_name (i := 1) sc_lengths_for.nd rfl (Or.inl rfl)) (pgs_cons (pg_name (i := 2) sc_lengths_for.nd rfl (Or.inr rfl)) pgs_nil))))
    (pss_cons (ps_set (i := 3) sc_lengths_for.nd rfl (Or.inl rfl) (pe_cal c_joined_pairs (hr.mono (by decide)) rfl pass0 (pa_cons (pv 0) pa_nil)))
    (pss_cons (ps_for PassesOwn.never rfl (pi_range3 rfl T.b_range (pa_cons (pe_op op_sub (pe_callB call_len_seq (by rfl) T.b_len (by decide +kernel) (pa_cons (pv 3) pa_nil)) pe_int) (pa_cons (pe_un un_neg pe_int) (pa_cons (pe_un un_neg pe_int) pa_nil)))) (pg_name (i := 4) sc_lengths_for.nd rfl (Or.inl rfl))
      (pss_cons (ps_set (i := 5) sc_lengths_for.nd rfl (Or.inl rfl) (pe_op op_add (pe_dget2 (hu_of hr) (pv 2) (pe_op op_add (pv 1) (pv 4)) pe_int ⟨rfl, rfl, rfl, rfl⟩) pe_int))
      (pss_cons (ps_dput (hu_of hr) (pv 2) (pe_ix ix_tup (pe_ix ix_list (pv 3) (pv 4) (fun _ _ => rfl)) pe_int (fun _ _ => rfl)) (pv 5) rfl)
      (pss_one (ps_dput (hu_of hr) (pv 2) (pe_ix ix_tup (pe_ix ix_list (pv 3) (pv 4) (fun _ _ => rfl)) pe_int (fun _ _ => rfl)) (pv 5) rfl)))))
    (pss_one (ps_ret (pe_lc (own := [("sign", 6)]) (g := gName 6) (tt := tYes) rfl sc_lengths_for.nd (pi_range1 rfl T.b_range (pa_cons (pv 1) pa_nil)) (blkOk_by (own := [("sign", 6)]) (N := n_lengths_for) (sc := defScope s_lengths_for) (by decide +kernel)) (fun _ _ _ _ _ => (pg_name (i := 6) sc_lengths_for.nd rfl (Or.inl rfl))) (fun _ _ _ _ _ => pts_nil) (fun _ _ _ _ _ => (pe_dget (hu_of hr) (pv 2) (pv 6) (fun _ _ => rfl))))))))), ?_⟩
  refine ⟨_, rfl, a, _, rfl, .inl (seq_at hA), ?_⟩
  intro d nd
  refine ⟨(by show 2 ≤ sizeLine; decide), fun p np => ?_⟩
  have ndp : d ≠ p := fun e => by rw [← e, upd_same] at np; cases np
  have sm1 : Same H (upd (upd H d (.dK [])) p (.tup [.int ((ns.map V.int).length : Int), .ref d])) := (same_new nd).new np
  have hd1 : upd (upd H d (.dK [])) p (.tup [.int ((ns.map V.int).length : Int), .ref d]) d = some (.dK []) := by rw [upd_ne ndp, upd_same]
  have hp1 : upd (upd H d (.dK [])) p (.tup [.int ((ns.map V.int).length : Int), .ref d]) p = some (.tup [.int ((ns.map V.int).length : Int), .ref d]) := upd_same
  revert sm1 hd1 hp1
  generalize upd (upd H d (.dK [])) p (.tup [.int ((ns.map V.int).length : Int), .ref d]) = H1
  intro sm1 hd1 hp1
  refine ⟨p, _, rfl, tup_at hp1, rfl, _, _, rfl, _, _, rfl, rfl, ?_⟩
  refine ⟨_, rfl, a, ns, rfl, sm1 _ _ hA, n2, n60, h0, fun H2 r ss s2 hj hT => ?_⟩
  have hl := hj.len
  rw [List.length_zipIdx] at hl
  have hd2 := s2 _ _ hd1
  obtain ⟨xs, er, lx⟩ := hT.len
  rw [List.length_map] at lx
  rw [List.length_map]
  refine ⟨_, rfl, r, _, rfl, .inl (seq_at er), _, _, rfl, rfl, _, rfl, _, rfl, _, _, _, _, rfl, RgC.neg (by omega) (by omega) (by decide) (by decide), ?_⟩
  rw [lx, show ((ss.length : Int) - 1 - -1).toNat = ss.length by omega]
  refine for_it walk_rangeC (fun t σ H' => ∃ (v4 v5 : Option V) (kvs : List (Key × V)), σ = [some (.ref a), some (nI ns.length), some (.ref d), some (.ref r), v4, v5, none] ∧ Px d H2 H' ∧ H' d = some (.dK kvs) ∧ kvs.length ≤ 2 * t ∧ Hd kvs (ns.length + (ss.length - t)) (ss.drop (ss.length - t)))
    ⟨none, none, [], rfl, .refl d H2, hd2, Nat.le_refl _, fun v => ⟨fun c => ?_, fun _ => rfl⟩⟩ (fun _ _ _ _ _ => trivial) ?_ ?_
  · rw [Nat.sub_zero, List.drop_length] at c
    obtain ⟨s, hs, _⟩ := c
    cases hs
  · rintro t x σ H4 H5 ht ⟨v4, v5, kvs, rfl, px, hd, hk, hH⟩ ⟨rfl, hx⟩
    obtain ⟨k, hk2⟩ : ∃ k, ss.length - t = k + 1 := ⟨ss.length - t - 1, by omega⟩
    have hx : x = .int ((ss.length : Int) - 1 + (t : Int) * -1) := hx
    rw [show ((ss.length : Int) - 1 + (t : Int) * -1) = (k : Int) by omega] at hx
    subst hx
    have hkl : k < ss.length := by omega
    rw [hk2, ← Nat.add_assoc] at hH
    obtain ⟨xs', t1, g1, g2, g3⟩ := hT.get (show (ss.map stT)[k]? = some (stT ss[k]) by rw [List.getElem?_map, List.getElem?_eq_getElem hkl]; rfl)
    have nrd : r ≠ d := fun e => by rw [e, hd2] at g1; cases g1
    have ntd : t1 ≠ d := fun e => by rw [e, hd2] at g3; cases g3
    have hg : (valV kvs (.inl ((ns.length : Int) + (k : Int)))).getD (.int 0) = nI (hts (ns.length + k + 1) (ss.drop (k + 1)) (ns.length + k)) := hH.get (ns.length + k)
    have pg := px.trans (Px.refl d H5)
    refine ⟨_, rfl, d, rfl, .inl ⟨_, .inl hd⟩, _, rfl, _, rfl, _, _, rfl, rfl, _, DGet.k (k := Sum.inl ((ns.length : Int) + (k : Int))) hd, _, _, hg, rfl, ?_⟩
    refine ⟨_, rfl, _, rfl, _, rfl, _, rfl, r, _, _, _, rfl, rfl, seq_at (px _ _ nrd g1), atI_nat g2, t1, _, _, _, rfl, rfl, tup_at (px _ _ ntd g3), rfl, d, _, rfl, DPut.k (k := Sum.inl ((ss[k].1 : Nat) : Int)) hd (small1000 (by omega)), ?_⟩
    refine ⟨_, rfl, _, rfl, _, rfl, _, rfl, r, _, _, _, rfl, rfl, seq_at (by rw [upd_ne nrd]; exact px _ _ nrd g1), atI_nat g2, t1, _, _, _, rfl, rfl, tup_at (by rw [upd_ne ntd]; exact px _ _ ntd g3), rfl, d, _, rfl,
      DPut.k (k := Sum.inl ((ss[k].2.1 : Nat) : Int)) upd_same (small1000 (Nat.le_trans putK_len ?_)), ?_⟩
    · omega
    refine ⟨_, _, _, rfl, px.upd.upd, upd_same, ?_, ?_⟩
    · have e1 := putK_len (kvs := kvs) (k := Sum.inl ((ss[k].1 : Nat) : Int)) (v := nI (hts (ns.length + k + 1) (ss.drop (k + 1)) (ns.length + k) + 1))
      have e2 := putK_len (kvs := putK kvs (Sum.inl ((ss[k].1 : Nat) : Int)) (nI (hts (ns.length + k + 1) (ss.drop (k + 1)) (ns.length + k) + 1))) (k := Sum.inl ((ss[k].2.1 : Nat) : Int)) (v := nI (hts (ns.length + k + 1) (ss.drop (k + 1)) (ns.length + k) + 1))
      refine Nat.le_trans e2 ?_
      omega
    · have e3 : ss.length - (t + 1) = k := by omega
      rw [e3, List.drop_eq_getElem_cons hkl]
      exact hH.put
  · rintro σ H4 ⟨v4, v5, kvs, rfl, px, hd, hk, hH⟩
    rw [Nat.sub_self, Nat.add_zero, List.drop_zero] at hH
    obtain ⟨hGood, hCost, hChild⟩ := joined_heights hj n2 n60
    have sm4 : Same H H4 := fun b o e => by
      have nb : b ≠ d := ne_of_none e nd
      exact px _ _ nb (s2 _ _ (sm1 _ _ e))
    refine ⟨_, rfl, _, rfl, (by omega), (by omega), fun D nD => ?_⟩
    rw [Int.toNat_natCast]
    have ndD : d ≠ D := ne_of_none hd nD
    refine lc_it walk_range (fun i H' => Same H4 H' ∧ H' D = some (.lst (((List.range i).map (hts ns.length ss)).map nI))) ⟨same_new nD, by rw [upd_same]; rfl⟩ (fun _ _ _ _ => trivial) ?_ ?_
    · rintro i x H5 H6 hi ⟨s5, hD⟩ ⟨rfl, rfl⟩
      have hv := (hH i).1 (hChild i hi)
      refine ⟨rfl, yesI ⟨_, rfl, _, rfl, d, nI (hts ns.length ss i), rfl, ?_, ?_⟩⟩
      · have g := DGet.k (k := Sum.inl (i : Int)) (s5 _ _ hd)
        rw [hv] at g
        show DGet H6 d (.int (0 + (i : Int))) _
        rw [Int.zero_add]
        exact g
      · refine ⟨_, hD, by simp only [List.length_map, List.length_range]; exact small1000 (by omega), s5.mut nD, ?_⟩
        rw [upd_same, List.range_succ, List.map_append, List.map_append]
        rfl
    · rintro H5 ⟨s5, hD⟩
      exact q H5 D _ (sm4.trans s5) hD (by rw [List.length_map, List.length_range]) hGood hCost
end
end K38


set_option Elab.async false
set_option linter.all false
set_option maxRecDepth 100000
set_option maxHeartbeats 4000000
/-! as_frozen; Kept, Recoded -/
namespace K38
open PySem PySem.Spec PyProof.Rows L2 M38
/-- neither a list nor a tuple -/
inductive Nl (K : PySem.W.Frag) (H : Hp) : V → Prop
  | non : Nl K H .non
  | int (i : Int) : Nl K H (.int i)
  | bl (b : Bool) : Nl K H (.bl b)
  | str (z : Str) : Nl K H (.str z)
  | cod {a dx : Addr} {fs : List (Str × V)} (h : H a = some (.ins (He.ga K "Code") dx fs)) : Nl K H (.ref a)
/-- no code -/
inductive Nc (H : Hp) : V → Prop
  | non : Nc H .non
  | int (i : Int) : Nc H (.int i)
  | bl (b : Bool) : Nc H (.bl b)
  | str (z : Str) : Nc H (.str z)
  | lst {a : Addr} {xs : List V} (h : H a = some (.lst xs)) : Nc H (.ref a)
section
variable {K : PySem.W.Frag} {mg : Str → Option Value} {H H' : Hp} {v : V}
theorem Nl.same (h : Nl K H v) (s : Same H H') : Nl K H' v := by
  cases h with
  | non => exact .non
  | int i => exact .int i
  | bl b => exact .bl b
  | str z => exact .str z
  | cod h => exact .cod (s _ _ h)
theorem Nc.same (h : Nc H v) (s : Same H H') : Nc H' v := by
  cases h with
  | non => exact .non
  | int i => exact .int i
  | bl b => exact .bl b
  | str z => exact .str z
  | lst h => exact .lst (s _ _ h)
theorem Nl.ty (T : Tx K mg) (h : Nl K H v) : ∃ t, TyX K H v t ∧ PySem.W.kitOne K t (.type "list") = some false ∧ PySem.W.kitOne K t (.type "tuple") = some false := by
  cases h with
  | non => exact ⟨_, .base .non, kit_ty (by decide +kernel), kit_ty (by decide +kernel)⟩
  | int i => exact ⟨_, .base (.int i), kit_ty (by decide +kernel), kit_ty (by decide +kernel)⟩
  | bl b => exact ⟨_, .base (.bl b), kit_ty (by decide +kernel), kit_ty (by decide +kernel)⟩
  | str z => exact ⟨_, .base (.str z), kit_ty (by decide +kernel), kit_ty (by decide +kernel)⟩
  | cod h => exact ⟨_, ty_code T h, T.k3, T.k4⟩
theorem Nc.ty (T : Tx K mg) (h : Nc H v) : ∃ t, TyX K H v t ∧ PySem.W.kitOne K t (.ref (He.ga K "Code")) = some false := by
  cases h with
  | non => exact ⟨_, .base .non, T.k5⟩
  | int i => exact ⟨_, .base (.int i), T.k6⟩
  | bl b => exact ⟨_, .base (.bl b), T.k7⟩
  | str z => exact ⟨_, .base (.str z), T.k8⟩
  | lst h => exact ⟨_, .base (.lst h), T.k9⟩
end
/-- counts as they are given: a list of ints, or something else -/
def Cl (K : PySem.W.Frag) (H : Hp) (v : V) (on : Option (List Int)) : Prop := (∃ a ns, on = some ns ∧ v = .ref a ∧ H a = some (.lst (ns.map V.int)) ∧ ns.length ≤ 61) ∨ (on = none ∧ Nl K H v)
/-- counts as they are kept: a tuple -/
def Ct (K : PySem.W.Frag) (H : Hp) (v : V) (on : Option (List Int)) : Prop := (∃ a ns, on = some ns ∧ v = .ref a ∧ H a = some (.tup (ns.map V.int)) ∧ ns.length ≤ 61) ∨ (on = none ∧ Nl K H v)
theorem Cl.same {K : PySem.W.Frag} {H H' : Hp} {v : V} {on : Option (List Int)} (h : Cl K H v on) (s : Same H H') : Cl K H' v on := by
  rcases h with ⟨a, ns, e1, e2, e3, e4⟩ | ⟨e, n⟩
  · exact .inl ⟨a, ns, e1, e2, s _ _ e3, e4⟩
  · exact .inr ⟨e, n.same s⟩
theorem Ct.same {K : PySem.W.Frag} {H H' : Hp} {v : V} {on : Option (List Int)} (h : Ct K H v on) (s : Same H H') : Ct K H' v on := by
  rcases h with ⟨a, ns, e1, e2, e3, e4⟩ | ⟨e, n⟩
  · exact .inl ⟨a, ns, e1, e2, s _ _ e3, e4⟩
  · exact .inr ⟨e, n.same s⟩
theorem pe_no {X : Cx} {e : Expr} : PE X e (fun _ _ _ => False) := ⟨fun _ _ _ _ _ _ h => h.elim⟩
section
variable {P : Program} {w : World} {K : PySem.W.Frag} {mg : Str → Option Value} {base : Heap}
/-! ### as_frozen -/
def spFrozen0 (K : PySem.W.Frag) : Sp := fun vs H Q _ => ∃ v, vs = [v] ∧ Nl K H v ∧ ∀ H', Same H H' → Q v H'
theorem ok_frozen0 (T : Tx K mg) : Cal P w K mg base CX0 1 "as_frozen" ["value"] (spFrozen0 K) := by
  refine cal_of T.g_as_frozen T.f_as_frozen sc_as_frozen (fun _ _ _ _ _ _ us hl => match us, hl with | [_], _ => rfl) (fun vs H Q E ⟨a, e, _⟩ => by rw [e]; rfl) (fun fd cdv A outer s H vs Q E hr h => ?_)
  obtain ⟨v, rfl, hv, q⟩ := h
  refine ⟨_, (pss_one (ps_ret (pe_ifExp (pt_val (pe_callB call_isiT (by rfl) T.b_isinstance (by decide +kernel) (pa_cons (pv 0) (pa_cons (pe_tup (pa_cons (pe_bltn (v := .ty "list") (u := .type "list") rfl T.b_list (by decide +kernel) rfl) (pa_cons (pe_bltn (v := .ty "tuple") (u := .type "tuple") rfl T.b_tuple (by decide +kernel) rfl) pa_nil))) pa_nil)))) pe_no (pv 0)))), ?_⟩
  refine ⟨_, rfl, (by show 2 ≤ sizeLine; decide), fun tp np => ?_⟩
  obtain ⟨t, ty, kl, kt⟩ := (hv.same (same_new (o := .tup [.ty "list", .ty "tuple"]) np)).ty T
  refine ⟨v, tp, _, t, _, false, rfl, upd_same, .cons (.ty "list") (.cons (.ty "tuple") .nil), ty, kitAny_cons kl (fun _ => kitAny_cons kt (fun _ => kitAny_nil) (fun z => by cases z)) (fun z => by cases z), _, rfl, iteF ?_⟩
  exact ⟨_, rfl, q _ (same_new np)⟩
def spFrozen (K : PySem.W.Frag) : Sp := fun vs H Q _ => ∃ v on, vs = [v] ∧ Cl K H v on ∧ ∀ H' v', Same H H' → Ct K H' v' on → (on = none → v' = v) → Q v' H'
theorem ok_as_frozen (T : Tx K mg) : Cal P w K mg base CX0 2 "as_frozen" ["value"] (spFrozen K) := by
  have c_as_frozen := ok_frozen0 (P := P) (w := w) (base := base) T
  refine cal_of T.g_as_frozen T.f_as_frozen sc_as_frozen (fun _ _ _ _ _ _ us hl => match us, hl with | [_], _ => rfl) (fun vs H Q E ⟨a, b, e, _⟩ => by rw [e]; rfl) (fun fd cdv A outer s H vs Q E hr h => ?_)
  obtain ⟨v, on, rfl, hv, q⟩ := h
  refine ⟨_, (pss_one (ps_ret (pe_ifExp (pt_val (pe_callB call_isiT (by rfl) T.b_isinstance (by decide +kernel) (pa_cons (pv 0) (pa_cons (pe_tup (pa_cons (pe_bltn (v := .ty "list") (u := .type "list") rfl T.b_list (by decide +kernel) rfl) (pa_cons (pe_bltn (v := .ty "tuple") (u := .type "tuple") rfl T.b_tuple (by decide +kernel) rfl) pa_nil))) pa_nil)))) (pe_callTy call_tuple_of (by rfl) T.b_tuple (by decide +kernel) (pa_cons (pe_lc (own := [("one", 1)]) (g := gName 1) (tt := tYes) rfl sc_as_frozen.nd (pi_list (pv 0)) (blkOk_by (own := [("one", 1)]) (N := n_as_frozen) (sc := defScope s_as_frozen) (by decide +kernel)) (fun _ _ _ _ _ => (pg_name (i := 1) sc_as_frozen.nd rfl (Or.inl rfl))) (fun _ _ _ _ _ => pts_nil) (fun _ _ _ _ _ => (pe_cal c_as_frozen (hr.mono (by decide)) rfl pass0 (pa_cons (pv 1) pa_nil)))) pa_nil)) (pv 0)))), ?_⟩
  refine ⟨_, rfl, (by show 2 ≤ sizeLine; decide), fun tp np => ?_⟩
  rcases hv with ⟨a, ns, rfl, rfl, hA, hn⟩ | ⟨rfl, hv⟩
  · have nap : a ≠ tp := ne_of_none hA np
    have hA1 : upd H tp (.tup [.ty "list", .ty "tuple"]) a = some (.lst (ns.map V.int)) := by rw [upd_ne nap]; exact hA
    refine ⟨.ref a, tp, _, _, _, true, rfl, upd_same, .cons (.ty "list") (.cons (.ty "tuple") .nil), .base (.lst hA1), kitAny_cons (kit_ty (r := true) (by decide +kernel)) (fun z => by cases z) (fun _ => rfl), _, rfl, iteT ?_⟩
    have s1 : Same H (upd H tp (.tup [.ty "list", .ty "tuple"])) := same_new np
    revert s1 hA1
    generalize upd H tp (.tup [.ty "list", .ty "tuple"]) = H1
    intro hA1 s1
    refine ⟨_, rfl, a, rfl, ⟨_, seq_at hA1⟩, fun D nD => ?_⟩
    refine lc_it walk_list (fun i H' => Same H1 H' ∧ H' D = some (.lst ((ns.take i).map V.int))) ⟨same_new nD, by rw [upd_same]; rfl⟩ (fun i H' _ s => s.1.seq (seq_at hA1)) ?_ ?_
    · rintro i y H2 H3 hi ⟨s2, hD⟩ ⟨rfl, hv⟩
      obtain ⟨n, hn2, rfl⟩ := getI hv
      refine ⟨rfl, yesI ⟨_, rfl, _, rfl, .int n, fun H4 s4 => ?_⟩⟩
      refine ⟨_, s4 _ _ hD, by simp only [List.length_map, List.length_take]; exact small1000 (by omega), (s2.trans s4).mut nD, ?_⟩
      rw [upd_same, List.take_add_one, hn2, List.map_append]
      rfl
    · rintro H2 ⟨s2, hD⟩
      rw [List.length_map, List.take_length] at hD
      refine ⟨D, _, rfl, .inl ⟨seq_at hD, fun r nr => ?_⟩⟩
      exact q _ _ ((s1.trans s2).new nr) (.inl ⟨r, ns, rfl, rfl, upd_same, hn⟩) (fun z => by cases z)
  · obtain ⟨t, ty, kl, kt⟩ := (hv.same (same_new (o := .tup [.ty "list", .ty "tuple"]) np)).ty T
    refine ⟨v, tp, _, t, _, false, rfl, upd_same, .cons (.ty "list") (.cons (.ty "tuple") .nil), ty, kitAny_cons kl (fun _ => kitAny_cons kt (fun _ => kitAny_nil) (fun z => by cases z)) (fun z => by cases z), _, rfl, iteF ?_⟩
    exact ⟨_, rfl, q _ _ (same_new np) (.inr ⟨rfl, hv.same (same_new np)⟩) fun _ => rfl⟩
end
end K38


set_option Elab.async false
set_option linter.all false
set_option maxRecDepth 100000
set_option maxHeartbeats 4000000
/-! Kept.__init__, Recoded.__init__ -/
namespace K38
open PySem PySem.Spec PyProof.Rows L2 M38
/-- what a paper holds: nm is its fifth field -/
abbrev toldF (nm : Str) (v1 v2 v3 v4 v5 : V) : List (Str × V) := [("code", v1), ("counts", v2), ("rank", v3), ("count", v4), (nm, v5)]
theorem Nl.mut {K : PySem.W.Frag} {H : Hp} {v : V} {x c dx : Addr} {fs gs : List (Str × V)} (h : Nl K H v) (hx : H x = some (.ins c dx fs)) : Nl K (upd H x (.ins c dx gs)) v := by
  cases h with
  | non => exact .non
  | int i => exact .int i
  | bl b => exact .bl b
  | str z => exact .str z
  | @cod a dy hs h =>
    by_cases e : a = x
    · rw [e, hx] at h
      injection h with h1
      injection h1 with h2
      refine .cod (dx := dx) (fs := gs) ?_
      rw [e, upd_same, h2]
    · exact .cod (by rw [upd_ne e]; exact h)
theorem Cl.mut {K : PySem.W.Frag} {H : Hp} {v : V} {on : Option (List Int)} {x c dx : Addr} {fs gs : List (Str × V)} (h : Cl K H v on) (hx : H x = some (.ins c dx fs)) : Cl K (upd H x (.ins c dx gs)) v on := by
  rcases h with ⟨a, ns, e1, e2, e3, e4⟩ | ⟨e, n⟩
  · exact .inl ⟨a, ns, e1, e2, by rw [upd_ne (fun z => by rw [z, hx] at e3; cases e3)]; exact e3, e4⟩
  · exact .inr ⟨e, n.mut hx⟩
theorem Ct.mut {K : PySem.W.Frag} {H : Hp} {v : V} {on : Option (List Int)} {x c dx : Addr} {fs gs : List (Str × V)} (h : Ct K H v on) (hx : H x = some (.ins c dx fs)) : Ct K (upd H x (.ins c dx gs)) v on := by
  rcases h with ⟨a, ns, e1, e2, e3, e4⟩ | ⟨e, n⟩
  · exact .inl ⟨a, ns, e1, e2, by rw [upd_ne (fun z => by rw [z, hx] at e3; cases e3)]; exact e3, e4⟩
  · exact .inr ⟨e, n.mut hx⟩
def spTold (K : PySem.W.Frag) (C : Addr) (nm : Str) : Sp := fun vs H Q _ => ∃ (x dx : Addr) (v1 cv v3 v4 v5 : V) (on : Option (List Int)), vs = [.ref x, v1, cv, v3, v4, v5] ∧ H x = some (.ins C dx []) ∧ Cl K H cv on ∧
  ∀ (H' : Hp) (cv' : V), Px x H H' → Ct K H' cv' on → (on = none → cv' = cv) → H' x = some (.ins C dx (toldF nm v1 cv' v3 v4 v5)) → Q .non H'
/-- what a call of such a class gives -/
theorem use_told {K : PySem.W.Frag} {C : Addr} {nm : Str} {H : Hp} {R : Addr → Hp → Prop} {E : XK} {v1 cv v3 v4 v5 : V} (on : Option (List Int)) (hc : Cl K H cv on)
    (q : ∀ (H' : Hp) (x dx : Addr) (cv' : V), Same H H' → Ct K H' cv' on → (on = none → cv' = cv) → H' x = some (.ins C dx (toldF nm v1 cv' v3 v4 v5)) → R x H') :
    ∀ x dx, H x = none → H dx = none → dx ≠ x → spTold K C nm [.ref x, v1, cv, v3, v4, v5] (upd (upd H dx (.own x)) x (.ins C dx [])) (fun v H2 => v = .non ∧ R x H2) E := by
  intro x dx nx nd ne
  refine ⟨x, dx, v1, cv, v3, v4, v5, on, rfl, upd_same, hc.same ((same_new nd).new (by rw [upd_ne (Ne.symm ne)]; exact nx)), fun H' cv' px ct e hx => ⟨rfl, q H' x dx cv' (same_made nx nd px) ct e hx⟩⟩
section
variable {P : Program} {w : World} {K : PySem.W.Frag} {mg : Str → Option Value} {base : Heap}
/-! ### Kept -/
theorem mk_Kept (T : Tx K mg) : C8.Mak P w K mg base 3 "Kept" (He.ga K "Kept") (spTold K (He.ga K "Kept") "sign") [] := by
  have c_as_frozen := ok_as_frozen (P := P) (w := w) (base := base) T
  obtain ⟨fd, F⟩ := T.f_Kept_init
  have ok : FnOk P w K mg base CX0 3 (He.ma K (He.ga K "Kept") "__init__") fd ["self", "code", "counts", "rank", "count", "sign"] (spTold K (He.ga K "Kept") "sign") := by
    refine F.ok sc_Kept_init (fun vs H Q E ⟨x, dx, _, _, _, _, _, _, e, _⟩ => by rw [e]; rfl) fun cdv A outer s H vs Q E hr hsp => ?_
    suffices hb : ∃ t, PSs (cxOf CX0 P w K mg base n_Kept_init "Kept.__init__" (defScope s_Kept_init) (He.ma K (He.ga K "Kept") "__init__") cdv A outer s H E).nox (defBody s_Kept_init) t ∧ t { nx := fun _ H' => Q .non H', rt := Q } (L2.start n_Kept_init vs) H by
      obtain ⟨t, h, q⟩ := hb
      exact ⟨t, h.nox, q⟩
    obtain ⟨x, dx, v1, cv, v3, v4, v5, on, rfl, hx, hc, q⟩ := hsp
    refine ⟨_, (pss_cons (ps_fld (pv 0) (pv 1) rfl)
      (pss_cons (ps_fld (pv 0) (pe_cal c_as_frozen (hr.mono (by decide)) rfl pass0 (pa_cons (pv 2) pa_nil)) rfl)
      (pss_cons (ps_fld (pv 0) (pv 3) rfl)
      (pss_cons (ps_fld (pv 0) (pv 4) rfl)
      (pss_one (ps_fld (pv 0) (pv 5) rfl)))))), ?_⟩
    refine ⟨_, rfl, _, rfl, x, _, dx, _, rfl, hx, T.cl_Kept, T.na_Kept_code, by show (0 : Nat) < 1000; decide, ?_⟩
    refine ⟨_, rfl, cv, on, rfl, hc.mut hx, fun H1 cv' s1 ct e => ?_⟩
    have h1 := s1 _ _ (upd_same (H := H) (a := x) (o := .ins (He.ga K "Kept") dx (putF "code" v1 [])))
    refine ⟨_, rfl, x, _, dx, _, rfl, h1, T.cl_Kept, T.na_Kept_counts, by show (1 : Nat) < 1000; decide, ?_⟩
    refine ⟨_, rfl, _, rfl, x, _, dx, _, rfl, upd_same, T.cl_Kept, T.na_Kept_rank, by show (2 : Nat) < 1000; decide, ?_⟩
    refine ⟨_, rfl, _, rfl, x, _, dx, _, rfl, upd_same, T.cl_Kept, T.na_Kept_count, by show (3 : Nat) < 1000; decide, ?_⟩
    refine ⟨_, rfl, _, rfl, x, _, dx, _, rfl, upd_same, T.cl_Kept, T.na_Kept_sign, by show (4 : Nat) < 1000; decide, ?_⟩
    refine q _ cv' ((((((Px.refl x H).upd).trans (Px.of s1)).upd).upd).upd).upd ((((ct.mut h1).mut upd_same).mut upd_same).mut upd_same) e ?_
    rw [upd_same]
    rfl
  exact ⟨_, fd, _, _, T.mk_Kept, ok, T.g_Kept, F.bindsN (fun _ _ _ _ _ _ us hl => match us, hl with | [_, _, _, _, _, _], _ => rfl), .nil⟩
/-! ### Recoded -/
theorem mk_Recoded (T : Tx K mg) : C8.Mak P w K mg base 3 "Recoded" (He.ga K "Recoded") (spTold K (He.ga K "Recoded") "other") [] := by
  have c_as_frozen := ok_as_frozen (P := P) (w := w) (base := base) T
  obtain ⟨fd, F⟩ := T.f_Recoded_init
  have ok : FnOk P w K mg base CX0 3 (He.ma K (He.ga K "Recoded") "__init__") fd ["self", "code", "counts", "rank", "count", "other"] (spTold K (He.ga K "Recoded") "other") := by
    refine F.ok sc_Recoded_init (fun vs H Q E ⟨x, dx, _, _, _, _, _, _, e, _⟩ => by rw [e]; rfl) fun cdv A outer s H vs Q E hr hsp => ?_
    suffices hb : ∃ t, PSs (cxOf CX0 P w K mg base n_Recoded_init "Recoded.__init__" (defScope s_Recoded_init) (He.ma K (He.ga K "Recoded") "__init__") cdv A outer s H E).nox (defBody s_Recoded_init) t ∧ t { nx := fun _ H' => Q .non H', rt := Q } (L2.start n_Recoded_init vs) H by
      obtain ⟨t, h, q⟩ := hb
      exact ⟨t, h.nox, q⟩
    obtain ⟨x, dx, v1, cv, v3, v4, v5, on, rfl, hx, hc, q⟩ := hsp
    refine ⟨_, (pss_cons (ps_fld (pv 0) (pv 1) rfl)
      (pss_cons (ps_fld (pv 0) (pe_cal c_as_frozen (hr.mono (by decide)) rfl pass0 (pa_cons (pv 2) pa_nil)) rfl)
      (pss_cons (ps_fld (pv 0) (pv 3) rfl)
      (pss_cons (ps_fld (pv 0) (pv 4) rfl)
      (pss_one (ps_fld (pv 0) (pv 5) rfl)))))), ?_⟩
    refine ⟨_, rfl, _, rfl, x, _, dx, _, rfl, hx, T.cl_Recoded, T.na_Recoded_code, by show (0 : Nat) < 1000; decide, ?_⟩
    refine ⟨_, rfl, cv, on, rfl, hc.mut hx, fun H1 cv' s1 ct e => ?_⟩
    have h1 := s1 _ _ (upd_same (H := H) (a := x) (o := .ins (He.ga K "Recoded") dx (putF "code" v1 [])))
    refine ⟨_, rfl, x, _, dx, _, rfl, h1, T.cl_Recoded, T.na_Recoded_counts, by show (1 : Nat) < 1000; decide, ?_⟩
    refine ⟨_, rfl, _, rfl, x, _, dx, _, rfl, upd_same, T.cl_Recoded, T.na_Recoded_rank, by show (2 : Nat) < 1000; decide, ?_⟩
    refine ⟨_, rfl, _, rfl, x, _, dx, _, rfl, upd_same, T.cl_Recoded, T.na_Recoded_count, by show (3 : Nat) < 1000; decide, ?_⟩
    refine ⟨_, rfl, _, rfl, x, _, dx, _, rfl, upd_same, T.cl_Recoded, T.na_Recoded_other, by show (4 : Nat) < 1000; decide, ?_⟩
    refine q _ cv' ((((((Px.refl x H).upd).trans (Px.of s1)).upd).upd).upd).upd ((((ct.mut h1).mut upd_same).mut upd_same).mut upd_same) e ?_
    rw [upd_same]
    rfl
  exact ⟨_, fd, _, _, T.mk_Recoded, ok, T.g_Recoded, F.bindsN (fun _ _ _ _ _ _ us hl => match us, hl with | [_, _, _, _, _, _], _ => rfl), .nil⟩
end
end K38


set_option Elab.async false
set_option linter.all false
set_option maxRecDepth 100000
set_option maxHeartbeats 4000000
/-! is_sign_of, can_put, parted_code, kept_code -/
namespace K38
open PySem PySem.Spec PyProof.Rows L2 M38
def iv : V → Int
  | .int i => i
  | _ => 0
theorem isCnt_int {v : V} (h : isCnt v = true) : ∃ n : Nat, v = nI n := by
  cases v with
  | int i =>
    have : 0 ≤ i := of_decide_eq_true h
    exact ⟨i.toNat, by show V.int i = V.int _; congr 1; omega⟩
  | _ => cases h
/-- what a paper tells when its code, counts, rank, count fit -/
def fit (oc : Option (List Nat)) (on : Option (List Int)) (v3 v4 : V) : Option (List Nat × List Int × Nat × Int) :=
  match oc, on with
  | some ls, some ns => if ns.length = ls.length ∧ isCnt v3 = true ∧ iv v3 ≤ ls.length ∧ isCnt v4 = true then some (ls, ns, (iv v3).toNat, iv v4) else none
  | _, _ => none
/-- a code, or no code at all -/
def Cdo (K : PySem.W.Frag) (H : Hp) (v : V) (oc : Option (List Nat)) : Prop := (∃ r ls ws, oc = some ls ∧ v = .ref r ∧ CodeAt K H r ls ws ∧ GoodL ls) ∨ (oc = none ∧ Nc H v)
theorem Cdo.same {K : PySem.W.Frag} {H H' : Hp} {v : V} {oc : Option (List Nat)} (h : Cdo K H v oc) (s : Same H H') : Cdo K H' v oc := by
  rcases h with ⟨r, ls, ws, e1, e2, c, g⟩ | ⟨e, n⟩
  · exact .inl ⟨r, ls, ws, e1, e2, c.same s, g⟩
  · exact .inr ⟨e, n.same s⟩
/-- a paper of class C: its fields may be read -/
structure Fld (K : PySem.W.Frag) (C : Addr) : Prop where
  cl : Cls K C
  n1 : NoAttr K C "code"
  n2 : NoAttr K C "counts"
  n3 : NoAttr K C "rank"
  n4 : NoAttr K C "count"
theorem ixN_nat {n i : Nat} (h : i < n) : ixN n (i : Int) = some i := by
  unfold ixN
  rw [if_pos (by omega), if_pos (by omega), Int.toNat_natCast]
section
variable {P : Program} {w : World} {K : PySem.W.Frag} {mg : Str → Option Value} {base : Heap}
theorem fld_kept (T : Tx K mg) : Fld K (He.ga K "Kept") := ⟨T.cl_Kept, T.na_Kept_code, T.na_Kept_counts, T.na_Kept_rank, T.na_Kept_count⟩
theorem fld_recoded (T : Tx K mg) : Fld K (He.ga K "Recoded") := ⟨T.cl_Recoded, T.na_Recoded_code, T.na_Recoded_counts, T.na_Recoded_rank, T.na_Recoded_count⟩
/-! ### is_sign_of -/
def spSignOf (K : PySem.W.Frag) : Sp := fun vs H Q _ => ∃ (c : Addr) (v : V) (ls : List Nat) (ws : List Str), vs = [.ref c, v] ∧ CodeAt K H c ls ws ∧ Va K H v ∧ Q (.bl (isCnt v && decide (iv v < ls.length))) H
theorem ok_is_sign_of (T : Tx K mg) : Cal P w K mg base CX0 2 "is_sign_of" ["code", "value"] (spSignOf K) := by
  have c_is_count := ok_is_count (P := P) (w := w) (base := base) T
  refine cal_of T.g_is_sign_of T.f_is_sign_of sc_is_sign_of (fun _ _ _ _ _ _ us hl => match us, hl with | [_, _], _ => rfl) (fun vs H Q E ⟨a, b, _, _, e, _⟩ => by rw [e]; rfl) (fun fd cdv A outer s H vs Q E hr h => ?_)
  obtain ⟨c, v, ls, ws, rfl, hc, hv, q⟩ := h
  refine ⟨_, (pss_one (ps_ret (pe_and (pe_cal c_is_count (hr.mono (by decide)) rfl pass0 (pa_cons (pv 1) pa_nil)) (pe_one (pe_cmpR op_lt (pv 1) (pe_fld (pv 0) rfl) (nomark _)))))), ?_⟩
  obtain ⟨dx, B, C, m, e1, e2, e3⟩ := hc.ex
  refine ⟨_, rfl, v, rfl, hv, _, rfl, ?_⟩
  cases hi : isCnt v with
  | false =>
    rw [hi] at q
    exact iteF q
  | true =>
    obtain ⟨n, rfl⟩ := isCnt_int hi
    rw [hi] at q
    exact iteT ⟨_, rfl, _, rfl, c, _, _, _, _, rfl, e1, T.cl_Code, T.na_Code_size, rfl, _, _, rfl, rfl, q⟩
/-! ### can_put -/
def spCanPut (K : PySem.W.Frag) : Sp := fun vs H Q _ => ∃ (t C dx : Addr) (nm : Str) (v1 v2 v3 v4 v5 : V) (oc : Option (List Nat)) (on : Option (List Int)), vs = [.ref t] ∧ Fld K C ∧ H t = some (.ins C dx (toldF nm v1 v2 v3 v4 v5)) ∧ Cdo K H v1 oc ∧ Ct K H v2 on ∧
  (∀ ns, on = some ns → ∀ n ∈ ns, 0 ≤ n) ∧ Va K H v3 ∧ Va K H v4 ∧ ∀ H', Same H H' → Q (.bl (fit oc on v3 v4).isSome) H'
theorem ok_can_put (T : Tx K mg) : Cal P w K mg base CX0 2 "can_put" ["told"] (spCanPut K) := by
  have c_is_count := ok_is_count (P := P) (w := w) (base := base) T
  obtain ⟨tS, mS⟩ := T.mS
  refine cal_of T.g_can_put T.f_can_put sc_can_put (fun _ _ _ _ _ _ us hl => match us, hl with | [_], _ => rfl) (fun vs H Q E ⟨a, b, _, _, _, _, _, _, _, _, _, e, _⟩ => by rw [e]; rfl) (fun fd cdv A outer s H vs Q E hr h => ?_)
  obtain ⟨t, C, dx, nm, v1, v2, v3, v4, v5, oc, on, rfl, F, ht, h1, h2, h0, h3, h4, q⟩ := h
  refine ⟨_, (pss_cons (ps_if (PW.pt (pw_or (pt_not (pt_val (pe_callB call_isi (by rfl) T.b_isinstance (by decide +kernel) (pa_cons (pe_fld (pv 0) rfl) (pa_cons (pe_glob (v := .ref (He.ga K "Code")) rfl T.g_Code rfl) pa_nil))))) (pw_or (pt_not (pt_val (pe_callB call_isi (by rfl) T.b_isinstance (by decide +kernel) (pa_cons (pe_fld (pv 0) rfl) (pa_cons (pe_bltn (v := .ty "tuple") (u := .type "tuple") rfl T.b_tuple (by decide +kernel) rfl) pa_nil))))) (pw_or1 (pt_cmpR op_ge (pe_fld (pe_fld (pv 0) rfl) rfl) (pe_glob (v := .int 2000) rfl mS ⟨_, rfl⟩) (nomark _))))))
      (pss_one (ps_ret pe_bl))
      pss_nil)
    (pss_cons (ps_if (PW.pt (pw_or (pt_cmpR op_ne (pe_callB call_len_seq (by rfl) T.b_len (by decide +kernel) (pa_cons (pe_fld (pv 0) rfl) pa_nil)) (pe_fld (pe_fld (pv 0) rfl) rfl) (nomark _)) (pw_or1 (pt_not (pt_val (pe_callB (cr_all rfl) (by rfl) T.b_all (by decide +kernel) (pa_cons (pe_lc (own := [("count", 1)]) (g := gName 1) (tt := tYes) rfl sc_can_put.nd (pi_tup (pe_fld (pv 0) rfl)) (blkOk_by (own := [("count", 1)]) (N := n_can_put) (sc := defScope s_can_put) (by decide +kernel)) (fun _ _ _ _ _ => (pg_name (i := 1) sc_can_put.nd rfl (Or.inl rfl))) (fun _ _ _ _ _ => pts_nil) (fun _ _ _ _ _ => (pe_cal c_is_count (hr.mono (by decide)) rfl pass0 (pa_cons (pv 1) pa_nil)))) pa_nil)))))))
      (pss_one (ps_ret pe_bl))
      pss_nil)
    (pss_one (ps_ret (pe_and (pe_cal c_is_count (hr.mono (by decide)) rfl pass0 (pa_cons (pe_fld (pv 0) rfl) pa_nil)) (pe_and (pe_cmpR op_le (pe_fld (pv 0) rfl) (pe_fld (pe_fld (pv 0) rfl) rfl) (nomark _)) (pe_one (pe_cal c_is_count (hr.mono (by decide)) rfl pass0 (pa_cons (pe_fld (pv 0) rfl) pa_nil))))))))), ?_⟩
  rcases h1 with ⟨r, ls, ws, rfl, rfl, hc, hg⟩ | ⟨rfl, hn⟩
  case' inr =>
    obtain ⟨ty, h5, h6⟩ := hn.ty T
    refine ⟨_, rfl, t, _, dx, _, _, rfl, ht, F.cl, F.n1, rfl, _, _, _, _, _, rfl, .own _, h5, h6, _, rfl, iteT ?_⟩
    exact iteT (q H (.refl H))
  obtain ⟨dy, B, D, m, e1, e2, e3⟩ := hc.ex
  refine ⟨_, rfl, t, _, dx, _, _, rfl, ht, F.cl, F.n1, rfl, _, _, _, _, _, rfl, .own _, ty_code T e1, T.k13, _, rfl, iteF ?_⟩
  rcases h2 with ⟨a, ns, rfl, rfl, ha, hl⟩ | ⟨rfl, hn⟩
  case' inr =>
    obtain ⟨ty, h5, _, h6⟩ := hn.ty T
    refine ⟨_, rfl, t, _, dx, _, _, rfl, ht, F.cl, F.n2, rfl, _, _, _, _, _, rfl, .ty "tuple", h5, h6, _, rfl, iteT ?_⟩
    exact iteT (q H (.refl H))
  refine ⟨_, rfl, t, _, dx, _, _, rfl, ht, F.cl, F.n2, rfl, _, _, _, _, _, rfl, .ty "tuple", .base (.tup ha), kit_ty (r := true) (by decide +kernel), _, rfl, iteF ?_⟩
  refine ⟨_, rfl, t, _, dx, _, _, rfl, ht, F.cl, F.n1, rfl, r, _, dy, _, _, rfl, e1, T.cl_Code, T.na_Code_size, rfl, _, _, rfl, rfl, _, rfl, ?_⟩
  rw [decide_eq_false (show ¬ ((2000 : Int) ≤ (ls.length : Int)) by have := hg.most; omega)]
  refine iteF ?_
  refine ⟨_, rfl, t, _, dx, _, _, rfl, ht, F.cl, F.n2, rfl, a, _, rfl, .inr (tup_at ha), _, rfl, t, _, dx, _, _, rfl, ht, F.cl, F.n1, rfl, r, _, dy, _, _, rfl, e1, T.cl_Code, T.na_Code_size, rfl, rfl, _, rfl, ?_⟩
  rw [List.length_map]
  by_cases hlen : ns.length = ls.length
  · rw [decide_eq_true (show nI ns.length = nI ls.length from congrArg nI hlen)]
    refine iteF ⟨_, rfl, t, _, dx, _, _, rfl, ht, F.cl, F.n2, rfl, a, rfl, ⟨_, tup_at ha⟩, fun L nL => ?_⟩
    refine lc_it walk_tup (fun i H' => Same H H' ∧ H' L = some (.lst ((List.replicate i true).map V.bl))) ⟨same_new nL, upd_same⟩ (fun i H' _ s => s.1.tup (tup_at ha)) ?_ ?_
    · rintro i y H2 H3 hi ⟨s2, hD⟩ ⟨rfl, hv⟩
      obtain ⟨n, hn2, rfl⟩ := getI hv
      rw [List.length_map] at hi
      refine ⟨rfl, yesI ⟨_, rfl, _, rfl, .int n, _, hD, by rw [List.length_map, List.length_replicate]; exact small1000 (by omega), s2.mut nL, ?_⟩⟩
      have c : isCnt (.int n) = true := decide_eq_true (h0 ns rfl n (List.mem_of_getElem? hn2))
      rw [upd_same, c, List.replicate_succ', List.map_append]
      rfl
    · rintro H2 ⟨s2, hD⟩
      refine ⟨L, _, rfl, seq_at hD, _, rfl, ?_⟩
      rw [show ∀ n, (List.replicate n true).all id = true from fun n => by simp]
      have ht2 := s2 _ _ ht
      refine iteF ⟨_, rfl, t, _, dx, _, _, rfl, ht2, F.cl, F.n3, rfl, v3, rfl, h3.same s2, _, rfl, ?_⟩
      have q2 := q H2 s2
      have e0 : fit (some ls) (some ns) v3 v4 = if ns.length = ls.length ∧ isCnt v3 = true ∧ iv v3 ≤ ls.length ∧ isCnt v4 = true then some (ls, ns, (iv v3).toNat, iv v4) else none := rfl
      cases hi : isCnt v3 with
      | false =>
        rw [e0, if_neg (by rw [hi]; exact fun z => by cases z.2.1)] at q2
        exact iteF q2
      | true =>
        obtain ⟨n, rfl⟩ := isCnt_int hi
        refine iteT ⟨_, rfl, t, _, dx, _, _, rfl, ht2, F.cl, F.n3, rfl, _, rfl, t, _, dx, _, _, rfl, ht2, F.cl, F.n1, rfl, r, _, dy, _, _, rfl, s2 _ _ e1, T.cl_Code, T.na_Code_size, rfl, _, _, rfl, rfl, _, rfl, ?_⟩
        by_cases hr2 : n ≤ ls.length
        · rw [decide_eq_true (show (n : Int) ≤ (ls.length : Int) by omega)]
          refine iteT ⟨_, rfl, t, _, dx, _, _, rfl, ht2, F.cl, F.n4, rfl, v4, rfl, h4.same s2, ?_⟩
          cases hi4 : isCnt v4 with
          | false =>
            rw [e0, if_neg (by rw [hi4]; exact fun z => by cases z.2.2.2)] at q2
            exact q2
          | true =>
            rw [e0, if_pos ⟨hlen, rfl, (show (n : Int) ≤ (ls.length : Int) by omega), hi4⟩] at q2
            exact q2
        · rw [decide_eq_false (show ¬ (n : Int) ≤ (ls.length : Int) by omega)]
          rw [e0, if_neg (fun z => hr2 (by have : (n : Int) ≤ (ls.length : Int) := z.2.2.1; omega))] at q2
          exact iteF q2
  · rw [decide_eq_false (show ¬ nI ns.length = nI ls.length from fun e => hlen (by have := V.int.inj e; omega))]
    refine iteT (iteT ?_)
    have e : fit (some ls) (some ns) v3 v4 = none := if_neg fun z => hlen z.1
    rw [e] at q
    exact q H (.refl H)
/-! ### parted_code, kept_code -/
def spParted (K : PySem.W.Frag) : Sp := fun vs H Q _ => ∃ (c : Addr) (i k : Nat) (ls : List Nat) (ws : List Str) (z : Str), vs = [.ref c, nI i, nI k] ∧ CodeAt K H c ls ws ∧ Wd ws ∧ ws.length + 1 ≤ 60 ∧ ws[i]? = some z ∧ k ≤ ws.length ∧
  ∀ (H' : Hp) (r : Addr), Same H H' → CodeAt K H' r ((parted ws i k z).map Str.length) (parted ws i k z) → Q (.ref r) H'
theorem ok_parted_code (T : Tx K mg) : Cal P w K mg base CX0 6 "parted_code" ["code", "sign", "rank"] (spParted K) := by
  have c_code_of := ok_code_of (P := P) (w := w) (base := base) T
  refine cal_of T.g_parted_code T.f_parted_code sc_parted_code (fun _ _ _ _ _ _ us hl => match us, hl with | [_, _, _], _ => rfl) (fun vs H Q E ⟨a, b, _, _, _, _, e, _⟩ => by rw [e]; rfl) (fun fd cdv A outer s H vs Q E hr h => ?_)
  obtain ⟨c, i, k, ls, ws, z, rfl, hc, hW, h60, hz, hk, q⟩ := h
  refine ⟨_, (pss_cons (ps_set (i := 3) sc_parted_code.nd rfl (Or.inl rfl) (pe_callTy call_list_of (by rfl) T.b_list (by decide +kernel) (pa_cons (pe_fld (pv 0) rfl) pa_nil)))
    (pss_cons (ps_set (i := 4) sc_parted_code.nd rfl (Or.inl rfl) (pe_ix ix_list (pv 3) (pv 1) (fun _ _ => rfl)))
    (pss_cons (ps_asg (pe_op op_add_str (pv 4) pe_str) (pg_sub (pv 3) (pv 1) set_list))
    (pss_one (ps_ret (pe_cal c_code_of (hr.mono (by decide)) rfl pass0 (pa_cons (pe_op op_cat (pe_op op_cat (pe_slice sl_list (pv 3) po_none (po_some (pv 2))) (pe_lst (pa_cons (pe_op op_add_str (pv 4) pe_str) pa_nil))) (pe_slice sl_list (pv 3) (po_some (pv 2)) po_none)) pa_nil))))))), ?_⟩
  obtain ⟨dx, B, C, m, e1, e2, e3⟩ := hc.ex
  refine ⟨_, rfl, c, _, _, _, _, rfl, e1, T.cl_Code, T.na_Code_words, rfl, C, _, rfl, .inr e3, fun l nl => ?_⟩
  have sm1 : Same H (upd H l (.lst (ws.map V.str))) := same_new nl
  refine ⟨_, rfl, _, rfl, l, _, _, _, rfl, rfl, seq_at upd_same, atI_nat (mapS hz), ?_⟩
  have hzl := hW.len z (List.mem_of_getElem? hz)
  have hil : i < ws.length := (List.getElem?_eq_some_iff.mp hz).1
  have l0 : (z ++ s0).length = z.length + 1 := by rw [len_app, len0]
  have hset : (ws.map V.str).set i (.str (z ++ s0)) = (ws.set i (z ++ s0)).map V.str := by rw [List.map_set]
  refine ⟨_, rfl, _, _, rfl, rfl, line_of (by rw [show ("0" : Str).length = 1 from len0]; omega), ?_⟩
  refine ⟨_, rfl, _, rfl, l, _, _, i, rfl, rfl, upd_same, ixN_nat (by rw [List.length_map]; exact hil), ?_⟩
  rw [hset]
  have s2 : Same H (upd (upd H l (.lst (ws.map V.str))) l (.lst ((ws.set i (z ++ s0)).map V.str))) := sm1.mut nl
  have hl : upd (upd H l (.lst (ws.map V.str))) l (.lst ((ws.set i (z ++ s0)).map V.str)) l = some (.lst ((ws.set i (z ++ s0)).map V.str)) := upd_same
  revert s2 hl
  generalize upd (upd H l (.lst (ws.map V.str))) l (.lst ((ws.set i (z ++ s0)).map V.str)) = H1
  intro s2 hl
  generalize hvs : ws.set i (z ++ s0) = vs at hl
  have lvs : vs.length = ws.length := by rw [← hvs, List.length_set]
  refine ⟨_, rfl, _, rfl, _, rfl, l, _, rfl, seq_at hl, fun p1 n1 => ?_⟩
  rw [cut_to, ← List.map_take]
  refine ⟨_, rfl, _, _, rfl, rfl, line_of (by rw [show ("1" : Str).length = 1 from len1]; omega), (by show 1 ≤ sizeLine; decide), fun p2 n2 => ?_⟩
  have n12 : p1 ≠ p2 := ne_of_none upd_same n2
  refine ⟨p1, p2, _, _, rfl, rfl, by rw [upd_ne n12, upd_same], upd_same, line_of (by rw [List.length_map, List.length_take]; show _ + 1 ≤ 1000; omega), fun p3 n3 => ?_⟩
  have s5 : Same H1 (upd (upd (upd H1 p1 (.lst ((vs.take k).map V.str))) p2 (.lst [.str (z ++ s1)])) p3 (.lst ((vs.take k).map V.str ++ [.str (z ++ s1)]))) := ((same_new n1).new n2).new n3
  have h3 : upd (upd (upd H1 p1 (.lst ((vs.take k).map V.str))) p2 (.lst [.str (z ++ s1)])) p3 (.lst ((vs.take k).map V.str ++ [.str (z ++ s1)])) p3 = some (.lst ((vs.take k).map V.str ++ [.str (z ++ s1)])) := upd_same
  revert s5 h3
  generalize upd (upd (upd H1 p1 (.lst ((vs.take k).map V.str))) p2 (.lst [.str (z ++ s1)])) p3 (.lst ((vs.take k).map V.str ++ [.str (z ++ s1)])) = H2
  intro s5 h3
  refine ⟨_, rfl, _, rfl, _, rfl, l, _, rfl, seq_at (s5 _ _ hl), fun p4 n4 => ?_⟩
  rw [cut_from, ← List.map_drop]
  have n34 : p3 ≠ p4 := ne_of_none h3 n4
  refine ⟨p3, p4, _, _, rfl, rfl, by rw [upd_ne n34]; exact h3, upd_same, line_of (by rw [List.length_append, List.length_map, List.length_map, List.length_take, List.length_drop]; show _ + 1 + _ ≤ 1000; omega), fun p5 n5 => ?_⟩
  have eP : (vs.take k).map V.str ++ [.str (z ++ s1)] ++ (vs.drop k).map V.str = (parted ws i k z).map V.str := by
    rw [parted_eq, hvs]
    unfold put
    rw [List.map_append, List.map_append]
    rfl
  rw [eP]
  have hlen : (parted ws i k z).length = ws.length + 1 := by rw [parted_eq, put_len, List.length_set]
  exact ⟨p5, _, rfl, upd_same, hW.parted k hz, by omega, fun H' r s6 hc6 => q H' r ((((s2.trans s5).new n4).new n5).trans s6) hc6⟩
def spKeptCode (K : PySem.W.Frag) : Sp := fun vs H Q _ => ∃ (t dx c : Addr) (v2 v4 : V) (i k : Nat) (ls : List Nat) (ws : List Str) (z : Str), vs = [.ref t] ∧ H t = some (.ins (He.ga K "Kept") dx (toldF "sign" (.ref c) v2 (nI k) v4 (nI i))) ∧ CodeAt K H c ls ws ∧ Wd ws ∧ ws.length + 1 ≤ 60 ∧ ws[i]? = some z ∧ k ≤ ws.length ∧
  ∀ (H' : Hp) (r : Addr), Same H H' → CodeAt K H' r ((parted ws i k z).map Str.length) (parted ws i k z) → Q (.ref r) H'
theorem ok_kept_code (T : Tx K mg) : Cal P w K mg base CX0 7 "kept_code" ["kept"] (spKeptCode K) := by
  have c_parted_code := ok_parted_code (P := P) (w := w) (base := base) T
  refine cal_of T.g_kept_code T.f_kept_code sc_kept_code (fun _ _ _ _ _ _ us hl => match us, hl with | [_], _ => rfl) (fun vs H Q E ⟨a, b, _, _, _, _, _, _, _, _, e, _⟩ => by rw [e]; rfl) (fun fd cdv A outer s H vs Q E hr h => ?_)
  obtain ⟨t, dx, c, v2, v4, i, k, ls, ws, z, rfl, ht, hc, hW, h60, hz, hk, q⟩ := h
  refine ⟨_, (pss_one (ps_ret (pe_cal c_parted_code (hr.mono (by decide)) rfl pass0 (pa_cons (pe_fld (pv 0) rfl) (pa_cons (pe_fld (pv 0) rfl) (pa_cons (pe_fld (pv 0) rfl) pa_nil)))))), ?_⟩
  exact ⟨_, rfl, t, _, dx, _, _, rfl, ht, T.cl_Kept, T.na_Kept_code, rfl, _, rfl, t, _, dx, _, _, rfl, ht, T.cl_Kept, T.na_Kept_sign, rfl, _, rfl, t, _, dx, _, _, rfl, ht, T.cl_Kept, T.na_Kept_rank, rfl, c, i, k, ls, ws, z, rfl, hc, hW, h60, hz, hk, q⟩
end
end K38


set_option Elab.async false
set_option linter.all false
set_option maxRecDepth 100000
set_option maxHeartbeats 4000000
/-! is_kept, is_recoded -/
namespace K38
open PySem PySem.Spec PyProof.Rows L2 M38
theorem fit_some {oc : Option (List Nat)} {on : Option (List Int)} {v3 v4 : V} {ls : List Nat} {ns : List Int} {rk : Nat} {c : Int} (h : fit oc on v3 v4 = some (ls, ns, rk, c)) :
    oc = some ls ∧ on = some ns ∧ ns.length = ls.length ∧ v3 = nI rk ∧ rk ≤ ls.length ∧ v4 = .int c ∧ 0 ≤ c := by
  unfold fit at h
  split at h
  · split at h
    · rename_i ls' ns' cond
      obtain ⟨c1, c2, c3, c4⟩ := cond
      have e := Option.some.inj h
      rw [Prod.mk.injEq, Prod.mk.injEq, Prod.mk.injEq] at e
      obtain ⟨rfl, rfl, rfl, rfl⟩ := e
      obtain ⟨n, rfl⟩ := isCnt_int c2
      obtain ⟨m, rfl⟩ := isCnt_int c4
      have c3 : (n : Int) ≤ (ls'.length : Int) := c3
      exact ⟨rfl, rfl, c1, by show V.int _ = V.int _; congr 1, by show (n : Int).toNat ≤ _; omega, rfl, by show (0 : Int) ≤ (m : Int); omega⟩
    · cases h
  · cases h
theorem put_ge {ns : List Int} {k : Nat} {c : Int} (h : ∀ n ∈ ns, 0 ≤ n) (hc : 0 ≤ c) : ∀ n ∈ put ns k c, 0 ≤ n := fun n hn => by
  rcases List.mem_cons.mp ((put_perm ns k c).mem_iff.mp hn) with e | e
  · rw [e]; exact hc
  · exact h n e
/-- is_kept's answer -/
noncomputable def keptB (oc : Option (List Nat)) (on : Option (List Int)) (v3 v4 v5 : V) : Bool :=
  match fit oc on v3 v4 with
  | none => false
  | some (ls, ns, rk, c) => (isCnt v5 && decide (iv v5 < ls.length)) && decide ((prices ns ls c)[(iv v5).toNat]? = some (L (put ns rk c) - costP (ns.zip ls)))
/-- is_recoded's answer -/
noncomputable def recB (oc : Option (List Nat)) (on : Option (List Int)) (v3 v4 : V) (om : Option (List Nat)) : Bool :=
  match fit oc on v3 v4, om with
  | some (ls, ns, rk, c), some ms => decide (ms.length = ns.length + 1 ∧ costP ((put ns rk c).zip ms) = L (put ns rk c) ∧ ∀ p ∈ prices ns ls c, costP ((put ns rk c).zip ms) < costP (ns.zip ls) + p)
  | _, _ => false
theorem recB_none {oc : Option (List Nat)} {on : Option (List Int)} {v3 v4 : V} {om : Option (List Nat)} (h : fit oc on v3 v4 = none) : recB oc on v3 v4 om = false := by
  unfold recB
  rw [h]
theorem recB_some {oc : Option (List Nat)} {on : Option (List Int)} {v3 v4 : V} {ls : List Nat} {ns : List Int} {rk : Nat} {c : Int} (h : fit oc on v3 v4 = some (ls, ns, rk, c)) (om : Option (List Nat)) :
    recB oc on v3 v4 om = match om with
    | some ms => decide (ms.length = ns.length + 1 ∧ costP ((put ns rk c).zip ms) = L (put ns rk c) ∧ ∀ p ∈ prices ns ls c, costP ((put ns rk c).zip ms) < costP (ns.zip ls) + p)
    | none => false := by
  unfold recB
  rw [h]
  cases om <;> rfl
section
variable {P : Program} {w : World} {K : PySem.W.Frag} {mg : Str → Option Value} {base : Heap}
def spIsKept (K : PySem.W.Frag) : Sp := fun vs H Q _ => ∃ (t dx : Addr) (v1 v2 v3 v4 v5 : V) (oc : Option (List Nat)) (on : Option (List Int)), vs = [.ref t] ∧ H t = some (.ins (He.ga K "Kept") dx (toldF "sign" v1 v2 v3 v4 v5)) ∧ Cdo K H v1 oc ∧ Ct K H v2 on ∧
  (∀ ls, oc = some ls → ls.length ≤ 50) ∧ (∀ ns, on = some ns → ∀ n ∈ ns, 0 ≤ n) ∧ Va K H v3 ∧ Va K H v4 ∧ Va K H v5 ∧ ∀ H', Same H H' → Q (.bl (keptB oc on v3 v4 v5)) H'
theorem ok_is_kept (T : Tx K mg) : Cal P w K mg base CX0 3 "is_kept" ["kept"] (spIsKept K) := by
  have c_can_put := ok_can_put (P := P) (w := w) (base := base) T
  have c_is_sign_of := ok_is_sign_of (P := P) (w := w) (base := base) T
  have c_least_of := ok_least_of (P := P) (w := w) (base := base) T
  have c_grown_counts := ok_grown_counts (P := P) (w := w) (base := base) T
  have c_cost_by := ok_cost_by (P := P) (w := w) (base := base) T
  have c_put_prices := ok_put_prices (P := P) (w := w) (base := base) T
  refine cal_of T.g_is_kept T.f_is_kept sc_is_kept (fun _ _ _ _ _ _ us hl => match us, hl with | [_], _ => rfl) (fun vs H Q E ⟨a, b, _, _, _, _, _, _, _, e, _⟩ => by rw [e]; rfl) (fun fd cdv A outer s H vs Q E hr h => ?_)
  obtain ⟨t, dx, v1, v2, v3, v4, v5, oc, on, rfl, ht, h1, h2, h50, h0, h3, h4, h5, q⟩ := h
  refine ⟨_, (pss_cons (ps_if (PW.pt (pw_or (pt_not (pt_val (pe_cal c_can_put (hr.mono (by decide)) rfl pass0 (pa_cons (pv 0) pa_nil)))) (pw_or1 (pt_not (pt_val (pe_cal c_is_sign_of (hr.mono (by decide)) rfl pass0 (pa_cons (pe_fld (pv 0) rfl) (pa_cons (pe_fld (pv 0) rfl) pa_nil))))))))
      (pss_one (ps_ret pe_bl))
      pss_nil)
    (pss_cons (ps_set (i := 1) sc_is_kept.nd rfl (Or.inl rfl) (pe_op op_sub (pe_cal c_least_of (hr.mono (by decide)) rfl pass0 (pa_cons (pe_cal c_grown_counts (hr.mono (by decide)) rfl pass0 (pa_cons (pe_fld (pv 0) rfl) (pa_cons (pe_fld (pv 0) rfl) (pa_cons (pe_fld (pv 0) rfl) pa_nil)))) pa_nil)) (pe_cal c_cost_by (hr.mono (by decide)) rfl pass0 (pa_cons (pe_fld (pv 0) rfl) (pa_cons (pe_fld (pv 0) rfl) pa_nil)))))
    (pss_one (ps_ret (pe_cmpR op_eq (pe_ix ix_list (pe_cal c_put_prices (hr.mono (by decide)) rfl pass0 (pa_cons (pe_fld (pv 0) rfl) (pa_cons (pe_fld (pv 0) rfl) (pa_cons (pe_fld (pv 0) rfl) pa_nil)))) (pe_fld (pv 0) rfl) (fun _ _ => rfl)) (pv 1) (nomark _)))))), ?_⟩
  have F := fld_kept T
  refine ⟨_, rfl, t, _, dx, "sign", v1, v2, v3, v4, v5, oc, on, rfl, F, ht, h1, h2, h0, h3, h4, fun H1 s1 => ⟨_, rfl, ?_⟩⟩
  have q1 := q H1 s1
  have e0 : keptB oc on v3 v4 v5 = match fit oc on v3 v4 with
    | none => false
    | some (ls, ns, rk, c) => (isCnt v5 && decide (iv v5 < ls.length)) && decide ((prices ns ls c)[(iv v5).toNat]? = some (L (put ns rk c) - costP (ns.zip ls))) := rfl
  cases hf : fit oc on v3 v4 with
  | none =>
    rw [e0, hf] at q1
    exact iteT (iteT q1)
  | some fr =>
    obtain ⟨ls, ns, rk, c⟩ := fr
    obtain ⟨rfl, rfl, hlen, rfl, hrk, rfl, hc0⟩ := fit_some hf
    rw [hf] at e0
    have ht1 := s1 _ _ ht
    obtain ⟨r, ls', ws, e1, rfl, hc, hg⟩ : ∃ r ls' ws, some ls = some ls' ∧ v1 = .ref r ∧ CodeAt K H1 r ls' ws ∧ GoodL ls' := by
      rcases h1.same s1 with h | ⟨e, _⟩
      · exact h
      · cases e
    obtain rfl := Option.some.inj e1
    obtain ⟨a, ns', e2, rfl, ha, hl⟩ : ∃ a ns', some ns = some ns' ∧ v2 = .ref a ∧ H1 a = some (.tup (ns'.map V.int)) ∧ ns'.length ≤ 61 := by
      rcases h2.same s1 with h | ⟨e, _⟩
      · exact h
      · cases e
    obtain rfl := Option.some.inj e2
    have l50 := h50 ls rfl
    refine iteF ⟨_, rfl, t, _, dx, _, _, rfl, ht1, F.cl, F.n1, rfl, _, rfl, t, _, dx, _, _, rfl, ht1, F.cl, T.na_Kept_sign, rfl, r, v5, ls, ws, rfl, hc, h5.same s1, _, rfl, ?_⟩
    cases hb : isCnt v5 && decide (iv v5 < ls.length) with
    | false =>
      rw [e0] at q1
      dsimp only at q1
      rw [hb] at q1
      exact iteT q1
    | true =>
      rw [Bool.and_eq_true] at hb
      obtain ⟨si, rfl⟩ := isCnt_int hb.1
      have hsi : si < ls.length := by
        have : (si : Int) < (ls.length : Int) := of_decide_eq_true hb.2
        omega
      refine iteF ?_
      refine ⟨_, rfl, t, _, dx, _, _, rfl, ht1, F.cl, F.n2, rfl, _, rfl, t, _, dx, _, _, rfl, ht1, F.cl, F.n3, rfl, _, rfl, t, _, dx, _, _, rfl, ht1, F.cl, F.n4, rfl, a, false, ns, rk, c, rfl, tup_at ha, by omega, by omega, fun H2 g s2 hg2 => ?_⟩
      have lp : (put ns rk c).length = ns.length + 1 := put_len _ _ _
      refine ⟨g, _, rfl, hg2, by have := hg.two; omega, by omega, put_ge (h0 ns rfl) hc0, fun H3 s3 => ?_⟩
      have s13 := s2.trans s3
      have ht3 := s13 _ _ ht1
      refine ⟨_, rfl, t, _, dx, _, _, rfl, ht3, F.cl, F.n1, rfl, _, rfl, t, _, dx, _, _, rfl, ht3, F.cl, F.n2, rfl, r, a, false, ns, ls, ws, rfl, hc.same s13, s13.tup (tup_at ha), hg.le, hg.most, fun H4 s4 => ?_⟩
      have s14 := s13.trans s4
      have ht4 := s14 _ _ ht1
      refine ⟨_, _, rfl, rfl, ?_⟩
      refine ⟨_, rfl, t, _, dx, _, _, rfl, ht4, F.cl, F.n1, rfl, _, rfl, t, _, dx, _, _, rfl, ht4, F.cl, F.n2, rfl, _, rfl, t, _, dx, _, _, rfl, ht4, F.cl, F.n4, rfl, r, a, false, ns, ls, ws, c, rfl, hc.same s14, s14.tup (tup_at ha), hg.le, hg.most, fun H5 pr s5 hp => ?_⟩
      have s15 := s14.trans s5
      have ht5 := s15 _ _ ht1
      have lpr : (prices ns ls c).length = ls.length := by
        unfold prices
        rw [List.length_map, List.length_zip]
        omega
      have hps : (prices ns ls c)[si]? = some (prices ns ls c)[si] := List.getElem?_eq_getElem (by rw [lpr]; exact hsi)
      refine ⟨_, rfl, t, _, dx, _, _, rfl, ht5, F.cl, T.na_Kept_sign, rfl, pr, _, _, _, rfl, rfl, seq_at hp, atI_nat (mapI hps), _, rfl, rfl, ?_⟩
      have q5 := q H5 (s1.trans s15)
      have e3 : keptB (some ls) (some ns) (nI rk) (.int c) (nI si) = decide (V.int (prices ns ls c)[si] = V.int (L (put ns rk c) - costP (ns.zip ls))) := by
        rw [e0]
        dsimp only
        rw [show (isCnt (nI si) && decide (iv (nI si) < ls.length)) = true by rw [Bool.and_eq_true]; exact hb, Bool.true_and]
        refine decide_eq_decide.mpr ?_
        rw [show (iv (nI si)).toNat = si from Int.toNat_natCast si, hps]
        exact ⟨fun e => congrArg V.int (Option.some.inj e), fun e => congrArg some (V.int.inj e)⟩
      rw [e3] at q5
      exact q5
/-! ### is_recoded -/
def spIsRec (K : PySem.W.Frag) : Sp := fun vs H Q _ => ∃ (t dx : Addr) (v1 v2 v3 v4 v5 : V) (oc : Option (List Nat)) (on : Option (List Int)) (om : Option (List Nat)), vs = [.ref t] ∧ H t = some (.ins (He.ga K "Recoded") dx (toldF "other" v1 v2 v3 v4 v5)) ∧ Cdo K H v1 oc ∧ Ct K H v2 on ∧ Cdo K H v5 om ∧
  (∀ ls, oc = some ls → ls.length ≤ 50) ∧ (∀ ns, on = some ns → ∀ n ∈ ns, 0 ≤ n) ∧ Va K H v3 ∧ Va K H v4 ∧ ∀ H', Same H H' → Q (.bl (recB oc on v3 v4 om)) H'
theorem ok_is_recoded (T : Tx K mg) : Cal P w K mg base CX0 4 "is_recoded" ["recoded"] (spIsRec K) := by
  have c_can_put := ok_can_put (P := P) (w := w) (base := base) T
  have c_grown_counts := ok_grown_counts (P := P) (w := w) (base := base) T
  have c_is_least_for := ok_is_least_for (P := P) (w := w) (base := base) T
  have c_cost_by := ok_cost_by (P := P) (w := w) (base := base) T
  have c_put_prices := ok_put_prices (P := P) (w := w) (base := base) T
  refine cal_of T.g_is_recoded T.f_is_recoded sc_is_recoded (fun _ _ _ _ _ _ us hl => match us, hl with | [_], _ => rfl) (fun vs H Q E ⟨a, b, _, _, _, _, _, _, _, _, e, _⟩ => by rw [e]; rfl) (fun fd cdv A outer s H vs Q E hr h => ?_)
  obtain ⟨t, dx, v1, v2, v3, v4, v5, oc, on, om, rfl, ht, h1, h2, h5, h50, h0, h3, h4, q⟩ := h
  refine ⟨_, (pss_cons (ps_if (pt_not (pt_val (pe_cal c_can_put (hr.mono (by decide)) rfl pass0 (pa_cons (pv 0) pa_nil))))
      (pss_one (ps_ret pe_bl))
      pss_nil)
    (pss_cons (ps_par (i := 1) (j := 2) (by rfl) sc_is_recoded.nd rfl rfl (by decide) rfl rfl (pa_cons (pe_fld (pv 0) rfl) (pa_cons (pe_cal c_grown_counts (hr.mono (by decide)) rfl pass0 (pa_cons (pe_fld (pv 0) rfl) (pa_cons (pe_fld (pv 0) rfl) (pa_cons (pe_fld (pv 0) rfl) pa_nil)))) pa_nil)) (by rfl))
    (pss_cons (ps_if (PW.pt (pw_or (pt_not (pt_val (pe_callB call_isi (by rfl) T.b_isinstance (by decide +kernel) (pa_cons (pv 1) (pa_cons (pe_glob (v := .ref (He.ga K "Code")) rfl T.g_Code rfl) pa_nil))))) (pw_or (pt_cmpR op_ne (pe_fld (pv 1) rfl) (pe_callB call_len_seq (by rfl) T.b_len (by decide +kernel) (pa_cons (pv 2) pa_nil)) (nomark _)) (pw_or1 (pt_not (pt_val (pe_cal c_is_least_for (hr.mono (by decide)) rfl pass0 (pa_cons (pv 1) (pa_cons (pv 2) pa_nil)))))))))
      (pss_one (ps_ret pe_bl))
      pss_nil)
    (pss_cons (ps_set (i := 3) sc_is_recoded.nd rfl (Or.inl rfl) (pe_cal c_put_prices (hr.mono (by decide)) rfl pass0 (pa_cons (pe_fld (pv 0) rfl) (pa_cons (pe_fld (pv 0) rfl) (pa_cons (pe_fld (pv 0) rfl) pa_nil)))))
    (pss_one (ps_ret (pe_cmpR op_lt (pe_cal c_cost_by (hr.mono (by decide)) rfl pass0 (pa_cons (pv 1) (pa_cons (pv 2) pa_nil))) (pe_op op_add (pe_cal c_cost_by (hr.mono (by decide)) rfl pass0 (pa_cons (pe_fld (pv 0) rfl) (pa_cons (pe_fld (pv 0) rfl) pa_nil))) (pe_callB (cr_min rfl) (by rfl) T.b_min (by decide +kernel) (pa_cons (pv 3) pa_nil))) (nomark _)))))))), ?_⟩
  have F := fld_recoded T
  refine ⟨_, rfl, t, _, dx, "other", v1, v2, v3, v4, v5, oc, on, rfl, F, ht, h1, h2, h0, h3, h4, fun H1 s1 => ⟨_, rfl, ?_⟩⟩
  cases hf : fit oc on v3 v4 with
  | none =>
    have q1 := q H1 s1
    rw [recB_none hf] at q1
    exact iteT q1
  | some fr =>
    obtain ⟨ls, ns, rk, c⟩ := fr
    have e0 := recB_some hf om
    obtain ⟨rfl, rfl, hlen, rfl, hrk, rfl, hc0⟩ := fit_some hf
    have ht1 := s1 _ _ ht
    obtain ⟨r, ls', ws, e1, rfl, hc, hg⟩ : ∃ r ls' ws, some ls = some ls' ∧ v1 = .ref r ∧ CodeAt K H1 r ls' ws ∧ GoodL ls' := by
      rcases h1.same s1 with h | ⟨e, _⟩
      · exact h
      · cases e
    obtain rfl := Option.some.inj e1
    obtain ⟨a, ns', e2, rfl, ha, hl⟩ : ∃ a ns', some ns = some ns' ∧ v2 = .ref a ∧ H1 a = some (.tup (ns'.map V.int)) ∧ ns'.length ≤ 61 := by
      rcases h2.same s1 with h | ⟨e, _⟩
      · exact h
      · cases e
    obtain rfl := Option.some.inj e2
    have l50 := h50 ls rfl
    refine iteF ?_
    refine ⟨_, rfl, t, _, dx, _, _, rfl, ht1, F.cl, T.na_Recoded_other, rfl, _, rfl, t, _, dx, _, _, rfl, ht1, F.cl, F.n2, rfl, _, rfl, t, _, dx, _, _, rfl, ht1, F.cl, F.n3, rfl, _, rfl, t, _, dx, _, _, rfl, ht1, F.cl, F.n4, rfl, a, false, ns, rk, c, rfl, tup_at ha, by omega, by omega, fun H2 g s2 hg2 => ?_⟩
    refine ⟨_, _, rfl, ?_⟩
    have lp : (put ns rk c).length = ns.length + 1 := put_len _ _ _
    have s12 := s1.trans s2
    have ht2 := s2 _ _ ht1
    rcases h5.same s12 with ⟨m, ms, us, rfl, rfl, hm, hgm⟩ | ⟨rfl, hn⟩
    case' inr =>
      obtain ⟨ty, h6, h7⟩ := hn.ty T
      refine ⟨_, rfl, _, _, _, _, _, rfl, .own _, h6, h7, _, rfl, iteT ?_⟩
      have q2 := q H2 s12
      rw [e0] at q2
      exact iteT q2
    obtain ⟨dy, B, D, mx, f1, f2, f3⟩ := hm.ex
    refine ⟨_, rfl, _, _, _, _, _, rfl, .own _, ty_code T f1, T.k13, _, rfl, iteF ?_⟩
    refine ⟨_, rfl, m, _, dy, _, _, rfl, f1, T.cl_Code, T.na_Code_size, rfl, _, rfl, g, _, rfl, .inl (seq_at hg2), rfl, _, rfl, ?_⟩
    rw [List.length_map]
    by_cases hml : ms.length = ns.length + 1
    case' neg =>
      rw [decide_eq_false (show ¬ nI ms.length = nI (put ns rk c).length from fun e => hml (by have := V.int.inj e; omega))]
      have q2 := q H2 s12
      rw [e0] at q2
      dsimp only at q2
      rw [decide_eq_false (fun z => hml z.1)] at q2
      exact iteT (iteT q2)
    rw [decide_eq_true (show nI ms.length = nI (put ns rk c).length from congrArg nI (by omega))]
    refine iteF ⟨_, rfl, _, rfl, m, g, put ns rk c, ms, us, rfl, hm, hgm.le, hgm.most, hg2, by have := hg.two; omega, by omega, put_ge (h0 ns rfl) hc0, fun H3 s3 => ⟨_, rfl, ?_⟩⟩
    have s13 := s12.trans s3
    by_cases hL : costP ((put ns rk c).zip ms) = L (put ns rk c)
    case' neg =>
      rw [decide_eq_false hL]
      have q2 := q H3 s13
      rw [e0] at q2
      dsimp only at q2
      rw [decide_eq_false (fun z => hL z.2.1)] at q2
      exact iteT q2
    rw [decide_eq_true hL]
    refine iteF ?_
    have ht3 := s3 _ _ ht2
    have s23 := s2.trans s3
    refine ⟨_, rfl, t, _, dx, _, _, rfl, ht3, F.cl, F.n1, rfl, _, rfl, t, _, dx, _, _, rfl, ht3, F.cl, F.n2, rfl, _, rfl, t, _, dx, _, _, rfl, ht3, F.cl, F.n4, rfl, r, a, false, ns, ls, ws, c, rfl, hc.same s23, s23.tup (tup_at ha), hg.le, hg.most, fun H4 pr s4 hp => ?_⟩
    refine ⟨_, rfl, _, rfl, m, g, true, put ns rk c, ms, us, rfl, (hm.same s3).same s4, seq_at (s4 _ _ (s3 _ _ hg2)), hgm.le, hgm.most, fun H5 s5 => ?_⟩
    have s25 := (s23.trans s4).trans s5
    have ht5 := s25 _ _ ht1
    refine ⟨_, rfl, t, _, dx, _, _, rfl, ht5, F.cl, F.n1, rfl, _, rfl, t, _, dx, _, _, rfl, ht5, F.cl, F.n2, rfl, r, a, false, ns, ls, ws, rfl, hc.same s25, s25.tup (tup_at ha), hg.le, hg.most, fun H6 s6 => ?_⟩
    have lpr : (prices ns ls c).length = ls.length := by
      unfold prices
      rw [List.length_map, List.length_zip]
      omega
    refine ⟨_, rfl, pr, _, rfl, seq_at (s6 _ _ (s5 _ _ hp)), by have := hg.two; omega, fun p hp1 hp2 => ?_⟩
    refine ⟨_, _, rfl, rfl, _, _, rfl, rfl, ?_⟩
    have q6 := q H6 (s1.trans (s25.trans s6))
    have e3 : recB (some ls) (some ns) (nI rk) (.int c) (some ms) = decide (costP ((put ns rk c).zip ms) < costP (ns.zip ls) + p) := by
      rw [e0]
      dsimp only
      refine decide_eq_decide.mpr ⟨fun z => z.2.2 p hp1, fun z => ⟨hml, hL, fun y hy => ?_⟩⟩
      have := hp2 y hy
      omega
    rw [e3] at q6
    exact q6
end
end K38


set_option Elab.async false
set_option linter.all false
set_option maxRecDepth 100000
set_option maxHeartbeats 4000000
/-! BadCount, OtherSize, BadRank: made -/
namespace K38
open PySem PySem.Spec PyProof.Rows L2 M38
/-- what the written part says of an exception class of the program -/
structure ExF (P : Program) (K : PySem.W.Frag) (mg : Str → Option Value) (x : Str) (st : Stmt) (qual : Str) (ns : List Str) : Prop where
  g : mg x = some (.ref (He.ga K x))
  oex : OexC K (He.ga K x)
  ini : PySem.W.findIn K (.ref (He.ga K x)) "__init__" = some (some (.ref (He.ma K (He.ga K x) "__init__")))
  typ : PySem.W.typeIn K (.ref (He.ma K (He.ga K x) "__init__")) = some (.type "function")
  fn : ∃ (kV doc pm ct : Value) (an : Option Addr) (cda cc : Addr), SupF P K (He.ga K x) (He.ma K (He.ga K x) "__init__") cda cc (PySem.W.fnX "__init__" qual (defArgs st) (defBody st) (defScope st) [("__class__", cc)] .none kV doc pm an (.ref cda) ct) ∧ PySem.W.codeIn K (.ref cda) qual = true
  na : ∀ n ∈ ns, PySem.W.findIn K (.ref (He.ga K x)) n = some none
/-- one field -/
def spEx1 (C : Addr) (nm : Str) : Sp := fun vs H Q _ => ∃ a v, vs = [.ref a, v] ∧ H a = some (exo a C none) ∧ ∀ d, H d = none → d ≠ a → Q .non (upd (upd H d (exd d [(nm, v)])) a (exo a C (some d)))
/-- two fields -/
def spEx2 (C : Addr) (n1 n2 : Str) : Sp := fun vs H Q _ => ∃ a v1 v2, vs = [.ref a, v1, v2] ∧ H a = some (exo a C none) ∧ ∀ d, H d = none → d ≠ a → Q .non (upd (upd (upd H d (exd d [(n1, v1)])) a (exo a C (some d))) d (exd d [(n2, v2), (n1, v1)]))
/-- what is raised -/
theorem use_ex1 {H : Hp} {C : Addr} {nm : Str} {v : V} {R : XK} (q : ∀ d H', Same H H' → H' d = some (.xd [(nm, v)]) → R (.ref C) (some d) H') :
    ([v] : List V).length ≤ 1000 ∧ ∀ a, H a = none → spEx1 C nm (.ref a :: ([v] ++ [])) (upd H a (exo a C none))
      (fun u H2 => u = .non ∧ ∃ (d : Addr) (fs : List (Str × V)), H2 a = some (exo a C (some d)) ∧ H2 d = some (exd d fs) ∧ H d = none ∧ R (.ref C) (some d) (upd (del H2 a) d (.xd fs))) (fun _ _ _ => False) := by
  refine ⟨by show 1 ≤ 1000; decide, fun a na => ⟨a, v, rfl, upd_same, fun d nd ne => ⟨rfl, d, _, upd_same, by rw [upd_ne ne, upd_same], ?_, ?_⟩⟩⟩
  · rw [upd_ne ne] at nd
    exact nd
  · rw [upd_ne ne] at nd
    refine q d _ (fun b u e => ?_) upd_same
    have n1 : b ≠ d := ne_of_none e nd
    have n2 : b ≠ a := ne_of_none e na
    rw [upd_ne n1, del_ne n2, upd_ne n2, upd_ne n1, upd_ne n2]
    exact e
theorem use_ex2 {H : Hp} {C : Addr} {n1 n2 : Str} {v1 v2 : V} {R : XK} (q : ∀ d H', Same H H' → H' d = some (.xd [(n2, v2), (n1, v1)]) → R (.ref C) (some d) H') :
    ([v1, v2] : List V).length ≤ 1000 ∧ ∀ a, H a = none → spEx2 C n1 n2 (.ref a :: ([v1, v2] ++ [])) (upd H a (exo a C none))
      (fun u H2 => u = .non ∧ ∃ (d : Addr) (fs : List (Str × V)), H2 a = some (exo a C (some d)) ∧ H2 d = some (exd d fs) ∧ H d = none ∧ R (.ref C) (some d) (upd (del H2 a) d (.xd fs))) (fun _ _ _ => False) := by
  refine ⟨by show 2 ≤ 1000; decide, fun a na => ⟨a, v1, v2, rfl, upd_same, fun d nd ne => ⟨rfl, d, _, by rw [upd_ne (Ne.symm ne), upd_same], upd_same, ?_, ?_⟩⟩⟩
  · rw [upd_ne ne] at nd
    exact nd
  · rw [upd_ne ne] at nd
    refine q d _ (fun b u e => ?_) upd_same
    have m1 : b ≠ d := ne_of_none e nd
    have m2 : b ≠ a := ne_of_none e na
    rw [upd_ne m1, del_ne m2, upd_ne m1, upd_ne m2, upd_ne m1, upd_ne m2]
    exact e
section
variable {P : Program} {w : World} {K : PySem.W.Frag} {mg : Str → Option Value} {base : Heap}
/-! ### BadCount -/
abbrev s_BadCount_init : Stmt := inClass (top 3) 0
abbrev n_BadCount_init : List Str := ["self", "count", "__class__"]
theorem sc_BadCount_init : NdefX.NScope n_BadCount_init ["self", "count"] ["__class__"] (defScope s_BadCount_init) := NdefX.nscope_by (by decide +kernel)
abbrev EF_BadCount (P : Program) (K : PySem.W.Frag) (mg : Str → Option Value) : Prop := ExF P K mg "BadCount" s_BadCount_init "BadCount.__init__" ["count"]
theorem fn_BadCount_init (F : EF_BadCount P K mg) : ∃ fd, FnOk P w K mg base CX0 1 (He.ma K (He.ga K "BadCount") "__init__") fd ["self", "count"] (spEx1 (He.ga K "BadCount") "count") ∧ Binds K fd ["self", "count"] [] := by
  obtain ⟨kV, doc, pm, ct, an, cda, cc, SF, hcd⟩ := F.fn
  refine ⟨_, fnok_super (k := 0) SF F.oex hcd sc_BadCount_init rfl rfl rfl (fun vs H Q E ⟨a, v1, e, _⟩ => by rw [e]; rfl) (fun A outer s H vs Q E h => ?_) (fun _ => rfl) (fun _ => rfl) (fun _ => rfl) (fun _ => rfl) (fun _ => rfl), .all fun us hl => ?_⟩
  · obtain ⟨a, v1, rfl, ea, q⟩ := h
    refine ⟨a, _, _, rfl, ea, (pa_cons (pv 1) pa_nil), (pss_one (ps_ost (pv 0) (pv 1))), ?_⟩
    refine ⟨_, rfl, by show 1 ≤ 1000; decide, ea, _, rfl, _, rfl, a, _, rfl, F.oex, F.na _ (by simp), .inl ⟨ea, fun d nd ne => q d nd ne⟩⟩
  · match us, hl with
    | [u0, u1], _ => rfl
/-! ### BadRank -/
abbrev s_BadRank_init : Stmt := inClass (top 10) 0
abbrev n_BadRank_init : List Str := ["self", "rank", "__class__"]
theorem sc_BadRank_init : NdefX.NScope n_BadRank_init ["self", "rank"] ["__class__"] (defScope s_BadRank_init) := NdefX.nscope_by (by decide +kernel)
abbrev EF_BadRank (P : Program) (K : PySem.W.Frag) (mg : Str → Option Value) : Prop := ExF P K mg "BadRank" s_BadRank_init "BadRank.__init__" ["rank"]
theorem fn_BadRank_init (F : EF_BadRank P K mg) : ∃ fd, FnOk P w K mg base CX0 1 (He.ma K (He.ga K "BadRank") "__init__") fd ["self", "rank"] (spEx1 (He.ga K "BadRank") "rank") ∧ Binds K fd ["self", "rank"] [] := by
  obtain ⟨kV, doc, pm, ct, an, cda, cc, SF, hcd⟩ := F.fn
  refine ⟨_, fnok_super (k := 0) SF F.oex hcd sc_BadRank_init rfl rfl rfl (fun vs H Q E ⟨a, v1, e, _⟩ => by rw [e]; rfl) (fun A outer s H vs Q E h => ?_) (fun _ => rfl) (fun _ => rfl) (fun _ => rfl) (fun _ => rfl) (fun _ => rfl), .all fun us hl => ?_⟩
  · obtain ⟨a, v1, rfl, ea, q⟩ := h
    refine ⟨a, _, _, rfl, ea, (pa_cons (pv 1) pa_nil), (pss_one (ps_ost (pv 0) (pv 1))), ?_⟩
    refine ⟨_, rfl, by show 1 ≤ 1000; decide, ea, _, rfl, _, rfl, a, _, rfl, F.oex, F.na _ (by simp), .inl ⟨ea, fun d nd ne => q d nd ne⟩⟩
  · match us, hl with
    | [u0, u1], _ => rfl
/-! ### OtherSize -/
abbrev s_OtherSize_init : Stmt := inClass (top 9) 0
abbrev n_OtherSize_init : List Str := ["self", "many", "wanted", "__class__"]
theorem sc_OtherSize_init : NdefX.NScope n_OtherSize_init ["self", "many", "wanted"] ["__class__"] (defScope s_OtherSize_init) := NdefX.nscope_by (by decide +kernel)
abbrev EF_OtherSize (P : Program) (K : PySem.W.Frag) (mg : Str → Option Value) : Prop := ExF P K mg "OtherSize" s_OtherSize_init "OtherSize.__init__" ["many", "wanted"]
theorem fn_OtherSize_init (F : EF_OtherSize P K mg) : ∃ fd, FnOk P w K mg base CX0 1 (He.ma K (He.ga K "OtherSize") "__init__") fd ["self", "many", "wanted"] (spEx2 (He.ga K "OtherSize") "many" "wanted") ∧ Binds K fd ["self", "many", "wanted"] [] := by
  obtain ⟨kV, doc, pm, ct, an, cda, cc, SF, hcd⟩ := F.fn
  refine ⟨_, fnok_super (k := 0) SF F.oex hcd sc_OtherSize_init rfl rfl rfl (fun vs H Q E ⟨a, v1, v2, e, _⟩ => by rw [e]; rfl) (fun A outer s H vs Q E h => ?_) (fun _ => rfl) (fun _ => rfl) (fun _ => rfl) (fun _ => rfl) (fun _ => rfl), .all fun us hl => ?_⟩
  · obtain ⟨a, v1, v2, rfl, ea, q⟩ := h
    refine ⟨a, _, _, rfl, ea, (pa_cons (pv 1) (pa_cons (pv 2) pa_nil)), (pss_cons (ps_ost (pv 0) (pv 1)) (pss_one (ps_ost (pv 0) (pv 2)))), ?_⟩
    refine ⟨_, rfl, _, rfl, by show 2 ≤ 1000; decide, ea, _, rfl, _, rfl, a, _, rfl, F.oex, F.na _ (by simp), .inl ⟨ea, fun d nd ne => ?_⟩⟩
    refine ⟨_, rfl, _, rfl, a, _, rfl, F.oex, F.na _ (by simp), .inr ⟨d, _, upd_same, by rw [upd_ne ne, upd_same], by show (1 : Nat) ≤ 900; decide, q d nd ne⟩⟩
  · match us, hl with
    | [u0, u1, u2], _ => rfl
end
end K38

set_option Elab.async false
set_option linter.all false
set_option maxRecDepth 100000
set_option maxHeartbeats 4000000
/-! check_rank, check_pair, check_put -/
namespace K38
open PySem PySem.Spec PyProof.Rows L2 M38
section
variable {P : Program} {w : World} {K : PySem.W.Frag} {mg : Str → Option Value} {base : Heap}
structure Exs (P : Program) (K : PySem.W.Frag) (mg : Str → Option Value) : Prop where
  rank : EF_BadRank P K mg
  count : EF_BadCount P K mg
  size : EF_OtherSize P K mg
/-! ### check_rank -/
def rkOk (v : V) (n : Nat) : Prop := isCnt v = true ∧ iv v ≤ n
def exR (K : PySem.W.Frag) (H : Hp) (v : V) (E : XK) : Prop := ∀ d H', Same H H' → H' d = some (.xd [("rank", v)]) → E (.ref (He.ga K "BadRank")) (some d) H'
def exC (K : PySem.W.Frag) (H : Hp) (v : V) (E : XK) : Prop := ∀ d H', Same H H' → H' d = some (.xd [("count", v)]) → E (.ref (He.ga K "BadCount")) (some d) H'
def exS (K : PySem.W.Frag) (H : Hp) (n m : Nat) (E : XK) : Prop := ∀ d H', Same H H' → H' d = some (.xd [("wanted", nI m), ("many", nI n)]) → E (.ref (He.ga K "OtherSize")) (some d) H'
def spCheckRank (K : PySem.W.Frag) : Sp := fun vs H Q E => ∃ (c : Addr) (v : V) (ls : List Nat) (ws : List Str), vs = [.ref c, v] ∧ CodeAt K H c ls ws ∧ Va K H v ∧ (rkOk v ls.length → Q .non H) ∧ (¬ rkOk v ls.length → exR K H v E)
theorem ok_check_rank (T : Tx K mg) (F : Exs P K mg) : Cal P w K mg base (L2.CX P w) 3 "check_rank" ["code", "rank"] (spCheckRank K) := by
  have c_is_count := ok_is_count (P := P) (w := w) (base := base) T
  have F_BadRank := F.rank
  obtain ⟨fdR, ok_BadRank, b_BadRank⟩ := fn_BadRank_init (w := w) (base := base) F_BadRank
  refine cal_ofX T.g_check_rank T.f_check_rank sc_check_rank (fun _ _ _ _ _ _ us hl => match us, hl with | [_, _], _ => rfl) (fun vs H Q E ⟨a, b, _, _, e, _⟩ => by rw [e]; rfl) (fun fd cdv A outer s H vs Q E hr h => ?_)
  obtain ⟨c, v, ls, ws, rfl, hc, hv, q1, q2⟩ := h
  refine ⟨_, (pss_one (ps_if (PW.pt (pw_or (pt_not (pt_val (pe_cal c_is_count (hr.mono (by decide)) rfl pass0 (pa_cons (pv 1) pa_nil)))) (pw_or1 (pt_cmpR op_gt (pv 1) (pe_fld (pv 0) rfl) (nomark _)))))
      (pss_one (ps_raise rfl (takes_of rfl rfl rfl rfl) (pmk_oex F_BadRank.oex F_BadRank.ini F_BadRank.typ ok_BadRank (hr.mono (by decide)) b_BadRank .nil pass0 rfl F_BadRank.g (pa_cons (pv 1) pa_nil))))
      pss_nil)), ?_⟩
  obtain ⟨dx, B, C, m, e1, e2, e3⟩ := hc.ex
  refine ⟨_, rfl, v, rfl, hv, _, rfl, ?_⟩
  cases hi : isCnt v with
  | false =>
    have n : ¬ rkOk v ls.length := fun z => by have z1 := z.1; rw [hi] at z1; cases z1
    exact iteT (iteT ⟨_, rfl, use_ex1 (q2 n)⟩)
  | true =>
    obtain ⟨n, rfl⟩ := isCnt_int hi
    refine iteF ⟨_, rfl, _, rfl, c, _, _, _, _, rfl, e1, T.cl_Code, T.na_Code_size, rfl, _, _, rfl, rfl, _, rfl, ?_⟩
    by_cases hn : n ≤ ls.length
    · rw [decide_eq_false (show ¬ (ls.length : Int) < (n : Int) by omega)]
      exact iteF (q1 ⟨hi, show (n : Int) ≤ (ls.length : Int) by omega⟩)
    · rw [decide_eq_true (show (ls.length : Int) < (n : Int) by omega)]
      exact iteT ⟨_, rfl, use_ex1 (q2 fun z => hn (by have : (n : Int) ≤ (ls.length : Int) := z.2; omega))⟩
/-! ### check_pair -/
def spCheckPair (K : PySem.W.Frag) : Sp := fun vs H Q E => ∃ (c a : Addr) (ns : List Int) (ls : List Nat) (ws : List Str), vs = [.ref c, .ref a] ∧ CodeAt K H c ls ws ∧ H a = some (.lst (ns.map V.int)) ∧ 2 ≤ ns.length ∧ ns.length ≤ 60 ∧ (∀ n ∈ ns, 0 ≤ n) ∧
  (ns.length = ls.length → ∀ H', Same H H' → Q .non H') ∧ (ns.length ≠ ls.length → exS K H ns.length ls.length E)
theorem ok_check_pair (T : Tx K mg) (F : Exs P K mg) : Cal P w K mg base (L2.CX P w) 3 "check_pair" ["code", "counts"] (spCheckPair K) := by
  have c_check_counts := ok_check_counts (P := P) (w := w) (base := base) T
  have F_OtherSize := F.size
  obtain ⟨fdR, ok_OtherSize, b_OtherSize⟩ := fn_OtherSize_init (w := w) (base := base) F_OtherSize
  refine cal_ofX T.g_check_pair T.f_check_pair sc_check_pair (fun _ _ _ _ _ _ us hl => match us, hl with | [_, _], _ => rfl) (fun vs H Q E ⟨a, b, _, _, _, e, _⟩ => by rw [e]; rfl) (fun fd cdv A outer s H vs Q E hr h => ?_)
  obtain ⟨c, a, ns, ls, ws, rfl, hc, ha, n2, n60, h0, q1, q2⟩ := h
  refine ⟨_, (pss_cons (ps_expr (pe_cal c_check_counts (hr.mono (by decide)) rfl pass0 (pa_cons (pv 1) pa_nil)))
    (pss_one (ps_if (pt_cmpR op_ne (pe_callB call_len_seq (by rfl) T.b_len (by decide +kernel) (pa_cons (pv 1) pa_nil)) (pe_fld (pv 0) rfl) (nomark _))
      (pss_one (ps_raise rfl (takes_of rfl rfl rfl rfl) (pmk_oex F_OtherSize.oex F_OtherSize.ini F_OtherSize.typ ok_OtherSize (hr.mono (by decide)) b_OtherSize .nil pass0 rfl F_OtherSize.g (pa_cons (pe_callB call_len_seq (by rfl) T.b_len (by decide +kernel) (pa_cons (pv 1) pa_nil)) (pa_cons (pe_fld (pv 0) rfl) pa_nil)))))
      pss_nil))), ?_⟩
  refine ⟨_, rfl, a, ns, rfl, seq_at ha, n2, by omega, h0, fun H1 s1 => ?_⟩
  obtain ⟨dx, B, C, m, e1, e2, e3⟩ := (hc.same s1).ex
  have ha1 := s1 _ _ ha
  refine ⟨_, rfl, a, _, rfl, .inl (seq_at ha1), _, rfl, c, _, _, _, _, rfl, e1, T.cl_Code, T.na_Code_size, rfl, rfl, _, rfl, ?_⟩
  rw [List.length_map]
  by_cases hl : ns.length = ls.length
  · rw [decide_eq_true (show nI ns.length = nI ls.length from congrArg nI hl)]
    exact iteF (q1 hl H1 s1)
  · rw [decide_eq_false (show ¬ nI ns.length = nI ls.length from fun z => hl (by have := V.int.inj z; omega))]
    refine iteT ⟨_, rfl, a, _, rfl, .inl (seq_at ha1), _, rfl, c, _, _, _, _, rfl, e1, T.cl_Code, T.na_Code_size, rfl, ?_⟩
    rw [List.length_map]
    exact use_ex2 fun d H' s2 hd => q2 hl d H' (s1.trans s2) hd
/-! ### check_put -/
def spCheckPut (K : PySem.W.Frag) : Sp := fun vs H Q E => ∃ (c a : Addr) (v3 v4 : V) (ns : List Int) (ls : List Nat) (ws : List Str), vs = [.ref c, .ref a, v3, v4] ∧ CodeAt K H c ls ws ∧ 2 ≤ ls.length ∧ ls.length ≤ 60 ∧ H a = some (.lst (ns.map V.int)) ∧ 2 ≤ ns.length ∧ ns.length ≤ 60 ∧ (∀ n ∈ ns, 0 ≤ n) ∧ Va K H v3 ∧ Va K H v4 ∧
  (ns.length ≠ ls.length → exS K H ns.length ls.length E) ∧ (ns.length = ls.length → ¬ rkOk v3 ls.length → exR K H v3 E) ∧ (ns.length = ls.length → rkOk v3 ls.length → isCnt v4 = false → exC K H v4 E) ∧
  (ns.length = ls.length → rkOk v3 ls.length → isCnt v4 = true → ∀ H', Same H H' → Q .non H')
theorem exR_same {H H' : Hp} {v : V} {E : XK} (h : exR K H v E) (s : Same H H') : exR K H' v E := fun d H2 s2 hd => h d H2 (s.trans s2) hd
theorem exC_same {H H' : Hp} {v : V} {E : XK} (h : exC K H v E) (s : Same H H') : exC K H' v E := fun d H2 s2 hd => h d H2 (s.trans s2) hd
theorem ok_check_put (T : Tx K mg) (F : Exs P K mg) : Cal P w K mg base (L2.CX P w) 4 "check_put" ["code", "counts", "rank", "count"] (spCheckPut K) := by
  have c_check_pair := ok_check_pair (w := w) (base := base) T F
  have c_check_rank := ok_check_rank (w := w) (base := base) T F
  have c_is_count := ok_is_count (P := P) (w := w) (base := base) T
  have c_check_signs := ok_check_signs (P := P) (w := w) (base := base) T
  have F_BadCount := F.count
  obtain ⟨fdR, ok_BadCount, b_BadCount⟩ := fn_BadCount_init (w := w) (base := base) F_BadCount
  refine cal_ofX T.g_check_put T.f_check_put sc_check_put (fun _ _ _ _ _ _ us hl => match us, hl with | [_, _, _, _], _ => rfl) (fun vs H Q E ⟨a, b, _, _, _, _, _, e, _⟩ => by rw [e]; rfl) (fun fd cdv A outer s H vs Q E hr h => ?_)
  obtain ⟨c, a, v3, v4, ns, ls, ws, rfl, hc, l2, l60, ha, n2, n60, h0, h3, h4, q1, q2, q3, q4⟩ := h
  refine ⟨_, (pss_cons (ps_expr (pe_cal c_check_pair (hr.mono (by decide)) rfl (passes_call (takes_of rfl rfl rfl rfl) (fun _ _ _ _ h => h)) (pa_cons (pv 0) (pa_cons (pv 1) pa_nil))))
    (pss_cons (ps_expr (pe_cal c_check_rank (hr.mono (by decide)) rfl (passes_call (takes_of rfl rfl rfl rfl) (fun _ _ _ _ h => h)) (pa_cons (pv 0) (pa_cons (pv 2) pa_nil))))
    (pss_cons (ps_if (pt_not (pt_val (pe_cal c_is_count (hr.mono (by decide)) rfl pass0 (pa_cons (pv 3) pa_nil))))
      (pss_one (ps_raise rfl (takes_of rfl rfl rfl rfl) (pmk_oex F_BadCount.oex F_BadCount.ini F_BadCount.typ ok_BadCount (hr.mono (by decide)) b_BadCount .nil pass0 rfl F_BadCount.g (pa_cons (pv 3) pa_nil))))
      pss_nil)
    (pss_one (ps_expr (pe_cal c_check_signs (hr.mono (by decide)) rfl pass0 (pa_cons (pe_op op_add (pe_fld (pv 0) rfl) pe_int) pa_nil))))))), ?_⟩
  refine ⟨_, rfl, _, rfl, c, a, ns, ls, ws, rfl, hc, ha, n2, n60, h0, fun hl H1 s1 => ?_, q1⟩
  refine ⟨_, rfl, _, rfl, c, v3, ls, ws, rfl, hc.same s1, h3.same s1, fun hk => ?_, fun hk => exR_same (q2 hl hk) s1⟩
  refine ⟨_, rfl, v4, rfl, h4.same s1, _, rfl, ?_⟩
  cases hi : isCnt v4 with
  | false => exact iteT ⟨_, rfl, use_ex1 (exC_same (q3 hl hk hi) s1)⟩
  | true =>
    obtain ⟨dx, B, C, m, e1, e2, e3⟩ := (hc.same s1).ex
    exact iteF ⟨_, rfl, c, _, _, _, _, rfl, e1, T.cl_Code, T.na_Code_size, rfl, _, _, rfl, rfl, _, rfl, by omega, by omega, q4 hl hk hi H1 s1⟩
end
end K38


set_option Elab.async false
set_option linter.all false
set_option maxRecDepth 100000
set_option maxHeartbeats 4000000
/-! put_counted -/
namespace K38
open PySem PySem.Spec PyProof.Rows L2 M38
theorem eqV_int (i j : Int) : eqV (.int i) (.int j) = true ↔ i = j := by
  show (i == j) = true ↔ i = j
  exact beq_iff_eq
theorem inV_ints {x : Int} {ns : List Int} : inV (.int x) (ns.map V.int) = true ↔ x ∈ ns := by
  unfold inV
  rw [List.any_eq_true]
  constructor
  · rintro ⟨y, hy, e⟩
    obtain ⟨n, hn, rfl⟩ := List.mem_map.mp hy
    rw [← (eqV_int _ _).mp e]
    exact hn
  · exact fun h => ⟨_, List.mem_map_of_mem h, (eqV_int _ _).mpr rfl⟩
theorem flat_ints (ns : List Int) : (ns.map V.int).all flatV = true := List.all_eq_true.mpr fun v hv => by
  obtain ⟨n, hn, rfl⟩ := List.mem_map.mp hv
  rfl
/-- the first place of an item -/
theorem first_at {x : Int} : ∀ {ns : List Int}, x ∈ ns → ∃ i : Nat, ns[i]? = some x ∧ ∀ j : Nat, j < i → ns[j]? ≠ some x
  | [], h => by cases h
  | n :: ns, h => by
    by_cases e : n = x
    · exact ⟨0, by rw [e]; rfl, fun j hj => absurd hj (Nat.not_lt_zero _)⟩
    · obtain ⟨i, h1, h2⟩ := first_at ((List.mem_cons.mp h).resolve_left fun z => e z.symm)
      refine ⟨i + 1, by simpa using h1, fun j hj => ?_⟩
      cases j with
      | zero => simpa using e
      | succ j => simpa using h2 j (by omega)
noncomputable def due (ns : List Int) (ls : List Nat) (rk : Nat) (x : Int) : Int := L (put ns rk x) - costP (ns.zip ls)
section
variable {P : Program} {w : World} {K : PySem.W.Frag} {mg : Str → Option Value} {base : Heap}
def spPut (K : PySem.W.Frag) : Sp := fun vs H Q E => ∃ (c a : Addr) (v3 v4 : V) (ns : List Int) (ls : List Nat) (ws : List Str), vs = [.ref c, .ref a, v3, v4] ∧ CodeAt K H c ls ws ∧ GoodL ls ∧ ls.length ≤ 50 ∧ H a = some (.lst (ns.map V.int)) ∧ 2 ≤ ns.length ∧ ns.length ≤ 51 ∧ (∀ n ∈ ns, 0 ≤ n) ∧ Va K H v3 ∧ Va K H v4 ∧
  (ns.length ≠ ls.length → exS K H ns.length ls.length E) ∧ (ns.length = ls.length → ¬ rkOk v3 ls.length → exR K H v3 E) ∧ (ns.length = ls.length → rkOk v3 ls.length → isCnt v4 = false → exC K H v4 E) ∧
  (ns.length = ls.length → ∀ (rk : Nat) (x : Int), v3 = nI rk → rk ≤ ls.length → v4 = .int x → 0 ≤ x →
    (∀ (H' : Hp) (r dx : Addr) (cv : V) (i : Nat), Same H H' → Ct K H' cv (some ns) → H' r = some (.ins (He.ga K "Kept") dx (toldF "sign" (.ref c) cv (nI rk) (.int x) (nI i))) → (prices ns ls x)[i]? = some (due ns ls rk x) → (∀ j : Nat, j < i → (prices ns ls x)[j]? ≠ some (due ns ls rk x)) → Q (.ref r) H') ∧
    (∀ (H' : Hp) (r dx : Addr) (cv : V) (o : Addr) (hs : List Nat) (us : List Str), Same H H' → Ct K H' cv (some ns) → H' r = some (.ins (He.ga K "Recoded") dx (toldF "other" (.ref c) cv (nI rk) (.int x) (.ref o))) → CodeAt K H' o hs us → GoodL hs → hs.length = ns.length + 1 → costP ((put ns rk x).zip hs) = L (put ns rk x) →
      due ns ls rk x ∉ prices ns ls x → Q (.ref r) H'))
theorem ok_put_counted (T : Tx K mg) (F : Exs P K mg) : Cal P w K mg base (L2.CX P w) 5 "put_counted" ["code", "counts", "rank", "count"] (spPut K) := by
  have c_check_put := ok_check_put (w := w) (base := base) T F
  have c_grown_counts := ok_grown_counts (P := P) (w := w) (base := base) T
  have c_put_prices := ok_put_prices (P := P) (w := w) (base := base) T
  have c_least_of := ok_least_of (P := P) (w := w) (base := base) T
  have c_cost_by := ok_cost_by (P := P) (w := w) (base := base) T
  have c_lengths_for := ok_lengths_for (P := P) (w := w) (base := base) T
  have c_Code1 := mk_code1 (P := P) (w := w) (base := base) T
  have c_Kept5 := mk_Kept (P := P) (w := w) (base := base) T
  have c_Recoded5 := mk_Recoded (P := P) (w := w) (base := base) T
  refine cal_ofX T.g_put_counted T.f_put_counted sc_put_counted (fun _ _ _ _ _ _ us hl => match us, hl with | [_, _, _, _], _ => rfl) (fun vs H Q E ⟨a, b, _, _, _, _, _, e, _⟩ => by rw [e]; rfl) (fun fd cdv A outer s H vs Q E hr h => ?_)
  obtain ⟨c, a, v3, v4, ns, ls, ws, rfl, hc, hg, l50, ha, n2, n51, h0, h3, h4, q1, q2, q3, q4⟩ := h
  refine ⟨_, (pss_cons (ps_expr (pe_cal c_check_put (hr.mono (by decide)) rfl (passes_call (takes_of rfl rfl rfl rfl) (fun _ _ _ _ h => h)) (pa_cons (pv 0) (pa_cons (pv 1) (pa_cons (pv 2) (pa_cons (pv 3) pa_nil))))))
    (pss_cons (ps_par (i := 4) (j := 5) (by rfl) sc_put_counted.nd rfl rfl (by decide) rfl rfl (pa_cons (pe_cal c_grown_counts (hr.mono (by decide)) rfl pass0 (pa_cons (pv 1) (pa_cons (pv 2) (pa_cons (pv 3) pa_nil)))) (pa_cons (pe_cal c_put_prices (hr.mono (by decide)) rfl pass0 (pa_cons (pv 0) (pa_cons (pv 1) (pa_cons (pv 3) pa_nil)))) pa_nil)) (by rfl))
    (pss_cons (ps_set (i := 6) sc_put_counted.nd rfl (Or.inl rfl) (pe_op op_sub (pe_cal c_least_of (hr.mono (by decide)) rfl pass0 (pa_cons (pv 4) pa_nil)) (pe_cal c_cost_by (hr.mono (by decide)) rfl pass0 (pa_cons (pv 0) (pa_cons (pv 1) pa_nil)))))
    (pss_cons (ps_if (pt_cmpR op_in_seq (pv 6) (pv 5) (by rfl))
      (pss_one (ps_ret (C8.pe_mk c_Kept5 hr (by decide) rfl (pa_cons (pv 0) (pa_cons (pv 1) (pa_cons (pv 2) (pa_cons (pv 3) (pa_cons (pe_bm PySem.F.plainAttrs_list PySem.F.slot_list_index PySem.F.type_list_index mt_index (pv 5) (pa_cons (pv 6) pa_nil)) pa_nil))))))))
      pss_nil)
    (pss_one (ps_ret (C8.pe_mk c_Recoded5 hr (by decide) rfl (pa_cons (pv 0) (pa_cons (pv 1) (pa_cons (pv 2) (pa_cons (pv 3) (pa_cons (C8.pe_mk c_Code1 hr (by decide) rfl (pa_cons (pe_cal c_lengths_for (hr.mono (by decide)) rfl pass0 (pa_cons (pv 4) pa_nil)) pa_nil)) pa_nil)))))))))))), ?_⟩
  refine ⟨_, rfl, _, rfl, _, rfl, _, rfl, c, a, v3, v4, ns, ls, ws, rfl, hc, hg.two, hg.most, ha, n2, by omega, h0, h3, h4, q1, q2, q3, fun hl hk hi H1 s1 => ?_⟩
  obtain ⟨rk, rfl⟩ := isCnt_int hk.1
  obtain ⟨x, rfl⟩ := isCnt_int hi
  have hrk : rk ≤ ls.length := by
    have z : (rk : Int) ≤ (ls.length : Int) := hk.2
    omega
  obtain ⟨qK, qR⟩ := q4 hl rk x rfl hrk rfl (by omega)
  have x0 : (0 : Int) ≤ (x : Int) := by omega
  refine ⟨_, rfl, _, rfl, _, rfl, a, true, ns, rk, x, rfl, seq_at (s1 _ _ ha), by omega, by omega, fun H2 g s2 hg2 => ?_⟩
  have s12 := s1.trans s2
  refine ⟨_, rfl, _, rfl, _, rfl, c, a, true, ns, ls, ws, x, rfl, hc.same s12, seq_at (s12 _ _ ha), hg.le, hg.most, fun H3 p s3 hp3 => ?_⟩
  refine ⟨_, _, rfl, ?_⟩
  have s13 := s12.trans s3
  have hg3 := s3 _ _ hg2
  have lp : (put ns rk (x : Int)).length = ns.length + 1 := put_len _ _ _
  have g0 := put_ge (k := rk) h0 x0
  refine ⟨_, rfl, g, _, rfl, hg3, by omega, by omega, g0, fun H4 s4 => ?_⟩
  have s14 := s13.trans s4
  refine ⟨_, rfl, _, rfl, c, a, true, ns, ls, ws, rfl, hc.same s14, seq_at (s14 _ _ ha), hg.le, hg.most, fun H5 s5 => ?_⟩
  have s15 := s14.trans s5
  have hp5 := s5 _ _ (s4 _ _ hp3)
  refine ⟨_, _, rfl, rfl, ?_⟩
  refine ⟨_, rfl, _, rfl, p, _, rfl, .inl (seq_at hp5), rfl, flat_ints _, _, rfl, ?_⟩
  have hcl : Cl K H5 (.ref a) (some ns) := .inl ⟨a, ns, rfl, rfl, s15 _ _ ha, by omega⟩
  by_cases hm : due ns ls rk x ∈ prices ns ls x
  · rw [show inV (.int (L (put ns rk (x : Int)) - costP (ns.zip ls))) ((prices ns ls x).map V.int) = true from inV_ints.mpr hm]
    obtain ⟨i, hi1, hi2⟩ := first_at hm
    refine iteT ⟨_, rfl, _, rfl, _, rfl, _, rfl, _, rfl, .inl ⟨rfl, _, seq_at hp5⟩, _, rfl, p, _, _, i, _, rfl, rfl, seq_at hp5, rfl, flat_ints _, mapI hi1, (eqV_int _ _).mpr rfl, fun m z' hmi hz => ?_, ?_⟩
    · obtain ⟨n, hn, rfl⟩ := getI hz
      cases e : eqV (.int n) (.int (L (put ns rk (x : Int)) - costP (ns.zip ls))) with
      | false => rfl
      | true => exact absurd (by rw [hn, (eqV_int _ _).mp e]; rfl) (hi2 m hmi)
    · exact use_told (some ns) hcl fun H' r dx cv s6 ct _ hr => qK H' r dx cv i (s15.trans s6) ct hr hi1 hi2
  · rw [show inV (.int (L (put ns rk (x : Int)) - costP (ns.zip ls))) ((prices ns ls x).map V.int) = false from Bool.eq_false_iff.mpr fun z => hm (inV_ints.mp z)]
    refine iteF ⟨_, rfl, _, rfl, _, rfl, _, rfl, _, rfl, g, _, rfl, s5 _ _ (s4 _ _ hg3), by omega, by omega, g0, fun H6 l hs s6 hl6 lhs hgood hcost => ?_⟩
    refine use_code none hl6 hgood.two hgood.most hgood.full hgood.len (.inl ⟨rfl, rfl⟩) fun H7 o us s7 ho _ _ => ?_
    have s57 := s6.trans s7
    exact use_told (some ns) (hcl.same s57) fun H' r dx cv s8 ct _ hr => qR H' r dx cv o hs us ((s15.trans s57).trans s8) ct hr (ho.same s8) hgood (by omega) hcost hm
end
end K38


set_option Elab.async false
set_option linter.all false
set_option maxRecDepth 100000
set_option maxHeartbeats 4000000
/-! try with several clauses «except X as e», all of one name. -/
namespace K38
open PySem PySem.Spec PyProof.Rows L2
/-- the ends of a suite whose name goes -/
def goes (i : Nat) (D : Ends) : Ends := { nx := fun σ' H' => D.nx (σ'.set i none) H', rt := D.rt, bk := fun σ' H' => D.bk (σ'.set i none) H', ct := fun σ' H' => D.ct (σ'.set i none) H' }
abbrev Cls1 : Type := Value × (Addr → Value → Option Addr → TS)
/-- what the clauses wish of an exception -/
def wAll (K : PySem.W.Frag) (i : Nat) (Wout : WX) (D : Ends) : List Cls1 → WX
  | [] => Wout
  | q :: r => fun cls d σ H => ∃ b, PySem.W.exmOne K cls q.1 = some b ∧ (b = true → ∀ a, H a = none → q.2 a cls d (goes i D) (σ.set i (some (.ref a))) H) ∧ (b = false → wAll K i Wout D r cls d σ H)
inductive Clauses (X : Cx) (n : Str) : List ExceptHandler → List Cls1 → Prop
  | nil : Clauses X n [] []
  | cons {x : Str} {c : Value} {ts : Addr → Value → Option Addr → TS} {b₀ : Stmt} {suite : List Stmt} {np pos' : Pos} {hds : List ExceptHandler} {l : List Cls1} (hc : Names X x c)
      (hsu : ∀ (a : Addr) (oe : Obj) (cls : Value) (d : Option Addr) (pn : List (Addr × Obj)), Zc cls d oe → (∃ vs, oe.data = .fields vs) → PSs (X.suite a ((a, oe) :: pn)) (b₀ :: suite) (ts a cls d)) (r : Clauses X n hds l) :
      Clauses X n (.ExceptHandler (some (.Name x np)) (some n) (b₀ :: suite) pos' :: hds) ((c, ts) :: l)
section
variable {X : Cx} {n : Str} {i : Nat} {body : List Stmt} {h₀ : ExceptHandler} {hds : List ExceptHandler} {l : List Cls1} {pos : Pos} {tb : WX → TS} {Wout : WX}
/-- what is known of the caught exception when the clauses are looked at -/
structure Caught (X : Cx) (B : Heap) (pins : List (Addr × Obj)) (σ : L2.St) (H : Hp) (cls : Value) (d : Option Addr) (a : Addr) (sI s : Shared) (h3 : Heap) : Prop where
  J : Inv X pins σ H sI
  nb : ∀ b o, sI.heap.get? b = some o → b ∉ frs X.stack → B.get? b = some o
  up : sI.heap.UpToSlots h3
  fl : HandSPX.FlyingZ B (X.env :: X.outer) a (Zc cls d) h3
  na : H a = none
  os : s.os = sI.os
  ag : AllBare s.gens
theorem Caught.to (hs : X.stack = X.env :: X.outer) (hf : X.env.frame = some X.env.locals) {B : Heap} {pins : List (Addr × Obj)} {σ : L2.St} {H : Hp} {cls : Value} {d : Option Addr} {a : Addr} {sI s : Shared} {h3 : Heap} (c : Caught X B pins σ H cls d a sI s h3) :
    Inv X pins σ H { s with heap := h3 } ∧ a ≠ X.env.locals ∧ a ∉ X.fs := by
  refine ⟨c.J.landed c.nb c.fl.1 c.up c.os c.ag, ?_⟩
  obtain ⟨oe, vs, he, _, hd⟩ := c.fl.there
  have nfr : a ∉ frs (X.env :: X.outer) := fun hm => by
    obtain ⟨_, o', e', hnf⟩ := c.fl.2.2.1.mem hm
    rw [he] at e'
    cases e'
    exact hnf _ hd
  refine ⟨fun z => nfr (List.mem_filterMap.mpr ⟨X.env, List.mem_cons_self, by rw [hf, z]⟩), fun hm => ?_⟩
  obtain ⟨e, he, q⟩ := List.mem_filterMap.mp hm
  exact nfr (List.mem_filterMap.mpr ⟨e, List.mem_cons_of_mem _ he, q⟩)
theorem clauses_run (hs : X.stack = X.env :: X.outer) (hf : X.env.frame = some X.env.locals) (hN : X.N.Nodup) (hi : X.N[i]? = some n) (hln : X.env.kindOf n = some .local) (tk : Takes X Wout)
    {B : Heap} {pins : List (Addr × Obj)} {σ : L2.St} {H : Hp} {cls : Value} {d : Option Addr} {a : Addr} {sI s : Shared} {h3 : Heap} {D : Ends} (c : Caught X B pins σ H cls d a sI s h3) (hk : Clauses X n hds l) :
    wAll X.K i Wout D l cls d σ H → wpAny (model X.prog X.w) X.A (handleBy (.ref a) X.env hds) (SP X pins D) X.xe { s with heap := h3 } := by
  have ok := c.J.ok
  obtain ⟨J3, nL, nF⟩ := c.to hs hf
  induction hk with
  | nil =>
    intro w
    refine wpAny_handleBy_nil ?_
    obtain ⟨_, _, _, oe, vs, T, oT, ts', he, _, hd, h1, _⟩ := id c.fl
    unfold PySem.passOn
    refine wpAny_bind (wpAny_field he hd h1 ?_)
    rw [if_neg (show ¬ ((Value.ref T == Value.none) = true) from by simp)]
    have fin : wpAny (model X.prog X.w) X.A (setFlight (.ref a) X.env.frame) (fun _ s4 => wpAny (model X.prog X.w) X.A (throw (.ref a) : Sem Flow) (SP X pins D) X.xe s4) X.xe { s with heap := h3 } := by
      rw [hf]
      refine HandSPX.setFlight_upZ c.fl fun h4 hh4 up4 => wpAny_throw (tk _ _ ?_)
      exact ⟨a, B, sI, pins, σ, H, cls, d, rfl, c.J, c.nb, c.up.trans up4, .inr (.inr (by rw [hs]; exact hh4)), c.na, c.os, c.ag, w⟩
    first
      | exact wpAny_bind (wpAny_pure (wpAny_bind fin))
      | exact wpAny_bind fin
  | @cons x cv ts b₀ suite np pos' hds2 l2 hc hsu r ih =>
    intro w
    obtain ⟨b, hb1, hyes, hno⟩ := w
    obtain ⟨oe3, vs3, he3, hz3, hd3⟩ := c.fl.there
    have S3 := J3.suite he3 hd3 c.na nL nF
    refine wpAny_handleBy_cons (codeAny_handlers_test ?_) (by intro q; cases q)
    have LM := PySem.W.exm_one (M := model X.prog X.w) (J3.kIn) (show PySem.W.Looks (model X.prog X.w) h3 (typeOf (.ref a)) cls from fun A Q E s k q => wpAny_typeOf_ref (k _ _ he3) (by rw [hz3.1]; exact q)) hb1
    have test : ∀ {Q : Value → Shared → Prop} {E : Value → Shared → Prop}, Q cv { s with heap := h3 } → wpAny (model X.prog X.w) (X.A.mark (some (.ref a))) (eval (.Name x np) X.env) Q E { s with heap := h3 } := fun {Q E} q => by
      obtain ⟨hg, hdbg, hm | ⟨hm, hv, hnn⟩⟩ := hc
      · exact ld_glob (X := X.suite a ((a, oe3) :: (X.pn ++ pins))) S3 hg hm q hdbg
      · exact ld_blt (X := X.suite a ((a, oe3) :: (X.pn ++ pins))) S3 hg hm hv q hnn hdbg
    refine test (LM.here ?_)
    cases b with
    | false =>
      show wpAny _ X.A (handleBy (.ref a) X.env hds2) _ _ _
      exact ih (hno rfl)
    | true =>
      refine codeAny_handlers_suite_as ?_
      refine HandSPX.lands_againZ c.fl fun h4 fl4 up4 => ?_
      have J4 : Inv X pins σ H { s with heap := h4 } := c.J.landed c.nb fl4.1 (c.up.trans up4) c.os c.ag
      obtain ⟨oe4, vs4, he4, hz4, hd4⟩ := fl4.there
      have S4 := J4.suite he4 hd4 c.na nL nF
      refine store_ok (X := X.suite a ((a, oe4) :: (X.pn ++ pins))) (v := .ref a) S4 hN hi (.inl hln) rfl (fun s5 S5 => ?_) (.inr hln)
      refine wpAny_mono ((hsu a oe4 cls d (X.pn ++ pins) hz4 ⟨_, hd4⟩).run [] s5 _ H _ S5 (hyes rfl a c.na)) (fun f s6 hsp => ?_) (fun _ _ z => False.elim z)
      cases f with
      | ret u =>
        obtain ⟨v6, σ6, H6, S6, r6, q6⟩ := hsp
        exact gone_ok (S6.unsuite ok) hN hi hln fun s7 J7 => ⟨_, _, _, J7, r6, q6⟩
      | next =>
        obtain ⟨σ6, H6, S6, q6⟩ := hsp
        exact gone_ok (S6.unsuite ok) hN hi hln fun s7 J7 => ⟨_, _, J7, q6⟩
      | brk =>
        obtain ⟨σ6, H6, S6, q6⟩ := hsp
        exact gone_ok (S6.unsuite ok) hN hi hln fun s7 J7 => ⟨_, _, J7, q6⟩
      | cont =>
        obtain ⟨σ6, H6, S6, q6⟩ := hsp
        exact gone_ok (S6.unsuite ok) hN hi hln fun s7 J7 => ⟨_, _, J7, q6⟩
/-- THE RULE -/
theorem ps_try_all (hs : X.stack = X.env :: X.outer) (hf : X.env.frame = some X.env.locals) (hN : X.N.Nodup) (hi : X.N[i]? = some n) (hln : X.env.kindOf n = some .local) (tk : Takes X Wout)
    (hb : ∀ (W : WX) (pn : List (Addr × Obj)) (xe : Value → Shared → Prop), Takes (X.tr pn xe) W → PassesOwn (model X.prog X.w) X.A X.env xe → PSs (X.tr pn xe) body (tb W))
    (hh : Clauses X n (h₀ :: hds) l) : PS X (.Try body (h₀ :: hds) [] [] pos) (fun D σ H => tb (wAll X.K i Wout D l) D σ H) := by
  refine ⟨fun pins s σ H D I h => ?_⟩
  have ok := I.ok
  have hfr : X.A.frames = some (X.env :: X.outer) := by rw [ok.frames, hs]
  refine wpAny_Try_except ?_
  refine wpAny_mono ((hb (wAll X.K i Wout D l) (X.pn ++ pins) (fun e s₁ => wpAny (model X.prog X.w) X.A (noteFrame e X.env) (fun _ s₂ => wpAny (model X.prog X.w) X.A (setFlight e none) (fun _ s₃ =>
    wpAny (model X.prog X.w) X.A (handleBy e X.env (h₀ :: hds)) (SP X pins D) X.xe s₃) X.xe s₂) X.xe s₁) (fun u s' xx => ?_) PassesOwn.looking).run [] s σ H D (I.toTry _) h) (fun f s1 hsp => ?_) (fun e s1 he => he)
  · obtain ⟨a, B, sI, pins', σ', H', cls, d, rfl, J', nb, up, sky, na, os, ag, w⟩ := xx
    have sky' : Sky B (X.env :: X.outer) a (Zc cls d) X.env.locals s'.heap := by rw [← hs]; exact sky
    show wpAny (model X.prog X.w) X.A (noteFrame (.ref a) X.env) _ _ _
    refine Sky.land Zc.steady hfr hf sky' fun h3 fl3 up3 => ?_
    exact clauses_run hs hf hN hi hln tk ⟨J'.ofTry ok, nb, up.trans up3, fl3, na, os, ag⟩ hh w
  · cases f with
    | next =>
      obtain ⟨σ', H', J', q⟩ := hsp
      exact wpAny_execs_nil ⟨σ', H', J'.ofTry ok, q⟩
    | ret u =>
      obtain ⟨v, σ', H', J', r, q⟩ := hsp
      exact ⟨v, σ', H', J'.ofTry ok, r, q⟩
    | brk =>
      obtain ⟨σ', H', J', q⟩ := hsp
      exact ⟨σ', H', J'.ofTry ok, q⟩
    | cont =>
      obtain ⟨σ', H', J', q⟩ := hsp
      exact ⟨σ', H', J'.ofTry ok, q⟩
end
end K38

set_option Elab.async false
set_option linter.all false
set_option maxRecDepth 100000
set_option maxHeartbeats 4000000
/-! _law_met: what it makes of a call that raises -/
namespace K38
open PySem PySem.Spec PyProof.Rows L2 M38
/-- what the clauses must know of the exceptions' classes -/
structure Met (K : PySem.W.Frag) (mg : Str → Option Value) : Prop where
  gT : mg "TooMany" = some (.ref (He.ga K "TooMany"))
  gR : mg "BadRank" = some (.ref (He.ga K "BadRank"))
  gC : mg "BadCount" = some (.ref (He.ga K "BadCount"))
  gS : mg "OtherSize" = some (.ref (He.ga K "OtherSize"))
  rr : PySem.W.exmOne K (.ref (He.ga K "BadRank")) (.ref (He.ga K "BadRank")) = some true
  cr : PySem.W.exmOne K (.ref (He.ga K "BadCount")) (.ref (He.ga K "BadRank")) = some false
  ct : PySem.W.exmOne K (.ref (He.ga K "BadCount")) (.ref (He.ga K "TooMany")) = some false
  cc : PySem.W.exmOne K (.ref (He.ga K "BadCount")) (.ref (He.ga K "BadCount")) = some true
  sr : PySem.W.exmOne K (.ref (He.ga K "OtherSize")) (.ref (He.ga K "BadRank")) = some false
  st : PySem.W.exmOne K (.ref (He.ga K "OtherSize")) (.ref (He.ga K "TooMany")) = some false
  sc : PySem.W.exmOne K (.ref (He.ga K "OtherSize")) (.ref (He.ga K "BadCount")) = some false
  ss : PySem.W.exmOne K (.ref (He.ga K "OtherSize")) (.ref (He.ga K "OtherSize")) = some true
  xR : XfC K (He.ga K "BadRank")
  xC : XfC K (He.ga K "BadCount")
  xS : XfC K (He.ga K "OtherSize")
  nR : PySem.W.findIn K (.ref (He.ga K "BadRank")) "rank" = some none
  nC : PySem.W.findIn K (.ref (He.ga K "BadCount")) "count" = some none
  nS : PySem.W.findIn K (.ref (He.ga K "OtherSize")) "many" = some none
  nW : PySem.W.findIn K (.ref (He.ga K "OtherSize")) "wanted" = some none
def TTmet (K : PySem.W.Frag) : (XK → Hp → VK → Prop) → Hp → VK → Prop := fun tl H Q => tl (fun cls d H' =>
    (cls = .ref (He.ga K "BadRank") ∧ ∃ dd v, d = some dd ∧ H' dd = some (.xd [("rank", v)]) ∧ ∀ t, H' t = none → Q (.ref t) (upd H' t (.tup [.str "rank", v]))) ∨
    (cls = .ref (He.ga K "BadCount") ∧ ∃ dd v, d = some dd ∧ H' dd = some (.xd [("count", v)]) ∧ ∀ t, H' t = none → Q (.ref t) (upd H' t (.tup [.str "count", v]))) ∨
    (cls = .ref (He.ga K "OtherSize") ∧ ∃ dd n m, d = some dd ∧ H' dd = some (.xd [("wanted", m), ("many", n)]) ∧ ∀ t, H' t = none → Q (.ref t) (upd H' t (.tup [.str "size", n, m])))) H (fun _ _ => False)
theorem takes_len {X : Cx} {W : WX} (t : Takes X W) : Takes X (fun c d σ H => σ.length = X.N.length → W c d σ H) := fun u s' ⟨a, B, sI, pins, σ, H, cls, d, e, I, nb, up, sky, na, os, ag, w⟩ => t u s' ⟨a, B, sI, pins, σ, H, cls, d, e, I, nb, up, sky, na, os, ag, w I.len⟩
theorem met_gives {X : Cx} (M : Met X.K X.mg) {g : Addr} {cdg : Value} {q : Str} : LamX.GivesTo X n_l_met "_law_met" (defScope s_l_met) g cdg (defBody s_l_met) "_law_call" q (TTmet X.K) := by
  intro f c' s H Q tl act hc h
  refine ⟨_, pss_cons (ps_try_all (X := (cxOf C8.CX0 X.prog X.w X.K X.mg X.base n_l_met "_law_met" (defScope s_l_met) g cdg X.A X.stack s H C8.E0).nox) (i := 1) (n := "e")
      (tb := fun W D σ H => ∃ Ech : XK, (∀ cls d σ' H', Ech cls d H' → σ'.length = 2 → W cls d σ' H') ∧ σ[0]? = some (some (.ref f)) ∧ H c' = some (LamX.CodeO c' q) ∧ tl Ech H (fun _ H1 => D.nx σ H1))
      rfl rfl sc_l_met.nd rfl rfl LamX.takes0 (fun W pn xe tk _ => ?_)
      (.cons (c := .ref (He.ga X.K "BadRank")) ⟨rfl, by decide, .inl M.gR⟩ (fun a oe cls d pn hz hf => pss_one (ps_ret (pe_tup (pa_cons pe_str (pa_cons (pe_xf M.xR M.nR hz hf (pv 1)) pa_nil)))))
      (.cons (c := .ref (He.ga X.K "TooMany")) ⟨rfl, by decide, .inl M.gT⟩ (fun a oe cls d pn hz hf => pss_never)
      (.cons (c := .ref (He.ga X.K "BadCount")) ⟨rfl, by decide, .inl M.gC⟩ (fun a oe cls d pn hz hf => pss_one (ps_ret (pe_tup (pa_cons pe_str (pa_cons (pe_xf M.xC M.nC hz hf (pv 1)) pa_nil)))))
      (.cons (c := .ref (He.ga X.K "OtherSize")) ⟨rfl, by decide, .inl M.gS⟩ (fun a oe cls d pn hz hf => pss_one (ps_ret (pe_tup (pa_cons pe_str (pa_cons (pe_xf M.xS M.nS hz hf (pv 1)) (pa_cons (pe_xf M.xS M.nW hz hf (pv 1)) pa_nil)))))) .nil))))) pss_never, ?_⟩
  · refine ⟨fun pins s' σ H' D I h' => ?_⟩
    obtain ⟨Ech, hW, h1, h2, h3⟩ := h'
    exact (pss_one (ps_expr (act _ pn xe Ech _ _ (takes_len tk) hW))).run pins s' σ H' D I ⟨h1, h2, h3⟩
  · refine ⟨_, fun cls d σ' H' hh hlen => ?_, rfl, hc, h⟩
    have at1 : ∀ a : Addr, (σ'.set 1 (some (.ref a)))[1]? = some (some (.ref a)) := fun a => List.getElem?_set_self (by omega)
    rcases hh with ⟨rfl, dd, v, rfl, hx, q⟩ | ⟨rfl, dd, v, rfl, hx, q⟩ | ⟨rfl, dd, n, m, rfl, hx, q⟩
    · exact ⟨true, M.rr, fun _ a na => ⟨_, at1 a, rfl, rfl, dd, _, v, rfl, hx, rfl, (by show 2 ≤ sizeLine; decide), fun t nt => q t nt⟩, fun z => (by cases z)⟩
    · exact ⟨false, M.cr, fun z => (by cases z), fun _ => ⟨false, M.ct, fun z => (by cases z), fun _ => ⟨true, M.cc, fun _ a na => ⟨_, at1 a, rfl, rfl, dd, _, v, rfl, hx, rfl, (by show 2 ≤ sizeLine; decide), fun t nt => q t nt⟩, fun z => (by cases z)⟩⟩⟩
    · exact ⟨false, M.sr, fun z => (by cases z), fun _ => ⟨false, M.st, fun z => (by cases z), fun _ => ⟨false, M.sc, fun z => (by cases z), fun _ => ⟨true, M.ss, fun _ a na => ⟨_, at1 a, rfl, rfl, dd, _, n, rfl, hx, rfl, _, at1 a, rfl, rfl, dd, _, m, rfl, hx, rfl, (by show 3 ≤ sizeLine; decide), fun t nt => q t nt⟩, fun z => (by cases z)⟩⟩⟩⟩
end K38

set_option Elab.async false
set_option linter.all false
set_option maxRecDepth 100000
set_option maxHeartbeats 4000000
/-! the pen: draws -/
namespace K38
open PySem PySem.Spec PyProof.Rows L2 M38
def penK (l : Addr) (n r : Int) : List (Key × V) := [(.inr "cells", .ref l), (.inr "next", .int n), (.inr "left", .int r)]
theorem ne1 : ("cells" : Str) ≠ "next" := by decide
theorem ne2 : ("cells" : Str) ≠ "left" := by decide
theorem ne3 : ("next" : Str) ≠ "left" := by decide
theorem put_next {l : Addr} {n r m : Int} : putK (penK l n r) (.inr "next") (.int m) = penK l m r := by
  unfold putK penK
  simp [ne1, ne1.symm, ne3, ne3.symm]
theorem put_left {l : Addr} {n r m : Int} : putK (penK l n r) (.inr "left") (.int m) = penK l n m := by
  unfold putK penK
  simp [ne2, ne2.symm, ne3, ne3.symm]
theorem get_cells {l : Addr} {n r : Int} : valV (penK l n r) (.inr "cells") = some (.ref l) := by
  unfold valV penK
  simp [ne1, ne1.symm, ne3, ne3.symm]
theorem get_next {l : Addr} {n r : Int} : valV (penK l n r) (.inr "next") = some (.int n) := by
  unfold valV penK
  simp [ne1, ne1.symm, ne3, ne3.symm]
theorem get_left {l : Addr} {n r : Int} : valV (penK l n r) (.inr "left") = some (.int r) := by
  unfold valV penK
  simp [ne1, ne1.symm, ne2, ne2.symm, ne3, ne3.symm]
theorem merge_pen {l : Addr} {n r : Int} : mergeK [] (penK l n r) = penK l n r := by
  unfold penK mergeK
  simp [putK, ne1, ne1.symm, ne2, ne2.symm, ne3, ne3.symm]
/-- the pen; at most B cells were used -/
structure PenAt (H : Hp) (d l : Addr) (B : Nat) : Prop where
  ex : ∃ (cs : List Int) (n r : Int), H d = some (.dK (penK l n r)) ∧ H l = some (.lst (cs.map V.int)) ∧ cs.length ≤ 63 ∧ 0 ≤ n ∧ n ≤ B
theorem PenAt.mono {H : Hp} {d l : Addr} {B B' : Nat} (h : PenAt H d l B) (e : B ≤ B') : PenAt H d l B' := by
  obtain ⟨cs, n, r, a, b, c, e1, e2⟩ := h.ex
  exact ⟨cs, n, r, a, b, c, e1, by omega⟩
theorem PenAt.same {H H' : Hp} {d l : Addr} {B : Nat} (h : PenAt H d l B) (s : Same H H') : PenAt H' d l B := by
  obtain ⟨cs, n, r, a, b, c, e1, e2⟩ := h.ex
  exact ⟨cs, n, r, s _ _ a, s _ _ b, c, e1, e2⟩
theorem dget_s {H : Hp} {d : Addr} {l : Addr} {n r : Int} {x : Str} {v : V} (h : H d = some (.dK (penK l n r))) (e : valV (penK l n r) (.inr x) = some v) : DGet H d (.str x) (some v) := by
  have g := DGet.k (k := Sum.inr x) h
  rw [e] at g
  exact g
theorem modB (x : Int) : -(2 ^ 64) < x % 4294967189 ∧ x % 4294967189 < 2 ^ 64 := ⟨by omega, by omega⟩
theorem modC (x : Int) : -(2 ^ 64) < x % 4294967161 ∧ x % 4294967161 < 2 ^ 64 := ⟨by omega, by omega⟩
section
variable {P : Program} {w : World} {K : PySem.W.Frag} {mg : Str → Option Value} {base : Heap}
def spPenOf (K : PySem.W.Frag) : Sp := fun vs H Q _ => ∃ (a : Addr) (ns : List Int), vs = [.ref a] ∧ SqL K H a (ns.map V.int) ∧ ∀ (H' : Hp) (d l : Addr), Same H H' → PenAt H' d l 0 → Q (.ref d) H'
theorem ok_l_pen_of (T : Tx K mg) : Cal P w K mg base CX0 1 "_law_pen_of" ["_law_script"] (spPenOf K) := by
  refine cal_of T.g_l_pen_of T.f_l_pen_of sc_l_pen_of (fun _ _ _ _ _ _ us hl => match us, hl with | [_], _ => rfl) (fun vs H Q E ⟨a, b, e, _⟩ => by rw [e]; rfl) (fun fd cdv A outer s H vs Q E hr h => ?_)
  obtain ⟨a, ns, rfl, ha, q⟩ := h
  refine ⟨_, (pss_one (ps_ret (pe_disp (pps_cons pe_str (pe_callTy call_list_of (by rfl) T.b_list (by decide +kernel) (pa_cons (pe_slice sl_list (pv 0) po_none (po_some pe_int)) pa_nil)) (pps_cons pe_str pe_int (pps_cons pe_str pe_int pps_nil))) (by rfl) (by rfl) (fun z => by cases z) (by decide)))), ?_⟩
  intro d nd
  refine ⟨_, rfl, _, rfl, a, _, rfl, (same_new nd).seq ha, fun p np => ?_⟩
  refine ⟨p, _, rfl, .inl (seq_at upd_same), fun l nl => ?_⟩
  rw [show (some (63 : Int)) = some ((63 : Nat) : Int) from rfl, cut_to, ← List.map_take] at *
  have ndp : d ≠ p := fun e => by rw [← e, upd_same] at np; cases np
  have ndl : d ≠ l := fun e => by rw [← e, upd_ne ndp, upd_same] at nl; cases nl
  refine ⟨by rw [upd_ne ndl, upd_ne ndp, upd_same], penK l 0 0, rfl, by show 3 ≤ 15; decide, ?_⟩
  refine q _ d l ((((same_new nd).new np).new nl).mut nd) ⟨ns.take 63, 0, 0, by rw [upd_same, merge_pen], by rw [upd_ne ndl.symm, upd_same], by rw [List.length_take]; omega, by decide, by decide⟩
/-! ### _law_draw -/
def spDraw : Sp := fun vs H Q _ => ∃ (d l : Addr) (m : Int) (B : Nat), vs = [.ref d, .int m] ∧ PenAt H d l B ∧ 1 ≤ m ∧ m ≤ 1000 ∧ B ≤ 1000000 ∧ ∀ (H' : Hp) (x : Int), Px d H H' → PenAt H' d l (B + 1) → 0 ≤ x → x < m → Q (.int x) H'
theorem ok_l_draw (T : Tx K mg) : Cal P w K mg base CX0 1 "_law_draw" ["_law_pen", "_law_many"] spDraw := by
  refine cal_of T.g_l_draw T.f_l_draw sc_l_draw (fun _ _ _ _ _ _ us hl => match us, hl with | [_, _], _ => rfl) (fun vs H Q E ⟨a, b, _, _, e, _⟩ => by rw [e]; rfl) (fun fd cdv A outer s H vs Q E hr h => ?_)
  obtain ⟨d, l, m, B, rfl, hp, m1, m2, hB, q⟩ := h
  refine ⟨_, (pss_cons (ps_if (pt_cmpR op_gt (pe_dget (hu_of hr) (pv 0) pe_str (fun _ _ => rfl)) pe_int (nomark _))
      (pss_cons (ps_set (i := 2) sc_l_draw.nd rfl (Or.inl rfl) (pe_op op_mod (pe_callTy call_int1 (by rfl) T.b_int (by decide +kernel) (pa_cons (pe_dget (hu_of hr) (pv 0) pe_str (fun _ _ => rfl)) pa_nil)) (pv 1)))
      (pss_cons (ps_dput (hu_of hr) (pv 0) pe_str (pe_op op_fdiv (pe_dget (hu_of hr) (pv 0) pe_str (fun _ _ => rfl)) (pv 1)) rfl)
      (pss_one (ps_ret (pv 2)))))
      pss_nil)
    (pss_cons (ps_par (i := 3) (j := 4) (by rfl) sc_l_draw.nd rfl rfl (by decide) rfl rfl (pa_cons (pe_dget (hu_of hr) (pv 0) pe_str (fun _ _ => rfl)) (pa_cons (pe_callB call_len_seq (by rfl) T.b_len (by decide +kernel) (pa_cons (pe_dget (hu_of hr) (pv 0) pe_str (fun _ _ => rfl)) pa_nil)) pa_nil)) (by rfl))
    (pss_cons (ps_dput (hu_of hr) (pv 0) pe_str (pe_op op_add (pv 3) pe_int) rfl)
    (pss_cons (ps_if (pt_cmpR op_eq (pv 4) pe_int (nomark _))
      (pss_one (ps_ret (pe_op op_mod (pe_callTy call_int1 (by rfl) T.b_int (by decide +kernel) (pa_cons (pe_op op_add (pe_op op_mul pe_int (pv 3)) pe_int) pa_nil)) (pv 1))))
      pss_nil)
    (pss_cons (ps_set (i := 5) sc_l_draw.nd rfl (Or.inl rfl) (pe_ix ix_list (pe_dget (hu_of hr) (pv 0) pe_str (fun _ _ => rfl)) (pe_op op_mod (pe_callTy call_int1 (by rfl) T.b_int (by decide +kernel) (pa_cons (pv 3) pa_nil)) (pv 4)) (fun _ _ => rfl)))
    (pss_cons (ps_if (PW.pt (pw_and (pt_cmpR op_lt (pv 3) (pv 4) (nomark _)) (pw_and1 (pt_cmpR op_ge (pe_callB call_abs (by rfl) T.b_abs (by decide +kernel) (pa_cons (pv 5) pa_nil)) (pe_op op_pow pe_int pe_int) (nomark _)))))
      (pss_cons (ps_dput (hu_of hr) (pv 0) pe_str (pe_op op_fdiv (pe_op op_sub (pe_callB call_abs (by rfl) T.b_abs (by decide +kernel) (pa_cons (pv 5) pa_nil)) (pe_op op_pow pe_int pe_int)) (pv 1)) rfl)
      (pss_one (ps_ret (pe_op op_mod (pe_callTy call_int1 (by rfl) T.b_int (by decide +kernel) (pa_cons (pe_op op_sub (pe_callB call_abs (by rfl) T.b_abs (by decide +kernel) (pa_cons (pv 5) pa_nil)) (pe_op op_pow pe_int pe_int)) pa_nil)) (pv 1)))))
      pss_nil)
    (pss_cons (ps_set (i := 6) sc_l_draw.nd rfl (Or.inl rfl) (pe_op op_add (pe_op op_mul (pe_op op_mod (pe_callTy call_int1 (by rfl) T.b_int (by decide +kernel) (pa_cons (pv 5) pa_nil)) pe_int) pe_int) (pe_op op_mul (pe_op op_mul pe_int (pv 3)) (pv 3))))
    (pss_cons (ps_set (i := 6) sc_l_draw.nd rfl (Or.inl rfl) (pe_op op_mod (pe_callTy call_int1 (by rfl) T.b_int (by decide +kernel) (pa_cons (pe_op op_add (pe_op op_add (pv 6) (pe_op op_mul pe_int (pv 3))) pe_int) pa_nil)) pe_int))
    (pss_cons (ps_set (i := 6) sc_l_draw.nd rfl (Or.inl rfl) (pe_op op_mod (pe_callTy call_int1 (by rfl) T.b_int (by decide +kernel) (pa_cons (pe_op op_add (pe_op op_add (pe_op op_add (pe_op op_mul (pv 6) (pv 6)) (pe_op op_mul pe_int (pv 6))) (pe_op op_mul pe_int (pv 3))) pe_int) pa_nil)) pe_int))
    (pss_one (ps_ret (pe_op op_mod (pe_callTy call_int1 (by rfl) T.b_int (by decide +kernel) (pa_cons (pe_op op_fdiv (pe_op op_mod (pe_callTy call_int1 (by rfl) T.b_int (by decide +kernel) (pa_cons (pe_op op_mul (pv 6) (pe_op op_add (pv 6) pe_int)) pa_nil)) pe_int) pe_int) pa_nil)) (pv 1))))))))))))), ?_⟩
  obtain ⟨cs, n, r, hd, hl, l63, n0, nB⟩ := hp.ex
  have nld : l ≠ d := fun e => by rw [e, hd] at hl; cases hl
  have fin : ∀ (H' : Hp) (n' r' y : Int), Px d H H' → H' d = some (.dK (penK l n' r')) → 0 ≤ n' → n' ≤ B + 1 → Q (.int (y % m)) H' := fun H' n' r' y px hd' h1 h2 =>
    q H' _ px ⟨cs, n', r', hd', px _ _ nld hl, l63, h1, by omega⟩ (Int.emod_nonneg _ (by omega)) (Int.emod_lt_of_pos _ (by omega))
  refine ⟨_, rfl, d, _, rfl, dget_s hd get_left, _, _, rfl, rfl, _, rfl, ?_⟩
  refine ite2 (fun hc => ?_) (fun hc => ?_)
  · refine ⟨_, rfl, d, _, rfl, dget_s hd get_left, .inl ⟨_, rfl, _, rfl, _, _, rfl, rfl, (by omega : (0 : Int) < m), ?_⟩⟩
    refine ⟨_, rfl, d, _, rfl, dget_s hd get_left, _, rfl, _, _, rfl, rfl, ⟨(by omega : (0 : Int) < m), (by omega : m < 1073741824)⟩, _, rfl, d, _, rfl, DPut.k (k := Sum.inr "left") hd (by show 3 < sizeLine; decide), ?_⟩
    rw [put_left]
    exact ⟨_, rfl, fin _ n _ r (Px.refl d H).upd upd_same n0 (by omega)⟩
  · refine ⟨_, rfl, d, _, rfl, dget_s hd get_next, _, rfl, d, _, rfl, dget_s hd get_cells, l, _, rfl, .inl (seq_at hl), _, _, rfl, ?_⟩
    refine ⟨_, rfl, _, _, rfl, rfl, _, rfl, d, _, rfl, DPut.k (k := Sum.inr "next") hd (by show 3 < sizeLine; decide), ?_⟩
    rw [put_next]
    have px1 : Px d H (upd H d (.dK (penK l (n + 1) r))) := (Px.refl d H).upd
    have hd1 : upd H d (.dK (penK l (n + 1) r)) d = some (.dK (penK l (n + 1) r)) := upd_same
    have hl1 := px1 _ _ nld hl
    revert px1 hd1 hl1
    generalize upd H d (.dK (penK l (n + 1) r)) = H1
    intro px1 hd1 hl1
    rw [List.length_map]
    refine ⟨_, rfl, rfl, _, rfl, ?_⟩
    by_cases hz : cs.length = 0
    · rw [decide_eq_true (show nI cs.length = V.int 0 by rw [hz]; rfl)]
      exact iteT ⟨_, rfl, _, _, rfl, rfl, .inl ⟨by decide, by decide⟩, _, _, rfl, rfl, .inl ⟨_, rfl, _, rfl, _, _, rfl, rfl, (by omega : (0 : Int) < m), fin _ (n + 1) r _ px1 hd1 (by omega) (by omega)⟩⟩
    · rw [decide_eq_false (show ¬ nI cs.length = V.int 0 from fun z => hz (by have := V.int.inj z; omega))]
      have hpos : (0 : Int) < (cs.length : Int) := by omega
      obtain ⟨k, hk⟩ : ∃ k : Nat, n % (cs.length : Int) = (k : Int) := ⟨(n % (cs.length : Int)).toNat, by have := Int.emod_nonneg n (show (cs.length : Int) ≠ 0 by omega); omega⟩
      have hkl : k < cs.length := by have := Int.emod_lt_of_pos n hpos; omega
      have hck : cs[k]? = some cs[k] := List.getElem?_eq_getElem hkl
      generalize cs[k] = c at hck
      have hat : atI (cs.map V.int) (n % (cs.length : Int)) = some (.int c) := by rw [hk]; exact atI_nat (mapI hck)
      refine iteF ⟨_, rfl, d, _, rfl, dget_s hd1 get_cells, _, rfl, .inl ⟨_, rfl, _, rfl, _, _, rfl, rfl, hpos, l, _, _, _, rfl, rfl, seq_at hl1, hat, ?_⟩⟩
      dsimp only [gName, tSeq]
      refine if_split (decide (n < cs.length ∧ (10 : Int) ^ 18 ≤ if c < 0 then -c else c)) (fun Q' hQ => ?_) (fun hc2 => ?_) (fun hc2 => ?_)
      · refine ⟨_, rfl, _, rfl, _, _, rfl, rfl, _, rfl, ?_⟩
        by_cases h1 : n < (cs.length : Int)
        · rw [decide_eq_true h1]
          refine iteT ⟨_, rfl, _, rfl, _, _, rfl, rfl, ⟨by decide, by decide, by decide⟩, _, _, rfl, rfl, _, rfl, ?_⟩
          rw [show decide (n < cs.length ∧ (10 : Int) ^ 18 ≤ if c < 0 then -c else c) = decide ((10 : Int) ^ 18 ≤ if c < 0 then -c else c) from decide_eq_decide.mpr ⟨fun z => z.2, fun z => ⟨h1, z⟩⟩] at hQ
          exact hQ
        · rw [decide_eq_false h1]
          rw [decide_eq_false (fun z => h1 z.1)] at hQ
          exact iteF hQ
      · refine ⟨_, rfl, _, rfl, _, _, rfl, rfl, ⟨by decide, by decide, by decide⟩, _, _, rfl, rfl, _, rfl, _, _, rfl, rfl, ⟨(by omega : (0 : Int) < m), (by omega : m < 1073741824)⟩, _, rfl, d, _, rfl, DPut.k (k := Sum.inr "left") hd1 (by show 3 < sizeLine; decide), ?_⟩
        rw [put_left]
        exact ⟨_, rfl, _, rfl, _, _, rfl, rfl, ⟨by decide, by decide, by decide⟩, _, _, rfl, rfl, .inl ⟨_, rfl, _, rfl, _, _, rfl, rfl, (by omega : (0 : Int) < m), fin _ (n + 1) _ _ px1.upd upd_same (by omega) (by omega)⟩⟩
      · have nb : -(2 ^ 64) < n ∧ n < 2 ^ 64 := ⟨by omega, by omega⟩
        refine ⟨_, rfl, .inl ⟨_, rfl, _, _, rfl, rfl, (by show (0 : Int) < 4294967197; decide), _, _, rfl, rfl, .inr ⟨by decide, by decide⟩, _, rfl, _, _, rfl, rfl, .inl ⟨by decide, by decide⟩, _, rfl, _, _, rfl, rfl, .inr nb, _, _, rfl, rfl, ?_⟩⟩
        refine ⟨_, rfl, _, rfl, _, _, rfl, rfl, .inl ⟨by decide, by decide⟩, _, _, rfl, rfl, _, _, rfl, rfl, .inl ⟨_, rfl, _, _, rfl, rfl, (by show (0 : Int) < 4294967189; decide), ?_⟩⟩
        refine ⟨_, rfl, _, rfl, _, _, rfl, rfl, .inl (modB _), _, rfl, _, _, rfl, rfl, .inl ⟨by decide, by decide⟩, _, _, rfl, rfl, _, rfl, _, _, rfl, rfl, .inl ⟨by decide, by decide⟩, _, _, rfl, rfl, _, _, rfl, rfl, .inl ⟨_, rfl, _, _, rfl, rfl, (by show (0 : Int) < 4294967161; decide), ?_⟩⟩
        exact ⟨_, rfl, _, rfl, _, _, rfl, rfl, _, _, rfl, rfl, .inl (modC _), .inl ⟨_, rfl, _, _, rfl, rfl, (by show (0 : Int) < 4294967143; decide), _, _, rfl, rfl, ⟨by decide, by decide⟩, .inl ⟨_, rfl, _, rfl, _, _, rfl, rfl, (by omega : (0 : Int) < m), fin _ (n + 1) r _ px1 hd1 (by omega) (by omega)⟩⟩⟩
end
end K38


set_option Elab.async false
set_option linter.all false
set_option maxRecDepth 100000
set_option maxHeartbeats 4000000
/-! _law_pick, _law_shuffled -/
namespace K38
open PySem PySem.Spec PyProof.Rows L2 M38
theorem PenAt.ne {H : Hp} {d l a : Addr} {B : Nat} {o : HO} (h : PenAt H d l B) (e : H a = some o) (n : ∀ kvs, o ≠ .dK kvs) : a ≠ d := fun z => by
  obtain ⟨cs, m, r, a1, _⟩ := h.ex
  rw [z, a1] at e
  exact n _ (Option.some.inj e).symm
theorem PenAt.neL {H : Hp} {d l a : Addr} {B : Nat} {xs : List V} (h : PenAt H d l B) (e : H a = some (.lst xs)) : a ≠ d := h.ne e fun _ z => by cases z
/-- the pen is not where nothing was -/
theorem PenAt.fresh {H : Hp} {d l a : Addr} {B : Nat} (h : PenAt H d l B) (e : H a = none) : a ≠ d ∧ a ≠ l := by
  obtain ⟨cs, m, r, a1, a2, _⟩ := h.ex
  refine ⟨fun z => ?_, fun z => ?_⟩
  · rw [z, a1] at e; cases e
  · rw [z, a2] at e; cases e
theorem PenAt.mut {H : Hp} {d l a : Addr} {B : Nat} {o : HO} (h : PenAt H d l B) (n : a ≠ d ∧ a ≠ l) : PenAt (upd H a o) d l B := by
  obtain ⟨cs, m, r, h1, h2, h3, h4, h5⟩ := h.ex
  exact ⟨cs, m, r, by rw [upd_ne (Ne.symm n.1)]; exact h1, by rw [upd_ne (Ne.symm n.2)]; exact h2, h3, h4, h5⟩
theorem Px.mutN {p a : Addr} {H H' : Hp} {o : HO} (s : Px p H H') (h : H a = none) : Px p H (L2.upd H' a o) := fun b u n e => by
  rw [upd_ne (ne_of_none e h)]
  exact s b u n e
theorem perm_erase {α : Type} : ∀ {xs : List α} {k : Nat} (h : k < xs.length), (xs[k] :: xs.eraseIdx k).Perm xs
  | x :: xs, 0, _ => List.Perm.refl _
  | x :: xs, k + 1, h => by
    rw [List.getElem_cons_succ, List.eraseIdx_cons_succ]
    exact (List.Perm.swap _ _ _).trans ((perm_erase (xs := xs) (k := k) (by simpa using h)).cons x)
section
variable {P : Program} {w : World} {K : PySem.W.Frag} {mg : Str → Option Value} {base : Heap}
def spPick : Sp := fun vs H Q _ => ∃ (d l a : Addr) (xs : List V) (B : Nat), vs = [.ref d, .ref a] ∧ PenAt H d l B ∧ H a = some (.lst xs) ∧ 1 ≤ xs.length ∧ xs.length ≤ 1000 ∧ B ≤ 1000000 ∧ ∀ (H' : Hp) (x : V), Px d H H' → PenAt H' d l (B + 1) → x ∈ xs → Q x H'
theorem ok_l_pick (T : Tx K mg) : Cal P w K mg base CX0 2 "_law_pick" ["_law_pen", "_law_items"] spPick := by
  have c_l_draw := ok_l_draw (P := P) (w := w) (base := base) T
  refine cal_of T.g_l_pick T.f_l_pick sc_l_pick (fun _ _ _ _ _ _ us hl => match us, hl with | [_, _], _ => rfl) (fun vs H Q E ⟨a, b, _, _, _, e, _⟩ => by rw [e]; rfl) (fun fd cdv A outer s H vs Q E hr h => ?_)
  obtain ⟨d, lc, a, xs, B, rfl, hp, ha, x1, x2, hB, q⟩ := h
  refine ⟨_, (pss_one (ps_ret (pe_ix ix_list (pv 1) (pe_cal c_l_draw (hr.mono (by decide)) rfl pass0 (pa_cons (pv 0) (pa_cons (pe_callB call_len_seq (by rfl) T.b_len (by decide +kernel) (pa_cons (pv 1) pa_nil)) pa_nil))) (fun _ _ => rfl)))), ?_⟩
  have nad := hp.neL ha
  refine ⟨_, rfl, _, rfl, _, rfl, a, _, rfl, .inl (seq_at ha), d, lc, _, B, rfl, hp, by omega, by omega, hB, fun H1 x px hp1 h0 h1 => ?_⟩
  obtain ⟨k, rfl⟩ : ∃ k : Nat, x = (k : Int) := ⟨x.toNat, by omega⟩
  have hk : k < xs.length := by omega
  have hx : xs[k]? = some xs[k] := List.getElem?_eq_getElem hk
  exact ⟨a, xs, _, _, rfl, rfl, seq_at (px _ _ nad ha), atI_nat hx, q H1 _ px hp1 (List.getElem_mem hk)⟩
/-! ### _law_shuffled -/
def spShuffled : Sp := fun vs H Q _ => ∃ (d l a : Addr) (xs : List V) (B : Nat), vs = [.ref d, .ref a] ∧ PenAt H d l B ∧ H a = some (.lst xs) ∧ xs.length ≤ 60 ∧ (∀ v ∈ xs, okV v = true) ∧ B ≤ 900000 ∧
  ∀ (H' : Hp) (r : Addr) (ys : List V), Px d H H' → PenAt H' d l (B + xs.length) → ys.Perm xs → H' r = some (.lst ys) → r ≠ d → Q (.ref r) H'
theorem seqIx {n k : Nat} (h : k < n) : seqIndex? (k : Int) n = some k := by
  have := (ixN_seq (ixN_nat h)).1
  exact this
theorem ok_l_shuffled (T : Tx K mg) : Cal P w K mg base CX0 2 "_law_shuffled" ["_law_pen", "_law_items"] spShuffled := by
  have c_l_draw := ok_l_draw (P := P) (w := w) (base := base) T
  refine cal_of T.g_l_shuffled T.f_l_shuffled sc_l_shuffled (fun _ _ _ _ _ _ us hl => match us, hl with | [_, _], _ => rfl) (fun vs H Q E ⟨a, b, _, _, _, e, _⟩ => by rw [e]; rfl) (fun fd cdv A outer s H vs Q E hr h => ?_)
  obtain ⟨d, lc, a, xs, B, rfl, hp, ha, x60, hok, hB, q⟩ := h
  refine ⟨_, (pss_cons (ps_par (i := 2) (j := 3) (by rfl) sc_l_shuffled.nd rfl rfl (by decide) rfl rfl (pa_cons (pe_callTy call_list_of (by rfl) T.b_list (by decide +kernel) (pa_cons (pv 1) pa_nil)) (pa_cons (pe_lst pa_nil) pa_nil)) (by rfl))
    (pss_cons (ps_while PassesOwn.never (pt_cmpR (op_neD hr.units) (pv 2) (pe_lst pa_nil) (nomark _))
      (pss_one (ps_expr (pe_bm PySem.F.plainAttrs_list PySem.F.slot_list_append PySem.F.type_list_append mt_append (pv 3) (pa_cons (pe_bm PySem.F.plainAttrs_list PySem.F.slot_list_pop PySem.F.type_list_pop mt_popAt (pv 2) (pa_cons (pe_cal c_l_draw (hr.mono (by decide)) rfl pass0 (pa_cons (pv 0) (pa_cons (pe_callB call_len_seq (by rfl) T.b_len (by decide +kernel) (pa_cons (pv 2) pa_nil)) pa_nil))) pa_nil)) pa_nil)))))
    (pss_one (ps_ret (pv 3))))), ?_⟩
  refine ⟨_, rfl, a, _, rfl, .inl (seq_at ha), fun l nl => ?_⟩
  refine ⟨Nat.zero_le _, fun f nf => ?_⟩
  have nlf : l ≠ f := fun e => by rw [← e, upd_same] at nf; cases nf
  have nf0 : H f = none := by rw [upd_ne nlf.symm] at nf; exact nf
  refine ⟨_, _, rfl, ?_⟩
  have nld := hp.fresh nl
  have nfd := hp.fresh nf0
  refine ⟨fun k σ H' => ∃ (us ys : List V), σ = [some (.ref d), some (.ref a), some (.ref l), some (.ref f)] ∧ k = us.length ∧ us.length + ys.length = xs.length ∧ (ys ++ us).Perm xs ∧ Px d H H' ∧ PenAt H' d lc (B + ys.length) ∧ H' l = some (.lst us) ∧ H' f = some (.lst ys),
    ⟨_, xs, [], rfl, rfl, by simp, List.Perm.refl _, (Px.of ((same_new nl).new nf)), (hp.same ((same_new nl).new nf)), by rw [upd_ne nlf, upd_same], upd_same⟩, ?_⟩
  rintro k σ H1 ⟨us, ys, rfl, rfl, hlen, hpm, px, hp1, hl, hf⟩
  have hoku : ∀ v ∈ us, okV v = true := fun v hv => hok v (hpm.mem_iff.mp (List.mem_append_right _ hv))
  refine ⟨_, rfl, Nat.zero_le _, fun e ne => ?_⟩
  have nel : l ≠ e := ne_of_none hl ne
  refine ⟨_, _, dp_lst hoku (seq_at (by rw [upd_ne nel]; exact hl)), dp_lst (xs := []) (fun v hv => by cases hv) (seq_at upd_same), sh_lst hoku, sh_lst (fun v hv => by cases hv), _, rfl, ?_⟩
  rw [eq_nil]
  have s1 : Same H1 (upd H1 e (.lst [])) := same_new ne
  revert s1
  generalize upd H1 e (.lst []) = H2
  intro s1
  have hp2 := hp1.same s1
  have hl2 := s1 _ _ hl
  have hf2 := s1 _ _ hf
  have px2 := px.trans (Px.of s1)
  cases us with
  | nil =>
    refine iteF ⟨_, rfl, ?_⟩
    rw [List.append_nil] at hpm
    exact q H2 f ys px2 (by rw [← hpm.length_eq]; exact hp2) hpm hf2 nfd.1
  | cons u0 us0 =>
    refine iteT ?_
    generalize hus : u0 :: us0 = us at *
    have lus : 1 ≤ us.length := by rw [← hus]; simp
    refine ⟨fun σ' H' => ∃ (us' ys' : List V), σ' = [some (.ref d), some (.ref a), some (.ref l), some (.ref f)] ∧ us'.length + 1 = us.length ∧ us'.length + ys'.length = xs.length ∧ (ys' ++ us').Perm xs ∧ Px d H H' ∧ PenAt H' d lc (B + ys'.length) ∧ H' l = some (.lst us') ∧ H' f = some (.lst ys'),
      fun σ' H' ⟨us', ys', e1, e2, e3⟩ => ⟨us'.length, by omega, us', ys', e1, rfl, e3⟩, ?_⟩
    refine ⟨_, rfl, .inl ⟨rfl, _, seq_at hf2⟩, _, rfl, .inl ⟨rfl, _, seq_at hl2⟩, _, rfl, _, rfl, l, _, rfl, .inl (seq_at hl2), d, lc, _, B + ys.length, rfl, hp2, by omega, by omega, by omega, fun H3 x px3 hp3 h0 h1 => ?_⟩
    obtain ⟨k, rfl⟩ : ∃ k : Nat, x = (k : Int) := ⟨x.toNat, by omega⟩
    have hk : k < us.length := by omega
    have hx : us[k]? = some us[k] := List.getElem?_eq_getElem hk
    have hl3 := px3 _ _ nld.1 hl2
    have hf3 := px3 _ _ nfd.1 hf2
    refine ⟨l, us, _, k, _, rfl, rfl, hl3, by omega, by omega, seqIx hk, hx, ?_⟩
    refine ⟨f, ys, _, rfl, rfl, by rw [upd_ne nlf.symm]; exact hf3, small1000 (by omega), ?_⟩
    refine ⟨us.eraseIdx k, ys ++ [us[k]], rfl, by rw [List.length_eraseIdx_of_lt hk]; omega, by rw [List.length_eraseIdx_of_lt hk, List.length_append, List.length_singleton]; omega, ?_, ?_, ?_, by rw [upd_ne nlf, upd_same], upd_same⟩
    · rw [List.append_assoc]
      refine List.Perm.trans (List.Perm.append_left ys ?_) hpm
      exact perm_erase hk
    · exact ((px2.trans px3).mutN nl).mutN nf0
    · rw [List.length_append, List.length_singleton]
      exact (hp3.mut nld).mut nfd
end
end K38


set_option Elab.async false
set_option linter.all false
set_option maxRecDepth 100000
set_option maxHeartbeats 4000000
/-! _law_some_code, _law_words, _law_code -/
namespace K38
open PySem PySem.Spec PyProof.Rows L2 M38
theorem Px.free {p a : Addr} {H H' : Hp} (s : Px p H H') (h : H' a = none) (n : a ≠ p) : H a = none := by
  cases e : H a with
  | none => rfl
  | some o =>
    rw [s a o n e] at h
    cases h
theorem okN (ls : List Nat) : ∀ v ∈ ls.map nI, okV v = true := fun v hv => by
  obtain ⟨n, hn, rfl⟩ := List.mem_map.mp hv
  rfl
/-- a rearrangement of values is one of what they stand for -/
theorem perm_map {α : Type} {f : α → V} : ∀ {ys : List V} {xs : List α}, ys.Perm (xs.map f) → ∃ zs : List α, ys = zs.map f ∧ zs.Perm xs := by
  intro ys xs h
  suffices ∀ {as bs : List V}, as.Perm bs → ∀ xs : List α, bs = xs.map f → ∃ zs : List α, as = zs.map f ∧ zs.Perm xs from this h xs rfl
  intro as bs hp
  induction hp with
  | nil =>
    intro xs e
    have : xs = [] := by simpa using e.symm
    exact ⟨[], rfl, by rw [this]⟩
  | @cons x l1 l2 p ih =>
    intro xs e
    cases xs with
    | nil => cases e
    | cons z zs =>
      rw [List.map_cons] at e
      obtain ⟨e1, e2⟩ := List.cons.inj e
      obtain ⟨us, h1, h2⟩ := ih zs e2
      exact ⟨z :: us, by rw [h1, e1]; rfl, h2.cons z⟩
  | swap x y l =>
    intro xs e
    match xs, e with
    | a :: b :: r, e =>
      rw [List.map_cons, List.map_cons] at e
      obtain ⟨e1, e2⟩ := List.cons.inj e
      obtain ⟨e3, e4⟩ := List.cons.inj e2
      exact ⟨b :: a :: r, by rw [e1, e3, e4]; rfl, List.Perm.swap _ _ _⟩
  | @trans l1 l2 l3 p1 p2 ih1 ih2 =>
    intro xs e
    obtain ⟨us, h1, h2⟩ := ih2 xs e
    obtain ⟨vs, h3, h4⟩ := ih1 us h1
    exact ⟨vs, h3, h4.trans h2⟩
/-- lengths grown by parting -/
structure Gr (us : List Nat) : Prop where
  full : ∃ D, Full D us
  len : ∀ u ∈ us, 1 ≤ u ∧ u + 1 ≤ us.length
  two : 2 ≤ us.length
theorem Gr.start : Gr [1, 1] := ⟨⟨1, by decide, by decide⟩, by decide, by decide⟩
theorem Gr.perm {us vs : List Nat} (h : Gr us) (p : us.Perm vs) : Gr vs := by
  obtain ⟨D, f⟩ := h.full
  exact ⟨⟨D, f.perm p⟩, fun u hu => by rw [← p.length_eq]; exact h.len u (p.mem_iff.mpr hu), by rw [← p.length_eq]; exact h.two⟩
theorem Gr.split {u : Nat} {r : List Nat} (h : Gr (u :: r)) : Gr ((u + 1) :: (u + 1) :: r) := by
  obtain ⟨D, f⟩ := h.full
  refine ⟨⟨D + 1, full_split f⟩, fun x hx => ?_, by have := h.two; simp only [List.length_cons] at *; omega⟩
  have l := h.len u (List.mem_cons_self ..)
  simp only [List.length_cons] at *
  rcases List.mem_cons.mp hx with e | hx
  · omega
  · rcases List.mem_cons.mp hx with e | hx
    · omega
    · have z := h.len x (List.mem_cons_of_mem _ hx)
      rw [List.length_cons] at z
      omega
theorem Gr.good {us : List Nat} (h : Gr us) (n : us.length ≤ 60) : GoodL us := ⟨h.full, fun u hu => by have := h.len u hu; omega, h.two, n⟩
section
variable {P : Program} {w : World} {K : PySem.W.Frag} {mg : Str → Option Value} {base : Heap}
def spSomeCode : Sp := fun vs H Q _ => ∃ (d l : Addr) (m B : Nat), vs = [.ref d, nI m] ∧ PenAt H d l B ∧ 2 ≤ m ∧ m ≤ 50 ∧ B ≤ 800000 ∧
  ∀ (H' : Hp) (r : Addr) (ls : List Nat), Px d H H' → PenAt H' d l (B + 200) → GoodL ls → ls.length = m → H' r = some (.lst (ls.map nI)) → r ≠ d → Q (.ref r) H'
theorem ok_l_some_code (T : Tx K mg) : Cal P w K mg base CX0 3 "_law_some_code" ["_law_pen", "_law_many"] spSomeCode := by
  have c_l_draw := ok_l_draw (P := P) (w := w) (base := base) T
  have c_l_shuffled := ok_l_shuffled (P := P) (w := w) (base := base) T
  refine cal_of T.g_l_some_code T.f_l_some_code sc_l_some_code (fun _ _ _ _ _ _ us hl => match us, hl with | [_, _], _ => rfl) (fun vs H Q E ⟨a, b, _, _, e, _⟩ => by rw [e]; rfl) (fun fd cdv A outer s H vs Q E hr h => ?_)
  obtain ⟨d, lc, m, B, rfl, hp, m2, m50, hB, q⟩ := h
  refine ⟨_, (pss_cons (ps_set (i := 2) sc_l_some_code.nd rfl (Or.inl rfl) (pe_lst (pa_cons pe_int (pa_cons pe_int pa_nil))))
    (pss_cons (ps_while PassesOwn.never (pt_cmpR op_lt (pe_callB call_len_seq (by rfl) T.b_len (by decide +kernel) (pa_cons (pv 2) pa_nil)) (pv 1) (nomark _))
      (pss_cons (ps_set (i := 3) sc_l_some_code.nd rfl (Or.inl rfl) (pe_cal c_l_draw (hr.mono (by decide)) rfl pass0 (pa_cons (pv 0) (pa_cons (pe_callB call_len_seq (by rfl) T.b_len (by decide +kernel) (pa_cons (pv 2) pa_nil)) pa_nil))))
      (pss_one (ps_set (i := 2) sc_l_some_code.nd rfl (Or.inl rfl) (pe_op op_cat (pe_op op_cat (pe_slice sl_list (pv 2) po_none (po_some (pv 3))) (pe_lst (pa_cons (pe_op op_add (pe_ix ix_list (pv 2) (pv 3) (fun _ _ => rfl)) pe_int) (pa_cons (pe_op op_add (pe_ix ix_list (pv 2) (pv 3) (fun _ _ => rfl)) pe_int) pa_nil)))) (pe_slice sl_list (pv 2) (po_some (pe_op op_add (pv 3) pe_int)) po_none))))))
    (pss_one (ps_ret (pe_cal c_l_shuffled (hr.mono (by decide)) rfl pass0 (pa_cons (pv 0) (pa_cons (pv 2) pa_nil))))))), ?_⟩
  refine ⟨(by show 2 ≤ sizeLine; decide), fun p np => ?_⟩
  refine ⟨fun k σ H' => ∃ (x : Addr) (us : List Nat) (v3 : Option V), σ = [some (.ref d), some (nI m), some (.ref x), v3] ∧ k = m - us.length ∧ us.length ≤ m ∧ Gr us ∧ Px d H H' ∧ PenAt H' d lc (B + us.length) ∧ H' x = some (.lst (us.map nI)),
    ⟨_, p, [1, 1], none, rfl, rfl, m2, Gr.start, Px.of (same_new np), (hp.same (same_new np)).mono (by omega), upd_same⟩, ?_⟩
  rintro k σ H1 ⟨x, us, v3, rfl, rfl, hum, hG, px, hp1, hx⟩
  refine ⟨_, rfl, x, _, rfl, .inl (seq_at hx), _, rfl, _, _, rfl, rfl, _, rfl, ?_⟩
  rw [List.length_map]
  by_cases hlt : us.length < m
  · rw [decide_eq_true (show (us.length : Int) < (m : Int) by omega)]
    refine iteT ⟨fun σ' H' => ∃ (x : Addr) (us' : List Nat) (v3 : Option V), σ' = [some (.ref d), some (nI m), some (.ref x), v3] ∧ us'.length = us.length + 1 ∧ Gr us' ∧ Px d H H' ∧ PenAt H' d lc (B + us'.length) ∧ H' x = some (.lst (us'.map nI)),
      fun σ' H' ⟨x', us', v3', e1, e2, e3⟩ => ⟨m - us'.length, by omega, x', us', v3', e1, rfl, by omega, e3⟩, ?_⟩
    refine ⟨_, rfl, _, rfl, x, _, rfl, .inl (seq_at hx), d, lc, _, B + us.length, rfl, hp1, by rw [List.length_map]; have := hG.two; omega, by rw [List.length_map]; omega, by omega, fun H2 z px2 hp2 z0 z1 => ?_⟩
    rw [List.length_map] at z1
    obtain ⟨k, rfl⟩ : ∃ k : Nat, z = (k : Int) := ⟨z.toNat, by omega⟩
    have hk : k < us.length := by omega
    have hxk : us[k]? = some us[k] := List.getElem?_eq_getElem hk
    have nxd := hp1.neL hx
    have hx2 := px2 _ _ nxd hx
    have hix : atI (us.map nI) (k : Int) = some (nI us[k]) := atI_nat (by rw [List.getElem?_map, hxk]; rfl)
    refine ⟨_, rfl, _, rfl, _, rfl, x, _, rfl, seq_at hx2, fun p1 n1 => ?_⟩
    rw [cut_to, ← List.map_take]
    have nxp1 : x ≠ p1 := ne_of_none hx2 n1
    have hx3 : upd H2 p1 (.lst ((us.take k).map nI)) x = some (.lst (us.map nI)) := by rw [upd_ne nxp1]; exact hx2
    refine ⟨_, rfl, _, rfl, x, _, _, _, rfl, rfl, seq_at hx3, hix, _, _, rfl, rfl, _, rfl, _, rfl, x, _, _, _, rfl, rfl, seq_at hx3, hix, _, _, rfl, rfl, (by show 2 ≤ sizeLine; decide), fun p2 n2 => ?_⟩
    have n12 : p1 ≠ p2 := ne_of_none upd_same n2
    refine ⟨p1, p2, _, _, rfl, rfl, by rw [upd_ne n12, upd_same], upd_same, line_of (by rw [List.length_map, List.length_take]; show _ + 2 ≤ 1000; omega), fun p3 n3 => ?_⟩
    have nxp2 : x ≠ p2 := ne_of_none hx3 n2
    have nxp3 : x ≠ p3 := ne_of_none (by rw [upd_ne nxp2]; exact hx3) n3
    refine ⟨_, rfl, _, rfl, _, _, rfl, rfl, _, rfl, x, _, rfl, seq_at (by rw [upd_ne nxp3, upd_ne nxp2]; exact hx3), fun p4 n4 => ?_⟩
    have n34 : p3 ≠ p4 := ne_of_none upd_same n4
    have cf : cutV (us.map nI) (some ((k : Int) + 1)) none = (us.drop (k + 1)).map nI := by
      rw [show ((k : Int) + 1) = ((k + 1 : Nat) : Int) from rfl, cut_from, List.map_drop]
    refine ⟨p3, p4, _, _, rfl, rfl, by rw [upd_ne n34, upd_same], upd_same, line_of ?_, fun p5 n5 => ?_⟩
    · rw [List.length_append, List.length_map, List.length_take]
      have := cutV_length (us.map nI) (some ((k : Int) + 1)) none
      rw [List.length_map] at this
      show _ + 2 + _ ≤ 1000
      exact Nat.le_trans (Nat.add_le_add_left this _) (by omega)
    refine ⟨p5, us.take k ++ [us[k] + 1, us[k] + 1] ++ us.drop (k + 1), _, rfl, ?_, ?_, ?_, ?_, ?_⟩
    · rw [List.length_append, List.length_append, List.length_take, List.length_drop]
      show min k us.length + 2 + _ = _
      omega
    · have e1 : us.Perm (us[k] :: us.eraseIdx k) := (perm_erase hk).symm
      refine ((hG.perm e1).split).perm ?_
      rw [List.eraseIdx_eq_take_drop_succ, List.append_assoc]
      exact (List.perm_middle (a := us[k] + 1) (l₁ := us.take k) (l₂ := (us[k] + 1) :: us.drop (k + 1))).symm.trans (List.Perm.refl _) |> fun p => ((List.perm_middle (a := us[k] + 1) (l₁ := us.take k) (l₂ := us.drop (k + 1))).symm.cons _).trans p
    · exact ((px.trans px2).trans (Px.of (((((same_new n1).new n2).new n3).new n4).new n5)))
    · rw [List.length_append, List.length_append, List.length_take, List.length_drop]
      exact (hp2.same (((((same_new n1).new n2).new n3).new n4).new n5)).mono (by show _ ≤ B + (min k us.length + 2 + _); omega)
    · rw [upd_same]
      show some (HO.lst ((us.take k).map nI ++ _ ++ cutV (us.map nI) (some ((k : Int) + 1)) none)) = _
      rw [cf, List.map_append, List.map_append]
      rfl
  · rw [decide_eq_false (show ¬ (us.length : Int) < (m : Int) by omega)]
    have em : us.length = m := by omega
    refine iteF ⟨_, rfl, _, rfl, d, lc, x, _, B + us.length, rfl, hp1, hx, by rw [List.length_map]; omega, okN us, by omega, fun H2 r ys px2 hp2 pm hr nr => ?_⟩
    obtain ⟨zs, rfl, pz⟩ := perm_map pm
    rw [List.length_map] at hp2
    exact q H2 r zs (px.trans px2) (hp2.mono (by omega)) ((hG.perm pz.symm).good (by rw [pz.length_eq]; omega)) (by rw [pz.length_eq]; exact em) hr nr
end
end K38


set_option Elab.async false
set_option linter.all false
set_option maxRecDepth 100000
set_option maxHeartbeats 4000000
/-! _law_words, _law_code, _law_cost, _law_least -/
namespace K38
open PySem PySem.Spec PyProof.Rows L2 M38
section
variable {P : Program} {w : World} {K : PySem.W.Frag} {mg : Str → Option Value} {base : Heap}
def spLWords : Sp := fun vs H Q _ => ∃ (d l : Addr) (m B : Nat), vs = [.ref d, nI m] ∧ PenAt H d l B ∧ 2 ≤ m ∧ m ≤ 50 ∧ B ≤ 800000 ∧
  ∀ (H' : Hp) (r : Addr) (ws : List Str), Px d H H' → PenAt H' d l (B + 200) → Wd ws → ws.length = m → H' r = some (.lst (ws.map V.str)) → r ≠ d → Q (.ref r) H'
theorem ok_l_words (T : Tx K mg) : Cal P w K mg base CX0 3 "_law_words" ["_law_pen", "_law_many"] spLWords := by
  have c_l_draw := ok_l_draw (P := P) (w := w) (base := base) T
  have c_l_shuffled := ok_l_shuffled (P := P) (w := w) (base := base) T
  refine cal_of T.g_l_words T.f_l_words sc_l_words (fun _ _ _ _ _ _ us hl => match us, hl with | [_, _], _ => rfl) (fun vs H Q E ⟨a, b, _, _, e, _⟩ => by rw [e]; rfl) (fun fd cdv A outer s H vs Q E hr h => ?_)
  obtain ⟨d, lc, m, B, rfl, hp, m2, m50, hB, q⟩ := h
  refine ⟨_, (pss_cons (ps_set (i := 2) sc_l_words.nd rfl (Or.inl rfl) (pe_lst (pa_cons pe_str (pa_cons pe_str pa_nil))))
    (pss_cons (ps_while PassesOwn.never (pt_cmpR op_lt (pe_callB call_len_seq (by rfl) T.b_len (by decide +kernel) (pa_cons (pv 2) pa_nil)) (pv 1) (nomark _))
      (pss_cons (ps_set (i := 3) sc_l_words.nd rfl (Or.inl rfl) (pe_bm PySem.F.plainAttrs_list PySem.F.slot_list_pop PySem.F.type_list_pop mt_popAt (pv 2) (pa_cons (pe_cal c_l_draw (hr.mono (by decide)) rfl pass0 (pa_cons (pv 0) (pa_cons (pe_callB call_len_seq (by rfl) T.b_len (by decide +kernel) (pa_cons (pv 2) pa_nil)) pa_nil))) pa_nil)))
      (pss_one (ps_set (i := 2) sc_l_words.nd rfl (Or.inl rfl) (pe_op op_cat (pv 2) (pe_lst (pa_cons (pe_op op_add_str (pv 3) pe_str) (pa_cons (pe_op op_add_str (pv 3) pe_str) pa_nil))))))))
    (pss_one (ps_ret (pe_cal c_l_shuffled (hr.mono (by decide)) rfl pass0 (pa_cons (pv 0) (pa_cons (pv 2) pa_nil))))))), ?_⟩
  refine ⟨(by show 2 ≤ sizeLine; decide), fun p np => ?_⟩
  refine ⟨fun k σ H' => ∃ (x : Addr) (us : List Str) (v3 : Option V), σ = [some (.ref d), some (nI m), some (.ref x), v3] ∧ k = m - us.length ∧ us.length ≤ m ∧ Wd us ∧ Px d H H' ∧ PenAt H' d lc (B + us.length) ∧ H' x = some (.lst (us.map V.str)) ∧ H x = none,
    ⟨_, p, [s0, s1], none, rfl, rfl, m2, Wd.start, Px.of (same_new np), (hp.same (same_new np)).mono (by omega), upd_same, np⟩, ?_⟩
  rintro k σ H1 ⟨x, us, v3, rfl, rfl, hum, hG, px, hp1, hx, nx⟩
  refine ⟨_, rfl, x, _, rfl, .inl (seq_at hx), _, rfl, _, _, rfl, rfl, _, rfl, ?_⟩
  rw [List.length_map]
  by_cases hlt : us.length < m
  · rw [decide_eq_true (show (us.length : Int) < (m : Int) by omega)]
    refine iteT ⟨fun σ' H' => ∃ (x : Addr) (us' : List Str) (v3 : Option V), σ' = [some (.ref d), some (nI m), some (.ref x), v3] ∧ us'.length = us.length + 1 ∧ Wd us' ∧ Px d H H' ∧ PenAt H' d lc (B + us'.length) ∧ H' x = some (.lst (us'.map V.str)) ∧ H x = none,
      fun σ' H' ⟨x', us', v3', e1, e2, e3⟩ => ⟨m - us'.length, by omega, x', us', v3', e1, rfl, by omega, e3⟩, ?_⟩
    refine ⟨_, rfl, .inl ⟨rfl, _, seq_at hx⟩, _, rfl, _, rfl, x, _, rfl, .inl (seq_at hx), d, lc, _, B + us.length, rfl, hp1, by rw [List.length_map]; have := hG.two; omega, by rw [List.length_map]; omega, by omega, fun H2 z px2 hp2 z0 z1 => ?_⟩
    rw [List.length_map] at z1
    obtain ⟨k, rfl⟩ : ∃ k : Nat, z = (k : Int) := ⟨z.toNat, by omega⟩
    have hk : k < us.length := by omega
    have hxk : us[k]? = some us[k] := List.getElem?_eq_getElem hk
    have nxd := hp.fresh nx
    have hx2 := px2 _ _ nxd.1 hx
    refine ⟨x, us.map V.str, _, k, _, rfl, rfl, hx2, by omega, by omega, seqIx (by rw [List.length_map]; exact hk), mapS hxk, ?_⟩
    have hwl := hG.len us[k] (List.getElem_mem hk)
    have e0 : (us.map V.str).eraseIdx k = (us.eraseIdx k).map V.str := by rw [List.eraseIdx_eq_take_drop_succ, List.eraseIdx_eq_take_drop_succ, List.map_append, List.map_take, List.map_drop]
    rw [e0]
    have px3 : Px d H (upd H2 x (.lst ((us.eraseIdx k).map V.str))) := (px.trans px2).mutN nx
    have hp3 : PenAt (upd H2 x (.lst ((us.eraseIdx k).map V.str))) d lc (B + us.length + 1) := hp2.mut nxd
    have hx3 : upd H2 x (.lst ((us.eraseIdx k).map V.str)) x = some (.lst ((us.eraseIdx k).map V.str)) := upd_same
    revert px3 hp3 hx3
    generalize upd H2 x (.lst ((us.eraseIdx k).map V.str)) = H3
    intro px3 hp3 hx3
    have le : (us.eraseIdx k).length + 1 = us.length := by rw [List.length_eraseIdx_of_lt hk]; omega
    refine ⟨_, rfl, _, rfl, _, _, rfl, rfl, line_of (by rw [show ("0" : Str).length = 1 from len0]; omega), _, rfl, _, _, rfl, rfl, line_of (by rw [show ("1" : Str).length = 1 from len1]; omega), (by show 2 ≤ sizeLine; decide), fun p2 n2 => ?_⟩
    have nx2 : x ≠ p2 := ne_of_none hx3 n2
    refine ⟨x, p2, _, _, rfl, rfl, by rw [upd_ne nx2]; exact hx3, upd_same, line_of (by rw [List.length_map]; show _ + 2 ≤ 1000; omega), fun p5 n5 => ?_⟩
    have n5' : H3 p5 = none := by
      have : p5 ≠ p2 := fun e => by rw [e, upd_same] at n5; cases n5
      rw [upd_ne this] at n5
      exact n5
    refine ⟨p5, us.eraseIdx k ++ [us[k] ++ s0, us[k] ++ s1], _, rfl, ?_, ?_, px3.trans (Px.of ((same_new n2).new n5)), ?_, ?_, px3.free n5' (hp3.fresh n5').1⟩
    · rw [List.length_append]
      show _ + 2 = _
      omega
    · exact ((hG.perm (perm_erase hk).symm).split).perm ((List.perm_append_comm (l₁ := [us[k] ++ s0, us[k] ++ s1]) (l₂ := us.eraseIdx k)))
    · rw [List.length_append]
      exact (hp3.same ((same_new n2).new n5)).mono (by show _ ≤ B + (_ + 2); omega)
    · rw [upd_same, List.map_append]
      rfl
  · rw [decide_eq_false (show ¬ (us.length : Int) < (m : Int) by omega)]
    have em : us.length = m := by omega
    refine iteF ⟨_, rfl, _, rfl, d, lc, x, _, B + us.length, rfl, hp1, hx, by rw [List.length_map]; omega, bws_ok hG.bits, by omega, fun H2 r ys px2 hp2 pm hr nr => ?_⟩
    obtain ⟨zs, rfl, pz⟩ := perm_map pm
    rw [List.length_map] at hp2
    exact q H2 r zs (px.trans px2) (hp2.mono (by omega)) (hG.perm pz.symm) (by rw [pz.length_eq]; exact em) hr nr
/-! ### _law_code -/
theorem ok_l_code (T : Tx K mg) : Cal P w K mg base CX0 5 "_law_code" ["_law_words_here"] (spCodeOf K) := by
  have c_Code2 := mk_code2 (P := P) (w := w) (base := base) T
  refine cal_of T.g_l_code T.f_l_code sc_l_code (fun _ _ _ _ _ _ us hl => match us, hl with | [_], _ => rfl) (fun vs H Q E ⟨a, b, e, _⟩ => by rw [e]; rfl) (fun fd cdv A outer s H vs Q E hr h => ?_)
  obtain ⟨a, ws, rfl, hA, hW, hn, q⟩ := h
  refine ⟨_, (pss_one (ps_ret (C8.pe_mk c_Code2 hr (by decide) rfl (pa_cons (pe_lc (own := [("_law_word", 1)]) (g := gName 1) (tt := tYes) rfl sc_l_code.nd (pi_list (pv 0)) (blkOk_by (own := [("_law_word", 1)]) (N := n_l_code) (sc := defScope s_l_code) (by decide +kernel)) (fun _ _ _ _ _ => (pg_name (i := 1) sc_l_code.nd rfl (Or.inl rfl))) (fun _ _ _ _ _ => pts_nil) (fun _ _ _ _ _ => (pe_callB call_len_str (by rfl) T.b_len (by decide +kernel) (pa_cons (pv 1) pa_nil)))) (pa_cons (pv 0) pa_nil))))), ?_⟩
  refine ⟨_, rfl, a, rfl, ⟨_, seq_at hA⟩, fun D nD => ?_⟩
  refine lc_it walk_list (fun i H' => Same H H' ∧ H' D = some (.lst (((ws.take i).map Str.length).map nI))) ⟨same_new nD, by rw [upd_same]; rfl⟩ (fun i H' _ s => seq_at (s.1 _ _ hA)) ?_ ?_
  · rintro i y H2 H3 hi ⟨s2, hD⟩ ⟨rfl, hv⟩
    obtain ⟨z, hz, rfl⟩ := getS hv
    rw [List.length_map] at hi
    refine ⟨rfl, yesI ⟨_, rfl, z, rfl, ?_, ?_⟩⟩
    · have := hW.len z (List.mem_of_getElem? hz)
      exact line_of (by omega)
    · refine ⟨_, hD, by simp only [List.length_map, List.length_take]; exact small1000 (by omega), s2.mut nD, ?_⟩
      rw [upd_same, List.take_add_one, hz, List.map_append, List.map_append]
      rfl
  · rintro H2 ⟨s2, hD⟩
    rw [List.length_map, List.take_length] at hD
    refine ⟨_, rfl, ?_⟩
    refine use_code (some ws) hD (by rw [List.length_map]; exact hW.two) (by rw [List.length_map]; exact hn) hW.full ?_ (.inr ⟨a, ws, rfl, rfl, s2 _ _ hA, rfl, hW.bits, hW.pf⟩) fun H' x us s3 hc hl ht => ?_
    · intro l hl
      obtain ⟨z, hz, rfl⟩ := List.mem_map.mp hl
      have := hW.len z hz
      omega
    · rw [ht ws rfl] at hc
      exact q H' x (s2.trans s3) hc
/-! ### _law_cost -/
def spLCost (K : PySem.W.Frag) : Sp := fun vs H Q _ => ∃ (a b : Addr) (k : Bool) (ls : List Nat) (ns : List Int), vs = [.ref a, .ref b] ∧ SqK K k H a (ls.map nI) ∧ H b = some (.lst (ns.map V.int)) ∧ (∀ l ∈ ls, l ≤ 60) ∧ ls.length ≤ 60 ∧ ∀ H', Same H H' → Q (.int (costP (ns.zip ls))) H'
theorem ok_l_cost (T : Tx K mg) : Cal P w K mg base CX0 1 "_law_cost" ["_law_lengths", "_law_counts"] (spLCost K) := by
  refine cal_of T.g_l_cost T.f_l_cost sc_l_cost (fun _ _ _ _ _ _ us hl => match us, hl with | [_, _], _ => rfl) (fun vs H Q E ⟨a, b, _, _, _, e, _⟩ => by rw [e]; rfl) (fun fd cdv A outer s H vs Q E hr h => ?_)
  obtain ⟨a, b, k, ls, ns, rfl, ha, hb, h60, hn, q⟩ := h
  refine ⟨_, (pss_one (ps_ret (pe_callB (cr_sum rfl) (by rfl) T.b_sum (by decide +kernel) (pa_cons (pe_lc (own := [("_law_length", 2), ("_law_count", 3)]) (g := gTup K 2 (gCons (gName 2) (gCons (gName 3) gNil))) (tt := tYes) rfl sc_l_cost.nd (pi_zipM rfl T.b_zip (pa_cons (pv 0) (pa_cons (pv 1) pa_nil))) (blkOk_by (own := [("_law_length", 2), ("_law_count", 3)]) (N := n_l_cost) (sc := defScope s_l_cost) (by decide +kernel)) (fun _ _ _ _ _ => (pg_tup rfl (pgs_cons (pg_name (i := 2) sc_l_cost.nd rfl (Or.inl rfl)) (pgs_cons (pg_name (i := 3) sc_l_cost.nd rfl (Or.inl rfl)) pgs_nil)))) (fun _ _ _ _ _ => pts_nil) (fun _ _ _ _ _ => (pe_op op_mul (pv 2) (pv 3)))) pa_nil)))), ?_⟩
  refine ⟨_, rfl, _, rfl, k, true, a, b, _, _, rfl, ha, seq_at hb, fun D nD => ?_⟩
  refine lc_it (walk_zipM rfl) (fun i H' => Same H H' ∧ H' D = some (.lst ((((ns.zip ls).take i).map fun p => p.1 * (p.2 : Int)).map V.int))) ⟨same_new nD, by rw [upd_same]; rfl⟩
    (fun i H' _ q => ⟨ha.same q.1, seq_at (q.1 _ _ hb)⟩) ?_ ?_
  · rintro i x H5 H6 hi ⟨s5, hD⟩ ⟨t, u, v, rfl, nt, rfl, hu, hv⟩
    obtain ⟨l, hl, rfl⟩ := getN hu
    obtain ⟨n, hn1, rfl⟩ := getI hv
    have nDt : D ≠ t := ne_of_none hD nt
    have l60 := h60 l (List.mem_of_getElem? hl)
    have hz : (ns.zip ls)[i]? = some (n, l) := List.getElem?_zip_eq_some.mpr ⟨hn1, hl⟩
    refine ⟨t, _, rfl, tup_at upd_same, rfl, _, _, rfl, _, _, rfl, rfl, rfl, yesI ⟨_, rfl, _, rfl, _, _, rfl, rfl, .inl ⟨by omega, by omega⟩, ?_⟩⟩
    refine ⟨_, by rw [upd_ne nDt]; exact hD, ?_, (s5.new nt).mut nD, ?_⟩
    · have : min (List.map nI ls).length (List.map V.int ns).length ≤ 60 := by rw [List.length_map, List.length_map]; omega
      rw [List.length_map, List.length_map, List.length_take]
      exact small1000 (by omega)
    · rw [upd_same, List.take_add_one, hz, List.map_append, List.map_append]
      show _ = some (HO.lst (_ ++ [V.int (n * (l : Int))]))
      rw [Int.mul_comm]
  · rintro H5 ⟨s5, hD⟩
    rw [List.length_map, List.length_map, show (ns.zip ls).take (min ls.length ns.length) = ns.zip ls from List.take_of_length_le (by rw [List.length_zip]; omega)] at hD
    exact ⟨D, _, rfl, seq_at hD, q H5 s5⟩
/-! ### _law_least -/
theorem joins_step {x y : Int} {r ws : List Int} (h : Joins (x :: y :: r) ws) (h1 : x ≤ y) (h2 : ∀ z ∈ r, y ≤ z) : ∃ vs, Joins ((x + y) :: r) vs ∧ ws = (x + y) :: vs := by
  obtain ⟨vs, j⟩ := joins_exist _ ((x + y) :: r) rfl
  exact ⟨vs, j, h.unique (.step (List.Perm.refl _) h1 h2 j) (List.Perm.refl _)⟩
def spLLeast : Sp := fun vs H Q _ => ∃ (a : Addr) (ns : List Int), vs = [.ref a] ∧ H a = some (.lst (ns.map V.int)) ∧ ns.length ≤ 60 ∧ ∀ H', Same H H' → Q (.int (L ns)) H'
theorem ok_l_least (T : Tx K mg) : Cal P w K mg base CX0 1 "_law_least" ["_law_counts"] spLLeast := by
  refine cal_of T.g_l_least T.f_l_least sc_l_least (fun _ _ _ _ _ _ us hl => match us, hl with | [_], _ => rfl) (fun vs H Q E ⟨a, b, e, _⟩ => by rw [e]; rfl) (fun fd cdv A outer s H vs Q E hr h => ?_)
  obtain ⟨a, ns, rfl, hA, hn, q⟩ := h
  refine ⟨_, (pss_cons (ps_par (i := 1) (j := 2) (by rfl) sc_l_least.nd rfl rfl (by decide) rfl rfl (pa_cons (pe_callB cr_sorted (by rfl) T.b_sorted (by decide +kernel) (pa_cons (pv 0) pa_nil)) (pa_cons pe_int pa_nil)) (by rfl))
    (pss_cons (ps_while PassesOwn.never (pt_cmpR op_gt (pe_callB call_len_seq (by rfl) T.b_len (by decide +kernel) (pa_cons (pv 1) pa_nil)) pe_int (nomark _))
      (pss_cons (ps_set (i := 3) sc_l_least.nd rfl (Or.inl rfl) (pe_op op_add (pe_ix ix_list (pv 1) pe_int (fun _ _ => rfl)) (pe_ix ix_list (pv 1) pe_int (fun _ _ => rfl))))
      (pss_cons (ps_set (i := 1) sc_l_least.nd rfl (Or.inl rfl) (pe_callB cr_sorted (by rfl) T.b_sorted (by decide +kernel) (pa_cons (pe_op op_cat (pe_slice sl_list (pv 1) (po_some pe_int) po_none) (pe_lst (pa_cons (pv 3) pa_nil))) pa_nil)))
      (pss_one (ps_set (i := 2) sc_l_least.nd rfl (Or.inl rfl) (pe_op op_add (pv 2) (pv 3)))))))
    (pss_one (ps_ret (pv 2))))), ?_⟩
  obtain ⟨ws0, j0, e0⟩ := L_lst ns
  refine ⟨_, rfl, a, ns, rfl, seq_at hA, by omega, fun xs0 p pm0 so0 np => ?_⟩
  refine ⟨_, _, rfl, ?_⟩
  refine ⟨fun k σ H' => ∃ (x : Addr) (xs : List Int) (tot : Int) (ws : List Int) (v3 : Option V), σ = [some (.ref a), some (.ref x), some (.int tot), v3] ∧ k = xs.length ∧ xs.length ≤ 60 ∧ xs.Pairwise (· ≤ ·) ∧ Joins xs ws ∧ tot + ws.sum = L ns ∧ Same H H' ∧ H' x = some (.lst (xs.map V.int)),
    ⟨_, p, xs0, 0, ws0, none, rfl, rfl, by rw [pm0.length_eq]; exact hn, so0, j0.perm pm0.symm, by rw [Int.zero_add]; exact e0.symm, same_new np, upd_same⟩, ?_⟩
  rintro k σ H1 ⟨x, xs, tot, ws, v3, rfl, rfl, h60, so, jj, es, s1, hx⟩
  refine ⟨_, rfl, x, _, rfl, .inl (seq_at hx), _, _, rfl, rfl, _, rfl, ?_⟩
  rw [List.length_map]
  match xs, so, jj, hx with
  | [], so, jj, hx =>
    cases jj with
    | done _ =>
      rw [List.sum_nil, Int.add_zero] at es
      refine iteF ⟨_, rfl, ?_⟩
      rw [es]
      exact q H1 s1
    | step p _ _ _ => exact absurd p.length_eq (by simp)
  | [y], so, jj, hx =>
    cases jj with
    | done _ =>
      rw [List.sum_nil, Int.add_zero] at es
      refine iteF ⟨_, rfl, ?_⟩
      rw [es]
      exact q H1 s1
    | step p _ _ _ => exact absurd p.length_eq (by simp)
  | y :: z :: r, so, jj, hx =>
    rw [decide_eq_true (show (1 : Int) < ((y :: z :: r).length : Int) by simp only [List.length_cons]; omega)]
    rw [List.pairwise_cons] at so
    obtain ⟨so1, so2⟩ := so
    rw [List.pairwise_cons] at so2
    obtain ⟨vs, j2, ew⟩ := joins_step jj (so1 z (List.mem_cons_self ..)) so2.1
    refine iteT ⟨fun σ' H' => ∃ (x : Addr) (xs : List Int) (tot : Int) (ws : List Int) (v3 : Option V), σ' = [some (.ref a), some (.ref x), some (.int tot), v3] ∧ xs.length = r.length + 1 ∧ xs.length ≤ 60 ∧ xs.Pairwise (· ≤ ·) ∧ Joins xs ws ∧ tot + ws.sum = L ns ∧ Same H H' ∧ H' x = some (.lst (xs.map V.int)),
      fun σ' H' ⟨x', xs', tot', ws', v3', e1, e2, e3⟩ => ⟨xs'.length, by simp only [List.length_cons]; omega, x', xs', tot', ws', v3', e1, rfl, e3⟩, ?_⟩
    refine ⟨_, rfl, x, _, _, _, rfl, rfl, seq_at hx, atI_nat (j := 0) rfl, _, rfl, x, _, _, _, rfl, rfl, seq_at hx, atI_nat (j := 1) rfl, _, _, rfl, rfl, ?_⟩
    refine ⟨_, rfl, _, rfl, x, _, rfl, seq_at hx, fun p1 n1 => ?_⟩
    have cf : cutV ((y :: z :: r).map V.int) (some 2) none = r.map V.int := by
      rw [show (some (2 : Int)) = some ((2 : Nat) : Int) from rfl, cut_from]
      rfl
    rw [cf]
    refine ⟨_, rfl, (by show 1 ≤ sizeLine; decide), fun p2 n2 => ?_⟩
    have n12 : p1 ≠ p2 := ne_of_none upd_same n2
    have lr : r.length ≤ 58 := by simp only [List.length_cons] at h60; omega
    refine ⟨p1, p2, _, _, rfl, rfl, by rw [upd_ne n12, upd_same], upd_same, line_of (by rw [List.length_map]; show _ + 1 ≤ 1000; omega), fun p3 n3 => ?_⟩
    refine ⟨p3, r ++ [y + z], rfl, seq_at (by rw [upd_same, List.map_append]; rfl), by rw [List.length_append]; show _ + 1 < 64; omega, fun ys p4 pm so4 n4 => ?_⟩
    refine ⟨_, rfl, _, rfl, _, _, rfl, rfl, p4, ys, _, vs, _, rfl, by rw [pm.length_eq, List.length_append]; rfl, by rw [pm.length_eq, List.length_append]; show _ + 1 ≤ 60; omega, so4, j2.perm (List.perm_append_comm (l₁ := [y + z]) (l₂ := r) |>.trans pm.symm), ?_, s1.trans ((((same_new n1).new n2).new n3).new n4), upd_same⟩
    rw [ew, List.sum_cons] at es
    rw [← es]
    omega
end
end K38


set_option Elab.async false
set_option linter.all false
set_option maxRecDepth 100000
set_option maxHeartbeats 4000000
/-! _law_some_counts -/
namespace K38
open PySem PySem.Spec PyProof.Rows L2 M38
section
variable {P : Program} {w : World} {K : PySem.W.Frag} {mg : Str → Option Value} {base : Heap}
def spSomeCounts : Sp := fun vs H Q _ => ∃ (d l : Addr) (m B : Nat), vs = [.ref d, nI m] ∧ PenAt H d l B ∧ 1 ≤ m ∧ m ≤ 50 ∧ B ≤ 800000 ∧
  ∀ (H' : Hp) (r : Addr) (ns : List Int), Px d H H' → PenAt H' d l (B + 200) → ns.length = m → (∀ n ∈ ns, 0 ≤ n) → H' r = some (.lst (ns.map V.int)) → r ≠ d → Q (.ref r) H'
theorem ok_l_some_counts (T : Tx K mg) : Cal P w K mg base CX0 3 "_law_some_counts" ["_law_pen", "_law_many"] spSomeCounts := by
  have c_l_draw := ok_l_draw (P := P) (w := w) (base := base) T
  have c_l_pick := ok_l_pick (P := P) (w := w) (base := base) T
  refine cal_of T.g_l_some_counts T.f_l_some_counts sc_l_some_counts (fun _ _ _ _ _ _ us hl => match us, hl with | [_, _], _ => rfl) (fun vs H Q E ⟨a, b, _, _, e, _⟩ => by rw [e]; rfl) (fun fd cdv A outer s H vs Q E hr h => ?_)
  obtain ⟨d, lc, m, B, rfl, hp, m1, m50, hB, q⟩ := h
  refine ⟨_, (pss_cons (ps_set (i := 2) sc_l_some_counts.nd rfl (Or.inl rfl) (pe_cal c_l_draw (hr.mono (by decide)) rfl pass0 (pa_cons (pv 0) (pa_cons pe_int pa_nil))))
    (pss_cons (ps_if (pt_cmpR op_eq (pv 2) pe_int (nomark _))
      (pss_one (ps_ret (pe_lc (own := [("_law_sign", 3)]) (g := gName 3) (tt := tYes) rfl sc_l_some_counts.nd (pi_range1 rfl T.b_range (pa_cons (pv 1) pa_nil)) (blkOk_by (own := [("_law_sign", 3)]) (N := n_l_some_counts) (sc := defScope s_l_some_counts) (by decide +kernel)) (fun _ _ _ _ _ => (pg_name (i := 3) sc_l_some_counts.nd rfl (Or.inl rfl))) (fun _ _ _ _ _ => pts_nil) (fun _ _ _ _ _ => (pe_cal c_l_draw (hr.mono (by decide)) rfl pass0 (pa_cons (pv 0) (pa_cons pe_int pa_nil)))))))
      pss_nil)
    (pss_cons (ps_if (pt_cmpR op_eq (pv 2) pe_int (nomark _))
      (pss_one (ps_ret (pe_lc (own := [("_law_sign", 3)]) (g := gName 3) (tt := tYes) rfl sc_l_some_counts.nd (pi_range1 rfl T.b_range (pa_cons (pv 1) pa_nil)) (blkOk_by (own := [("_law_sign", 3)]) (N := n_l_some_counts) (sc := defScope s_l_some_counts) (by decide +kernel)) (fun _ _ _ _ _ => (pg_name (i := 3) sc_l_some_counts.nd rfl (Or.inl rfl))) (fun _ _ _ _ _ => pts_nil) (fun _ _ _ _ _ => (pe_cal c_l_draw (hr.mono (by decide)) rfl pass0 (pa_cons (pv 0) (pa_cons pe_int pa_nil)))))))
      pss_nil)
    (pss_cons (ps_if (pt_cmpR op_eq (pv 2) pe_int (nomark _))
      (pss_one (ps_ret (pe_lc (own := [("_law_sign", 3)]) (g := gName 3) (tt := tYes) rfl sc_l_some_counts.nd (pi_range1 rfl T.b_range (pa_cons (pv 1) pa_nil)) (blkOk_by (own := [("_law_sign", 3)]) (N := n_l_some_counts) (sc := defScope s_l_some_counts) (by decide +kernel)) (fun _ _ _ _ _ => (pg_name (i := 3) sc_l_some_counts.nd rfl (Or.inl rfl))) (fun _ _ _ _ _ => pts_nil) (fun _ _ _ _ _ => (pe_cal c_l_pick (hr.mono (by decide)) rfl pass0 (pa_cons (pv 0) (pa_cons (pe_lst (pa_cons pe_int (pa_cons pe_int (pa_cons pe_int (pa_cons pe_int (pa_cons pe_int (pa_cons pe_int pa_nil))))))) pa_nil)))))))
      pss_nil)
    (pss_one (ps_ret (pe_lc (own := [("_law_sign", 3)]) (g := gName 3) (tt := tYes) rfl sc_l_some_counts.nd (pi_range1 rfl T.b_range (pa_cons (pv 1) pa_nil)) (blkOk_by (own := [("_law_sign", 3)]) (N := n_l_some_counts) (sc := defScope s_l_some_counts) (by decide +kernel)) (fun _ _ _ _ _ => (pg_name (i := 3) sc_l_some_counts.nd rfl (Or.inl rfl))) (fun _ _ _ _ _ => pts_nil) (fun _ _ _ _ _ => (pe_op op_add (pe_op op_mul (pe_cal c_l_draw (hr.mono (by decide)) rfl pass0 (pa_cons (pv 0) (pa_cons pe_int pa_nil))) (pe_op op_pow pe_int pe_int)) (pe_cal c_l_draw (hr.mono (by decide)) rfl pass0 (pa_cons (pv 0) (pa_cons pe_int pa_nil)))))))))))), ?_⟩
  refine ⟨_, rfl, d, lc, _, B, rfl, hp, by decide, by decide, by omega, fun H1 x px hp1 x0 x1 => ?_⟩
  refine ⟨_, rfl, rfl, _, rfl, ite2 (fun _ => ?_) (fun _ => ?_)⟩
  · refine ⟨_, rfl, _, rfl, by omega, by omega, fun D nD => ?_⟩
    rw [Int.toNat_natCast]
    have nDp := hp1.fresh nD
    refine lc_it walk_range (fun i H' => Px d H1 H' ∧ PenAt H' d lc (B + 1 + 2 * i) ∧ ∃ ns : List Int, H' D = some (.lst (ns.map V.int)) ∧ ns.length = i ∧ ∀ n ∈ ns, 0 ≤ n) ⟨Px.of (same_new nD), hp1.same (same_new nD), [], upd_same, rfl, fun n hn => by cases hn⟩ (fun _ _ _ _ => trivial) ?_ ?_
    · rintro i x H2 H3 hi ⟨px2, hp2, ns, hD, hl, h0⟩ ⟨rfl, rfl⟩
      have fin : ∀ (H4 : Hp) (n : Int), Px d H3 H4 → PenAt H4 d lc (B + 1 + 2 * (i + 1)) → 0 ≤ n → H4 D = some (.lst (ns.map V.int)) ∧ (ns.map V.int).length < sizeLine ∧ (Px d H1 (upd H4 D (.lst (ns.map V.int ++ [.int n]))) ∧ PenAt (upd H4 D (.lst (ns.map V.int ++ [.int n]))) d lc (B + 1 + 2 * (i + 1)) ∧ ∃ ns' : List Int, upd H4 D (.lst (ns.map V.int ++ [.int n])) D = some (.lst (ns'.map V.int)) ∧ ns'.length = i + 1 ∧ ∀ n ∈ ns', 0 ≤ n) := fun H4 n px4 hp4 hn =>
        ⟨px4 _ _ nDp.1 hD, by rw [List.length_map]; exact small1000 (by omega), (px2.trans px4).mutN nD, hp4.mut nDp, ns ++ [n], by rw [upd_same, List.map_append]; rfl, by rw [List.length_append, hl]; rfl, fun z hz => by
          rcases List.mem_append.mp hz with e | e
          · exact h0 z e
          · have e2 : z = n := by simpa using e
            rw [e2]; exact hn⟩
      refine ⟨rfl, yesI ⟨_, rfl, d, lc, _, B + 1 + 2 * i, rfl, hp2, by decide, by decide, by omega, fun H4 z px4 hp4 z0 z1 => ?_⟩⟩
      exact ⟨_, fin H4 z px4 (hp4.mono (by omega)) z0⟩
    · rintro H2 ⟨px2, hp2, ns, hD, hl, h0⟩
      exact q H2 D ns (px.trans px2) (hp2.mono (by omega)) hl h0 hD nDp.1
  refine ⟨_, rfl, rfl, _, rfl, ite2 (fun _ => ?_) (fun _ => ?_)⟩
  · refine ⟨_, rfl, _, rfl, by omega, by omega, fun D nD => ?_⟩
    rw [Int.toNat_natCast]
    have nDp := hp1.fresh nD
    refine lc_it walk_range (fun i H' => Px d H1 H' ∧ PenAt H' d lc (B + 1 + 2 * i) ∧ ∃ ns : List Int, H' D = some (.lst (ns.map V.int)) ∧ ns.length = i ∧ ∀ n ∈ ns, 0 ≤ n) ⟨Px.of (same_new nD), hp1.same (same_new nD), [], upd_same, rfl, fun n hn => by cases hn⟩ (fun _ _ _ _ => trivial) ?_ ?_
    · rintro i x H2 H3 hi ⟨px2, hp2, ns, hD, hl, h0⟩ ⟨rfl, rfl⟩
      have fin : ∀ (H4 : Hp) (n : Int), Px d H3 H4 → PenAt H4 d lc (B + 1 + 2 * (i + 1)) → 0 ≤ n → H4 D = some (.lst (ns.map V.int)) ∧ (ns.map V.int).length < sizeLine ∧ (Px d H1 (upd H4 D (.lst (ns.map V.int ++ [.int n]))) ∧ PenAt (upd H4 D (.lst (ns.map V.int ++ [.int n]))) d lc (B + 1 + 2 * (i + 1)) ∧ ∃ ns' : List Int, upd H4 D (.lst (ns.map V.int ++ [.int n])) D = some (.lst (ns'.map V.int)) ∧ ns'.length = i + 1 ∧ ∀ n ∈ ns', 0 ≤ n) := fun H4 n px4 hp4 hn =>
        ⟨px4 _ _ nDp.1 hD, by rw [List.length_map]; exact small1000 (by omega), (px2.trans px4).mutN nD, hp4.mut nDp, ns ++ [n], by rw [upd_same, List.map_append]; rfl, by rw [List.length_append, hl]; rfl, fun z hz => by
          rcases List.mem_append.mp hz with e | e
          · exact h0 z e
          · have e2 : z = n := by simpa using e
            rw [e2]; exact hn⟩
      refine ⟨rfl, yesI ⟨_, rfl, d, lc, _, B + 1 + 2 * i, rfl, hp2, by decide, by decide, by omega, fun H4 z px4 hp4 z0 z1 => ?_⟩⟩
      exact ⟨_, fin H4 z px4 (hp4.mono (by omega)) z0⟩
    · rintro H2 ⟨px2, hp2, ns, hD, hl, h0⟩
      exact q H2 D ns (px.trans px2) (hp2.mono (by omega)) hl h0 hD nDp.1
  refine ⟨_, rfl, rfl, _, rfl, ite2 (fun _ => ?_) (fun _ => ?_)⟩
  · refine ⟨_, rfl, _, rfl, by omega, by omega, fun D nD => ?_⟩
    rw [Int.toNat_natCast]
    have nDp := hp1.fresh nD
    refine lc_it walk_range (fun i H' => Px d H1 H' ∧ PenAt H' d lc (B + 1 + 2 * i) ∧ ∃ ns : List Int, H' D = some (.lst (ns.map V.int)) ∧ ns.length = i ∧ ∀ n ∈ ns, 0 ≤ n) ⟨Px.of (same_new nD), hp1.same (same_new nD), [], upd_same, rfl, fun n hn => by cases hn⟩ (fun _ _ _ _ => trivial) ?_ ?_
    · rintro i x H2 H3 hi ⟨px2, hp2, ns, hD, hl, h0⟩ ⟨rfl, rfl⟩
      have fin : ∀ (H4 : Hp) (n : Int), Px d H3 H4 → PenAt H4 d lc (B + 1 + 2 * (i + 1)) → 0 ≤ n → H4 D = some (.lst (ns.map V.int)) ∧ (ns.map V.int).length < sizeLine ∧ (Px d H1 (upd H4 D (.lst (ns.map V.int ++ [.int n]))) ∧ PenAt (upd H4 D (.lst (ns.map V.int ++ [.int n]))) d lc (B + 1 + 2 * (i + 1)) ∧ ∃ ns' : List Int, upd H4 D (.lst (ns.map V.int ++ [.int n])) D = some (.lst (ns'.map V.int)) ∧ ns'.length = i + 1 ∧ ∀ n ∈ ns', 0 ≤ n) := fun H4 n px4 hp4 hn =>
        ⟨px4 _ _ nDp.1 hD, by rw [List.length_map]; exact small1000 (by omega), (px2.trans px4).mutN nD, hp4.mut nDp, ns ++ [n], by rw [upd_same, List.map_append]; rfl, by rw [List.length_append, hl]; rfl, fun z hz => by
          rcases List.mem_append.mp hz with e | e
          · exact h0 z e
          · have e2 : z = n := by simpa using e
            rw [e2]; exact hn⟩
      refine ⟨rfl, yesI ⟨_, rfl, (by show 6 ≤ sizeLine; decide), fun p np => ?_⟩⟩
      refine ⟨d, lc, p, _, B + 1 + 2 * i, rfl, hp2.same (same_new np), upd_same, by show 1 ≤ 6; decide, by show 6 ≤ 1000; decide, by omega, fun H4 z px4 hp4 hz => ?_⟩
      obtain ⟨n, rfl, hn⟩ : ∃ n : Int, z = .int n ∧ 0 ≤ n := by
        simp only [List.mem_cons, List.not_mem_nil, or_false] at hz
        rcases hz with e | e | e | e | e | e <;> exact ⟨_, e, by decide⟩
      exact ⟨_, fin H4 n ((Px.of (same_new np)).trans px4) (hp4.mono (by omega)) hn⟩
    · rintro H2 ⟨px2, hp2, ns, hD, hl, h0⟩
      exact q H2 D ns (px.trans px2) (hp2.mono (by omega)) hl h0 hD nDp.1
  refine ⟨_, rfl, _, rfl, by omega, by omega, fun D nD => ?_⟩
  rw [Int.toNat_natCast]
  have nDp := hp1.fresh nD
  refine lc_it walk_range (fun i H' => Px d H1 H' ∧ PenAt H' d lc (B + 1 + 2 * i) ∧ ∃ ns : List Int, H' D = some (.lst (ns.map V.int)) ∧ ns.length = i ∧ ∀ n ∈ ns, 0 ≤ n) ⟨Px.of (same_new nD), hp1.same (same_new nD), [], upd_same, rfl, fun n hn => by cases hn⟩ (fun _ _ _ _ => trivial) ?_ ?_
  · rintro i x H2 H3 hi ⟨px2, hp2, ns, hD, hl, h0⟩ ⟨rfl, rfl⟩
    have fin : ∀ (H4 : Hp) (n : Int), Px d H3 H4 → PenAt H4 d lc (B + 1 + 2 * (i + 1)) → 0 ≤ n → H4 D = some (.lst (ns.map V.int)) ∧ (ns.map V.int).length < sizeLine ∧ (Px d H1 (upd H4 D (.lst (ns.map V.int ++ [.int n]))) ∧ PenAt (upd H4 D (.lst (ns.map V.int ++ [.int n]))) d lc (B + 1 + 2 * (i + 1)) ∧ ∃ ns' : List Int, upd H4 D (.lst (ns.map V.int ++ [.int n])) D = some (.lst (ns'.map V.int)) ∧ ns'.length = i + 1 ∧ ∀ n ∈ ns', 0 ≤ n) := fun H4 n px4 hp4 hn =>
      ⟨px4 _ _ nDp.1 hD, by rw [List.length_map]; exact small1000 (by omega), (px2.trans px4).mutN nD, hp4.mut nDp, ns ++ [n], by rw [upd_same, List.map_append]; rfl, by rw [List.length_append, hl]; rfl, fun z hz => by
        rcases List.mem_append.mp hz with e | e
        · exact h0 z e
        · have e2 : z = n := by simpa using e
          rw [e2]; exact hn⟩
    refine ⟨rfl, yesI ⟨_, rfl, d, lc, _, B + 1 + 2 * i, rfl, hp2, by decide, by decide, by omega, fun H4 z px4 hp4 z0 z1 => ?_⟩⟩
    refine ⟨_, _, rfl, rfl, ⟨by decide, by decide, by decide⟩, _, _, rfl, rfl, .inl ⟨by omega, by omega⟩, _, rfl, d, lc, _, B + 1 + 2 * i + 1, rfl, hp4, by decide, by decide, by omega, fun H5 y px5 hp5 y0 y1 => ?_⟩
    have hb : (0 : Int) ≤ z * 10 ^ 30 := Int.mul_nonneg z0 (by decide)
    exact ⟨_, _, rfl, rfl, _, fin H5 _ (px4.trans px5) (hp5.mono (by omega)) (Int.add_nonneg hb y0)⟩
  · rintro H2 ⟨px2, hp2, ns, hD, hl, h0⟩
    exact q H2 D ns (px.trans px2) (hp2.mono (by omega)) hl h0 hD nDp.1
end
end K38


set_option Elab.async false
set_option linter.all false
set_option maxRecDepth 100000
set_option maxHeartbeats 4000000
/-! _law_near_counts, _law_some_count -/
namespace K38
open PySem PySem.Spec PyProof.Rows L2 M38
section
variable {P : Program} {w : World} {K : PySem.W.Frag} {mg : Str → Option Value} {base : Heap}
def spNear : Sp := fun vs H Q _ => ∃ (d l a : Addr) (ls : List Nat) (B : Nat), vs = [.ref d, .ref a] ∧ PenAt H d l B ∧ H a = some (.lst (ls.map nI)) ∧ 2 ≤ ls.length ∧ ls.length ≤ 50 ∧ (∀ l ∈ ls, l ≤ 60) ∧ B ≤ 700000 ∧
  ∀ (H' : Hp) (r : Addr) (ns : List Int), Px d H H' → PenAt H' d l (B + 300) → ns.length = ls.length → (∀ n ∈ ns, 0 ≤ n) → H' r = some (.lst (ns.map V.int)) → r ≠ d → Q (.ref r) H'
theorem ok_l_near_counts (T : Tx K mg) : Cal P w K mg base CX0 4 "_law_near_counts" ["_law_pen", "_law_lengths"] spNear := by
  have c_l_draw := ok_l_draw (P := P) (w := w) (base := base) T
  have c_l_pick := ok_l_pick (P := P) (w := w) (base := base) T
  have c_l_some_counts := ok_l_some_counts (P := P) (w := w) (base := base) T
  refine cal_of T.g_l_near_counts T.f_l_near_counts sc_l_near_counts (fun _ _ _ _ _ _ us hl => match us, hl with | [_, _], _ => rfl) (fun vs H Q E ⟨a, b, _, _, _, e, _⟩ => by rw [e]; rfl) (fun fd cdv A outer s H vs Q E hr h => ?_)
  obtain ⟨d, lc, a, ls, B, rfl, hp, ha, l2, l50, h60, hB, q⟩ := h
  refine ⟨_, (pss_cons (ps_par (i := 2) (j := 3) (by rfl) sc_l_near_counts.nd rfl rfl (by decide) rfl rfl (pa_cons (pe_cal c_l_draw (hr.mono (by decide)) rfl pass0 (pa_cons (pv 0) (pa_cons pe_int pa_nil))) (pa_cons (pe_lst pa_nil) pa_nil)) (by rfl))
    (pss_cons (ps_if (pt_cmpR op_eq (pv 2) pe_int (nomark _))
      (pss_one (ps_ret (pe_cal c_l_some_counts (hr.mono (by decide)) rfl pass0 (pa_cons (pv 0) (pa_cons (pe_callB call_len_seq (by rfl) T.b_len (by decide +kernel) (pa_cons (pv 1) pa_nil)) pa_nil)))))
      pss_nil)
    (pss_cons (ps_for PassesOwn.never rfl (pi_list (pv 1)) (pg_name (i := 4) sc_l_near_counts.nd rfl (Or.inl rfl))
      (pss_cons (ps_set (i := 5) sc_l_near_counts.nd rfl (Or.inl rfl) pe_int)
      (pss_cons (ps_for PassesOwn.never rfl (pi_range1 rfl T.b_range (pa_cons (pe_op op_sub (pe_callB (cr_max rfl) (by rfl) T.b_max (by decide +kernel) (pa_cons (pv 1) pa_nil)) (pv 4)) pa_nil)) (pg_name (i := 6) sc_l_near_counts.nd rfl (Or.inl rfl))
        (pss_one (ps_set (i := 5) sc_l_near_counts.nd rfl (Or.inl rfl) (pe_op op_mul (pv 5) pe_int))))
      (pss_one (ps_expr (pe_bm PySem.F.plainAttrs_list PySem.F.slot_list_append PySem.F.type_list_append mt_append (pv 3) (pa_cons (pv 5) pa_nil)))))))
    (pss_cons (ps_for PassesOwn.never rfl (pi_range1 rfl T.b_range (pa_cons (pe_cal c_l_draw (hr.mono (by decide)) rfl pass0 (pa_cons (pv 0) (pa_cons pe_int pa_nil))) pa_nil)) (pg_name (i := 6) sc_l_near_counts.nd rfl (Or.inl rfl))
      (pss_cons (ps_set (i := 7) sc_l_near_counts.nd rfl (Or.inl rfl) (pe_cal c_l_draw (hr.mono (by decide)) rfl pass0 (pa_cons (pv 0) (pa_cons (pe_callB call_len_seq (by rfl) T.b_len (by decide +kernel) (pa_cons (pv 3) pa_nil)) pa_nil))))
      (pss_one (ps_asg (pe_callB (call_max2 rfl) (by rfl) T.b_max (by decide +kernel) (pa_cons pe_int (pa_cons (pe_op op_add (pe_ix ix_list (pv 3) (pv 7) (fun _ _ => rfl)) (pe_cal c_l_pick (hr.mono (by decide)) rfl pass0 (pa_cons (pv 0) (pa_cons (pe_lst (pa_cons (pe_un un_neg pe_int) (pa_cons pe_int (pa_cons pe_int (pa_cons pe_int pa_nil))))) pa_nil)))) pa_nil))) (pg_sub (pv 3) (pv 7) set_list)))))
    (pss_one (ps_ret (pv 3))))))), ?_⟩
  have nad := hp.neL ha
  refine ⟨_, rfl, d, lc, _, B, rfl, hp, by decide, by decide, by omega, fun H1 x px hp1 x0 x1 => ?_⟩
  refine ⟨Nat.zero_le _, fun f nf => ?_⟩
  have nfd := hp1.fresh nf
  have nf0 : H f = none := px.free nf nfd.1
  have pxf : Px d H (upd H1 f (.lst [])) := px.mutN nf0
  have hpf : PenAt (upd H1 f (.lst [])) d lc (B + 1) := hp1.mut nfd
  have hf : upd H1 f (.lst []) f = some (.lst []) := upd_same
  revert pxf hpf hf
  generalize upd H1 f (.lst []) = H2
  intro pxf hpf hf
  have ha2 := pxf _ _ nad ha
  refine ⟨_, _, rfl, ?_⟩
  refine ⟨_, rfl, rfl, _, rfl, ite2 (fun _ => ?_) (fun _ => ?_)⟩
  · refine ⟨_, rfl, _, rfl, a, _, rfl, .inl (seq_at ha2), d, lc, ls.length, B + 1, by rw [List.length_map]; rfl, hpf, by omega, by omega, by omega, fun H3 r ns px3 hp3 hl h0 hr nr => ?_⟩
    exact q H3 r ns (pxf.trans px3) (hp3.mono (by omega)) hl h0 hr nr
  · -- for length in lengths
    refine ⟨_, rfl, a, rfl, ⟨_, seq_at ha2⟩, ?_⟩
    refine for_it walk_list (fun i σ H' => ∃ (v4 v5 v6 : Option V) (ns : List Int), σ = [some (.ref d), some (.ref a), some (.int x), some (.ref f), v4, v5, v6, none] ∧ Px d H H' ∧ PenAt H' d lc (B + 1) ∧ H' f = some (.lst (ns.map V.int)) ∧ ns.length = i ∧ ∀ n ∈ ns, 0 ≤ n)
      ⟨none, none, none, [], rfl, pxf, hpf, hf, rfl, fun n hn => by cases hn⟩ (fun i σ H' _ ⟨_, _, _, _, _, px3, _⟩ => seq_at (px3 _ _ nad ha)) ?_ ?_
    · rintro i y σ H3 H4 hi ⟨v4, v5, v6, ns, rfl, px3, hp3, hf3, hl, h0⟩ ⟨rfl, hv⟩
      obtain ⟨z, hz, rfl⟩ := getN hv
      have z60 := h60 z (List.mem_of_getElem? hz)
      rw [List.length_map] at hi
      have ha3 := px3 _ _ nad ha
      have hA3 : SqL K H4 a ((ls.map fun n : Nat => (n : Int)).map V.int) := by rw [← nI_map]; exact seq_at ha3
      refine ⟨_, rfl, a, _, rfl, hA3, by rw [List.length_map]; omega, fun mx hm hmax => ?_⟩
      obtain ⟨M, hM, rfl⟩ := List.mem_map.mp hm
      have M60 := h60 M hM
      refine ⟨_, rfl, _, _, rfl, rfl, _, rfl, by omega, by omega, ?_⟩
      refine for_it walk_range (fun j σ H' => ∃ (c : Int) (v6 : Option V), σ = [some (.ref d), some (.ref a), some (.int x), some (.ref f), some (nI z), some (.int c), v6, none] ∧ 0 ≤ c ∧ H' = H4) ⟨1, v6, rfl, by decide, rfl⟩ (fun _ _ _ _ _ => trivial) ?_ ?_
      · rintro j y σ H5 H6 hj ⟨c, v6, rfl, c0, rfl⟩ ⟨rfl, rfl⟩
        exact ⟨_, rfl, _, _, rfl, rfl, .inr ⟨by decide, by decide⟩, _, _, rfl, Int.mul_nonneg c0 (by decide), rfl⟩
      · rintro σ H5 ⟨c, v6, rfl, c0, rfl⟩
        refine ⟨_, rfl, .inl ⟨rfl, _, seq_at hf3⟩, _, rfl, f, _, _, rfl, rfl, hf3, by rw [List.length_map]; exact small1000 (by omega), ?_⟩
        refine ⟨_, _, _, ns ++ [c], rfl, px3.mutN nf0, hp3.mut nfd, by rw [upd_same, List.map_append]; rfl, by rw [List.length_append, hl]; rfl, fun n hn => ?_⟩
        rcases List.mem_append.mp hn with e | e
        · exact h0 n e
        · have e2 : n = c := by simpa using e
          rw [e2]; exact c0
    · rintro σ H3 ⟨v4, v5, v6, ns, rfl, px3, hp3, hf3, hl, h0⟩
      rw [List.length_map] at hl
      refine ⟨_, rfl, d, lc, _, B + 1, rfl, hp3, by decide, by decide, by omega, fun H4 t px4 hp4 t0 t1 => ?_⟩
      refine ⟨t, rfl, by omega, by omega, ?_⟩
      have hf4 := px4 _ _ nfd.1 hf3
      refine for_it walk_range (fun i σ H' => ∃ (v4 v5 v6 v7 : Option V) (ns : List Int), σ = [some (.ref d), some (.ref a), some (.int x), some (.ref f), v4, v5, v6, v7] ∧ Px d H H' ∧ PenAt H' d lc (B + 2 + 2 * i) ∧ H' f = some (.lst (ns.map V.int)) ∧ ns.length = ls.length ∧ ∀ n ∈ ns, 0 ≤ n)
        ⟨v4, v5, v6, none, ns, rfl, px3.trans px4, hp4, hf4, hl, h0⟩ (fun _ _ _ _ _ => trivial) ?_ ?_
      · rintro i y σ H5 H6 hi ⟨v4, v5, v6, v7, us, rfl, px5, hp5, hf5, hl5, h5⟩ ⟨rfl, rfl⟩
        have hi3 : i < 3 := by omega
        refine ⟨_, rfl, _, rfl, f, _, rfl, .inl (seq_at hf5), d, lc, _, B + 2 + 2 * i, rfl, hp5, by rw [List.length_map]; omega, by rw [List.length_map]; omega, by omega, fun H7 k px7 hp7 k0 k1 => ?_⟩
        rw [List.length_map] at k1
        obtain ⟨k, rfl⟩ : ∃ j : Nat, k = (j : Int) := ⟨k.toNat, by omega⟩
        have hk : k < us.length := by omega
        have hxk : us[k]? = some us[k] := List.getElem?_eq_getElem hk
        have hf7 := px7 _ _ nfd.1 hf5
        refine ⟨_, rfl, _, rfl, f, _, _, _, rfl, rfl, seq_at hf7, atI_nat (mapI hxk), _, rfl, _, rfl, (by show 4 ≤ sizeLine; decide), fun p np => ?_⟩
        refine ⟨d, lc, p, _, B + 2 + 2 * i + 1, rfl, hp7.same (same_new np), upd_same, by show 1 ≤ 4; decide, by show 4 ≤ 1000; decide, by omega, fun H8 z px8 hp8 hz => ?_⟩
        obtain ⟨n, rfl⟩ : ∃ n : Int, z = .int n := by
          simp only [List.mem_cons, List.not_mem_nil, or_false] at hz
          rcases hz with e | e | e | e <;> exact ⟨_, e⟩
        have px78 : Px d H7 H8 := (Px.of (same_new np)).trans px8
        have hf8 := px78 _ _ nfd.1 hf7
        refine ⟨_, _, rfl, rfl, _, _, rfl, _, rfl, _, rfl, f, _, _, k, rfl, rfl, hf8, ixN_nat (by rw [List.length_map]; exact hk), ?_⟩
        refine ⟨_, _, _, _, us.set k (if us[k] + n > 0 then us[k] + n else 0), rfl, ((px5.trans px7).trans px78).mutN nf0, (hp8.mut nfd).mono (by omega), by rw [upd_same, List.map_set], by rw [List.length_set]; exact hl5, fun m hm => ?_⟩
        rcases List.mem_or_eq_of_mem_set hm with e | e
        · exact h5 m e
        · rw [e]
          split <;> omega
      · rintro σ H5 ⟨v4, v5, v6, v7, us, rfl, px5, hp5, hf5, hl5, h5⟩
        exact ⟨_, rfl, q H5 f us px5 (hp5.mono (by omega)) hl5 h5 hf5 nfd.1⟩
/-! ### _law_some_count -/
def spSomeCount : Sp := fun vs H Q _ => ∃ (d l a : Addr) (ns : List Int) (B : Nat), vs = [.ref d, .ref a] ∧ PenAt H d l B ∧ H a = some (.lst (ns.map V.int)) ∧ 1 ≤ ns.length ∧ ns.length ≤ 50 ∧ (∀ n ∈ ns, 0 ≤ n) ∧ B ≤ 800000 ∧
  ∀ (H' : Hp) (x : Int), Px d H H' → PenAt H' d l (B + 10) → 0 ≤ x → Q (.int x) H'
theorem sum_nn : ∀ {ns : List Int}, (∀ n ∈ ns, 0 ≤ n) → 0 ≤ ns.sum
  | [], _ => Int.le_refl _
  | n :: ns, h => by
    rw [List.sum_cons]
    have a := h n (List.mem_cons_self ..)
    have b := sum_nn (ns := ns) fun m hm => h m (List.mem_cons_of_mem _ hm)
    omega
theorem ok_l_some_count (T : Tx K mg) : Cal P w K mg base CX0 3 "_law_some_count" ["_law_pen", "_law_counts"] spSomeCount := by
  have c_l_draw := ok_l_draw (P := P) (w := w) (base := base) T
  have c_l_pick := ok_l_pick (P := P) (w := w) (base := base) T
  refine cal_of T.g_l_some_count T.f_l_some_count sc_l_some_count (fun _ _ _ _ _ _ us hl => match us, hl with | [_, _], _ => rfl) (fun vs H Q E ⟨a, b, _, _, _, e, _⟩ => by rw [e]; rfl) (fun fd cdv A outer s H vs Q E hr h => ?_)
  obtain ⟨d, lc, a, ns, B, rfl, hp, ha, l1, l50, h0, hB, q⟩ := h
  refine ⟨_, (pss_cons (ps_set (i := 2) sc_l_some_count.nd rfl (Or.inl rfl) (pe_op op_add (pe_cal c_l_pick (hr.mono (by decide)) rfl pass0 (pa_cons (pv 0) (pa_cons (pv 1) pa_nil))) (pe_cal c_l_pick (hr.mono (by decide)) rfl pass0 (pa_cons (pv 0) (pa_cons (pe_lst (pa_cons pe_int (pa_cons pe_int (pa_cons pe_int pa_nil)))) pa_nil)))))
    (pss_one (ps_ret (pe_cal c_l_pick (hr.mono (by decide)) rfl pass0 (pa_cons (pv 0) (pa_cons (pe_lst (pa_cons (pe_cal c_l_draw (hr.mono (by decide)) rfl pass0 (pa_cons (pv 0) (pa_cons pe_int pa_nil))) (pa_cons (pv 2) (pa_cons (pv 2) (pa_cons (pe_op op_add (pe_callB (cr_sum rfl) (by rfl) T.b_sum (by decide +kernel) (pa_cons (pv 1) pa_nil)) (pe_cal c_l_draw (hr.mono (by decide)) rfl pass0 (pa_cons (pv 0) (pa_cons pe_int pa_nil)))) (pa_cons (pe_op op_pow pe_int pe_int) pa_nil)))))) pa_nil)))))), ?_⟩
  have nad := hp.neL ha
  refine ⟨_, rfl, _, rfl, d, lc, a, _, B, rfl, hp, ha, by rw [List.length_map]; exact l1, by rw [List.length_map]; omega, by omega, fun H1 x px1 hp1 hx => ?_⟩
  obtain ⟨n, hn, rfl⟩ := List.mem_map.mp hx
  have n0 := h0 n hn
  refine ⟨_, rfl, (by show 3 ≤ sizeLine; decide), fun p np => ?_⟩
  refine ⟨d, lc, p, _, B + 1, rfl, hp1.same (same_new np), upd_same, by show 1 ≤ 3; decide, by show 3 ≤ 1000; decide, by omega, fun H2 z px2 hp2 hz => ?_⟩
  obtain ⟨m, rfl, m0⟩ : ∃ n : Int, z = .int n ∧ 0 ≤ n := by
    simp only [List.mem_cons, List.not_mem_nil, or_false] at hz
    rcases hz with e | e | e <;> exact ⟨_, e, by decide⟩
  have px12 : Px d H H2 := px1.trans ((Px.of (same_new np)).trans px2)
  refine ⟨_, _, rfl, rfl, ?_⟩
  refine ⟨_, rfl, _, rfl, d, lc, _, B + 2, rfl, hp2, by decide, by decide, by omega, fun H3 y px3 hp3 y0 y1 => ?_⟩
  refine ⟨_, rfl, _, rfl, _, rfl, a, ns, rfl, seq_at (px3 _ _ nad (px12 _ _ nad ha)), _, rfl, d, lc, _, B + 3, rfl, hp3, by decide, by decide, by omega, fun H4 u px4 hp4 u0 u1 => ?_⟩
  have hs := sum_nn h0
  refine ⟨_, _, rfl, rfl, _, _, rfl, rfl, ⟨by decide, by decide, by decide⟩, (by show 5 ≤ sizeLine; decide), fun p2 np2 => ?_⟩
  refine ⟨d, lc, p2, _, B + 4, rfl, hp4.same (same_new np2), upd_same, by show 1 ≤ 5; decide, by show 5 ≤ 1000; decide, by omega, fun H5 t px5 hp5 ht => ?_⟩
  obtain ⟨r, rfl, r0⟩ : ∃ n : Int, t = .int n ∧ 0 ≤ n := by
    simp only [List.mem_cons, List.not_mem_nil, or_false] at ht
    rcases ht with e | e | e | e | e
    · exact ⟨_, e, y0⟩
    · exact ⟨_, e, Int.add_nonneg n0 m0⟩
    · exact ⟨_, e, Int.add_nonneg n0 m0⟩
    · exact ⟨_, e, Int.add_nonneg hs u0⟩
    · exact ⟨_, e, by decide⟩
  exact q H5 r (((px12.trans px3).trans px4).trans ((Px.of (same_new np2)).trans px5)) (hp5.mono (by omega)) r0
end
end K38


set_option Elab.async false
set_option linter.all false
set_option maxRecDepth 100000
set_option maxHeartbeats 4000000
/-! _law_parted, _law_right_signs -/
namespace K38
open PySem PySem.Spec PyProof.Rows L2 M38
noncomputable def rightB (ws : List Str) (ns : List Int) (k i : Nat) : Bool := match ws[i]? with
  | some z => decide (costP (ns.zip ((parted ws i k z).map Str.length)) = L ns)
  | none => false
noncomputable def rights (ws : List Str) (ns : List Int) (k : Nat) : List Nat := (List.range ws.length).filter (rightB ws ns k)
section
variable {P : Program} {w : World} {K : PySem.W.Frag} {mg : Str → Option Value} {base : Heap}
def spLParted : Sp := fun vs H Q _ => ∃ (a : Addr) (i k : Nat) (ws : List Str) (z : Str), vs = [.ref a, nI i, nI k] ∧ H a = some (.lst (ws.map V.str)) ∧ ws[i]? = some z ∧ ws.length ≤ 60 ∧ z.length ≤ 60 ∧
  ∀ (H' : Hp) (r : Addr), Same H H' → H' r = some (.lst ((parted ws i k z).map V.str)) → H r = none → Q (.ref r) H'
theorem ok_l_parted (T : Tx K mg) : Cal P w K mg base CX0 1 "_law_parted" ["_law_words_here", "_law_sign", "_law_rank"] spLParted := by
  refine cal_of T.g_l_parted T.f_l_parted sc_l_parted (fun _ _ _ _ _ _ us hl => match us, hl with | [_, _, _], _ => rfl) (fun vs H Q E ⟨a, b, _, _, _, e, _⟩ => by rw [e]; rfl) (fun fd cdv A outer s H vs Q E hr h => ?_)
  obtain ⟨a, i, k, ws, z, rfl, ha, hz, h60, z60, q⟩ := h
  refine ⟨_, (pss_cons (ps_set (i := 3) sc_l_parted.nd rfl (Or.inl rfl) (pe_callTy call_list_of (by rfl) T.b_list (by decide +kernel) (pa_cons (pv 0) pa_nil)))
    (pss_cons (ps_asg (pe_op op_add_str (pe_ix ix_list (pv 0) (pv 1) (fun _ _ => rfl)) pe_str) (pg_sub (pv 3) (pv 1) set_list))
    (pss_one (ps_ret (pe_op op_cat (pe_op op_cat (pe_slice sl_list (pv 3) po_none (po_some (pv 2))) (pe_lst (pa_cons (pe_op op_add_str (pe_ix ix_list (pv 0) (pv 1) (fun _ _ => rfl)) pe_str) pa_nil))) (pe_slice sl_list (pv 3) (po_some (pv 2)) po_none)))))), ?_⟩
  refine ⟨_, rfl, a, _, rfl, .inl (seq_at ha), fun l nl => ?_⟩
  have nal : a ≠ l := ne_of_none ha nl
  have sm1 : Same H (upd H l (.lst (ws.map V.str))) := same_new nl
  have hil : i < ws.length := (List.getElem?_eq_some_iff.mp hz).1
  have l0 : (z ++ s0).length = z.length + 1 := by rw [len_app, len0]
  have hset : (ws.map V.str).set i (.str (z ++ s0)) = (ws.set i (z ++ s0)).map V.str := by rw [List.map_set]
  refine ⟨_, rfl, _, rfl, a, _, _, _, rfl, rfl, seq_at (by rw [upd_ne nal]; exact ha), atI_nat (mapS hz), _, _, rfl, rfl, line_of (by rw [show ("0" : Str).length = 1 from len0]; omega), ?_⟩
  refine ⟨_, rfl, _, rfl, l, _, _, i, rfl, rfl, upd_same, ixN_nat (by rw [List.length_map]; exact hil), ?_⟩
  rw [hset]
  have s2 : Same H (upd (upd H l (.lst (ws.map V.str))) l (.lst ((ws.set i (z ++ s0)).map V.str))) := sm1.mut nl
  have hl : upd (upd H l (.lst (ws.map V.str))) l (.lst ((ws.set i (z ++ s0)).map V.str)) l = some (.lst ((ws.set i (z ++ s0)).map V.str)) := upd_same
  revert s2 hl
  generalize upd (upd H l (.lst (ws.map V.str))) l (.lst ((ws.set i (z ++ s0)).map V.str)) = H1
  intro s2 hl
  generalize hvs : ws.set i (z ++ s0) = vs at hl
  have lvs : vs.length = ws.length := by rw [← hvs, List.length_set]
  refine ⟨_, rfl, _, rfl, _, rfl, l, _, rfl, seq_at hl, fun p1 n1 => ?_⟩
  rw [cut_to, ← List.map_take]
  have ha1 := s2 _ _ ha
  have nap1 : a ≠ p1 := ne_of_none ha1 n1
  refine ⟨_, rfl, _, rfl, a, _, _, _, rfl, rfl, seq_at (by rw [upd_ne nap1]; exact ha1), atI_nat (mapS hz), _, _, rfl, rfl, line_of (by rw [show ("1" : Str).length = 1 from len1]; omega), (by show 1 ≤ sizeLine; decide), fun p2 n2 => ?_⟩
  have n12 : p1 ≠ p2 := ne_of_none upd_same n2
  refine ⟨p1, p2, _, _, rfl, rfl, by rw [upd_ne n12, upd_same], upd_same, line_of (by rw [List.length_map, List.length_take]; show _ + 1 ≤ 1000; omega), fun p3 n3 => ?_⟩
  have s5 : Same H1 (upd (upd (upd H1 p1 (.lst ((vs.take k).map V.str))) p2 (.lst [.str (z ++ s1)])) p3 (.lst ((vs.take k).map V.str ++ [.str (z ++ s1)]))) := ((same_new n1).new n2).new n3
  have h3 : upd (upd (upd H1 p1 (.lst ((vs.take k).map V.str))) p2 (.lst [.str (z ++ s1)])) p3 (.lst ((vs.take k).map V.str ++ [.str (z ++ s1)])) p3 = some (.lst ((vs.take k).map V.str ++ [.str (z ++ s1)])) := upd_same
  revert s5 h3
  generalize upd (upd (upd H1 p1 (.lst ((vs.take k).map V.str))) p2 (.lst [.str (z ++ s1)])) p3 (.lst ((vs.take k).map V.str ++ [.str (z ++ s1)])) = H2
  intro s5 h3
  refine ⟨_, rfl, _, rfl, _, rfl, l, _, rfl, seq_at (s5 _ _ hl), fun p4 n4 => ?_⟩
  rw [cut_from, ← List.map_drop]
  have n34 : p3 ≠ p4 := ne_of_none h3 n4
  refine ⟨p3, p4, _, _, rfl, rfl, by rw [upd_ne n34]; exact h3, upd_same, line_of (by rw [List.length_append, List.length_map, List.length_map, List.length_take, List.length_drop]; show _ + 1 + _ ≤ 1000; omega), fun p5 n5 => ?_⟩
  have eP : (vs.take k).map V.str ++ [.str (z ++ s1)] ++ (vs.drop k).map V.str = (parted ws i k z).map V.str := by
    rw [parted_eq, hvs]
    unfold put
    rw [List.map_append, List.map_append]
    rfl
  have nH : H p5 = none := by
    cases e : H p5 with
    | none => rfl
    | some o =>
      have e2 := s5 _ _ (s2 _ _ e)
      have n45 : p5 ≠ p4 := fun z => by rw [z, upd_same] at n5; cases n5
      rw [upd_ne n45, e2] at n5
      cases n5
  exact q _ p5 (((s2.trans s5).new n4).new n5) (by rw [upd_same, eP]) nH
/-! ### _law_right_signs -/
def spRights : Sp := fun vs H Q _ => ∃ (a g : Addr) (k : Nat) (ws : List Str) (ns : List Int), vs = [.ref a, .ref g, nI k] ∧ H a = some (.lst (ws.map V.str)) ∧ Wd ws ∧ ws.length ≤ 50 ∧ H g = some (.lst (ns.map V.int)) ∧ ns.length ≤ 60 ∧
  ∀ (H' : Hp) (r : Addr), Same H H' → H' r = some (.lst ((rights ws ns k).map nI)) → H r = none → Q (.ref r) H'
theorem ok_l_right_signs (T : Tx K mg) : Cal P w K mg base CX0 2 "_law_right_signs" ["_law_words_here", "_law_grown", "_law_rank"] spRights := by
  have c_l_parted := ok_l_parted (P := P) (w := w) (base := base) T
  have c_l_cost := ok_l_cost (P := P) (w := w) (base := base) T
  have c_l_least := ok_l_least (P := P) (w := w) (base := base) T
  refine cal_of T.g_l_right_signs T.f_l_right_signs sc_l_right_signs (fun _ _ _ _ _ _ us hl => match us, hl with | [_, _, _], _ => rfl) (fun vs H Q E ⟨a, b, _, _, _, e, _⟩ => by rw [e]; rfl) (fun fd cdv A outer s H vs Q E hr h => ?_)
  obtain ⟨a, g, k, ws, ns, rfl, ha, hW, h50, hg, hn, q⟩ := h
  refine ⟨_, (pss_cons (ps_par (i := 3) (j := 4) (by rfl) sc_l_right_signs.nd rfl rfl (by decide) rfl rfl (pa_cons (pe_lst pa_nil) (pa_cons (pe_cal c_l_least (hr.mono (by decide)) rfl pass0 (pa_cons (pv 1) pa_nil)) pa_nil)) (by rfl))
    (pss_cons (ps_for PassesOwn.never rfl (pi_range1 rfl T.b_range (pa_cons (pe_callB call_len_seq (by rfl) T.b_len (by decide +kernel) (pa_cons (pv 0) pa_nil)) pa_nil)) (pg_name (i := 5) sc_l_right_signs.nd rfl (Or.inl rfl))
      (pss_cons (ps_setLc (i := 6) (own := [("_law_word", 7)]) (g := gName 7) (tt := tYes) rfl sc_l_right_signs.nd rfl rfl (sw_true rfl rfl rfl (by decide +kernel)) (pi_list (pe_cal c_l_parted (hr.mono (by decide)) rfl pass0 (pa_cons (pv 0) (pa_cons (pv 5) (pa_cons (pv 2) pa_nil))))) (blkOk_by (own := [("_law_word", 7)]) (N := n_l_right_signs) (sc := defScope s_l_right_signs) (by decide +kernel)) (fun _ _ _ _ _ => (pg_name (i := 7) sc_l_right_signs.nd rfl (Or.inl rfl))) (fun _ _ _ _ _ => pts_nil) (fun _ _ _ _ _ => (pe_callB call_len_str (by rfl) T.b_len (by decide +kernel) (pa_cons (pv 7) pa_nil))))
      (pss_one (ps_if (pt_cmpR op_eq (pe_cal c_l_cost (hr.mono (by decide)) rfl pass0 (pa_cons (pv 6) (pa_cons (pv 1) pa_nil))) (pv 4) (nomark _))
        (pss_one (ps_expr (pe_bm PySem.F.plainAttrs_list PySem.F.slot_list_append PySem.F.type_list_append mt_append (pv 3) (pa_cons (pv 5) pa_nil))))
        pss_nil))))
    (pss_one (ps_ret (pv 3))))), ?_⟩
  refine ⟨Nat.zero_le _, fun f nf => ?_⟩
  have sf : Same H (upd H f (.lst [])) := same_new nf
  have hf : upd H f (.lst []) f = some (.lst []) := upd_same
  revert sf hf
  generalize upd H f (.lst []) = H1
  intro sf hf
  refine ⟨_, rfl, g, ns, rfl, sf _ _ hg, hn, fun H2 s2 => ?_⟩
  refine ⟨_, _, rfl, ?_⟩
  refine ⟨_, rfl, a, _, rfl, .inl (seq_at (s2 _ _ (sf _ _ ha))), _, rfl, by rw [List.length_map]; omega, by rw [List.length_map]; omega, ?_⟩
  rw [List.length_map, Int.toNat_natCast]
  refine for_it walk_range (fun i σ H' => ∃ (v5 v6 : Option V), σ = [some (.ref a), some (.ref g), some (nI k), some (.ref f), some (.int (L ns)), v5, v6, none] ∧ Same H H' ∧ H' f = some (.lst (((List.range i).filter (rightB ws ns k)).map nI)))
    ⟨none, none, rfl, sf.trans s2, s2 _ _ hf⟩ (fun _ _ _ _ _ => trivial) ?_ ?_
  · rintro i x σ H3 H4 hi ⟨v5, v6, rfl, s4, hf4⟩ ⟨rfl, rfl⟩
    have hz : ws[i]? = some ws[i] := List.getElem?_eq_getElem hi
    have zl := hW.len ws[i] (List.getElem_mem hi)
    have fl : ((List.range i).filter (rightB ws ns k)).length ≤ 50 := by
      have := List.length_filter_le (rightB ws ns k) (List.range i)
      rw [List.length_range] at this
      omega
    refine ⟨_, rfl, _, rfl, _, rfl, a, i, k, ws, ws[i], by show [V.ref a, V.int (0 + (i : Int)), nI k] = _; rw [Int.zero_add], s4 _ _ ha, hz, by omega, by omega, fun H5 r s5 hr5 _ => ?_⟩
    have hWp := hW.parted k hz
    have lp : (parted ws i k ws[i]).length = ws.length + 1 := by rw [parted_eq, put_len, List.length_set]
    refine ⟨r, rfl, ⟨_, seq_at hr5⟩, fun D nD => ?_⟩
    refine lc_it walk_list (fun j H' => Same H5 H' ∧ H' D = some (.lst ((((parted ws i k ws[i]).take j).map Str.length).map nI))) ⟨same_new nD, by rw [upd_same]; rfl⟩ (fun j H' _ s => seq_at (s.1 _ _ hr5)) ?_ ?_
    · rintro j y H6 H7 hj ⟨s6, hD⟩ ⟨rfl, hv⟩
      obtain ⟨z, hz2, rfl⟩ := getS hv
      rw [List.length_map] at hj
      refine ⟨rfl, yesI ⟨_, rfl, z, rfl, ?_, ?_⟩⟩
      · have := hWp.len z (List.mem_of_getElem? hz2)
        exact line_of (by omega)
      · refine ⟨_, hD, by simp only [List.length_map, List.length_take]; exact small1000 (by omega), s6.mut nD, ?_⟩
        rw [upd_same, List.take_add_one, hz2, List.map_append, List.map_append]
        rfl
    · rintro H6 ⟨s6, hD⟩
      rw [List.length_map, List.take_length] at hD
      have s46 := (s4.trans s5).trans s6
      refine ⟨_, rfl, _, rfl, D, g, true, (parted ws i k ws[i]).map Str.length, ns, rfl, seq_at hD, s46 _ _ hg, ?_, by rw [List.length_map]; omega, fun H7 s7 => ?_⟩
      · intro l hl
        obtain ⟨z, hz2, rfl⟩ := List.mem_map.mp hl
        have := hWp.len z hz2
        omega
      have hf7 := s7 _ _ (s6 _ _ (s5 _ _ hf4))
      have s07 := s46.trans s7
      refine ⟨_, rfl, rfl, _, rfl, ?_⟩
      have er : rightB ws ns k i = decide (costP (ns.zip ((parted ws i k ws[i]).map Str.length)) = L ns) := by
        unfold rightB
        rw [hz]
      have e1 : decide (V.int (costP (ns.zip ((parted ws i k ws[i]).map Str.length))) = V.int (L ns)) = rightB ws ns k i := by
        rw [er]
        exact decide_eq_decide.mpr ⟨V.int.inj, congrArg V.int⟩
      rw [e1]
      cases hb : rightB ws ns k i with
      | true =>
        refine iteT ⟨_, rfl, .inl ⟨rfl, _, seq_at hf7⟩, _, rfl, f, _, _, rfl, rfl, hf7, by rw [List.length_map]; exact small1000 (by omega), _, _, rfl, s07.mut nf, ?_⟩
        rw [upd_same, List.range_succ, List.filter_append, List.map_append, List.filter_cons_of_pos hb]
        show some (HO.lst (_ ++ [V.int (0 + (i : Int))])) = _
        rw [Int.zero_add]
        rfl
      | false =>
        refine iteF ⟨_, _, rfl, s07, ?_⟩
        rw [hf7, List.range_succ, List.filter_append, List.filter_cons_of_neg (by rw [hb]; decide), List.filter_nil, List.append_nil]
  · rintro σ H3 ⟨v5, v6, rfl, s4, hf4⟩
    exact ⟨_, rfl, q H3 f s4 hf4 nf⟩
end
end K38


set_option Elab.async false
set_option linter.all false
set_option maxRecDepth 100000
set_option maxHeartbeats 4000000
/-! What the papers answer, in plain terms. -/
namespace K38
open PySem PySem.Spec PyProof.Rows L2 M38
theorem zip_put {α β : Type} {ns : List α} {ms : List β} (k : Nat) (c : α) (x : β) (h : ns.length = ms.length) : (put ns k c).zip (put ms k x) = put (ns.zip ms) k (c, x) := by
  unfold put
  rw [List.zip_append (by rw [List.length_append, List.length_append, List.length_take, List.length_take, h]; rfl), List.zip_append (by rw [List.length_take, List.length_take, h])]
  rw [show (ns.zip ms).take k = (ns.take k).zip (ms.take k) from by unfold List.zip; rw [List.take_zipWith], show (ns.zip ms).drop k = (ns.drop k).zip (ms.drop k) from by unfold List.zip; rw [List.drop_zipWith]]
  rfl
theorem costP_put (P : Pr) (k : Nat) (p : Int × Nat) : costP (put P k p) = p.1 * (p.2 : Int) + costP P := by rw [costP_perm (put_perm P k p), costP_cons]
theorem costP_set : ∀ {ns : List Int} {ls : List Nat} {i : Nat} {n : Int} {l : Nat}, ns[i]? = some n → ls[i]? = some l → costP (ns.zip (ls.set i (l + 1))) = costP (ns.zip ls) + n
  | [], _, _, _, _, h, _ => by simp at h
  | _ :: _, [], _, _, _, _, h => by simp at h
  | a :: ns, b :: ls, 0, n, l, h1, h2 => by
    have e1 : a = n := by simpa using h1
    have e2 : b = l := by simpa using h2
    rw [List.set_cons_zero, List.zip_cons_cons, List.zip_cons_cons, costP_cons, costP_cons, e1, e2]
    show n * ((l + 1 : Nat) : Int) + _ = n * (l : Int) + _ + n
    rw [Int.natCast_add, Int.mul_add]
    show n * (l : Int) + n * 1 + _ = _
    rw [Int.mul_one]
    omega
  | a :: ns, b :: ls, i + 1, n, l, h1, h2 => by
    rw [List.set_cons_succ, List.zip_cons_cons, List.zip_cons_cons, costP_cons, costP_cons, costP_set (ns := ns) (ls := ls) (i := i) (by simpa using h1) (by simpa using h2)]
    omega
theorem parted_lens {ws : List Str} {i k : Nat} {z : Str} (hz : ws[i]? = some z) : (parted ws i k z).map Str.length = put ((ws.map Str.length).set i (z.length + 1)) k (z.length + 1) := by
  rw [parted_eq]
  unfold put
  rw [List.map_append, List.map_append, List.map_take, List.map_drop, List.map_set, len_app, len0, List.map_cons, List.map_nil, len_app, len1]
/-- the price of a sign: what parting it costs more -/
theorem price_cost {ws : List Str} {ns : List Int} {i k : Nat} {z : Str} {n c : Int} (hl : ns.length = ws.length) (hz : ws[i]? = some z) (hn : ns[i]? = some n) :
    costP ((put ns k c).zip ((parted ws i k z).map Str.length)) = costP (ns.zip (ws.map Str.length)) + (n + c * ((z.length : Int) + 1)) := by
  have hzl : (ws.map Str.length)[i]? = some z.length := by rw [List.getElem?_map, hz]; rfl
  rw [parted_lens hz, zip_put k c _ (by rw [List.length_set, List.length_map]; exact hl), costP_put, costP_set hn hzl]
  show c * ((z.length + 1 : Nat) : Int) + _ = _
  rw [Int.natCast_add]
  show c * ((z.length : Int) + 1) + _ = _
  omega
theorem prices_get {ws : List Str} {ns : List Int} {i : Nat} {z : Str} {n c : Int} (hz : ws[i]? = some z) (hn : ns[i]? = some n) : (prices ns (ws.map Str.length) c)[i]? = some (n + c * ((z.length : Int) + 1)) := by
  unfold prices
  rw [List.getElem?_map, (List.getElem?_zip_eq_some (z := (n, z.length))).mpr ⟨hn, by rw [List.getElem?_map, hz]; rfl⟩]
  rfl
theorem prices_len {ws : List Str} {ns : List Int} {c : Int} (hl : ns.length = ws.length) : (prices ns (ws.map Str.length) c).length = ws.length := by
  unfold prices
  rw [List.length_map, List.length_zip, List.length_map]
  omega
section
variable {ws : List Str} {ns : List Int} {k : Nat} {c : Int} (hW : Wd ws) (hl : ns.length = ws.length) (h0 : ∀ n ∈ ns, 0 ≤ n) (hc : 0 ≤ c)
include hl
/-- right is the sign whose price is due -/
theorem right_iff {i : Nat} (hi : i < ws.length) : rightB ws (put ns k c) k i = true ↔ (prices ns (ws.map Str.length) c)[i]? = some (due ns (ws.map Str.length) k c) := by
  have hz : ws[i]? = some ws[i] := List.getElem?_eq_getElem hi
  have hn : ns[i]? = some (ns[i]'(by omega)) := List.getElem?_eq_getElem (by omega)
  unfold rightB
  rw [hz]
  dsimp only
  rw [decide_eq_true_eq, price_cost hl hz hn, prices_get hz hn, Option.some.injEq]
  unfold due
  omega
theorem mem_rights {i : Nat} : i ∈ rights ws (put ns k c) k ↔ i < ws.length ∧ (prices ns (ws.map Str.length) c)[i]? = some (due ns (ws.map Str.length) k c) := by
  unfold rights
  rw [List.mem_filter, List.mem_range]
  exact ⟨fun h => ⟨h.1, (right_iff hl h.1).mp h.2⟩, fun h => ⟨h.1, (right_iff hl h.1).mpr h.2⟩⟩
theorem right_mem : rights ws (put ns k c) k = [] ↔ due ns (ws.map Str.length) k c ∉ prices ns (ws.map Str.length) c := by
  constructor
  · intro h hm
    obtain ⟨i, hi⟩ := List.getElem?_of_mem hm
    have h2 : i < ws.length := by rw [← prices_len hl (c := c)]; exact (List.getElem?_eq_some_iff.mp hi).1
    have := (mem_rights hl (k := k) (c := c) (i := i)).mpr ⟨h2, hi⟩
    rw [h] at this
    cases this
  · intro h
    refine List.eq_nil_iff_forall_not_mem.mpr fun i hi => h ?_
    exact List.mem_of_getElem? ((mem_rights hl).mp hi).2
include hW h0 hc
/-- no parting costs less than the least -/
theorem due_le {p : Int} (hp : p ∈ prices ns (ws.map Str.length) c) : due ns (ws.map Str.length) k c ≤ p := by
  obtain ⟨i, hi⟩ := List.getElem?_of_mem hp
  have h2 : i < ws.length := by rw [← prices_len hl (c := c)]; exact (List.getElem?_eq_some_iff.mp hi).1
  have hz : ws[i]? = some ws[i] := List.getElem?_eq_getElem h2
  have hn : ns[i]? = some (ns[i]'(by omega)) := List.getElem?_eq_getElem (by omega)
  have e := prices_get (c := c) hz hn
  rw [hi] at e
  have e2 := Option.some.inj e
  have hWp := hW.parted k hz
  obtain ⟨D, hF⟩ := hWp.full
  have lenE : (put ns k c).length = ((parted ws i k ws[i]).map Str.length).length := by rw [put_len, List.length_map, parted_eq, put_len, List.length_set, hl]
  have hL := L_le (R := put ns k c) (P := (put ns k c).zip ((parted ws i k ws[i]).map Str.length)) (D := D) (by rw [List.map_fst_zip (by omega)]) (put_ge h0 hc) (by rw [List.map_snd_zip (by omega)]; exact hF)
  rw [price_cost hl hz hn] at hL
  unfold due
  omega
/-- all signs cost too much, if none is right -/
theorem none_right : (∀ p ∈ prices ns (ws.map Str.length) c, L (put ns k c) < costP (ns.zip (ws.map Str.length)) + p) ↔ rights ws (put ns k c) k = [] := by
  rw [right_mem hl]
  constructor
  · intro h hm
    have := h _ hm
    unfold due at this
    omega
  · intro h p hp
    have h1 := due_le hW hl h0 hc (k := k) hp
    have h2 : p ≠ due ns (ws.map Str.length) k c := fun e => h (e ▸ hp)
    unfold due at *
    omega
end
end K38

set_option Elab.async false
set_option linter.all false
set_option maxRecDepth 100000
set_option maxHeartbeats 4000000
/-! Some addresses hidden; repr of a bool. -/
namespace K38
open PySem PySem.Spec PyProof.Rows L2 M38
def hide (p : Addr → Bool) (H : Hp) : Hp := fun b => if p b = true then none else H b
section
variable {p : Addr → Bool} {K : PySem.W.Frag} {H H' : Hp} {a : Addr} {v : V}
theorem hide_at {o : HO} (e : H a = some o) (n : p a = false) : hide p H a = some o := by
  unfold hide
  rw [n]
  exact e
theorem hide_le (p : Addr → Bool) (H : Hp) : Same (hide p H) H := fun b o e => by
  unfold hide at e
  split at e
  · cases e
  · exact e
theorem hide_same (p : Addr → Bool) (s : Same H H') : Same (hide p H) (hide p H') := fun b o e => by
  unfold hide at *
  split at e
  · cases e
  · rename_i h
    rw [if_neg h]
    exact s b o e
theorem hide_px {d : Addr} (hd : p d = true) (s : Px d H H') : Same (hide p H) (hide p H') := fun b o e => by
  unfold hide at *
  split at e
  · cases e
  · rename_i h
    rw [if_neg h]
    exact s b o (fun z => h (by rw [z]; exact hd)) e
/-- what is hidden is of other kinds -/
def Hid (p : Addr → Bool) (H : Hp) : Prop := ∀ b, p b = true → (∃ kvs, H b = some (.dK kvs)) ∨ ∃ ps, H b = some (.tbl ps)
theorem Hid.no (h : Hid p H) {o : HO} (e : H a = some o) (n1 : ∀ kvs, o ≠ .dK kvs) (n2 : ∀ ps, o ≠ .tbl ps) : p a = false := by
  cases q : p a with
  | false => rfl
  | true =>
    rcases h a q with ⟨kvs, z⟩ | ⟨ps, z⟩
    · rw [z] at e
      exact absurd (Option.some.inj e).symm (n1 kvs)
    · rw [z] at e
      exact absurd (Option.some.inj e).symm (n2 ps)
theorem Hid.lst (h : Hid p H) {xs : List V} (e : H a = some (.lst xs)) : hide p H a = some (.lst xs) := hide_at e (h.no e (fun _ z => by cases z) fun _ z => by cases z)
theorem Hid.tup (h : Hid p H) {xs : List V} (e : H a = some (.tup xs)) : hide p H a = some (.tup xs) := hide_at e (h.no e (fun _ z => by cases z) fun _ z => by cases z)
theorem Hid.ins (h : Hid p H) {C dx : Addr} {fs : List (Str × V)} (e : H a = some (.ins C dx fs)) : hide p H a = some (.ins C dx fs) := hide_at e (h.no e (fun _ z => by cases z) fun _ z => by cases z)
theorem Hid.sqT (h : Hid p H) {xs : List V} (e : SqT K H a xs) : SqT K (hide p H) a xs := by
  rcases e with (e | ⟨o, e⟩) | e
  · exact tup_at (h.tup e)
  · exact .inl (.inr ⟨o, hide_at e (h.no e (fun _ z => by cases z) fun _ z => by cases z)⟩)
  · exact .inr e
theorem Hid.code (h : Hid p H) {ls : List Nat} {ws : List Str} (e : CodeAt K H a ls ws) : CodeAt K (hide p H) a ls ws := by
  obtain ⟨dx, A, B, m, h1, h2, h3⟩ := e.ex
  exact ⟨dx, A, B, m, h.ins h1, h.sqT h2, h.sqT h3⟩
theorem Hid.va (h : Hid p H) (e : Va K H v) : Va K (hide p H) v := by
  cases e with
  | non => exact .non
  | int i => exact .int i
  | bl b => exact .bl b
  | str z => exact .str z
  | lst e => exact .lst (h.lst e)
  | cod e => exact .cod (h.ins e)
theorem Hid.nl (h : Hid p H) (e : Nl K H v) : Nl K (hide p H) v := by
  cases e with
  | non => exact .non
  | int i => exact .int i
  | bl b => exact .bl b
  | str z => exact .str z
  | cod e => exact .cod (h.ins e)
theorem Hid.nc (h : Hid p H) (e : Nc H v) : Nc (hide p H) v := by
  cases e with
  | non => exact .non
  | int i => exact .int i
  | bl b => exact .bl b
  | str z => exact .str z
  | lst e => exact .lst (h.lst e)
theorem Hid.cl (h : Hid p H) {on : Option (List Int)} (e : Cl K H v on) : Cl K (hide p H) v on := by
  rcases e with ⟨a, ns, e1, e2, e3, e4⟩ | ⟨e, n⟩
  · exact .inl ⟨a, ns, e1, e2, h.lst e3, e4⟩
  · exact .inr ⟨e, h.nl n⟩
theorem Hid.cdo (h : Hid p H) {oc : Option (List Nat)} (e : Cdo K H v oc) : Cdo K (hide p H) v oc := by
  rcases e with ⟨r, ls, ws, e1, e2, c, g⟩ | ⟨e, n⟩
  · exact .inl ⟨r, ls, ws, e1, e2, h.code c, g⟩
  · exact .inr ⟨e, h.nc n⟩
end
/-- the pen alone -/
def only (d : Addr) : Addr → Bool := fun b => b == d
theorem only_d (d : Addr) : only d d = true := beq_self_eq_true d
theorem hid_pen {H : Hp} {d l : Addr} {B : Nat} (h : PenAt H d l B) : Hid (only d) H := fun b hb => by
  obtain ⟨cs, n, r, e, _⟩ := h.ex
  have : b = d := by
    have z : (b == d) = true := hb
    exact eq_of_beq z
  rw [this]
  exact .inl ⟨_, e⟩
theorem call_repr_b {X : Cx} : CallR X (.builtin "repr") (fun xs H Q => ∃ b : Bool, xs = [.bl b] ∧ Q (.str (if b = true then "True" else "False")) H) := by
  intro pins s σ H xs us Q I r h
  obtain ⟨b, rfl, q⟩ := h
  obtain ⟨u, rfl, ru⟩ := vals1 r
  cases (show u = Value.bool b from ru)
  exact PySem.P.repr_of_bool ⟨.str _, H, I.tok _, ⟨_, rfl⟩, q⟩
theorem repr_ne (a b : Bool) : (!decide (V.str (if a = true then "True" else "False") = V.str (if b = true then "True" else "False"))) = !decide (a = b) := by
  cases a <;> cases b <;> decide +kernel
end K38

set_option Elab.async false
set_option linter.all false
set_option maxRecDepth 100000
set_option maxHeartbeats 8000000
set_option pp.maxSteps 300
/-! _law_are_papers -/
namespace K38
open PySem PySem.Spec PyProof.Rows L2 M38
/-- is the sign right, as the law says it -/
def signB (R : List Nat) : V → Bool
  | .int s => inV (.int s) (R.map nI)
  | _ => false
theorem inV_nats {R : List Nat} {s : Int} : inV (.int s) (R.map nI) = true ↔ ∃ i ∈ R, s = (i : Int) := by
  rw [nI_map, inV_ints]
  constructor
  · intro h
    obtain ⟨i, hi, e⟩ := List.mem_map.mp h
    exact ⟨i, hi, e.symm⟩
  · rintro ⟨i, hi, rfl⟩
    exact List.mem_map.mpr ⟨i, hi, rfl⟩
theorem fit_ok {ls : List Nat} {ns : List Int} {k : Nat} {c : Int} (hl : ns.length = ls.length) (hk : k ≤ ls.length) (hc : 0 ≤ c) : fit (some ls) (some ns) (nI k) (.int c) = some (ls, ns, k, c) := by
  have e : fit (some ls) (some ns) (nI k) (.int c) = some (ls, ns, (iv (nI k)).toNat, iv (.int c)) := if_pos ⟨hl, decide_eq_true (show (0 : Int) ≤ k by omega), (show (k : Int) ≤ (ls.length : Int) by omega), decide_eq_true hc⟩
  rw [e]
  rw [show (iv (nI k)).toNat = k from Int.toNat_natCast k]
  rfl
theorem kept_sign {ws : List Str} {ns : List Int} {k : Nat} {c : Int} (hl : ns.length = ws.length) (hk : k ≤ ws.length) (hc : 0 ≤ c) (v : V) :
    keptB (some (ws.map Str.length)) (some ns) (nI k) (.int c) v = signB (rights ws (put ns k c) k) v := by
  have ef := fit_ok (ls := ws.map Str.length) (ns := ns) (k := k) (by rw [List.length_map]; exact hl) (by rw [List.length_map]; exact hk) hc
  unfold keptB
  rw [ef]
  dsimp only
  cases v with
  | int s =>
    rw [Bool.eq_iff_iff, Bool.and_eq_true, Bool.and_eq_true, decide_eq_true_eq, decide_eq_true_eq]
    show _ ↔ inV (.int s) ((rights ws (put ns k c) k).map nI) = true
    rw [inV_nats]
    show ((decide (0 ≤ s) = true ∧ s < ((ws.map Str.length).length : Int)) ∧ _) ↔ _
    rw [decide_eq_true_eq, List.length_map]
    constructor
    · rintro ⟨⟨h1, h2⟩, h3⟩
      refine ⟨s.toNat, (mem_rights hl).mpr ⟨by omega, h3⟩, by omega⟩
    · rintro ⟨i, hi, rfl⟩
      obtain ⟨h1, h2⟩ := (mem_rights hl).mp hi
      exact ⟨⟨by omega, by omega⟩, by rw [show (iv (V.int (i : Int))).toNat = i from Int.toNat_natCast i]; exact h2⟩
  | _ => rfl
theorem rec_none {oc : Option (List Nat)} {on : Option (List Int)} {v3 v4 : V} : recB oc on v3 v4 none = false := by
  cases h : fit oc on v3 v4 with
  | none => exact recB_none h
  | some z =>
    obtain ⟨ls, ns, rk, c⟩ := z
    exact recB_some h none
theorem rec_sign {ws : List Str} {ns : List Int} {k : Nat} {c : Int} (hW : Wd ws) (hl : ns.length = ws.length) (h0 : ∀ n ∈ ns, 0 ≤ n) (hk : k ≤ ws.length) (hc : 0 ≤ c) (ms : List Nat) :
    recB (some (ws.map Str.length)) (some ns) (nI k) (.int c) (some ms) = (decide (ms.length = ws.length + 1) && (((rights ws (put ns k c) k).map nI).isEmpty && decide (costP ((put ns k c).zip ms) = L (put ns k c)))) := by
  rw [recB_some (fit_ok (ls := ws.map Str.length) (ns := ns) (k := k) (by rw [List.length_map]; exact hl) (by rw [List.length_map]; exact hk) hc)]
  dsimp only
  rw [Bool.eq_iff_iff, decide_eq_true_eq, Bool.and_eq_true, Bool.and_eq_true, decide_eq_true_eq, decide_eq_true_eq, List.isEmpty_iff, List.map_eq_nil_iff, hl]
  constructor
  · rintro ⟨h1, h2, h3⟩
    refine ⟨h1, (none_right hW hl h0 hc).mp fun p hp => ?_, h2⟩
    rw [← h2]
    exact h3 p hp
  · rintro ⟨h1, h2, h3⟩
    refine ⟨h1, h3, fun p hp => ?_⟩
    rw [h3]
    exact (none_right hW hl h0 hc).mpr h2 p hp
/-- a wrong paper's four -/
def Strange (K : PySem.W.Frag) (H : Hp) (x : V) : Prop := ∃ t v1 v2 v3 v4 oc on, x = .ref t ∧ H t = some (.tup [v1, v2, v3, v4]) ∧ Cdo K H v1 oc ∧ Cl K H v2 on ∧ (∀ ls, oc = some ls → ls.length ≤ 50) ∧ (∀ ns, on = some ns → ∀ n ∈ ns, 0 ≤ n) ∧ Va K H v3 ∧ Va K H v4 ∧ fit oc on v3 v4 = none
theorem Strange.same {K : PySem.W.Frag} {H H' : Hp} {x : V} (h : Strange K H x) (s : Same H H') : Strange K H' x := by
  obtain ⟨t, v1, v2, v3, v4, oc, on, e, ht, h1, h2, h3, h4, h5, h6, h7⟩ := h
  exact ⟨t, v1, v2, v3, v4, oc, on, e, s _ _ ht, h1.same s, h2.same s, h3, h4, h5.same s, h6.same s, h7⟩
theorem Strange.hide {K : PySem.W.Frag} {p : Addr → Bool} {H : Hp} {x : V} (h : Strange K H x) (hh : Hid p H) : Strange K (K38.hide p H) x := by
  obtain ⟨t, v1, v2, v3, v4, oc, on, e, ht, h1, h2, h3, h4, h5, h6, h7⟩ := h
  exact ⟨t, v1, v2, v3, v4, oc, on, e, hh.tup ht, hh.cdo h1, hh.cl h2, h3, h4, hh.va h5, hh.va h6, h7⟩
theorem fit_n1 {on : Option (List Int)} {v3 v4 : V} : fit none on v3 v4 = none := rfl
theorem fit_n2 {ls : List Nat} {v3 v4 : V} : fit (some ls) none v3 v4 = none := rfl
theorem fit_n {ls : List Nat} {ns : List Int} {v3 v4 : V} (h : ¬ (ns.length = ls.length ∧ isCnt v3 = true ∧ iv v3 ≤ ls.length ∧ isCnt v4 = true)) : fit (some ls) (some ns) v3 v4 = none := if_neg h
section
variable {P : Program} {w : World} {K : PySem.W.Frag} {mg : Str → Option Value} {base : Heap}
def spPapers (K : PySem.W.Frag) : Sp := fun vs H Q _ => ∃ (d l a t r : Addr) (ws : List Str) (ns : List Int) (k : Nat) (c : Int) (B : Nat), vs = [.ref d, .ref a, .ref t, nI k, .int c, .ref r] ∧ PenAt H d l B ∧ H a = some (.lst (ws.map V.str)) ∧ Wd ws ∧ ws.length ≤ 20 ∧ H t = some (.lst (ns.map V.int)) ∧ ns.length = ws.length ∧ (∀ n ∈ ns, 0 ≤ n) ∧ k ≤ ws.length ∧ 0 ≤ c ∧
  H r = some (.lst ((rights ws (put ns k c) k).map nI)) ∧ B ≤ 600000 ∧ ∀ H', Px d H H' → PenAt H' d l (B + 2000) → Q (.bl true) H'
theorem ok_l_are_papers (T : Tx K mg) : Cal P w K mg base CX0 6 "_law_are_papers" ["_law_pen", "_law_words_here", "_law_counts", "_law_rank", "_law_count", "_law_right"] (spPapers K) := by
  have c_l_code := ok_l_code (P := P) (w := w) (base := base) T
  have c_l_cost := ok_l_cost (P := P) (w := w) (base := base) T
  have c_l_least := ok_l_least (P := P) (w := w) (base := base) T
  have c_l_pick := ok_l_pick (P := P) (w := w) (base := base) T
  have c_l_shuffled := ok_l_shuffled (P := P) (w := w) (base := base) T
  have c_l_some_code := ok_l_some_code (P := P) (w := w) (base := base) T
  have c_is_kept := ok_is_kept (P := P) (w := w) (base := base) T
  have c_is_recoded := ok_is_recoded (P := P) (w := w) (base := base) T
  have c_Code1 := mk_code1 (P := P) (w := w) (base := base) T
  have c_Kept5 := mk_Kept (P := P) (w := w) (base := base) T
  have c_Recoded5 := mk_Recoded (P := P) (w := w) (base := base) T
  refine cal_of T.g_l_are_papers T.f_l_are_papers sc_l_are_papers (fun _ _ _ _ _ _ us hl => match us, hl with | [_, _, _, _, _, _], _ => rfl) (fun vs H Q E ⟨_, _, _, _, _, _, _, _, _, _, e, _⟩ => by rw [e]; rfl) (fun fd cdv A outer s H vs Q E hr h => ?_)
  obtain ⟨d, lc, a, t, r, ws, ns, k, c, B, rfl, hp, ha, hW, h20, ht, hl, h0, hk, hc0, hR, hB, q⟩ := h
  refine ⟨_, (pss_cons (ps_set (i := 6) sc_l_are_papers.nd rfl (Or.inl rfl) (pe_cal c_l_code (hr.mono (by decide)) rfl pass0 (pa_cons (pv 1) pa_nil)))
    (pss_cons (ps_set (i := 7) sc_l_are_papers.nd rfl (Or.inl rfl) (pe_op op_cat (pe_op op_cat (pe_slice sl_list (pv 2) po_none (po_some (pv 3))) (pe_lst (pa_cons (pv 4) pa_nil))) (pe_slice sl_list (pv 2) (po_some (pv 3)) po_none)))
    (pss_cons (ps_set (i := 8) sc_l_are_papers.nd rfl (Or.inl rfl) (pe_op op_cat (pe_listRg rfl rfl T.b_list (prg_1 rfl T.b_range (pe_callB call_len_seq (by rfl) T.b_len (by decide +kernel) (pa_cons (pv 1) pa_nil)))) (pe_lst (pa_cons (pe_callB call_len_seq (by rfl) T.b_len (by decide +kernel) (pa_cons (pv 1) pa_nil)) (pa_cons (pe_un un_neg pe_int) (pa_cons pe_non (pa_cons pe_str (pa_cons pe_bl pa_nil))))))))
    (pss_cons (ps_for PassesOwn.never rfl (pi_list (pe_slice sl_list (pe_cal c_l_shuffled (hr.mono (by decide)) rfl pass0 (pa_cons (pv 0) (pa_cons (pv 8) pa_nil))) po_none (po_some pe_int))) (pg_name (i := 9) sc_l_are_papers.nd rfl (Or.inl rfl))
      (pss_cons (ps_set (i := 10) sc_l_are_papers.nd rfl (Or.inl rfl) (pe_and (pe_callB call_isi (by rfl) T.b_isinstance (by decide +kernel) (pa_cons (pv 9) (pa_cons (pe_bltn (v := .ty "int") (u := .type "int") rfl T.b_int (by decide +kernel) rfl) pa_nil))) (pe_and (pe_not (pe_callB call_isi (by rfl) T.b_isinstance (by decide +kernel) (pa_cons (pv 9) (pa_cons (pe_bltn (v := .ty "bool") (u := .type "bool") rfl T.b_bool (by decide +kernel) rfl) pa_nil)))) (pe_one (pe_cmpR (r := rIn K false) op_in_seq (pv 9) (pv 5) (by rfl))))))
      (pss_one (ps_if (pt_cmpR op_ne (pe_callB call_repr_b (by rfl) T.b_repr (by decide +kernel) (pa_cons (pe_cal c_is_kept (hr.mono (by decide)) rfl pass0 (pa_cons (C8.pe_mk c_Kept5 hr (by decide) rfl (pa_cons (pv 6) (pa_cons (pv 2) (pa_cons (pv 3) (pa_cons (pv 4) (pa_cons (pv 9) pa_nil)))))) pa_nil)) pa_nil)) (pe_callB call_repr_b (by rfl) T.b_repr (by decide +kernel) (pa_cons (pv 10) pa_nil)) (nomark _))
        (pss_one (ps_ret pe_bl))
        pss_nil))))
    (pss_cons (ps_set (i := 11) sc_l_are_papers.nd rfl (Or.inl rfl) (pe_lst (pa_cons (pe_tup (pa_cons pe_non (pa_cons (pv 2) (pa_cons (pv 3) (pa_cons (pv 4) pa_nil))))) (pa_cons (pe_tup (pa_cons (pv 6) (pa_cons (pe_op op_cat (pv 2) (pe_lst (pa_cons pe_int pa_nil))) (pa_cons (pv 3) (pa_cons (pv 4) pa_nil))))) (pa_cons (pe_tup (pa_cons (pv 6) (pa_cons pe_non (pa_cons (pv 3) (pa_cons (pv 4) pa_nil))))) pa_nil)))))
    (pss_cons (ps_set (i := 11) sc_l_are_papers.nd rfl (Or.inl rfl) (pe_op op_cat (pv 11) (pe_lst (pa_cons (pe_tup (pa_cons (pv 6) (pa_cons (pv 2) (pa_cons (pe_op op_add (pe_callB call_len_seq (by rfl) T.b_len (by decide +kernel) (pa_cons (pv 1) pa_nil)) pe_int) (pa_cons (pv 4) pa_nil))))) (pa_cons (pe_tup (pa_cons (pv 6) (pa_cons (pv 2) (pa_cons pe_bl (pa_cons (pv 4) pa_nil))))) (pa_cons (pe_tup (pa_cons (pv 6) (pa_cons (pv 2) (pa_cons (pv 3) (pa_cons (pe_un un_neg pe_int) pa_nil))))) pa_nil))))))
    (pss_cons (ps_set (i := 11) sc_l_are_papers.nd rfl (Or.inl rfl) (pe_op op_cat (pv 11) (pe_lst (pa_cons (pe_tup (pa_cons pe_str (pa_cons (pv 2) (pa_cons (pv 3) (pa_cons (pv 4) pa_nil))))) (pa_cons (pe_tup (pa_cons (pv 6) (pa_cons pe_str (pa_cons (pv 3) (pa_cons (pv 4) pa_nil))))) (pa_cons (pe_tup (pa_cons (pv 6) (pa_cons (pv 6) (pa_cons (pv 3) (pa_cons (pv 4) pa_nil))))) pa_nil))))))
    (pss_cons (ps_set (i := 11) sc_l_are_papers.nd rfl (Or.inl rfl) (pe_op op_cat (pv 11) (pe_lst (pa_cons (pe_tup (pa_cons (pv 6) (pa_cons (pv 2) (pa_cons pe_non (pa_cons (pv 4) pa_nil))))) (pa_cons (pe_tup (pa_cons (pv 6) (pa_cons (pv 2) (pa_cons (pv 6) (pa_cons (pv 4) pa_nil))))) (pa_cons (pe_tup (pa_cons (pv 6) (pa_cons (pv 2) (pa_cons (pv 3) (pa_cons pe_str pa_nil))))) pa_nil))))))
    (pss_cons (ps_asg (pe_cal c_l_pick (hr.mono (by decide)) rfl pass0 (pa_cons (pv 0) (pa_cons (pv 11) pa_nil))) (pg_tup rfl (pgs_cons (pg_name (i := 12) sc_l_are_papers.nd rfl (Or.inl rfl)) (pgs_cons (pg_name (i := 13) sc_l_are_papers.nd rfl (Or.inl rfl)) (pgs_cons (pg_name (i := 14) sc_l_are_papers.nd rfl (Or.inl rfl)) (pgs_cons (pg_name (i := 15) sc_l_are_papers.nd rfl (Or.inl rfl)) pgs_nil))))))
    (pss_cons (ps_if (pt_cmpR op_notBl (pe_cal c_is_kept (hr.mono (by decide)) rfl pass0 (pa_cons (C8.pe_mk c_Kept5 hr (by decide) rfl (pa_cons (pv 12) (pa_cons (pv 13) (pa_cons (pv 14) (pa_cons (pv 15) (pa_cons pe_int pa_nil)))))) pa_nil)) pe_bl (nomark _))
      (pss_one (ps_ret pe_bl))
      pss_nil)
    (pss_cons (ps_if (pt_cmpR op_notBl (pe_cal c_is_recoded (hr.mono (by decide)) rfl pass0 (pa_cons (C8.pe_mk c_Recoded5 hr (by decide) rfl (pa_cons (pv 12) (pa_cons (pv 13) (pa_cons (pv 14) (pa_cons (pv 15) (pa_cons (C8.pe_mk c_Code1 hr (by decide) rfl (pa_cons (pe_cal c_l_some_code (hr.mono (by decide)) rfl pass0 (pa_cons (pv 0) (pa_cons (pe_callB call_len_seq (by rfl) T.b_len (by decide +kernel) (pa_cons (pv 7) pa_nil)) pa_nil))) pa_nil)) pa_nil)))))) pa_nil)) pe_bl (nomark _))
      (pss_one (ps_ret pe_bl))
      pss_nil)
    (pss_cons (ps_set (i := 16) sc_l_are_papers.nd rfl (Or.inl rfl) (pe_lst (pa_cons (C8.pe_mk c_Code1 hr (by decide) rfl (pa_cons (pe_cal c_l_some_code (hr.mono (by decide)) rfl pass0 (pa_cons (pv 0) (pa_cons (pe_callB call_len_seq (by rfl) T.b_len (by decide +kernel) (pa_cons (pv 7) pa_nil)) pa_nil))) pa_nil)) (pa_cons (C8.pe_mk c_Code1 hr (by decide) rfl (pa_cons (pe_cal c_l_some_code (hr.mono (by decide)) rfl pass0 (pa_cons (pv 0) (pa_cons (pe_op op_add (pe_callB call_len_seq (by rfl) T.b_len (by decide +kernel) (pa_cons (pv 7) pa_nil)) pe_int) pa_nil))) pa_nil)) (pa_cons pe_non (pa_cons (pv 7) pa_nil))))))
    (pss_cons (ps_for PassesOwn.never rfl (pi_list (pv 16)) (pg_name (i := 17) sc_l_are_papers.nd rfl (Or.inl rfl))
      (pss_cons (ps_set (i := 10) sc_l_are_papers.nd rfl (Or.inl rfl) (pe_and (pe_callB call_isi (by rfl) T.b_isinstance (by decide +kernel) (pa_cons (pv 17) (pa_cons (pe_glob (v := .ref (He.ga K "Code")) rfl T.g_Code rfl) pa_nil))) (pe_and (pe_cmpR op_eq (pe_fld (pv 17) rfl) (pe_callB call_len_seq (by rfl) T.b_len (by decide +kernel) (pa_cons (pv 7) pa_nil)) (nomark _)) (pe_one (pe_cmpR (op_eqD hr.units) (pv 5) (pe_lst pa_nil) (nomark _))))))
      (pss_cons (ps_set (i := 10) sc_l_are_papers.nd rfl (Or.inl rfl) (pe_and (pv 10) (pe_one (pe_cmpR op_eq (pe_cal c_l_cost (hr.mono (by decide)) rfl pass0 (pa_cons (pe_fld (pv 17) rfl) (pa_cons (pv 7) pa_nil))) (pe_cal c_l_least (hr.mono (by decide)) rfl pass0 (pa_cons (pv 7) pa_nil)) (nomark _)))))
      (pss_one (ps_if (pt_cmpR op_ne (pe_callB call_repr_b (by rfl) T.b_repr (by decide +kernel) (pa_cons (pe_cal c_is_recoded (hr.mono (by decide)) rfl pass0 (pa_cons (C8.pe_mk c_Recoded5 hr (by decide) rfl (pa_cons (pv 6) (pa_cons (pv 2) (pa_cons (pv 3) (pa_cons (pv 4) (pa_cons (pv 17) pa_nil)))))) pa_nil)) pa_nil)) (pe_callB call_repr_b (by rfl) T.b_repr (by decide +kernel) (pa_cons (pv 10) pa_nil)) (nomark _))
        (pss_one (ps_ret pe_bl))
        pss_nil)))))
    (pss_one (ps_ret pe_bl))))))))))))))), ?_⟩
  have hG := hW.good (show ws.length ≤ 60 by omega)
  refine ⟨_, rfl, a, ws, rfl, ha, hW, by omega, fun H1 co s1 hco => ?_⟩
  have ht1 := s1 _ _ ht
  refine ⟨_, rfl, _, rfl, _, rfl, t, _, rfl, seq_at ht1, fun p1 n1 => ?_⟩
  rw [cut_to, ← List.map_take]
  refine ⟨_, rfl, (by show 1 ≤ sizeLine; decide), fun p2 n2 => ?_⟩
  have n12 : p1 ≠ p2 := ne_of_none upd_same n2
  refine ⟨p1, p2, _, _, rfl, rfl, by rw [upd_ne n12, upd_same], upd_same, line_of (by rw [List.length_map, List.length_take]; show _ + 1 ≤ 1000; omega), fun p3 n3 => ?_⟩
  refine ⟨_, rfl, _, rfl, _, rfl, t, _, rfl, seq_at ((((same_new n1).new n2).new n3) _ _ ht1), fun p4 n4 => ?_⟩
  rw [cut_from, ← List.map_drop]
  have n34 : p3 ≠ p4 := ne_of_none upd_same n4
  refine ⟨p3, p4, _, _, rfl, rfl, by rw [upd_ne n34, upd_same], upd_same, line_of (by rw [List.length_append, List.length_map, List.length_map, List.length_take, List.length_drop]; show _ + 1 + _ ≤ 1000; omega), fun g n5 => ?_⟩
  have eg : (ns.take k).map V.int ++ [.int c] ++ (ns.drop k).map V.int = (put ns k c).map V.int := by unfold put; rw [List.map_append, List.map_append]; rfl
  have s2 : Same H (upd (upd (upd (upd (upd H1 p1 (.lst ((ns.take k).map V.int))) p2 (.lst [.int c])) p3 (.lst ((ns.take k).map V.int ++ [.int c]))) p4 (.lst ((ns.drop k).map V.int))) g (.lst ((ns.take k).map V.int ++ [.int c] ++ (ns.drop k).map V.int))) := s1.trans (((((same_new n1).new n2).new n3).new n4).new n5)
  have s12 : Same H1 (upd (upd (upd (upd (upd H1 p1 (.lst ((ns.take k).map V.int))) p2 (.lst [.int c])) p3 (.lst ((ns.take k).map V.int ++ [.int c]))) p4 (.lst ((ns.drop k).map V.int))) g (.lst ((ns.take k).map V.int ++ [.int c] ++ (ns.drop k).map V.int))) := (((((same_new n1).new n2).new n3).new n4).new n5)
  have hg : upd (upd (upd (upd (upd H1 p1 (.lst ((ns.take k).map V.int))) p2 (.lst [.int c])) p3 (.lst ((ns.take k).map V.int ++ [.int c]))) p4 (.lst ((ns.drop k).map V.int))) g (.lst ((ns.take k).map V.int ++ [.int c] ++ (ns.drop k).map V.int)) g = some (.lst ((put ns k c).map V.int)) := by rw [upd_same, eg]
  revert s2 s12 hg
  generalize upd (upd (upd (upd (upd H1 p1 (.lst ((ns.take k).map V.int))) p2 (.lst [.int c])) p3 (.lst ((ns.take k).map V.int ++ [.int c]))) p4 (.lst ((ns.drop k).map V.int))) g (.lst ((ns.take k).map V.int ++ [.int c] ++ (ns.drop k).map V.int)) = H2
  intro s2 s12 hg
  have hco2 := hco.same s12
  have ha2 := s2 _ _ ha
  refine ⟨_, rfl, a, _, rfl, .inl (seq_at ha2), _, rfl, .of_le (by decide) (by rw [List.length_map]; omega) (by decide) (by omega), fun x1 m1 => ?_⟩
  have sx1 : Same H2 (upd H2 x1 (.lst (rgV 0 ((ws.map V.str).length : Int)))) := same_new m1
  refine ⟨_, rfl, a, _, rfl, .inl (seq_at (sx1 _ _ ha2)), _, rfl, (by show 5 ≤ sizeLine; decide), fun x2 m2 => ?_⟩
  have nx12 : x1 ≠ x2 := ne_of_none upd_same m2
  refine ⟨x1, x2, _, _, rfl, rfl, by rw [upd_ne nx12, upd_same], upd_same, line_of (by rw [rgV_length, List.length_map]; show _ + 5 ≤ 1000; omega), fun x3 m3 => ?_⟩
  have hsg : ∀ v ∈ rgV 0 ((ws.map V.str).length : Int) ++ ([V.int ((ws.map V.str).length : Int), V.int (-1), V.non, V.str "0", V.bl true] : List V), (∃ s, v = .int s) ∨ v = .non ∨ v = .str "0" ∨ v = .bl true := fun v hv => by
    rcases List.mem_append.mp hv with h | h
    · obtain ⟨i, _, rfl⟩ := List.mem_map.mp h
      exact .inl ⟨_, rfl⟩
    · simp only [List.mem_cons, List.not_mem_nil, or_false] at h
      rcases h with h | h | h | h | h
      · exact .inl ⟨_, h⟩
      · exact .inl ⟨_, h⟩
      · exact .inr (.inl h)
      · exact .inr (.inr (.inl h))
      · exact .inr (.inr (.inr h))
  have hlen : (rgV 0 ((ws.map V.str).length : Int) ++ ([V.int ((ws.map V.str).length : Int), V.int (-1), V.non, V.str "0", V.bl true] : List V)).length ≤ 30 := by
    rw [List.length_append, rgV_length, List.length_map]
    show _ + 5 ≤ 30
    omega
  refine ⟨_, rfl, _, rfl, d, lc, x3, _, B, rfl, (hp.same s2).same ((sx1.new m2).new m3), upd_same, Nat.le_trans hlen (by decide), fun v hv => ?_, by omega, fun H3 y1 ys px3 hp3 pm hy1 ny1 => ?_⟩
  · rcases hsg v hv with ⟨s, e⟩ | e | e | e
    · rw [e]; rfl
    · rw [e]; decide +kernel
    · rw [e]; decide +kernel
    · rw [e]; decide +kernel
  have px23 : Px d H2 H3 := (Px.of ((sx1.new m2).new m3)).trans px3
  have px03 : Px d H H3 := (Px.of s2).trans px23
  have hp3 := hp3.mono (show B + _ ≤ B + 30 from Nat.add_le_add_left hlen B)
  have nad := hp.neL ha
  have ntd := hp.neL ht
  have nrd := hp.neL hR
  have hpen2 := hid_pen (hp.same s2)
  have ngd := (hp.same s2).neL hg
  have ha3 := px03 _ _ nad ha
  have ht3 := px03 _ _ ntd ht
  have hR3 := px03 _ _ nrd hR
  have hg3 := px23 _ _ ngd hg
  have hs23 := hide_px (only_d d) px23
  have hco3 := ((hpen2.code hco2).same hs23).same (hide_le _ _)
  have hys : ∀ v ∈ ys, (∃ s, v = .int s) ∨ v = .non ∨ v = .str "0" ∨ v = .bl true := fun v hv => hsg v (pm.mem_iff.mp hv)
  have lys : ys.length ≤ 30 := by rw [pm.length_eq]; exact hlen
  refine ⟨_, rfl, y1, _, rfl, seq_at hy1, fun z1 nz1 => ?_⟩
  rw [show (some (5 : Int)) = some ((5 : Nat) : Int) from rfl, cut_to]
  have sz : Same H3 (upd H3 z1 (.lst (ys.take 5))) := same_new nz1
  have hz1 : upd H3 z1 (.lst (ys.take 5)) z1 = some (.lst (ys.take 5)) := upd_same
  revert sz hz1
  generalize upd H3 z1 (.lst (ys.take 5)) = H4
  intro sz hz1
  have ht4 := sz _ _ ht3
  have hR4 := sz _ _ hR3
  have hco4 := hco3.same sz
  have h50 : ∀ ls, some (ws.map Str.length) = some ls → ls.length ≤ 50 := fun ls e => by rw [← Option.some.inj e, List.length_map]; omega
  have h00 : ∀ ms, some ns = some ms → ∀ n ∈ ms, 0 ≤ n := fun ms e => by rw [← Option.some.inj e]; exact h0
  have hbool : ∀ x : Bool, (!decide (x = x)) = false := fun x => by cases x <;> rfl
  refine ⟨z1, rfl, ⟨_, seq_at hz1⟩, ?_⟩
  refine for_it walk_list (fun i σ H' => ∃ (v9 v10 : Option V), σ = [some (.ref d), some (.ref a), some (.ref t), some (nI k), some (.int c), some (.ref r), some (.ref co), some (.ref g), some (.ref x3), v9, v10, none, none, none, none, none, none, none] ∧ Same H4 H')
    ⟨none, none, rfl, .refl H4⟩ (fun i σ H' _ ⟨_, _, _, s⟩ => seq_at (s _ _ hz1)) ?_ ?_
  · rintro i v σ H5 H6 hi ⟨v9, v10, rfl, s5⟩ ⟨rfl, hv⟩
    have hvm : v ∈ ys := List.mem_of_mem_take (List.mem_of_getElem? hv)
    have ht5 := s5 _ _ ht4
    have hR5 := s5 _ _ hR4
    have hcl : Cl K H6 (.ref t) (some ns) := .inl ⟨t, ns, rfl, rfl, ht5, by omega⟩
    have hcd : Cdo K H6 (.ref co) (some (ws.map Str.length)) := .inl ⟨co, _, ws, rfl, rfl, hco4.same s5, hG⟩
    have hks := kept_sign (ws := ws) (ns := ns) (k := k) (c := c) hl hk hc0 v
    rcases hys v hvm with ⟨sv, rfl⟩ | rfl | rfl | rfl
    case' inl =>
      have hva : Va K H6 (.int sv) := .int sv
      have hD : keptB (some (ws.map Str.length)) (some ns) (nI k) (.int c) (.int sv) = (if false = true then !inV (.int sv) ((rights ws (put ns k c) k).map nI) else inV (.int sv) ((rights ws (put ns k c) k).map nI)) := hks
      refine ⟨_, rfl, _, _, _, _, _, rfl, .ty "int", .base (.int sv), kit_ty (r := true) (by decide +kernel), _, rfl, iteT ⟨_, rfl, _, _, _, _, _, rfl, .ty "bool", .base (.int sv), kit_ty (r := false) (by decide +kernel), _, rfl, _, rfl, iteT ⟨_, rfl, _, rfl, r, _, rfl, .inl (seq_at hR5), rfl, ?_, ?_⟩⟩⟩
      · rw [nI_map]; exact flat_ints _
    case' inr.inl =>
      have hva : Va K H6 .non := .non
      have hD : keptB (some (ws.map Str.length)) (some ns) (nI k) (.int c) .non = false := hks
      refine ⟨_, rfl, _, _, _, _, _, rfl, .ty "int", .base .non, kit_ty (r := false) (by decide +kernel), _, rfl, iteF ?_⟩
    case' inr.inr.inl =>
      have hva : Va K H6 (.str "0") := .str _
      have hD : keptB (some (ws.map Str.length)) (some ns) (nI k) (.int c) (.str "0") = false := hks
      refine ⟨_, rfl, _, _, _, _, _, rfl, .ty "int", .base (.str _), kit_ty (r := false) (by decide +kernel), _, rfl, iteF ?_⟩
    case' inr.inr.inr =>
      have hva : Va K H6 (.bl true) := .bl _
      have hD : keptB (some (ws.map Str.length)) (some ns) (nI k) (.int c) (.bl true) = false := hks
      refine ⟨_, rfl, _, _, _, _, _, rfl, .ty "int", .base (.bl true), kit_ty (r := true) (by decide +kernel), _, rfl, iteT ⟨_, rfl, _, _, _, _, _, rfl, .ty "bool", .base (.bl true), kit_ty (r := true) (by decide +kernel), _, rfl, _, rfl, iteF ?_⟩⟩
    all_goals
      refine ⟨_, rfl, _, rfl, _, rfl, _, rfl, _, rfl, use_told (some ns) hcl fun H7 m dx cv s7 ct _ hm => ?_⟩
      refine ⟨m, dx, _, _, _, _, _, some (ws.map Str.length), some ns, rfl, hm, hcd.same s7, ct, h50, h00, .int _, .int _, hva.same s7, fun H8 s8 => ?_⟩
      refine ⟨_, rfl, _, rfl, _, rfl, rfl, _, rfl, ?_⟩
      rw [hD, repr_ne, hbool]
      exact iteF ⟨_, _, rfl, (s5.trans s7).trans s8⟩
  · rintro σ H5 ⟨v9, v10, rfl, s5⟩
    have px05 : Px d H H5 := px03.trans (Px.of (sz.trans s5))
    have hp5 := (hp3.same sz).same s5
    have ht5 := s5 _ _ ht4
    have ha5 := s5 _ _ (sz _ _ ha3)
    have hg5 := s5 _ _ (sz _ _ hg3)
    have hR5 := s5 _ _ hR4
    have hco5 := hco4.same s5
    refine ⟨_, rfl, _, rfl, _, rfl, (by show 4 ≤ sizeLine; decide), fun t1 n_t1 => ?_⟩
    have e1 : Same H5 (upd H5 t1 (.tup [.non, .ref t, nI k, .int c])) := same_new n_t1
    have h_t1 : upd H5 t1 (.tup [.non, .ref t, nI k, .int c]) t1 = some (.tup [.non, .ref t, nI k, .int c]) := upd_same
    revert e1 h_t1
    generalize upd H5 t1 (.tup [.non, .ref t, nI k, .int c]) = G1
    intro e1 h_t1
    have c1 : Same H5 G1 := e1
    refine ⟨_, rfl, _, rfl, (by show 1 ≤ sizeLine; decide), fun b1 n_b1 => ?_⟩
    have e2 : Same G1 (upd G1 b1 (.lst [.int 0])) := same_new n_b1
    have h_b1 : upd G1 b1 (.lst [.int 0]) b1 = some (.lst [.int 0]) := upd_same
    revert e2 h_b1
    generalize upd G1 b1 (.lst [.int 0]) = G2
    intro e2 h_b1
    have c2 : Same H5 G2 := c1.trans e2
    refine ⟨t, b1, _, _, rfl, rfl, (c2 _ _ ht5), h_b1, line_of (by rw [List.length_map]; show _ + 1 ≤ 1000; omega), fun b2 n_b2 => ?_⟩
    have e3 : Same G2 (upd G2 b2 (.lst (ns.map V.int ++ [.int 0]))) := same_new n_b2
    have h_b2 : upd G2 b2 (.lst (ns.map V.int ++ [.int 0])) b2 = some (.lst (ns.map V.int ++ [.int 0])) := upd_same
    revert e3 h_b2
    generalize upd G2 b2 (.lst (ns.map V.int ++ [.int 0])) = G3
    intro e3 h_b2
    have c3 : Same H5 G3 := c2.trans e3
    refine ⟨_, rfl, _, rfl, (by show 4 ≤ sizeLine; decide), fun t2 n_t2 => ?_⟩
    have e4 : Same G3 (upd G3 t2 (.tup [.ref co, .ref b2, nI k, .int c])) := same_new n_t2
    have h_t2 : upd G3 t2 (.tup [.ref co, .ref b2, nI k, .int c]) t2 = some (.tup [.ref co, .ref b2, nI k, .int c]) := upd_same
    revert e4 h_t2
    generalize upd G3 t2 (.tup [.ref co, .ref b2, nI k, .int c]) = G4
    intro e4 h_t2
    have c4 : Same H5 G4 := c3.trans e4
    refine ⟨_, rfl, _, rfl, _, rfl, (by show 4 ≤ sizeLine; decide), fun t3 n_t3 => ?_⟩
    have e5 : Same G4 (upd G4 t3 (.tup [.ref co, .non, nI k, .int c])) := same_new n_t3
    have h_t3 : upd G4 t3 (.tup [.ref co, .non, nI k, .int c]) t3 = some (.tup [.ref co, .non, nI k, .int c]) := upd_same
    revert e5 h_t3
    generalize upd G4 t3 (.tup [.ref co, .non, nI k, .int c]) = G5
    intro e5 h_t3
    have c5 : Same H5 G5 := c4.trans e5
    refine ⟨(by show 3 ≤ sizeLine; decide), fun l1 n_l1 => ?_⟩
    have e6 : Same G5 (upd G5 l1 (.lst [.ref t1, .ref t2, .ref t3])) := same_new n_l1
    have h_l1 : upd G5 l1 (.lst [.ref t1, .ref t2, .ref t3]) l1 = some (.lst [.ref t1, .ref t2, .ref t3]) := upd_same
    revert e6 h_l1
    generalize upd G5 l1 (.lst [.ref t1, .ref t2, .ref t3]) = G6
    intro e6 h_l1
    have c6 : Same H5 G6 := c5.trans e6
    refine ⟨_, rfl, _, rfl, _, rfl, _, rfl, a, _, rfl, .inl (seq_at (c6 _ _ ha5)), _, _, rfl, rfl, _, rfl, (by show 4 ≤ sizeLine; decide), fun t4 n_t4 => ?_⟩
    have e7 : Same G6 (upd G6 t4 (.tup [.ref co, .ref t, .int (((ws.map V.str).length : Int) + 1), .int c])) := same_new n_t4
    have h_t4 : upd G6 t4 (.tup [.ref co, .ref t, .int (((ws.map V.str).length : Int) + 1), .int c]) t4 = some (.tup [.ref co, .ref t, .int (((ws.map V.str).length : Int) + 1), .int c]) := upd_same
    revert e7 h_t4
    generalize upd G6 t4 (.tup [.ref co, .ref t, .int (((ws.map V.str).length : Int) + 1), .int c]) = G7
    intro e7 h_t4
    have c7 : Same H5 G7 := c6.trans e7
    refine ⟨_, rfl, _, rfl, _, rfl, (by show 4 ≤ sizeLine; decide), fun t5 n_t5 => ?_⟩
    have e8 : Same G7 (upd G7 t5 (.tup [.ref co, .ref t, .bl true, .int c])) := same_new n_t5
    have h_t5 : upd G7 t5 (.tup [.ref co, .ref t, .bl true, .int c]) t5 = some (.tup [.ref co, .ref t, .bl true, .int c]) := upd_same
    revert e8 h_t5
    generalize upd G7 t5 (.tup [.ref co, .ref t, .bl true, .int c]) = G8
    intro e8 h_t5
    have c8 : Same H5 G8 := c7.trans e8
    refine ⟨_, rfl, _, rfl, _, rfl, _, rfl, (by show 4 ≤ sizeLine; decide), fun t6 n_t6 => ?_⟩
    have e9 : Same G8 (upd G8 t6 (.tup [.ref co, .ref t, nI k, .int (-1)])) := same_new n_t6
    have h_t6 : upd G8 t6 (.tup [.ref co, .ref t, nI k, .int (-1)]) t6 = some (.tup [.ref co, .ref t, nI k, .int (-1)]) := upd_same
    revert e9 h_t6
    generalize upd G8 t6 (.tup [.ref co, .ref t, nI k, .int (-1)]) = G9
    intro e9 h_t6
    have c9 : Same H5 G9 := c8.trans e9
    refine ⟨(by show 3 ≤ sizeLine; decide), fun l2 n_l2 => ?_⟩
    have e10 : Same G9 (upd G9 l2 (.lst [.ref t4, .ref t5, .ref t6])) := same_new n_l2
    have h_l2 : upd G9 l2 (.lst [.ref t4, .ref t5, .ref t6]) l2 = some (.lst [.ref t4, .ref t5, .ref t6]) := upd_same
    revert e10 h_l2
    generalize upd G9 l2 (.lst [.ref t4, .ref t5, .ref t6]) = G10
    intro e10 h_l2
    have c10 : Same H5 G10 := c9.trans e10
    refine ⟨l1, l2, _, _, rfl, rfl, (e10 _ _ (e9 _ _ (e8 _ _ (e7 _ _ h_l1)))), h_l2, (by show 6 ≤ sizeLine; decide), fun l3 n_l3 => ?_⟩
    have e11 : Same G10 (upd G10 l3 (.lst ([.ref t1, .ref t2, .ref t3] ++ [.ref t4, .ref t5, .ref t6]))) := same_new n_l3
    have h_l3 : upd G10 l3 (.lst ([.ref t1, .ref t2, .ref t3] ++ [.ref t4, .ref t5, .ref t6])) l3 = some (.lst ([.ref t1, .ref t2, .ref t3] ++ [.ref t4, .ref t5, .ref t6])) := upd_same
    revert e11 h_l3
    generalize upd G10 l3 (.lst ([.ref t1, .ref t2, .ref t3] ++ [.ref t4, .ref t5, .ref t6])) = G11
    intro e11 h_l3
    have c11 : Same H5 G11 := c10.trans e11
    refine ⟨_, rfl, _, rfl, _, rfl, _, rfl, (by show 4 ≤ sizeLine; decide), fun t7 n_t7 => ?_⟩
    have e12 : Same G11 (upd G11 t7 (.tup [.str "code", .ref t, nI k, .int c])) := same_new n_t7
    have h_t7 : upd G11 t7 (.tup [.str "code", .ref t, nI k, .int c]) t7 = some (.tup [.str "code", .ref t, nI k, .int c]) := upd_same
    revert e12 h_t7
    generalize upd G11 t7 (.tup [.str "code", .ref t, nI k, .int c]) = G12
    intro e12 h_t7
    have c12 : Same H5 G12 := c11.trans e12
    refine ⟨_, rfl, _, rfl, _, rfl, (by show 4 ≤ sizeLine; decide), fun t8 n_t8 => ?_⟩
    have e13 : Same G12 (upd G12 t8 (.tup [.ref co, .str "counts", nI k, .int c])) := same_new n_t8
    have h_t8 : upd G12 t8 (.tup [.ref co, .str "counts", nI k, .int c]) t8 = some (.tup [.ref co, .str "counts", nI k, .int c]) := upd_same
    revert e13 h_t8
    generalize upd G12 t8 (.tup [.ref co, .str "counts", nI k, .int c]) = G13
    intro e13 h_t8
    have c13 : Same H5 G13 := c12.trans e13
    refine ⟨_, rfl, _, rfl, _, rfl, _, rfl, (by show 4 ≤ sizeLine; decide), fun t9 n_t9 => ?_⟩
    have e14 : Same G13 (upd G13 t9 (.tup [.ref co, .ref co, nI k, .int c])) := same_new n_t9
    have h_t9 : upd G13 t9 (.tup [.ref co, .ref co, nI k, .int c]) t9 = some (.tup [.ref co, .ref co, nI k, .int c]) := upd_same
    revert e14 h_t9
    generalize upd G13 t9 (.tup [.ref co, .ref co, nI k, .int c]) = G14
    intro e14 h_t9
    have c14 : Same H5 G14 := c13.trans e14
    refine ⟨(by show 3 ≤ sizeLine; decide), fun l4 n_l4 => ?_⟩
    have e15 : Same G14 (upd G14 l4 (.lst [.ref t7, .ref t8, .ref t9])) := same_new n_l4
    have h_l4 : upd G14 l4 (.lst [.ref t7, .ref t8, .ref t9]) l4 = some (.lst [.ref t7, .ref t8, .ref t9]) := upd_same
    revert e15 h_l4
    generalize upd G14 l4 (.lst [.ref t7, .ref t8, .ref t9]) = G15
    intro e15 h_l4
    have c15 : Same H5 G15 := c14.trans e15
    refine ⟨l3, l4, _, _, rfl, rfl, (e15 _ _ (e14 _ _ (e13 _ _ (e12 _ _ h_l3)))), h_l4, (by show 9 ≤ sizeLine; decide), fun l5 n_l5 => ?_⟩
    have e16 : Same G15 (upd G15 l5 (.lst ([.ref t1, .ref t2, .ref t3] ++ [.ref t4, .ref t5, .ref t6] ++ [.ref t7, .ref t8, .ref t9]))) := same_new n_l5
    have h_l5 : upd G15 l5 (.lst ([.ref t1, .ref t2, .ref t3] ++ [.ref t4, .ref t5, .ref t6] ++ [.ref t7, .ref t8, .ref t9])) l5 = some (.lst ([.ref t1, .ref t2, .ref t3] ++ [.ref t4, .ref t5, .ref t6] ++ [.ref t7, .ref t8, .ref t9])) := upd_same
    revert e16 h_l5
    generalize upd G15 l5 (.lst ([.ref t1, .ref t2, .ref t3] ++ [.ref t4, .ref t5, .ref t6] ++ [.ref t7, .ref t8, .ref t9])) = G16
    intro e16 h_l5
    have c16 : Same H5 G16 := c15.trans e16
    refine ⟨_, rfl, _, rfl, _, rfl, _, rfl, (by show 4 ≤ sizeLine; decide), fun t10 n_t10 => ?_⟩
    have e17 : Same G16 (upd G16 t10 (.tup [.ref co, .ref t, .non, .int c])) := same_new n_t10
    have h_t10 : upd G16 t10 (.tup [.ref co, .ref t, .non, .int c]) t10 = some (.tup [.ref co, .ref t, .non, .int c]) := upd_same
    revert e17 h_t10
    generalize upd G16 t10 (.tup [.ref co, .ref t, .non, .int c]) = G17
    intro e17 h_t10
    have c17 : Same H5 G17 := c16.trans e17
    refine ⟨_, rfl, _, rfl, _, rfl, _, rfl, (by show 4 ≤ sizeLine; decide), fun t11 n_t11 => ?_⟩
    have e18 : Same G17 (upd G17 t11 (.tup [.ref co, .ref t, .ref co, .int c])) := same_new n_t11
    have h_t11 : upd G17 t11 (.tup [.ref co, .ref t, .ref co, .int c]) t11 = some (.tup [.ref co, .ref t, .ref co, .int c]) := upd_same
    revert e18 h_t11
    generalize upd G17 t11 (.tup [.ref co, .ref t, .ref co, .int c]) = G18
    intro e18 h_t11
    have c18 : Same H5 G18 := c17.trans e18
    refine ⟨_, rfl, _, rfl, _, rfl, (by show 4 ≤ sizeLine; decide), fun t12 n_t12 => ?_⟩
    have e19 : Same G18 (upd G18 t12 (.tup [.ref co, .ref t, nI k, .str "1"])) := same_new n_t12
    have h_t12 : upd G18 t12 (.tup [.ref co, .ref t, nI k, .str "1"]) t12 = some (.tup [.ref co, .ref t, nI k, .str "1"]) := upd_same
    revert e19 h_t12
    generalize upd G18 t12 (.tup [.ref co, .ref t, nI k, .str "1"]) = G19
    intro e19 h_t12
    have c19 : Same H5 G19 := c18.trans e19
    refine ⟨(by show 3 ≤ sizeLine; decide), fun l6 n_l6 => ?_⟩
    have e20 : Same G19 (upd G19 l6 (.lst [.ref t10, .ref t11, .ref t12])) := same_new n_l6
    have h_l6 : upd G19 l6 (.lst [.ref t10, .ref t11, .ref t12]) l6 = some (.lst [.ref t10, .ref t11, .ref t12]) := upd_same
    revert e20 h_l6
    generalize upd G19 l6 (.lst [.ref t10, .ref t11, .ref t12]) = G20
    intro e20 h_l6
    have c20 : Same H5 G20 := c19.trans e20
    refine ⟨l5, l6, _, _, rfl, rfl, (e20 _ _ (e19 _ _ (e18 _ _ (e17 _ _ h_l5)))), h_l6, (by show 12 ≤ sizeLine; decide), fun l7 n_l7 => ?_⟩
    have e21 : Same G20 (upd G20 l7 (.lst ([.ref t1, .ref t2, .ref t3] ++ [.ref t4, .ref t5, .ref t6] ++ [.ref t7, .ref t8, .ref t9] ++ [.ref t10, .ref t11, .ref t12]))) := same_new n_l7
    have h_l7 : upd G20 l7 (.lst ([.ref t1, .ref t2, .ref t3] ++ [.ref t4, .ref t5, .ref t6] ++ [.ref t7, .ref t8, .ref t9] ++ [.ref t10, .ref t11, .ref t12])) l7 = some (.lst ([.ref t1, .ref t2, .ref t3] ++ [.ref t4, .ref t5, .ref t6] ++ [.ref t7, .ref t8, .ref t9] ++ [.ref t10, .ref t11, .ref t12])) := upd_same
    revert e21 h_l7
    generalize upd G20 l7 (.lst ([.ref t1, .ref t2, .ref t3] ++ [.ref t4, .ref t5, .ref t6] ++ [.ref t7, .ref t8, .ref t9] ++ [.ref t10, .ref t11, .ref t12])) = G21
    intro e21 h_l7
    have c21 : Same H5 G21 := c20.trans e21
    have hcoF := hco5.same c21
    have htF := c21 _ _ ht5
    have cdo : Cdo K G21 (.ref co) (some (ws.map Str.length)) := .inl ⟨co, _, ws, rfl, rfl, hcoF, hG⟩
    have cln : Cl K G21 (.ref t) (some ns) := .inl ⟨t, ns, rfl, rfl, htF, by omega⟩
    have cl0 : Cl K G21 (.ref b2) (some (ns ++ [0])) := .inl ⟨b2, _, rfl, rfl, by rw [List.map_append]; exact (e21 _ _ (e20 _ _ (e19 _ _ (e18 _ _ (e17 _ _ (e16 _ _ (e15 _ _ (e14 _ _ (e13 _ _ (e12 _ _ (e11 _ _ (e10 _ _ (e9 _ _ (e8 _ _ (e7 _ _ (e6 _ _ (e5 _ _ (e4 _ _ h_b2)))))))))))))))))), by rw [List.length_append]; show _ + 1 ≤ 61; omega⟩
    have h01 : ∀ ms, some (ns ++ [0]) = some ms → ∀ n ∈ ms, 0 ≤ n := fun ms e => by
      rw [← Option.some.inj e]
      intro n hn
      rcases List.mem_append.mp hn with h | h
      · exact h0 n h
      · have : n = 0 := by simpa using h
        omega
    have nn : ∀ ls : List Nat, (none : Option (List Nat)) = some ls → ls.length ≤ 50 := fun ls e => by cases e
    have nm : ∀ ms : List Int, (none : Option (List Int)) = some ms → ∀ n ∈ ms, 0 ≤ n := fun ms e => by cases e
    have nlc : Nl K G21 (.ref co) := by
      obtain ⟨dx, A1, B1, m1, q1, _⟩ := hcoF.ex
      exact .cod q1
    have hst : ∀ x ∈ ([.ref t1, .ref t2, .ref t3, .ref t4, .ref t5, .ref t6, .ref t7, .ref t8, .ref t9, .ref t10, .ref t11, .ref t12] : List V), Strange K G21 x := fun x hx => by
      simp only [List.mem_cons, List.not_mem_nil, or_false] at hx
      rcases hx with rfl | rfl | rfl | rfl | rfl | rfl | rfl | rfl | rfl | rfl | rfl | rfl
      · exact ⟨t1, _, _, _, _, none, some ns, rfl, (e21 _ _ (e20 _ _ (e19 _ _ (e18 _ _ (e17 _ _ (e16 _ _ (e15 _ _ (e14 _ _ (e13 _ _ (e12 _ _ (e11 _ _ (e10 _ _ (e9 _ _ (e8 _ _ (e7 _ _ (e6 _ _ (e5 _ _ (e4 _ _ (e3 _ _ (e2 _ _ h_t1)))))))))))))))))))), .inr ⟨rfl, .non⟩, cln, nn, h00, .int _, .int _, fit_n1⟩
      · exact ⟨t2, _, _, _, _, some (ws.map Str.length), some (ns ++ [0]), rfl, (e21 _ _ (e20 _ _ (e19 _ _ (e18 _ _ (e17 _ _ (e16 _ _ (e15 _ _ (e14 _ _ (e13 _ _ (e12 _ _ (e11 _ _ (e10 _ _ (e9 _ _ (e8 _ _ (e7 _ _ (e6 _ _ (e5 _ _ h_t2))))))))))))))))), cdo, cl0, h50, h01, .int _, .int _, fit_n fun z => by have := z.1; rw [List.length_append, List.length_map] at this; simp at this; omega⟩
      · exact ⟨t3, _, _, _, _, some (ws.map Str.length), none, rfl, (e21 _ _ (e20 _ _ (e19 _ _ (e18 _ _ (e17 _ _ (e16 _ _ (e15 _ _ (e14 _ _ (e13 _ _ (e12 _ _ (e11 _ _ (e10 _ _ (e9 _ _ (e8 _ _ (e7 _ _ (e6 _ _ h_t3)))))))))))))))), cdo, .inr ⟨rfl, .non⟩, h50, nm, .int _, .int _, fit_n2⟩
      · exact ⟨t4, _, _, _, _, some (ws.map Str.length), some ns, rfl, (e21 _ _ (e20 _ _ (e19 _ _ (e18 _ _ (e17 _ _ (e16 _ _ (e15 _ _ (e14 _ _ (e13 _ _ (e12 _ _ (e11 _ _ (e10 _ _ (e9 _ _ (e8 _ _ h_t4)))))))))))))), cdo, cln, h50, h00, .int _, .int _, fit_n fun z => by have y : ((ws.map V.str).length : Int) + 1 ≤ ((ws.map Str.length).length : Int) := z.2.2.1; rw [List.length_map, List.length_map] at y; omega⟩
      · exact ⟨t5, _, _, _, _, some (ws.map Str.length), some ns, rfl, (e21 _ _ (e20 _ _ (e19 _ _ (e18 _ _ (e17 _ _ (e16 _ _ (e15 _ _ (e14 _ _ (e13 _ _ (e12 _ _ (e11 _ _ (e10 _ _ (e9 _ _ h_t5))))))))))))), cdo, cln, h50, h00, .bl _, .int _, fit_n fun z => by cases z.2.1⟩
      · exact ⟨t6, _, _, _, _, some (ws.map Str.length), some ns, rfl, (e21 _ _ (e20 _ _ (e19 _ _ (e18 _ _ (e17 _ _ (e16 _ _ (e15 _ _ (e14 _ _ (e13 _ _ (e12 _ _ (e11 _ _ (e10 _ _ h_t6)))))))))))), cdo, cln, h50, h00, .int _, .int _, fit_n fun z => by have y := z.2.2.2; revert y; decide⟩
      · exact ⟨t7, _, _, _, _, none, some ns, rfl, (e21 _ _ (e20 _ _ (e19 _ _ (e18 _ _ (e17 _ _ (e16 _ _ (e15 _ _ (e14 _ _ (e13 _ _ h_t7))))))))), .inr ⟨rfl, .str _⟩, cln, nn, h00, .int _, .int _, fit_n1⟩
      · exact ⟨t8, _, _, _, _, some (ws.map Str.length), none, rfl, (e21 _ _ (e20 _ _ (e19 _ _ (e18 _ _ (e17 _ _ (e16 _ _ (e15 _ _ (e14 _ _ h_t8)))))))), cdo, .inr ⟨rfl, .str _⟩, h50, nm, .int _, .int _, fit_n2⟩
      · exact ⟨t9, _, _, _, _, some (ws.map Str.length), none, rfl, (e21 _ _ (e20 _ _ (e19 _ _ (e18 _ _ (e17 _ _ (e16 _ _ (e15 _ _ h_t9))))))), cdo, .inr ⟨rfl, nlc⟩, h50, nm, .int _, .int _, fit_n2⟩
      · exact ⟨t10, _, _, _, _, some (ws.map Str.length), some ns, rfl, (e21 _ _ (e20 _ _ (e19 _ _ (e18 _ _ h_t10)))), cdo, cln, h50, h00, .non, .int _, fit_n fun z => by cases z.2.1⟩
      · exact ⟨t11, _, _, _, _, some (ws.map Str.length), some ns, rfl, (e21 _ _ (e20 _ _ (e19 _ _ h_t11))), cdo, cln, h50, h00, hcoF.va, .int _, fit_n fun z => by cases z.2.1⟩
      · exact ⟨t12, _, _, _, _, some (ws.map Str.length), some ns, rfl, (e21 _ _ (e20 _ _ h_t12)), cdo, cln, h50, h00, .int _, .str _, fit_n fun z => by cases z.2.2.2⟩
    have hpF := hp5.same c21
    refine ⟨_, rfl, _, rfl, d, lc, l7, _, B + 30, rfl, hpF, h_l7, by show 1 ≤ 12; decide, by show 12 ≤ 1000; decide, by omega, fun H6 x px6 hp6 hx => ?_⟩
    have hidF := hid_pen hpF
    have hs6 := hide_px (only_d d) px6
    have px06 : Px d H H6 := px05.trans ((Px.of c21).trans px6)
    have hco6 : CodeAt K (hide (only d) H6) co (ws.map Str.length) ws := (hidF.code hcoF).same hs6
    have ht6 : hide (only d) H6 t = some (.lst (ns.map V.int)) := hs6 _ _ (hidF.lst htF)
    have hg6 : hide (only d) H6 g = some (.lst ((put ns k c).map V.int)) := hs6 _ _ (hidF.lst (c21 _ _ hg5))
    have hR6 : hide (only d) H6 r = some (.lst ((rights ws (put ns k c) k).map nI)) := hs6 _ _ (hidF.lst (c21 _ _ hR5))
    obtain ⟨tt, v1, v2, v3, v4, oc, on, rfl, htt, hw1, hw2, hw3, hw4, hw5, hw6, hw7⟩ := ((hst x hx).hide hidF).same hs6
    have lg : (put ns k c).length = ws.length + 1 := by rw [put_len, hl]
    have g0 := put_ge (k := k) h0 hc0
    have u6 := hide_le (only d) H6
    refine ⟨tt, _, rfl, tup_at (u6 _ _ htt), rfl, _, _, rfl, _, _, rfl, _, _, rfl, _, _, rfl, rfl, ?_⟩
    refine ⟨_, rfl, _, rfl, _, rfl, _, rfl, use_told on (hw2.same u6) fun H7 m dx cv s7 ct _ hm => ?_⟩
    refine ⟨m, dx, _, _, _, _, _, oc, on, rfl, hm, (hw1.same u6).same s7, ct, hw3, hw4, (hw5.same u6).same s7, (hw6.same u6).same s7, .int 0, fun H8 s8 => ?_⟩
    refine ⟨_, _, rfl, rfl, _, rfl, ?_⟩
    rw [show keptB oc on v3 v4 (.int 0) = false from by unfold keptB; rw [hw7]]
    refine iteF ?_
    have s68 := s7.trans s8
    have hp8 := hp6.same s68
    have k8 : Same (hide (only d) H6) (hide (only d) H8) := hide_same _ s68
    have u8 := k8.trans (hide_le _ H8)
    refine ⟨_, rfl, _, rfl, _, rfl, _, rfl, _, rfl, _, rfl, g, _, rfl, .inl (seq_at (u8 _ _ hg6)), d, lc, (put ns k c).length, B + 31, by rw [List.length_map]; rfl, hp8, by have := hW.two; omega, by omega, by omega, fun H9 r1 ls1 px9 hp9 hgd1 hln1 hr1 nr1 => ?_⟩
    have k9 := k8.trans (hide_px (only_d d) px9)
    refine use_code none hr1 hgd1.two hgd1.most hgd1.full hgd1.len (.inl ⟨rfl, rfl⟩) fun H10 o0 us0 s10 ho0 _ _ => ?_
    have k10 := k9.trans (hide_same _ s10)
    have u10 := k10.trans (hide_le _ H10)
    refine use_told on (hw2.same u10) fun H11 m2 dx2 cv2 s11 ct2 _ hm2 => ?_
    refine ⟨m2, dx2, _, _, _, _, _, oc, on, some ls1, rfl, hm2, (hw1.same u10).same s11, ct2, .inl ⟨o0, ls1, us0, rfl, rfl, ho0.same s11, hgd1⟩, hw3, hw4, (hw5.same u10).same s11, (hw6.same u10).same s11, fun H12 s12 => ?_⟩
    refine ⟨_, _, rfl, rfl, _, rfl, ?_⟩
    rw [recB_none hw7]
    refine iteF ?_
    have s112 := s11.trans s12
    have k12 := k10.trans (hide_same _ s112)
    have u12 := k12.trans (hide_le _ H12)
    have hp12 := (hp9.same s10).same s112
    refine ⟨_, rfl, _, rfl, g, _, rfl, .inl (seq_at (u12 _ _ hg6)), d, lc, (put ns k c).length, B + 231, by rw [List.length_map]; rfl, hp12, by have := hW.two; omega, by omega, by omega, fun H13 r2 ls2 px13 hp13 hgd2 hln2 hr2 nr2 => ?_⟩
    have k13 := k12.trans (hide_px (only_d d) px13)
    refine use_code none hr2 hgd2.two hgd2.most hgd2.full hgd2.len (.inl ⟨rfl, rfl⟩) fun H14 o1 us1 s14 ho1 _ _ => ?_
    have k14 := k13.trans (hide_same _ s14)
    have u14 := k14.trans (hide_le _ H14)
    have hp14 := hp13.same s14
    refine ⟨_, rfl, _, rfl, g, _, rfl, .inl (seq_at (u14 _ _ hg6)), _, _, rfl, rfl, d, lc, (put ns k c).length + 1, B + 431, by rw [List.length_map]; rfl, hp14, by omega, by omega, by omega, fun H15 r3 ls3 px15 hp15 hgd3 hln3 hr3 nr3 => ?_⟩
    have h14 := hid_pen hp14
    have q15 := hide_px (only_d d) px15
    have k15 := k14.trans q15
    refine use_code none hr3 hgd3.two hgd3.most hgd3.full hgd3.len (.inl ⟨rfl, rfl⟩) fun H16 o2 us2 s16 ho2 _ _ => ?_
    have k16 := k15.trans (hide_same _ s16)
    have u16 := k16.trans (hide_le _ H16)
    have ho1' : CodeAt K H16 o1 ls2 us1 := (((h14.code ho1).same q15).same (hide_le _ _)).same s16
    have hp16 := hp15.same s16
    refine ⟨_, rfl, (by show 4 ≤ sizeLine; decide), fun lo n_lo => ?_⟩
    have eL : Same H16 (upd H16 lo (.lst [.ref o1, .ref o2, .non, .ref g])) := same_new n_lo
    have hlo : upd H16 lo (.lst [.ref o1, .ref o2, .non, .ref g]) lo = some (.lst [.ref o1, .ref o2, .non, .ref g]) := upd_same
    revert eL hlo
    generalize upd H16 lo (.lst [.ref o1, .ref o2, .non, .ref g]) = H17
    intro eL hlo
    have u17 := u16.trans eL
    have hco17 : CodeAt K H17 co (ws.map Str.length) ws := hco6.same u17
    have ht17 := u17 _ _ ht6
    have hg17 := u17 _ _ hg6
    have hR17 := u17 _ _ hR6
    have px612 : Px d H6 H12 := (((Px.of s68).trans px9).trans (Px.of s10)).trans (Px.of s112)
    have px0 : Px d H H17 := (px06.trans (((((px612.trans px13).trans (Px.of s14)).trans px15).trans (Px.of s16)))).trans (Px.of eL)
    have hp17 := hp16.same eL
    have okR := okN (rights ws (put ns k c) k)
    refine ⟨_, rfl, lo, rfl, ⟨_, seq_at hlo⟩, ?_⟩
    refine for_it walk_list (fun i σ H' => ∃ (v9 v10 v17 : Option V), σ = [some (.ref d), some (.ref a), some (.ref t), some (nI k), some (.int c), some (.ref r), some (.ref co), some (.ref g), some (.ref x3), v9, v10, some (.ref l7), some v1, some v2, some v3, some v4, some (.ref lo), v17] ∧ Same H17 H')
      ⟨_, _, none, rfl, .refl H17⟩ (fun i σ H' _ ⟨_, _, _, _, s⟩ => seq_at (s _ _ hlo)) ?_ ?_
    · rintro i v σ H18 H19 hi ⟨v9, v10, v17, rfl, s19⟩ ⟨rfl, hv⟩
      have hvm := List.mem_of_getElem? hv
      have hcs : (∃ o ms us, v = .ref o ∧ CodeAt K H19 o ms us ∧ GoodL ms) ∨ Nc H19 v := by
        simp only [List.mem_cons, List.not_mem_nil, or_false] at hvm
        rcases hvm with rfl | rfl | rfl | rfl
        · exact .inl ⟨o1, ls2, us1, rfl, (ho1'.same eL).same s19, hgd2⟩
        · exact .inl ⟨o2, ls3, us2, rfl, (ho2.same eL).same s19, hgd3⟩
        · exact .inr .non
        · exact .inr (.lst (s19 _ _ hg17))
      have hg19 := s19 _ _ hg17
      have hR19 := s19 _ _ hR17
      rcases hcs with ⟨o, ms, us, rfl, ho, hgm⟩ | hn
      case' inr =>
        obtain ⟨ty, h6, h7⟩ := hn.ty T
        refine ⟨_, rfl, _, _, _, _, _, rfl, .own _, h6, h7, _, rfl, iteF ?_⟩
        refine ⟨_, rfl, _, rfl, iteF ?_⟩
        have sx : Same H17 H19 := s19
        have hD : recB (some (ws.map Str.length)) (some ns) (nI k) (.int c) none = false := rec_none
        have hcv : Cdo K H19 v none := .inr ⟨rfl, hn⟩
      case' inl =>
        obtain ⟨dy, B1, D1, mx, f1, f2, f3⟩ := ho.ex
        refine ⟨_, rfl, _, _, _, _, _, rfl, .own _, ty_code T f1, T.k13, _, rfl, iteT ?_⟩
        refine ⟨_, rfl, o, _, _, _, _, rfl, f1, T.cl_Code, T.na_Code_size, rfl, _, rfl, g, _, rfl, .inl (seq_at hg19), rfl, _, rfl, ?_⟩
        have hsg2 := rec_sign (k := k) hW hl h0 hk hc0 ms
        rw [List.length_map, show decide (nI ms.length = nI (put ns k c).length) = decide (ms.length = ws.length + 1) from decide_eq_decide.mpr ⟨fun e => by have := V.int.inj e; omega, fun e => congrArg nI (by omega)⟩]
        by_cases hml : ms.length = ws.length + 1
        case' neg =>
          rw [decide_eq_false hml] at hsg2 ⊢
          refine iteF ?_
          refine ⟨_, rfl, _, rfl, iteF ?_⟩
          have sx : Same H17 H19 := s19
          have hD : recB (some (ws.map Str.length)) (some ns) (nI k) (.int c) (some ms) = false := hsg2
          have hcv : Cdo K H19 (.ref o) (some ms) := .inl ⟨o, ms, us, rfl, rfl, ho, hgm⟩
        case' pos =>
          rw [decide_eq_true hml] at hsg2 ⊢
          refine iteT ⟨_, rfl, Nat.zero_le _, fun ee n_ee => ?_⟩
          have nee : r ≠ ee := ne_of_none hR19 n_ee
          refine ⟨_, _, dp_lst okR (seq_at (by rw [upd_ne nee]; exact hR19)), dp_lst (xs := []) (fun v hv => by cases hv) (seq_at upd_same), sh_lst okR, sh_lst (fun v hv => by cases hv), ?_⟩
          rw [eq_nil]
          have see : Same H19 (upd H19 ee (.lst [])) := same_new n_ee
          revert see
          generalize upd H19 ee (.lst []) = H20
          intro see
          have ho20 := ho.same see
          have hg20 := see _ _ hg19
          refine ⟨_, rfl, _, rfl, ?_⟩
          cases hE : ((rights ws (put ns k c) k).map nI).isEmpty
          case' false =>
            rw [hE] at hsg2
            refine iteF ?_
            have sx : Same H17 H20 := s19.trans see
            have hD : recB (some (ws.map Str.length)) (some ns) (nI k) (.int c) (some ms) = false := hsg2
            have hcv : Cdo K H20 (.ref o) (some ms) := .inl ⟨o, ms, us, rfl, rfl, ho20, hgm⟩
          case' true =>
            rw [hE] at hsg2
            refine iteT ⟨_, rfl, o, _, _, _, _, rfl, see _ _ f1, T.cl_Code, T.na_Code_lengths, rfl, _, rfl, B1, g, false, ms, put ns k c, rfl, see.tup f2, hg20, hgm.le, hgm.most, fun H21 s21 => ?_⟩
            refine ⟨_, rfl, g, _, rfl, s21 _ _ hg20, by omega, fun H22 s22 => ?_⟩
            refine ⟨rfl, ?_⟩
            have sx : Same H17 H22 := ((s19.trans see).trans s21).trans s22
            have hD : recB (some (ws.map Str.length)) (some ns) (nI k) (.int c) (some ms) = decide (V.int (costP ((put ns k c).zip ms)) = V.int (L (put ns k c))) := by
              rw [hsg2]
              show decide _ = decide _
              exact decide_eq_decide.mpr ⟨congrArg V.int, V.int.inj⟩
            have hcv : Cdo K H22 (.ref o) (some ms) := .inl ⟨o, ms, us, rfl, rfl, (ho20.same s21).same s22, hgm⟩
      all_goals
        have hclx := sx _ _ ht17
        refine ⟨_, rfl, _, rfl, _, rfl, _, rfl, _, rfl, use_told (some ns) (.inl ⟨t, ns, rfl, rfl, hclx, by omega⟩) fun H30 m3 dx3 cv3 s30 ct3 _ hm3 => ?_⟩
        refine ⟨m3, dx3, _, _, _, _, _, some (ws.map Str.length), some ns, _, rfl, hm3, .inl ⟨co, _, ws, rfl, rfl, (hco17.same sx).same s30, hG⟩, ct3, hcv.same s30, h50, h00, .int _, .int _, fun H31 s31 => ?_⟩
        refine ⟨_, rfl, _, rfl, _, rfl, rfl, _, rfl, ?_⟩
        rw [hD, repr_ne, hbool]
        exact iteF ⟨_, _, _, rfl, (sx.trans s30).trans s31⟩
    · rintro σ H18 ⟨v9, v10, v17, rfl, s18⟩
      exact q H18 (px0.trans (Px.of s18)) ((hp17.same s18).mono (by omega))
end
end K38


set_option Elab.async false
set_option linter.all false
set_option maxRecDepth 100000
set_option maxHeartbeats 4000000
/-! The pen and the tables hidden; data that stays. -/
namespace K38
open PySem PySem.Spec PyProof.Rows L2 M38
def hidT (d : Addr) (H : Hp) : Hp := fun b => if b = d then none else match H b with
  | some (.tbl _) => none
  | o => o
section
variable {K : PySem.W.Frag} {d l a : Addr} {B : Nat} {H H' : Hp} {v : V}
theorem hidT_of {o : HO} (e : hidT d H a = some o) : a ≠ d ∧ H a = some o ∧ ∀ ps, o ≠ .tbl ps := by
  unfold hidT at e
  split at e
  · cases e
  · rename_i n
    refine ⟨n, ?_⟩
    split at e
    · cases e
    · rename_i nt
      refine ⟨e, fun ps z => ?_⟩
      rw [z] at e
      exact nt ps e
theorem hidT_at {o : HO} (e : H a = some o) (n : a ≠ d) (nt : ∀ ps, o ≠ .tbl ps) : hidT d H a = some o := by
  unfold hidT
  rw [if_neg n, e]
  split
  · rename_i ps z
    exact absurd (Option.some.inj z) (nt ps)
  · rfl
theorem hidT_le (d : Addr) (H : Hp) : Same (hidT d H) H := fun b o e => (hidT_of e).2.1
theorem hidT_px (s : Px d H H') : Same (hidT d H) (hidT d H') := fun b o e => by
  obtain ⟨n, h, nt⟩ := hidT_of e
  exact hidT_at (s b o n h) n nt
theorem hidT_same (d : Addr) (s : Same H H') : Same (hidT d H) (hidT d H') := hidT_px (Px.of s)
theorem hidT_ext (d : Addr) (s : LamX.ExtN H H') : Same (hidT d H) (hidT d H') := fun b o e => by
  obtain ⟨n, h, nt⟩ := hidT_of e
  exact hidT_at (s b o h nt) n nt
theorem PenAt.ext (h : PenAt H d l B) (s : LamX.ExtN H H') : PenAt H' d l B := by
  obtain ⟨cs, n, r, h1, h2, h3⟩ := h.ex
  exact ⟨cs, n, r, s _ _ h1 (fun ps z => by cases z), s _ _ h2 (fun ps z => by cases z), h3⟩
theorem PenAt.hlst (h : PenAt H d l B) {xs : List V} (e : H a = some (.lst xs)) : hidT d H a = some (.lst xs) := hidT_at e (h.neL e) (fun ps z => by cases z)
theorem PenAt.htup (h : PenAt H d l B) {xs : List V} (e : H a = some (.tup xs)) : hidT d H a = some (.tup xs) := hidT_at e (h.ne e fun _ z => by cases z) (fun ps z => by cases z)
theorem PenAt.hins (h : PenAt H d l B) {C dx : Addr} {fs : List (Str × V)} (e : H a = some (.ins C dx fs)) : hidT d H a = some (.ins C dx fs) := hidT_at e (h.ne e fun _ z => by cases z) (fun ps z => by cases z)
theorem PenAt.hsqT (h : PenAt H d l B) {xs : List V} (e : SqT K H a xs) : SqT K (hidT d H) a xs := by
  rcases e with (e | ⟨o, e⟩) | e
  · exact tup_at (h.htup e)
  · exact .inl (.inr ⟨o, hidT_at e (h.ne e fun _ z => by cases z) (fun ps z => by cases z)⟩)
  · exact .inr e
theorem PenAt.hcode (h : PenAt H d l B) {ls : List Nat} {ws : List Str} (e : CodeAt K H a ls ws) : CodeAt K (hidT d H) a ls ws := by
  obtain ⟨dx, A, B, m, h1, h2, h3⟩ := e.ex
  exact ⟨dx, A, B, m, h.hins h1, h.hsqT h2, h.hsqT h3⟩
theorem tabs_px {T : List (Addr × Str)} (t : LamX.Tabs T H) (h : PenAt H d l B) (s : Px d H H') : LamX.Tabs T H' := fun p hp => by
  obtain ⟨ps, h1, h2, h3⟩ := t p hp
  refine ⟨ps, s _ _ (h.ne h1 fun _ z => by cases z) h1, h2, fun pos cv hc => ?_⟩
  obtain ⟨c, e1, e2⟩ := h3 pos cv hc
  exact ⟨c, e1, s _ _ (h.ne e2 fun _ z => by have z' : HO.ext _ = HO.dK _ := z; cases z') e2⟩
end
/-- a value that is data, not deep -/
structure Od (K : PySem.W.Frag) (H : Hp) (v : V) (q : PyData) : Prop where
  dp : Dp K H v q
  lay : q.canLay0 = true
  dep : q.depth ≤ 1
theorem od_ok {K : PySem.W.Frag} {H : Hp} {v : V} (h : okV v = true) : Od K H v (flD v) := ⟨okV_dp h, (okV_lay h).1, by rw [(okV_lay h).2]; decide⟩
/-- tuples of such -/
theorem od_tup2 {K : PySem.W.Frag} {H : Hp} {t : Addr} {z : Str} {v : V} {q : PyData} (hz : okV (.str z) = true) (ht : H t = some (.tup [.str z, v])) (h : Od K H v q) :
    Dp K H (.ref t) (.tuple [.str z, q]) ∧ SeqAt.shaped (.tuple [.str z, q]) = true ∧ PyData.eqv (.tuple [.str z, q]) (.tuple [.str z, q]) = true := by
  have l : (PyData.tuple [.str z, q]).canLay0 = true := by
    have hz2 : PyData.strOk z = true := hz
    simp only [PyData.canLay0, PyData.canLayAll0, hz2, h.lay, Bool.and_self]
  refine ⟨.tup (tup_at ht) (.cons (.str z) (.cons h.dp .nil)), ?_, SeqAt.eqv_refl _ l⟩
  unfold SeqAt.shaped
  rw [l, Bool.true_and, decide_eq_true_eq]
  simp only [PyData.depth, PyData.depthAll]
  have := h.dep
  omega
end K38

set_option Elab.async false
set_option linter.all false
set_option maxRecDepth 100000
set_option maxHeartbeats 8000000
set_option pp.maxSteps 400
/-! _law_are_refused -/
namespace K38
open PySem PySem.Spec PyProof.Rows L2 M38
abbrev lamQ : Str := (("_law_are_refused" : Str) ++ (".<locals>." : Str)) ++ ("<lambda>" : Str)
/-- what the head tells of the def's code object and its table -/
structure TabF (K : PySem.W.Frag) (mg : Str → Option Value) (base : Heap) (P : Addr) : Prop where
  tab : ∀ c, (∃ oc od osl fd, K.lookup (He.ga K "_law_are_refused") = some ⟨oc, od, .func fd, osl⟩ ∧ fd.code = .ref c) → LamX.TabB base mg c P
theorem od_list0 {K : PySem.W.Frag} {H : Hp} {z : Addr} (hz : H z = some (.lst [.int 0])) : Od K H (.ref z) (.list [.int 0]) :=
  ⟨.lst (seq_at hz) (.cons (.int 0) .nil), by simp [PyData.canLay0, PyData.canLayAll0], by simp [PyData.depth, PyData.depthAll]⟩
theorem odd_ok {K : PySem.W.Frag} {H : Hp} {z : Addr} {m : Nat} {v : V} (hz : H z = some (.lst [.int 0])) (hv : v ∈ ([.int (-1), .int ((m : Int) + 1), .non, .bl true, .str "0", .ref z] : List V)) : Va K H v ∧ ¬ rkOk v m ∧ ∃ q, Od K H v q := by
  simp only [List.mem_cons, List.not_mem_nil, or_false] at hv
  rcases hv with rfl | rfl | rfl | rfl | rfl | rfl
  · exact ⟨.int _, (fun z => by have y := z.1; revert y; decide), _, od_ok rfl⟩
  · exact ⟨.int _, (fun z => by have y : (m : Int) + 1 ≤ (m : Int) := z.2; omega), _, od_ok rfl⟩
  · exact ⟨.non, (fun z => by cases z.1), _, od_ok rfl⟩
  · exact ⟨.bl _, (fun z => by cases z.1), _, od_ok rfl⟩
  · exact ⟨.str _, (fun z => by cases z.1), _, od_ok (by decide +kernel)⟩
  · exact ⟨.lst hz, (fun z => by cases z.1), _, od_list0 hz⟩
theorem wrong_ok {K : PySem.W.Frag} {H : Hp} {z : Addr} {v : V} (hz : H z = some (.lst [.int 0])) (hv : v ∈ ([.int (-1), .non, .bl true, .str "0", .ref z] : List V)) : Va K H v ∧ isCnt v = false ∧ ∃ q, Od K H v q := by
  simp only [List.mem_cons, List.not_mem_nil, or_false] at hv
  rcases hv with rfl | rfl | rfl | rfl | rfl
  · exact ⟨.int _, (by decide), _, od_ok rfl⟩
  · exact ⟨.non, rfl, _, od_ok rfl⟩
  · exact ⟨.bl _, rfl, _, od_ok rfl⟩
  · exact ⟨.str _, rfl, _, od_ok (by decide +kernel)⟩
  · exact ⟨.lst hz, rfl, _, od_list0 hz⟩
section
variable {P : Program} {w : World} {K : PySem.W.Frag} {mg : Str → Option Value} {base : Heap} {TP : Addr}
def spRefused (K : PySem.W.Frag) (TP : Addr) : Sp := fun vs H Q _ => ∃ (d l a t : Addr) (ws : List Str) (ns : List Int) (B : Nat), vs = [.ref d, .ref a, .ref t] ∧ PenAt H d l B ∧ H a = some (.lst (ws.map V.str)) ∧ Wd ws ∧ ws.length ≤ 20 ∧ H t = some (.lst (ns.map V.int)) ∧ ns.length = ws.length ∧ (∀ n ∈ ns, 0 ≤ n) ∧
  LamX.Tabs [(TP, lamQ)] H ∧ B ≤ 600000 ∧ ∀ H', Same (hidT d H) (hidT d H') → PenAt H' d l (B + 10) → LamX.Tabs [(TP, lamQ)] H' → Q (.bl true) H'
theorem ok_l_are_refused (T : Tx K mg) (F : Exs P K mg) (M : Met K mg) (TF : TabF K mg base TP) : Cal P w K mg base CX0 9 "_law_are_refused" ["_law_pen", "_law_words_here", "_law_counts"] (spRefused K TP) := by
  have c_l_code := ok_l_code (P := P) (w := w) (base := base) T
  have c_l_pick := ok_l_pick (P := P) (w := w) (base := base) T
  have c_put_counted := ok_put_counted (w := w) (base := base) T F
  obtain ⟨fd, FD⟩ := T.f_l_are_refused
  have hB := FD.bindsN (ps := ["_law_pen", "_law_words_here", "_law_counts"]) (fun _ _ _ _ _ _ us hl => match us, hl with | [_, _, _], _ => rfl)
  have kp := FD.kp
  obtain ⟨oc, od, dV, kV, doc, pm, an, cdv, ct, osl, rfl, lk, hcd, hD, hK⟩ := FD.ex
  obtain ⟨c, rfl⟩ := He.codeIn_ref hcd
  have TB := TF.tab c ⟨oc, od, osl, _, lk, rfl⟩
  obtain ⟨fdM, FM⟩ := T.f_l_met
  have hBM := FM.bindsN (ps := ["_law_call"]) (fun _ _ _ _ _ _ us hl => match us, hl with | [_], _ => rfl)
  have kpM := FM.kp
  obtain ⟨oc2, od2, dV2, kV2, doc2, pm2, an2, cdv2, ct2, osl2, rfl, lk2, hcd2, _, _⟩ := FM.ex
  refine ⟨_, _, T.g_l_are_refused, kp, hB, fn_of lk hcd sc_l_are_refused (fun vs H Q E ⟨_, _, _, _, _, _, _, e, _⟩ => by rw [e]; rfl) fun A outer s H vs Q E hr h => ?_⟩
  suffices hb : ∃ t, PSs (cxOf CX0 P w K mg base n_l_are_refused "_law_are_refused" (defScope s_l_are_refused) (He.ga K "_law_are_refused") (.ref c) A outer s H E).nox (defBody s_l_are_refused) t ∧ t { nx := fun _ H' => Q .non H', rt := Q } (L2.start n_l_are_refused vs) H by
    obtain ⟨t, h, q⟩ := hb
    exact ⟨t, h.nox, q⟩
  obtain ⟨d, lc, a, t, ws, ns, B, rfl, hp, ha, hW, h20, ht, hl, h0, hT, hBB, q⟩ := h
  have lamC : ∀ {params : Arguments} {body : Expr} {scope : Scope} {lpos p pos : Pos} {tt : XK → TE}, LamX.LamS (defScope s_l_are_refused) scope →
      (∀ (A' : Around) (outer' : List Env) (s' : Shared) (H' : Hp) (E' : XK) (f c' : Addr), Room 6 (A'.deeper (LamX.lamEnv (cxOf CX0 P w K mg base n_l_are_refused "_law_are_refused" (defScope s_l_are_refused) (He.ga K "_law_are_refused") (.ref c) A outer s H E).nox scope s'.heap.objs.size f c')) →
        PE (LamX.lamCx (cxOf CX0 P w K mg base n_l_are_refused "_law_are_refused" (defScope s_l_are_refused) (He.ga K "_law_are_refused") (.ref c) A outer s H E).nox A' outer' s' H' E' scope f c') body (tt E')) →
      (defaultsOf params (cxOf CX0 P w K mg base n_l_are_refused "_law_are_refused" (defScope s_l_are_refused) (He.ga K "_law_are_refused") (.ref c) A outer s H E).nox.env = ([], [])) →
      (∀ (q : Str) (cl : List (Str × Addr)) (pm cv ctv : Value), bindArgs (PySem.W.kla_fn "<lambda>" q params body scope cl pm cv ctv) ⟨[], []⟩ = pure []) →
      PE (cxOf CX0 P w K mg base n_l_are_refused "_law_are_refused" (defScope s_l_are_refused) (He.ga K "_law_are_refused") (.ref c) A outer s H E).nox (.Call (.Name "_law_met" p) [.Lambda params body scope lpos] [] pos) (LamX.tLam [(TP, lamQ)] (TTmet K) tt) :=
    have eqq : (cxOf CX0 P w K mg base n_l_are_refused "_law_are_refused" (defScope s_l_are_refused) (He.ga K "_law_are_refused") (.ref c) A outer s H E).nox.env.qual ++ ("<lambda>" : Str) = lamQ := congrArg (fun z : Str => z ++ ("<lambda>" : Str)) (show (cxOf CX0 P w K mg base n_l_are_refused "_law_are_refused" (defScope s_l_are_refused) (He.ga K "_law_are_refused") (.ref c) A outer s H E).nox.env.qual = (("_law_are_refused" : Str) ++ (".<locals>." : Str)) from rfl)
    fun L hbody hdef hbind => LamX.pe_lamcall (k := 6) rfl T.g_l_met kpM lk2 hcd2 hBM sc_l_met rfl (.inl rfl) (met_gives M) TB rfl (List.mem_singleton.mpr (congrArg (Prod.mk TP) eqq)) (fun p hp _ => (congrArg Prod.snd (List.mem_singleton.mp hp)).trans eqq.symm) hr L hdef hbind hbody
  refine ⟨_, (pss_cons (ps_asg (pe_tup (pa_cons (pe_cal c_l_code (hr.mono (by decide)) rfl pass0 (pa_cons (pv 1) pa_nil)) (pa_cons (pe_callB call_len_seq (by rfl) T.b_len (by decide +kernel) (pa_cons (pv 1) pa_nil)) pa_nil))) (pg_tup rfl (pgs_cons (pg_name (i := 3) sc_l_are_refused.nd rfl (Or.inr rfl)) (pgs_cons (pg_name (i := 4) sc_l_are_refused.nd rfl (Or.inr rfl)) pgs_nil))))
    (pss_cons (ps_set (i := 5) sc_l_are_refused.nd rfl (Or.inr rfl) (pe_cal c_l_pick (hr.mono (by decide)) rfl pass0 (pa_cons (pv 0) (pa_cons (pe_lst (pa_cons (pe_un un_neg pe_int) (pa_cons (pe_op op_add (pv 4) pe_int) (pa_cons pe_non (pa_cons pe_bl (pa_cons pe_str (pa_cons (pe_lst (pa_cons pe_int pa_nil)) pa_nil))))))) pa_nil))))
    (pss_cons (ps_if (pt_cmpR (op_neD hr.units) (lamC (LamX.lamS_by (by decide +kernel)) (fun _ _ _ _ _ _ _ hr2 => (pe_cal c_put_counted (hr2.mono (by decide)) rfl (passes_call (takes_of rfl rfl rfl rfl) (fun _ _ _ _ h => h)) (pa_cons (pv 3) (pa_cons (pv 2) (pa_cons (pv 5) (pa_cons (pv 5) pa_nil)))))) rfl (fun _ _ _ _ _ => rfl)) (pe_tup (pa_cons pe_str (pa_cons (pv 5) pa_nil))) (nomark _))
      (pss_one (ps_ret pe_bl))
      pss_nil)
    (pss_cons (ps_set (i := 6) sc_l_are_refused.nd rfl (Or.inr rfl) (pe_cal c_l_pick (hr.mono (by decide)) rfl pass0 (pa_cons (pv 0) (pa_cons (pe_lst (pa_cons (pe_un un_neg pe_int) (pa_cons pe_non (pa_cons pe_bl (pa_cons pe_str (pa_cons (pe_lst (pa_cons pe_int pa_nil)) pa_nil)))))) pa_nil))))
    (pss_cons (ps_if (pt_cmpR (op_neD hr.units) (lamC (LamX.lamS_by (by decide +kernel)) (fun _ _ _ _ _ _ _ hr2 => (pe_cal c_put_counted (hr2.mono (by decide)) rfl (passes_call (takes_of rfl rfl rfl rfl) (fun _ _ _ _ h => h)) (pa_cons (pv 3) (pa_cons (pv 2) (pa_cons (pv 4) (pa_cons (pv 6) pa_nil)))))) rfl (fun _ _ _ _ _ => rfl)) (pe_tup (pa_cons pe_str (pa_cons (pv 6) pa_nil))) (nomark _))
      (pss_one (ps_ret pe_bl))
      pss_nil)
    (pss_one (ps_ret (pe_cmpR (op_eqD hr.units) (lamC (LamX.lamS_by (by decide +kernel)) (fun _ _ _ _ _ _ _ hr2 => (pe_cal c_put_counted (hr2.mono (by decide)) rfl (passes_call (takes_of rfl rfl rfl rfl) (fun _ _ _ _ h => h)) (pa_cons (pv 3) (pa_cons (pe_op op_cat (pv 2) (pe_lst (pa_cons pe_int pa_nil))) (pa_cons (pv 5) (pa_cons (pv 6) pa_nil)))))) rfl (fun _ _ _ _ _ => rfl)) (pe_tup (pa_cons pe_str (pa_cons (pe_op op_add (pv 4) pe_int) (pa_cons (pv 4) pa_nil)))) (nomark _))))))))), ?_⟩
  have hG := hW.good (show ws.length ≤ 60 by omega)
  refine ⟨_, rfl, a, ws, rfl, ha, hW, by omega, fun H1 co s1 hco => ?_⟩
  refine ⟨_, rfl, a, _, rfl, .inl (seq_at (s1 _ _ ha)), (by show 2 ≤ sizeLine; decide), fun tp n_tp => ?_⟩
  rw [List.length_map] at *
  have e1 : Same H1 (upd H1 tp (.tup [.ref co, .int (ws.length : Int)])) := same_new n_tp
  have h_tp : upd H1 tp (.tup [.ref co, .int (ws.length : Int)]) tp = some (.tup [.ref co, .int (ws.length : Int)]) := upd_same
  revert e1 h_tp
  generalize upd H1 tp (.tup [.ref co, .int (ws.length : Int)]) = G1
  intro e1 h_tp
  refine ⟨tp, _, rfl, tup_at h_tp, rfl, _, _, rfl, _, _, rfl, rfl, ?_⟩
  have s2 := s1.trans e1
  refine ⟨_, rfl, _, rfl, _, rfl, _, _, rfl, rfl, (by show 1 ≤ sizeLine; decide), fun z1 n_z1 => ?_⟩
  have e2 : Same G1 (upd G1 z1 (.lst [.int 0])) := same_new n_z1
  have h_z1 : upd G1 z1 (.lst [.int 0]) z1 = some (.lst [.int 0]) := upd_same
  revert e2 h_z1
  generalize upd G1 z1 (.lst [.int 0]) = G2
  intro e2 h_z1
  refine ⟨(by show 6 ≤ sizeLine; decide), fun l1 n_l1 => ?_⟩
  have e3 : Same G2 (upd G2 l1 (.lst [.int (-1), .int ((ws.length : Int) + 1), .non, .bl true, .str "0", .ref z1])) := same_new n_l1
  have h_l1 : upd G2 l1 (.lst [.int (-1), .int ((ws.length : Int) + 1), .non, .bl true, .str "0", .ref z1]) l1 = some (.lst [.int (-1), .int ((ws.length : Int) + 1), .non, .bl true, .str "0", .ref z1]) := upd_same
  revert e3 h_l1
  generalize upd G2 l1 (.lst [.int (-1), .int ((ws.length : Int) + 1), .non, .bl true, .str "0", .ref z1]) = G3
  intro e3 h_l1
  have s3 := (s2.trans e2).trans e3
  have hpG := hp.same s3
  refine ⟨d, lc, l1, _, B, rfl, hpG, h_l1, by show 1 ≤ 6; decide, by show 6 ≤ 1000; decide, by omega, fun H3 odd px3 hp3 hodd => ?_⟩
  have hz3 : hidT d G3 z1 = some (.lst [.int 0]) := hpG.hlst (e3 _ _ h_z1)
  have hc3 : CodeAt K (hidT d G3) co (ws.map Str.length) ws := hpG.hcode (hco.same ((e1.trans e2).trans e3))
  have ht3 : hidT d G3 t = some (.lst (ns.map V.int)) := hpG.hlst (s3 _ _ ht)
  have kG := hidT_same d s3
  have k3 := hidT_px (d := d) px3
  have T3 := tabs_px (hT.ext s3) hpG px3
  refine ⟨T3, fun H4 eN4 T4 => ?_⟩
  have k4 := k3.trans (hidT_ext d eN4)
  have u4 := k4.trans (hidT_le d H4)
  have hp4 := hp3.ext eN4
  obtain ⟨va4, nr4, q4, od4⟩ := odd_ok (K := K) (m := ws.length) (u4 _ _ hz3) hodd
  have hlen : ns.length = (ws.map Str.length).length := by rw [List.length_map]; exact hl
  refine ⟨_, rfl, _, rfl, _, rfl, _, rfl, co, t, odd, odd, ns, ws.map Str.length, ws, rfl, hc3.same u4, hG, by rw [List.length_map]; omega, u4 _ _ ht3, by have := hW.two; omega, by omega, h0, va4, va4, fun n => absurd hlen n, fun _ _ d5 H5 s5 hd5 => .inl ⟨rfl, d5, odd, rfl, hd5, fun t5 n_t5 => ?_⟩, fun _ z => absurd (by rw [List.length_map] at z; exact z) nr4, fun _ rk x e1 e2 _ _ => absurd (by rw [e1]; exact ⟨decide_eq_true (show (0 : Int) ≤ rk by omega), by rw [List.length_map] at e2; show (rk : Int) ≤ (ws.length : Int); omega⟩) nr4⟩
  have e5 : Same H5 (upd H5 t5 (.tup [.str "rank", odd])) := same_new n_t5
  have h_t5 : upd H5 t5 (.tup [.str "rank", odd]) t5 = some (.tup [.str "rank", odd]) := upd_same
  revert e5 h_t5
  generalize upd H5 t5 (.tup [.str "rank", odd]) = G5
  intro e5 h_t5
  refine ⟨_, rfl, (by show 2 ≤ sizeLine; decide), fun t6 n_t6 => ?_⟩
  have e6 : Same G5 (upd G5 t6 (.tup [.str "rank", odd])) := same_new n_t6
  have h_t6 : upd G5 t6 (.tup [.str "rank", odd]) t6 = some (.tup [.str "rank", odd]) := upd_same
  revert e6 h_t6
  generalize upd G5 t6 (.tup [.str "rank", odd]) = G6
  intro e6 h_t6
  have s46 : Same H4 G6 := (s5.trans e5).trans e6
  obtain ⟨_, _, q6, od6⟩ := odd_ok (K := K) (m := ws.length) (s46 _ _ (u4 _ _ hz3)) hodd
  have oL := od_tup2 (by decide +kernel) (e6 _ _ h_t5) od6
  have oR := od_tup2 (by decide +kernel) h_t6 od6
  refine ⟨_, _, oL.1, oR.1, oL.2.1, oR.2.1, false, congrArg (fun b => V.bl (!b)) oL.2.2, iteF ?_⟩
  have hp6 : PenAt G6 d lc (B + 1) := hp4.same s46
  have T6 : LamX.Tabs [(TP, lamQ)] G6 := T4.ext s46
  have k6 : Same (hidT d G3) (hidT d G6) := k4.trans (hidT_same d s46)
  have u6 : Same (hidT d G3) G6 := k6.trans (hidT_le d G6)
  refine ⟨_, rfl, _, rfl, (by show 1 ≤ sizeLine; decide), fun z2 n_z2 => ?_⟩
  have e7 : Same G6 (upd G6 z2 (.lst [.int 0])) := same_new n_z2
  have h_z2 : upd G6 z2 (.lst [.int 0]) z2 = some (.lst [.int 0]) := upd_same
  revert e7 h_z2
  generalize upd G6 z2 (.lst [.int 0]) = G7
  intro e7 h_z2
  refine ⟨(by show 5 ≤ sizeLine; decide), fun l2 n_l2 => ?_⟩
  have e8 : Same G7 (upd G7 l2 (.lst [.int (-1), .non, .bl true, .str "0", .ref z2])) := same_new n_l2
  have h_l2 : upd G7 l2 (.lst [.int (-1), .non, .bl true, .str "0", .ref z2]) l2 = some (.lst [.int (-1), .non, .bl true, .str "0", .ref z2]) := upd_same
  revert e8 h_l2
  generalize upd G7 l2 (.lst [.int (-1), .non, .bl true, .str "0", .ref z2]) = G8
  intro e8 h_l2
  have s68 := e7.trans e8
  have hp8 := hp6.same s68
  have k8 : Same (hidT d G3) (hidT d G8) := k6.trans (hidT_same d s68)
  refine ⟨d, lc, l2, _, B + 1, rfl, hp8, h_l2, by show 1 ≤ 5; decide, by show 5 ≤ 1000; decide, by omega, fun H9 wrong px9 hp9 hwr => ?_⟩
  have hz9 : hidT d H9 z2 = some (.lst [.int 0]) := hidT_px (d := d) px9 _ _ (hp8.hlst (e8 _ _ h_z2))
  have k9 : Same (hidT d G3) (hidT d H9) := k8.trans (hidT_px px9)
  have T9 := tabs_px (T6.ext s68) hp8 px9
  refine ⟨T9, fun Ha eNa Ta => ?_⟩
  have ka : Same (hidT d G3) (hidT d Ha) := k9.trans (hidT_ext d eNa)
  have ua : Same (hidT d G3) Ha := ka.trans (hidT_le d Ha)
  have hza : hidT d Ha z2 = some (.lst [.int 0]) := hidT_ext d eNa _ _ hz9
  have hpa := hp9.ext eNa
  obtain ⟨vaa, nwa, _, _⟩ := wrong_ok (K := K) (hidT_le d Ha _ _ hza) hwr
  have okm : rkOk (nI ws.length) (ws.map Str.length).length := ⟨decide_eq_true (show (0 : Int) ≤ (ws.length : Int) by omega), by rw [List.length_map]; exact Int.le_refl _⟩
  refine ⟨_, rfl, _, rfl, _, rfl, _, rfl, co, t, nI ws.length, wrong, ns, ws.map Str.length, ws, rfl, hc3.same ua, hG, by rw [List.length_map]; omega, ua _ _ ht3, by have := hW.two; omega, by omega, h0, .int _, vaa, fun n => absurd hlen n, fun _ n => absurd okm n, fun _ _ _ db Hb sb hdb => .inr (.inl ⟨rfl, db, wrong, rfl, hdb, fun tb n_tb => ?_⟩), fun _ rk x _ _ e3 e4 => absurd (show isCnt wrong = true by rw [e3]; exact decide_eq_true e4) (by rw [nwa]; decide)⟩
  have eb : Same Hb (upd Hb tb (.tup [.str "count", wrong])) := same_new n_tb
  have h_tb : upd Hb tb (.tup [.str "count", wrong]) tb = some (.tup [.str "count", wrong]) := upd_same
  revert eb h_tb
  generalize upd Hb tb (.tup [.str "count", wrong]) = Gb
  intro eb h_tb
  refine ⟨_, rfl, (by show 2 ≤ sizeLine; decide), fun tc n_tc => ?_⟩
  have ec : Same Gb (upd Gb tc (.tup [.str "count", wrong])) := same_new n_tc
  have h_tc : upd Gb tc (.tup [.str "count", wrong]) tc = some (.tup [.str "count", wrong]) := upd_same
  revert ec h_tc
  generalize upd Gb tc (.tup [.str "count", wrong]) = Gc
  intro ec h_tc
  have sac : Same Ha Gc := (sb.trans eb).trans ec
  have kac := hidT_same d sac
  obtain ⟨_, _, qc, odc⟩ := wrong_ok (K := K) (hidT_le d Gc _ _ (kac _ _ hza)) hwr
  have oL2 := od_tup2 (by decide +kernel) (ec _ _ h_tb) odc
  have oR2 := od_tup2 (by decide +kernel) h_tc odc
  refine ⟨_, _, oL2.1, oR2.1, oL2.2.1, oR2.2.1, false, congrArg (fun b => V.bl (!b)) oL2.2.2, iteF ?_⟩
  have hpc : PenAt Gc d lc (B + 1 + 1) := hpa.same sac
  have Tc : LamX.Tabs [(TP, lamQ)] Gc := Ta.ext sac
  have kc : Same (hidT d G3) (hidT d Gc) := ka.trans kac
  refine ⟨Tc, fun Hd eNd Td => ?_⟩
  have kcd := hidT_ext d eNd
  have kd : Same (hidT d G3) (hidT d Hd) := kc.trans kcd
  have ud : Same (hidT d G3) Hd := kd.trans (hidT_le d Hd)
  have hpd := hpc.ext eNd
  have hxd : PenAt Hd d lc (B + 10) := hpd.mono (by omega)
  refine ⟨_, rfl, _, rfl, (by show 1 ≤ sizeLine; decide), fun z3 n_z3 => ?_⟩
  have ee : Same Hd (upd Hd z3 (.lst [.int 0])) := same_new n_z3
  have h_z3 : upd Hd z3 (.lst [.int 0]) z3 = some (.lst [.int 0]) := upd_same
  revert ee h_z3
  generalize upd Hd z3 (.lst [.int 0]) = Ge
  intro ee h_z3
  refine ⟨t, z3, _, _, rfl, rfl, ee _ _ (ud _ _ ht3), h_z3, by rw [List.length_map]; show ns.length + 1 ≤ sizeLine; exact Nat.le_trans (show _ ≤ 40 by omega) (by decide), fun pl n_pl => ?_⟩
  have eL : ns.map V.int ++ [.int 0] = (ns ++ [0]).map V.int := by rw [List.map_append]; rfl
  rw [eL]
  have ef : Same Ge (upd Ge pl (.lst ((ns ++ [0]).map V.int))) := same_new n_pl
  have h_pl : upd Ge pl (.lst ((ns ++ [0]).map V.int)) pl = some (.lst ((ns ++ [0]).map V.int)) := upd_same
  revert ef h_pl
  generalize upd Ge pl (.lst ((ns ++ [0]).map V.int)) = Gf
  intro ef h_pl
  have sdf := ee.trans ef
  have kdf := hidT_same d sdf
  obtain ⟨vo, _, _, _⟩ := odd_ok (K := K) (m := ws.length) (sdf _ _ (ud _ _ hz3)) hodd
  obtain ⟨vw, _, _, _⟩ := wrong_ok (K := K) (hidT_le d Gf _ _ (kdf _ _ (kcd _ _ (kac _ _ hza)))) hwr
  have nle : (ns ++ [0]).length ≠ (ws.map Str.length).length := by rw [List.length_append, List.length_map, hl]; show ws.length + 1 ≠ ws.length; omega
  refine ⟨_, rfl, _, rfl, co, pl, odd, wrong, ns ++ [0], ws.map Str.length, ws, rfl, (hc3.same ud).same sdf, hG, by rw [List.length_map]; omega, h_pl, by rw [List.length_append]; have := hW.two; omega, by rw [List.length_append]; show ns.length + 1 ≤ 51; omega, fun n hn => (List.mem_append.mp hn).elim (h0 n) (fun z => by rw [List.mem_singleton.mp z]; decide), vo, vw, fun _ dg Hg sg hdg => .inr (.inr ⟨rfl, dg, _, _, rfl, hdg, fun tg n_tg => ?_⟩), fun n => absurd n nle, fun n => absurd n nle, fun n => absurd n nle⟩
  have eS : (HO.tup [.str "size", nI (ns ++ [0]).length, nI (ws.map Str.length).length]) = HO.tup [.str "size", .int ((ws.length : Int) + 1), .int (ws.length : Int)] := by
    rw [List.length_append, List.length_map, hl]; rfl
  rw [eS]
  have eg : Same Hg (upd Hg tg (.tup [.str "size", .int ((ws.length : Int) + 1), .int (ws.length : Int)])) := same_new n_tg
  have h_tg : upd Hg tg (.tup [.str "size", .int ((ws.length : Int) + 1), .int (ws.length : Int)]) tg = some (.tup [.str "size", .int ((ws.length : Int) + 1), .int (ws.length : Int)]) := upd_same
  revert eg h_tg
  generalize upd Hg tg (.tup [.str "size", .int ((ws.length : Int) + 1), .int (ws.length : Int)]) = Gg
  intro eg h_tg
  refine ⟨_, rfl, _, _, rfl, rfl, _, rfl, (by show 3 ≤ sizeLine; decide), fun th n_th => ?_⟩
  have eh : Same Gg (upd Gg th (.tup [.str "size", .int ((ws.length : Int) + 1), .int (ws.length : Int)])) := same_new n_th
  have h_th : upd Gg th (.tup [.str "size", .int ((ws.length : Int) + 1), .int (ws.length : Int)]) th = some (.tup [.str "size", .int ((ws.length : Int) + 1), .int (ws.length : Int)]) := upd_same
  revert eh h_th
  generalize upd Gg th (.tup [.str "size", .int ((ws.length : Int) + 1), .int (ws.length : Int)]) = Gh
  intro eh h_th
  have okA : ∀ v ∈ ([.str "size", .int ((ws.length : Int) + 1), .int (ws.length : Int)] : List V), okV v = true := fun v hv => by
    simp only [List.mem_cons, List.not_mem_nil, or_false] at hv
    rcases hv with rfl | rfl | rfl
    · decide +kernel
    · rfl
    · rfl
  have sdh : Same Hd Gh := ((sdf.trans sg).trans eg).trans eh
  refine ⟨_, _, dp_tup okA (tup_at (eh _ _ h_tg)), dp_tup okA (tup_at h_th), sh_tup okA, sh_tup okA, ?_⟩
  show Q (V.bl (PyData.eqv _ _)) Gh
  rw [eq_tup okA]
  exact q Gh (kG.trans (kd.trans (hidT_same d sdh))) (hxd.same sdh) (Td.ext sdh)
end
end K38


set_option Elab.async false
set_option linter.all false
set_option maxRecDepth 100000
set_option maxHeartbeats 8000000
set_option pp.maxSteps 400
/-! law -/
namespace K38
open PySem PySem.Spec PyProof.Rows L2 M38
theorem rights_first {ws : List Str} {ns : List Int} {k i : Nat} {c : Int} (hl : ns.length = ws.length) (hi : (prices ns (ws.map Str.length) c)[i]? = some (due ns (ws.map Str.length) k c))
    (hm : ∀ j : Nat, j < i → (prices ns (ws.map Str.length) c)[j]? ≠ some (due ns (ws.map Str.length) k c)) : ∃ R, rights ws (put ns k c) k = i :: R := by
  have hiw : i < ws.length := by rw [← prices_len hl (c := c)]; exact (List.getElem?_eq_some_iff.mp hi).1
  have mi := (mem_rights hl (k := k) (c := c) (i := i)).mpr ⟨hiw, hi⟩
  have pw : (rights ws (put ns k c) k).Pairwise (· < ·) := List.Pairwise.filter _ List.pairwise_lt_range
  cases e : rights ws (put ns k c) k with
  | nil => rw [e] at mi; cases mi
  | cons h t =>
    have mh : h ∈ rights ws (put ns k c) k := by rw [e]; exact List.mem_cons_self ..
    rw [e] at mi pw
    rcases List.mem_cons.mp mi with z | z
    · exact ⟨t, by rw [z]⟩
    · exact absurd ((mem_rights hl).mp mh).2 (hm h (List.rel_of_pairwise_cons pw z))
section
variable {P : Program} {w : World} {K : PySem.W.Frag} {mg : Str → Option Value} {base : Heap} {TP : Addr}
def spLaw (K : PySem.W.Frag) (TP : Addr) : Sp := fun vs H Q _ => ∃ (a : Addr) (ns : List Int), vs = [.ref a] ∧ SqL K H a (ns.map V.int) ∧ LamX.Tabs [(TP, lamQ)] H ∧ ∀ H', Q (.bl true) H'
theorem ok_law {fd : FuncData} (FD : FunD K "law" "law" (defArgs s_law) (defBody s_law) (defScope s_law) [] [] (He.ga K "law") fd) (T : Tx K mg) (F : Exs P K mg) (M : Met K mg) (TF : TabF K mg base TP) (EQ : EqC K (He.ga K "Code") (He.ma K (He.ga K "Code") "__eq__")) :
    FnOk P w K mg base CX0 10 (He.ga K "law") fd ["_law_script"] (spLaw K TP) := by
  have c_l_pen_of := ok_l_pen_of (P := P) (w := w) (base := base) T
  have c_l_words := ok_l_words (P := P) (w := w) (base := base) T
  have c_l_draw := ok_l_draw (P := P) (w := w) (base := base) T
  have c_l_near_counts := ok_l_near_counts (P := P) (w := w) (base := base) T
  have c_l_some_count := ok_l_some_count (P := P) (w := w) (base := base) T
  have c_l_code := ok_l_code (P := P) (w := w) (base := base) T
  have c_put_counted := ok_put_counted (w := w) (base := base) T F
  have c_l_right_signs := ok_l_right_signs (P := P) (w := w) (base := base) T
  have c_l_parted := ok_l_parted (P := P) (w := w) (base := base) T
  have c_kept_code := ok_kept_code (P := P) (w := w) (base := base) T
  have c_is_kept := ok_is_kept (P := P) (w := w) (base := base) T
  have c_l_cost := ok_l_cost (P := P) (w := w) (base := base) T
  have c_l_least := ok_l_least (P := P) (w := w) (base := base) T
  have c_is_recoded := ok_is_recoded (P := P) (w := w) (base := base) T
  have c_l_are_papers := ok_l_are_papers (P := P) (w := w) (base := base) T
  have c_l_are_refused := ok_l_are_refused (w := w) T F M TF
  obtain ⟨fe, fnE, FE⟩ := fn_code_eq (P := P) (w := w) (base := base) T
  have bE := FE.bindsN (ps := ["self", "other"]) (fun _ _ _ _ _ _ us hl => match us, hl with | [_, _], _ => rfl)
  refine FD.ok sc_law (fun vs H Q E ⟨a, b, e, _⟩ => by rw [e]; rfl) fun cdv A outer s H vs Q E hr h => ?_
  suffices hb : ∃ t, PSs (cxOf CX0 P w K mg base n_law "law" (defScope s_law) (He.ga K "law") cdv A outer s H E).nox (defBody s_law) t ∧ t { nx := fun _ H' => Q .non H', rt := Q } (L2.start n_law vs) H by
    obtain ⟨t, h, q⟩ := hb
    exact ⟨t, h.nox, q⟩
  obtain ⟨a, ns, rfl, ha, hT, q⟩ := h
  have hr1 := hr.mono (show 3 ≤ 9 by decide)
  refine ⟨_, (pss_cons (ps_set (i := 1) sc_law.nd rfl (Or.inl rfl) (pe_cal c_l_pen_of (hr.mono (by decide)) rfl pass0 (pa_cons (pv 0) pa_nil)))
    (pss_cons (ps_for PassesOwn.never rfl (pi_range1 rfl T.b_range (pa_cons pe_int pa_nil)) (pg_name (i := 2) sc_law.nd rfl (Or.inl rfl))
      (pss_cons (ps_set (i := 3) sc_law.nd rfl (Or.inl rfl) (pe_cal c_l_words (hr.mono (by decide)) rfl pass0 (pa_cons (pv 1) (pa_cons (pe_op op_add pe_int (pe_cal c_l_draw (hr.mono (by decide)) rfl pass0 (pa_cons (pv 1) (pa_cons pe_int pa_nil)))) pa_nil))))
      (pss_cons (ps_par (i := 4) (j := 5) (by rfl) sc_law.nd rfl rfl (by decide) rfl rfl (pa_cons (pe_cal c_l_near_counts (hr.mono (by decide)) rfl pass0 (pa_cons (pv 1) (pa_cons (pe_lc (own := [("_law_word", 6)]) (g := gName 6) (tt := tYes) rfl sc_law.nd (pi_list (pv 3)) (blkOk_by (own := [("_law_word", 6)]) (N := n_law) (sc := defScope s_law) (by decide +kernel)) (fun _ _ _ _ _ => (pg_name (i := 6) sc_law.nd rfl (Or.inl rfl))) (fun _ _ _ _ _ => pts_nil) (fun _ _ _ _ _ => (pe_callB call_len_str (by rfl) T.b_len (by decide +kernel) (pa_cons (pv 6) pa_nil)))) pa_nil))) (pa_cons (pe_cal c_l_draw (hr.mono (by decide)) rfl pass0 (pa_cons (pv 1) (pa_cons (pe_op op_add (pe_callB call_len_seq (by rfl) T.b_len (by decide +kernel) (pa_cons (pv 3) pa_nil)) pe_int) pa_nil))) pa_nil)) (by rfl))
      (pss_cons (ps_set (i := 7) sc_law.nd rfl (Or.inl rfl) (pe_cal c_l_some_count (hr.mono (by decide)) rfl pass0 (pa_cons (pv 1) (pa_cons (pv 4) pa_nil))))
      (pss_cons (ps_set (i := 8) sc_law.nd rfl (Or.inl rfl) (pe_cal c_l_code (hr.mono (by decide)) rfl pass0 (pa_cons (pv 3) pa_nil)))
      (pss_cons (ps_set (i := 9) sc_law.nd rfl (Or.inl rfl) (pe_op op_cat (pe_op op_cat (pe_slice sl_list (pv 4) po_none (po_some (pv 5))) (pe_lst (pa_cons (pv 7) pa_nil))) (pe_slice sl_list (pv 4) (po_some (pv 5)) po_none)))
      (pss_cons (ps_par (i := 10) (j := 11) (by rfl) sc_law.nd rfl rfl (by decide) rfl rfl (pa_cons (pe_cal c_put_counted (hr.mono (by decide)) rfl passL (pa_cons (pv 8) (pa_cons (pv 4) (pa_cons (pv 5) (pa_cons (pv 7) pa_nil))))) (pa_cons (pe_cal c_l_right_signs (hr.mono (by decide)) rfl pass0 (pa_cons (pv 3) (pa_cons (pv 9) (pa_cons (pv 5) pa_nil)))) pa_nil)) (by rfl))
      (pss_cons (ps_if (PW.pt (pw_or (pt_cmpR op_ne (pe_callB call_isi (by rfl) T.b_isinstance (by decide +kernel) (pa_cons (pv 10) (pa_cons (pe_glob (v := .ref (He.ga K "Kept")) rfl T.g_Kept rfl) pa_nil))) (pe_cmpR (op_neD hr.units) (pv 11) (pe_lst pa_nil) (nomark _)) (nomark _)) (pw_or1 (pt_cmpR (op_neD hr.units) (pe_tup (pa_cons (pe_fld (pv 10) rfl) (pa_cons (pe_fld (pv 10) rfl) pa_nil))) (pe_tup (pa_cons (pv 5) (pa_cons (pv 7) pa_nil))) (nomark _)))))
        (pss_one (ps_ret pe_bl))
        pss_nil)
      (pss_cons (ps_if (PW.pt (pw_or (pt_cmpR (op_neOwn fnE EQ bE pass0 hr (by decide)) (pe_fld (pv 10) rfl) (pv 8) (nomark _)) (pw_or1 (pt_cmpR (op_neD hr.units) (pe_fld (pv 10) rfl) (pe_callTy call_tuple_of (by rfl) T.b_tuple (by decide +kernel) (pa_cons (pv 4) pa_nil)) (nomark _)))))
        (pss_one (ps_ret pe_bl))
        pss_nil)
      (pss_cons (ps_if (pt_val (pe_callB call_isi (by rfl) T.b_isinstance (by decide +kernel) (pa_cons (pv 10) (pa_cons (pe_glob (v := .ref (He.ga K "Kept")) rfl T.g_Kept rfl) pa_nil))))
        (pss_cons (ps_set (i := 12) sc_law.nd rfl (Or.inl rfl) (pe_callTy call_tuple_of (by rfl) T.b_tuple (by decide +kernel) (pa_cons (pe_cal c_l_parted (hr.mono (by decide)) rfl pass0 (pa_cons (pv 3) (pa_cons (pe_ix ix_list (pv 11) pe_int (fun _ _ => rfl)) (pa_cons (pv 5) pa_nil)))) pa_nil)))
        (pss_one (ps_if (PW.pt (pw_or (pt_cmpR op_ne (pe_fld (pv 10) rfl) (pe_ix ix_list (pv 11) pe_int (fun _ _ => rfl)) (nomark _)) (pw_or (pt_cmpR (op_neD hr.units) (pe_fld (pe_cal c_kept_code (hr.mono (by decide)) rfl pass0 (pa_cons (pv 10) pa_nil)) rfl) (pv 12) (nomark _)) (pw_or1 (pt_cmpR op_notBl (pe_cal c_is_kept (hr.mono (by decide)) rfl pass0 (pa_cons (pv 10) pa_nil)) pe_bl (nomark _))))))
          (pss_one (ps_ret pe_bl))
          pss_nil)))
        (pss_one (ps_if (PW.pt (pw_or (pt_cmpR op_ne (pe_cal c_l_cost (hr.mono (by decide)) rfl pass0 (pa_cons (pe_fld (pe_fld (pv 10) rfl) rfl) (pa_cons (pv 9) pa_nil))) (pe_cal c_l_least (hr.mono (by decide)) rfl pass0 (pa_cons (pv 9) pa_nil)) (nomark _)) (pw_or1 (pt_cmpR op_notBl (pe_cal c_is_recoded (hr.mono (by decide)) rfl pass0 (pa_cons (pv 10) pa_nil)) pe_bl (nomark _)))))
          (pss_one (ps_ret pe_bl))
          pss_nil)))
      (pss_one (ps_if (PW.pt (pw_or (pt_not (pt_val (pe_cal c_l_are_papers (hr.mono (by decide)) rfl pass0 (pa_cons (pv 1) (pa_cons (pv 3) (pa_cons (pv 4) (pa_cons (pv 5) (pa_cons (pv 7) (pa_cons (pv 11) pa_nil))))))))) (pw_or1 (pt_not (pt_val (pe_cal c_l_are_refused (hr.mono (by decide)) rfl pass0 (pa_cons (pv 1) (pa_cons (pv 3) (pa_cons (pv 4) pa_nil)))))))))
        (pss_one (ps_ret pe_bl))
        pss_nil))))))))))))
    (pss_one (ps_ret pe_bl)))), ?_⟩
  refine ⟨_, rfl, a, ns, rfl, ha, fun H1 d lc s1 hp1 => ?_⟩
  have hT1 := hT.ext s1
  refine ⟨5, rfl, by decide, by decide, ?_⟩
  refine for_it walk_range (fun i σ H' => ∃ (v2 v3 v4 v5 v6 v7 v8 v9 v10 v11 v12 : Option V), σ = [some (.ref a), some (.ref d), v2, v3, v4, v5, v6, v7, v8, v9, v10, v11, v12] ∧ PenAt H' d lc (i * 3000) ∧ LamX.Tabs [(TP, lamQ)] H')
    ⟨none, none, none, none, none, none, none, none, none, none, none, rfl, hp1.mono (by omega), hT1⟩ (fun _ _ _ _ _ => trivial) ?_ ?_
  case' refine_2 =>
    rintro σ H2 ⟨v2, v3, v4, v5, v6, v7, v8, v9, v10, v11, v12, rfl, _, _⟩
    exact q H2
  rintro it x σ H2 H3 hit ⟨v2, v3, v4, v5, v6, v7, v8, v9, v10, v11, v12, rfl, hp2, hT2⟩ ⟨rfl, rfl⟩
  generalize hB : it * 3000 = B at hp2
  have hB2 : B ≤ 15000 := by omega
  refine ⟨_, rfl, _, rfl, d, lc, _, B, rfl, hp2, by decide, by decide, by omega, fun H4 t px4 hp4 t0 t1 => ?_⟩
  obtain ⟨j, rfl⟩ : ∃ j : Nat, t = (j : Int) := ⟨t.toNat, by omega⟩
  have hT4 := tabs_px hT2 hp2 px4
  refine ⟨_, _, rfl, rfl, d, lc, 2 + j, B + 1, rfl, hp4, by omega, by omega, by omega, fun H5 aw ws px5 hp5 hW lw ha5 nad => ?_⟩
  have hT5 := tabs_px hT4 hp4 px5
  have hG := hW.good (show ws.length ≤ 60 by omega)
  have w2 := hW.two
  have w20 : ws.length ≤ 12 := by omega
  clear lw px4 px5 hp4 hT4 hT2 hp2
  refine ⟨_, rfl, _, rfl, aw, rfl, ⟨_, seq_at ha5⟩, fun D nD => ?_⟩
  refine lc_it walk_list (fun i H' => Same H5 H' ∧ H' D = some (.lst (((ws.take i).map Str.length).map nI))) ⟨same_new nD, by rw [upd_same]; rfl⟩ (fun i H' _ s => seq_at (s.1 _ _ ha5)) ?_ ?_
  · rintro i y H6 H7 hi ⟨s6, hD⟩ ⟨rfl, hv⟩
    obtain ⟨z, hz, rfl⟩ := getS hv
    rw [List.length_map] at hi
    refine ⟨rfl, yesI ⟨_, rfl, z, rfl, ?_, ?_⟩⟩
    · have := hW.len z (List.mem_of_getElem? hz)
      exact line_of (by omega)
    · refine ⟨_, hD, by simp only [List.length_map, List.length_take]; exact small1000 (by omega), s6.mut nD, ?_⟩
      rw [upd_same, List.take_add_one, hz, List.map_append, List.map_append]
      rfl
  rintro H6 ⟨s6, hD⟩
  rw [List.length_map, List.take_length] at hD
  have hp6 := hp5.same s6
  have hT6 := hT5.ext s6
  have ha6 := s6 _ _ ha5
  clear s6
  refine ⟨d, lc, D, ws.map Str.length, B + 1 + 200, rfl, hp6, hD, by rw [List.length_map]; exact w2, by rw [List.length_map]; omega, ?_, by omega, fun H7 tc ns px7 hp7 hl h0 ht7 ntd => ?_⟩
  · intro l hl
    obtain ⟨z, hz, rfl⟩ := List.mem_map.mp hl
    have := hW.len z hz
    omega
  rw [List.length_map] at hl
  have hT7 := tabs_px hT6 hp6 px7
  have ha7 := px7 _ _ nad ha6
  refine ⟨_, rfl, _, rfl, aw, _, rfl, .inl (seq_at ha7), _, _, rfl, rfl, d, lc, _, B + 1 + 200 + 300, rfl, hp7, by rw [List.length_map]; omega, by rw [List.length_map]; omega, by omega, fun H8 rk px8 hp8 r0 r1 => ?_⟩
  rw [List.length_map] at r1
  obtain ⟨k, rfl⟩ : ∃ k : Nat, rk = (k : Int) := ⟨rk.toNat, by omega⟩
  have hk : k ≤ ws.length := by omega
  have hT8 := tabs_px hT7 hp7 px8
  have ha8 := px8 _ _ nad ha7
  have ht8 := px8 _ _ ntd ht7
  clear hp5 hp6 hp7 hT5 hT6 hT7 ha5 ha6 ha7 ht7 px7 px8 hD
  refine ⟨_, _, rfl, _, rfl, _, rfl, d, lc, tc, ns, B + 1 + 200 + 300 + 1, rfl, hp8, ht8, by omega, by omega, h0, by omega, fun H9 c px9 hp9 c0 => ?_⟩
  have hT9 := tabs_px hT8 hp8 px9
  have ha9 := px9 _ _ nad ha8
  have ht9 := px9 _ _ ntd ht8
  have hp9 := hp9.mono (show _ ≤ B + 600 by omega)
  clear hp8 hT8 ha8 ht8 px9
  refine ⟨_, rfl, aw, ws, rfl, ha9, hW, by omega, fun H10 co s10 hco => ?_⟩
  have hp10 := hp9.same s10
  have hT10 := hT9.ext s10
  have ha10 := s10 _ _ ha9
  have ht10 := s10 _ _ ht9
  clear hp9 hT9 ha9 ht9 s10
  refine ⟨_, rfl, _, rfl, _, rfl, tc, _, rfl, seq_at ht10, fun p1 n1 => ?_⟩
  rw [cut_to, ← List.map_take]
  refine ⟨_, rfl, (by show 1 ≤ sizeLine; decide), fun p2 n2 => ?_⟩
  have n12 : p1 ≠ p2 := ne_of_none upd_same n2
  refine ⟨p1, p2, _, _, rfl, rfl, by rw [upd_ne n12, upd_same], upd_same, line_of (by rw [List.length_map, List.length_take]; show _ + 1 ≤ 1000; omega), fun p3 n3 => ?_⟩
  refine ⟨_, rfl, _, rfl, _, rfl, tc, _, rfl, seq_at ((((same_new n1).new n2).new n3) _ _ ht10), fun p4 n4 => ?_⟩
  rw [cut_from, ← List.map_drop]
  have n34 : p3 ≠ p4 := ne_of_none upd_same n4
  refine ⟨p3, p4, _, _, rfl, rfl, by rw [upd_ne n34, upd_same], upd_same, line_of (by rw [List.length_append, List.length_map, List.length_map, List.length_take, List.length_drop]; show _ + 1 + _ ≤ 1000; omega), fun g n5 => ?_⟩
  have eg : (ns.take k).map V.int ++ [.int c] ++ (ns.drop k).map V.int = (put ns k c).map V.int := by unfold put; rw [List.map_append, List.map_append]; rfl
  have s11 : Same H10 (upd (upd (upd (upd (upd H10 p1 (.lst ((ns.take k).map V.int))) p2 (.lst [.int c])) p3 (.lst ((ns.take k).map V.int ++ [.int c]))) p4 (.lst ((ns.drop k).map V.int))) g (.lst ((ns.take k).map V.int ++ [.int c] ++ (ns.drop k).map V.int))) := (((((same_new n1).new n2).new n3).new n4).new n5)
  have hg : upd (upd (upd (upd (upd H10 p1 (.lst ((ns.take k).map V.int))) p2 (.lst [.int c])) p3 (.lst ((ns.take k).map V.int ++ [.int c]))) p4 (.lst ((ns.drop k).map V.int))) g (.lst ((ns.take k).map V.int ++ [.int c] ++ (ns.drop k).map V.int)) g = some (.lst ((put ns k c).map V.int)) := by rw [upd_same, eg]
  revert s11 hg
  generalize upd (upd (upd (upd (upd H10 p1 (.lst ((ns.take k).map V.int))) p2 (.lst [.int c])) p3 (.lst ((ns.take k).map V.int ++ [.int c]))) p4 (.lst ((ns.drop k).map V.int))) g (.lst ((ns.take k).map V.int ++ [.int c] ++ (ns.drop k).map V.int)) = H11
  intro s11 hg
  have hp11 := hp10.same s11
  have hT11 := hT10.ext s11
  have ha11 := s11 _ _ ha10
  have ht11 := s11 _ _ ht10
  have hc11 := hco.same s11
  clear hp10 hT10 ha10 ht10 hco s11 n5 n4 n3 n2 n1 n12 n34
  have hlen : ns.length = (ws.map Str.length).length := by rw [List.length_map]; exact hl
  have lg : (put ns k c).length = ns.length + 1 := put_len ..
  have ngd := hp11.neL hg
  have h50 : ∀ ls, some (ws.map Str.length) = some ls → ls.length ≤ 50 := fun ls e => by rw [← Option.some.inj e, List.length_map]; omega
  have h00 : ∀ ms, some ns = some ms → ∀ n ∈ ms, 0 ≤ n := fun ms e => by rw [← Option.some.inj e]; exact h0
  have okr : rkOk (nI k) (ws.map Str.length).length := ⟨decide_eq_true (show (0 : Int) ≤ (k : Int) by omega), by rw [List.length_map]; show (k : Int) ≤ (ws.length : Int); omega⟩
  refine ⟨_, rfl, _, rfl, _, rfl, _, rfl, co, tc, nI k, .int c, ns, ws.map Str.length, ws, rfl, hc11, hG, by rw [List.length_map]; omega, ht11, by omega, by omega, h0, .int _, .int _, fun n => absurd hlen n, fun _ n => absurd okr n, fun _ _ n => absurd (show isCnt (.int c) = true from decide_eq_true c0) (by rw [n]; decide), fun _ rk' x' e1 _ e2 _ => ?_⟩
  cases e2
  obtain rfl : k = rk' := by
    have z : (k : Int) = (rk' : Int) := V.int.inj e1
    omega
  refine ⟨fun H12 r dx cv i s12 ct hr12 hi hm => ?_, fun H12 r dx cv o hs us s12 ct hr12 hco2 hgs hls hcs hd => ?_⟩
  case' refine_1 =>
    obtain ⟨R, eR⟩ := rights_first (c := c) hl hi hm
  case' refine_2 =>
    have eR := (right_mem hl (k := k) (c := c)).mpr hd
  all_goals
    have ha12 := s12 _ _ ha11
    have hg12 := s12 _ _ hg
    refine ⟨_, rfl, _, rfl, _, rfl, aw, g, k, ws, put ns k c, rfl, ha12, hW, by omega, hg12, by omega, fun H13 q13 s13 hq13 _ => ?_⟩
    refine ⟨_, _, rfl, ?_⟩
    have s03 := s12.trans s13
    have s13' := s13
    have hr13 := s13 _ _ hr12
    have ct13 := ct.same s13
    have hp13 := hp11.same s03
    have hT13 := hT11.ext s03
    have ha13 := s03 _ _ ha11
    have ht13 := s03 _ _ ht11
    have hc13 := hc11.same s03
    have hg13 := s03 _ _ hg
    rw [eR] at hq13
    obtain ⟨ca, rfl, hca13⟩ : ∃ ca, cv = .ref ca ∧ H13 ca = some (.tup (ns.map V.int)) := by
      rcases ct13 with ⟨ca, ms, e1, e2, e3, _⟩ | ⟨e, _⟩
      · cases e1
        exact ⟨ca, e2, e3⟩
      · cases e
    clear hp11 hT11 ha11 ht11 hc11 hg hr12 ha12 hg12 s03 s12 s13 ct
  case' refine_1 =>
    have okL : ∀ v ∈ ((i :: R).map nI), okV v = true := fun v hv => by
      obtain ⟨n, _, rfl⟩ := List.mem_map.mp hv
      rfl
    refine ⟨_, rfl, _, _, _, _, _, rfl, .own _, ty_ins hr13 T.cl_Kept T.cc_Kept T T.co_Kept, T.k12, _, rfl, Nat.zero_le _, fun l0 n0 => ?_⟩
    have F9 := fld_kept T
  case' refine_2 =>
    have okL : ∀ v ∈ (([] : List Nat).map nI), okV v = true := fun v hv => by cases hv
    have hco13 := hco2.same s13'
    refine ⟨_, rfl, _, _, _, _, _, rfl, .own _, ty_ins hr13 T.cl_Recoded T.cc_Recoded T T.co_Recoded, T.k11, _, rfl, Nat.zero_le _, fun l0 n0 => ?_⟩
    have F9 := fld_recoded T
  all_goals
    have s0 : Same H13 (upd H13 l0 (.lst [])) := same_new n0
    have hl0 : upd H13 l0 (.lst []) l0 = some (.lst []) := upd_same
    revert s0 hl0
    generalize upd H13 l0 (.lst []) = H14
    intro s14 hl0
    have hr14 := s14 _ _ hr13
    refine ⟨_, _, dp_lst okL (seq_at (s14 _ _ hq13)), dp_lst (fun _ z => by cases z) (seq_at hl0), sh_lst okL, sh_lst (fun _ z => by cases z), rfl, false, by rw [eq_nil]; rfl, iteF ?_⟩
    refine ⟨_, rfl, r, _, dx, _, _, rfl, hr14, F9.cl, F9.n3, rfl, _, rfl, r, _, dx, _, _, rfl, hr14, F9.cl, F9.n4, rfl, (by show 2 ≤ sizeLine; decide), fun u1 n_u1 => ?_⟩
    have e1 : Same H14 (upd H14 u1 (.tup [nI k, .int c])) := same_new n_u1
    have h_u1 : upd H14 u1 (.tup [nI k, .int c]) u1 = some (.tup [nI k, .int c]) := upd_same
    revert e1 h_u1
    generalize upd H14 u1 (.tup [nI k, .int c]) = G1
    intro e1 h_u1
    refine ⟨_, rfl, _, rfl, (by show 2 ≤ sizeLine; decide), fun u2 n_u2 => ?_⟩
    have e2 : Same G1 (upd G1 u2 (.tup [nI k, .int c])) := same_new n_u2
    have h_u2 : upd G1 u2 (.tup [nI k, .int c]) u2 = some (.tup [nI k, .int c]) := upd_same
    revert e2 h_u2
    generalize upd G1 u2 (.tup [nI k, .int c]) = G2
    intro e2 h_u2
    have okA : ∀ v ∈ ([nI k, .int c] : List V), okV v = true := fun v hv => by
      simp only [List.mem_cons, List.not_mem_nil, or_false] at hv
      rcases hv with rfl | rfl
      · rfl
      · rfl
    refine ⟨_, _, dp_tup okA (tup_at (e2 _ _ h_u1)), dp_tup okA (tup_at h_u2), sh_tup okA, sh_tup okA, false, by rw [eq_tup okA]; rfl, iteF ?_⟩
    have s15 := (s14.trans e1).trans e2
    have hr15 := s15 _ _ hr13
    have hc15 := hc13.same s15
    obtain ⟨dy, cA, cB, cm, f1, f2, f3⟩ := hc15.ex
    refine ⟨_, rfl, r, _, dx, _, _, rfl, hr15, F9.cl, F9.n1, rfl, _, rfl, ⟨co, co, _, _, _, _, rfl, rfl, f1, f1, _, _, _, hc15, hc15, hW.bits⟩, fun H16 x16 => ?_⟩
    have s16 : Same H13 H16 := s15.trans x16
    have hr16 := s16 _ _ hr13
    refine ⟨false, rfl, iteF ?_⟩
    refine ⟨_, rfl, r, _, dx, _, _, rfl, hr16, F9.cl, F9.n2, rfl, _, rfl, tc, _, rfl, .inl ⟨seq_at (s16 _ _ ht13), fun u3 n_u3 => ?_⟩⟩
    have e3 : Same H16 (upd H16 u3 (.tup (ns.map V.int))) := same_new n_u3
    have h_u3 : upd H16 u3 (.tup (ns.map V.int)) u3 = some (.tup (ns.map V.int)) := upd_same
    revert e3 h_u3
    generalize upd H16 u3 (.tup (ns.map V.int)) = H17
    intro e3 h_u3
    have s17 := s16.trans e3
    have okN := ints_ok ns
    refine ⟨_, _, dp_tup okN (tup_at (s17 _ _ hca13)), dp_tup okN (tup_at h_u3), sh_tup okN, sh_tup okN, false, by rw [eq_tup okN]; rfl, iteF ?_⟩
    have hr17 := s17 _ _ hr13
    have hc17 := hc13.same s17
    have ha17 := s17 _ _ ha13
    have ht17 := s17 _ _ ht13
    have hg17 := s17 _ _ hg13
    have hq17 := s17 _ _ hq13
    have ct17 := ct13.same s17
    have hp17 := hp13.same s17
    have hT17 := hT13.ext s17
    clear s16 s15 s14 e1 e2 e3 h_u1 h_u2 h_u3 x16 hr13 hr14 hr15 hr16 hc13 hc15 ha13 ht13 hg13 hq13 ct13 hp13 hT13 hca13 f1 f2 f3 hl0 okA okN n_u1 n_u2 n_u3 n0
  case' refine_1 =>
    refine ⟨_, rfl, _, _, _, _, _, rfl, .own _, ty_ins hr17 T.cl_Kept T.cc_Kept T T.co_Kept, T.k12, _, rfl, iteT ?_⟩
    have hik : i < ws.length := by rw [← prices_len hl (c := c)]; exact (List.getElem?_eq_some_iff.mp hi).1
    have hz : ws[i]? = some ws[i] := List.getElem?_eq_getElem hik
    have zl := hW.len ws[i] (List.getElem_mem hik)
    have ix0 : atI ((i :: R).map nI) (0 : Int) = some (nI i) := atI_nat (j := 0) rfl
    refine ⟨_, rfl, _, rfl, q13, _, _, _, rfl, rfl, seq_at hq17, ix0, _, rfl, aw, i, k, ws, ws[i], rfl, ha17, hz, by omega, by omega, fun H18 pw s18 hpw _ => ?_⟩
    refine ⟨pw, _, rfl, .inl ⟨seq_at hpw, fun td n_td => ?_⟩⟩
    have e1 : Same H18 (upd H18 td (.tup ((parted ws i k ws[i]).map V.str))) := same_new n_td
    have h_td : upd H18 td (.tup ((parted ws i k ws[i]).map V.str)) td = some (.tup ((parted ws i k ws[i]).map V.str)) := upd_same
    revert e1 h_td
    generalize upd H18 td (.tup ((parted ws i k ws[i]).map V.str)) = H19
    intro e1 h_td
    have s19 := s18.trans e1
    have hr19 := s19 _ _ hr17
    have esg : (!decide (nI i = nI i)) = false := by rw [decide_eq_true rfl]; rfl
    refine ⟨_, rfl, r, _, dx, _, _, rfl, hr19, T.cl_Kept, T.na_Kept_sign, rfl, _, rfl, q13, _, _, _, rfl, rfl, seq_at (s19 _ _ hq17), ix0, rfl, false, congrArg V.bl esg, iteF ?_⟩
    refine ⟨_, rfl, r, dx, co, _, _, i, k, _, ws, ws[i], rfl, hr19, hc17.same s19, hW, by omega, hz, hk, fun H20 kc s20 hkc => ?_⟩
    obtain ⟨dz, zA, zB, zm, z1, z2, z3⟩ := hkc.ex
    have okW := bws_ok (hW.parted k hz).bits
    refine ⟨kc, _, _, _, _, rfl, z1, T.cl_Code, T.na_Code_words, rfl, _, rfl, _, _, dp_tup okW z3, dp_tup okW (tup_at (s20 _ _ h_td)), sh_tup okW, sh_tup okW, false, by rw [eq_tup okW]; rfl, iteF ?_⟩
    have s20' := s19.trans s20
    have hks : keptB (some (ws.map Str.length)) (some ns) (nI k) (.int c) (nI i) = true := by
      rw [kept_sign hl hk c0, eR]
      exact inV_nats.mpr ⟨i, List.mem_cons_self .., rfl⟩
    refine ⟨_, rfl, r, dx, _, _, _, _, _, some (ws.map Str.length), some ns, rfl, s20' _ _ hr17, .inl ⟨co, _, ws, rfl, rfl, hc17.same s20', hG⟩, ct17.same s20', h50, h00, .int _, .int _, .int _, fun H21 s21 => ?_⟩
    rw [hks]
    have s21' := s20'.trans s21
    refine ⟨_, _, rfl, rfl, false, rfl, iteF ?_⟩
  case' refine_2 =>
    refine ⟨_, rfl, _, _, _, _, _, rfl, .own _, ty_ins hr17 T.cl_Recoded T.cc_Recoded T T.co_Recoded, T.k11, _, rfl, iteF ?_⟩
    have hco17 := hco13.same s17
    obtain ⟨dz, zA, zB, zm, z1, z2, z3⟩ := hco17.ex
    have ecs : (!decide (V.int (costP ((put ns k c).zip hs)) = V.int (L (put ns k c)))) = false := by rw [hcs, decide_eq_true rfl]; rfl
    refine ⟨_, rfl, r, _, dx, _, _, rfl, hr17, T.cl_Recoded, T.na_Recoded_other, rfl, o, _, _, _, _, rfl, z1, T.cl_Code, T.na_Code_lengths, rfl, _, rfl, zA, g, false, hs, put ns k c, rfl, z2, hg17, hgs.le, hgs.most, fun H18 s18 => ?_⟩
    refine ⟨_, rfl, g, _, rfl, s18 _ _ hg17, by omega, fun H19 s19 => ?_⟩
    have s20' := s18.trans s19
    refine ⟨rfl, false, congrArg V.bl ecs, iteF ?_⟩
    have hrs : recB (some (ws.map Str.length)) (some ns) (nI k) (.int c) (some hs) = true := by
      rw [rec_sign hW hl h0 hk c0, eR, decide_eq_true (show hs.length = ws.length + 1 by omega), decide_eq_true hcs]
      rfl
    refine ⟨_, rfl, r, dx, _, _, _, _, _, some (ws.map Str.length), some ns, some hs, rfl, s20' _ _ hr17, .inl ⟨co, _, ws, rfl, rfl, hc17.same s20', hG⟩, ct17.same s20', .inl ⟨o, _, us, rfl, rfl, hco17.same s20', hgs⟩, h50, h00, .int _, .int _, fun H21 s21 => ?_⟩
    rw [hrs]
    have s21' := s20'.trans s21
    refine ⟨_, _, rfl, rfl, false, rfl, iteF ?_⟩
  all_goals
    have hp21 := hp17.same s21'
    have hT21 := hT17.ext s21'
    have ha21 := s21' _ _ ha17
    have ht21 := s21' _ _ ht17
    have hq21 := s21' _ _ hq17
    refine ⟨_, rfl, _, rfl, _, rfl, _, rfl, _, rfl, _, rfl, d, lc, aw, tc, q13, ws, ns, k, c, B + 600, rfl, hp21, ha21, hW, by omega, ht21, hl, h0, hk, c0, by rw [eR]; exact hq21, by omega, fun H22 px22 hp22 => ?_⟩
    refine ⟨_, rfl, iteF ?_⟩
    refine ⟨_, rfl, _, rfl, _, rfl, d, lc, aw, tc, ws, ns, B + 600 + 2000, rfl, hp22, px22 _ _ nad ha21, hW, by omega, px22 _ _ ntd ht21, hl, h0, tabs_px hT21 hp21 px22, by omega, fun H23 _ hp23 hT23 => ?_⟩
    refine ⟨_, rfl, iteF ?_⟩
    exact ⟨_, _, _, _, _, _, _, _, _, _, _, rfl, hp23.mono (by omega), hT23⟩
end
end K38


set_option Elab.async false
set_option linter.all false
set_option maxRecDepth 100000
set_option maxHeartbeats 4000000
/-! The head: what the top leaves, told by an own Hook. -/
namespace K38
open PySem PySem.Spec PyProof.Rows L2
/-! ### own facts -/
theorem ex_at {l : List Bool} (h : l.all id = true) (i : Nat) {b : Bool} (e : l[i]? = some b) : b = true := List.all_eq_true.mp h b (List.mem_of_getElem? e)
theorem oexB_ok {K : PySem.W.Frag} {C : Addr} (h : oexB K C = true) : ∃ nm q N bs bm sn sub ab col dd k0 k1 k2 k3 k5, K.lookup C = some (excClassObj nm q C N bs bm true sn sub ab col dd k0 k1 k2 k3 k5 "ValueError.__new__") ∧ PySem.HandSPX.refsVE bm = true := by
  unfold oexB at h
  split at h
  · rename_i dd cd sl ho
    split at h
    · rename_i C' bm k0 k1 k2 k3 n k5 hm hs
      simp only [Bool.and_eq_true, beq_iff_eq, Bool.not_eq_true'] at h
      obtain ⟨⟨⟨⟨rfl, rfl⟩, hdel⟩, hdi⟩, ht⟩ := h
      obtain ⟨nm, bs, mro, ns, qn, hd, sn, sub, ab, col, del⟩ := cd
      dsimp only at hm hdel hdi
      subst hm hdel hdi
      have hsl : sl = #[k0, k1, k2, k3, some (.builtin "ValueError.__new__"), k5] := by
        obtain ⟨l⟩ := sl
        simp only at hs
        rw [hs]
      subst hsl
      exact ⟨nm, qn, ns, bs, bm, sn, sub, ab, col, dd, k0, k1, k2, k3, k5, ho, ht⟩
    · cases h
  · cases h
theorem fnB_ok {K : PySem.W.Frag} {f : Addr} (h : fnB K f = true) : ∃ o, K.lookup f = some o ∧ o.cls = .type "function" := by
  unfold fnB at h
  split at h
  · rename_i ho
    exact ⟨_, ho, rfl⟩
  · cases h
theorem eqcB_ok {K : PySem.W.Frag} {C f : Addr} (h : eqcB K C f = true) : EqC K C f := by
  obtain ⟨h, hf⟩ := He.ba h
  refine ⟨?_, fnB_ok hf⟩
  split at h
  · rename_i dd cd sl ho
    split at h
    · rename_i C' bm k0 k1 k2 k3 n k5 hm hs
      simp only [Bool.and_eq_true, beq_iff_eq, Bool.not_eq_true', decide_eq_true_eq] at h
      obtain ⟨⟨⟨⟨⟨rfl, rfl⟩, hdel⟩, hok⟩, he⟩, hn⟩ := h
      obtain ⟨nm, bs, mro, ns, qn, hd, sn, sub, ab, col, del⟩ := cd
      dsimp only at hm hdel hok he hn
      subst hm hdel
      have hsl : sl = #[k0, k1, k2, k3, some (.builtin n), k5] := by
        obtain ⟨l⟩ := sl
        simp only at hs
        rw [hs]
      subst hsl
      exact ⟨nm, qn, ns, bs, hd, sn, sub, ab, col, dd, k0, k1, k2, k3, k5, n, ho, hok, he, hn⟩
    · cases h
  · cases h
theorem fileB_ok {K : PySem.W.Frag} {v : Value} (h : fileB K v = true) : ∃ cda, v = .ref cda ∧ ∃ cl dd vs sl file tf, K.lookup cda = some ⟨cl, dd, .fields vs, sl⟩ ∧ vs[2]? = some (.str file tf) ∧ ((PX.main.file : Str) == file) = true := by
  cases v with
  | ref cda =>
    refine ⟨cda, rfl, ?_⟩
    have h1 : (match K.lookup cda with
      | some ⟨_, _, .fields vs, _⟩ => (match (vs[2]? : Option Value) with
        | some (.str f _) => PX.main.file == f
        | _ => false)
      | _ => false) = true := h
    cases q : K.lookup cda with
    | none =>
      rw [q] at h1
      cases h1
    | some o =>
      obtain ⟨oc, od, dt, sl⟩ := o
      rw [q] at h1
      cases dt with
      | fields vs =>
        have h2 : (match (vs[2]? : Option Value) with
          | some (.str f _) => PX.main.file == f
          | _ => false) = true := h1
        cases q2 : (vs[2]? : Option Value) with
        | none =>
          rw [q2] at h2
          cases h2
        | some u =>
          rw [q2] at h2
          cases u with
          | str f t => exact ⟨_, _, vs, _, f, t, rfl, q2, h2⟩
          | _ => cases h2
      | _ => cases h1
  | _ => cases h
theorem cellB_ok {K : PySem.W.Frag} {C : Addr} {cl : List (Str × Addr)} (h : cellB K C cl = true) : ∃ y cc, cl = [(y, cc)] ∧ ∃ c2 dd sl, K.lookup cc = some ⟨c2, dd, .cell (some (.ref C)), sl⟩ := by
  unfold cellB at h
  split at h
  · rename_i y cc
    split at h
    · rename_i D sl ho
      have e := of_decide_eq_true h
      rw [e] at ho
      exact ⟨_, _, rfl, _, _, _, ho⟩
    · cases h
  · cases h
theorem supB_ok {K : PySem.W.Frag} {x qual : Str} {st : Stmt} (hy : fnY K x = valY (x, st, qual)) (h : supB K x qual = true) (h1 : PySem.W.nsIn K mainGlobals "super" = some none) (h2 : PySem.W.nsIn K cStatics "thirdparty.any" = some none)
    (h3 : PySem.W.ks_superIn K (He.ga K x) (He.ga K x) "__init__" = some (some (.builtin "ValueError.__init__"))) (h4 : PySem.W.mroIn K (He.ga K x) (.ref (He.ga K x)) = some true) (h5 : PySem.W.subIn K (.ref (He.ga K x)) (.type "ValueError") = some true) :
    ∃ (kV doc pm ct : Value) (an : Option Addr) (cda cc : Addr), SupF PX K (He.ga K x) (He.ma K (He.ga K x) "__init__") cda cc (PySem.W.fnX "__init__" qual (defArgs st) (defBody st) (defScope st) [("__class__", cc)] .none kV doc pm an (.ref cda) ct) ∧ PySem.W.codeIn K (.ref cda) qual = true := by
  unfold supB at h
  unfold fnY at hy
  cases q : K.lookup (He.fAd K (x, some "__init__")) with
  | none =>
    rw [q] at h
    cases h
  | some o =>
    obtain ⟨oc, od, dt, osl⟩ := o
    rw [q] at h hy
    cases dt with
    | func fd =>
      obtain ⟨n1, n2, n3, n4, n5, n6, n7, n8, n9, n10, n11, n12, n13, n14, n15⟩ := fd
      have e2 : (some (n1, n2, n3, n4, n5, n6, n7.map (·.1), n15) : FnY) = (some ("__init__", qual, defArgs st, FuncBody.stmts (defBody st), defScope st, mainGlobals, ["__class__"], builtinsNs) : FnY) := hy
      simp only [Option.some.injEq, Prod.mk.injEq] at e2
      obtain ⟨e3, e4, e5, e6, e7, e8, e9, e10⟩ := e2
      subst e3 e4 e5 e6 e7 e8 e10
      have c3 : (PySem.W.codeIn K n13 n2 && (isN n8 && (fileB K n13 && cellB K (He.ga K x) n7))) = true := h
      obtain ⟨k1, c4⟩ := He.ba c3
      obtain ⟨k2, c5⟩ := He.ba c4
      obtain ⟨k3, k4⟩ := He.ba c5
      obtain ⟨cda, rfl, hl⟩ := fileB_ok k3
      obtain ⟨y, cc, rfl, hc⟩ := cellB_ok k4
      have ey : y = "__class__" := List.head_eq_of_cons_eq e9
      subst ey
      cases n8 with
      | none => exact ⟨n9, n10, n11, n14, n12, cda, cc, ⟨⟨_, _, _, q⟩, hl, hc, by kernel_rfl, h1, h2, h3, h4, h5⟩, k1⟩
      | _ => cases k2
    | _ => cases h

structure SaysK (w : World) (h : Heap) (K : PySem.W.Frag) : Prop where
  x : He.SaysX faL fnL [] tfL exA w h K
  y : yL.map (fun p => fnY K p.1) = yL.map valY
theorem SaysK.ex {w : World} {h : Heap} {K : PySem.W.Frag} (c : SaysK w h K) : (exL K).all id = true := c.x.more
theorem SaysK.y_at {w : World} {h : Heap} {K : PySem.W.Frag} (c : SaysK w h K) (i : Nat) {p : Str × Stmt × Str} (e : yL[i]? = some p) : fnY K p.1 = valY p := by
  have e2 : (yL.map fun p => fnY K p.1)[i]? = (yL.map valY)[i]? := by rw [c.y]
  rw [List.getElem?_map, List.getElem?_map, e] at e2
  exact Option.some.inj e2
theorem saysK_of {w : World} {h : Heap} (e : obsK h.get? = valK w) : SaysK w h (frK h.get?) := by
  have e1 : He.obsT faL fnL [] (frK h.get?) = He.valT fnL [] w := congrArg (fun z : AlK => z.1) e
  have e2 : (exA (frK h.get?) && He.tabsB h.get? tfL (frK h.get?)) = true := congrArg (fun z : AlK => z.2.1) e
  obtain ⟨h1, h2⟩ := He.ba e2
  have key : ∀ p ∈ tfL, PySem.W.codeHdIn (frK h.get?) (He.cT (frK h.get?) p).1 (He.cT (frK h.get?) p).2 = true ∧ ∃ o, h.get? (He.cT (frK h.get?) p).2 = some o ∧ He.emptyTab o = true := fun p hp => by
    obtain ⟨h3, h4⟩ := He.ba (List.all_eq_true.mp h2 p hp)
    refine ⟨h3, ?_⟩
    cases q : h.get? (He.cT (frK h.get?) p).2 with
    | none =>
      rw [q] at h4
      cases h4
    | some o =>
      rw [q] at h4
      exact ⟨o, rfl, h4⟩
  refine ⟨⟨e1, h1, fun p hp => (key p hp).1, fun p hp => ?_, fun p hp => ?_⟩, congrArg (fun z : AlK => z.2.2) e⟩
  · obtain ⟨_, o, q, z⟩ := key p hp
    exact He.frT_none q z
  · obtain ⟨_, o, q, z⟩ := key p hp
    rw [q, He.emptyTab_eq z]
def hookK : PySem.W.Hook where
  α := AlK
  obs := fun s => obsK s.heap.get?
  val := fun w => valK w
  says := fun w h => ∃ K : PySem.W.Frag, K.In h ∧ SaysK w h K
  of := fun _ _ e => ⟨_, He.frT_in, saysK_of e⟩
  keeps := fun _ _ _ ⟨K, hK, c⟩ k => ⟨K, PySem.W.Frag.In.keeps hK k, ⟨⟨c.x.t, c.x.more, c.x.hd, c.x.out, fun p hp => k _ _ (c.x.empty p hp)⟩, c.y⟩⟩
def obK (s : PySem.W.SharedT) : AlK := obsK (HandSHeadRun.getT s)
theorem obK_eq (s : PySem.W.SharedT) : obK s = hookK.obs s.abs := by
  have e : HandSHeadRun.getT s = s.abs.heap.get? := funext (HandSHeadRun.getT_eq s)
  unfold obK
  rw [e] <;> rfl
theorem runK (w : World) : HandSHeadRun.RunEq RR (PySem.W.view RR.prog [lawAt]) hookK obK 20000 loose w := fun os => run0 w os

section
variable {K : PySem.W.Frag} {h : Heap} {mg : Str → Option Value} {w : World} (X : K.In h) (G : h.Ns mainGlobals mg) (c : SaysK w h K)
include X G c
theorem tx_of : Tx K mg := by
  have c2 := c.x.t.d
  have cx := c.ex
  exact {
    b_len := (by have c := c2.fact 0 rfl; exact He.free_ok X G c)
    b_isinstance := (by have c := c2.fact 1 rfl; exact He.free_ok X G c)
    b_int := (by have c := c2.fact 2 rfl; exact He.free_ok X G c)
    b_bool := (by have c := c2.fact 3 rfl; exact He.free_ok X G c)
    b_str := (by have c := c2.fact 4 rfl; exact He.free_ok X G c)
    b_list := (by have c := c2.fact 5 rfl; exact He.free_ok X G c)
    b_tuple := (by have c := c2.fact 6 rfl; exact He.free_ok X G c)
    b_range := (by have c := c2.fact 7 rfl; exact He.free_ok X G c)
    b_enumerate := (by have c := c2.fact 8 rfl; exact He.free_ok X G c)
    b_sorted := (by have c := c2.fact 9 rfl; exact He.free_ok X G c)
    b_all := (by have c := c2.fact 10 rfl; exact He.free_ok X G c)
    b_any := (by have c := c2.fact 11 rfl; exact He.free_ok X G c)
    b_zip := (by have c := c2.fact 12 rfl; exact He.free_ok X G c)
    b_max := (by have c := c2.fact 13 rfl; exact He.free_ok X G c)
    b_min := (by have c := c2.fact 14 rfl; exact He.free_ok X G c)
    b_sum := (by have c := c2.fact 15 rfl; exact He.free_ok X G c)
    b_abs := (by have c := c2.fact 16 rfl; exact He.free_ok X G c)
    b_repr := (by have c := c2.fact 17 rfl; exact He.free_ok X G c)
    g_is_count := (by have c := c2.fact 18 rfl; exact He.glo_ok X G c)
    g_two_power := (by have c := c2.fact 19 rfl; exact He.glo_ok X G c)
    g_check_signs := (by have c := c2.fact 20 rfl; exact He.glo_ok X G c)
    g_check_counts := (by have c := c2.fact 21 rfl; exact He.glo_ok X G c)
    g_bits_of := (by have c := c2.fact 22 rfl; exact He.glo_ok X G c)
    g_canonical := (by have c := c2.fact 23 rfl; exact He.glo_ok X G c)
    g_is_bits := (by have c := c2.fact 24 rfl; exact He.glo_ok X G c)
    g_checked_words := (by have c := c2.fact 25 rfl; exact He.glo_ok X G c)
    g_check_beginnings := (by have c := c2.fact 26 rfl; exact He.glo_ok X G c)
    g_code_of := (by have c := c2.fact 27 rfl; exact He.glo_ok X G c)
    g_check_pair := (by have c := c2.fact 28 rfl; exact He.glo_ok X G c)
    g_cost_by := (by have c := c2.fact 29 rfl; exact He.glo_ok X G c)
    g_joined_pairs := (by have c := c2.fact 30 rfl; exact He.glo_ok X G c)
    g_least_of := (by have c := c2.fact 31 rfl; exact He.glo_ok X G c)
    g_lengths_for := (by have c := c2.fact 32 rfl; exact He.glo_ok X G c)
    g_is_least_for := (by have c := c2.fact 33 rfl; exact He.glo_ok X G c)
    g_as_frozen := (by have c := c2.fact 34 rfl; exact He.glo_ok X G c)
    g_check_rank := (by have c := c2.fact 35 rfl; exact He.glo_ok X G c)
    g_is_sign_of := (by have c := c2.fact 36 rfl; exact He.glo_ok X G c)
    g_parted_code := (by have c := c2.fact 37 rfl; exact He.glo_ok X G c)
    g_put_prices := (by have c := c2.fact 38 rfl; exact He.glo_ok X G c)
    g_grown_counts := (by have c := c2.fact 39 rfl; exact He.glo_ok X G c)
    g_check_put := (by have c := c2.fact 40 rfl; exact He.glo_ok X G c)
    g_put_counted := (by have c := c2.fact 41 rfl; exact He.glo_ok X G c)
    g_kept_code := (by have c := c2.fact 42 rfl; exact He.glo_ok X G c)
    g_can_put := (by have c := c2.fact 43 rfl; exact He.glo_ok X G c)
    g_is_kept := (by have c := c2.fact 44 rfl; exact He.glo_ok X G c)
    g_is_recoded := (by have c := c2.fact 45 rfl; exact He.glo_ok X G c)
    g_l_pen_of := (by have c := c2.fact 46 rfl; exact He.glo_ok X G c)
    g_l_draw := (by have c := c2.fact 47 rfl; exact He.glo_ok X G c)
    g_l_pick := (by have c := c2.fact 48 rfl; exact He.glo_ok X G c)
    g_l_shuffled := (by have c := c2.fact 49 rfl; exact He.glo_ok X G c)
    g_l_some_code := (by have c := c2.fact 50 rfl; exact He.glo_ok X G c)
    g_l_cost := (by have c := c2.fact 51 rfl; exact He.glo_ok X G c)
    g_l_some_counts := (by have c := c2.fact 52 rfl; exact He.glo_ok X G c)
    g_l_least := (by have c := c2.fact 53 rfl; exact He.glo_ok X G c)
    g_l_words := (by have c := c2.fact 54 rfl; exact He.glo_ok X G c)
    g_l_code := (by have c := c2.fact 55 rfl; exact He.glo_ok X G c)
    g_l_near_counts := (by have c := c2.fact 56 rfl; exact He.glo_ok X G c)
    g_l_met := (by have c := c2.fact 57 rfl; exact He.glo_ok X G c)
    g_l_parted := (by have c := c2.fact 58 rfl; exact He.glo_ok X G c)
    g_l_right_signs := (by have c := c2.fact 59 rfl; exact He.glo_ok X G c)
    g_l_some_count := (by have c := c2.fact 60 rfl; exact He.glo_ok X G c)
    g_l_are_papers := (by have c := c2.fact 61 rfl; exact He.glo_ok X G c)
    g_l_are_refused := (by have c := c2.fact 62 rfl; exact He.glo_ok X G c)
    g_law := (by have c := c2.fact 63 rfl; exact He.glo_ok X G c)
    g_Code := (by have c := c2.fact 64 rfl; exact He.glo_ok X G c)
    g_Kept := (by have c := c2.fact 65 rfl; exact He.glo_ok X G c)
    g_Recoded := (by have c := c2.fact 66 rfl; exact He.glo_ok X G c)
    mS := (by have c := c2.fact 67 rfl; exact He.int_ok X G c)
    mL := (by have c := c2.fact 68 rfl; exact He.int_ok X G c)
    cl_Code := (by have c := c2.fact 69 rfl; exact He.cls_ok c)
    mk_Code := (by have c := c2.fact 70 rfl; exact He.mkr_ok c)
    na_Code_lengths := (by have c := c2.fact 71 rfl; exact He.noat_ok c)
    na_Code_words := (by have c := c2.fact 72 rfl; exact He.noat_ok c)
    na_Code_size := (by have c := c2.fact 73 rfl; exact He.noat_ok c)
    na_Code_longest := (by have c := c2.fact 74 rfl; exact He.noat_ok c)
    cl_Kept := (by have c := c2.fact 75 rfl; exact He.cls_ok c)
    mk_Kept := (by have c := c2.fact 76 rfl; exact He.mkr_ok c)
    na_Kept_code := (by have c := c2.fact 77 rfl; exact He.noat_ok c)
    na_Kept_counts := (by have c := c2.fact 78 rfl; exact He.noat_ok c)
    na_Kept_rank := (by have c := c2.fact 79 rfl; exact He.noat_ok c)
    na_Kept_count := (by have c := c2.fact 80 rfl; exact He.noat_ok c)
    na_Kept_sign := (by have c := c2.fact 81 rfl; exact He.noat_ok c)
    cl_Recoded := (by have c := c2.fact 82 rfl; exact He.cls_ok c)
    mk_Recoded := (by have c := c2.fact 83 rfl; exact He.mkr_ok c)
    na_Recoded_code := (by have c := c2.fact 84 rfl; exact He.noat_ok c)
    na_Recoded_counts := (by have c := c2.fact 85 rfl; exact He.noat_ok c)
    na_Recoded_rank := (by have c := c2.fact 86 rfl; exact He.noat_ok c)
    na_Recoded_count := (by have c := c2.fact 87 rfl; exact He.noat_ok c)
    na_Recoded_other := (by have c := c2.fact 88 rfl; exact He.noat_ok c)
    me_Code := (by have c := c2.fact 89 rfl; exact He.meth_ok c)
    f_is_count := c2.def_ 0 rfl
    f_two_power := c2.def_ 1 rfl
    f_check_signs := c2.def_ 2 rfl
    f_check_counts := c2.def_ 3 rfl
    f_bits_of := c2.def_ 4 rfl
    f_canonical := c2.def_ 5 rfl
    f_is_bits := c2.def_ 6 rfl
    f_checked_words := c2.def_ 7 rfl
    f_check_beginnings := c2.def_ 8 rfl
    f_code_of := c2.def_ 9 rfl
    f_check_pair := c2.def_ 10 rfl
    f_cost_by := c2.def_ 11 rfl
    f_joined_pairs := c2.def_ 12 rfl
    f_least_of := c2.def_ 13 rfl
    f_lengths_for := c2.def_ 14 rfl
    f_is_least_for := c2.def_ 15 rfl
    f_as_frozen := c2.def_ 16 rfl
    f_check_rank := c2.def_ 17 rfl
    f_is_sign_of := c2.def_ 18 rfl
    f_parted_code := c2.def_ 19 rfl
    f_put_prices := c2.def_ 20 rfl
    f_grown_counts := c2.def_ 21 rfl
    f_check_put := c2.def_ 22 rfl
    f_put_counted := c2.def_ 23 rfl
    f_kept_code := c2.def_ 24 rfl
    f_can_put := c2.def_ 25 rfl
    f_is_kept := c2.def_ 26 rfl
    f_is_recoded := c2.def_ 27 rfl
    f_l_pen_of := c2.def_ 28 rfl
    f_l_draw := c2.def_ 29 rfl
    f_l_pick := c2.def_ 30 rfl
    f_l_shuffled := c2.def_ 31 rfl
    f_l_some_code := c2.def_ 32 rfl
    f_l_cost := c2.def_ 33 rfl
    f_l_some_counts := c2.def_ 34 rfl
    f_l_least := c2.def_ 35 rfl
    f_l_words := c2.def_ 36 rfl
    f_l_code := c2.def_ 37 rfl
    f_l_near_counts := c2.def_ 38 rfl
    f_l_met := c2.def_ 39 rfl
    f_l_parted := c2.def_ 40 rfl
    f_l_right_signs := c2.def_ 41 rfl
    f_l_some_count := c2.def_ 42 rfl
    f_l_are_papers := c2.def_ 43 rfl
    f_l_are_refused := c2.def_ 44 rfl
    f_law := c2.def_ 45 rfl
    f_Code_init := c2.def_ 46 rfl
    f_Code_eq := c2.def_ 47 rfl
    f_Kept_init := c2.def_ 48 rfl
    f_Recoded_init := c2.def_ 49 rfl
    k0 := of_decide_eq_true (ex_at cx 0 rfl)
    k1 := of_decide_eq_true (ex_at cx 1 rfl)
    k2 := of_decide_eq_true (ex_at cx 2 rfl)
    k3 := of_decide_eq_true (ex_at cx 3 rfl)
    k4 := of_decide_eq_true (ex_at cx 4 rfl)
    k5 := of_decide_eq_true (ex_at cx 5 rfl)
    k6 := of_decide_eq_true (ex_at cx 6 rfl)
    k7 := of_decide_eq_true (ex_at cx 7 rfl)
    k8 := of_decide_eq_true (ex_at cx 8 rfl)
    k9 := of_decide_eq_true (ex_at cx 9 rfl)
    k10 := of_decide_eq_true (ex_at cx 10 rfl)
    k11 := of_decide_eq_true (ex_at cx 11 rfl)
    k12 := of_decide_eq_true (ex_at cx 12 rfl)
    k13 := of_decide_eq_true (ex_at cx 13 rfl)
    cc_Code := of_decide_eq_true (ex_at cx 14 rfl)
    co_Code := of_decide_eq_true (ex_at cx 15 rfl)
    cc_Kept := of_decide_eq_true (ex_at cx 16 rfl)
    co_Kept := of_decide_eq_true (ex_at cx 17 rfl)
    cc_Recoded := of_decide_eq_true (ex_at cx 18 rfl)
    co_Recoded := of_decide_eq_true (ex_at cx 19 rfl)
    cg := of_decide_eq_true (ex_at cx 20 rfl)
    ct := of_decide_eq_true (ex_at cx 21 rfl) }
theorem met_of : Met K mg := by
  have c2 := c.x.t.d
  have cx := c.ex
  exact {
    gT := (by have c := c2.fact 90 rfl; exact He.glo_ok X G c)
    gR := (by have c := c2.fact 91 rfl; exact He.glo_ok X G c)
    gC := (by have c := c2.fact 92 rfl; exact He.glo_ok X G c)
    gS := (by have c := c2.fact 93 rfl; exact He.glo_ok X G c)
    rr := (by have c := c2.fact 94 rfl; exact He.exm_ok c)
    cr := (by have c := c2.fact 95 rfl; exact He.exm_ok c)
    ct := (by have c := c2.fact 96 rfl; exact He.exm_ok c)
    cc := (by have c := c2.fact 97 rfl; exact He.exm_ok c)
    sr := (by have c := c2.fact 98 rfl; exact He.exm_ok c)
    st := (by have c := c2.fact 99 rfl; exact He.exm_ok c)
    sc := (by have c := c2.fact 100 rfl; exact He.exm_ok c)
    ss := (by have c := c2.fact 101 rfl; exact He.exm_ok c)
    nR := (by have c := c2.fact 102 rfl; exact He.noat_ok c)
    nC := (by have c := c2.fact 103 rfl; exact He.noat_ok c)
    nS := (by have c := c2.fact 104 rfl; exact He.noat_ok c)
    nW := (by have c := c2.fact 105 rfl; exact He.noat_ok c)
    xR := xfB_ok (ex_at cx 32 rfl)
    xC := xfB_ok (ex_at cx 44 rfl)
    xS := xfB_ok (ex_at cx 56 rfl) }
theorem ex_BadRank : EF_BadRank PX K mg := by
  have c2 := c.x.t.d
  have cx := c.ex
  have g := (by have c := c2.fact 91 rfl; exact He.glo_ok X G c)
  have T : OexC K (He.ga K "BadRank") := ⟨oexB_ok (ex_at cx 31 rfl), of_decide_eq_true (ex_at cx 24 rfl), of_decide_eq_true (ex_at cx 25 rfl), of_decide_eq_true (ex_at cx 26 rfl), (ex_at cx 30 rfl)⟩
  refine ⟨g, T, of_decide_eq_true (ex_at cx 22 rfl), of_decide_eq_true (ex_at cx 23 rfl), ?_, ?_⟩
  · exact supB_ok (c.y_at 0 rfl) (ex_at cx 33 rfl) (He.eqO_ok (c2.fact 106 rfl)) (of_decide_eq_true (ex_at cx 58 rfl)) (of_decide_eq_true (ex_at cx 27 rfl)) (of_decide_eq_true (ex_at cx 28 rfl)) (of_decide_eq_true (ex_at cx 29 rfl))
  · intro n hn
    simp only [List.mem_cons, List.not_mem_nil, or_false] at hn
    subst hn
    exact (by have c := c2.fact 102 rfl; exact He.noat_ok c)
theorem ex_BadCount : EF_BadCount PX K mg := by
  have c2 := c.x.t.d
  have cx := c.ex
  have g := (by have c := c2.fact 92 rfl; exact He.glo_ok X G c)
  have T : OexC K (He.ga K "BadCount") := ⟨oexB_ok (ex_at cx 43 rfl), of_decide_eq_true (ex_at cx 36 rfl), of_decide_eq_true (ex_at cx 37 rfl), of_decide_eq_true (ex_at cx 38 rfl), (ex_at cx 42 rfl)⟩
  refine ⟨g, T, of_decide_eq_true (ex_at cx 34 rfl), of_decide_eq_true (ex_at cx 35 rfl), ?_, ?_⟩
  · exact supB_ok (c.y_at 1 rfl) (ex_at cx 45 rfl) (He.eqO_ok (c2.fact 106 rfl)) (of_decide_eq_true (ex_at cx 58 rfl)) (of_decide_eq_true (ex_at cx 39 rfl)) (of_decide_eq_true (ex_at cx 40 rfl)) (of_decide_eq_true (ex_at cx 41 rfl))
  · intro n hn
    simp only [List.mem_cons, List.not_mem_nil, or_false] at hn
    subst hn
    exact (by have c := c2.fact 103 rfl; exact He.noat_ok c)
theorem ex_OtherSize : EF_OtherSize PX K mg := by
  have c2 := c.x.t.d
  have cx := c.ex
  have g := (by have c := c2.fact 93 rfl; exact He.glo_ok X G c)
  have T : OexC K (He.ga K "OtherSize") := ⟨oexB_ok (ex_at cx 55 rfl), of_decide_eq_true (ex_at cx 48 rfl), of_decide_eq_true (ex_at cx 49 rfl), of_decide_eq_true (ex_at cx 50 rfl), (ex_at cx 54 rfl)⟩
  refine ⟨g, T, of_decide_eq_true (ex_at cx 46 rfl), of_decide_eq_true (ex_at cx 47 rfl), ?_, ?_⟩
  · exact supB_ok (c.y_at 2 rfl) (ex_at cx 57 rfl) (He.eqO_ok (c2.fact 106 rfl)) (of_decide_eq_true (ex_at cx 58 rfl)) (of_decide_eq_true (ex_at cx 51 rfl)) (of_decide_eq_true (ex_at cx 52 rfl)) (of_decide_eq_true (ex_at cx 53 rfl))
  · intro n hn
    simp only [List.mem_cons, List.not_mem_nil, or_false] at hn
    rcases hn with rfl | rfl
    · exact (by have c := c2.fact 104 rfl; exact He.noat_ok c)
    · exact (by have c := c2.fact 105 rfl; exact He.noat_ok c)
theorem exs_of : Exs PX K mg := ⟨ex_BadRank X G c, ex_BadCount X G c, ex_OtherSize X G c⟩
omit G in
theorem eqc_of : EqC K (He.ga K "Code") (He.ma K (He.ga K "Code") "__eq__") := eqcB_ok (ex_at c.ex 59 rfl)
end
/-! ### the law -/
section
variable {K : PySem.W.Frag} {h : Heap} {mg : Str → Option Value} {w : World}
theorem tabF_of {base : Heap} (hTB : LamX.TabB base mg (He.cT K ("_law_are_refused", none)).1 (He.cT K ("_law_are_refused", none)).2) : TabF K mg base (He.cT K ("_law_are_refused", none)).2 := ⟨fun c hx => by
  obtain ⟨oc, od, osl, fd, lk, e⟩ := hx
  have z : He.codeOf K ("_law_are_refused", none) = c := He.codeOf_eq (p := ("_law_are_refused", none)) lk e
  rw [← z]
  exact hTB⟩
theorem lawK (X : K.In h) (G : h.Ns mainGlobals mg) (c : SaysK w h K) : LamX.LawAtS RWL w K CX0 10 63 "_law_script" mg (He.ga K "law") h := by
  have T := tx_of X G c
  have F := exs_of X G c
  have M := met_of X G c
  have EQ := eqc_of X c
  obtain ⟨fd, FD⟩ := T.f_law
  have b := FunD.bindsA (ps := ["_law_script"]) FD fun _ _ _ _ _ _ us hl => match us, hl with | [_], _ => rfl
  have one : ∀ {Q : Addr × Addr → Prop}, Q (He.cT K ("_law_are_refused", none)) → ∀ p ∈ [He.cT K ("_law_are_refused", none)], Q p := fun h p hp => by rw [List.mem_singleton.mp hp]; exact h
  have mt : (("_law_are_refused", none) : He.Defn) ∈ tfL := List.mem_singleton.mpr rfl
  refine ⟨fd, [He.cT K ("_law_are_refused", none)], spLaw K (He.cT K ("_law_are_refused", none)).2, one (c.x.empty _ mt), one (c.x.out _ mt), one (PySem.W.codeHd_of_K X (c.x.hd _ mt)), fun s u => b s [u] rfl, fun H a ns hl _ hH hS => ⟨a, ns, rfl, hS, fun p hp => ?_, fun _ => rfl⟩, fun base Kb Gb hTB => ?_⟩
  · rw [List.mem_singleton.mp hp]
    exact LamX.TabS.nil (hH _ (List.mem_singleton.mpr rfl))
  · exact ok_law FD T F M (tabF_of (hTB _ (List.mem_singleton.mpr rfl))) EQ
end
end K38
open PySem PySem.W PySem.Calls PyProof.Rows
theorem PySem.Challenge.cw_wordvault_k38_whole_counted_signs_holds : PySem.Challenge.rw_wordvault_k38_whole_counted_signs.Holds := by
  w_on; o_law
  refine HandSHeadRun.head_any (r := OpenLaw.row PySem.Challenge.rw_wordvault_k38_whole_counted_signs) (q := view (OpenLaw.row PySem.Challenge.rw_wordvault_k38_whole_counted_signs).prog [K38.lawAt]) (H := K38.hookK) (ob := K38.obK) (M := 20000) (loose := K38.loose) (d := HandSHeadRun.topDef (OpenLaw.row PySem.Challenge.rw_wordvault_k38_whole_counted_signs).prog K38.lawAt) (kwd := []) K38.obK_eq
    (by kernel_rfl) (fun s => by kernel_rfl) K38.runK (by kernel_rfl) (by kernel_rfl) (by kernel_rfl) (by rfl) (by first | assumption | decide +kernel) (by decide +kernel) ⟨rfl, rfl, rfl, rfl, rfl, by decide +kernel⟩ ?hw ?hc
  case hw => w_witness2
  case hc =>
    refine LamX.walk_ofTsE (l := PySem.Challenge.rw_wordvault_k38_whole_counted_signs) (n := 63) (k := 10) (x := "_law_script") (CX := fun _ => L2.CX0) rfl (by decide) (by kernel_rfl) ⟨rfl, by decide, by decide⟩ ?F (fun _ _ _ _ _ z => z)
    intro w mg fa h Y G hmg0
    obtain ⟨K, KX, c⟩ := Y
    have hmg : mg ("law" : PySem.Str) = some (.ref fa) := by
      have e : (HandSHeadRun.topDef (OpenLaw.row PySem.Challenge.rw_wordvault_k38_whole_counted_signs).prog K38.lawAt).name = ("law" : PySem.Str) := by kernel_rfl
      rw [← e]
      exact hmg0
    have T := K38.tx_of KX G c
    have e := hmg.symm.trans T.g_law
    cases e
    exact ⟨K, KX, K38.lawK KX G c⟩


