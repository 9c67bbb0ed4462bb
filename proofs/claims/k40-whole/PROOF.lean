import PyProof.Rows.All
import Wide.All
import OpenK.AllK
import Wide.FinOn
import KE.KStateDown
import HandS.ForMost
import HandS.Defaults
import HandS.Property
import HandS.IsInst
import HandS.DictComp
import HandS.Style
import HandS.CallLocal
import HandS.Conv
import HandS.IntHex
import HandS.StrMore
import HandS.Lambda
import HandS.EndTab
import HandS.HeadWalk
import HandS.NoneIn
import KE.KUnpackStar
import HandS.Head0
import HandS.Head1
import HandS.Head2
import HandS.HeadEnd
import HandS.HeadHook1
import HandS.HeadHook2
import HandS.HeadHook3
import HandS.HeadHook4
import HandS.HeadNt
import PySem.Challenge.RW_framejoins_k40_whole_outside_of_the_touc
set_option Elab.async false
set_option linter.all false
set_option maxRecDepth 100000
set_option maxHeartbeats 4000000
namespace FJ
open PySem PySem.Spec PyProof.Rows L2
/-! ### addresses of what stands behind the names -/
def itA (K : PySem.W.Frag) (a : Addr) (i : Nat) : Addr := match K.lookup a with
  | some ⟨_, _, .seq its _, _⟩ => (match its.toList[i]? with
    | some (.ref b) => b
    | _ => 0)
  | _ => 0
def propP (K : PySem.W.Frag) : Addr := He.ma K (He.ga K "Stream") "records"
def propG (K : PySem.W.Frag) : Addr := match PySem.W.recIn K (propP K) "property" with
  | some (.ref f :: _) => f
  | _ => 0
def topS (i : Nat) : Stmt := PySem.Challenge.pw_framejoins_k40_whole_outside_of_the_touc.main.body.getD i (.Pass ⟨0, 0, 0, 0⟩)
abbrev s_is_integer_folds : Stmt := topS 12
abbrev s_is_shape : Stmt := topS 14
abbrev s_is_joint : Stmt := topS 15
abbrev s_unfold : Stmt := topS 16
abbrev s_require_values : Stmt := topS 17
abbrev s_is_placed : Stmt := topS 18
abbrev s_require_joints : Stmt := topS 19
abbrev s_changed_pairs : Stmt := topS 20
abbrev s_unfolded : Stmt := topS 21
abbrev s_require_between : Stmt := topS 25
abbrev s_require_list : Stmt := topS 26
abbrev s_sum_counts : Stmt := topS 27
abbrev s_join_levels : Stmt := topS 28
abbrev s_coarse_count : Stmt := topS 29
abbrev s_is_table : Stmt := topS 37
abbrev s_is_tables : Stmt := topS 38
abbrev s_parameter : Stmt := topS 39
abbrev s_table_behind : Stmt := topS 40
abbrev s_code_number : Stmt := topS 41
abbrev s_number_of : Stmt := topS 42
abbrev s_ones_at : Stmt := topS 43
abbrev s_read_code : Stmt := topS 44
abbrev s_require_numbers : Stmt := topS 45
abbrev s_require_coarse : Stmt := topS 46
abbrev s_read_numbers : Stmt := topS 47
abbrev s_mark_of : Stmt := topS 48
abbrev s_is_integer_streams : Stmt := topS 55
abbrev s_is_between : Stmt := topS 57
abbrev s_is_row : Stmt := topS 58
abbrev s_is_frame : Stmt := topS 59
abbrev s_is_record : Stmt := topS 60
abbrev s_frame_numbers : Stmt := topS 61
abbrev s_block_values : Stmt := topS 62
abbrev s_unfold_blocks : Stmt := topS 63
abbrev s_Stream_init : Stmt := inClass (topS 64) 0
abbrev s_Stream_load : Stmt := inClass (topS 64) 1
abbrev s_Stream_records : Stmt := inClass (topS 64) 2
abbrev s_Stream_sound : Stmt := inClass (topS 64) 5
abbrev s_Stream_require_frame : Stmt := inClass (topS 64) 6
abbrev s_Stream_block : Stmt := inClass (topS 64) 7
abbrev s_index_of : Stmt := topS 66
abbrev s_records_of : Stmt := topS 67
abbrev s_read_frame : Stmt := topS 68
abbrev s_is_state : Stmt := topS 69
abbrev s_fetched_values : Stmt := topS 70
abbrev s_require_lost : Stmt := topS 72
abbrev s_unread_frames : Stmt := topS 73
abbrev s_touched : Stmt := topS 74
abbrev s_with_silence : Stmt := topS 75
abbrev s_concealed : Stmt := topS 76
abbrev s_law_pool : Stmt := topS 78
abbrev s_law_take : Stmt := topS 79
abbrev s_law_binary : Stmt := topS 81
abbrev s_law_parameter : Stmt := topS 82
abbrev s_law_code : Stmt := topS 83
abbrev s_law_behind : Stmt := topS 84
abbrev s_law_u : Stmt := topS 85
abbrev s_law_written : Stmt := topS 86
abbrev s_law_mark : Stmt := topS 87
abbrev s_law_counts : Stmt := topS 88
abbrev s_law_heads : Stmt := topS 92
abbrev s_law_some : Stmt := topS 93
abbrev s_law_frame : Stmt := topS 94
abbrev s_law_tables : Stmt := topS 95
abbrev s_law_stream : Stmt := topS 96
abbrev s_law_other : Stmt := topS 98
abbrev s_law : Stmt := topS 99
theorem sc_is_integer_folds : FnScope ["value"] ["value"] (defScope s_is_integer_folds) := ⟨rfl, rfl, rfl, by decide +kernel, rfl, by decide +kernel, by decide +kernel⟩
theorem sc_is_shape : FnScope ["value"] ["value"] (defScope s_is_shape) := ⟨rfl, rfl, rfl, by decide +kernel, rfl, by decide +kernel, by decide +kernel⟩
theorem sc_is_joint : FnScope ["value", "width", "shape"] ["value"] (defScope s_is_joint) := ⟨rfl, rfl, rfl, by decide +kernel, rfl, by decide +kernel, by decide +kernel⟩
theorem sc_unfold : FnScope ["shape", "a", "b", "c", "d"] ["shape", "a", "b"] (defScope s_unfold) := ⟨rfl, rfl, rfl, by decide +kernel, rfl, by decide +kernel, by decide +kernel⟩
theorem sc_require_values : FnScope ["values", "index", "value"] ["values"] (defScope s_require_values) := ⟨rfl, rfl, rfl, by decide +kernel, rfl, by decide +kernel, by decide +kernel⟩
theorem sc_is_placed : FnScope ["value"] ["value"] (defScope s_is_placed) := ⟨rfl, rfl, rfl, by decide +kernel, rfl, by decide +kernel, by decide +kernel⟩
theorem sc_require_joints : FnScope ["joints", "length", "last", "before", "index", "item", "place", "width", "shape"] ["joints", "length"] (defScope s_require_joints) := ⟨rfl, rfl, rfl, by decide +kernel, rfl, by decide +kernel, by decide +kernel⟩
theorem sc_changed_pairs : FnScope ["values", "joints", "change", "found", "place", "width", "shape", "index", "left", "right"] ["values", "joints", "change"] (defScope s_changed_pairs) := ⟨rfl, rfl, rfl, by decide +kernel, rfl, by decide +kernel, by decide +kernel⟩
theorem sc_unfolded : FnScope ["values", "joints"] ["values", "joints"] (defScope s_unfolded) := ⟨rfl, rfl, rfl, by decide +kernel, rfl, by decide +kernel, by decide +kernel⟩
theorem sc_require_between : FnScope ["value", "least", "most"] ["value", "least", "most"] (defScope s_require_between) := ⟨rfl, rfl, rfl, by decide +kernel, rfl, by decide +kernel, by decide +kernel⟩
theorem sc_require_list : FnScope ["values", "index", "value"] ["values"] (defScope s_require_list) := ⟨rfl, rfl, rfl, by decide +kernel, rfl, by decide +kernel, by decide +kernel⟩
theorem sc_sum_counts : FnScope ["length", "levels", "counts", "level"] ["length", "levels"] (defScope s_sum_counts) := ⟨rfl, rfl, rfl, by decide +kernel, rfl, by decide +kernel, by decide +kernel⟩
theorem sc_join_levels : FnScope ["numbers", "levels", "counts", "sums", "level", "differences", "values", "s", "d", "a"] ["numbers", "levels"] (defScope s_join_levels) := ⟨rfl, rfl, rfl, by decide +kernel, rfl, by decide +kernel, by decide +kernel⟩
theorem sc_coarse_count : FnScope ["length", "levels"] ["length", "levels"] (defScope s_coarse_count) := ⟨rfl, rfl, rfl, by decide +kernel, rfl, by decide +kernel, by decide +kernel⟩
theorem sc_is_table : FnScope ["value", "total", "count"] ["value"] (defScope s_is_table) := ⟨rfl, rfl, rfl, by decide +kernel, rfl, by decide +kernel, by decide +kernel⟩
theorem sc_is_tables : FnScope ["value"] ["value"] (defScope s_is_tables) := ⟨rfl, rfl, rfl, by decide +kernel, rfl, by decide +kernel, by decide +kernel⟩
theorem sc_parameter : FnScope ["table", "total", "product", "k"] ["table"] (defScope s_parameter) := ⟨rfl, rfl, rfl, by decide +kernel, rfl, by decide +kernel, by decide +kernel⟩
theorem sc_table_behind : FnScope ["table", "u", "total", "count"] ["table", "u"] (defScope s_table_behind) := ⟨rfl, rfl, rfl, by decide +kernel, rfl, by decide +kernel, by decide +kernel⟩
theorem sc_code_number : FnScope ["number"] ["number"] (defScope s_code_number) := ⟨rfl, rfl, rfl, by decide +kernel, rfl, by decide +kernel, by decide +kernel⟩
theorem sc_number_of : FnScope ["u"] ["u"] (defScope s_number_of) := ⟨rfl, rfl, rfl, by decide +kernel, rfl, by decide +kernel, by decide +kernel⟩
theorem sc_ones_at : FnScope ["bits", "at", "most", "count"] ["bits", "at", "most"] (defScope s_ones_at) := ⟨rfl, rfl, rfl, by decide +kernel, rfl, by decide +kernel, by decide +kernel⟩
theorem sc_read_code : FnScope ["bits", "at", "k", "head", "end", "ones", "start", "u"] ["bits", "at", "k"] (defScope s_read_code) := ⟨rfl, rfl, rfl, by decide +kernel, rfl, by decide +kernel, by decide +kernel⟩
theorem sc_require_numbers : FnScope ["numbers", "index", "number"] ["numbers"] (defScope s_require_numbers) := ⟨rfl, rfl, rfl, by decide +kernel, rfl, by decide +kernel, by decide +kernel⟩
theorem sc_require_coarse : FnScope ["coarse", "length"] ["coarse", "length"] (defScope s_require_coarse) := ⟨rfl, rfl, rfl, by decide +kernel, rfl, by decide +kernel, by decide +kernel⟩
theorem sc_read_numbers : FnScope ["bits", "length", "coarse", "tables", "current", "numbers", "at", "index", "which", "found", "u", "sign"] ["bits", "length", "coarse", "tables"] (defScope s_read_numbers) := ⟨rfl, rfl, rfl, by decide +kernel, rfl, by decide +kernel, by decide +kernel⟩
theorem sc_mark_of : FnScope ["numbers", "mark", "number"] ["numbers"] (defScope s_mark_of) := ⟨rfl, rfl, rfl, by decide +kernel, rfl, by decide +kernel, by decide +kernel⟩
theorem sc_is_integer_streams : FnScope ["value"] ["value"] (defScope s_is_integer_streams) := ⟨rfl, rfl, rfl, by decide +kernel, rfl, by decide +kernel, by decide +kernel⟩
theorem sc_is_between : FnScope ["value", "least", "most"] ["value", "least", "most"] (defScope s_is_between) := ⟨rfl, rfl, rfl, by decide +kernel, rfl, by decide +kernel, by decide +kernel⟩
theorem sc_is_row : FnScope ["value"] ["value"] (defScope s_is_row) := ⟨rfl, rfl, rfl, by decide +kernel, rfl, by decide +kernel, by decide +kernel⟩
theorem sc_is_frame : FnScope ["value", "sign"] ["value"] (defScope s_is_frame) := ⟨rfl, rfl, rfl, by decide +kernel, rfl, by decide +kernel, by decide +kernel⟩
theorem sc_is_record : FnScope ["value"] ["value"] (defScope s_is_record) := ⟨rfl, rfl, rfl, by decide +kernel, rfl, by decide +kernel, by decide +kernel⟩
theorem sc_frame_numbers : FnScope ["record", "tables", "length", "levels", "found"] ["record", "tables"] (defScope s_frame_numbers) := ⟨rfl, rfl, rfl, by decide +kernel, rfl, by decide +kernel, by decide +kernel⟩
theorem sc_block_values : FnScope ["record", "numbers", "number"] ["record", "numbers"] (defScope s_block_values) := ⟨rfl, rfl, rfl, by decide +kernel, rfl, by decide +kernel, by decide +kernel⟩
theorem sc_unfold_blocks : FnScope ["blocks", "joints", "values", "places", "block", "joint"] ["blocks", "joints"] (defScope s_unfold_blocks) := ⟨rfl, rfl, rfl, by decide +kernel, rfl, by decide +kernel, by decide +kernel⟩
theorem sc_Stream_init : FnScope ["self", "records", "index", "record", "blocks", "row", "read"] ["self", "records"] (defScope s_Stream_init) := ⟨rfl, rfl, rfl, by decide +kernel, rfl, by decide +kernel, by decide +kernel⟩
theorem sc_Stream_load : FnScope ["self", "tables", "start", "left", "index", "record", "found"] ["self"] (defScope s_Stream_load) := ⟨rfl, rfl, rfl, by decide +kernel, rfl, by decide +kernel, by decide +kernel⟩
theorem sc_Stream_records : FnScope ["self"] ["self"] (defScope s_Stream_records) := ⟨rfl, rfl, rfl, by decide +kernel, rfl, by decide +kernel, by decide +kernel⟩
theorem sc_Stream_sound : FnScope ["self"] ["self"] (defScope s_Stream_sound) := ⟨rfl, rfl, rfl, by decide +kernel, rfl, by decide +kernel, by decide +kernel⟩
theorem sc_Stream_require_frame : FnScope ["self", "frame"] ["self", "frame"] (defScope s_Stream_require_frame) := ⟨rfl, rfl, rfl, by decide +kernel, rfl, by decide +kernel, by decide +kernel⟩
theorem sc_Stream_block : FnScope ["self", "frame"] ["self", "frame"] (defScope s_Stream_block) := ⟨rfl, rfl, rfl, by decide +kernel, rfl, by decide +kernel, by decide +kernel⟩
theorem sc_index_of : FnScope ["stream", "index", "origin", "at", "record", "place", "start", "length", "left", "right"] ["stream"] (defScope s_index_of) := ⟨rfl, rfl, rfl, by decide +kernel, rfl, by decide +kernel, by decide +kernel⟩
theorem sc_records_of : FnScope ["index", "frames", "found", "frame", "first"] ["index", "frames"] (defScope s_records_of) := ⟨rfl, rfl, rfl, by decide +kernel, rfl, by decide +kernel, by decide +kernel⟩
theorem sc_read_frame : FnScope ["row", "record", "tables"] ["row", "record", "tables"] (defScope s_read_frame) := ⟨rfl, rfl, rfl, by decide +kernel, rfl, by decide +kernel, by decide +kernel⟩
theorem sc_is_state : FnScope ["record"] ["record"] (defScope s_is_state) := ⟨rfl, rfl, rfl, by decide +kernel, rfl, by decide +kernel, by decide +kernel⟩
theorem sc_fetched_values : FnScope ["index", "fetch", "frames", "rows", "values", "tables", "at", "record", "frame", "row", "found"] ["index", "fetch", "frames"] (defScope s_fetched_values) := ⟨rfl, rfl, rfl, by decide +kernel, rfl, by decide +kernel, by decide +kernel⟩
theorem sc_require_lost : FnScope ["lost", "value"] ["lost"] (defScope s_require_lost) := ⟨rfl, rfl, rfl, by decide +kernel, rfl, by decide +kernel, by decide +kernel⟩
theorem sc_unread_frames : FnScope ["index", "lost", "found", "frame", "row", "at"] ["index", "lost"] (defScope s_unread_frames) := ⟨rfl, rfl, rfl, by decide +kernel, rfl, by decide +kernel, by decide +kernel⟩
theorem sc_touched : FnScope ["index", "lost", "found", "frame", "record", "start", "length", "left", "right", "rest", "first", "last"] ["index", "lost"] (defScope s_touched) := ⟨rfl, rfl, rfl, by decide +kernel, rfl, by decide +kernel, by decide +kernel⟩
theorem sc_with_silence : FnScope ["index", "values", "blocks", "frame", "row"] ["index", "values"] (defScope s_with_silence) := ⟨rfl, rfl, rfl, by decide +kernel, rfl, by decide +kernel, by decide +kernel⟩
theorem sc_concealed : FnScope ["index", "fetch", "lost", "unread", "frames", "frame"] ["index", "fetch", "lost"] (defScope s_concealed) := ⟨rfl, rfl, rfl, by decide +kernel, rfl, by decide +kernel, by decide +kernel⟩
theorem sc_law_pool : FnScope ["_law_script", "_law_k", "_law_cell", "_law_great", "_law_seed"] ["_law_script", "_law_k"] (defScope s_law_pool) := ⟨rfl, rfl, rfl, by decide +kernel, rfl, by decide +kernel, by decide +kernel⟩
theorem sc_law_take : FnScope ["_law_pool_here", "_law_many", "_law_found"] ["_law_pool_here", "_law_many"] (defScope s_law_take) := ⟨rfl, rfl, rfl, by decide +kernel, rfl, by decide +kernel, by decide +kernel⟩
theorem sc_law_binary : FnScope ["_law_u_here", "_law_found"] ["_law_u_here"] (defScope s_law_binary) := ⟨rfl, rfl, rfl, by decide +kernel, rfl, by decide +kernel, by decide +kernel⟩
theorem sc_law_parameter : FnScope ["_law_row", "_law_k", "_law_product"] ["_law_row"] (defScope s_law_parameter) := ⟨rfl, rfl, rfl, by decide +kernel, rfl, by decide +kernel, by decide +kernel⟩
theorem sc_law_code : FnScope ["_law_u_here", "_law_k", "_law_head", "_law_digits", "_law_turn", "_law_padded"] ["_law_u_here", "_law_k"] (defScope s_law_code) := ⟨rfl, rfl, rfl, by decide +kernel, rfl, by decide +kernel, by decide +kernel⟩
theorem sc_law_behind : FnScope ["_law_row", "_law_u_here", "_law_total", "_law_count"] ["_law_row", "_law_u_here"] (defScope s_law_behind) := ⟨rfl, rfl, rfl, by decide +kernel, rfl, by decide +kernel, by decide +kernel⟩
theorem sc_law_u : FnScope ["_law_number"] ["_law_number"] (defScope s_law_u) := ⟨rfl, rfl, rfl, by decide +kernel, rfl, by decide +kernel, by decide +kernel⟩
theorem sc_law_written : FnScope ["_law_some_here", "_law_first", "_law_start", "_law_found", "_law_current", "_law_at", "_law_number", "_law_which"] ["_law_some_here", "_law_first", "_law_start"] (defScope s_law_written) := ⟨rfl, rfl, rfl, by decide +kernel, rfl, by decide +kernel, by decide +kernel⟩
theorem sc_law_mark : FnScope ["_law_some_here", "_law_found", "_law_number"] ["_law_some_here"] (defScope s_law_mark) := ⟨rfl, rfl, rfl, by decide +kernel, rfl, by decide +kernel, by decide +kernel⟩
theorem sc_law_counts : FnScope ["_law_size", "_law_many", "_law_counts_here", "_law_turn"] ["_law_size", "_law_many"] (defScope s_law_counts) := ⟨rfl, rfl, rfl, by decide +kernel, rfl, by decide +kernel, by decide +kernel⟩
theorem sc_law_heads : FnScope ["_law_pool_here", "_law_many", "_law_sizes", "_law_long", "_law_found", "_law_left", "_law_at", "_law_size", "_law_most", "_law_width", "_law_joint", "_law_turn"] ["_law_pool_here", "_law_many"] (defScope s_law_heads) := ⟨rfl, rfl, rfl, by decide +kernel, rfl, by decide +kernel, by decide +kernel⟩
theorem sc_law_some : FnScope ["_law_pool_here", "_law_size", "_law_top", "_law_at"] ["_law_pool_here", "_law_size"] (defScope s_law_some) := ⟨rfl, rfl, rfl, by decide +kernel, rfl, by decide +kernel, by decide +kernel⟩
theorem sc_law_frame : FnScope ["_law_head", "_law_some_here", "_law_start", "_law_first", "_law_text", "_law_behind_here"] ["_law_head", "_law_some_here", "_law_start"] (defScope s_law_frame) := ⟨rfl, rfl, rfl, by decide +kernel, rfl, by decide +kernel, by decide +kernel⟩
theorem sc_law_tables : FnScope ["_law_pool_here", "_law_first"] ["_law_pool_here"] (defScope s_law_tables) := ⟨rfl, rfl, rfl, by decide +kernel, rfl, by decide +kernel, by decide +kernel⟩
theorem sc_law_stream : FnScope ["_law_pool_here", "_law_many", "_law_records", "_law_rows", "_law_kept", "_law_current", "_law_origin", "_law_place", "_law_left", "_law_head", "_law_some_here", "_law_record"] ["_law_pool_here", "_law_many"] (defScope s_law_stream) := ⟨rfl, rfl, rfl, by decide +kernel, rfl, by decide +kernel, by decide +kernel⟩
theorem sc_law_other : FnScope ["_law_pool_here", "_law_records", "_law_rows", "_law_kept", "_law_which", "_law_all_behind", "_law_found", "_law_again", "_law_current", "_law_at", "_law_open_run", "_law_record", "_law_row", "_law_some_here", "_law_made"] ["_law_pool_here", "_law_records", "_law_rows", "_law_kept", "_law_which", "_law_all_behind"] (defScope s_law_other) := ⟨rfl, rfl, rfl, by decide +kernel, rfl, by decide +kernel, by decide +kernel⟩
theorem sc_law : FnScope ["_law_script", "_law_k", "_law_pool_here", "_law_records", "_law_rows", "_law_kept", "_law_which", "_law_others", "_law_one", "_law_two", "_law_index", "_law_lost", "_law_parts", "_law_inside", "_law_first", "_law_last", "_law_place", "_law_whole", "_law_other_here", "_law_silent"] ["_law_script"] (defScope s_law) := ⟨rfl, rfl, rfl, by decide +kernel, rfl, by decide +kernel, by decide +kernel⟩
/-- what the walk leans on of the text as the top has made it -/
structure Txt (K : PySem.W.Frag) (mg : Str → Option Value) where
  cls : Cls K (He.ga K "Stream")
  g_Stream : mg "Stream" = some (.ref (He.ga K "Stream"))
  mkS : Mk K (He.ga K "Stream") (He.ma K (He.ga K "Stream") "__init__")
  a_own_records : NoAttr K (He.ga K "Stream") "own_records"
  a_rows : NoAttr K (He.ga K "Stream") "rows"
  a_read : NoAttr K (He.ga K "Stream") "read"
  a_blocks : NoAttr K (He.ga K "Stream") "blocks"
  a_own_sound : NoAttr K (He.ga K "Stream") "own_sound"
  m_load : Meth K (He.ga K "Stream") "load" (He.ma K (He.ga K "Stream") "load")
  m_block : Meth K (He.ga K "Stream") "block" (He.ma K (He.ga K "Stream") "block")
  m_require_frame : Meth K (He.ga K "Stream") "require_frame" (He.ma K (He.ga K "Stream") "require_frame")
  m_sound : Meth K (He.ga K "Stream") "sound" (He.ma K (He.ga K "Stream") "sound")
  prp : PropOf K (He.ga K "Stream") "records" (propP K) (propG K)
  g_SHAPES : mg "SHAPES" = some (.ref (He.ga K "SHAPES"))
  g_START : mg "START" = some (.ref (He.ga K "START"))
  g_HARD : mg "HARD" = some (.ref (He.ga K "HARD"))
  t_HARD : ∀ H, SqT K H (He.ga K "HARD") [.int 0, .int 0]
  t_START : ∀ H, SqT K H (He.ga K "START") [.ref (itA K (He.ga K "START") 0), .ref (itA K (He.ga K "START") 1)]
  t_START0 : ∀ H, SqT K H (itA K (He.ga K "START") 0) [.int 2, .int 1]
  t_START1 : ∀ H, SqT K H (itA K (He.ga K "START") 1) [.int 2, .int 1]
  t_SHAPES : ∀ H, SqT K H (He.ga K "SHAPES") [.ref (itA K (He.ga K "SHAPES") 0), .ref (itA K (He.ga K "SHAPES") 1), .ref (itA K (He.ga K "SHAPES") 2), .ref (itA K (He.ga K "SHAPES") 3)]
  t_SHAPES0 : ∀ H, SqT K H (itA K (He.ga K "SHAPES") 0) [.int (-1), .int (2)]
  t_SHAPES1 : ∀ H, SqT K H (itA K (He.ga K "SHAPES") 1) [.int (-2), .int (3)]
  t_SHAPES2 : ∀ H, SqT K H (itA K (He.ga K "SHAPES") 2) [.int (1), .int (-2)]
  t_SHAPES3 : ∀ H, SqT K H (itA K (He.ga K "SHAPES") 3) [.int (2), .int (-3)]
  n_len : mg "len" = none
  n_isinstance : mg "isinstance" = none
  n_int : mg "int" = none
  n_bool : mg "bool" = none
  n_list : mg "list" = none
  n_tuple : mg "tuple" = none
  n_str : mg "str" = none
  n_range : mg "range" = none
  n_enumerate : mg "enumerate" = none
  n_zip : mg "zip" = none
  n_all : mg "all" = none
  n_any : mg "any" = none
  n_min : mg "min" = none
  n_max : mg "max" = none
  n_abs : mg "abs" = none
  i_MAX_WIDTH : ∃ t, mg "MAX_WIDTH" = some (.int 8 t)
  i_MOST_LEVELS : ∃ t, mg "MOST_LEVELS" = some (.int 5 t)
  i_MOST_VALUES : ∃ t, mg "MOST_VALUES" = some (.int 64 t)
  i_FULL : ∃ t, mg "FULL" = some (.int 16 t)
  i_MOST_ONES : ∃ t, mg "MOST_ONES" = some (.int 20 t)
  i_MOST_NUMBERS : ∃ t, mg "MOST_NUMBERS" = some (.int 64 t)
  i_MARK_FACTOR : ∃ t, mg "MARK_FACTOR" = some (.int 31 t)
  i_MARK_PRIME : ∃ t, mg "MARK_PRIME" = some (.int 9973 t)
  i_MAX_LENGTH : ∃ t, mg "MAX_LENGTH" = some (.int 64 t)
  i_MAX_LEVELS : ∃ t, mg "MAX_LEVELS" = some (.int 5 t)
  i_MAX_STEP : ∃ t, mg "MAX_STEP" = some (.int 64 t)
  i_MAX_MARK : ∃ t, mg "MAX_MARK" = some (.int 9972 t)
  g_is_integer_folds : mg "is_integer_folds" = some (.ref (He.ga K "is_integer_folds"))
  fd_is_integer_folds : FuncData
  F_is_integer_folds : Fun K "is_integer" "is_integer" s_is_integer_folds (He.ga K "is_integer_folds") fd_is_integer_folds
  g_is_shape : mg "is_shape" = some (.ref (He.ga K "is_shape"))
  fd_is_shape : FuncData
  F_is_shape : Fun K "is_shape" "is_shape" s_is_shape (He.ga K "is_shape") fd_is_shape
  g_is_joint : mg "is_joint" = some (.ref (He.ga K "is_joint"))
  fd_is_joint : FuncData
  F_is_joint : Fun K "is_joint" "is_joint" s_is_joint (He.ga K "is_joint") fd_is_joint
  g_unfold : mg "unfold" = some (.ref (He.ga K "unfold"))
  fd_unfold : FuncData
  F_unfold : Fun K "unfold" "unfold" s_unfold (He.ga K "unfold") fd_unfold
  g_require_values : mg "require_values" = some (.ref (He.ga K "require_values"))
  fd_require_values : FuncData
  F_require_values : Fun K "require_values" "require_values" s_require_values (He.ga K "require_values") fd_require_values
  g_is_placed : mg "is_placed" = some (.ref (He.ga K "is_placed"))
  fd_is_placed : FuncData
  F_is_placed : Fun K "is_placed" "is_placed" s_is_placed (He.ga K "is_placed") fd_is_placed
  g_require_joints : mg "require_joints" = some (.ref (He.ga K "require_joints"))
  fd_require_joints : FuncData
  F_require_joints : Fun K "require_joints" "require_joints" s_require_joints (He.ga K "require_joints") fd_require_joints
  g_changed_pairs : mg "changed_pairs" = some (.ref (He.ga K "changed_pairs"))
  fd_changed_pairs : FuncData
  F_changed_pairs : Fun K "changed_pairs" "changed_pairs" s_changed_pairs (He.ga K "changed_pairs") fd_changed_pairs
  g_unfolded : mg "unfolded" = some (.ref (He.ga K "unfolded"))
  fd_unfolded : FuncData
  F_unfolded : Fun K "unfolded" "unfolded" s_unfolded (He.ga K "unfolded") fd_unfolded
  g_require_between : mg "require_between" = some (.ref (He.ga K "require_between"))
  fd_require_between : FuncData
  F_require_between : Fun K "require_between" "require_between" s_require_between (He.ga K "require_between") fd_require_between
  g_require_list : mg "require_list" = some (.ref (He.ga K "require_list"))
  fd_require_list : FuncData
  F_require_list : Fun K "require_list" "require_list" s_require_list (He.ga K "require_list") fd_require_list
  g_sum_counts : mg "sum_counts" = some (.ref (He.ga K "sum_counts"))
  fd_sum_counts : FuncData
  F_sum_counts : Fun K "sum_counts" "sum_counts" s_sum_counts (He.ga K "sum_counts") fd_sum_counts
  g_join_levels : mg "join_levels" = some (.ref (He.ga K "join_levels"))
  fd_join_levels : FuncData
  F_join_levels : Fun K "join_levels" "join_levels" s_join_levels (He.ga K "join_levels") fd_join_levels
  g_coarse_count : mg "coarse_count" = some (.ref (He.ga K "coarse_count"))
  fd_coarse_count : FuncData
  F_coarse_count : Fun K "coarse_count" "coarse_count" s_coarse_count (He.ga K "coarse_count") fd_coarse_count
  g_is_table : mg "is_table" = some (.ref (He.ga K "is_table"))
  fd_is_table : FuncData
  F_is_table : Fun K "is_table" "is_table" s_is_table (He.ga K "is_table") fd_is_table
  g_is_tables : mg "is_tables" = some (.ref (He.ga K "is_tables"))
  fd_is_tables : FuncData
  F_is_tables : Fun K "is_tables" "is_tables" s_is_tables (He.ga K "is_tables") fd_is_tables
  g_parameter : mg "parameter" = some (.ref (He.ga K "parameter"))
  fd_parameter : FuncData
  F_parameter : Fun K "parameter" "parameter" s_parameter (He.ga K "parameter") fd_parameter
  g_table_behind : mg "table_behind" = some (.ref (He.ga K "table_behind"))
  fd_table_behind : FuncData
  F_table_behind : Fun K "table_behind" "table_behind" s_table_behind (He.ga K "table_behind") fd_table_behind
  g_code_number : mg "code_number" = some (.ref (He.ga K "code_number"))
  fd_code_number : FuncData
  F_code_number : Fun K "code_number" "code_number" s_code_number (He.ga K "code_number") fd_code_number
  g_number_of : mg "number_of" = some (.ref (He.ga K "number_of"))
  fd_number_of : FuncData
  F_number_of : Fun K "number_of" "number_of" s_number_of (He.ga K "number_of") fd_number_of
  g_ones_at : mg "ones_at" = some (.ref (He.ga K "ones_at"))
  fd_ones_at : FuncData
  F_ones_at : Fun K "ones_at" "ones_at" s_ones_at (He.ga K "ones_at") fd_ones_at
  g_read_code : mg "read_code" = some (.ref (He.ga K "read_code"))
  fd_read_code : FuncData
  F_read_code : Fun K "read_code" "read_code" s_read_code (He.ga K "read_code") fd_read_code
  g_require_numbers : mg "require_numbers" = some (.ref (He.ga K "require_numbers"))
  fd_require_numbers : FuncData
  F_require_numbers : Fun K "require_numbers" "require_numbers" s_require_numbers (He.ga K "require_numbers") fd_require_numbers
  g_require_coarse : mg "require_coarse" = some (.ref (He.ga K "require_coarse"))
  fd_require_coarse : FuncData
  F_require_coarse : Fun K "require_coarse" "require_coarse" s_require_coarse (He.ga K "require_coarse") fd_require_coarse
  g_read_numbers : mg "read_numbers" = some (.ref (He.ga K "read_numbers"))
  fd_read_numbers : FuncData
  F_read_numbers : Fun K "read_numbers" "read_numbers" s_read_numbers (He.ga K "read_numbers") fd_read_numbers
  g_mark_of : mg "mark_of" = some (.ref (He.ga K "mark_of"))
  fd_mark_of : FuncData
  F_mark_of : Fun K "mark_of" "mark_of" s_mark_of (He.ga K "mark_of") fd_mark_of
  g_is_integer_streams : mg "is_integer_streams" = some (.ref (He.ga K "is_integer_streams"))
  fd_is_integer_streams : FuncData
  F_is_integer_streams : Fun K "is_integer" "is_integer" s_is_integer_streams (He.ga K "is_integer_streams") fd_is_integer_streams
  g_is_between : mg "is_between" = some (.ref (He.ga K "is_between"))
  fd_is_between : FuncData
  F_is_between : Fun K "is_between" "is_between" s_is_between (He.ga K "is_between") fd_is_between
  g_is_row : mg "is_row" = some (.ref (He.ga K "is_row"))
  fd_is_row : FuncData
  F_is_row : Fun K "is_row" "is_row" s_is_row (He.ga K "is_row") fd_is_row
  g_is_frame : mg "is_frame" = some (.ref (He.ga K "is_frame"))
  fd_is_frame : FuncData
  F_is_frame : Fun K "is_frame" "is_frame" s_is_frame (He.ga K "is_frame") fd_is_frame
  g_is_record : mg "is_record" = some (.ref (He.ga K "is_record"))
  fd_is_record : FuncData
  F_is_record : Fun K "is_record" "is_record" s_is_record (He.ga K "is_record") fd_is_record
  g_frame_numbers : mg "frame_numbers" = some (.ref (He.ga K "frame_numbers"))
  fd_frame_numbers : FuncData
  F_frame_numbers : Fun K "frame_numbers" "frame_numbers" s_frame_numbers (He.ga K "frame_numbers") fd_frame_numbers
  g_block_values : mg "block_values" = some (.ref (He.ga K "block_values"))
  fd_block_values : FuncData
  F_block_values : Fun K "block_values" "block_values" s_block_values (He.ga K "block_values") fd_block_values
  g_unfold_blocks : mg "unfold_blocks" = some (.ref (He.ga K "unfold_blocks"))
  fd_unfold_blocks : FuncData
  F_unfold_blocks : Fun K "unfold_blocks" "unfold_blocks" s_unfold_blocks (He.ga K "unfold_blocks") fd_unfold_blocks
  fd_Stream_init : FuncData
  F_Stream_init : Fun K "__init__" "Stream.__init__" s_Stream_init (He.ma K (He.ga K "Stream") "__init__") fd_Stream_init
  fd_Stream_load : FuncData
  F_Stream_load : Fun K "load" "Stream.load" s_Stream_load (He.ma K (He.ga K "Stream") "load") fd_Stream_load
  fd_Stream_records : FuncData
  F_Stream_records : Fun K "records" "Stream.records" s_Stream_records (propG K) fd_Stream_records
  fd_Stream_sound : FuncData
  F_Stream_sound : Fun K "sound" "Stream.sound" s_Stream_sound (He.ma K (He.ga K "Stream") "sound") fd_Stream_sound
  fd_Stream_require_frame : FuncData
  F_Stream_require_frame : Fun K "require_frame" "Stream.require_frame" s_Stream_require_frame (He.ma K (He.ga K "Stream") "require_frame") fd_Stream_require_frame
  fd_Stream_block : FuncData
  F_Stream_block : Fun K "block" "Stream.block" s_Stream_block (He.ma K (He.ga K "Stream") "block") fd_Stream_block
  g_index_of : mg "index_of" = some (.ref (He.ga K "index_of"))
  fd_index_of : FuncData
  F_index_of : Fun K "index_of" "index_of" s_index_of (He.ga K "index_of") fd_index_of
  g_records_of : mg "records_of" = some (.ref (He.ga K "records_of"))
  fd_records_of : FuncData
  F_records_of : Fun K "records_of" "records_of" s_records_of (He.ga K "records_of") fd_records_of
  g_read_frame : mg "read_frame" = some (.ref (He.ga K "read_frame"))
  fd_read_frame : FuncData
  F_read_frame : Fun K "read_frame" "read_frame" s_read_frame (He.ga K "read_frame") fd_read_frame
  g_is_state : mg "is_state" = some (.ref (He.ga K "is_state"))
  fd_is_state : FuncData
  F_is_state : Fun K "is_state" "is_state" s_is_state (He.ga K "is_state") fd_is_state
  g_fetched_values : mg "fetched_values" = some (.ref (He.ga K "fetched_values"))
  fd_fetched_values : FuncData
  F_fetched_values : Fun K "fetched_values" "fetched_values" s_fetched_values (He.ga K "fetched_values") fd_fetched_values
  g_require_lost : mg "require_lost" = some (.ref (He.ga K "require_lost"))
  fd_require_lost : FuncData
  F_require_lost : Fun K "require_lost" "require_lost" s_require_lost (He.ga K "require_lost") fd_require_lost
  g_unread_frames : mg "unread_frames" = some (.ref (He.ga K "unread_frames"))
  fd_unread_frames : FuncData
  F_unread_frames : Fun K "unread_frames" "unread_frames" s_unread_frames (He.ga K "unread_frames") fd_unread_frames
  g_touched : mg "touched" = some (.ref (He.ga K "touched"))
  fd_touched : FuncData
  F_touched : Fun K "touched" "touched" s_touched (He.ga K "touched") fd_touched
  g_with_silence : mg "with_silence" = some (.ref (He.ga K "with_silence"))
  fd_with_silence : FuncData
  F_with_silence : Fun K "with_silence" "with_silence" s_with_silence (He.ga K "with_silence") fd_with_silence
  g_concealed : mg "concealed" = some (.ref (He.ga K "concealed"))
  fd_concealed : FuncData
  F_concealed : Fun K "concealed" "concealed" s_concealed (He.ga K "concealed") fd_concealed
  g_law_pool : mg "_law_pool" = some (.ref (He.ga K "_law_pool"))
  fd_law_pool : FuncData
  F_law_pool : Fun K "_law_pool" "_law_pool" s_law_pool (He.ga K "_law_pool") fd_law_pool
  g_law_take : mg "_law_take" = some (.ref (He.ga K "_law_take"))
  fd_law_take : FuncData
  F_law_take : Fun K "_law_take" "_law_take" s_law_take (He.ga K "_law_take") fd_law_take
  g_law_binary : mg "_law_binary" = some (.ref (He.ga K "_law_binary"))
  fd_law_binary : FuncData
  F_law_binary : Fun K "_law_binary" "_law_binary" s_law_binary (He.ga K "_law_binary") fd_law_binary
  g_law_parameter : mg "_law_parameter" = some (.ref (He.ga K "_law_parameter"))
  fd_law_parameter : FuncData
  F_law_parameter : Fun K "_law_parameter" "_law_parameter" s_law_parameter (He.ga K "_law_parameter") fd_law_parameter
  g_law_code : mg "_law_code" = some (.ref (He.ga K "_law_code"))
  fd_law_code : FuncData
  F_law_code : Fun K "_law_code" "_law_code" s_law_code (He.ga K "_law_code") fd_law_code
  g_law_behind : mg "_law_behind" = some (.ref (He.ga K "_law_behind"))
  fd_law_behind : FuncData
  F_law_behind : Fun K "_law_behind" "_law_behind" s_law_behind (He.ga K "_law_behind") fd_law_behind
  g_law_u : mg "_law_u" = some (.ref (He.ga K "_law_u"))
  fd_law_u : FuncData
  F_law_u : Fun K "_law_u" "_law_u" s_law_u (He.ga K "_law_u") fd_law_u
  g_law_written : mg "_law_written" = some (.ref (He.ga K "_law_written"))
  fd_law_written : FuncData
  F_law_written : Fun K "_law_written" "_law_written" s_law_written (He.ga K "_law_written") fd_law_written
  g_law_mark : mg "_law_mark" = some (.ref (He.ga K "_law_mark"))
  fd_law_mark : FuncData
  F_law_mark : Fun K "_law_mark" "_law_mark" s_law_mark (He.ga K "_law_mark") fd_law_mark
  g_law_counts : mg "_law_counts" = some (.ref (He.ga K "_law_counts"))
  fd_law_counts : FuncData
  F_law_counts : Fun K "_law_counts" "_law_counts" s_law_counts (He.ga K "_law_counts") fd_law_counts
  g_law_heads : mg "_law_heads" = some (.ref (He.ga K "_law_heads"))
  fd_law_heads : FuncData
  F_law_heads : Fun K "_law_heads" "_law_heads" s_law_heads (He.ga K "_law_heads") fd_law_heads
  g_law_some : mg "_law_some" = some (.ref (He.ga K "_law_some"))
  fd_law_some : FuncData
  F_law_some : Fun K "_law_some" "_law_some" s_law_some (He.ga K "_law_some") fd_law_some
  g_law_frame : mg "_law_frame" = some (.ref (He.ga K "_law_frame"))
  fd_law_frame : FuncData
  F_law_frame : Fun K "_law_frame" "_law_frame" s_law_frame (He.ga K "_law_frame") fd_law_frame
  g_law_tables : mg "_law_tables" = some (.ref (He.ga K "_law_tables"))
  fd_law_tables : FuncData
  F_law_tables : Fun K "_law_tables" "_law_tables" s_law_tables (He.ga K "_law_tables") fd_law_tables
  g_law_stream : mg "_law_stream" = some (.ref (He.ga K "_law_stream"))
  fd_law_stream : FuncData
  F_law_stream : Fun K "_law_stream" "_law_stream" s_law_stream (He.ga K "_law_stream") fd_law_stream
  g_law_other : mg "_law_other" = some (.ref (He.ga K "_law_other"))
  fd_law_other : FuncData
  F_law_other : Fun K "_law_other" "_law_other" s_law_other (He.ga K "_law_other") fd_law_other
  g_law : mg "law" = some (.ref (He.ga K "law"))
  fd_law : FuncData
  F_law : Fun K "law" "law" s_law (He.ga K "law") fd_law
section
variable {K : PySem.W.Frag} {mg : Str → Option Value}
theorem b_is_integer_folds (T : Txt K mg) : Binds K T.fd_is_integer_folds ["value"] [] := T.F_is_integer_folds.binds (ps := ["value"]) fun _ _ _ _ _ _ us hl => match us, hl with | [_], _ => rfl
theorem b_is_shape (T : Txt K mg) : Binds K T.fd_is_shape ["value"] [] := T.F_is_shape.binds (ps := ["value"]) fun _ _ _ _ _ _ us hl => match us, hl with | [_], _ => rfl
theorem b_is_joint (T : Txt K mg) : Binds K T.fd_is_joint ["value"] [] := T.F_is_joint.binds (ps := ["value"]) fun _ _ _ _ _ _ us hl => match us, hl with | [_], _ => rfl
theorem b_unfold (T : Txt K mg) : Binds K T.fd_unfold ["shape", "a", "b"] [] := T.F_unfold.binds (ps := ["shape", "a", "b"]) fun _ _ _ _ _ _ us hl => match us, hl with | [_, _, _], _ => rfl
theorem b_require_values (T : Txt K mg) : Binds K T.fd_require_values ["values"] [] := T.F_require_values.binds (ps := ["values"]) fun _ _ _ _ _ _ us hl => match us, hl with | [_], _ => rfl
theorem b_is_placed (T : Txt K mg) : Binds K T.fd_is_placed ["value"] [] := T.F_is_placed.binds (ps := ["value"]) fun _ _ _ _ _ _ us hl => match us, hl with | [_], _ => rfl
theorem b_require_joints (T : Txt K mg) : Binds K T.fd_require_joints ["joints", "length"] [] := T.F_require_joints.binds (ps := ["joints", "length"]) fun _ _ _ _ _ _ us hl => match us, hl with | [_, _], _ => rfl
theorem b_changed_pairs (T : Txt K mg) : Binds K T.fd_changed_pairs ["values", "joints", "change"] [] := T.F_changed_pairs.binds (ps := ["values", "joints", "change"]) fun _ _ _ _ _ _ us hl => match us, hl with | [_, _, _], _ => rfl
theorem b_unfolded (T : Txt K mg) : Binds K T.fd_unfolded ["values", "joints"] [] := T.F_unfolded.binds (ps := ["values", "joints"]) fun _ _ _ _ _ _ us hl => match us, hl with | [_, _], _ => rfl
theorem b_require_between (T : Txt K mg) : Binds K T.fd_require_between ["value", "least", "most"] [] := T.F_require_between.binds (ps := ["value", "least", "most"]) fun _ _ _ _ _ _ us hl => match us, hl with | [_, _, _], _ => rfl
theorem b_require_list (T : Txt K mg) : Binds K T.fd_require_list ["values"] [] := T.F_require_list.binds (ps := ["values"]) fun _ _ _ _ _ _ us hl => match us, hl with | [_], _ => rfl
theorem b_sum_counts (T : Txt K mg) : Binds K T.fd_sum_counts ["length", "levels"] [] := T.F_sum_counts.binds (ps := ["length", "levels"]) fun _ _ _ _ _ _ us hl => match us, hl with | [_, _], _ => rfl
theorem b_join_levels (T : Txt K mg) : Binds K T.fd_join_levels ["numbers", "levels"] [] := T.F_join_levels.binds (ps := ["numbers", "levels"]) fun _ _ _ _ _ _ us hl => match us, hl with | [_, _], _ => rfl
theorem b_coarse_count (T : Txt K mg) : Binds K T.fd_coarse_count ["length", "levels"] [] := T.F_coarse_count.binds (ps := ["length", "levels"]) fun _ _ _ _ _ _ us hl => match us, hl with | [_, _], _ => rfl
theorem b_is_table (T : Txt K mg) : Binds K T.fd_is_table ["value"] [] := T.F_is_table.binds (ps := ["value"]) fun _ _ _ _ _ _ us hl => match us, hl with | [_], _ => rfl
theorem b_is_tables (T : Txt K mg) : Binds K T.fd_is_tables ["value"] [] := T.F_is_tables.binds (ps := ["value"]) fun _ _ _ _ _ _ us hl => match us, hl with | [_], _ => rfl
theorem b_parameter (T : Txt K mg) : Binds K T.fd_parameter ["table"] [] := T.F_parameter.binds (ps := ["table"]) fun _ _ _ _ _ _ us hl => match us, hl with | [_], _ => rfl
theorem b_table_behind (T : Txt K mg) : Binds K T.fd_table_behind ["table", "u"] [] := T.F_table_behind.binds (ps := ["table", "u"]) fun _ _ _ _ _ _ us hl => match us, hl with | [_, _], _ => rfl
theorem b_code_number (T : Txt K mg) : Binds K T.fd_code_number ["number"] [] := T.F_code_number.binds (ps := ["number"]) fun _ _ _ _ _ _ us hl => match us, hl with | [_], _ => rfl
theorem b_number_of (T : Txt K mg) : Binds K T.fd_number_of ["u"] [] := T.F_number_of.binds (ps := ["u"]) fun _ _ _ _ _ _ us hl => match us, hl with | [_], _ => rfl
theorem b_ones_at (T : Txt K mg) : Binds K T.fd_ones_at ["bits", "at", "most"] [] := T.F_ones_at.binds (ps := ["bits", "at", "most"]) fun _ _ _ _ _ _ us hl => match us, hl with | [_, _, _], _ => rfl
theorem b_read_code (T : Txt K mg) : Binds K T.fd_read_code ["bits", "at", "k"] [] := T.F_read_code.binds (ps := ["bits", "at", "k"]) fun _ _ _ _ _ _ us hl => match us, hl with | [_, _, _], _ => rfl
theorem b_require_numbers (T : Txt K mg) : Binds K T.fd_require_numbers ["numbers"] [] := T.F_require_numbers.binds (ps := ["numbers"]) fun _ _ _ _ _ _ us hl => match us, hl with | [_], _ => rfl
theorem b_require_coarse (T : Txt K mg) : Binds K T.fd_require_coarse ["coarse", "length"] [] := T.F_require_coarse.binds (ps := ["coarse", "length"]) fun _ _ _ _ _ _ us hl => match us, hl with | [_, _], _ => rfl
theorem b_read_numbers (T : Txt K mg) : Binds K T.fd_read_numbers ["bits", "length", "coarse", "tables"] [] := T.F_read_numbers.binds (ps := ["bits", "length", "coarse", "tables"]) fun _ _ _ _ _ _ us hl => match us, hl with | [_, _, _, _], _ => rfl
theorem b_mark_of (T : Txt K mg) : Binds K T.fd_mark_of ["numbers"] [] := T.F_mark_of.binds (ps := ["numbers"]) fun _ _ _ _ _ _ us hl => match us, hl with | [_], _ => rfl
theorem b_is_integer_streams (T : Txt K mg) : Binds K T.fd_is_integer_streams ["value"] [] := T.F_is_integer_streams.binds (ps := ["value"]) fun _ _ _ _ _ _ us hl => match us, hl with | [_], _ => rfl
theorem b_is_between (T : Txt K mg) : Binds K T.fd_is_between ["value", "least", "most"] [] := T.F_is_between.binds (ps := ["value", "least", "most"]) fun _ _ _ _ _ _ us hl => match us, hl with | [_, _, _], _ => rfl
theorem b_is_row (T : Txt K mg) : Binds K T.fd_is_row ["value"] [] := T.F_is_row.binds (ps := ["value"]) fun _ _ _ _ _ _ us hl => match us, hl with | [_], _ => rfl
theorem b_is_frame (T : Txt K mg) : Binds K T.fd_is_frame ["value"] [] := T.F_is_frame.binds (ps := ["value"]) fun _ _ _ _ _ _ us hl => match us, hl with | [_], _ => rfl
theorem b_is_record (T : Txt K mg) : Binds K T.fd_is_record ["value"] [] := T.F_is_record.binds (ps := ["value"]) fun _ _ _ _ _ _ us hl => match us, hl with | [_], _ => rfl
theorem b_frame_numbers (T : Txt K mg) : Binds K T.fd_frame_numbers ["record", "tables"] [] := T.F_frame_numbers.binds (ps := ["record", "tables"]) fun _ _ _ _ _ _ us hl => match us, hl with | [_, _], _ => rfl
theorem b_block_values (T : Txt K mg) : Binds K T.fd_block_values ["record", "numbers"] [] := T.F_block_values.binds (ps := ["record", "numbers"]) fun _ _ _ _ _ _ us hl => match us, hl with | [_, _], _ => rfl
theorem b_unfold_blocks (T : Txt K mg) : Binds K T.fd_unfold_blocks ["blocks", "joints"] [] := T.F_unfold_blocks.binds (ps := ["blocks", "joints"]) fun _ _ _ _ _ _ us hl => match us, hl with | [_, _], _ => rfl
theorem b_Stream_init (T : Txt K mg) : Binds K T.fd_Stream_init ["self", "records"] [] := T.F_Stream_init.binds (ps := ["self", "records"]) fun _ _ _ _ _ _ us hl => match us, hl with | [_, _], _ => rfl
theorem b_Stream_load (T : Txt K mg) : Binds K T.fd_Stream_load ["self"] [] := T.F_Stream_load.binds (ps := ["self"]) fun _ _ _ _ _ _ us hl => match us, hl with | [_], _ => rfl
theorem b_Stream_records (T : Txt K mg) : Binds K T.fd_Stream_records ["self"] [] := T.F_Stream_records.binds (ps := ["self"]) fun _ _ _ _ _ _ us hl => match us, hl with | [_], _ => rfl
theorem b_Stream_sound (T : Txt K mg) : Binds K T.fd_Stream_sound ["self"] [] := T.F_Stream_sound.binds (ps := ["self"]) fun _ _ _ _ _ _ us hl => match us, hl with | [_], _ => rfl
theorem b_Stream_require_frame (T : Txt K mg) : Binds K T.fd_Stream_require_frame ["self", "frame"] [] := T.F_Stream_require_frame.binds (ps := ["self", "frame"]) fun _ _ _ _ _ _ us hl => match us, hl with | [_, _], _ => rfl
theorem b_Stream_block (T : Txt K mg) : Binds K T.fd_Stream_block ["self", "frame"] [] := T.F_Stream_block.binds (ps := ["self", "frame"]) fun _ _ _ _ _ _ us hl => match us, hl with | [_, _], _ => rfl
theorem b_index_of (T : Txt K mg) : Binds K T.fd_index_of ["stream"] [] := T.F_index_of.binds (ps := ["stream"]) fun _ _ _ _ _ _ us hl => match us, hl with | [_], _ => rfl
theorem b_records_of (T : Txt K mg) : Binds K T.fd_records_of ["index", "frames"] [] := T.F_records_of.binds (ps := ["index", "frames"]) fun _ _ _ _ _ _ us hl => match us, hl with | [_, _], _ => rfl
theorem b_read_frame (T : Txt K mg) : Binds K T.fd_read_frame ["row", "record", "tables"] [] := T.F_read_frame.binds (ps := ["row", "record", "tables"]) fun _ _ _ _ _ _ us hl => match us, hl with | [_, _, _], _ => rfl
theorem b_is_state (T : Txt K mg) : Binds K T.fd_is_state ["record"] [] := T.F_is_state.binds (ps := ["record"]) fun _ _ _ _ _ _ us hl => match us, hl with | [_], _ => rfl
theorem b_fetched_values (T : Txt K mg) : Binds K T.fd_fetched_values ["index", "fetch", "frames"] [] := T.F_fetched_values.binds (ps := ["index", "fetch", "frames"]) fun _ _ _ _ _ _ us hl => match us, hl with | [_, _, _], _ => rfl
theorem b_require_lost (T : Txt K mg) : Binds K T.fd_require_lost ["lost"] [] := T.F_require_lost.binds (ps := ["lost"]) fun _ _ _ _ _ _ us hl => match us, hl with | [_], _ => rfl
theorem b_unread_frames (T : Txt K mg) : Binds K T.fd_unread_frames ["index", "lost"] [] := T.F_unread_frames.binds (ps := ["index", "lost"]) fun _ _ _ _ _ _ us hl => match us, hl with | [_, _], _ => rfl
theorem b_touched (T : Txt K mg) : Binds K T.fd_touched ["index", "lost"] [] := T.F_touched.binds (ps := ["index", "lost"]) fun _ _ _ _ _ _ us hl => match us, hl with | [_, _], _ => rfl
theorem b_with_silence (T : Txt K mg) : Binds K T.fd_with_silence ["index", "values"] [] := T.F_with_silence.binds (ps := ["index", "values"]) fun _ _ _ _ _ _ us hl => match us, hl with | [_, _], _ => rfl
theorem b_concealed (T : Txt K mg) : Binds K T.fd_concealed ["index", "fetch", "lost"] [] := T.F_concealed.binds (ps := ["index", "fetch", "lost"]) fun _ _ _ _ _ _ us hl => match us, hl with | [_, _, _], _ => rfl
theorem b_law_pool (T : Txt K mg) : Binds K T.fd_law_pool ["_law_script", "_law_k"] [] := T.F_law_pool.binds (ps := ["_law_script", "_law_k"]) fun _ _ _ _ _ _ us hl => match us, hl with | [_, _], _ => rfl
theorem b_law_take (T : Txt K mg) : Binds K T.fd_law_take ["_law_pool_here", "_law_many"] [] := T.F_law_take.binds (ps := ["_law_pool_here", "_law_many"]) fun _ _ _ _ _ _ us hl => match us, hl with | [_, _], _ => rfl
theorem b_law_binary (T : Txt K mg) : Binds K T.fd_law_binary ["_law_u_here"] [] := T.F_law_binary.binds (ps := ["_law_u_here"]) fun _ _ _ _ _ _ us hl => match us, hl with | [_], _ => rfl
theorem b_law_parameter (T : Txt K mg) : Binds K T.fd_law_parameter ["_law_row"] [] := T.F_law_parameter.binds (ps := ["_law_row"]) fun _ _ _ _ _ _ us hl => match us, hl with | [_], _ => rfl
theorem b_law_code (T : Txt K mg) : Binds K T.fd_law_code ["_law_u_here", "_law_k"] [] := T.F_law_code.binds (ps := ["_law_u_here", "_law_k"]) fun _ _ _ _ _ _ us hl => match us, hl with | [_, _], _ => rfl
theorem b_law_behind (T : Txt K mg) : Binds K T.fd_law_behind ["_law_row", "_law_u_here"] [] := T.F_law_behind.binds (ps := ["_law_row", "_law_u_here"]) fun _ _ _ _ _ _ us hl => match us, hl with | [_, _], _ => rfl
theorem b_law_u (T : Txt K mg) : Binds K T.fd_law_u ["_law_number"] [] := T.F_law_u.binds (ps := ["_law_number"]) fun _ _ _ _ _ _ us hl => match us, hl with | [_], _ => rfl
theorem b_law_written (T : Txt K mg) : Binds K T.fd_law_written ["_law_some_here", "_law_first", "_law_start"] [] := T.F_law_written.binds (ps := ["_law_some_here", "_law_first", "_law_start"]) fun _ _ _ _ _ _ us hl => match us, hl with | [_, _, _], _ => rfl
theorem b_law_mark (T : Txt K mg) : Binds K T.fd_law_mark ["_law_some_here"] [] := T.F_law_mark.binds (ps := ["_law_some_here"]) fun _ _ _ _ _ _ us hl => match us, hl with | [_], _ => rfl
theorem b_law_counts (T : Txt K mg) : Binds K T.fd_law_counts ["_law_size", "_law_many"] [] := T.F_law_counts.binds (ps := ["_law_size", "_law_many"]) fun _ _ _ _ _ _ us hl => match us, hl with | [_, _], _ => rfl
theorem b_law_heads (T : Txt K mg) : Binds K T.fd_law_heads ["_law_pool_here", "_law_many"] [] := T.F_law_heads.binds (ps := ["_law_pool_here", "_law_many"]) fun _ _ _ _ _ _ us hl => match us, hl with | [_, _], _ => rfl
theorem b_law_some (T : Txt K mg) : Binds K T.fd_law_some ["_law_pool_here", "_law_size"] [] := T.F_law_some.binds (ps := ["_law_pool_here", "_law_size"]) fun _ _ _ _ _ _ us hl => match us, hl with | [_, _], _ => rfl
theorem b_law_frame (T : Txt K mg) : Binds K T.fd_law_frame ["_law_head", "_law_some_here", "_law_start"] [] := T.F_law_frame.binds (ps := ["_law_head", "_law_some_here", "_law_start"]) fun _ _ _ _ _ _ us hl => match us, hl with | [_, _, _], _ => rfl
theorem b_law_tables (T : Txt K mg) : Binds K T.fd_law_tables ["_law_pool_here"] [] := T.F_law_tables.binds (ps := ["_law_pool_here"]) fun _ _ _ _ _ _ us hl => match us, hl with | [_], _ => rfl
theorem b_law_stream (T : Txt K mg) : Binds K T.fd_law_stream ["_law_pool_here", "_law_many"] [] := T.F_law_stream.binds (ps := ["_law_pool_here", "_law_many"]) fun _ _ _ _ _ _ us hl => match us, hl with | [_, _], _ => rfl
theorem b_law_other (T : Txt K mg) : Binds K T.fd_law_other ["_law_pool_here", "_law_records", "_law_rows", "_law_kept", "_law_which", "_law_all_behind"] [] := T.F_law_other.binds (ps := ["_law_pool_here", "_law_records", "_law_rows", "_law_kept", "_law_which", "_law_all_behind"]) fun _ _ _ _ _ _ us hl => match us, hl with | [_, _, _, _, _, _], _ => rfl
theorem b_law (T : Txt K mg) : Binds K T.fd_law ["_law_script"] [] := T.F_law.binds (ps := ["_law_script"]) fun _ _ _ _ _ _ us hl => match us, hl with | [_], _ => rfl
end
/-! ### a global int by its name -/
theorem pe_gi {X : Cx} {x : Str} {i : Int} {pos : Pos} (hm : ∃ t, X.mg x = some (.int i t)) (hg : Gl X x) (hd : (x == ("__debug__" : Str)) = false := by decide) : PE X (.Name x pos) (tC (.int i)) := by
  obtain ⟨t, e⟩ := hm
  exact pe_glob hg e ⟨t, rfl⟩ hd
/-! ### readings with a name -/
def rLenV (K : PySem.W.Frag) : List V → Hp → VK → Prop := fun xs H Q => ∃ x n, xs = [x] ∧ LenV K x H n ∧ Q (.int n) H
theorem call_lenN {X : Cx} : CallR X (.builtin "len") (rLenV X.K) := call_len
def rListOf (K : PySem.W.Frag) : List V → Hp → VK → Prop := fun xs H Q => ∃ p ys, xs = [.ref p] ∧ (SqL K H p ys ∨ SqT K H p ys) ∧ ∀ l, H l = none → Q (.ref l) (upd H l (.lst ys))
theorem call_listN {X : Cx} : CallR X (.type "list") (rListOf X.K) := call_list_of
def rTupOf (K : PySem.W.Frag) : List V → Hp → VK → Prop := fun xs H Q => ∃ p ys, xs = [.ref p] ∧ ((SqL K H p ys ∧ ∀ l, H l = none → Q (.ref l) (upd H l (.tup ys))) ∨ (SqT K H p ys ∧ Q (.ref p) H))
theorem call_tupleN {X : Cx} : CallR X (.type "tuple") (rTupOf X.K) := call_tuple_of
def rInt1 : List V → Hp → VK → Prop := fun xs H Q => (∃ i, xs = [.int i] ∧ Q (.int i) H) ∨ ∃ k, xs = [.bl k] ∧ Q (.int (if k then 1 else 0)) H
theorem call_int1N {X : Cx} : CallR X (.type "int") rInt1 := call_int1
def rAbs : List V → Hp → VK → Prop := fun xs H Q => ∃ i, xs = [.int i] ∧ Q (.int (if i < 0 then -i else i)) H
theorem call_absN {X : Cx} : CallR X (.builtin "abs") rAbs := call_abs
def rMx2 : List V → Hp → VK → Prop := fun xs H Q => ∃ i j, xs = [.int i, .int j] ∧ Q (.int (if j > i then j else i)) H
theorem call_max2N {X : Cx} (hc : X.calm = true) : CallR X (.builtin "max") rMx2 := call_max2 hc
def rMn2 : List V → Hp → VK → Prop := fun xs H Q => ∃ i j, xs = [.int i, .int j] ∧ Q (.int (if j < i then j else i)) H
theorem call_min2N {X : Cx} (hc : X.calm = true) : CallR X (.builtin "min") rMn2 := call_min2 hc
def rIsNo : R2 := fun x y H Q => y = .non ∧ Q (.bl (decide (x = .non))) H
theorem op_isNo {X : Cx} : OpR X (compareOp .Is) rIsNo := op_isN
def rCatS : R2 := fun x y H Q => ∃ i j, x = .str i ∧ y = .str j ∧ i.length + j.length ≤ sizeLine ∧ Q (.str (i ++ j)) H
theorem op_catS {X : Cx} : OpR X (binaryOp .Add) rCatS := op_add_str
def rInSg : R2 := fun x y H Q => ∃ (c : Nat) (z : Str), x = .str ⟨#[c]⟩ ∧ y = .str z ∧ Q (.bl (decide (c ∈ z.cps.toList))) H
/-! ### readings, one step at a time -/
section
variable {K : PySem.W.Frag} {σ : L2.St} {H : Hp} {Q : VK} {D : Ends} {ta tb tc te : TE} {g : TG}
theorem r_seq {t u : TS} (h : t { D with nx := u D } σ H) : tSeq t u D σ H := h
theorem r_next (h : D.nx σ H) : tNext D σ H := h
theorem r_cont (h : D.ct σ H) : tCont D σ H := h
theorem r_asg (h : te σ H fun x H1 => g x σ H1 D.nx) : tAsg te g D σ H := h
theorem r_par {i j : Nat} {t : TA} (h : t σ H fun vs H1 => ∃ v w, vs = [v, w] ∧ D.nx ((σ.set i (some v)).set j (some w)) H1) : tPar i j t D σ H := h
theorem r_par3 {i j l : Nat} {t : TA} (h : t σ H fun vs H1 => ∃ u v w, vs = [u, v, w] ∧ D.nx (((σ.set i (some u)).set j (some v)).set l (some w)) H1) : tPar3 i j l t D σ H := h
theorem r_two {P : V → V → Prop} {x y : V} (h : P x y) : ∃ v w, [x, y] = [v, w] ∧ P v w := ⟨x, y, rfl, h⟩
theorem r_three {P : V → V → V → Prop} {x y z : V} (h : P x y z) : ∃ u v w, [x, y, z] = [u, v, w] ∧ P u v w := ⟨x, y, z, rfl, h⟩
theorem r_name {i : Nat} {v : V} {R : L2.St → Hp → Prop} (h : R (σ.set i (some v)) H) : gName i v σ H R := h
theorem r_ret (h : te σ H D.rt) : tRet te D σ H := h
theorem r_drop (h : te σ H fun _ H1 => D.nx σ H1) : tDrop te D σ H := h
theorem r_var {i : Nat} {v : V} (e : σ[i]? = some (some v)) (h : Q v H) : tVar i σ H Q := ⟨v, e, h⟩
theorem r_c {v : V} (h : Q v H) : tC v σ H Q := h
theorem r_op {r : R2} (h : ta σ H fun x H1 => tb σ H1 fun y H2 => r x y H2 Q) : tOp r ta tb σ H Q := h
theorem r_un {r : V → Hp → VK → Prop} (h : ta σ H fun x H1 => r x H1 Q) : tUn r ta σ H Q := h
theorem r_U {f : Int → V} {i : Int} (h : Q (f i) H) : rU f (.int i) H Q := ⟨i, rfl, h⟩
theorem r_I0 {f : Int → Int → V} {i j : Int} (h : Q (f i j) H) : rI0 f (.int i) (.int j) H Q := ⟨i, j, rfl, rfl, h⟩
theorem r_I {C : Int → Int → Prop} {f : Int → Int → V} {i j : Int} (c : C i j) (h : Q (f i j) H) : rI C f (.int i) (.int j) H Q := ⟨i, j, rfl, rfl, c, h⟩
theorem r_eqI {i j : Int} (h : Q (.bl (decide (i = j))) H) : rEq (.int i) (.int j) H Q := ⟨rfl, by rw [show decide (V.int i = V.int j) = decide (i = j) from decide_eq_decide.mpr ⟨fun e => V.int.inj e, fun e => by rw [e]⟩]; exact h⟩
theorem r_neI {i j : Int} (h : Q (.bl (!decide (i = j))) H) : rNe (.int i) (.int j) H Q := ⟨rfl, by rw [show decide (V.int i = V.int j) = decide (i = j) from decide_eq_decide.mpr ⟨fun e => V.int.inj e, fun e => by rw [e]⟩]; exact h⟩
theorem r_eqS {i j : Str} (h : Q (.bl (decide (i = j))) H) : rEq (.str i) (.str j) H Q := ⟨rfl, by rw [show decide (V.str i = V.str j) = decide (i = j) from decide_eq_decide.mpr ⟨fun e => V.str.inj e, fun e => by rw [e]⟩]; exact h⟩
theorem r_neS {i j : Str} (h : Q (.bl (!decide (i = j))) H) : rNe (.str i) (.str j) H Q := ⟨rfl, by rw [show decide (V.str i = V.str j) = decide (i = j) from decide_eq_decide.mpr ⟨fun e => V.str.inj e, fun e => by rw [e]⟩]; exact h⟩
theorem r_bl {R : Bool → Hp → Prop} {b : Bool} (h : R b H) : ∃ k, V.bl b = .bl k ∧ R k H := ⟨b, rfl, h⟩
theorem r_test {R : Bool → Hp → Prop} (h : te σ H fun x H' => ∃ k, x = .bl k ∧ R k H') : tTest te σ H R := h
theorem r_B {R : Bool → Hp → Prop} (h : te σ H fun x H' => ∃ k, x = .bl k ∧ R k H') : tB te σ H R := h
theorem r_and {t u : TT} {R : Bool → Hp → Prop} (h : t σ H fun c H1 => if c = true then u σ H1 R else R false H1) : tAnd t u σ H R := h
theorem r_or {t u : TT} {R : Bool → Hp → Prop} (h : t σ H fun c H1 => if c = true then R true H1 else u σ H1 R) : tOr t u σ H R := h
theorem r_not {t : TT} {R : Bool → Hp → Prop} (h : t σ H fun c H1 => R (!c) H1) : tNot t σ H R := h
theorem r_andV (h : ta σ H fun x H1 => ∃ c, x = .bl c ∧ if c = true then tb σ H1 Q else Q (.bl false) H1) : tAndV ta tb σ H Q := h
theorem r_orV (h : ta σ H fun x H1 => ∃ c, x = .bl c ∧ if c = true then Q (.bl true) H1 else tb σ H1 Q) : tOrV ta tb σ H Q := h
theorem r_notV (h : ta σ H fun x H1 => ∃ c, x = .bl c ∧ Q (.bl (!c)) H1) : tNotV ta σ H Q := h
theorem r_blv {P : Bool → Prop} {b : Bool} (h : P b) : ∃ k, V.bl b = .bl k ∧ P k := ⟨b, rfl, h⟩
theorem r_ifE {t : TT} (h : t σ H fun c H1 => if c = true then ta σ H1 Q else tb σ H1 Q) : tIf t ta tb σ H Q := h
theorem r_ifS {t : TT} {u v : TS} (h : t σ H fun b H1 => if b = true then u D σ H1 else v D σ H1) : tIfS t u v D σ H := h
theorem r_aug {i : Nat} {x : V} {ti : TIp} (e : σ[i]? = some (some x)) (h : te σ H fun y H1 => ti x y H1 fun z H2 => D.nx (σ.set i (some z)) H2) : tAug i te ti D σ H := ⟨x, e, h⟩
theorem r_chain {r r' : R2} (h : ta σ H fun x H1 => tb σ H1 fun y H2 => r x y H2 fun z H3 => ∃ k, z = .bl k ∧ (if k = true then tc σ H3 fun w' H4 => r' y w' H4 Q else Q (.bl false) H3)) : tChain r r' ta tb tc σ H Q := h
theorem r_nilA {R : List V → Hp → Prop} (h : R [] H) : tNil σ H R := h
theorem r_consA {tr : TA} {R : List V → Hp → Prop} (h : ta σ H fun x H1 => tr σ H1 fun xs H2 => R (x :: xs) H2) : tCons ta tr σ H R := h
theorem r_call {sp : Sp} {dvs : List V} {E : XK} {t : TA} (h : t σ H fun vs H1 => sp (vs ++ dvs) H1 Q E) : tCall sp dvs E t σ H Q := h
theorem r_cb {r : List V → Hp → VK → Prop} {t : TA} (h : t σ H fun vs H1 => r vs H1 Q) : tCB r t σ H Q := h
theorem r_bm {T : String} {r : V → List V → Hp → VK → Prop} {t : TA} (h : ta σ H fun x H1 => tyV K T x H1 ∧ t σ H1 fun xs H2 => r x xs H2 Q) : tBM K T r ta t σ H Q := h
theorem r_slE {r : V → Option Int → Option Int → Hp → VK → Prop} {tl th : TO} (h : te σ H fun x H1 => tl σ H1 fun l H2 => th σ H2 fun u H3 => r x l u H3 Q) : tSl r te tl th σ H Q := h
theorem r_noPart {R : Option Int → Hp → Prop} (h : R none H) : tNoPart σ H R := h
theorem r_part {R : Option Int → Hp → Prop} (h : te σ H fun x H1 => ∃ i, x = .int i ∧ R (some i) H1) : tPart te σ H R := h
theorem r_int {P : Int → Prop} {i : Int} (h : P i) : ∃ k, V.int i = .int k ∧ P k := ⟨i, rfl, h⟩
theorem r_gCons {t : TG} {u : TGs} {v : V} {vs : List V} {R : L2.St → Hp → Prop} (h : t v σ H fun σ' H' => u vs σ' H' R) : gCons t u (v :: vs) σ H R := ⟨v, vs, rfl, h⟩
theorem r_gNil {R : L2.St → Hp → Prop} (h : R σ H) : gNil [] σ H R := ⟨rfl, h⟩
theorem r_gTup {n : Nat} {t : TGs} {a : Addr} {xs : List V} {R : L2.St → Hp → Prop} (s : SqT K H a xs) (l : xs.length = n) (h : t xs σ H R) : gTup K n t (.ref a) σ H R := ⟨a, xs, rfl, s, l, h⟩
/-- a new tuple, a new list -/
theorem r_tup {t : TA} (h : t σ H fun xs H1 => xs.length ≤ sizeLine ∧ ∀ p, H1 p = none → Q (.ref p) (upd H1 p (.tup xs))) : tTup t σ H Q := h
theorem r_lst {t : TA} (h : t σ H fun xs H1 => xs.length ≤ sizeLine ∧ ∀ p, H1 p = none → Q (.ref p) (upd H1 p (.lst xs))) : tLst t σ H Q := h
theorem same_new {p : Addr} {o : HO} (h : H p = none) : Same H (upd H p o) := fun b x e => by
  rw [upd_ne (ne_of_none e h)]
  exact e
theorem r_new {p : Addr → HO} {R : V → Hp → Prop} (h : ∀ a H', H a = none → Same H H' → H' a = some (p a) → H' = upd H a (p a) → R (.ref a) H') : ∀ a, H a = none → R (.ref a) (upd H a (p a)) := fun a na => h a _ na (same_new na) upd_same rfl
theorem r_ixL {p : Addr} {xs : List V} {i : Int} {v : V} (s : SqL K H p xs) (a : atI xs i = some v) (h : Q v H) : rIxL K (.ref p) (.int i) H Q := ⟨p, xs, i, v, rfl, rfl, s, a, h⟩
theorem r_ixT {p : Addr} {xs : List V} {i : Int} {v : V} (s : SqT K H p xs) (a : atI xs i = some v) (h : Q v H) : rIxT K (.ref p) (.int i) H Q := ⟨p, xs, i, v, rfl, rfl, s, a, h⟩
theorem r_lenL {p : Addr} {xs : List V} (s : SqL K H p xs) (h : Q (.int xs.length) H) : rLenV K [V.ref p] H Q := ⟨_, _, rfl, .inl ⟨xs, s, rfl⟩, h⟩
theorem r_lenT {p : Addr} {xs : List V} (s : SqT K H p xs) (h : Q (.int xs.length) H) : rLenV K [V.ref p] H Q := ⟨_, _, rfl, .inr ⟨xs, s, rfl⟩, h⟩
theorem r_lenS {z : Str} (s : z.length ≤ sizeLine) (h : Q (.int z.length) H) : rLenV K [V.str z] H Q := ⟨_, _, rfl, ⟨s, rfl⟩, h⟩
theorem r_isi {x : V} {n t : String} {b : Bool} (ty : TyX K H x (.type t)) (k : kitB t n = some b) (h : Q (.bl b) H) : rIsi K [x, .ty n] H Q := ⟨x, _, _, _, b, rfl, .ty n, ty, kit_ty k, h⟩
theorem r_app {l : Addr} {xs : List V} {y : V} (e : H l = some (.lst xs)) (z : xs.length < sizeLine) (h : Q .non (upd H l (.lst (xs ++ [y])))) : rAppend (.ref l) [y] H Q := ⟨l, xs, y, rfl, rfl, e, z, h⟩
theorem r_tyL {l : Addr} {xs : List V} {P : Prop} (s : SqL K H l xs) (h : P) : tyV K "list" (.ref l) H ∧ P := ⟨.inl ⟨rfl, xs, s⟩, h⟩
theorem r_listL {p : Addr} {xs : List V} (s : SqL K H p xs) (h : ∀ l, H l = none → Q (.ref l) (upd H l (.lst xs))) : rListOf K [.ref p] H Q := ⟨p, xs, rfl, .inl s, h⟩
theorem r_listT {p : Addr} {xs : List V} (s : SqT K H p xs) (h : ∀ l, H l = none → Q (.ref l) (upd H l (.lst xs))) : rListOf K [.ref p] H Q := ⟨p, xs, rfl, .inr s, h⟩
theorem r_tupL {p : Addr} {xs : List V} (s : SqL K H p xs) (h : ∀ l, H l = none → Q (.ref l) (upd H l (.tup xs))) : rTupOf K [.ref p] H Q := ⟨p, xs, rfl, .inl ⟨s, h⟩⟩
theorem r_int1I {i : Int} (h : Q (.int i) H) : rInt1 [.int i] H Q := .inl ⟨i, rfl, h⟩
theorem r_int1B {b : Bool} (h : Q (.int (if b then 1 else 0)) H) : rInt1 [.bl b] H Q := .inr ⟨b, rfl, h⟩
theorem r_absI {i : Int} (h : Q (.int (if i < 0 then -i else i)) H) : rAbs [.int i] H Q := ⟨i, rfl, h⟩
theorem r_mx2 {i j : Int} (h : Q (.int (if j > i then j else i)) H) : rMx2 [.int i, .int j] H Q := ⟨i, j, rfl, h⟩
theorem r_mn2 {i j : Int} (h : Q (.int (if j < i then j else i)) H) : rMn2 [.int i, .int j] H Q := ⟨i, j, rfl, h⟩
theorem r_isNo {x : V} (h : Q (.bl (decide (x = .non))) H) : rIsNo x .non H Q := ⟨rfl, h⟩
theorem r_catS {x y : Str} (l : x.length + y.length ≤ sizeLine) (h : Q (.str (x ++ y)) H) : rCatS (.str x) (.str y) H Q := ⟨x, y, rfl, rfl, l, h⟩
theorem r_slS {z : Str} {lo hi : Option Int} (l : z.length ≤ sizeLine) (h : Q (.str (cutS z lo hi)) H) : rSlS (.str z) lo hi H Q := ⟨z, rfl, l, h⟩
theorem r_slL {p : Addr} {xs : List V} {lo hi : Option Int} (s : SqL K H p xs) (h : ∀ l, H l = none → Q (.ref l) (upd H l (.lst (cutV xs lo hi)))) : rSlL K (.ref p) lo hi H Q := ⟨p, xs, rfl, s, h⟩
theorem r_setL {p : Addr} {xs : List V} {i : Int} {v : V} {j : Nat} {R : Hp → Prop} (e : H p = some (.lst xs)) (a : ixN xs.length i = some j) (h : R (upd H p (.lst (xs.set j v)))) : rSetL (.ref p) (.int i) v H R := ⟨p, xs, i, j, rfl, rfl, e, a, h⟩
theorem ixn {n j : Nat} (h : j < n) : ixN n (j : Int) = some j := by
  unfold ixN
  rw [if_pos (by omega), if_pos (by omega)]
  rfl
theorem r_ext {l b : Addr} {xs zs : List V} (e : H l = some (.lst xs)) (f : H b = some (.lst zs)) (z : xs.length + zs.length ≤ sizeLine) (h : Q .non (upd H l (.lst (xs ++ zs)))) : rExtend (.ref l) [.ref b] H Q := ⟨l, b, xs, zs, rfl, rfl, e, f, z, h⟩
theorem r_gSub {to ti : TE} {t : TSet} {v : V} {R : L2.St → Hp → Prop} (h : to σ H fun o H1 => ti σ H1 fun i H2 => t o i v H2 fun H3 => R σ H3) : gSub to ti t v σ H R := h
theorem r_fld {x : Addr} {C dx : Addr} {fs : List (Str × V)} {f : Str} {v : V} (e : H x = some (.ins C dx fs)) (c : Cls K C) (n : NoAttr K C f) (l : fs.lookup f = some v) (h : Q v H) : (∃ a C dx fs v, V.ref x = .ref a ∧ H a = some (.ins C dx fs) ∧ Cls K C ∧ NoAttr K C f ∧ fs.lookup f = some v ∧ Q v H) := ⟨x, C, dx, fs, v, rfl, e, c, n, l, h⟩
/-! ifs -/
theorem r_dec {c A B : Prop} [Decidable c] (h1 : c → A) (h2 : ¬ c → B) : if decide c = true then A else B := by
  by_cases h : c
  · rw [if_pos (decide_eq_true h)]; exact h1 h
  · rw [if_neg (fun q => h (of_decide_eq_true q))]; exact h2 h
theorem r_decN {c A B : Prop} [Decidable c] (h1 : ¬ c → A) (h2 : c → B) : if (!decide c) = true then A else B := by
  by_cases h : c
  · rw [decide_eq_true h]; exact h2 h
  · rw [decide_eq_false h]; exact h1 h
theorem r_yes {c A B : Prop} [Decidable c] (hc : c) (h : A) : if decide c = true then A else B := by rw [if_pos (decide_eq_true hc)]; exact h
theorem r_no {c A B : Prop} [Decidable c] (hc : ¬ c) (h : B) : if decide c = true then A else B := by rw [if_neg (fun q => hc (of_decide_eq_true q))]; exact h
theorem r_yesN {c A B : Prop} [Decidable c] (hc : c) (h : B) : if (!decide c) = true then A else B := by rw [decide_eq_true hc]; exact h
theorem r_noN {c A B : Prop} [Decidable c] (hc : ¬ c) (h : A) : if (!decide c) = true then A else B := by rw [decide_eq_false hc]; exact h
theorem r_T {A B : Prop} (h : A) : if true = true then A else B := h
theorem r_F {A B : Prop} (h : B) : if false = true then A else B := h
theorem r_NT {A B : Prop} (h : B) : if (!true) = true then A else B := h
theorem r_NF {A B : Prop} (h : A) : if (!false) = true then A else B := h
/-! tuples under an extension of the heap -/
theorem sm_rd {H H' : Hp} {a : Addr} {u : HO} (e : Same H H') (h : Rd H a u) : Rd H' a u := by
  rcases h with z | ⟨o, z⟩
  · exact .inl (e _ _ z)
  · exact .inr ⟨o, e _ _ z⟩
theorem sm_tup {H H' : Hp} {a : Addr} {xs : List V} (e : Same H H') (h : SqT K H a xs) : SqT K H' a xs := by
  rcases h with z | z
  · exact .inl (sm_rd e z)
  · exact .inr z
theorem bl_eq {b c : Bool} (e : b = c) (h : Q (.bl c) H) : Q (.bl b) H := by rw [e]; exact h
theorem int_eq {i j : Int} (e : i = j) (h : Q (.int j) H) : Q (.int i) H := by rw [e]; exact h
theorem str_eq {i j : Str} (e : i = j) (h : Q (.str j) H) : Q (.str i) H := by rw [e]; exact h
end
/-! ### kinds -/
section
variable {K : PySem.W.Frag} {H : Hp} {Q : VK} {a : Addr} {xs : List V}
theorem szr {n : Nat} (h : Nat.ble n 100000 = true) : n ≤ sizeLine := Nat.le_trans (Nat.le_of_ble_eq_true h) (by decide)
theorem sz {n : Nat} (h : n ≤ 1000000) : n ≤ sizeLine := Nat.le_trans h (by decide)
theorem szl {n : Nat} (h : n ≤ 1000000) : n < sizeLine := Nat.lt_of_le_of_lt h (by decide)
theorem kit_int_int : kitB "int" "int" = some true := by decide +kernel
theorem kit_int_bool : kitB "int" "bool" = some false := by decide +kernel
theorem kit_tuple_tuple : kitB "tuple" "tuple" = some true := by decide +kernel
theorem kit_list_list : kitB "list" "list" = some true := by decide +kernel
theorem kit_str_str : kitB "str" "str" = some true := by decide +kernel
theorem ty_tup (h : SqT K H a xs) : TyX K H (.ref a) (.type "tuple") := by
  rcases h with (e | ⟨o, e⟩) | ⟨o, its, n, e, c, _⟩
  · exact .base (.tup e)
  · exact .fTuple e
  · exact .kTuple e c
theorem ty_lst (h : H a = some (.lst xs)) : TyX K H (.ref a) (.type "list") := .base (.lst h)
theorem kit_lt {t : String} (h : t = "list" ∨ t = "tuple") : PySem.W.kitAny K (.type t) [.type "list", .type "tuple"] = some true := by
  rcases h with rfl | rfl
  · exact kitAny_cons (b := true) (kit_ty (by decide +kernel)) (fun z => by cases z) (fun _ => rfl)
  · exact kitAny_cons (b := false) (kit_ty (by decide +kernel)) (fun _ => kitAny_cons (b := true) (kit_ty (by decide +kernel)) (fun z => by cases z) (fun _ => rfl)) (fun z => by cases z)
theorem r_isiT {tp : Addr} {x : V} {t : String} (e : H tp = some (.tup [.ty "list", .ty "tuple"])) (ty : TyX K H x (.type t)) (k : t = "list" ∨ t = "tuple") (h : Q (.bl true) H) : rIsiT K [x, .ref tp] H Q :=
  ⟨x, tp, _, _, _, true, rfl, e, .cons (.ty _) (.cons (.ty _) .nil), ty, kit_lt k, h⟩
end
theorem at0 {α : Type} {xs : List α} {v : α} {n : Nat} (h : xs[n]? = some v) : atI xs (n : Int) = some v := at_nat' h where
  at_nat' {α : Type} {xs : List α} {v : α} {n : Nat} (h : xs[n]? = some v) : atI xs (n : Int) = some v := by
    have hl : n < xs.length := (List.getElem?_eq_some_iff.mp h).1
    unfold atI ixN
    rw [if_pos (by omega), if_pos (by omega)]
    simpa using h
theorem atl {α : Type} {xs : List α} {v : α} {i : Int} {n : Nat} (e : i = (n : Int)) (h : xs[n]? = some v) : atI xs i = some v := by rw [e]; exact at0 h
/-- the last item -/
theorem atm1 {α : Type} {xs : List α} {v : α} (h : xs[xs.length - 1]? = some v) : atI xs (-1) = some v := by
  have hl : xs.length - 1 < xs.length := (List.getElem?_eq_some_iff.mp h).1
  unfold atI ixN
  rw [if_neg (by omega), if_pos (by omega)]
  have e : (-1 + (xs.length : Int)).toNat = xs.length - 1 := by omega
  simp only [Option.bind_some, e]
  exact h
theorem map_get {ns : List Int} {i : Nat} {y : V} (h : (ns.map V.int)[i]? = some y) : ∃ n, ns[i]? = some n ∧ y = .int n := by
  rw [List.getElem?_map] at h
  cases e : ns[i]? with
  | none => rw [e] at h; cases h
  | some n => rw [e] at h; exact ⟨n, rfl, (Option.some.inj h).symm⟩
theorem get_map {ns : List Int} {i : Nat} {n : Int} (h : ns[i]? = some n) : (ns.map V.int)[i]? = some (.int n) := by rw [List.getElem?_map, h]; rfl
theorem rng_lo {n : Nat} : -(2 ^ 62) ≤ (n : Int) := by
  have : (2 : Int) ^ 62 = 4611686018427387904 := by decide
  omega
theorem rng_hi {n : Nat} (h : n ≤ 1000000) : (n : Int) < 2 ^ 62 := by
  have : (2 : Int) ^ 62 = 4611686018427387904 := by decide
  omega
theorem rng_I {i : Int} (h1 : -1000000 ≤ i) (h2 : i ≤ 1000000) : -(2 ^ 62) ≤ i ∧ i < 2 ^ 62 := by
  have : (2 : Int) ^ 62 = 4611686018427387904 := by decide
  omega
/-! ### loops and comprehensions over n turns of any walk -/
section
variable {K : PySem.W.Frag} {J : It} {n : Nat} {g : TG} {tb : TS} {D : Ends} {σ : L2.St} {H : Hp} {tt : TT} {te tk : TE} {ws : List Nat} {Z : Addr} {Qd : Hp → Prop}
theorem for_J (Pv : Nat → L2.St → Hp → Prop) (h0 : Pv 0 σ H) (stop : ∀ σ H, Pv n σ H → J.stop n H) (go : ∀ i σ H, i < n → Pv i σ H → J.go i H)
    (hs : ∀ i σ H x H', i < n → Pv i σ H → J.yld i H x H' → g x σ H' fun σ2 H2 => tb { D with nx := Pv (i + 1), ct := Pv (i + 1), bk := D.nx } σ2 H2) (hd : ∀ σ H, Pv n σ H → D.nx σ H) :
    ∃ W : Nat → Nat → L2.St → Hp → Prop, (∃ m, W 0 m σ H) ∧ ∀ i m σ H, W i m σ H →
      (J.stop i H ∧ D.nx σ H) ∨ (J.go i H ∧ ∃ N : L2.St → Hp → Prop, (∀ σ' H', N σ' H' → ∃ m', m' < m ∧ W (i + 1) m' σ' H') ∧ ∀ x H', J.yld i H x H' → g x σ H' fun σ2 H2 => tb { D with nx := N, ct := N, bk := D.nx } σ2 H2) := by
  refine ⟨fun i m σ H => i + m = n ∧ Pv i σ H, ⟨n, Nat.zero_add n, h0⟩, fun i m σ H ⟨hm, p⟩ => ?_⟩
  cases m with
  | zero =>
    have e : i = n := hm
    subst e
    exact .inl ⟨stop σ H p, hd σ H p⟩
  | succ m => exact .inr ⟨go i σ H (by omega) p, Pv (i + 1), fun σ' H' p' => ⟨m, Nat.lt_succ_self m, by omega, p'⟩, fun x H' y => hs i σ H x H' (by omega) p y⟩
theorem lc_J (Pv : Nat → Hp → Prop) (h0 : Pv 0 (upd H Z (.lst []))) (stop : ∀ H, Pv n H → J.stop n H) (go : ∀ i H, i < n → Pv i H → J.go i H)
    (hs : ∀ i H x H', i < n → Pv i H → J.yld i H x H' → g x (wipe σ ws) H' fun σ2 H2 => wipe σ2 ws = wipe σ ws ∧ tt σ2 H2 fun b H3 =>
      if b = true then te σ2 H3 fun y H4 => ∃ acc, H4 Z = some (.lst acc) ∧ acc.length < sizeLine ∧ Pv (i + 1) (upd H4 Z (.lst (acc ++ [y]))) else Pv (i + 1) H3) (hd : ∀ H, Pv n H → Qd H) :
    ∃ W : Nat → Nat → Hp → Prop, (∃ m, W 0 m (upd H Z (.lst []))) ∧ ∀ i m H, W i m H →
      (J.stop i H ∧ Qd H) ∨ (J.go i H ∧ ∃ Nx : Hp → Prop, (∀ H', Nx H' → ∃ m', m' < m ∧ W (i + 1) m' H') ∧ ∀ x H', J.yld i H x H' → g x (wipe σ ws) H' fun σ2 H2 => wipe σ2 ws = wipe σ ws ∧ tt σ2 H2 fun b H3 =>
        if b = true then te σ2 H3 fun y H4 => ∃ acc, H4 Z = some (.lst acc) ∧ acc.length < sizeLine ∧ Nx (upd H4 Z (.lst (acc ++ [y]))) else Nx H3) := by
  refine ⟨fun i m H => i + m = n ∧ Pv i H, ⟨n, Nat.zero_add n, h0⟩, fun i m H ⟨hm, p⟩ => ?_⟩
  cases m with
  | zero =>
    have e : i = n := hm
    subst e
    exact .inl ⟨stop H p, hd H p⟩
  | succ m => exact .inr ⟨go i H (by omega) p, Pv (i + 1), fun H' p' => ⟨m, Nat.lt_succ_self m, by omega, p'⟩, fun x H' y => hs i H x H' (by omega) p y⟩
theorem dc_J (Pv : Nat → Hp → Prop) (h0 : Pv 0 (upd H Z (.dK []))) (stop : ∀ H, Pv n H → J.stop n H) (go : ∀ i H, i < n → Pv i H → J.go i H)
    (hs : ∀ i H x H', i < n → Pv i H → J.yld i H x H' → g x (wipe σ ws) H' fun σ2 H2 => wipe σ2 ws = wipe σ ws ∧ tt σ2 H2 fun b H3 =>
      if b = true then tk σ2 H3 fun y H4 => te σ2 H4 fun z H5 => ∃ kvs k, y = kV k ∧ H5 Z = some (.dK kvs) ∧ kvs.length < sizeLine ∧ Pv (i + 1) (upd H5 Z (.dK (putK kvs k z))) else Pv (i + 1) H3) (hd : ∀ H, Pv n H → Qd H) :
    ∃ W : Nat → Nat → Hp → Prop, (∃ m, W 0 m (upd H Z (.dK []))) ∧ ∀ i m H, W i m H →
      (J.stop i H ∧ Qd H) ∨ (J.go i H ∧ ∃ Nx : Hp → Prop, (∀ H', Nx H' → ∃ m', m' < m ∧ W (i + 1) m' H') ∧ ∀ x H', J.yld i H x H' → g x (wipe σ ws) H' fun σ2 H2 => wipe σ2 ws = wipe σ ws ∧ tt σ2 H2 fun b H3 =>
        if b = true then tk σ2 H3 fun y H4 => te σ2 H4 fun z H5 => ∃ kvs k, y = kV k ∧ H5 Z = some (.dK kvs) ∧ kvs.length < sizeLine ∧ Nx (upd H5 Z (.dK (putK kvs k z))) else Nx H3) := by
  refine ⟨fun i m H => i + m = n ∧ Pv i H, ⟨n, Nat.zero_add n, h0⟩, fun i m H ⟨hm, p⟩ => ?_⟩
  cases m with
  | zero =>
    have e : i = n := hm
    subst e
    exact .inl ⟨stop H p, hd H p⟩
  | succ m => exact .inr ⟨go i H (by omega) p, Pv (i + 1), fun H' p' => ⟨m, Nat.lt_succ_self m, by omega, p'⟩, fun x H' y => hs i H x H' (by omega) p y⟩
theorem for_enum {a : Addr} {xs : List V} (Pv : Nat → L2.St → Hp → Prop) (h0 : Pv 0 σ H) (hl : ∀ i σ H, i ≤ xs.length → Pv i σ H → SqL K H a xs)
    (hs : ∀ (i : Nat) (x : V) (T : Addr) (σ : L2.St) (H : Hp), xs[i]? = some x → H T = none → Pv i σ H → g (.ref T) σ (upd H T (.tup [.int (i : Nat), x])) fun σ2 H2 => tb { D with nx := Pv (i + 1), ct := Pv (i + 1), bk := D.nx } σ2 H2) (hd : ∀ σ H, Pv xs.length σ H → D.nx σ H) :
    ∃ W : Nat → Nat → L2.St → Hp → Prop, (∃ m, W 0 m σ H) ∧ ∀ i m σ H, W i m σ H →
      ((Ite K a).stop i H ∧ D.nx σ H) ∨ ((Ite K a).go i H ∧ ∃ N : L2.St → Hp → Prop, (∀ σ' H', N σ' H' → ∃ m', m' < m ∧ W (i + 1) m' σ' H') ∧ ∀ x H', (Ite K a).yld i H x H' → g x σ H' fun σ2 H2 => tb { D with nx := N, ct := N, bk := D.nx } σ2 H2) := by
  refine for_J (J := Ite K a) (n := xs.length) Pv h0 (fun σ H p => ⟨xs, hl _ σ H (Nat.le_refl _) p, Nat.le_refl _⟩) (fun i σ H hi p => ⟨xs, xs[i], hl i σ H (Nat.le_of_lt hi) p, List.getElem?_eq_getElem hi⟩) (fun i σ H v H' hi p y => ?_) hd
  obtain ⟨T, x, rfl, nT, rfl, f⟩ := y
  exact hs i x T σ H (f xs (hl i σ H (Nat.le_of_lt hi) p)) nT p
theorem lc_enum {a : Addr} {xs : List V} (Pv : Nat → Hp → Prop) (h0 : Pv 0 (upd H Z (.lst []))) (hl : ∀ i H, i ≤ xs.length → Pv i H → SqL K H a xs)
    (hs : ∀ (i : Nat) (x : V) (T : Addr) (H : Hp), xs[i]? = some x → H T = none → Pv i H → g (.ref T) (wipe σ ws) (upd H T (.tup [.int (i : Nat), x])) fun σ2 H2 => wipe σ2 ws = wipe σ ws ∧ tt σ2 H2 fun b H3 =>
      if b = true then te σ2 H3 fun y H4 => ∃ acc, H4 Z = some (.lst acc) ∧ acc.length < sizeLine ∧ Pv (i + 1) (upd H4 Z (.lst (acc ++ [y]))) else Pv (i + 1) H3) (hd : ∀ H, Pv xs.length H → Qd H) :
    ∃ W : Nat → Nat → Hp → Prop, (∃ m, W 0 m (upd H Z (.lst []))) ∧ ∀ i m H, W i m H →
      ((Ite K a).stop i H ∧ Qd H) ∨ ((Ite K a).go i H ∧ ∃ Nx : Hp → Prop, (∀ H', Nx H' → ∃ m', m' < m ∧ W (i + 1) m' H') ∧ ∀ x H', (Ite K a).yld i H x H' → g x (wipe σ ws) H' fun σ2 H2 => wipe σ2 ws = wipe σ ws ∧ tt σ2 H2 fun b H3 =>
        if b = true then te σ2 H3 fun y H4 => ∃ acc, H4 Z = some (.lst acc) ∧ acc.length < sizeLine ∧ Nx (upd H4 Z (.lst (acc ++ [y]))) else Nx H3) := by
  refine lc_J (J := Ite K a) (n := xs.length) Pv h0 (fun H p => ⟨xs, hl _ H (Nat.le_refl _) p, Nat.le_refl _⟩) (fun i H hi p => ⟨xs, xs[i], hl i H (Nat.le_of_lt hi) p, List.getElem?_eq_getElem hi⟩) (fun i H v H' hi p y => ?_) hd
  obtain ⟨T, x, rfl, nT, rfl, f⟩ := y
  exact hs i x T H (f xs (hl i H (Nat.le_of_lt hi) p)) nT p
theorem dc_enum {a : Addr} {xs : List V} (Pv : Nat → Hp → Prop) (h0 : Pv 0 (upd H Z (.dK []))) (hl : ∀ i H, i ≤ xs.length → Pv i H → SqL K H a xs)
    (hs : ∀ (i : Nat) (x : V) (T : Addr) (H : Hp), xs[i]? = some x → H T = none → Pv i H → g (.ref T) (wipe σ ws) (upd H T (.tup [.int (i : Nat), x])) fun σ2 H2 => wipe σ2 ws = wipe σ ws ∧ tt σ2 H2 fun b H3 =>
      if b = true then tk σ2 H3 fun y H4 => te σ2 H4 fun z H5 => ∃ kvs k, y = kV k ∧ H5 Z = some (.dK kvs) ∧ kvs.length < sizeLine ∧ Pv (i + 1) (upd H5 Z (.dK (putK kvs k z))) else Pv (i + 1) H3) (hd : ∀ H, Pv xs.length H → Qd H) :
    ∃ W : Nat → Nat → Hp → Prop, (∃ m, W 0 m (upd H Z (.dK []))) ∧ ∀ i m H, W i m H →
      ((Ite K a).stop i H ∧ Qd H) ∨ ((Ite K a).go i H ∧ ∃ Nx : Hp → Prop, (∀ H', Nx H' → ∃ m', m' < m ∧ W (i + 1) m' H') ∧ ∀ x H', (Ite K a).yld i H x H' → g x (wipe σ ws) H' fun σ2 H2 => wipe σ2 ws = wipe σ ws ∧ tt σ2 H2 fun b H3 =>
        if b = true then tk σ2 H3 fun y H4 => te σ2 H4 fun z H5 => ∃ kvs k, y = kV k ∧ H5 Z = some (.dK kvs) ∧ kvs.length < sizeLine ∧ Nx (upd H5 Z (.dK (putK kvs k z))) else Nx H3) := by
  refine dc_J (J := Ite K a) (n := xs.length) Pv h0 (fun H p => ⟨xs, hl _ H (Nat.le_refl _) p, Nat.le_refl _⟩) (fun i H hi p => ⟨xs, xs[i], hl i H (Nat.le_of_lt hi) p, List.getElem?_eq_getElem hi⟩) (fun i H v H' hi p y => ?_) hd
  obtain ⟨T, x, rfl, nT, rfl, f⟩ := y
  exact hs i x T H (f xs (hl i H (Nat.le_of_lt hi) p)) nT p
/-- zip of two lists of any lengths -/
theorem for_zip {a b : Addr} {xs ys : List V} (hn : n = min xs.length ys.length) (Pv : Nat → L2.St → Hp → Prop) (h0 : Pv 0 σ H) (hl : ∀ i σ H, i ≤ n → Pv i σ H → SqL K H a xs ∧ SqL K H b ys)
    (hs : ∀ (i : Nat) (x y : V) (T : Addr) (σ : L2.St) (H : Hp), xs[i]? = some x → ys[i]? = some y → H T = none → Pv i σ H → g (.ref T) σ (upd H T (.tup [x, y])) fun σ2 H2 => tb { D with nx := Pv (i + 1), ct := Pv (i + 1), bk := D.nx } σ2 H2) (hd : ∀ σ H, Pv n σ H → D.nx σ H) :
    ∃ W : Nat → Nat → L2.St → Hp → Prop, (∃ m, W 0 m σ H) ∧ ∀ i m σ H, W i m σ H →
      ((Itz K a b).stop i H ∧ D.nx σ H) ∨ ((Itz K a b).go i H ∧ ∃ N : L2.St → Hp → Prop, (∀ σ' H', N σ' H' → ∃ m', m' < m ∧ W (i + 1) m' σ' H') ∧ ∀ x H', (Itz K a b).yld i H x H' → g x σ H' fun σ2 H2 => tb { D with nx := N, ct := N, bk := D.nx } σ2 H2) := by
  refine for_J (J := Itz K a b) (n := n) Pv h0 (fun σ H p => ?_) (fun i σ H hi p => ?_) (fun i σ H v H' hi p y => ?_) hd
  · obtain ⟨q1, q2⟩ := hl _ σ H (Nat.le_refl _) p
    exact ⟨xs, ys, q1, q2, by omega⟩
  · obtain ⟨q1, q2⟩ := hl i σ H (Nat.le_of_lt hi) p
    exact ⟨xs, ys, xs[i]'(by omega), ys[i]'(by omega), q1, q2, List.getElem?_eq_getElem _, List.getElem?_eq_getElem _⟩
  · obtain ⟨q1, q2⟩ := hl i σ H (Nat.le_of_lt hi) p
    obtain ⟨T, x, y, rfl, nT, rfl, f1, f2⟩ := y
    exact hs i x y T σ H (f1 xs q1) (f2 ys q2) nT p
theorem lc_zip {a b : Addr} {xs ys : List V} (hn : n = min xs.length ys.length) (Pv : Nat → Hp → Prop) (h0 : Pv 0 (upd H Z (.lst []))) (hl : ∀ i H, i ≤ n → Pv i H → SqL K H a xs ∧ SqL K H b ys)
    (hs : ∀ (i : Nat) (x y : V) (T : Addr) (H : Hp), xs[i]? = some x → ys[i]? = some y → H T = none → Pv i H → g (.ref T) (wipe σ ws) (upd H T (.tup [x, y])) fun σ2 H2 => wipe σ2 ws = wipe σ ws ∧ tt σ2 H2 fun b H3 =>
      if b = true then te σ2 H3 fun y H4 => ∃ acc, H4 Z = some (.lst acc) ∧ acc.length < sizeLine ∧ Pv (i + 1) (upd H4 Z (.lst (acc ++ [y]))) else Pv (i + 1) H3) (hd : ∀ H, Pv n H → Qd H) :
    ∃ W : Nat → Nat → Hp → Prop, (∃ m, W 0 m (upd H Z (.lst []))) ∧ ∀ i m H, W i m H →
      ((Itz K a b).stop i H ∧ Qd H) ∨ ((Itz K a b).go i H ∧ ∃ Nx : Hp → Prop, (∀ H', Nx H' → ∃ m', m' < m ∧ W (i + 1) m' H') ∧ ∀ x H', (Itz K a b).yld i H x H' → g x (wipe σ ws) H' fun σ2 H2 => wipe σ2 ws = wipe σ ws ∧ tt σ2 H2 fun b H3 =>
        if b = true then te σ2 H3 fun y H4 => ∃ acc, H4 Z = some (.lst acc) ∧ acc.length < sizeLine ∧ Nx (upd H4 Z (.lst (acc ++ [y]))) else Nx H3) := by
  refine lc_J (J := Itz K a b) (n := n) Pv h0 (fun H p => ?_) (fun i H hi p => ?_) (fun i H v H' hi p y => ?_) hd
  · obtain ⟨q1, q2⟩ := hl _ H (Nat.le_refl _) p
    exact ⟨xs, ys, q1, q2, by omega⟩
  · obtain ⟨q1, q2⟩ := hl i H (Nat.le_of_lt hi) p
    exact ⟨xs, ys, xs[i]'(by omega), ys[i]'(by omega), q1, q2, List.getElem?_eq_getElem _, List.getElem?_eq_getElem _⟩
  · obtain ⟨q1, q2⟩ := hl i H (Nat.le_of_lt hi) p
    obtain ⟨T, x, y, rfl, nT, rfl, f1, f2⟩ := y
    exact hs i x y T H (f1 xs q1) (f2 ys q2) nT p
end
/-! ### what is walked, by values -/
def ForW (J : It) (g : TG) (tb : TS) (D : Ends) (σ : L2.St) (H : Hp) : Prop := ∃ W : Nat → Nat → L2.St → Hp → Prop, (∃ m, W 0 m σ H) ∧ ∀ i m σ H, W i m σ H →
  (J.stop i H ∧ D.nx σ H) ∨ (J.go i H ∧ ∃ N : L2.St → Hp → Prop, (∀ σ' H', N σ' H' → ∃ m', m' < m ∧ W (i + 1) m' σ' H') ∧ ∀ x H', J.yld i H x H' → g x σ H' fun σ2 H2 => tb { D with nx := N, ct := N, bk := D.nx } σ2 H2)
def LcW (J : It) (g : TG) (tt : TT) (te : TE) (ws : List Nat) (σ : L2.St) (Q : VK) (H1 : Hp) : Prop := ∀ Z, H1 Z = none → ∃ W : Nat → Nat → Hp → Prop, (∃ m, W 0 m (upd H1 Z (.lst []))) ∧ ∀ i m H, W i m H →
  (J.stop i H ∧ Q (.ref Z) H) ∨ (J.go i H ∧ ∃ Nx : Hp → Prop, (∀ H', Nx H' → ∃ m', m' < m ∧ W (i + 1) m' H') ∧ ∀ x H', J.yld i H x H' → g x (wipe σ ws) H' fun σ2 H2 => wipe σ2 ws = wipe σ ws ∧ tt σ2 H2 fun b H3 =>
    if b = true then te σ2 H3 fun y H4 => ∃ acc, H4 Z = some (.lst acc) ∧ acc.length < sizeLine ∧ Nx (upd H4 Z (.lst (acc ++ [y]))) else Nx H3)
def DcW (J : It) (g : TG) (tt : TT) (tk te : TE) (ws : List Nat) (σ : L2.St) (Q : VK) (H1 : Hp) : Prop := ∀ Z, H1 Z = none → ∃ W : Nat → Nat → Hp → Prop, (∃ m, W 0 m (upd H1 Z (.dK []))) ∧ ∀ i m H, W i m H →
  (J.stop i H ∧ Q (.ref Z) H) ∨ (J.go i H ∧ ∃ Nx : Hp → Prop, (∀ H', Nx H' → ∃ m', m' < m ∧ W (i + 1) m' H') ∧ ∀ x H', J.yld i H x H' → g x (wipe σ ws) H' fun σ2 H2 => wipe σ2 ws = wipe σ ws ∧ tt σ2 H2 fun b H3 =>
    if b = true then tk σ2 H3 fun y H4 => te σ2 H4 fun z H5 => ∃ kvs k, y = kV k ∧ H5 Z = some (.dK kvs) ∧ kvs.length < sizeLine ∧ Nx (upd H5 Z (.dK (putK kvs k z))) else Nx H3)
section
variable {K : PySem.W.Frag} {g : TG} {tb : TS} {D : Ends} {σ : L2.St} {H : Hp} {tt : TT} {te tk tl : TE} {ta : TA} {ws : List Nat} {Q : VK} {R : It → Hp → Prop} {wi : TI}
theorem r_for (h : wi σ H fun J H1 => ForW J g tb D σ H1) : tFor wi g tb D σ H := h
theorem r_lcE (h : wi σ H fun J H1 => LcW J g tt te ws σ Q H1) : tLc wi g tt te ws σ H Q := h
theorem r_dcE (h : wi σ H fun J H1 => DcW J g tt tk te ws σ Q H1) : tDc wi g tt tk te ws σ H Q := h
theorem r_tYes {R : Bool → Hp → Prop} (h : R true H) : tYes σ H R := h
def kL (K : PySem.W.Frag) (R : It → Hp → Prop) (x : V) (H1 : Hp) : Prop := ∃ a, x = .ref a ∧ (∃ xs, SqL K H1 a xs) ∧ R (Itl K a) H1
def kS (R : It → Hp → Prop) (v : V) (H1 : Hp) : Prop := ∃ x, v = .str x ∧ R (Its x) H1
def kR1 (R : It → Hp → Prop) (vs : List V) (H1 : Hp) : Prop := ∃ j : Int, vs = [.int j] ∧ -(2 ^ 62) ≤ j ∧ j < 2 ^ 62 ∧ R (Itr 0 j.toNat) H1
def kR2 (R : It → Hp → Prop) (vs : List V) (H1 : Hp) : Prop := ∃ i j : Int, vs = [.int i, .int j] ∧ (-(2 ^ 62) ≤ i ∧ i < 2 ^ 62 ∧ -(2 ^ 62) ≤ j ∧ j < 2 ^ 62) ∧ R (Itr i (j - i).toNat) H1
def kR3 (R : It → Hp → Prop) (vs : List V) (H1 : Hp) : Prop := ∃ (i j c : Int) (n : Nat), vs = [.int i, .int j, .int c] ∧ RgC i j c n ∧ R (Itc i c n) H1
def kE (K : PySem.W.Frag) (R : It → Hp → Prop) (vs : List V) (H1 : Hp) : Prop := ∃ a xs, vs = [.ref a] ∧ SqL K H1 a xs ∧ R (Ite K a) H1
def kZ (K : PySem.W.Frag) (R : It → Hp → Prop) (vs : List V) (H1 : Hp) : Prop := ∃ a b xs ys, vs = [.ref a, .ref b] ∧ SqL K H1 a xs ∧ SqL K H1 b ys ∧ R (Itz K a b) H1
theorem r_iList (h : tl σ H (kL K R)) : iList K tl σ H R := h
theorem r_iStr (h : tl σ H (kS R)) : iStr tl σ H R := h
theorem r_iR1 (h : ta σ H (kR1 R)) : iRng1 ta σ H R := h
theorem r_iR2 (h : ta σ H (kR2 R)) : iRng2 ta σ H R := h
theorem r_iR3 (h : ta σ H (kR3 R)) : iRng3 ta σ H R := h
theorem r_iEnum (h : ta σ H (kE K R)) : iEnum K ta σ H R := h
theorem r_iZip (h : ta σ H (kZ K R)) : iZip K ta σ H R := h
theorem r_kL {a : Addr} {xs : List V} (s : SqL K H a xs) (h : R (Itl K a) H) : kL K R (.ref a) H := ⟨a, rfl, ⟨xs, s⟩, h⟩
theorem r_kS {x : Str} (h : R (Its x) H) : kS R (.str x) H := ⟨x, rfl, h⟩
theorem r_kR1 {n : Nat} (l : n ≤ 1000000) (h : R (Itr 0 n) H) : kR1 R [.int n] H := ⟨n, rfl, rng_lo, rng_hi l, h⟩
theorem r_kR2 {i j : Int} (h1 : -1000000 ≤ i) (h2 : i ≤ 1000000) (h3 : -1000000 ≤ j) (h4 : j ≤ 1000000) (h : R (Itr i (j - i).toNat) H) : kR2 R [.int i, .int j] H := ⟨i, j, rfl, ⟨(rng_I h1 h2).1, (rng_I h1 h2).2, (rng_I h3 h4).1, (rng_I h3 h4).2⟩, h⟩
theorem r_kR3 {i j c : Int} {n : Nat} (r : RgC i j c n) (h : R (Itc i c n) H) : kR3 R [.int i, .int j, .int c] H := ⟨i, j, c, n, rfl, r, h⟩
theorem r_kE {a : Addr} {xs : List V} (s : SqL K H a xs) (h : R (Ite K a) H) : kE K R [.ref a] H := ⟨a, xs, rfl, s, h⟩
theorem r_kZ {a b : Addr} {xs ys : List V} (s : SqL K H a xs) (u : SqL K H b ys) (h : R (Itz K a b) H) : kZ K R [.ref a, .ref b] H := ⟨a, b, xs, ys, rfl, s, u, h⟩
end
/-! ### texts of binary digits -/
def tx (l : List Bool) : Str := ⟨(l.map fun b => if b then 49 else 48).toArray⟩
theorem tx_list (l : List Bool) : (tx l).cps.toList = l.map fun b => if b then 49 else 48 := rfl
theorem tx_len (l : List Bool) : (tx l).length = l.length := by
  show (l.map _).toArray.size = _
  rw [List.size_toArray, List.length_map]
theorem tx_app (a b : List Bool) : tx a ++ tx b = tx (a ++ b) := by
  show (⟨(a.map _).toArray ++ (b.map _).toArray⟩ : Str) = ⟨_⟩
  rw [List.append_toArray, ← List.map_append]
theorem tx_nil : (Str.ofString "") = tx [] := by decide +kernel
theorem tx_nil0 : Str.empty = tx [] := by decide +kernel
theorem tx_0 : (Str.ofString "0") = tx [false] := by decide +kernel
theorem tx_1 : (Str.ofString "1") = tx [true] := by decide +kernel
theorem tx_01 : (Str.ofString "01") = tx [false, true] := by decide +kernel
theorem tx_at {l : List Bool} {i : Nat} {b : Bool} (h : l[i]? = some b) : (tx l).cps.toList[i]? = some (if b then 49 else 48) := by
  rw [tx_list, List.getElem?_map, h]; rfl
theorem tx_one (b : Bool) : (⟨#[if b then 49 else 48]⟩ : Str) = tx [b] := rfl
theorem tx_inj {a b : List Bool} (h : tx a = tx b) : a = b := by
  have e : (tx a).cps.toList = (tx b).cps.toList := by rw [h]
  rw [tx_list, tx_list] at e
  have inj : ∀ (a b : List Bool), a.map (fun b => if b then 49 else 48) = b.map (fun b => if b then (49 : Nat) else 48) → a = b := by
    intro a
    induction a with
    | nil => intro b e; cases b with
      | nil => rfl
      | cons y b => cases e
    | cons x a ih => intro b e; cases b with
      | nil => cases e
      | cons y b =>
        rw [List.map_cons, List.map_cons] at e
        obtain ⟨e1, e2⟩ := List.cons.inj e
        rw [ih b e2]
        cases x <;> cases y <;> first | rfl | exact absurd e1 (by decide)
  exact inj a b e
theorem tx_cut {l : List Bool} {i j : Nat} (hi : i ≤ l.length) : cutS (tx l) (some (i : Int)) (some (j : Int)) = tx ((l.drop i).take (j - i)) := by
  unfold cutS
  rw [tx_len, HT.sIx_nat, HT.sIx_nat, tx_list, Nat.min_eq_left hi]
  show (⟨_⟩ : Str) = ⟨_⟩
  rw [← List.map_drop, ← List.map_take]
  congr 3
  by_cases hj : j ≤ l.length
  · rw [Nat.min_eq_left hj]
  · rw [Nat.min_eq_right (by omega), List.take_of_length_le (by rw [List.length_drop]; omega), List.take_of_length_le (by rw [List.length_drop]; omega)]
theorem tx_cutE {l : List Bool} {i : Nat} (hi : i ≤ l.length) : cutS (tx l) (some (i : Int)) none = tx (l.drop i) := by
  unfold cutS
  rw [tx_len, HT.sIx_nat, HT.sIx_none, tx_list, Nat.min_eq_left hi]
  show (⟨_⟩ : Str) = ⟨_⟩
  rw [← List.map_drop, ← List.map_take, List.take_of_length_le (by rw [List.length_drop]; omega)]
/-- b * n -/
def rRepS : R2 := fun x y H Q => ∃ (b : Bool) (n : Nat), x = .str (tx [b]) ∧ y = .int n ∧ n ≤ 1000000 ∧ Q (.str (tx (List.replicate n b))) H
theorem rep_fold (b : Bool) : ∀ (n : Nat) (acc : Array Nat), (List.replicate n (tx [b]).cps).foldl (· ++ ·) acc = acc ++ ((List.replicate n b).map fun b => if b then 49 else 48).toArray
  | 0, acc => by simp
  | n + 1, acc => by
    rw [List.replicate_succ, List.foldl_cons, rep_fold b n, List.replicate_succ, List.map_cons]
    show acc ++ ([if b then 49 else 48].toArray) ++ _ = _
    rw [Array.append_assoc]
    congr 1
    exact List.append_toArray _ _
theorem op_rep_str {X : Cx} : OpR X (binaryOp .Mult) rRepS := by
  intro pins s σ H x y v u Q I rx ry h
  obtain ⟨b, n, rfl, rfl, hn, q⟩ := h
  obtain ⟨t, rfl⟩ := rx
  obtain ⟨t', rfl⟩ := ry
  have l1 : (tx [b]).length = 1 := tx_len [b]
  have p63 : (2 : Int) ^ 63 = 9223372036854775808 := by decide
  refine PySem.P.mul_str ?_ (fun h1 _ => ?_) (fun h1 _ => ?_) ?_
  · rw [decide_eq_false (by omega), decide_eq_false (by omega)]; rfl
  · rw [l1, p63]
    intro z
    have z2 : (9223372036854775808 - 1) / (n : Int) < 1 := z
    have : (n : Int) ≤ 9223372036854775808 - 1 := by omega
    have := Int.le_ediv_of_mul_le (show (0 : Int) < n by omega) (show (1 : Int) * n ≤ 9223372036854775808 - 1 by omega)
    omega
  · rw [l1, Nat.one_mul, Int.toNat_natCast]
    exact decide_eq_false (by have : sizeLine = 16777216 := rfl; omega)
  · by_cases h0 : (n : Int) < 1
    · rw [if_pos h0]
      have n0 : n = 0 := by omega
      subst n0
      exact ⟨by decide, .str (tx []), H, I.tok _, ⟨s.toks, congrArg (fun z => Value.str z s.toks) tx_nil0⟩, q⟩
    · rw [if_neg h0]
      by_cases h1 : ((n : Int) == 1 || (tx [b]).length == 0) = true
      · rw [if_pos h1]
        have n1 : n = 1 := by
          rw [l1] at h1
          simp at h1
          omega
        subst n1
        exact ⟨.str (tx [b]), H, I, ⟨_, rfl⟩, q⟩
      · rw [if_neg h1, Int.toNat_natCast]
        have e : (⟨(List.replicate n (tx [b]).cps).foldl (· ++ ·) #[]⟩ : Str) = tx (List.replicate n b) := by rw [rep_fold, Array.empty_append]; rfl
        rw [e]
        refine ⟨?_, .str (tx (List.replicate n b)), H, I.tok _, ⟨_, rfl⟩, q⟩
        rw [tx_len, List.length_replicate]
        exact sz hn
theorem r_rep {H : Hp} {Q : VK} {b : Bool} {n : Nat} (hn : n ≤ 1000000) (h : Q (.str (tx (List.replicate n b))) H) : rRepS (.str (tx [b])) (.int n) H Q := ⟨b, n, rfl, rfl, hn, h⟩
/-! ### min of three -/
theorem vals_cons {x : V} {xs : List V} {us : List Value} (r : Vals (x :: xs) us) : ∃ u us', us = u :: us' ∧ RelV x u ∧ Vals xs us' := by
  cases r with
  | cons a b => exact ⟨_, _, rfl, a, b⟩
def rMn3 : List V → Hp → VK → Prop := fun xs H Q => ∃ a b c : Int, xs = [.int a, .int b, .int c] ∧ Q (.int (min a (min b c))) H
theorem call_min3N {X : Cx} (hc : X.calm = true) : CallR X (.builtin "min") rMn3 := by
  intro pins s σ H xs us Q I r h
  obtain ⟨a, b, c, rfl, q⟩ := h
  obtain ⟨ua, us, rfl, ⟨t1, rfl⟩, r2⟩ := vals_cons r
  obtain ⟨u, w', rfl, ⟨t2, rfl⟩, ⟨t3, rfl⟩⟩ := vals2 r2
  refine min_three_ints (I.ok.hd hc) fun h' tk k => ⟨.int (min a (min b c)), H, I.kept k, ?_, q⟩
  by_cases h1 : b < a
  · rw [if_pos h1]
    by_cases h2 : c < b
    · rw [if_pos h2, show min a (min b c) = c by omega]; exact ⟨_, rfl⟩
    · rw [if_neg h2, show min a (min b c) = b by omega]; exact ⟨_, rfl⟩
  · rw [if_neg h1]
    by_cases h2 : c < a
    · rw [if_pos h2, show min a (min b c) = c by omega]; exact ⟨_, rfl⟩
    · rw [if_neg h2, show min a (min b c) = a by omega]; exact ⟨_, rfl⟩
theorem r_mn3 {H : Hp} {Q : VK} {a b c : Int} (h : Q (.int (min a (min b c))) H) : rMn3 [.int a, .int b, .int c] H Q := ⟨a, b, c, rfl, h⟩
/-! ### int(t, 2) -/
namespace B2
open PySem.NumText PySem.Calls
def IsBin (c : Nat) : Prop := c = 48 ∨ c = 49
theorem IsBin.hex {c : Nat} (h : IsBin c) : Hx.IsHex c := .inl (by rcases h with rfl | rfl <;> decide)
theorem hexs {cs : List Nat} (h : ∀ c ∈ cs, IsBin c) : ∀ c ∈ cs, Hx.IsHex c := fun c hc => (h c hc).hex
def num2 (l : List Nat) : Nat := l.foldl (fun a c => a * 2 + Hx.hv c) 0
theorem step2 {ds : Array Nat} {b : Bool} {c : Nat} (h : IsBin c) : PySem.NumText.step 2 (ds, b) c = some (ds.push (Hx.hv c), true) := by
  have hr := Hx.hex_rng h.hex
  unfold PySem.NumText.step
  rw [if_neg (by rw [beq_iff_eq]; exact hr.2.2), Hx.digit_hex h.hex]
  exact if_pos (by rcases h with rfl | rfl <;> decide)
theorem fold2 : ∀ (cs : List Nat) (ds : Array Nat), (∀ c ∈ cs, IsBin c) → cs.foldlM (PySem.NumText.step 2) (ds, true) = some (cs.foldl (fun acc c => acc.push (Hx.hv c)) ds, true)
  | [], _, _ => rfl
  | c :: cs, ds, h => by
    rw [List.foldlM_cons, step2 (h c (List.mem_cons_self ..))]
    exact fold2 cs (ds.push (Hx.hv c)) fun d hd => h d (List.mem_cons_of_mem _ hd)
theorem digits2 {cs : List Nat} (h : ∀ c ∈ cs, IsBin c) (hne : cs ≠ []) : digits? 2 cs = some (cs.foldl (fun acc c => acc.push (Hx.hv c)) #[]) := by
  cases cs with
  | nil => exact absurd rfl hne
  | cons c cs =>
    unfold digits?
    rw [List.foldlM_cons, step2 (h c (List.mem_cons_self ..))]
    show (cs.foldlM (PySem.NumText.step 2) ((#[] : Array Nat).push (Hx.hv c), true)).bind _ = _
    rw [fold2 cs _ fun d hd => h d (List.mem_cons_of_mem _ hd)]
    rfl
theorem push2 : ∀ (cs : List Nat) (ds : Array Nat), (cs.foldl (fun acc c => acc.push (Hx.hv c)) ds).foldl (fun acc d => acc * 2 + d) 0 = cs.foldl (fun a c => a * 2 + Hx.hv c) (ds.foldl (fun acc d => acc * 2 + d) 0)
  | [], _ => rfl
  | c :: cs, ds => by
    rw [List.foldl_cons, push2 cs (ds.push (Hx.hv c)), List.foldl_cons]
    congr 1
    simp
theorem pref2 {cs : List Nat} (h : ∀ c ∈ cs, IsBin c) : NumText.prefix? cs = none := by
  match cs, h with
  | [], _ => rfl
  | [a], _ =>
    unfold NumText.prefix?
    split
    · rename_i e
      cases e
    · rfl
  | a :: c :: r, h =>
    have hc := h c (List.mem_cons_of_mem _ (List.mem_cons_self ..))
    by_cases ha : a = 48
    · subst ha
      have e : NumText.prefix? (48 :: c :: r) = if (c == 120 || c == 88) = true then some 16 else if (c == 111 || c == 79) = true then some 8 else if (c == 98 || c == 66) = true then some 2 else none := rfl
      rw [e]
      rcases hc with rfl | rfl <;> rfl
    · unfold NumText.prefix?
      split
      · rename_i e
        exact absurd (List.cons.inj e).1 ha
      · rfl
theorem based2 {cs : List Nat} (h : ∀ c ∈ cs, IsBin c) : based 2 cs = (2, false, cs) := by
  unfold based
  rw [pref2 h]
  rfl
theorem read2 {cs : List Nat} (h : ∀ c ∈ cs, IsBin c) (hne : cs ≠ []) : (int_private% "readNumeral") 0 2 cs = (int_private% "Numeral.value") ((num2 cs : Nat) : Int) := by
  have hr : ∀ c ∈ cs.reverse, IsBin c := fun c hc => h c (List.mem_reverse.mp hc)
  refine (readNumeral_eq 0 2 cs).trans ?_
  rw [Hx.dropB (hexs h), Hx.signH (hexs h)]
  show judge 0 false (based 2 cs).1 (based 2 cs).2.1 (digits? (based 2 cs).1 (((based 2 cs).2.2.reverse.dropWhile blank).reverse)) = _
  rw [based2 h]
  show judge 0 false 2 false (digits? 2 ((cs.reverse.dropWhile blank).reverse)) = _
  rw [Hx.dropB (hexs hr), List.reverse_reverse, digits2 h hne]
  show (int_private% "Numeral.value") (((cs.foldl (fun acc c => acc.push (Hx.hv c)) (#[] : Array Nat)).foldl (fun acc d => acc * 2 + d) 0 : Nat) : Int) = _
  have z : (#[] : Array Nat).foldl (fun acc d => acc * 2 + d) 0 = 0 := by first | rfl | simp
  rw [push2, z] <;> rfl
theorem gives2 {x : PySem.Str} {u t : Tok} (hl : x.length ≤ 640) (h : ∀ c ∈ x.cps.toList, IsBin c) (hne : x.cps.toList ≠ []) :
    Gives (Builtin.«int.__new__» ⟨[.type "int", .str x u, .int 2 t], []⟩) (.int ((num2 x.cps.toList : Nat) : Int)) :=
  .of_wp fun M A E s Q hQ => by
    obtain ⟨hp, g, d, tk, os⟩ := s
    have f1 := F.conv_sub_int
    have f2 := F.madeHere_int
    have f6 : typeOf (.str x u) = pure (.type "str") := rfl
    obtain ⟨e1, e2⟩ := Hx.seen_hex (hexs h)
    have hs : (numSeenOf x).length ≤ 640 := by
      rw [e2, Array.length_toList]
      exact hl
    have hr : (int_private% "readNumeral") 0 2 (numSeenOf x) = (int_private% "Numeral.value") ((num2 x.cps.toList : Nat) : Int) := by
      rw [e2]
      exact read2 h hne
    have ha : ((numSeenOf x).length == (numTextOf x).length) = true := by
      rw [e1, e2]
      exact beq_self_eq_true _
    have hk := Hx.Hid.mk (And.intro hs (And.intro hr ha))
    clear hs hr ha e1 e2 hl hne h
    repeat (any_goals (first
      | assumption
      | ((with_reducible show wpAny _ _ ((int_private% "intFromText") _ _ _) _ _ _); refine Hx.wp_textB hk.out.1 hk.out.2.1 hk.out.2.2 ?_)
      | wp_step))
    all_goals first | exact ⟨_, rfl, hQ⟩ | skip
theorem call2 {prog : Program} {w : World} {A : Around} {E : Value → Shared → Prop} {s : Shared} {Q : Value → Shared → Prop} {x : PySem.Str} {u t : Tok} (hl : x.length ≤ 640) (h : ∀ c ∈ x.cps.toList, IsBin c) (hne : x.cps.toList ≠ [])
    (hQ : Q (.int ((num2 x.cps.toList : Nat) : Int) s.toks) { s with toks := s.toks + 1 }) : wpAny (model prog w) A (call (.type "int") [.str x u, .int 2 t]) Q E s :=
  callType_new F.called_int F.newNe_int (Hx.typeCall_int_2 _ _) (Hx.newCall_int_2 _ _) (fun obj => F.initArgs_range_2 obj _ _) F.entry_int_new (gives2 hl h hne).meets (show (Made.int ((num2 x.cps.toList : Nat) : Int)).post _ s from ⟨rfl, hQ⟩)
theorem num_val : ∀ (l : List Bool) (a : Nat), (l.map fun b => if b then 49 else 48).foldl (fun a c => a * 2 + Hx.hv c) a = l.foldl (fun a b => 2 * a + b.toNat) a
  | [], _ => rfl
  | b :: l, a => by
    rw [List.map_cons, List.foldl_cons, List.foldl_cons, num_val l, Nat.mul_comm a 2]
    cases b <;> rfl
end B2
def valB (l : List Bool) : Nat := l.foldl (fun a b => 2 * a + b.toNat) 0
def rInt2 : List V → Hp → VK → Prop := fun xs H Q => ∃ l : List Bool, xs = [.str (tx l), .int 2] ∧ l ≠ [] ∧ l.length ≤ 640 ∧ Q (.int (valB l)) H
theorem call_int_bin {X : Cx} : CallR X (.type "int") rInt2 := by
  intro pins s σ H xs us Q I r h
  obtain ⟨l, rfl, hne, hl, q⟩ := h
  obtain ⟨u, w', rfl, r1, r2⟩ := vals2 r
  obtain ⟨t1, rfl⟩ := r1
  obtain ⟨t2, rfl⟩ := r2
  refine B2.call2 (x := tx l) (by rw [tx_len]; exact hl) (fun c hc => ?_) (fun e => hne ?_) ⟨.int (valB l), H, I.tok _, ⟨s.toks, ?_⟩, q⟩
  · rw [tx_list] at hc
    obtain ⟨b, _, rfl⟩ := List.mem_map.mp hc
    cases b
    · exact .inl rfl
    · exact .inr rfl
  · rw [tx_list] at e
    exact List.map_eq_nil_iff.mp e
  · show Value.int ((B2.num2 (tx l).cps.toList : Nat) : Int) _ = _
    rw [tx_list]
    show Value.int (((l.map fun b => if b then 49 else 48).foldl (fun a c => a * 2 + Hx.hv c) 0 : Nat) : Int) _ = _
    rw [B2.num_val l 0]
    rfl
theorem r_int2 {H : Hp} {Q : VK} {l : List Bool} (hne : l ≠ []) (hl : l.length ≤ 640) (h : Q (.int (valB l)) H) : rInt2 [.str (tx l), .int 2] H Q := ⟨l, rfl, hne, hl, h⟩
/-! ### (a, b, .., *rest) = a tuple -/
section
variable {X : Cx}
theorem pgs_starred {t : Expr} {sp : Pos} {es : List Expr} {g : TG} {u : TGs} (h1 : PG X t g) (h2 : PGs X es u)
    (hs : (assignEach (.Starred t sp :: es) X.env).map (·.2) = assign t X.env :: (assignEach es X.env).map (·.2) := by rfl) : PGs X (.Starred t sp :: es) (gCons g u) := by
  refine ⟨fun pins s σ H vs us Q I r h => ?_⟩
  obtain ⟨v, vr, e1, h⟩ := h
  subst e1
  cases r with
  | cons r rr =>
    rw [hs]
    exact assignInOrder_cons (thn (h1.run pins s σ H _ _ _ I r h) fun _ s1 ⟨σ1, H1, I1, q1⟩ => h2.run pins s1 σ1 H1 _ _ Q I1 rr q1)
def gStar (K : PySem.W.Frag) (i : Nat) (t : TGs) : TG := fun v σ H Q => ∃ a xs, v = .ref a ∧ SqT K H a xs ∧ i ≤ xs.length ∧ xs.length ≤ 1000 ∧ ∀ D, H D = none → t (xs.take i ++ [.ref D]) σ (upd H D (.lst (xs.drop i))) Q
theorem star_items {prog : Program} {w : World} {A : Around} {E : Value → Shared → Prop} {s : Shared} {l : Addr} {items : Array Value} {i : Nat} {Q : List Value → Shared → Prop} (hl : IsTup s.heap l items) (hh : A.handled = none) (hi : i ≤ items.size) (hz : items.size ≤ 16384)
    (h : ∀ (h₂ : Heap) (tk : Nat), (∀ b o, s.heap.get? b = some o → h₂.get? b = some o) → Q (items.toList.take i ++ [.ref h₂.objs.size]) { s with heap := h₂.push { cls := .type "list", data := .seq (items.toList.drop i).toArray }, toks := tk }) :
    wpAny (model prog w) A (unpackItems (.ref l) (i + 1) (some i)) Q E s := by
  have hlt : l ≠ s.heap.objs.size := by obtain ⟨o, ho, _⟩ := hl; exact Nat.ne_of_lt (Heap.lt_size ho)
  have hll : l < s.heap.objs.size := by obtain ⟨o, ho, _⟩ := hl; exact Heap.lt_size ho
  unfold unpackItems
  refine wpAny_bind ?_
  unfold notIterableAtAll
  refine wpAny_bind (wpAny_specialOf hl.typeIs slot_tuple_iter.lookup ?_)
  refine wpAny_pure ?_
  simp only [Bool.false_eq_true, if_false]
  refine wpAny_bind (wpAny_holding (iter_tuple hl ?_))
  refine wpAny_bind (wpAny_holding (draw_tuple hlt i 0 _ _ ⟨_, Heap.get?_push_size _ rfl, rfl, rfl⟩ (hl.push _) (by omega) fun h₁ hit₁ hs₁ => ?_))
  have hl₁ : IsTup h₁ l items := (hl.push _).extBut hs₁.extBut hlt
  rw [Nat.zero_add] at hit₁
  obtain ⟨oi, hoi, _⟩ := id hit₁
  obtain ⟨ol, hol, _⟩ := id hl₁
  rw [List.drop_zero]
  have hfl : (items.toList.take i).length = i := by rw [List.length_take, Array.length_toList]; omega
  rw [if_neg (show ¬ ((items.toList.take i).length < i) by rw [hfl]; omega)]
  refine wpAny_bind (wpAny_holding (PySem.W.kun_collect (s := { s with heap := h₁ }) (T := "tuple_iterator") (.inr (.inr (.inr rfl))) (Walks.tuple (A := A.in1) hh s.heap.objs.size l hlt items) (fun j u st => st.1.typeIs) (k := i) (by omega) ⟨hit₁, hl₁⟩ (Heap.lt_size hoi) (Heap.lt_size hol) (fun h₂ tk hk => ?_) (by rw [sizeLine_eq]; omega)))
  have hrl : (items.toList.drop i).length = items.size - i := by rw [List.length_drop, Array.length_toList]
  have hmid : (items.toList.drop i).length - (i + 1 - 1 - i) = items.size - i := by rw [hrl]; omega
  show wpAny _ _ (if (items.toList.drop i).length < i + 1 - 1 - i then _ else _) _ _ _
  rw [if_neg (by omega)]
  show wpAny _ _ (newList ((items.toList.drop i).take ((items.toList.drop i).length - (i + 1 - 1 - i))) >>= fun d => pure (items.toList.take i ++ [d] ++ (items.toList.drop i).drop ((items.toList.drop i).length - (i + 1 - 1 - i)))) _ _ _
  rw [hmid, ← hrl, List.take_length, List.drop_length]
  refine wpAny_bind (wpAny_newList (wpAny_pure ?_) (by rw [hrl, sizeLine_eq]; omega))
  rw [List.append_nil]
  exact h h₂ tk fun b o e => hk b o (Nat.ne_of_lt (Heap.lt_size e)) (hs₁.extBut b o (Nat.ne_of_lt (Heap.lt_size e)) (Heap.get?_push_of_some _ e))
theorem pg_star {es : List Expr} {k i : Nat} {pos : Pos} {t : TGs} (hc : X.calm = true) (h : PGs X es t) (hn : (assignEach es X.env).length = i + 1 := by rfl) (hst : (assignEach es X.env).findIdx? (·.1) = some i := by rfl) : PG X (.Tuple es k pos) (gStar X.K i t) := by
  refine ⟨fun pins s σ H v u Q I r hw => ?_⟩
  obtain ⟨a, xs, e1, hq, hl, hz, hw⟩ := hw
  subst e1
  cases r
  obtain ⟨its, rv, ht, _⟩ := I.tuple hq
  have el : its.length = xs.length := rv.length.symm
  rw [assign_Tuple]
  refine wpAny_bind (wpAny_standAt ?_)
  unfold unpack
  rw [hn, hst]
  refine wpAny_bind (wpAny_holding (star_items ht (I.ok.hd hc) (by simp [el]; exact hl) (by simp [el]; omega) fun h₂ tk hk => ?_))
  have I1 : Inv X pins σ H { s with heap := h₂, toks := tk } := I.kept hk
  have I2 : Inv X pins σ (upd H h₂.objs.size (.lst (xs.drop i))) { s with heap := h₂.push { cls := .type "list", data := .seq (its.drop i).toArray }, toks := tk } :=
    I1.laid (t' := tk) (fun b o e => Heap.get?_push_of_some _ e) (Nat.le_refl _) ⟨sz (by rw [List.length_drop]; omega), its.drop i, 0, rv.drop i, Heap.get?_push_size _ rfl⟩
  exact h.run pins _ σ _ (xs.take i ++ [.ref h₂.objs.size]) _ Q I2 (Vals.append (rv.take i) (Paired.cons (show RelV (.ref h₂.objs.size) (.ref h₂.objs.size) from rfl) .nil)) (hw _ (I1.hok.fresh (Nat.le_refl _)))
/-! ### x = {k: v for ..} on one line, x a local -/
theorem ps_setDc {i : Nat} {y : Str} {py : Pos} {kx vx tg iter : Expr} {ifs : List Expr} {scope : Scope} {own : List (Str × Nat)} {pos spos : Pos} {wi : TI} {g : TG} {tt : TT} {tk tv : TE} (hc : X.calm = true) (hN : X.N.Nodup) (hy : X.N[i]? = some y) (hyl : X.env.scope.names.lookup y = some .local)
    (hsw : swapsWith (.DictComp kx vx [⟨tg, iter, ifs, 0⟩] scope pos) (some (.Name y py)) spos.line X.env = pure true) (hi : PI X tg iter wi) (ok : BlkOk X.N X.env.scope scope own)
    (hg : ∀ (s : Shared) (H : Hp) (C : Addr) (cl : List (Str × Addr)) (fp : List Addr), PG (X.blk s H scope (compEnvC scope cl C X.env) fp) tg g) (ht : ∀ (s : Shared) (H : Hp) (C : Addr) (cl : List (Str × Addr)) (fp : List Addr), PTs (X.blk s H scope (compEnvC scope cl C X.env) fp) ifs tt)
    (hk : ∀ (s : Shared) (H : Hp) (C : Addr) (cl : List (Str × Addr)) (fp : List Addr), PE (X.blk s H scope (compEnvC scope cl C X.env) fp) kx tk)
    (he : ∀ (s : Shared) (H : Hp) (C : Addr) (cl : List (Str × Addr)) (fp : List Addr), PE (X.blk s H scope (compEnvC scope cl C X.env) fp) vx tv) (hs : ∀ x, foldedSetIterable iter X.env x = pure x := by intro _; rfl) :
    PS X (.Assign [.Name y py] (.DictComp kx vx [⟨tg, iter, ifs, 0⟩] scope pos) spos) (tAsg (tDc wi g tt tk tv (own.map (·.2))) (gName i)) := by
  refine ⟨fun pins s σ H D I h => ?_⟩
  rw [exec_Assign_Name_used _ _ _ _ hsw]
  refine wpAny_bind (wpAny_standAt (wpAny_bind ?_))
  show wpAny _ X.A (do let _ ← comprehension (.DictComp kx vx [⟨tg, iter, ifs, 0⟩] scope pos) scope X.env (firstIterPos [⟨tg, iter, ifs, 0⟩] pos) newDict false (eval iter X.env) (some (assign (.Name y py) X.env))) _ _ s
  have h : tDc wi g tt tk tv (own.map (·.2)) σ H (fun x H1 => gName i x σ H1 D.nx) := h
  refine wpAny_bind (thn (dc_core (Qf := fun _ s' => SP X pins D .next s') hc hN I hi ok hg ht hk he hs h fun L C s' m H' I' q hn f => ?_) fun _ s' hq => wpAny_pure (wpAny_pure hq))
  show wpAny _ _ (assign (.Name y py) X.env (.ref L)) _ _ _
  refine wpAny_assign_Name (store_ok2 (v := V.ref L) I' hN hy (.inl hyl) rfl (fun s2 I2 ⟨a, sb, ha⟩ => ?_) (.inr hyl))
  obtain ⟨f0, f1, f2, f3, f4, f5⟩ := f
  have haC : C ≠ a := by
    rcases ha with z | z
    · rw [z]; exact f1
    · exact fun e => f4 y a z e.symm
  refine ⟨m, hn.sameBut sb haC, fun h3 sb3 => ?_⟩
  exact ⟨_, H', I2.turned (t' := s2.toks) (fun b o hb e => (sb3.2 b hb).trans e) f0 f1 f3 f4 f5, q⟩
theorem sw_trueD {kx vx : Expr} {gs : List Comprehension} {scope : Scope} {pos py : Pos} {y : Str} {l : Nat} {env : Env} (hk : env.scope.kind = .function) (hy : env.scope.names.lookup y = some .local) (hl : (py.line == pos.line) = true)
    (ha : (scope.names.any fun (n, k) => n == y && (k == .local || k == .cell)) = false) : swapsWith (.DictComp kx vx gs scope pos) (some (.Name y py)) l env = pure true := by
  have ky : env.kindOf y = some .local := hy
  have hb : env.blockKind = .function := by unfold Env.blockKind; rw [hk]; rfl
  unfold swapsWith
  simp only [hb, ky, ha, Expr.pos, hl]
  rfl
end
/-! ### list(range(a, b)) -/
def cR (a b : Nat) : List Int := ((List.range (b - a)).map (· + a)).map fun n : Nat => (n : Int)
section
variable {σ : L2.St} {H : Hp} {Q : VK} {ta tb : TE}
def rRgL (a b : Int) (H : Hp) (Q : VK) : Prop := RgOk a b ∧ ∀ q, H q = none → Q (.ref q) (upd H q (.lst (rgV a b)))
theorem r_rg2 (h : ta σ H fun x H1 => tb σ H1 fun y H2 => ∃ i j, x = .int i ∧ y = .int j ∧ rRgL i j H2 Q) : tLstRg (tRg2 ta tb) σ H Q := h
theorem r_rg2I {i j : Int} (h : rRgL i j H Q) : ∃ i' j', V.int i = .int i' ∧ V.int j = .int j' ∧ rRgL i' j' H Q := ⟨i, j, rfl, rfl, h⟩
theorem r_rgN {a b : Nat} (ha : a ≤ 1000000) (hb : b ≤ 1000000) (h : ∀ q, H q = none → Q (.ref q) (upd H q (.lst ((cR a b).map V.int)))) : rRgL (a : Int) (b : Int) H Q := by
  refine ⟨RgOk.of_le (by omega) (by omega) (by omega) (by omega), ?_⟩
  have e : rgV (a : Int) (b : Int) = (cR a b).map V.int := by
    unfold rgV cR
    rw [List.map_map, List.map_map, show ((b : Int) - a).toNat = b - a by omega]
    refine List.map_congr_left fun i _ => ?_
    show V.int _ = V.int _
    congr 1
    show (a : Int) + (i : Int) = ((i + a : Nat) : Int)
    omega
  rw [e]
  exact h
end
/-! ### mirrors: codes and tables -/
abbrev Tb := Nat × Nat
abbrev Tbs := Tb × Tb
def tbOk (t : Tb) : Prop := 1 ≤ t.2 ∧ t.2 ≤ 15 ∧ t.1 ≤ 60001 * t.2
def tbsOk (t : Tbs) : Prop := tbOk t.1 ∧ tbOk t.2
def codeN (n : Int) : Nat := if 0 ≤ n then (2 * n).toNat else (-2 * n - 1).toNat
def numN (u : Nat) : Int := if u % 2 = 0 then (u : Int) / 2 else -(((u : Int) + 1) / 2)
def behind (t : Tb) (u : Nat) : Tb := if t.2 + 1 = 16 then ((t.1 + u) / 2, 8) else (t.1 + u, t.2 + 1)
def parGo : Nat → Nat → Nat → Nat
  | 0, _, _ => 0
  | f + 1, tot, pr => if pr < tot then parGo f tot (2 * pr) + 1 else 0
def par (t : Tb) : Nat := parGo 17 t.1 t.2
def bin (u : Nat) : List Bool := if h : u = 0 then [] else bin (u / 2) ++ [decide (u % 2 = 1)]
termination_by u
decreasing_by omega
def padded (u k : Nat) : List Bool := List.replicate k false ++ bin u
def code (u k : Nat) : List Bool :=
  if u / 2 ^ k < 20 then List.replicate (u / 2 ^ k) true ++ false :: (padded u k).drop ((padded u k).length - k)
  else List.replicate (19 + (bin u).length) true ++ false :: bin u
def onesB : List Bool → Nat
  | true :: l => onesB l + 1
  | _ => 0
def written : List Int → Nat → Tbs → List Bool × Tbs
  | [], _, t => ([], t)
  | n :: ns, 0, t => (code (codeN n) (par t.2) ++ (written ns 0 (t.1, behind t.2 (codeN n))).1, (written ns 0 (t.1, behind t.2 (codeN n))).2)
  | n :: ns, f + 1, t => (code (codeN n) (par t.1) ++ (written ns f (behind t.1 (codeN n), t.2)).1, (written ns f (behind t.1 (codeN n), t.2)).2)
def markN (ns : List Int) : Nat := ns.foldl (fun m n => (m * 31 + codeN n) % 9973) 1
def numsOk (ns : List Int) : Prop := ∀ n ∈ ns, -30000 ≤ n ∧ n ≤ 30000
/-! levels -/
def hv (n : Nat) : Nat → Nat
  | 0 => n
  | l + 1 => (hv n l + 1) / 2
def countsL (n lev : Nat) : List Nat := (List.range (lev + 1)).map (hv n)
def joinPairs (sums diffs : List Int) : List Int := (sums.zip diffs).flatMap fun p => [p.1 + (p.2 + 1) / 2, p.1 + (p.2 + 1) / 2 - p.2]
def joinStep (sums diffs : List Int) : List Int := joinPairs sums diffs ++ sums.drop diffs.length
def joinGo (xs : List Int) (lev : Nat) : Nat → List Int
  | 0 => xs.take (hv xs.length lev)
  | i + 1 => joinStep (joinGo xs lev i) ((xs.take (hv xs.length (lev - 1 - i))).drop (hv xs.length (lev - i)))
def joinL (xs : List Int) (lev : Nat) : List Int := joinGo xs lev lev
/-! joints -/
abbrev Jt := Nat × Nat
def jtOk (j : Jt) : Prop := j.1 ≤ 8 ∧ j.2 < 4 ∧ (j.1 = 0 → j.2 = 0)
def unf (c d a b : Int) : Int × Int :=
  (a - (c * b + 2) / 4 - (c * (b - (d * (a - (c * b + 2) / 4) + 2) / 4) + 2) / 4, b - (d * (a - (c * b + 2) / 4) + 2) / 4)
def shp : Nat → Int × Int
  | 0 => (-1, 2)
  | 1 => (-2, 3)
  | 2 => (1, -2)
  | _ => (2, -3)
def unfS (sh : Nat) (a b : Int) : Int × Int := unf (shp sh).1 (shp sh).2 a b
def pairStep (sh : Nat) (l r : Nat) (xs : List Int) : List Int := (xs.set l (unfS sh (xs.getD l 0) (xs.getD r 0)).1).set r (unfS sh (xs.getD l 0) (xs.getD r 0)).2
def pairsGo (sh p : Nat) : Nat → List Int → List Int
  | 0, xs => xs
  | i + 1, xs => pairStep sh (p - 1 - i) (p + i) (pairsGo sh p i xs)
def chg : List Int → List (Nat × Jt) → List Int
  | xs, [] => xs
  | xs, (p, j) :: r => chg (pairsGo j.2 p j.1 xs) r
/-- the joints fit: last, before as in require_joints -/
def Fits (n : Nat) : Nat → Nat → List (Nat × Jt) → Prop
  | _, _, [] => True
  | last, before, (p, j) :: r => last < p ∧ p < n ∧ before + j.1 + last ≤ p ∧ j.1 + p ≤ n ∧ jtOk j ∧ Fits n p j.1 r
/-- the places of the joints behind blocks, the hard ones left out -/
def placesGo : Nat → List (List Int) → List Jt → List (Nat × Jt)
  | at_, b :: bs, j :: js => if j = (0, 0) then placesGo (at_ + b.length) bs js else (at_ + b.length, j) :: placesGo (at_ + b.length) bs js
  | _, _, _ => []
def unfB (bls : List (List Int)) (js : List Jt) : List Int := chg bls.flatten (placesGo 0 bls js)
/-! records -/
structure Hd where
  len : Nat
  jt : Jt
  lev : Nat
  step : Nat
def hdOk (h : Hd) : Prop := 1 ≤ h.len ∧ h.len ≤ 64 ∧ jtOk h.jt ∧ h.lev ≤ 5 ∧ 1 ≤ h.step ∧ h.step ≤ 64
inductive Rc where
  | st (t : Tbs)
  | fr (h : Hd) (ns : List Int) (t : Tbs)
def coarse (h : Hd) : Nat := hv h.len h.lev
def Rc.ok : Rc → Prop
  | .st t => tbsOk t
  | .fr h ns t => hdOk h ∧ ns.length = h.len ∧ numsOk ns ∧ tbsOk t
def Rc.isSt : Rc → Bool
  | .st _ => true
  | .fr _ _ _ => false
/-- the tables behind a record -/
def Rc.next : Rc → Tbs
  | .st t => t
  | .fr h ns t => (written ns (coarse h) t).2
def start0 : Tbs := ((2, 1), (2, 1))
/-- the records are a stream's -/
def Good : Tbs → Jt → List Rc → Prop
  | _, left, [] => left = (0, 0)
  | _, left, .st t :: r => (Rc.st t).ok ∧ Good t left r
  | cur, left, .fr h ns t :: r => (Rc.fr h ns t).ok ∧ t = cur ∧ left.1 + h.jt.1 ≤ h.len ∧ Good (Rc.fr h ns t).next h.jt r
structure Ix where
  rc : Nat
  start : Nat
  len : Nat
  left : Jt
  right : Jt
  lev : Nat
  step : Nat
  org : Nat
/-- the index: place of the record, samples so far, joint on the left, origin -/
def ixGo : Nat → Nat → Jt → Nat → List Rc → List Ix
  | _, _, _, _, [] => []
  | at_, st0, left, _, .st _ :: r => ixGo (at_ + 1) st0 left at_ r
  | at_, st0, left, org, .fr h _ _ :: r => ⟨at_, st0, h.len, left, h.jt, h.lev, h.step, org⟩ :: ixGo (at_ + 1) (st0 + h.len) h.jt org r
def ixs (rs : List Rc) : List Ix := ixGo 0 0 (0, 0) 0 rs
def blockOf (h : Hd) (ns : List Int) : List Int := joinL (ns.map fun n => n * (h.step : Int)) h.lev
def blocksOf : List Rc → List (List Int)
  | [] => []
  | .st _ :: r => blocksOf r
  | .fr h ns _ :: r => blockOf h ns :: blocksOf r
def jointsOf : List Rc → List Jt
  | [] => []
  | .st _ :: r => jointsOf r
  | .fr h _ _ :: r => h.jt :: jointsOf r
def soundOf (rs : List Rc) : List Int := unfB (blocksOf rs) (jointsOf rs)
/-- frame i cannot be read where record L is lost -/
def Ix.gone (L : Nat) (x : Ix) : Bool := decide (x.org ≤ L ∧ L ≤ x.rc)
def unreadL (ix : List Ix) (L : Nat) : List Nat := (List.range ix.length).filter fun f => match ix[f]? with
  | some x => x.gone L
  | none => false
/-- the blocks with silence -/
def quietGo (L : Nat) : List Ix → List (List Int) → List (List Int)
  | x :: ix, b :: bs => (if x.gone L then List.replicate x.len 0 else b) :: quietGo L ix bs
  | _, _ => []
def quiet (rs : List Rc) (L : Nat) : List Int := unfB (quietGo L (ixs rs) (blocksOf rs)) (jointsOf rs)
/-! ### lemmas: parameter -/
theorem par_start {t : Tb} (h : tbOk t) : t.1 ≤ t.2 * 2 ^ 17 := by
  obtain ⟨_, _, h3⟩ := h
  omega
theorem par_more {tot pr m : Nat} (h : pr < tot) (e : tot ≤ pr * 2 ^ m) : ∃ m', m = m' + 1 := by
  cases m with
  | zero => rw [Nat.pow_zero, Nat.mul_one] at e; omega
  | succ m => exact ⟨m, rfl⟩
theorem par_step {tot pr m k p : Nat} (h : pr < tot) (e : p = k + parGo (m + 1) tot pr) : p = k + 1 + parGo m tot (2 * pr) := by
  rw [parGo, if_pos h] at e
  omega
theorem par_twice {tot pr m : Nat} (e : tot ≤ pr * 2 ^ (m + 1)) : tot ≤ 2 * pr * 2 ^ m := by
  rw [Nat.pow_succ] at e
  rw [Nat.mul_comm 2 pr, Nat.mul_assoc, Nat.mul_comm 2]
  exact e
theorem par_end {tot pr m : Nat} (h : ¬ pr < tot) : parGo m tot pr = 0 := by
  cases m with
  | zero => rfl
  | succ m => rw [parGo, if_neg h]
/-! ### the frozen part G of the heap H, growing; M: what may have been written -/
structure Grow (M : List Addr) (G H G' H' : Hp) : Prop where
  gg : Same G G'
  hh : ∀ b o, b ∉ M → H b = some o → H' b = some o
  gh : Same G' H'
  nw : ∀ b, H b ≠ none → G b = none → G' b = none
  up : ∀ b, H b ≠ none → H' b ≠ none
def RetD (M : List Addr) (G H : Hp) (Q : VK) (Post : Hp → Hp → V → Prop) : Prop := ∀ G' H' v, Grow M G H G' H' → Post G' H' v → Q v H'
section
variable {M : List Addr} {G H G' H' G2 H2 : Hp} {a : Addr} {o : HO}
theorem sm_up {H H' : Hp} (e : Same H H') (b : Addr) (n : H b ≠ none) : H' b ≠ none := by
  cases q : H b with
  | none => exact absurd q n
  | some o => rw [e b o q]; exact fun z => nomatch z
theorem Grow.refl (g : Same G H) : Grow M G H G H := ⟨Same.refl _, fun _ _ _ h => h, g, fun _ _ h => h, fun _ h => h⟩
theorem Grow.pure (g : Same G H) (s : Same H H') : Grow M G H G H' := ⟨Same.refl _, fun b o _ h => s b o h, g.trans s, fun _ _ h => h, fun b h => sm_up s b h⟩
theorem Grow.trans (x : Grow M G H G' H') (y : Grow M G' H' G2 H2) : Grow M G H G2 H2 :=
  ⟨x.gg.trans y.gg, fun b o n h => y.hh b o n (x.hh b o n h), y.gh, fun b n h => y.nw b (x.up b n) (x.nw b n h), fun b n => y.up b (x.up b n)⟩
theorem Grow.mono {M' : List Addr} (x : Grow M G H G' H') (s : ∀ b ∈ M, b ∈ M') : Grow M' G H G' H' := ⟨x.gg, fun b o n h => x.hh b o (fun z => n (s b z)) h, x.gh, x.nw, x.up⟩
theorem Grow.hs (x : Grow [] G H G' H') : Same H H' := fun b o h => x.hh b o (by simp) h
theorem same_upd2 (g : Same G H) (n : H a = none) : Same (upd G a o) (upd H a o) := fun b u e => by
  by_cases h : b = a
  · rw [h, upd_same] at e ⊢; exact e
  · rw [upd_ne h] at e ⊢; exact g b u e
/-- a new object, frozen at once -/
theorem Grow.alloc (g : Same G H) (n : H a = none) : Grow M G H (upd G a o) (upd H a o) := by
  have nG : G a = none := g.free n
  refine ⟨same_new nG, fun b u _ e => same_new n b u e, same_upd2 g n, fun b hb e => ?_, fun b hb => sm_up (same_new n) b hb⟩
  rw [upd_ne (fun z => hb (by rw [z]; exact n))]
  exact e
/-- a thing that may be written is written -/
theorem Grow.mut (x : Grow M G H G' H') (n : H a = none) (nG : G' a = none) : Grow M G H G' (upd H' a o) :=
  ⟨x.gg, fun b u m e => by rw [upd_ne (ne_of_none e n)]; exact x.hh b u m e, fun b u e => by rw [upd_ne (ne_of_none e nG)]; exact x.gh b u e, x.nw, fun b hb => by
    by_cases h : b = a
    · rw [h, upd_same]; exact fun z => nomatch z
    · rw [upd_ne h]; exact x.up b hb⟩
theorem Grow.mutM (x : Grow M G H G' H') (m : a ∈ M) (nG : G' a = none) : Grow M G H G' (upd H' a o) :=
  ⟨x.gg, fun b u mb e => by rw [upd_ne (fun z => mb (by rw [z]; exact m))]; exact x.hh b u mb e, fun b u e => by rw [upd_ne (ne_of_none e nG)]; exact x.gh b u e, x.nw, fun b hb => by
    by_cases h : b = a
    · rw [h, upd_same]; exact fun z => nomatch z
    · rw [upd_ne h]; exact x.up b hb⟩
/-- .. is frozen -/
theorem Grow.freeze (x : Grow M G H G' H') (n : H a = none) (nG : G' a = none) (e : H' a = some o) : Grow M G H (upd G' a o) H' :=
  ⟨x.gg.trans (same_new nG), x.hh, fun b u q => by
    by_cases h : b = a
    · rw [h, upd_same] at q; rw [h, e]; exact q
    · rw [upd_ne h] at q; exact x.gh b u q, fun b hb q => by rw [upd_ne (fun z => hb (by rw [z]; exact n))]; exact x.nw b hb q, x.up⟩
/-- forgetting writes to what is new -/
theorem Grow.strip {M' : List Addr} (x : Grow M' G H G' H') (s : ∀ b ∈ M', b ∈ M ∨ H b = none) : Grow M G H G' H' :=
  ⟨x.gg, fun b u n e => x.hh b u (fun z => (s b z).elim n (fun q => by rw [q] at e; cases e)) e, x.gh, x.nw, x.up⟩
end
/-! ### data -/
structure All2 {α : Type} (R : V → α → Prop) (vs : List V) (ds : List α) : Prop where
  len : vs.length = ds.length
  at_ : ∀ (i : Nat) (d : α), ds[i]? = some d → ∃ v, vs[i]? = some v ∧ R v d
section
variable {α : Type} {R R' : V → α → Prop} {vs : List V} {ds : List α}
theorem All2.nil : All2 R [] ([] : List α) := ⟨rfl, fun i d h => by simp at h⟩
theorem All2.imp (x : All2 R vs ds) (h : ∀ v d, R v d → R' v d) : All2 R' vs ds := ⟨x.len, fun i d e => (x.at_ i d e).imp fun v q => ⟨q.1, h v d q.2⟩⟩
theorem All2.get (x : All2 R vs ds) {i : Nat} {v : V} (h : vs[i]? = some v) : ∃ d, ds[i]? = some d ∧ R v d := by
  have hi : i < ds.length := by rw [← x.len]; exact (List.getElem?_eq_some_iff.mp h).1
  obtain ⟨u, e, r⟩ := x.at_ i _ (List.getElem?_eq_getElem hi)
  rw [h] at e
  cases e
  exact ⟨_, List.getElem?_eq_getElem hi, r⟩
theorem All2.snoc {v : V} {d : α} (x : All2 R vs ds) (h : R v d) : All2 R (vs ++ [v]) (ds ++ [d]) := by
  refine ⟨by rw [List.length_append, List.length_append, x.len]; rfl, fun i e q => ?_⟩
  by_cases hi : i < ds.length
  · rw [List.getElem?_append_left hi] at q
    obtain ⟨u, a, b⟩ := x.at_ i e q
    exact ⟨u, by rw [List.getElem?_append_left (by rw [x.len]; exact hi)]; exact a, b⟩
  · have hl : i = ds.length := by
      have := (List.getElem?_eq_some_iff.mp q).1
      rw [List.length_append, List.length_singleton] at this
      omega
    subst hl
    rw [List.getElem?_append_right (Nat.le_refl _), Nat.sub_self] at q
    have e1 : d = e := Option.some.inj q
    subst e1
    exact ⟨v, by rw [← x.len, List.getElem?_append_right (Nat.le_refl _), Nat.sub_self]; rfl, h⟩
theorem All2.take {i : Nat} {v : V} {d : α} (x : All2 R (vs.take i) (ds.take i)) (hv : vs[i]? = some v) (hd : ds[i]? = some d) (h : R v d) : All2 R (vs.take (i + 1)) (ds.take (i + 1)) := by
  rw [List.take_add_one, List.take_add_one, hv, hd]
  exact x.snoc h
end
def cI (ns : List Nat) : List Int := ns.map fun n : Nat => (n : Int)
theorem cI_get {ns : List Nat} {i : Nat} {y : Int} (h : (cI ns)[i]? = some y) : ∃ n, ns[i]? = some n ∧ y = (n : Int) := by
  unfold cI at h
  rw [List.getElem?_map] at h
  cases e : ns[i]? with
  | none => rw [e] at h; cases h
  | some n => rw [e] at h; exact ⟨n, rfl, (Option.some.inj h).symm⟩
theorem cI_len (ns : List Nat) : (cI ns).length = ns.length := List.length_map _
def Li (G : Hp) (v : V) (xs : List Int) : Prop := ∃ b, v = .ref b ∧ G b = some (.lst (xs.map V.int))
def Ls {α : Type} (G : Hp) (R : V → α → Prop) (v : V) (ds : List α) : Prop := ∃ b vs, v = .ref b ∧ G b = some (.lst vs) ∧ All2 R vs ds
section
variable (K : PySem.W.Frag)
def Pr (G : Hp) (v : V) (i j : Int) : Prop := ∃ a, v = .ref a ∧ SqT K G a [.int i, .int j]
def JtV (G : Hp) (v : V) (j : Jt) : Prop := Pr K G v j.1 j.2
def TbV (G : Hp) (v : V) (t : Tb) : Prop := Pr K G v t.1 t.2
def TbsV (G : Hp) (v : V) (t : Tbs) : Prop := ∃ a v1 v2, v = .ref a ∧ SqT K G a [v1, v2] ∧ TbV K G v1 t.1 ∧ TbV K G v2 t.2
def RcV (G : Hp) (v : V) : Rc → Prop
  | .st t => ∃ a u, v = .ref a ∧ SqT K G a [.str "state", u] ∧ TbsV K G u t
  | .fr h ns t => ∃ a u, v = .ref a ∧ SqT K G a [.str "frame", .int h.len, u, .int h.lev, .int h.step, .int (markN ns), .str (tx (written ns (coarse h) t).1)] ∧ JtV K G u h.jt
def HdV (G : Hp) (v : V) (h : Hd) : Prop := ∃ a u, v = .ref a ∧ SqT K G a [.int h.len, u, .int h.lev, .int h.step] ∧ JtV K G u h.jt
def IxV (G : Hp) (v : V) (x : Ix) : Prop := ∃ a u w, v = .ref a ∧ SqT K G a [.int x.rc, .int x.start, .int x.len, u, w, .int x.lev, .int x.step, .int x.org] ∧ JtV K G u x.left ∧ JtV K G w x.right
def RwV (G : Hp) (v : V) (x : Ix) : Prop := ∃ a u w, v = .ref a ∧ SqT K G a [.int x.rc, .int x.start, .int x.len, u, w] ∧ JtV K G u x.left ∧ JtV K G w x.right
def RdV (G : Hp) (v : V) (ns : List Int) (t : Tbs) : Prop := ∃ a b u, v = .ref a ∧ SqT K G a [.ref b, u] ∧ G b = some (.lst (ns.map V.int)) ∧ TbsV K G u t
def ReV (G : Hp) (v : V) (ns : List Int) : Prop := ∃ a b u w, v = .ref a ∧ SqT K G a [.ref b, u, w] ∧ G b = some (.lst (ns.map V.int))
def PlV (G : Hp) (v : V) (p : Nat × Jt) : Prop := ∃ a u, v = .ref a ∧ SqT K G a [.int p.1, u] ∧ JtV K G u p.2
abbrev clsS : Addr := He.ga K "Stream"
def StV (G : Hp) (v : V) (rs : List Rc) : Prop := ∃ x dx r w e b s, v = .ref x ∧ G x = some (.ins (clsS K) dx [("own_records", .ref r), ("rows", .ref w), ("read", .ref e), ("blocks", .ref b), ("own_sound", .ref s)]) ∧
  Ls G (RcV K G) (.ref r) rs ∧ Ls G (RwV K G) (.ref w) (ixs rs) ∧ G s = some (.lst ((soundOf rs).map V.int))
end
section
variable {K : PySem.W.Frag} {G G' : Hp} (e : Same G G') {v : V}
include e
theorem Li.mono {xs : List Int} (h : Li G v xs) : Li G' v xs := by obtain ⟨b, q, r⟩ := h; exact ⟨b, q, e _ _ r⟩
theorem Ls.mono {α : Type} {R R' : V → α → Prop} {ds : List α} (h : Ls G R v ds) (k : ∀ v d, R v d → R' v d) : Ls G' R' v ds := by obtain ⟨b, vs, q, r, s⟩ := h; exact ⟨b, vs, q, e _ _ r, s.imp k⟩
theorem Pr.mono {i j : Int} (h : Pr K G v i j) : Pr K G' v i j := by obtain ⟨a, q, r⟩ := h; exact ⟨a, q, sm_tup e r⟩
theorem JtV.mono {j : Jt} (h : JtV K G v j) : JtV K G' v j := Pr.mono e h
theorem TbV.mono {j : Tb} (h : TbV K G v j) : TbV K G' v j := Pr.mono e h
theorem TbsV.mono {t : Tbs} (h : TbsV K G v t) : TbsV K G' v t := by obtain ⟨a, v1, v2, q, r, s, u⟩ := h; exact ⟨a, v1, v2, q, sm_tup e r, TbV.mono e s, TbV.mono e u⟩
theorem RcV.mono {r : Rc} (h : RcV K G v r) : RcV K G' v r := by
  cases r with
  | st t => obtain ⟨a, u, q, r, s⟩ := h; exact ⟨a, u, q, sm_tup e r, TbsV.mono e s⟩
  | fr h' ns t => obtain ⟨a, u, q, r, s⟩ := h; exact ⟨a, u, q, sm_tup e r, JtV.mono e s⟩
theorem HdV.mono {h : Hd} (x : HdV K G v h) : HdV K G' v h := by obtain ⟨a, u, q, r, s⟩ := x; exact ⟨a, u, q, sm_tup e r, JtV.mono e s⟩
theorem IxV.mono {x : Ix} (h : IxV K G v x) : IxV K G' v x := by obtain ⟨a, u, w, q, r, s, t⟩ := h; exact ⟨a, u, w, q, sm_tup e r, JtV.mono e s, JtV.mono e t⟩
theorem RwV.mono {x : Ix} (h : RwV K G v x) : RwV K G' v x := by obtain ⟨a, u, w, q, r, s, t⟩ := h; exact ⟨a, u, w, q, sm_tup e r, JtV.mono e s, JtV.mono e t⟩
theorem RdV.mono {ns : List Int} {t : Tbs} (h : RdV K G v ns t) : RdV K G' v ns t := by obtain ⟨a, b, u, q, r, s, z⟩ := h; exact ⟨a, b, u, q, sm_tup e r, e _ _ s, TbsV.mono e z⟩
theorem ReV.mono {ns : List Int} (h : ReV K G v ns) : ReV K G' v ns := by obtain ⟨a, b, u, w, q, r, s⟩ := h; exact ⟨a, b, u, w, q, sm_tup e r, e _ _ s⟩
theorem PlV.mono {p : Nat × Jt} (h : PlV K G v p) : PlV K G' v p := by obtain ⟨a, u, q, r, s⟩ := h; exact ⟨a, u, q, sm_tup e r, JtV.mono e s⟩
theorem LsI.mono {ds : List (List Int)} (h : Ls G (Li G) v ds) : Ls G' (Li G') v ds := Ls.mono e h fun _ _ q => Li.mono e q
theorem LsR.mono {ds : List Rc} (h : Ls G (RcV K G) v ds) : Ls G' (RcV K G') v ds := Ls.mono e h fun _ _ q => RcV.mono e q
theorem LsX.mono {ds : List Ix} (h : Ls G (IxV K G) v ds) : Ls G' (IxV K G') v ds := Ls.mono e h fun _ _ q => IxV.mono e q
theorem LsJ.mono {ds : List Jt} (h : Ls G (JtV K G) v ds) : Ls G' (JtV K G') v ds := Ls.mono e h fun _ _ q => JtV.mono e q
theorem LsP.mono {ds : List (Nat × Jt)} (h : Ls G (PlV K G) v ds) : Ls G' (PlV K G') v ds := Ls.mono e h fun _ _ q => PlV.mono e q
theorem LsH.mono {ds : List Hd} (h : Ls G (HdV K G) v ds) : Ls G' (HdV K G') v ds := Ls.mono e h fun _ _ q => HdV.mono e q
theorem StV.mono {rs : List Rc} (h : StV K G v rs) : StV K G' v rs := by
  obtain ⟨x, dx, r, w, e', b, s, q, q1, q2, q3, q4⟩ := h
  exact ⟨x, dx, r, w, e', b, s, q, e _ _ q1, LsR.mono e q2, Ls.mono e q3 fun _ _ z => RwV.mono e z, e _ _ q4⟩
end
/-! ### promises -/
def sp_is_integer_folds (K : PySem.W.Frag) : Sp := fun vs H Q _ => ∃ i : Int, vs = [.int i] ∧ Q (.bl true) H
def sp_is_integer_streams (K : PySem.W.Frag) : Sp := fun vs H Q _ => ∃ i : Int, vs = [.int i] ∧ Q (.bl true) H
def sp_is_shape (K : PySem.W.Frag) : Sp := fun vs H Q _ => ∃ i : Nat, vs = [.int i] ∧ i < 4 ∧ Q (.bl true) H
def sp_is_joint (K : PySem.W.Frag) : Sp := fun vs H Q _ => ∃ v j, vs = [v] ∧ JtV K H v j ∧ jtOk j ∧ Q (.bl true) H
def sp_unfold (K : PySem.W.Frag) : Sp := fun vs H Q _ => ∃ (G : Hp) (sh : Nat) (a b : Int), vs = [.int sh, .int a, .int b] ∧ Same G H ∧ sh < 4 ∧ RetD [] G H Q fun G' _ v => Pr K G' v (unfS sh a b).1 (unfS sh a b).2
def sp_require_values (K : PySem.W.Frag) : Sp := fun vs H Q _ => ∃ v xs, vs = [v] ∧ Li H v xs ∧ ∀ H', Same H H' → Q .non H'
def sp_is_placed (K : PySem.W.Frag) : Sp := fun vs H Q _ => ∃ v p, vs = [v] ∧ PlV K H v p ∧ jtOk p.2 ∧ Q (.bl true) H
def sp_require_joints (K : PySem.W.Frag) : Sp := fun vs H Q _ => ∃ (v : V) (n : Nat) (ps : List (Nat × Jt)), vs = [v, .int n] ∧ Ls H (PlV K H) v ps ∧ Fits n 0 0 ps ∧ ∀ H', Same H H' → Q .non H'
def sp_changed_pairs (K : PySem.W.Frag) : Sp := fun vs H Q _ => ∃ (G : Hp) (v1 v2 : V) (xs : List Int) (ps : List (Nat × Jt)), vs = [v1, v2, .ref (He.ga K "unfold")] ∧ Same G H ∧ Li G v1 xs ∧ Ls G (PlV K G) v2 ps ∧ Fits xs.length 0 0 ps ∧
  RetD [] G H Q fun G' _ v => Li G' v (chg xs ps)
def sp_unfolded (K : PySem.W.Frag) : Sp := fun vs H Q _ => ∃ (G : Hp) (v1 v2 : V) (xs : List Int) (ps : List (Nat × Jt)), vs = [v1, v2] ∧ Same G H ∧ Li G v1 xs ∧ Ls G (PlV K G) v2 ps ∧ Fits xs.length 0 0 ps ∧
  RetD [] G H Q fun G' _ v => Li G' v (chg xs ps)
def sp_require_between (K : PySem.W.Frag) : Sp := fun vs H Q _ => ∃ v lo hi : Int, vs = [.int v, .int lo, .int hi] ∧ lo ≤ v ∧ v ≤ hi ∧ Q .non H
def sp_require_list (K : PySem.W.Frag) : Sp := fun vs H Q _ => ∃ v xs, vs = [v] ∧ Li H v xs ∧ 1 ≤ xs.length ∧ xs.length ≤ 64 ∧ ∀ H', Same H H' → Q .non H'
def sp_sum_counts (K : PySem.W.Frag) : Sp := fun vs H Q _ => ∃ (G : Hp) (n lev : Nat), vs = [.int n, .int lev] ∧ Same G H ∧ lev ≤ 5 ∧ RetD [] G H Q fun G' _ v => Li G' v (cI (countsL n lev))
def sp_join_levels (K : PySem.W.Frag) : Sp := fun vs H Q _ => ∃ (G : Hp) (v : V) (xs : List Int) (lev : Nat), vs = [v, .int lev] ∧ Same G H ∧ Li G v xs ∧ 1 ≤ xs.length ∧ xs.length ≤ 64 ∧ lev ≤ 5 ∧ RetD [] G H Q fun G' _ v => Li G' v (joinL xs lev)
def sp_coarse_count (K : PySem.W.Frag) : Sp := fun vs H Q _ => ∃ n lev : Nat, vs = [.int n, .int lev] ∧ 1 ≤ n ∧ n ≤ 64 ∧ lev ≤ 5 ∧ ∀ H', Same H H' → Q (.int (hv n lev)) H'
def sp_is_table (K : PySem.W.Frag) : Sp := fun vs H Q _ => ∃ v t, vs = [v] ∧ TbV K H v t ∧ tbOk t ∧ Q (.bl true) H
def sp_is_tables (K : PySem.W.Frag) : Sp := fun vs H Q _ => ∃ v t, vs = [v] ∧ TbsV K H v t ∧ tbsOk t ∧ Q (.bl true) H
def sp_parameter (K : PySem.W.Frag) : Sp := fun vs H Q _ => ∃ v t, vs = [v] ∧ TbV K H v t ∧ tbOk t ∧ Q (.int (par t)) H
def sp_table_behind (K : PySem.W.Frag) : Sp := fun vs H Q _ => ∃ (G : Hp) (v : V) (t : Tb) (u : Nat), vs = [v, .int u] ∧ Same G H ∧ TbV K G v t ∧ RetD [] G H Q fun G' _ v => TbV K G' v (behind t u)
def sp_code_number (K : PySem.W.Frag) : Sp := fun vs H Q _ => ∃ n : Int, vs = [.int n] ∧ Q (.int (codeN n)) H
def sp_number_of (K : PySem.W.Frag) : Sp := fun vs H Q _ => ∃ u : Nat, vs = [.int u] ∧ Q (.int (numN u)) H
def sp_ones_at (K : PySem.W.Frag) : Sp := fun vs H Q _ => ∃ (l : List Bool) (at_ m : Nat), vs = [.str (tx l), .int at_, .int m] ∧ l.length ≤ 100000 ∧ Q (.int (min m (onesB (l.drop at_)) : Nat)) H
def sp_read_code (K : PySem.W.Frag) : Sp := fun vs H Q _ => ∃ (G : Hp) (l rest : List Bool) (at_ u k : Nat), vs = [.str (tx l), .int at_, .int k] ∧ Same G H ∧ l.length ≤ 100000 ∧ l.drop at_ = code u k ++ rest ∧ k ≤ 16 ∧ u ≤ 60001 ∧
  RetD [] G H Q fun G' _ v => Pr K G' v u (at_ + (code u k).length : Nat)
def sp_require_numbers (K : PySem.W.Frag) : Sp := fun vs H Q _ => ∃ v xs, vs = [v] ∧ Li H v xs ∧ xs.length ≤ 64 ∧ ∀ H', Same H H' → Q .non H'
def sp_require_coarse (K : PySem.W.Frag) : Sp := fun vs H Q _ => ∃ c n : Nat, vs = [.int c, .int n] ∧ c ≤ n ∧ Q .non H
def sp_read_numbers (K : PySem.W.Frag) : Sp := fun vs H Q _ => ∃ (G : Hp) (ns : List Int) (c : Nat) (t : Tbs) (tv : V), vs = [.str (tx (written ns c t).1), .int ns.length, .int c, tv] ∧ Same G H ∧ ns.length ≤ 64 ∧ c ≤ ns.length ∧ numsOk ns ∧ tbsOk t ∧ TbsV K G tv t ∧
  RetD [] G H Q fun G' _ v => RdV K G' v ns (written ns c t).2
def sp_mark_of (K : PySem.W.Frag) : Sp := fun vs H Q _ => ∃ v ns, vs = [v] ∧ Li H v ns ∧ ns.length ≤ 64 ∧ ∀ H', Same H H' → Q (.int (markN ns)) H'
def sp_is_between (K : PySem.W.Frag) : Sp := fun vs H Q _ => ∃ v lo hi : Int, vs = [.int v, .int lo, .int hi] ∧ lo ≤ v ∧ v ≤ hi ∧ Q (.bl true) H
def sp_is_row (K : PySem.W.Frag) : Sp := fun vs H Q _ => ∃ a xs, vs = [.ref a] ∧ H a = some (.lst xs) ∧ ∀ H', Same H H' → Q (.bl true) H'
def sp_is_frame (K : PySem.W.Frag) : Sp := fun vs H Q _ => ∃ v h ns t, vs = [v] ∧ RcV K H v (.fr h ns t) ∧ (Rc.fr h ns t).ok ∧ ∀ H', Same H H' → Q (.bl true) H'
def sp_is_record (K : PySem.W.Frag) : Sp := fun vs H Q _ => ∃ v r, vs = [v] ∧ RcV K H v r ∧ r.ok ∧ ∀ H', Same H H' → Q (.bl true) H'
def sp_frame_numbers (K : PySem.W.Frag) : Sp := fun vs H Q _ => ∃ (G : Hp) (v tv : V) (h : Hd) (ns : List Int) (t : Tbs), vs = [v, tv] ∧ Same G H ∧ RcV K G v (.fr h ns t) ∧ (Rc.fr h ns t).ok ∧ TbsV K G tv t ∧ RetD [] G H Q fun G' _ v => RdV K G' v ns (Rc.fr h ns t).next
def sp_block_values (K : PySem.W.Frag) : Sp := fun vs H Q _ => ∃ (G : Hp) (v nv : V) (h : Hd) (ns : List Int) (t : Tbs), vs = [v, nv] ∧ Same G H ∧ RcV K G v (.fr h ns t) ∧ (Rc.fr h ns t).ok ∧ Li G nv ns ∧ RetD [] G H Q fun G' _ v => Li G' v (blockOf h ns)
def sp_unfold_blocks (K : PySem.W.Frag) : Sp := fun vs H Q _ => ∃ (G : Hp) (bv jv : V) (bls : List (List Int)) (js : List Jt), vs = [bv, jv] ∧ Same G H ∧ Ls G (Li G) bv bls ∧ Ls G (JtV K G) jv js ∧ bls.length = js.length ∧ bls.length ≤ 1000 ∧ bls.flatten.length ≤ 100000 ∧
  Fits bls.flatten.length 0 0 (placesGo 0 bls js) ∧ RetD [] G H Q fun G' _ v => Li G' v (unfB bls js)
def sp_Stream_init (K : PySem.W.Frag) : Sp := fun vs H Q _ => ∃ (G H0 : Hp) (x dx : Addr) (v : V) (rs : List Rc), vs = [.ref x, v] ∧ H = upd (upd H0 dx (.own x)) x (.ins (clsS K) dx []) ∧ H0 x = none ∧ H0 dx = none ∧ dx ≠ x ∧ Same G H0 ∧ Ls G (RcV K G) v rs ∧ Good start0 (0, 0) rs ∧ rs.length ≤ 100 ∧
  ∀ G' H', Grow [] G H0 G' H' → StV K G' (.ref x) rs → Q .non H'
def sp_Stream_load (K : PySem.W.Frag) : Sp := fun vs H Q _ => ∃ (G : Hp) (x dx r w e : Addr) (rs : List Rc), vs = [.ref x] ∧ Same G H ∧ H x = some (.ins (clsS K) dx [("own_records", .ref r), ("rows", .ref w), ("read", .ref e)]) ∧ H w = some (.lst []) ∧ H e = some (.lst []) ∧ G w = none ∧ G e = none ∧ w ≠ e ∧
  Ls G (RcV K G) (.ref r) rs ∧ Good start0 (0, 0) rs ∧ rs.length ≤ 100 ∧ ∀ G' H' vw ve, Grow [w, e] G H G' H' → H' w = some (.lst vw) → All2 (RwV K G') vw (ixs rs) → H' e = some (.lst ve) → All2 (ReV K G') ve (rs.filterMap fun | .st _ => none | .fr _ ns _ => some ns) → Q .non H'
def sp_Stream_records (K : PySem.W.Frag) : Sp := fun vs H Q _ => ∃ a dx fs r xs, vs = [.ref a] ∧ H a = some (.ins (clsS K) dx fs) ∧ fs.lookup ("own_records" : Str) = some (.ref r) ∧ H r = some (.lst xs) ∧ ∀ p, H p = none → Q (.ref p) (upd H p (.lst xs))
def sp_Stream_sound (K : PySem.W.Frag) : Sp := fun vs H Q _ => ∃ a dx fs r xs, vs = [.ref a] ∧ H a = some (.ins (clsS K) dx fs) ∧ fs.lookup ("own_sound" : Str) = some (.ref r) ∧ H r = some (.lst xs) ∧ ∀ p, H p = none → Q (.ref p) (upd H p (.lst xs))
def sp_Stream_require_frame (K : PySem.W.Frag) : Sp := fun vs H Q _ => ∃ (a dx : Addr) (fs : List (Str × V)) (r : Addr) (xs : List V) (i : Nat), vs = [.ref a, .int i] ∧ H a = some (.ins (clsS K) dx fs) ∧ fs.lookup ("rows" : Str) = some (.ref r) ∧ H r = some (.lst xs) ∧ i < xs.length ∧ Q .non H
def sp_Stream_block (K : PySem.W.Frag) : Sp := fun vs H Q _ => ∃ (a dx : Addr) (fs : List (Str × V)) (r : Addr) (xs : List V) (i : Nat) (u : V), vs = [.ref a, .int i] ∧ H a = some (.ins (clsS K) dx fs) ∧ fs.lookup ("rows" : Str) = some (.ref r) ∧ fs.lookup ("require_frame" : Str) = none ∧ H r = some (.lst xs) ∧ xs[i]? = some u ∧ Q u H
def sp_index_of (K : PySem.W.Frag) : Sp := fun vs H Q _ => ∃ (G : Hp) (v : V) (rs : List Rc), vs = [v] ∧ Same G H ∧ StV K G v rs ∧ Good start0 (0, 0) rs ∧ rs.length ≤ 100 ∧ RetD [] G H Q fun G' _ v => Ls G' (IxV K G') v (ixs rs)
def lastN (l : List Nat) : Nat := l.getD (l.length - 1) 0
def runFrom (found : List Nat) (x : Ix) : Nat := if found ≠ [] ∧ x.org ≤ lastN found then lastN found + 1 else x.org
def recsGo (ix : List Ix) : List Nat → List Nat → List Nat
  | found, [] => found
  | found, f :: fs => match ix[f]? with
    | some x => recsGo ix (found ++ (List.range (x.rc + 1 - runFrom found x)).map (· + runFrom found x)) fs
    | none => recsGo ix found fs
def recsOf (ix : List Ix) (fs : List Nat) : List Nat := recsGo ix [] fs
def sp_records_of (K : PySem.W.Frag) : Sp := fun vs H Q _ => ∃ (G : Hp) (v fv : V) (ix : List Ix) (fs : List Nat), vs = [v, fv] ∧ Same G H ∧ Ls G (IxV K G) v ix ∧ Li G fv (cI fs) ∧ (∀ f ∈ fs, f < ix.length) ∧ fs.length ≤ 100 ∧ (∀ x ∈ ix, x.rc ≤ 100 ∧ x.org ≤ 100) ∧ RetD [] G H Q fun G' _ v => Li G' v (cI (recsOf ix fs))
def sp_read_frame (K : PySem.W.Frag) : Sp := fun vs H Q _ => ∃ (G : Hp) (rv v tv : V) (x : Ix) (h : Hd) (ns : List Int) (t : Tbs), vs = [rv, v, tv] ∧ Same G H ∧ IxV K G rv x ∧ RcV K G v (.fr h ns t) ∧ (Rc.fr h ns t).ok ∧ x.len = h.len ∧ x.right = h.jt ∧ x.lev = h.lev ∧ x.step = h.step ∧ TbsV K G tv t ∧
  RetD [] G H Q fun G' _ v => RdV K G' v ns (Rc.fr h ns t).next
def sp_is_state (K : PySem.W.Frag) : Sp := fun vs H Q _ => ∃ v t, vs = [v] ∧ RcV K H v (.st t) ∧ tbsOk t ∧ ∀ H', Same H H' → Q (.bl true) H'
/-- what a fetch gives: the records rs at the places S, out of the frozen part -/
def sp_fetch (K : PySem.W.Frag) (G0 : Hp) (rs : List Rc) (S : Nat → Prop) : Sp := fun vs H Q _ => ∃ (i : Nat) (r : Rc), vs = [.int i] ∧ Same G0 H ∧ S i ∧ rs[i]? = some r ∧ ∀ v, RcV K G0 v r → Q v H
/-- the frames that can be read, the records that are fetched -/
def readL (ix : List Ix) (L : Nat) : List Nat := (List.range ix.length).filter fun f => match ix[f]? with
  | some x => !x.gone L
  | none => false
def Need (rs : List Rc) (L : Nat) (i : Nat) : Prop := i ∈ recsOf (ixs rs) (readL (ixs rs) L)
/-- the values by frames, as fetched -/
def DicV (G : Hp) (kvs : List (Key × V)) (rs : List Rc) (L : Nat) : Prop := ∀ (f : Nat) (x : Ix) (b : List Int), (ixs rs)[f]? = some x → (blocksOf rs)[f]? = some b →
  if x.gone L then valV kvs (Sum.inl (f : Int)) = none else ∃ u, valV kvs (Sum.inl (f : Int)) = some u ∧ Li G u b
def sp_fetched_values (K : PySem.W.Frag) (fa : Addr) (G0 : Hp) (rs : List Rc) (L : Nat) : Sp := fun vs H Q _ => ∃ (G : Hp) (v fv : V), vs = [v, .ref fa, fv] ∧ Same G0 G ∧ Same G H ∧ Ls G (IxV K G) v (ixs rs) ∧ Li G fv (cI (readL (ixs rs) L)) ∧ Good start0 (0, 0) rs ∧ rs.length ≤ 100 ∧
  RetD [] G H Q fun G' _ v => ∃ d kvs, v = .ref d ∧ G' d = some (.dK kvs) ∧ DicV G' kvs rs L
def sp_concealed (K : PySem.W.Frag) (fa : Addr) (G0 : Hp) (rs : List Rc) (L : Nat) : Sp := fun vs H Q _ => ∃ (G : Hp) (v lv : V), vs = [v, .ref fa, lv] ∧ Same G0 G ∧ Same G H ∧ Ls G (IxV K G) v (ixs rs) ∧ Li G lv (cI [L]) ∧ Good start0 (0, 0) rs ∧ rs.length ≤ 100 ∧
  RetD [] G H Q fun G' _ v => Li G' v (quiet rs L)
def sp_require_lost (K : PySem.W.Frag) : Sp := fun vs H Q _ => ∃ v ns, vs = [v] ∧ Li H v (cI ns) ∧ ∀ H', Same H H' → Q .non H'
def sp_unread_frames (K : PySem.W.Frag) : Sp := fun vs H Q _ => ∃ (G : Hp) (v lv : V) (ix : List Ix) (L : Nat), vs = [v, lv] ∧ Same G H ∧ Ls G (IxV K G) v ix ∧ Li G lv (cI [L]) ∧ ix.length ≤ 100 ∧ RetD [] G H Q fun G' _ v => Li G' v (cI (unreadL ix L))
def stretchOf (x : Ix) : Int × Int := ((x.start : Int) - x.left.1, (x.start : Int) + x.len + x.right.1)
def mergeS (found : List (Int × Int)) (p : Int × Int) : List (Int × Int) := match found.getLast? with
  | some q => if p.1 ≤ q.2 then found.dropLast ++ [(q.1, p.2)] else found ++ [p]
  | none => [p]
def touchedL (ix : List Ix) (L : Nat) : List (Int × Int) := (unreadL ix L).foldl (fun found f => match ix[f]? with
  | some x => mergeS found (stretchOf x)
  | none => found) []
def sp_touched (K : PySem.W.Frag) : Sp := fun vs H Q _ => ∃ (G : Hp) (v lv : V) (ix : List Ix) (L : Nat), vs = [v, lv] ∧ Same G H ∧ Ls G (IxV K G) v ix ∧ Li G lv (cI [L]) ∧ ix.length ≤ 100 ∧ RetD [] G H Q fun G' _ v => Ls G' (fun v p => Pr K G' v p.1 p.2) v (touchedL ix L)
def sp_with_silence (K : PySem.W.Frag) : Sp := fun vs H Q _ => ∃ (G : Hp) (v : V) (d : Addr) (kvs : List (Key × V)) (ix : List Ix) (bls : List (List Int)) (L : Nat), vs = [v, .ref d] ∧ Same G H ∧ Ls G (IxV K G) v ix ∧ G d = some (.dK kvs) ∧ ix.length = bls.length ∧ ix.length ≤ 100 ∧
  (∀ (f : Nat) (x : Ix) (b : List Int), ix[f]? = some x → bls[f]? = some b → x.len ≤ 64 ∧ (if x.gone L then valV kvs (Sum.inl (f : Int)) = none else ∃ u, valV kvs (Sum.inl (f : Int)) = some u ∧ Li G u b)) ∧
  (quietGo L ix bls).flatten.length ≤ 100000 ∧ Fits (quietGo L ix bls).flatten.length 0 0 (placesGo 0 (quietGo L ix bls) (ix.map (·.right))) ∧ RetD [] G H Q fun G' _ v => Li G' v (unfB (quietGo L ix bls) (ix.map (·.right)))
/-! the law's own -/
def PoolAt (H : Hp) (p : Addr) : Prop := ∃ a b : Int, H p = some (.lst [.int a, .int b]) ∧ 0 ≤ a ∧ 0 ≤ b ∧ b < 2147483647
def sp_law_pool (K : PySem.W.Frag) : Sp := fun vs H Q _ => ∃ (a : Addr) (ns : List Int) (k : Nat), vs = [.ref a, .int k] ∧ SqL K H a (ns.map V.int) ∧ k ≤ 100 ∧ ∀ p o, H p = none → PoolAt (upd H p o) p → Q (.ref p) (upd H p o)
def sp_law_take (K : PySem.W.Frag) : Sp := fun vs H Q _ => ∃ (p : Addr) (m : Nat), vs = [.ref p, .int m] ∧ PoolAt H p ∧ 1 ≤ m ∧ m ≤ 1000000 ∧ ∀ (r : Nat) (o : HO), r < m → PoolAt (upd H p o) p → Q (.int r) (upd H p o)
def sp_law_binary (K : PySem.W.Frag) : Sp := fun vs H Q _ => ∃ u : Nat, vs = [.int u] ∧ u ≤ 100000 ∧ Q (.str (tx (bin u))) H
def sp_law_parameter (K : PySem.W.Frag) : Sp := fun vs H Q _ => ∃ v t, vs = [v] ∧ TbV K H v t ∧ tbOk t ∧ Q (.int (par t)) H
def sp_law_code (K : PySem.W.Frag) : Sp := fun vs H Q _ => ∃ u k : Nat, vs = [.int u, .int k] ∧ u ≤ 60001 ∧ k ≤ 16 ∧ Q (.str (tx (code u k))) H
def sp_law_behind (K : PySem.W.Frag) : Sp := sp_table_behind K
def sp_law_u (K : PySem.W.Frag) : Sp := sp_code_number K
def sp_law_written (K : PySem.W.Frag) : Sp := fun vs H Q _ => ∃ (G : Hp) (v : V) (ns : List Int) (c : Nat) (tv : V) (t : Tbs), vs = [v, .int c, tv] ∧ Same G H ∧ Li G v ns ∧ ns.length ≤ 64 ∧ numsOk ns ∧ tbsOk t ∧ TbsV K G tv t ∧
  RetD [] G H Q fun G' _ v => ∃ a u, v = .ref a ∧ SqT K G' a [.str (tx (written ns c t).1), u] ∧ TbsV K G' u (written ns c t).2
def sp_law_mark (K : PySem.W.Frag) : Sp := fun vs H Q _ => ∃ v ns, vs = [v] ∧ Li H v ns ∧ Q (.int (markN ns)) H
def sp_law_counts (K : PySem.W.Frag) : Sp := sp_sum_counts K
def HeadsOk : Nat → List Hd → Prop
  | l, [] => l = 0
  | l, h :: r => hdOk h ∧ l + h.jt.1 ≤ h.len ∧ HeadsOk h.jt.1 r
def sp_law_heads (K : PySem.W.Frag) : Sp := fun vs H Q _ => ∃ (G : Hp) (p : Addr) (m : Nat), vs = [.ref p, .int m] ∧ Same G H ∧ G p = none ∧ PoolAt H p ∧ 1 ≤ m ∧ m ≤ 9 ∧ RetD [p] G H Q fun G' H' v => PoolAt H' p ∧ ∃ hs, hs.length = m ∧ HeadsOk 0 hs ∧ Ls G' (HdV K G') v hs
def sp_law_some (K : PySem.W.Frag) : Sp := fun vs H Q _ => ∃ (G : Hp) (p : Addr) (n : Nat), vs = [.ref p, .int n] ∧ Same G H ∧ G p = none ∧ PoolAt H p ∧ n ≤ 64 ∧ RetD [p] G H Q fun G' H' v => PoolAt H' p ∧ ∃ ns, ns.length = n ∧ numsOk ns ∧ Li G' v ns
def sp_law_frame (K : PySem.W.Frag) : Sp := fun vs H Q _ => ∃ (G : Hp) (hv nv tv : V) (h : Hd) (ns : List Int) (t : Tbs), vs = [hv, nv, tv] ∧ Same G H ∧ HdV K G hv h ∧ Li G nv ns ∧ TbsV K G tv t ∧ (Rc.fr h ns t).ok ∧
  RetD [] G H Q fun G' _ v => ∃ a rv u, v = .ref a ∧ SqT K G' a [rv, u] ∧ RcV K G' rv (.fr h ns t) ∧ TbsV K G' u (Rc.fr h ns t).next
def sp_law_tables (K : PySem.W.Frag) : Sp := fun vs H Q _ => ∃ (G : Hp) (p : Addr), vs = [.ref p] ∧ Same G H ∧ G p = none ∧ PoolAt H p ∧ RetD [p] G H Q fun G' H' v => PoolAt H' p ∧ ∃ t, tbsOk t ∧ TbsV K G' v t
def numsOf : List Rc → List (List Int)
  | [] => []
  | .st _ :: r => numsOf r
  | .fr _ ns _ :: r => ns :: numsOf r
def sp_law_stream (K : PySem.W.Frag) : Sp := fun vs H Q _ => ∃ (G : Hp) (p : Addr) (m : Nat), vs = [.ref p, .int m] ∧ Same G H ∧ G p = none ∧ PoolAt H p ∧ 1 ≤ m ∧ m ≤ 9 ∧ RetD [p] G H Q fun G' H' v => PoolAt H' p ∧ ∃ rs, Good start0 (0, 0) rs ∧ rs.length ≤ 30 ∧ (ixs rs).length = m ∧
  ∃ a r w k, v = .ref a ∧ G' a = some (.lst [.ref r, .ref w, .ref k]) ∧ Ls G' (RcV K G') (.ref r) rs ∧ Ls G' (IxV K G') (.ref w) (ixs rs) ∧ Ls G' (Li G') (.ref k) (numsOf rs)
/-- the second stream: other numbers at frame w and behind it, up to the next state record -/
def stepO (w : Nat) (s : Nat × Bool) : Rc → Nat × Bool
  | .st _ => (s.1, false)
  | .fr _ _ _ => (s.1 + 1, s.2 || decide (s.1 = w))
def aftO (w : Nat) (rs : List Rc) : Nat × Bool := rs.foldl (stepO w) (0, false)
def OthR (w : Nat) (s : Nat × Bool) : Rc → Rc → Prop
  | .st t, .st t' => t' = t
  | .fr h ns _, .fr h' ns' _ => h' = h ∧ (s.1 ≠ w → s.2 = false → ns' = ns)
  | _, _ => False
def Oth (w : Nat) (rs rs' : List Rc) : Prop := rs'.length = rs.length ∧ ∀ (i : Nat) (r r' : Rc), rs[i]? = some r → rs'[i]? = some r' → OthR w (aftO w (rs.take i)) r r'
def sp_law_other (K : PySem.W.Frag) : Sp := fun vs H Q _ => ∃ (G : Hp) (p : Addr) (rv xv kv : V) (rs : List Rc) (wh : Nat), vs = [.ref p, rv, xv, kv, .int wh, .bl true] ∧ Same G H ∧ G p = none ∧ PoolAt H p ∧ Good start0 (0, 0) rs ∧ rs.length ≤ 30 ∧
  Ls G (RcV K G) rv rs ∧ Ls G (IxV K G) xv (ixs rs) ∧ Ls G (Li G) kv (numsOf rs) ∧ RetD [p] G H Q fun G' H' v => PoolAt H' p ∧ ∃ rs', Good start0 (0, 0) rs' ∧ Oth wh rs rs' ∧
  ∃ a r k, v = .ref a ∧ G' a = some (.lst [.ref r, .ref k]) ∧ Ls G' (RcV K G') (.ref r) rs'
def sp_law (K : PySem.W.Frag) (P0 : Addr) : Sp := fun vs H Q _ => ∃ (a : Addr) (ns : List Int), vs = [.ref a] ∧ SqL K H a (ns.map V.int) ∧ ns.length ≤ 63 ∧ H P0 = some (.tbl #[]) ∧ ∀ H', Q (.bl true) H'
/-! ### lemmas for the walk -/
theorem cnt_step (n lev i : Nat) : cI ((List.range (i + 1)).map (hv n)) ++ [((hv n i : Int) + 1) / 2] = cI ((List.range (i + 2)).map (hv n)) := by
  have e : ((hv n i : Int) + 1) / 2 = ((hv n (i + 1) : Nat) : Int) := by show _ = (((hv n i + 1) / 2 : Nat) : Int); omega
  rw [List.range_succ (n := i + 1), List.map_append, e]
  unfold cI
  rw [List.map_append]
  rfl
theorem cnt_last (n i : Nat) : ((cI ((List.range (i + 1)).map (hv n))).map V.int)[((cI ((List.range (i + 1)).map (hv n))).map V.int).length - 1]? = some (.int (hv n i)) := by
  have hl : ((cI ((List.range (i + 1)).map (hv n))).map V.int).length = i + 1 := by rw [List.length_map, cI_len, List.length_map, List.length_range]
  rw [hl, Nat.add_sub_cancel]
  unfold cI
  rw [List.getElem?_map, List.getElem?_map, List.getElem?_map, List.getElem?_range (Nat.lt_succ_self i)]
  rfl
theorem mark_snoc {ns : List Int} {i : Nat} {n : Int} (h : ns[i]? = some n) : markN (ns.take (i + 1)) = (markN (ns.take i) * 31 + codeN n) % 9973 := by
  unfold markN
  rw [List.take_add_one, h, List.foldl_append]
  rfl
theorem mark_lt (ns : List Int) : markN ns < 9973 := by
  unfold markN
  have : ∀ (ns : List Int) (m : Nat), m < 9973 → ns.foldl (fun m n => (m * 31 + codeN n) % 9973) m < 9973 := by
    intro ns
    induction ns with
    | nil => exact fun m h => h
    | cons n ns ih => exact fun m _ => ih _ (Nat.mod_lt _ (by decide))
  exact this ns 1 (by decide)
def prevOf (last before : Nat) (ps : List (Nat × Jt)) : Nat → Nat × Nat
  | 0 => (last, before)
  | k + 1 => ((ps.getD k (0, 0, 0)).1, (ps.getD k (0, 0, 0)).2.1)
theorem Fits.at_ {n : Nat} : ∀ {ps : List (Nat × Jt)} {last before i : Nat} {p : Nat × Jt}, Fits n last before ps → ps[i]? = some p →
    (prevOf last before ps i).1 < p.1 ∧ p.1 < n ∧ (prevOf last before ps i).2 + p.2.1 + (prevOf last before ps i).1 ≤ p.1 ∧ p.2.1 + p.1 ≤ n ∧ jtOk p.2
  | [], _, _, i, p, _, h => by simp at h
  | (p0, j) :: r, last, before, 0, p, hf, h => by
    have e : (p0, j) = p := Option.some.inj h
    subst e
    obtain ⟨h1, h2, h3, h4, h5, _⟩ := hf
    exact ⟨h1, h2, h3, h4, h5⟩
  | (p0, j) :: r, last, before, i + 1, p, hf, h => by
    obtain ⟨_, _, _, _, _, hr⟩ := hf
    have k := Fits.at_ hr (show r[i]? = some p from h)
    have e : prevOf last before ((p0, j) :: r) (i + 1) = prevOf p0 j.1 r i := by
      cases i with
      | zero => rfl
      | succ i => simp [prevOf]
    rw [e]
    exact k
theorem shapes_at {K : PySem.W.Frag} {mg : Str → Option Value} (T : Txt K mg) {sh : Nat} (h : sh < 4) (H : Hp) : ∃ a : Addr, ([V.ref (itA K (He.ga K "SHAPES") 0), .ref (itA K (He.ga K "SHAPES") 1), .ref (itA K (He.ga K "SHAPES") 2), .ref (itA K (He.ga K "SHAPES") 3)] : List V)[sh]? = some (.ref a) ∧ SqT K H a [.int (shp sh).1, .int (shp sh).2] := by
  match sh, h with
  | 0, _ => exact ⟨_, rfl, T.t_SHAPES0 H⟩
  | 1, _ => exact ⟨_, rfl, T.t_SHAPES1 H⟩
  | 2, _ => exact ⟨_, rfl, T.t_SHAPES2 H⟩
  | 3, _ => exact ⟨_, rfl, T.t_SHAPES3 H⟩
theorem shp_c (sh : Nat) (z : Int) : CMul (shp sh).1 z := .inl (by match sh with
  | 0 => decide
  | 1 => decide
  | 2 => decide
  | n + 3 => exact (show -(2 ^ 64) < (2 : Int) ∧ (2 : Int) < 2 ^ 64 by decide))
theorem shp_d (sh : Nat) (z : Int) : CMul (shp sh).2 z := .inl (by match sh with
  | 0 => decide
  | 1 => decide
  | 2 => decide
  | n + 3 => exact (show -(2 ^ 64) < (-3 : Int) ∧ (-3 : Int) < 2 ^ 64 by decide))
section
variable {M : List Addr} {G H G' H' : Hp} {a p : Addr} {o : HO}
theorem Grow.take (x : Grow [p] G H G' H') (nG : G' p = none) : Grow [p] G H G' (upd H' p o) := x.mutM (List.mem_singleton.mpr rfl) nG
theorem Grow.new (x : Grow M G H G' H') (n : H' a = none) : Grow M G H (upd G' a o) (upd H' a o) := x.trans (Grow.alloc x.gh n)
theorem PoolAt.ne (h : PoolAt H p) : H p ≠ none := by
  obtain ⟨_, _, e, _⟩ := h
  rw [e]
  exact fun z => nomatch z
theorem PoolAt.new (h : PoolAt H p) (n : H a = none) : PoolAt (upd H a o) p := by
  obtain ⟨x, y, e, k⟩ := h
  exact ⟨x, y, same_new n _ _ e, k⟩
theorem PoolAt.upd (h : PoolAt H p) (n : p ≠ a) : PoolAt (upd H a o) p := by
  obtain ⟨x, y, e, k⟩ := h
  exact ⟨x, y, by rw [upd_ne n]; exact e, k⟩
theorem PoolAt.nG (h : PoolAt H p) (x : Grow M G H G' H') (n : G p = none) : G' p = none := x.nw p h.ne n
/-- what is in the frozen part -/
theorem new_G : (upd G a o) a = some o := upd_same
end
/-! ### texts of digits: more -/
theorem tx_cutG {l : List Bool} {i j : Nat} : cutS (tx l) (some (i : Int)) (some (j : Int)) = tx ((l.drop i).take (j - i)) := by
  by_cases hi : i ≤ l.length
  · exact tx_cut hi
  · unfold cutS
    rw [tx_len, HT.sIx_nat, HT.sIx_nat, tx_list, Nat.min_eq_right (show l.length ≤ i by omega), List.drop_eq_nil_of_le (show (l.map fun b => if b then 49 else 48).length ≤ l.length by rw [List.length_map]; exact Nat.le_refl _), List.drop_eq_nil_of_le (show l.length ≤ i by omega), List.take_nil, List.take_nil]
    rfl
section
variable {K : PySem.W.Frag} {H : Hp} {Q : VK} {l : List Bool}
theorem r_ixTx {i : Nat} {b : Bool} (h1 : l.length ≤ 1000000) (h2 : l[i]? = some b) (h : Q (.str (tx [b])) H) : rIxS (.str (tx l)) (.int i) H Q :=
  ⟨tx l, i, _, rfl, rfl, by rw [tx_len]; exact sz h1, at0 (tx_at h2), h⟩
theorem r_lenTx (h1 : l.length ≤ 1000000) (h : Q (.int l.length) H) : rLenV K [V.str (tx l)] H Q :=
  r_lenS (by rw [tx_len]; exact sz h1) (by rw [tx_len]; exact h)
theorem r_catTx {a b : List Bool} (h1 : a.length + b.length ≤ 1000000) (h : Q (.str (tx (a ++ b))) H) : rCatS (.str (tx a)) (.str (tx b)) H Q :=
  r_catS (by rw [tx_len, tx_len]; exact sz h1) (by rw [tx_app]; exact h)
theorem r_slTx {i j : Nat} {lo hi : Int} (e1 : lo = (i : Int)) (e2 : hi = (j : Int)) (h1 : l.length ≤ 1000000) (h : Q (.str (tx ((l.drop i).take (j - i)))) H) : rSlS (.str (tx l)) (some lo) (some hi) H Q := by
  rw [e1, e2]
  exact r_slS (by rw [tx_len]; exact sz h1) (by rw [tx_cutG]; exact h)
theorem r_eqTx {a b : List Bool} (h : Q (.bl (decide (a = b))) H) : rEq (.str (tx a)) (.str (tx b)) H Q :=
  r_eqS (by rw [show decide (tx a = tx b) = decide (a = b) from decide_eq_decide.mpr ⟨tx_inj, fun e => by rw [e]⟩]; exact h)
theorem r_neTx {a b : List Bool} (h : Q (.bl (!decide (a = b))) H) : rNe (.str (tx a)) (.str (tx b)) H Q :=
  r_neS (by rw [show decide (tx a = tx b) = decide (a = b) from decide_eq_decide.mpr ⟨tx_inj, fun e => by rw [e]⟩]; exact h)
end
/-! ### digits of a number -/
theorem bin_0 : bin 0 = [] := by rw [bin]; rfl
theorem bin_s {u : Nat} (h : u ≠ 0) : bin u = bin (u / 2) ++ [decide (u % 2 = 1)] := by rw [bin, dif_neg h]
theorem bin_len : ∀ (k u : Nat), u < 2 ^ k → (bin u).length ≤ k
  | 0, u, h => by
    have e : u = 0 := by rw [Nat.pow_zero] at h; omega
    rw [e, bin_0]; exact Nat.le_refl _
  | k + 1, u, h => by
    by_cases e : u = 0
    · rw [e, bin_0]; exact Nat.zero_le _
    · rw [bin_s e, List.length_append, List.length_singleton]
      have := bin_len k (u / 2) (by rw [Nat.pow_succ] at h; omega)
      omega
theorem bin_17 {u : Nat} (h : u ≤ 100000) : (bin u).length ≤ 17 := bin_len 17 u (Nat.lt_of_le_of_lt h (by decide))
theorem valB_app (a b : List Bool) : valB (a ++ b) = valB a * 2 ^ b.length + valB b := by
  have g : ∀ (b : List Bool) (n : Nat), b.foldl (fun a b => 2 * a + b.toNat) n = n * 2 ^ b.length + valB b := by
    intro b
    induction b with
    | nil => intro n; show n = n * 1 + 0; omega
    | cons x b ih =>
      intro n
      show b.foldl _ (2 * n + x.toNat) = n * 2 ^ (b.length + 1) + b.foldl _ (2 * 0 + x.toNat)
      rw [ih, ih (2 * 0 + x.toNat), Nat.pow_succ, Nat.add_mul, Nat.mul_comm 2 n, Nat.mul_assoc, Nat.mul_comm 2 (2 ^ b.length)]
      simp only [Nat.mul_zero, Nat.zero_add]
      omega
  unfold valB
  rw [List.foldl_append, g b]
  rfl
theorem valB_lt (b : List Bool) : valB b < 2 ^ b.length := by
  induction b with
  | nil => decide
  | cons x b ih =>
    rw [show x :: b = [x] ++ b from rfl, valB_app, List.length_append, List.length_singleton, Nat.add_comm 1, Nat.pow_succ]
    have : valB [x] ≤ 1 := by cases x <;> decide
    have := Nat.mul_le_mul_right (2 ^ b.length) this
    omega
theorem valB_rep (k : Nat) : valB (List.replicate k false) = 0 := by
  induction k with
  | zero => rfl
  | succ k ih => rw [List.replicate_succ', valB_app, ih]; rfl
theorem valB_bin : ∀ u : Nat, valB (bin u) = u := by
  intro u
  induction u using Nat.strongRecOn with
  | _ u ih =>
    by_cases e : u = 0
    · rw [e, bin_0]; rfl
    · rw [bin_s e, valB_app, ih (u / 2) (by omega)]
      by_cases h : u % 2 = 1
      · rw [decide_eq_true h]; show u / 2 * 2 ^ 1 + 1 = u; omega
      · rw [decide_eq_false h]; show u / 2 * 2 ^ 1 + 0 = u; omega
theorem bin_head : ∀ u : Nat, u ≠ 0 → ∃ r, bin u = true :: r := by
  intro u
  induction u using Nat.strongRecOn with
  | _ u ih =>
    intro h
    by_cases e : u = 1
    · subst e; exact ⟨[], by rw [bin_s (by decide)]; rw [show 1 / 2 = 0 from rfl, bin_0]; rfl⟩
    · obtain ⟨r, q⟩ := ih (u / 2) (by omega) (by omega)
      exact ⟨r ++ [decide (u % 2 = 1)], by rw [bin_s h, q]; rfl⟩
/-- the k digits behind the stop -/
def lowB (u k : Nat) : List Bool := (padded u k).drop ((padded u k).length - k)
theorem padded_len (u k : Nat) : (padded u k).length = k + (bin u).length := by unfold padded; rw [List.length_append, List.length_replicate]
theorem lowB_len (u k : Nat) : (lowB u k).length = k := by unfold lowB; rw [List.length_drop, padded_len]; omega
theorem lowB_val (u k : Nat) : valB (lowB u k) = u % 2 ^ k := by
  have h := valB_app ((padded u k).take ((padded u k).length - k)) (lowB u k)
  unfold lowB at h
  rw [List.take_append_drop] at h
  have e : valB (padded u k) = u := by unfold padded; rw [valB_app, valB_rep, valB_bin, Nat.zero_mul, Nat.zero_add]
  have l := valB_lt (lowB u k)
  rw [lowB_len] at l
  have l2 := lowB_len u k
  unfold lowB at l l2 ⊢
  rw [e, l2] at h
  conv => rhs; rw [h, Nat.add_comm, Nat.add_mul_mod_self_right, Nat.mod_eq_of_lt l]
theorem onesB_rep (n : Nat) (r : List Bool) : onesB (List.replicate n true ++ false :: r) = n := by
  induction n with
  | zero => rfl
  | succ n ih => rw [List.replicate_succ, List.cons_append]; show onesB _ + 1 = _; rw [ih]
theorem code_lo {u k : Nat} (h : u / 2 ^ k < 20) : code u k = List.replicate (u / 2 ^ k) true ++ false :: lowB u k := if_pos h
theorem code_hi {u k : Nat} (h : ¬ u / 2 ^ k < 20) : code u k = List.replicate (19 + (bin u).length) true ++ false :: bin u := if_neg h
theorem code_len {u k : Nat} (hu : u ≤ 60001) (hk : k ≤ 16) : (code u k).length ≤ 60 := by
  by_cases h : u / 2 ^ k < 20
  · rw [code_lo h, List.length_append, List.length_replicate, List.length_cons, lowB_len]; omega
  · rw [code_hi h, List.length_append, List.length_replicate, List.length_cons]
    have := bin_17 (show u ≤ 100000 by omega)
    omega
theorem par_le {t : Tb} : par t ≤ 17 := by
  have g : ∀ f tot pr, parGo f tot pr ≤ f := by
    intro f
    induction f with
    | zero => intro _ _; exact Nat.le_refl _
    | succ f ih => intro tot pr; rw [parGo]; split <;> first | exact Nat.succ_le_succ (ih _ _) | exact Nat.zero_le _
  exact g 17 t.1 t.2
theorem par_16 {t : Tb} (h : tbOk t) : par t ≤ 16 := by
  have g : ∀ f tot pr, 1 ≤ pr → tot ≤ pr * 2 ^ f → parGo (f + 1) tot pr ≤ f := by
    intro f
    induction f with
    | zero => intro tot pr _ e; rw [Nat.pow_zero, Nat.mul_one] at e; rw [parGo, if_neg (by omega)]; exact Nat.le_refl _
    | succ f ih =>
      intro tot pr p e
      rw [parGo]
      split
      · exact Nat.succ_le_succ (ih tot (2 * pr) (by omega) (by rw [Nat.pow_succ] at e; rw [Nat.mul_comm 2 pr, Nat.mul_assoc, Nat.mul_comm 2]; exact e))
      · exact Nat.zero_le _
  obtain ⟨h1, _, h3⟩ := h
  refine g 16 t.1 t.2 h1 (Nat.le_trans h3 ?_)
  rw [Nat.mul_comm]
  exact Nat.mul_le_mul_left _ (by decide)
/-! ### lists -/
theorem getD_map {ys : List Int} {i : Nat} (h : i < ys.length) : (ys.map V.int)[i]? = some (.int (ys.getD i 0)) := by
  rw [List.getElem?_map, List.getD_eq_getElem?_getD, List.getElem?_eq_getElem h]
  rfl
theorem cutV_nat {xs : List V} {a b : Nat} : cutV xs (some (a : Int)) (some (b : Int)) = (xs.take b).drop a := by
  unfold cutV
  rw [HT.sIx_nat, HT.sIx_nat, List.drop_take]
  by_cases h : a ≤ xs.length
  · rw [Nat.min_eq_left h]
    by_cases h2 : b ≤ xs.length
    · rw [Nat.min_eq_left h2]
    · rw [Nat.min_eq_right (show xs.length ≤ b by omega), List.take_of_length_le (by rw [List.length_drop]; omega), List.take_of_length_le (by rw [List.length_drop]; omega)]
  · rw [Nat.min_eq_right (show xs.length ≤ a by omega), List.drop_eq_nil_of_le (Nat.le_refl _), List.drop_eq_nil_of_le (show xs.length ≤ a by omega), List.take_nil, List.take_nil]
theorem cutV_none {xs : List V} {b : Nat} : cutV xs none (some (b : Int)) = xs.take b := by
  unfold cutV
  rw [HT.sIx_nat, HT.sIx_none]
  show xs.take (min b xs.length - 0) = _
  rw [Nat.sub_zero]
  by_cases h2 : b ≤ xs.length
  · rw [Nat.min_eq_left h2]
  · rw [Nat.min_eq_right (show xs.length ≤ b by omega), List.take_of_length_le (Nat.le_refl _), List.take_of_length_le (by omega)]
theorem cutV_end {xs : List V} {a : Nat} : cutV xs (some (a : Int)) none = xs.drop a := by
  unfold cutV
  rw [HT.sIx_nat, HT.sIx_none]
  by_cases h : a ≤ xs.length
  · rw [Nat.min_eq_left h, List.take_of_length_le (by rw [List.length_drop]; omega)]
  · rw [Nat.min_eq_right (show xs.length ≤ a by omega), List.drop_eq_nil_of_le (Nat.le_refl _), List.drop_eq_nil_of_le (show xs.length ≤ a by omega), List.take_nil]
theorem r_slLn {K : PySem.W.Frag} {H : Hp} {Q : VK} {p : Addr} {xs : List V} {a b : Nat} (s : SqL K H p xs) (h : ∀ l, H l = none → Q (.ref l) (upd H l (.lst ((xs.take b).drop a)))) : rSlL K (.ref p) (some (a : Int)) (some (b : Int)) H Q := r_slL s (by rw [cutV_nat]; exact h)
theorem r_slL0 {K : PySem.W.Frag} {H : Hp} {Q : VK} {p : Addr} {xs : List V} {b : Nat} (s : SqL K H p xs) (h : ∀ l, H l = none → Q (.ref l) (upd H l (.lst (xs.take b)))) : rSlL K (.ref p) none (some (b : Int)) H Q := r_slL s (by rw [cutV_none]; exact h)
theorem r_slLe {K : PySem.W.Frag} {H : Hp} {Q : VK} {p : Addr} {xs : List V} {a : Nat} (s : SqL K H p xs) (h : ∀ l, H l = none → Q (.ref l) (upd H l (.lst (xs.drop a)))) : rSlL K (.ref p) (some (a : Int)) none H Q := r_slL s (by rw [cutV_end]; exact h)
/-! ### changed pairs -/
theorem chg_app : ∀ (a b : List (Nat × Jt)) (xs : List Int), chg xs (a ++ b) = chg (chg xs a) b
  | [], _, _ => rfl
  | (p, j) :: r, b, xs => chg_app r b (pairsGo j.2 p j.1 xs)
theorem chg_snoc {ps : List (Nat × Jt)} {i : Nat} {p : Nat × Jt} (h : ps[i]? = some p) (xs : List Int) : chg xs (ps.take (i + 1)) = pairsGo p.2.2 p.1 p.2.1 (chg xs (ps.take i)) := by
  rw [List.take_add_one, h, chg_app]
  rfl
theorem pairStep_len (sh l r : Nat) (xs : List Int) : (pairStep sh l r xs).length = xs.length := by unfold pairStep; rw [List.length_set, List.length_set]
theorem pairsGo_len (sh p : Nat) : ∀ (n : Nat) (xs : List Int), (pairsGo sh p n xs).length = xs.length
  | 0, _ => rfl
  | n + 1, xs => by rw [pairsGo, pairStep_len, pairsGo_len sh p n]
theorem chg_len : ∀ (ps : List (Nat × Jt)) (xs : List Int), (chg xs ps).length = xs.length
  | [], _ => rfl
  | (p, j) :: r, xs => by rw [chg, chg_len r, pairsGo_len]
/-! ### levels -/
theorem hv_le (n : Nat) : ∀ l, hv n l ≤ n
  | 0 => Nat.le_refl _
  | l + 1 => by have := hv_le n l; show (hv n l + 1) / 2 ≤ n; by_cases h : n = 0 <;> omega
theorem hv_pos {n : Nat} (h : 1 ≤ n) : ∀ l, 1 ≤ hv n l
  | 0 => h
  | l + 1 => by have := hv_pos h l; show 1 ≤ (hv n l + 1) / 2; omega
theorem joinPairs_len (s d : List Int) : (joinPairs s d).length = 2 * min s.length d.length := by
  unfold joinPairs
  induction s generalizing d with
  | nil => simp
  | cons a s ih => cases d with
    | nil => simp
    | cons b d => rw [List.zip_cons_cons, List.flatMap_cons, List.length_append, ih]; simp only [List.length_cons, List.length_nil]; omega
theorem joinStep_len {s d : List Int} (h : d.length ≤ s.length) : (joinStep s d).length = s.length + d.length := by
  unfold joinStep
  rw [List.length_append, joinPairs_len, List.length_drop]
  omega
theorem joinGo_len (xs : List Int) (lev : Nat) : ∀ i, i ≤ lev → (joinGo xs lev i).length = hv xs.length (lev - i)
  | 0, _ => by rw [joinGo, List.length_take, Nat.sub_zero, Nat.min_eq_left (hv_le _ _)]
  | i + 1, h => by
    have ih := joinGo_len xs lev i (by omega)
    have e : lev - i = (lev - 1 - i) + 1 := by omega
    have e2 : lev - (i + 1) = lev - 1 - i := by omega
    have h1 := hv_le xs.length (lev - 1 - i)
    have h2 : hv xs.length (lev - i) = (hv xs.length (lev - 1 - i) + 1) / 2 := by rw [e]; rfl
    have dl : ((xs.take (hv xs.length (lev - 1 - i))).drop (hv xs.length (lev - i))).length = hv xs.length (lev - 1 - i) - hv xs.length (lev - i) := by rw [List.length_drop, List.length_take, Nat.min_eq_left h1]
    rw [joinGo, joinStep_len (by rw [dl, ih]; omega), dl, ih, e2]
    omega
theorem joinL_len {xs : List Int} {lev : Nat} : (joinL xs lev).length = xs.length := by
  unfold joinL
  rw [joinGo_len xs lev lev (Nat.le_refl _), Nat.sub_self]
  rfl
theorem joinPairs_snoc {s d : List Int} {i : Nat} {x y : Int} (h1 : s[i]? = some x) (h2 : d[i]? = some y) : joinPairs (s.take (i + 1)) (d.take (i + 1)) = joinPairs (s.take i) (d.take i) ++ [x + (y + 1) / 2, x + (y + 1) / 2 - y] := by
  unfold joinPairs
  have l1 := (List.getElem?_eq_some_iff.mp h1).1
  have l2 := (List.getElem?_eq_some_iff.mp h2).1
  rw [List.take_add_one, List.take_add_one, h1, h2, List.zip_append (by rw [List.length_take, List.length_take]; omega), List.flatMap_append]
  rfl
theorem zip_cut : ∀ (s d : List Int) (m : Nat), min s.length d.length ≤ m → (s.take m).zip (d.take m) = s.zip d
  | [], d, m, _ => by rw [List.take_nil]; rfl
  | a :: s, [], m, _ => by rw [List.take_nil, List.zip_nil_right, List.zip_nil_right]
  | a :: s, b :: d, 0, h => by simp only [List.length_cons] at h; omega
  | a :: s, b :: d, m + 1, h => by
    rw [List.take_succ_cons, List.take_succ_cons, List.zip_cons_cons, List.zip_cons_cons, zip_cut s d m (by simp only [List.length_cons] at h; omega)]
theorem joinPairs_all (s d : List Int) : joinPairs (s.take (min s.length d.length)) (d.take (min s.length d.length)) = joinPairs s d := by
  unfold joinPairs
  rw [zip_cut s d _ (Nat.le_refl _)]
theorem cnt_at {n lev i : Nat} (h : i ≤ lev) : ((cI (countsL n lev)).map V.int)[i]? = some (.int (hv n i)) := by
  unfold cI countsL
  rw [List.getElem?_map, List.getElem?_map, List.getElem?_map, List.getElem?_range (by omega)]
  rfl
theorem cnt_len (n lev : Nat) : ((cI (countsL n lev)).map V.int).length = lev + 1 := by
  unfold cI countsL
  rw [List.length_map, List.length_map, List.length_map, List.length_range]
theorem kn {G H : Hp} {a b : Addr} {o u : HO} (e : H b = some o) (n : H a = none) (g : G b = none) : (upd G a u) b = none := by rw [upd_ne (ne_of_none e n)]; exact g
theorem Grow.no {M : List Addr} {G H G' H' : Hp} {a : Addr} (x : Grow M G H G' H') (n : H' a = none) : H a = none := by
  cases e : H a with
  | none => rfl
  | some o => exact absurd n (x.up a (by rw [e]; exact fun z => nomatch z))
theorem r_callL {σ : L2.St} {H : Hp} {Q : VK} {i : Nat} {f : Addr} {sp : Sp} {dvs : List V} {E : XK} {t : TA} (e : σ[i]? = some (some (.ref f))) (h : t σ H fun vs H1 => sp (vs ++ dvs) H1 Q E) : tCallL i f sp dvs E t σ H Q := ⟨e, h⟩
/-! ### join, in a text of signs, walks over a text -/
def rJoinN (K : PySem.W.Frag) : V → List V → Hp → VK → Prop := fun x xs H Q => ∃ a p, ∃ ys : List Str, x = .str a ∧ xs = [.ref p] ∧ (SqL K H p (ys.map V.str) ∨ SqT K H p (ys.map V.str)) ∧
  (ys.map (·.length)).sum + ys.length * a.length ≤ 16777216 ∧ Q (.str (Txt.join a ys)) H
theorem pe_joinN {X : Cx} {o e : Expr} {to te : TE} {apos pos : Pos} (ho : PE X o to) (he : PE X e te) (hs : starEach [e] X.env = [(false, eval e X.env)] := by rfl) (hbase : attributeBase o "join" X.env (eval o X.env) = eval o X.env := by rfl) (hline : (apos.endLine == pos.line) = true := by rfl) :
    PE X (.Call (.Attribute o "join" apos) [e] [] pos) (tM1 (rJoinN X.K) to te) := pe_join ho he hs hbase hline
theorem r_m1 {r : V → List V → Hp → VK → Prop} {to te : TE} {σ : L2.St} {H : Hp} {Q : VK} (h : to σ H fun x H1 => (∃ a, x = .str a) ∧ te σ H1 fun y H2 => r x [y] H2 Q) : tM1 r to te σ H Q := h
theorem op_inSg {X : Cx} : OpR X (compareOp .In) rInSg := op_in_sign
theorem r_inSg {b : Bool} {H : Hp} {Q : VK} (h : Q (.bl true) H) : rInSg (.str ⟨#[if b then 49 else 48]⟩) (.str (tx [false, true])) H Q :=
  ⟨_, _, rfl, rfl, by rw [show decide ((if b then 49 else 48 : Nat) ∈ (tx [false, true]).cps.toList) = true by cases b <;> decide +kernel]; exact h⟩
theorem join_tx : ∀ cs : List (List Bool), Txt.join (tx []) (cs.map tx) = tx cs.flatten := by
  intro cs
  rw [TL.join_eq]
  induction cs with
  | nil => exact tx_nil0
  | cons x r ih =>
    cases r with
    | nil => rw [List.flatten_cons, List.flatten_nil, List.append_nil]; rfl
    | cons z r =>
      rw [List.flatten_cons, ← tx_app, ← ih]
      show tx x ++ tx [] ++ _ = _
      rw [tx_app, List.append_nil]
theorem lc_str {x : Str} {g : TG} {tt : TT} {te : TE} {ws : List Nat} {σ : L2.St} {H : Hp} {Z : Addr} {Qd : Hp → Prop} (Pv : Nat → Hp → Prop) (h0 : Pv 0 (upd H Z (.lst [])))
    (hs : ∀ (i c : Nat) (H : Hp), x.cps[i]? = some c → Pv i H → g (.str ⟨#[c]⟩) (wipe σ ws) H fun σ2 H2 => wipe σ2 ws = wipe σ ws ∧ tt σ2 H2 fun b H3 =>
      if b = true then te σ2 H3 fun y H4 => ∃ acc, H4 Z = some (.lst acc) ∧ acc.length < sizeLine ∧ Pv (i + 1) (upd H4 Z (.lst (acc ++ [y]))) else Pv (i + 1) H3) (hd : ∀ H, Pv x.cps.size H → Qd H) :
    ∃ W : Nat → Nat → Hp → Prop, (∃ m, W 0 m (upd H Z (.lst []))) ∧ ∀ i m H, W i m H →
      ((Its x).stop i H ∧ Qd H) ∨ ((Its x).go i H ∧ ∃ Nx : Hp → Prop, (∀ H', Nx H' → ∃ m', m' < m ∧ W (i + 1) m' H') ∧ ∀ x1 H', (Its x).yld i H x1 H' → g x1 (wipe σ ws) H' fun σ2 H2 => wipe σ2 ws = wipe σ ws ∧ tt σ2 H2 fun b H3 =>
        if b = true then te σ2 H3 fun y H4 => ∃ acc, H4 Z = some (.lst acc) ∧ acc.length < sizeLine ∧ Nx (upd H4 Z (.lst (acc ++ [y]))) else Nx H3) := by
  refine lc_J (J := Its x) (n := x.cps.size) Pv h0 (fun H p => Nat.le_refl _) (fun i H hi p => hi) (fun i H v H' hi p y => ?_) hd
  obtain ⟨rfl, c, hc, rfl⟩ := y
  exact hs i c H' hc p
theorem tx_sgn {l : List Bool} {i c : Nat} (h : (tx l).cps[i]? = some c) : ∃ b : Bool, c = if b then 49 else 48 := by
  have e : (tx l).cps.toList[i]? = some c := by rw [Array.getElem?_toList]; exact h
  rw [tx_list, List.getElem?_map] at e
  cases q : l[i]? with
  | none => rw [q] at e; cases e
  | some b => rw [q] at e; exact ⟨b, (Option.some.inj e).symm⟩
/-! ### what is written -/
def selT (w : Bool) (t : Tbs) : Tb := if w then t.2 else t.1
def setT (w : Bool) (t : Tbs) (x : Tb) : Tbs := if w then (t.1, x) else (x, t.2)
theorem written_app : ∀ (a b : List Int) (c : Nat) (t : Tbs), written (a ++ b) c t = ((written a c t).1 ++ (written b (c - a.length) (written a c t).2).1, (written b (c - a.length) (written a c t).2).2)
  | [], b, c, t => rfl
  | n :: a, b, 0, t => by
    rw [List.cons_append, written, written_app a b 0, written, Nat.zero_sub, Nat.zero_sub, List.append_assoc]
  | n :: a, b, c + 1, t => by
    rw [List.cons_append, written, written_app a b c, written, List.length_cons, Nat.succ_sub_succ, List.append_assoc]
theorem written_one (n : Int) (f : Nat) (t : Tbs) : written [n] f t = (code (codeN n) (par (selT (decide (f = 0)) t)), setT (decide (f = 0)) t (behind (selT (decide (f = 0)) t) (codeN n))) := by
  cases f with
  | zero => rw [written, written, List.append_nil]; rfl
  | succ f => rw [written, written, List.append_nil]; rfl
theorem written_snoc {ns : List Int} {i : Nat} {n : Int} (h : ns[i]? = some n) (c : Nat) (t : Tbs) : written (ns.take (i + 1)) c t =
    ((written (ns.take i) c t).1 ++ code (codeN n) (par (selT (decide (c ≤ i)) (written (ns.take i) c t).2)), setT (decide (c ≤ i)) (written (ns.take i) c t).2 (behind (selT (decide (c ≤ i)) (written (ns.take i) c t).2) (codeN n))) := by
  have l := (List.getElem?_eq_some_iff.mp h).1
  rw [List.take_add_one, h, written_app]
  show _ = _
  rw [show (some n).toList = [n] from rfl, written_one, List.length_take, Nat.min_eq_left (Nat.le_of_lt l), show decide (c - i = 0) = decide (c ≤ i) from decide_eq_decide.mpr ⟨fun z => by omega, fun z => by omega⟩]
theorem written_pre {ns : List Int} {i : Nat} {n : Int} (h : ns[i]? = some n) (c : Nat) (t : Tbs) : ∃ rest, (written ns c t).1 = (written (ns.take i) c t).1 ++ (code (codeN n) (par (selT (decide (c ≤ i)) (written (ns.take i) c t).2)) ++ rest) := by
  refine ⟨(written (ns.drop (i + 1)) (c - (ns.take (i + 1)).length) (written (ns.take (i + 1)) c t).2).1, ?_⟩
  conv => lhs; rw [← List.take_append_drop (i + 1) ns, written_app]
  rw [written_snoc h, List.append_assoc]
theorem codeN_le {n : Int} (h1 : -30000 ≤ n) (h2 : n ≤ 30000) : codeN n ≤ 60001 := by unfold codeN; split <;> omega
theorem numN_codeN (n : Int) : numN (codeN n) = n := by
  unfold codeN numN
  split
  · rw [if_pos (by omega)]; omega
  · rw [if_neg (by omega)]; omega
theorem behind_ok {t : Tb} {u : Nat} (h : tbOk t) (hu : u ≤ 60001) : tbOk (behind t u) := by
  obtain ⟨h1, h2, h3⟩ := h
  unfold behind
  split
  · exact ⟨show 1 ≤ 8 by decide, show 8 ≤ 15 by decide, by show (t.1 + u) / 2 ≤ 60001 * 8; omega⟩
  · exact ⟨by show 1 ≤ t.2 + 1; omega, by show t.2 + 1 ≤ 15; omega, by show t.1 + u ≤ 60001 * (t.2 + 1); omega⟩
theorem selT_ok {w : Bool} {t : Tbs} (h : tbsOk t) : tbOk (selT w t) := by cases w; exact h.1; exact h.2
theorem setT_ok {w : Bool} {t : Tbs} {x : Tb} (h : tbsOk t) (k : tbOk x) : tbsOk (setT w t x) := by cases w; exact ⟨k, h.2⟩; exact ⟨h.1, k⟩
theorem written_ok : ∀ (ns : List Int) (c : Nat) (t : Tbs), numsOk ns → tbsOk t → tbsOk (written ns c t).2
  | [], _, _, _, h => h
  | n :: ns, 0, t, k, h => by
    have := k n (List.mem_cons_self ..)
    rw [written]
    exact written_ok ns 0 _ (fun m hm => k m (List.mem_cons_of_mem _ hm)) ⟨h.1, behind_ok h.2 (codeN_le this.1 this.2)⟩
  | n :: ns, c + 1, t, k, h => by
    have := k n (List.mem_cons_self ..)
    rw [written]
    exact written_ok ns c _ (fun m hm => k m (List.mem_cons_of_mem _ hm)) ⟨behind_ok h.1 (codeN_le this.1 this.2), h.2⟩
theorem numsOk.take {ns : List Int} (h : numsOk ns) (i : Nat) : numsOk (ns.take i) := fun n hn => h n (List.mem_of_mem_take hn)
theorem numsOk.at_ {ns : List Int} (h : numsOk ns) {i : Nat} {n : Int} (e : ns[i]? = some n) : codeN n ≤ 60001 := by
  have := h n (List.mem_of_getElem? e)
  exact codeN_le this.1 this.2
theorem written_len : ∀ (ns : List Int) (c : Nat) (t : Tbs), numsOk ns → tbsOk t → (written ns c t).1.length ≤ 60 * ns.length
  | [], _, _, _, _ => Nat.zero_le _
  | n :: ns, 0, t, k, h => by
    have q := k n (List.mem_cons_self ..)
    have := written_len ns 0 (t.1, behind t.2 (codeN n)) (fun m hm => k m (List.mem_cons_of_mem _ hm)) ⟨h.1, behind_ok h.2 (codeN_le q.1 q.2)⟩
    have cl := code_len (codeN_le q.1 q.2) (par_16 h.2)
    rw [written, List.length_append, List.length_cons]
    show _ + (written ns 0 (t.1, behind t.2 (codeN n))).1.length ≤ _
    omega
  | n :: ns, c + 1, t, k, h => by
    have q := k n (List.mem_cons_self ..)
    have := written_len ns c (behind t.1 (codeN n), t.2) (fun m hm => k m (List.mem_cons_of_mem _ hm)) ⟨behind_ok h.1 (codeN_le q.1 q.2), h.2⟩
    have cl := code_len (codeN_le q.1 q.2) (par_16 h.1)
    rw [written, List.length_append, List.length_cons]
    show _ + (written ns c (behind t.1 (codeN n), t.2)).1.length ≤ _
    omega
/-- the list of the two current tables -/
def CurV (K : PySem.W.Frag) (G : Hp) (vs : List V) (t : Tbs) : Prop := ∃ v1 v2, vs = [v1, v2] ∧ TbV K G v1 t.1 ∧ TbV K G v2 t.2
theorem CurV.mono {K : PySem.W.Frag} {G G' : Hp} {vs : List V} {t : Tbs} (e : Same G G') (h : CurV K G vs t) : CurV K G' vs t := by
  obtain ⟨v1, v2, q, a, b⟩ := h
  exact ⟨v1, v2, q, TbV.mono e a, TbV.mono e b⟩
theorem CurV.sel {K : PySem.W.Frag} {G : Hp} {vs : List V} {t : Tbs} (h : CurV K G vs t) (w : Bool) : ∃ v, atI vs (if w then 1 else 0) = some v ∧ TbV K G v (selT w t) := by
  obtain ⟨v1, v2, rfl, a, b⟩ := h
  cases w
  · exact ⟨v1, rfl, a⟩
  · exact ⟨v2, rfl, b⟩
theorem CurV.set {K : PySem.W.Frag} {G : Hp} {vs : List V} {t : Tbs} {v : V} {x : Tb} (h : CurV K G vs t) (w : Bool) (k : TbV K G v x) : ixN vs.length (if w then 1 else 0) = some w.toNat ∧ CurV K G (vs.set w.toNat v) (setT w t x) := by
  obtain ⟨v1, v2, rfl, a, b⟩ := h
  cases w
  · exact ⟨rfl, v, v2, rfl, k, b⟩
  · exact ⟨rfl, v1, v, rfl, a, k⟩
theorem r_sel {i c : Int} {w : Bool} {σ : L2.St} {H : Hp} {Q : VK} (e : w = decide (c ≤ i)) (h : Q (.int (if w then 1 else 0)) H) : if decide (i < c) = true then tC (.int 0) σ H Q else tC (.int 1) σ H Q := by
  subst e
  by_cases k : i < c
  · rw [if_pos (decide_eq_true k)]
    rw [show decide (c ≤ i) = false from decide_eq_false (by omega)] at h
    exact h
  · rw [if_neg (fun z => k (of_decide_eq_true z))]
    rw [show decide (c ≤ i) = true from decide_eq_true (by omega)] at h
    exact h
theorem r_isNoR {a : Addr} {H : Hp} {Q : VK} (h : Q (.bl false) H) : rIsNo (.ref a) .non H Q := r_isNo (by rw [show decide (V.ref a = V.non) = false from decide_eq_false (fun z => nomatch z)]; exact h)
/-! ### == and != of data -/
section
variable {K : PySem.W.Frag} {H : Hp} {Q : VK} {x y : V}
theorem dp_pair {i j : Int} (h : Pr K H x i j) : Dp K H x (.tuple [.int i, .int j]) := by
  obtain ⟨a, rfl, s⟩ := h
  exact .tup s (.cons (.int i) (.cons (.int j) .nil))
theorem sh_pair (i j : Int) : SeqAt.shaped (.tuple [.int i, .int j]) = true := by rfl
theorem eqv_pair (a b c d : Int) : PyData.eqv (.tuple [.int a, .int b]) (.tuple [.int c, .int d]) = (decide (a = c) && decide (b = d)) := by
  show ((a == c) && ((b == d) && true)) = _
  rw [Bool.and_true]
  by_cases h1 : a = c <;> by_cases h2 : b = d <;> simp [h1, h2]
theorem r_neP {i j : Jt} (h1 : JtV K H x i) (h2 : JtV K H y j) (h : Q (.bl (!decide (i = j))) H) : rNeD K x y H Q := by
  refine ⟨_, _, dp_pair h1, dp_pair h2, sh_pair _ _, sh_pair _ _, ?_⟩
  rw [eqv_pair]
  have e : (decide ((i.1 : Int) = (j.1 : Int)) && decide ((i.2 : Int) = (j.2 : Int))) = decide (i = j) := by
    obtain ⟨a, b⟩ := i
    obtain ⟨c, d⟩ := j
    rw [Bool.eq_iff_iff, Bool.and_eq_true, decide_eq_true_iff, decide_eq_true_iff, decide_eq_true_iff, Prod.mk.injEq]
    dsimp only
    omega
  rw [e]
  exact h
theorem dp_ints : ∀ xs : List Int, DpAll K H (xs.map V.int) (xs.map PyData.int)
  | [] => .nil
  | i :: xs => .cons (.int i) (dp_ints xs)
theorem eqv_ints : ∀ xs ys : List Int, PyData.eqvAll (xs.map PyData.int) (ys.map PyData.int) = decide (xs = ys)
  | [], [] => rfl
  | [], _ :: _ => rfl
  | _ :: _, [] => rfl
  | i :: xs, j :: ys => by
    show ((i == j) && PyData.eqvAll (xs.map PyData.int) (ys.map PyData.int)) = _
    rw [eqv_ints xs ys, Bool.eq_iff_iff, Bool.and_eq_true, beq_iff_eq, decide_eq_true_iff, decide_eq_true_iff, List.cons.injEq]
theorem r_neLi {xs ys : List Int} (h1 : Li H x xs) (h2 : Li H y ys) (h : Q (.bl (!decide (xs = ys))) H) : rNeD K x y H Q := by
  obtain ⟨a, rfl, ha⟩ := h1
  obtain ⟨b, rfl, hb⟩ := h2
  refine ⟨_, _, .lst (SqL.of ha) (dp_ints xs), .lst (SqL.of hb) (dp_ints ys), PySem.W.ke_shaped_ints xs, PySem.W.ke_shaped_ints ys, ?_⟩
  show Q (.bl (!PyData.eqvAll (xs.map PyData.int) (ys.map PyData.int))) H
  rw [eqv_ints]
  exact h
theorem ok_tx (l : List Bool) : PyData.strOk (tx l) = true := by
  unfold PyData.strOk
  rw [← Array.all_toList, tx_list, List.all_eq_true]
  intro c hc
  obtain ⟨b, _, rfl⟩ := List.mem_map.mp hc
  cases b <;> decide
theorem ok_state : PyData.strOk (Str.ofString "state") = true := by decide +kernel
theorem ok_frame : PyData.strOk (Str.ofString "frame") = true := by decide +kernel
theorem dp_rec {r : Rc} (h : RcV K H x r) : ∃ d ds, Dp K H x (.tuple (d :: ds)) ∧ SeqAt.shaped (.tuple (d :: ds)) = true := by
  cases r with
  | st t =>
    obtain ⟨a, u, rfl, s, ua, v1, v2, rfl, us, h1, h2⟩ := h
    exact ⟨_, _, .tup s (.cons (.str _) (.cons (.tup us (.cons (dp_pair h1) (.cons (dp_pair h2) .nil))) .nil)), by simp [SeqAt.shaped, PyData.canLay0, PyData.canLayAll0, PyData.depth, PyData.depthAll, ok_state]⟩
  | fr hd ns t =>
    obtain ⟨a, u, rfl, s, hj⟩ := h
    exact ⟨_, _, .tup s (.cons (.str _) (.cons (.int _) (.cons (dp_pair hj) (.cons (.int _) (.cons (.int _) (.cons (.int _) (.cons (.str _) .nil))))))), by simp [SeqAt.shaped, PyData.canLay0, PyData.canLayAll0, PyData.depth, PyData.depthAll, ok_frame, ok_tx]⟩
theorem r_eqRecNil {r : Rc} {b : Addr} (h : RcV K H x r) (e : H b = some (.tup [])) (q : Q (.bl false) H) : rEqD K x (.ref b) H Q := by
  obtain ⟨d, ds, h1, h2⟩ := dp_rec h
  exact ⟨_, _, h1, .tup (SqT.of e) .nil, h2, rfl, q⟩
end
/-! ### places -/
theorem placesGo_snoc : ∀ (bls : List (List Int)) (js : List Jt) (a i : Nat) (b : List Int) (j : Jt), bls[i]? = some b → js[i]? = some j →
    placesGo a (bls.take (i + 1)) (js.take (i + 1)) = placesGo a (bls.take i) (js.take i) ++ (if j = (0, 0) then [] else [(a + (bls.take (i + 1)).flatten.length, j)])
  | [], _, _, _, _, _, h, _ => by simp at h
  | b0 :: bls, [], _, _, _, _, _, h => by simp at h
  | b0 :: bls, j0 :: js, a, 0, b, j, h1, h2 => by
    have e1 : b0 = b := Option.some.inj h1
    have e2 : j0 = j := Option.some.inj h2
    subst e1 e2
    rw [List.take_succ_cons, List.take_succ_cons, List.take_zero, List.take_zero, List.take_zero, List.take_zero, List.flatten_cons, List.flatten_nil, List.append_nil]
    unfold placesGo
    split <;> simp [placesGo]
  | b0 :: bls, j0 :: js, a, i + 1, b, j, h1, h2 => by
    have ih := placesGo_snoc bls js (a + b0.length) i b j h1 h2
    rw [List.take_succ_cons, List.take_succ_cons, List.take_succ_cons, List.take_succ_cons, placesGo, placesGo, ih, List.flatten_cons, List.length_append, Nat.add_assoc]
    split <;> simp
theorem flat_snoc {bls : List (List Int)} {i : Nat} {b : List Int} (h : bls[i]? = some b) : (bls.take (i + 1)).flatten = (bls.take i).flatten ++ b := by
  rw [List.take_add_one, h, List.flatten_append]
  show _ ++ (b ++ []) = _
  rw [List.append_nil]
theorem flat_le {bls : List (List Int)} (i : Nat) : (bls.take i).flatten.length ≤ bls.flatten.length := by
  conv => rhs; rw [← List.take_append_drop i bls, List.flatten_append, List.length_append]
  exact Nat.le_add_right _ _
theorem r_bm0 {K : PySem.W.Frag} {T : String} {r : V → List V → Hp → VK → Prop} {to : TE} {σ : L2.St} {H : Hp} {Q : VK} (h : to σ H fun x H1 => tyV K T x H1 ∧ r x [] H1 Q) : tBM0 K T r to σ H Q := h
/-! ### a walk over the records -/
structure Sx where
  cur : Tbs
  left : Jt
  st : Nat
  org : Nat
  pos : Nat
def stepS (s : Sx) : Rc → Sx
  | .st t => ⟨t, s.left, s.st, s.pos, s.pos + 1⟩
  | .fr h ns t => ⟨(Rc.fr h ns t).next, h.jt, s.st + h.len, s.org, s.pos + 1⟩
def s0 : Sx := ⟨start0, (0, 0), 0, 0, 0⟩
def aft (rs : List Rc) : Sx := rs.foldl stepS s0
def ixOf (s : Sx) : Rc → List Ix
  | .st _ => []
  | .fr h _ _ => [⟨s.pos, s.st, h.len, s.left, h.jt, h.lev, h.step, s.org⟩]
def frOf : Rc → List (List Int)
  | .st _ => []
  | .fr _ ns _ => [ns]
theorem aft_snoc {rs : List Rc} {i : Nat} {r : Rc} (h : rs[i]? = some r) : aft (rs.take (i + 1)) = stepS (aft (rs.take i)) r := by
  unfold aft
  rw [List.take_add_one, h, List.foldl_append]
  rfl
theorem ixGo_app : ∀ (a : List Rc) (r : Rc) (s : Sx), ixGo s.pos s.st s.left s.org (a ++ [r]) = ixGo s.pos s.st s.left s.org a ++ ixOf (a.foldl stepS s) r
  | [], .st _, _ => rfl
  | [], .fr _ _ _, _ => rfl
  | .st t :: a, r, s => by
    have ih := ixGo_app a r (stepS s (.st t))
    exact ih
  | .fr h ns t :: a, r, s => by
    have ih := ixGo_app a r (stepS s (.fr h ns t))
    show _ :: ixGo _ _ _ _ (a ++ [r]) = _ :: (ixGo _ _ _ _ a ++ _)
    rw [show ixGo (s.pos + 1) (s.st + h.len) h.jt s.org (a ++ [r]) = _ from ih]
    rfl
theorem ixs_snoc {rs : List Rc} {i : Nat} {r : Rc} (h : rs[i]? = some r) : ixs (rs.take (i + 1)) = ixs (rs.take i) ++ ixOf (aft (rs.take i)) r := by
  rw [List.take_add_one, h]
  exact ixGo_app (rs.take i) r s0
theorem aft_pos : ∀ (a : List Rc) (s : Sx), (a.foldl stepS s).pos = s.pos + a.length
  | [], _ => rfl
  | .st t :: a, s => by rw [List.foldl_cons, aft_pos a, List.length_cons]; show s.pos + 1 + _ = _; omega
  | .fr h ns t :: a, s => by rw [List.foldl_cons, aft_pos a, List.length_cons]; show s.pos + 1 + _ = _; omega
theorem aft_pos' {rs : List Rc} {i : Nat} (h : i ≤ rs.length) : (aft (rs.take i)).pos = i := by
  unfold aft
  rw [aft_pos, List.length_take, Nat.min_eq_left h]
  exact Nat.zero_add i
theorem good_at : ∀ (rs : List Rc) (s : Sx) (i : Nat) (r : Rc), Good s.cur s.left rs → rs[i]? = some r → r.ok ∧ ∀ h ns t, r = .fr h ns t → t = ((rs.take i).foldl stepS s).cur ∧ ((rs.take i).foldl stepS s).left.1 + h.jt.1 ≤ h.len
  | [], _, _, _, _, h => by simp at h
  | .st t :: rs, s, 0, r, g, h => by
    have e : Rc.st t = r := Option.some.inj h
    subst e
    exact ⟨g.1, fun _ _ _ z => nomatch z⟩
  | .fr h' ns' t' :: rs, s, 0, r, g, h => by
    have e : Rc.fr h' ns' t' = r := Option.some.inj h
    subst e
    refine ⟨g.1, fun h ns t z => ?_⟩
    cases z
    exact ⟨g.2.1, g.2.2.1⟩
  | .st t :: rs, s, i + 1, r, g, h => good_at rs (stepS s (.st t)) i r g.2 h
  | .fr h' ns' t' :: rs, s, i + 1, r, g, h => good_at rs (stepS s (.fr h' ns' t')) i r g.2.2.2 h
theorem good_end : ∀ (rs : List Rc) (s : Sx), Good s.cur s.left rs → (rs.foldl stepS s).left = (0, 0)
  | [], _, g => g
  | .st t :: rs, s, g => good_end rs (stepS s (.st t)) g.2
  | .fr h' ns' t' :: rs, s, g => good_end rs (stepS s (.fr h' ns' t')) g.2.2.2
def frsOf (rs : List Rc) : List (List Int) := rs.filterMap fun | .st _ => none | .fr _ ns _ => some ns
theorem frs_snoc {rs : List Rc} {i : Nat} {r : Rc} (h : rs[i]? = some r) : frsOf (rs.take (i + 1)) = frsOf (rs.take i) ++ frOf r := by
  unfold frsOf
  rw [List.take_add_one, h, List.filterMap_append]
  cases r <;> rfl
theorem ixs_len_le : ∀ (rs : List Rc) (a b : Nat) (l : Jt) (o : Nat), (ixGo a b l o rs).length ≤ rs.length
  | [], _, _, _, _ => Nat.le_refl _
  | .st _ :: rs, a, b, l, o => Nat.le_succ_of_le (ixs_len_le rs _ _ _ _)
  | .fr _ _ _ :: rs, a, b, l, o => Nat.succ_le_succ (ixs_len_le rs _ _ _ _)
theorem ixs_le (rs : List Rc) (i : Nat) : (ixs (rs.take i)).length ≤ i := Nat.le_trans (ixs_len_le _ _ _ _ _) (by rw [List.length_take]; exact Nat.min_le_left _ _)
theorem frs_le (rs : List Rc) (i : Nat) : (frsOf (rs.take i)).length ≤ i := Nat.le_trans (List.length_filterMap_le _ _) (by rw [List.length_take]; exact Nat.min_le_left _ _)
/-! ### fields and methods -/
section
variable {K : PySem.W.Frag} {H : Hp} {Q : VK} {σ : L2.St} {ta tv : TE} {t : TA} {D : Ends}
def FldR (K : PySem.W.Frag) (f : Str) (x : V) (H1 : Hp) (Q : VK) : Prop := ∃ a C dx fs v, x = .ref a ∧ H1 a = some (.ins C dx fs) ∧ Cls K C ∧ NoAttr K C f ∧ fs.lookup f = some v ∧ Q v H1
theorem r_fldE {f : Str} (h : ta σ H fun x H1 => FldR K f x H1 Q) : tFld K ta f σ H Q := h
theorem r_fldR {f : Str} {x C dx : Addr} {fs : List (Str × V)} {v : V} (e : H x = some (.ins C dx fs)) (c : Cls K C) (n : NoAttr K C f) (l : fs.lookup f = some v) (h : Q v H) : FldR K f (.ref x) H Q := ⟨x, C, dx, fs, v, rfl, e, c, n, l, h⟩
def SetR (K : PySem.W.Frag) (f : Str) (x y : V) (H2 : Hp) (R : Hp → Prop) : Prop := ∃ a C dx fs, x = .ref a ∧ H2 a = some (.ins C dx fs) ∧ Cls K C ∧ NoAttr K C f ∧ fs.length < 1000 ∧ R (upd H2 a (.ins C dx (putF f y fs)))
theorem r_sFldE {f : Str} (h : tv σ H fun y H1 => ta σ H1 fun x H2 => SetR K f x y H2 fun H3 => D.nx σ H3) : sFld K ta tv f D σ H := h
theorem r_sFldR {f : Str} {x C dx : Addr} {fs : List (Str × V)} {y : V} {R : Hp → Prop} (e : H x = some (.ins C dx fs)) (c : Cls K C) (n : NoAttr K C f) (l : fs.length < 1000) (h : R (upd H x (.ins C dx (putF f y fs)))) : SetR K f (.ref x) y H R := ⟨x, C, dx, fs, rfl, e, c, n, l, h⟩
def MetR (C : Addr) (m : Str) (x : V) (H1 : Hp) (R : Hp → Prop) : Prop := ∃ a dx fs, x = .ref a ∧ H1 a = some (.ins C dx fs) ∧ fs.lookup m = none ∧ R H1
theorem r_methE {C : Addr} {m : Str} {sp : Sp} {dvs : List V} {E : XK} (h : ta σ H fun x H1 => MetR C m x H1 fun H1 => t σ H1 fun vs H2 => sp (x :: (vs ++ dvs)) H2 Q E) : tMeth C m sp dvs E ta t σ H Q := h
theorem r_methR {C : Addr} {m : Str} {x dx : Addr} {fs : List (Str × V)} {R : Hp → Prop} (e : H x = some (.ins C dx fs)) (l : fs.lookup m = none) (h : R H) : MetR C m (.ref x) H R := ⟨x, dx, fs, rfl, e, l, h⟩
def PropR (C : Addr) (sp : Sp) (dvs : List V) (E : XK) (x : V) (H1 : Hp) (Q : VK) : Prop := ∃ a dx fs, x = .ref a ∧ H1 a = some (.ins C dx fs) ∧ sp (.ref a :: dvs) H1 Q E
theorem r_propE {C : Addr} {sp : Sp} {dvs : List V} {E : XK} (h : ta σ H fun x H1 => PropR C sp dvs E x H1 Q) : tProp C sp dvs E ta σ H Q := h
end
/-! ### frames, blocks, joints -/
theorem frame_go : ∀ (rs : List Rc) (p s : Nat) (l : Jt) (o i : Nat) (x : Ix), (ixGo p s l o rs)[i]? = some x → ∃ k h ns t, x.rc = p + k ∧ rs[k]? = some (.fr h ns t) ∧ (frsOf rs)[i]? = some ns ∧ (blocksOf rs)[i]? = some (blockOf h ns) ∧ (jointsOf rs)[i]? = some h.jt ∧ x.len = h.len ∧ x.right = h.jt ∧ x.lev = h.lev ∧ x.step = h.step
  | [], _, _, _, _, _, _, h => by simp [ixGo] at h
  | .st t :: rs, p, s, l, o, i, x, e => by
    obtain ⟨k, h, ns, t', a, b, c⟩ := frame_go rs (p + 1) s l p i x e
    exact ⟨k + 1, h, ns, t', by omega, b, c⟩
  | .fr h ns t :: rs, p, s, l, o, 0, x, e => by
    have e1 : _ = x := Option.some.inj e
    subst e1
    exact ⟨0, h, ns, t, rfl, rfl, rfl, rfl, rfl, rfl, rfl, rfl, rfl⟩
  | .fr h' ns' t' :: rs, p, s, l, o, i + 1, x, e => by
    obtain ⟨k, h, ns, t, a, b, c⟩ := frame_go rs (p + 1) (s + h'.len) h'.jt o i x e
    exact ⟨k + 1, h, ns, t, by omega, b, c⟩
theorem frame_at {rs : List Rc} {i : Nat} {x : Ix} (e : (ixs rs)[i]? = some x) : ∃ h ns t, rs[x.rc]? = some (.fr h ns t) ∧ (frsOf rs)[i]? = some ns ∧ (blocksOf rs)[i]? = some (blockOf h ns) ∧ (jointsOf rs)[i]? = some h.jt ∧ x.len = h.len ∧ x.right = h.jt ∧ x.lev = h.lev ∧ x.step = h.step := by
  obtain ⟨k, h, ns, t, a, b, c⟩ := frame_go rs 0 0 (0, 0) 0 i x e
  exact ⟨h, ns, t, by rw [a, Nat.zero_add]; exact b, c⟩
theorem lens_go : ∀ (rs : List Rc) (p s : Nat) (l : Jt) (o : Nat), (ixGo p s l o rs).length = (blocksOf rs).length ∧ (frsOf rs).length = (blocksOf rs).length ∧ (jointsOf rs).length = (blocksOf rs).length
  | [], _, _, _, _ => ⟨rfl, rfl, rfl⟩
  | .st t :: rs, p, s, l, o => lens_go rs (p + 1) s l p
  | .fr h ns t :: rs, p, s, l, o => by
    obtain ⟨a, b, c⟩ := lens_go rs (p + 1) (s + h.len) h.jt o
    exact ⟨congrArg (· + 1) a, congrArg (· + 1) b, congrArg (· + 1) c⟩
theorem lens (rs : List Rc) : (ixs rs).length = (blocksOf rs).length ∧ (frsOf rs).length = (blocksOf rs).length ∧ (jointsOf rs).length = (blocksOf rs).length := lens_go rs 0 0 (0, 0) 0
theorem blockOf_len {h : Hd} {ns : List Int} {t : Tbs} (ok : (Rc.fr h ns t).ok) : (blockOf h ns).length = h.len := by
  unfold blockOf
  rw [joinL_len, List.length_map, ok.2.1]
theorem good_next : ∀ (rs : List Rc) (c : Tbs) (l : Jt), Good c l rs → l ≠ (0, 0) → l.1 ≤ (blocksOf rs).flatten.length ∧ 1 ≤ (blocksOf rs).flatten.length
  | [], _, _, g, h => absurd g h
  | .st t :: rs, c, l, g, h => good_next rs t l g.2 h
  | .fr hd ns t :: rs, c, l, g, h => by
    have bl := blockOf_len g.1
    have := g.2.2.1
    have := g.1.1.1
    show l.1 ≤ (blockOf hd ns ++ (blocksOf rs).flatten).length ∧ 1 ≤ (blockOf hd ns ++ (blocksOf rs).flatten).length
    rw [List.length_append]
    omega
theorem fits_go : ∀ (rs : List Rc) (c : Tbs) (l : Jt) (at_ last before n : Nat), Good c l rs → n = at_ + (blocksOf rs).flatten.length → ((l.1 = before ∧ last = at_) ∨ (l.1 = 0 ∧ before + last ≤ at_)) → Fits n last before (placesGo at_ (blocksOf rs) (jointsOf rs))
  | [], _, _, _, _, _, _, _, _, _ => trivial
  | .st t :: rs, c, l, at_, last, before, n, g, e, iv => fits_go rs t l at_ last before n g.2 e iv
  | .fr hd ns t :: rs, c, l, at_, last, before, n, g, e, iv => by
    have bl := blockOf_len g.1
    have g1 := g.2.2.1
    have hl := g.1.1.1
    have hj := g.1.1.2.2.1
    have e' : n = at_ + (blockOf hd ns).length + (blocksOf rs).flatten.length := by
      rw [e]
      show at_ + (blockOf hd ns ++ (blocksOf rs).flatten).length = _
      rw [List.length_append]
      omega
    show Fits n last before (if hd.jt = (0, 0) then placesGo (at_ + (blockOf hd ns).length) (blocksOf rs) (jointsOf rs) else (at_ + (blockOf hd ns).length, hd.jt) :: placesGo (at_ + (blockOf hd ns).length) (blocksOf rs) (jointsOf rs))
    by_cases z : hd.jt = (0, 0)
    · rw [if_pos z]
      refine fits_go rs _ _ _ _ _ _ g.2.2.2 e' (.inr ⟨by rw [z], ?_⟩)
      rcases iv with ⟨a, b⟩ | ⟨a, b⟩ <;> omega
    · rw [if_neg z]
      have gn := good_next rs _ _ g.2.2.2 z
      refine ⟨?_, ?_, ?_, ?_, hj, fits_go rs _ _ _ _ _ _ g.2.2.2 e' (.inl ⟨rfl, rfl⟩)⟩
      · rcases iv with ⟨a, b⟩ | ⟨a, b⟩ <;> omega
      · omega
      · rcases iv with ⟨a, b⟩ | ⟨a, b⟩ <;> omega
      · omega
theorem fits_good {rs : List Rc} (g : Good start0 (0, 0) rs) : Fits (blocksOf rs).flatten.length 0 0 (placesGo 0 (blocksOf rs) (jointsOf rs)) := fits_go rs _ _ 0 0 0 _ g (Nat.zero_add _).symm (.inr ⟨rfl, Nat.le_refl _⟩)
theorem flat_64 : ∀ (rs : List Rc) (c : Tbs) (l : Jt), Good c l rs → (blocksOf rs).flatten.length ≤ 64 * rs.length
  | [], _, _, _ => Nat.zero_le _
  | .st t :: rs, c, l, g => Nat.le_trans (flat_64 rs t l g.2) (by rw [List.length_cons]; omega)
  | .fr hd ns t :: rs, c, l, g => by
    have bl := blockOf_len g.1
    have := flat_64 rs _ _ g.2.2.2
    have := g.1.1.2.1
    show (blockOf hd ns ++ (blocksOf rs).flatten).length ≤ _
    rw [List.length_append, List.length_cons]
    omega
theorem blocks_le : ∀ (rs : List Rc), (blocksOf rs).length ≤ rs.length
  | [] => Nat.le_refl _
  | .st _ :: rs => Nat.le_succ_of_le (blocks_le rs)
  | .fr _ _ _ :: rs => Nat.succ_le_succ (blocks_le rs)
theorem ixs_pre (rs : List Rc) (i : Nat) : ∃ more, ixs rs = ixs (rs.take i) ++ more := by
  have g : ∀ (b a : List Rc), ∃ more, ixs (a ++ b) = ixs a ++ more := by
    intro b
    induction b with
    | nil => intro a; exact ⟨[], by rw [List.append_nil, List.append_nil]⟩
    | cons r b ih =>
      intro a
      obtain ⟨more, h⟩ := ih (a ++ [r])
      refine ⟨ixOf (a.foldl stepS s0) r ++ more, ?_⟩
      rw [show a ++ r :: b = (a ++ [r]) ++ b by rw [List.append_assoc]; rfl, h, ← List.append_assoc]
      congr 1
      exact ixGo_app a r s0
  obtain ⟨more, h⟩ := g (rs.drop i) (rs.take i)
  rw [List.take_append_drop] at h
  exact ⟨more, h⟩
abbrev Fs := List (Str × V)
theorem pf1 (a : V) : putF "own_records" a [] = ([("own_records", a)] : Fs) := rfl
theorem pf2 (a b : V) : putF "rows" b [("own_records", a)] = ([("own_records", a), ("rows", b)] : Fs) := by rw [putF, if_neg (by decide +kernel)]; rfl
theorem pf3 (a b c : V) : putF "read" c [("own_records", a), ("rows", b)] = ([("own_records", a), ("rows", b), ("read", c)] : Fs) := by rw [putF, if_neg (by decide +kernel), putF, if_neg (by decide +kernel)]; rfl
theorem pf4 (a b c d : V) : putF "blocks" d [("own_records", a), ("rows", b), ("read", c)] = ([("own_records", a), ("rows", b), ("read", c), ("blocks", d)] : Fs) := by rw [putF, if_neg (by decide +kernel), putF, if_neg (by decide +kernel), putF, if_neg (by decide +kernel)]; rfl
theorem pf5 (a b c d e : V) : putF "own_sound" e [("own_records", a), ("rows", b), ("read", c), ("blocks", d)] = ([("own_records", a), ("rows", b), ("read", c), ("blocks", d), ("own_sound", e)] : Fs) := by
  rw [putF, if_neg (by decide +kernel), putF, if_neg (by decide +kernel), putF, if_neg (by decide +kernel), putF, if_neg (by decide +kernel)]; rfl
/-! ### the index's records -/
def stepR (ix : List Ix) (found : List Nat) (f : Nat) : List Nat := match ix[f]? with
  | some x => found ++ (List.range (x.rc + 1 - runFrom found x)).map (· + runFrom found x)
  | none => found
theorem recsGo_eq (ix : List Ix) : ∀ (fs found : List Nat), recsGo ix found fs = fs.foldl (stepR ix) found
  | [], _ => rfl
  | f :: fs, found => by
    rw [recsGo, List.foldl_cons]
    cases h : ix[f]? with
    | none => rw [show stepR ix found f = found by unfold stepR; rw [h]]; exact recsGo_eq ix fs found
    | some x => rw [show stepR ix found f = found ++ (List.range (x.rc + 1 - runFrom found x)).map (· + runFrom found x) by unfold stepR; rw [h]]; exact recsGo_eq ix fs _
theorem recs_snoc {ix : List Ix} {fs : List Nat} {i f : Nat} {x : Ix} (h : fs[i]? = some f) (hx : ix[f]? = some x) :
    recsOf ix (fs.take (i + 1)) = recsOf ix (fs.take i) ++ (List.range (x.rc + 1 - runFrom (recsOf ix (fs.take i)) x)).map (· + runFrom (recsOf ix (fs.take i)) x) := by
  unfold recsOf
  rw [recsGo_eq, recsGo_eq, List.take_add_one, h, List.foldl_append]
  show stepR ix _ f = _
  unfold stepR
  rw [hx]
theorem cI_app (a b : List Nat) : cI (a ++ b) = cI a ++ cI b := by unfold cI; exact List.map_append
theorem lastN_at {found : List Nat} (h : found ≠ []) : ((cI found).map V.int)[((cI found).map V.int).length - 1]? = some (.int (lastN found)) := by
  have hl : 0 < found.length := List.length_pos_iff.mpr h
  unfold cI lastN
  rw [List.length_map, List.length_map, List.getElem?_map, List.getElem?_map, List.getD_eq_getElem?_getD, List.getElem?_eq_getElem (by omega)]
  rfl
theorem lastN_mem {found : List Nat} (h : found ≠ []) : lastN found ∈ found := by
  have hl : 0 < found.length := List.length_pos_iff.mpr h
  unfold lastN
  rw [List.getD_eq_getElem?_getD, List.getElem?_eq_getElem (by omega)]
  exact List.getElem_mem _
theorem cI_nil {found : List Nat} : cI found = [] ↔ found = [] := by unfold cI; exact List.map_eq_nil_iff
/-! ### the unread frames -/
def goneAt (ix : List Ix) (L f : Nat) : Bool := match ix[f]? with
  | some x => x.gone L
  | none => false
def unreadN (ix : List Ix) (L n : Nat) : List Nat := (List.range n).filter (goneAt ix L)
theorem unreadN_s (ix : List Ix) (L n : Nat) : unreadN ix L (n + 1) = unreadN ix L n ++ (if goneAt ix L n then [n] else []) := by
  unfold unreadN
  rw [List.range_succ, List.filter_append]
  congr 1
  cases h : goneAt ix L n
  · rw [List.filter_cons_of_neg (by rw [h]; exact Bool.false_ne_true)]; rfl
  · rw [List.filter_cons_of_pos h]; rfl
theorem unreadN_len (ix : List Ix) (L n : Nat) : (unreadN ix L n).length ≤ n := Nat.le_trans (List.length_filter_le _ _) (by rw [List.length_range]; exact Nat.le_refl _)
theorem unread_eq (ix : List Ix) (L : Nat) : unreadL ix L = unreadN ix L ix.length := rfl
/-! ### the touched stretches -/
def stepT (ix : List Ix) (found : List (Int × Int)) (f : Nat) : List (Int × Int) := match ix[f]? with
  | some x => mergeS found (stretchOf x)
  | none => found
theorem touch_snoc {ix : List Ix} {fs : List Nat} {i f : Nat} {x : Ix} (h : fs[i]? = some f) (hx : ix[f]? = some x) :
    (fs.take (i + 1)).foldl (stepT ix) [] = mergeS ((fs.take i).foldl (stepT ix) []) (stretchOf x) := by
  rw [List.take_add_one, h, List.foldl_append]
  show stepT ix _ f = _
  unfold stepT
  rw [hx]
theorem merge_eq (found : List (Int × Int)) (p : Int × Int) : mergeS found p = if found = [] then [] ++ [(p.1, p.2)] else if p.1 ≤ (found.getLastD (0, 0)).2 then found.dropLast ++ [((found.getLastD (0, 0)).1, p.2)] else found ++ [(p.1, p.2)] := by
  unfold mergeS
  by_cases h : found = []
  · subst h; rfl
  · rw [if_neg h, List.getLastD_eq_getLast?, List.getLast?_eq_some_getLast h]
    rfl
section
variable {K : PySem.W.Frag} {H : Hp} {Q : VK}
theorem dp_prs : ∀ {vs : List V} {ps : List (Int × Int)}, All2 (fun v p => Pr K H v p.1 p.2) vs ps → DpAll K H vs (ps.map fun p => PyData.tuple [.int p.1, .int p.2])
  | [], [], _ => .nil
  | [], _ :: _, h => by have := h.len; simp at this
  | _ :: _, [], h => by have := h.len; simp at this
  | v :: vs, p :: ps, h => by
    refine .cons ?_ (dp_prs ⟨Nat.succ.inj h.len, fun i d e => h.at_ (i + 1) d e⟩)
    obtain ⟨u, e, r⟩ := h.at_ 0 p rfl
    have e1 : v = u := Option.some.inj e
    rw [e1]
    exact dp_pair r
theorem sh_prs (ps : List (Int × Int)) : SeqAt.shaped (.list (ps.map fun p => PyData.tuple [.int p.1, .int p.2])) = true := by
  have h1 : ∀ ps : List (Int × Int), PyData.canLayAll0 (ps.map fun p => PyData.tuple [.int p.1, .int p.2]) = true := by
    intro ps
    induction ps with
    | nil => rfl
    | cons p ps ih => rw [List.map_cons, PyData.canLayAll0, ih]; rfl
  have h2 : ∀ ps : List (Int × Int), PyData.depthAll (ps.map fun p => PyData.tuple [.int p.1, .int p.2]) ≤ 2 := by
    intro ps
    induction ps with
    | nil => exact Nat.zero_le _
    | cons p ps ih =>
      rw [List.map_cons, PyData.depthAll]
      have : PyData.depth (.tuple [.int p.1, .int p.2]) ≤ 2 := by simp [PyData.depth, PyData.depthAll]
      omega
  have h3 := h2 ps
  unfold SeqAt.shaped
  rw [PyData.canLay0, h1, PyData.depth]
  exact decide_eq_true (by omega)
/-- found != [] -/
theorem r_neLs {x : V} {b : Addr} {vs : List V} {ps : List (Int × Int)} (h1 : ∃ a, x = .ref a ∧ H a = some (.lst vs)) (h2 : All2 (fun v p => Pr K H v p.1 p.2) vs ps) (h3 : H b = some (.lst [])) (h : Q (.bl (!decide (ps = []))) H) : rNeD K x (.ref b) H Q := by
  obtain ⟨a, rfl, ha⟩ := h1
  refine ⟨_, _, .lst (SqL.of ha) (dp_prs h2), .lst (SqL.of h3) .nil, sh_prs ps, rfl, ?_⟩
  have e : PyData.eqv (.list (ps.map fun p => PyData.tuple [.int p.1, .int p.2])) (.list []) = decide (ps = []) := by
    cases ps <;> rfl
  rw [e]
  exact h
end
theorem all2_take {α : Type} {R : V → α → Prop} {vs : List V} {ds : List α} (h : All2 R vs ds) (n : Nat) : All2 R (vs.take n) (ds.take n) := by
  refine ⟨by rw [List.length_take, List.length_take, h.len], fun i d e => ?_⟩
  have hi := (List.getElem?_eq_some_iff.mp e).1
  rw [List.length_take] at hi
  rw [List.getElem?_take_of_lt (by omega)] at e
  obtain ⟨v, e1, r⟩ := h.at_ i d e
  exact ⟨v, by rw [List.getElem?_take_of_lt (by omega)]; exact e1, r⟩
theorem all2_dropLast {α : Type} {R : V → α → Prop} {vs : List V} {ds : List α} (h : All2 R vs ds) : All2 R vs.dropLast ds.dropLast := by
  rw [List.dropLast_eq_take, List.dropLast_eq_take, h.len]
  exact all2_take h _
theorem r_neSame {K : PySem.W.Frag} {H : Hp} {Q : VK} {x y : V} {d : PyData} (h1 : Dp K H x d) (h2 : Dp K H y d) (s : SeqAt.shaped d = true) (e : PyData.eqv d d = true) (h : Q (.bl false) H) : rNeD K x y H Q :=
  ⟨d, d, h1, h2, s, s, by rw [e]; exact h⟩
/-! ### blocks with silence -/
theorem quiet_at : ∀ (L : Nat) (ix : List Ix) (bls : List (List Int)) (f : Nat) (x : Ix) (b : List Int), ix[f]? = some x → bls[f]? = some b → (quietGo L ix bls)[f]? = some (if x.gone L then List.replicate x.len 0 else b)
  | L, [], _, _, _, _, h, _ => by simp at h
  | L, _ :: _, [], _, _, _, _, h => by simp at h
  | L, x0 :: ix, b0 :: bls, 0, x, b, h1, h2 => by
    have e1 : x0 = x := Option.some.inj h1
    have e2 : b0 = b := Option.some.inj h2
    subst e1 e2
    rfl
  | L, x0 :: ix, b0 :: bls, f + 1, x, b, h1, h2 => quiet_at L ix bls f x b h1 h2
theorem quiet_len : ∀ (L : Nat) (ix : List Ix) (bls : List (List Int)), ix.length = bls.length → (quietGo L ix bls).length = ix.length
  | L, [], [], _ => rfl
  | L, [], _ :: _, h => by simp at h
  | L, _ :: _, [], h => by simp at h
  | L, x0 :: ix, b0 :: bls, h => congrArg (· + 1) (quiet_len L ix bls (Nat.succ.inj h))
theorem rep_map (n : Nat) : (List.replicate n [V.int 0]).flatten = (List.replicate n (0 : Int)).map V.int := by
  induction n with
  | zero => rfl
  | succ n ih => rw [List.replicate_succ, List.flatten_cons, ih, List.replicate_succ]; rfl
theorem r_repL {H : Hp} {Q : VK} {l : Addr} {n : Nat} (e : H l = some (.lst [.int 0])) (hn : n ≤ 1000000) (h : ∀ p, H p = none → Q (.ref p) (upd H p (.lst ((List.replicate n (0 : Int)).map V.int)))) : rRep (.ref l) (.int n) H Q := by
  have p63 : (2 : Int) ^ 63 = 9223372036854775808 := by decide
  refine ⟨l, n, _, rfl, rfl, e, by omega, by omega, by rw [Int.toNat_natCast]; show 1 * n ≤ _; rw [Nat.one_mul]; exact sz hn, ?_⟩
  rw [Int.toNat_natCast, rep_map]
  exact h
theorem r_dget2 {td ty tx : TE} {σ : L2.St} {H : Hp} {Q : VK} (h : td σ H fun x H1 => ∃ a, x = .ref a ∧ IsD H1 a ∧ ty σ H1 fun y H2 => tx σ H2 fun z H3 => ∃ o, DGet H3 a y o ∧ Q (o.getD z) H3) : tDGet2 td ty tx σ H Q := h
/-! ### the lambda that fetches -/
def lamSc (x : Str) : Scope := { kind := .function, names := [("_law_at", .local), (x, .free)], isGenerator := false, isCoroutine := false, more := [] }
def lamPs (ap : Pos) : Arguments := { posonlyargs := [], args := [{ arg := "_law_at", annotation := none, pos := ap }], vararg := none, kwonlyargs := [], kw_defaults := [], kwarg := none, defaults := [] }
def lamBd (x : Str) (p1 p2 p3 : Pos) : Expr := .Subscript (.Name x p1) (.Name "_law_at" p2) p3
abbrev lamEn (q x : Str) (L f c' c : Addr) : Env := PySem.W.envX q (lamSc x) L f (.ref c') [(x, c)]
theorem lam_free {x : Str} (hx : (x == ("_law_at" : Str)) = false) : (lamSc x).names.lookup x = some .free := by
  show List.lookup x [(("_law_at" : Str), NameKind.local), (x, .free)] = _
  simp [List.lookup, hx]
theorem lam_loc (x : Str) : (lamSc x).names.lookup ("_law_at" : Str) = some NameKind.local := by
  show List.lookup ("_law_at" : Str) [(("_law_at" : Str), NameKind.local), (x, .free)] = _
  simp [List.lookup]
/-- the lambda at fa: called with a place that is asked for, it gives the record -/
structure FetchAt (P : Program) (w : World) (K : PySem.W.Frag) (mg : Str → Option Value) (base : Heap) (fa : Addr) (G0 : Hp) (rs : List Rc) (L : Nat) : Prop where
  fn : PySem.W.FnAt fa base
  run : ∀ (A : Around) (outer : List Env) (s : Shared) (H : Hp) (u : Value) (i : Nat) (r : Rc) (Q : VK), Room 1 A → Env0 P w K mg base A outer s H → RelV (.int i) u → Same G0 H → Need rs L i → rs[i]? = some r → (∀ v, RcV K G0 v r → Q v H) →
    codeAny (model P w) A (.call (.ref fa) ⟨[u], []⟩) (CR CX0 outer P w H s Q E0) s
theorem pe_callF {X : Cx} {i : Nat} {fa : Addr} {G0 : Hp} {rs : List Rc} {L : Nat} {x : Str} {p pos : Pos} {e : Expr} {es : List Expr} {t : TA} (hF : FetchAt X.prog X.w X.K X.mg X.base fa G0 rs L) (hr : Room 1 X.A) (hN : X.N[i]? = some x) (hv : Vis X.env.scope x) (ha : PA X (e :: es) t)
    (hdb : (x == ("__debug__" : Str)) = false := by decide) (hcd : (x == ("__classdict__" : Str)) = false := by decide)
    (he : starEach (e :: es) X.env = (false, eval e X.env) :: starEach es X.env := by rfl) (hpl : (backTo pos (starEach es X.env)).any (·.1) = false := by rfl) : PE X (.Call (.Name x p) (e :: es) [] pos) (tCallL i fa (sp_fetch X.K G0 rs (Need rs L)) [] E0 t) := by
  refine ⟨fun pins s σ H Q I h => ?_⟩
  obtain ⟨hs, ht⟩ := h
  refine wpAny_Call_Name_kw (thn ((pe_var (pos := p) hN hv hdb hcd).run pins s σ H (fun v H1 => v = .ref fa ∧ H1 = H) I ⟨.ref fa, hs, rfl, rfl⟩) fun u s1 ⟨v, H1, I1, r1, q1⟩ => ?_)
  obtain ⟨rfl, rfl⟩ := q1
  cases r1
  obtain ⟨oc, od, fd, sl, hfa⟩ := hF.fn
  refine PySem.W.callWith_F ⟨oc, od, fd, sl, I1.bk _ _ hfa⟩ (thn (ha.run pos pins s1 σ _ _ I1 ht) fun us s2 ⟨vs, H2, I2, r, q⟩ => ⟨⟨oc, od, fd, sl, I2.bk _ _ hfa⟩, ?_⟩) he hpl
  have q : sp_fetch X.K G0 rs (Need rs L) (vs ++ []) H2 Q E0 := q
  rw [List.append_nil] at q
  obtain ⟨n, rc, rfl, sG, hS, hri, hQ⟩ := q
  cases r with
  | cons ru rr =>
    cases rr
    refine wpAny_call (codeAny_mono (hF.run X.A X.stack s2 H2 _ n rc Q hr I2.env0 ru sG hS hri hQ) fun r s' hq => ?_)
    cases r with
    | error e => exact hq.elim
    | ok fl =>
      cases fl with
      | ret u => exact I2.after hq
      | next => exact False.elim hq
      | brk => exact False.elim hq
      | cont => exact False.elim hq
/-- the context of the lambda's body -/
def fetCx (P : Program) (w : World) (K : PySem.W.Frag) (mg : Str → Option Value) (base : Heap) (A : Around) (outer : List Env) (s : Shared) (H : Hp) (q x : Str) (f c' c : Addr) : Cx where
  prog := P
  w := w
  K := K
  mg := mg
  base := base
  A := A.deeper (lamEn q x s.heap.objs.size f c' c)
  N := [x, "_law_at"]
  s_0 := s
  H_0 := H
  env := lamEn q x s.heap.objs.size f c' c
  outer := outer
  stack := lamEn q x s.heap.objs.size f c' c :: outer
  ex := []
  fn := fun _ => false
  calm := true
  pn := []
  xe := fun e s' => wpAny (model P w) (A.deeper (lamEn q x s.heap.objs.size f c' c)) (leaving (lamEn q x s.heap.objs.size f c' c) e) (fun _ s'' => CX0 outer H s E0 e s'') (fun e' s'' => CX0 outer H s E0 e' s'') s'
theorem fet_inv {P : Program} {w : World} {K : PySem.W.Frag} {mg : Str → Option Value} {base : Heap} {A : Around} {outer : List Env} {s : Shared} {H : Hp} {q x : Str} {f c' c lst : Addr} {u : Value} {v : V} {h₁ : Heap} {tk : Nat} (hx : (x == ("_law_at" : Str)) = false)
    (e0 : Env0 P w K mg base A outer s H) (hd : A.handled = none) (hc : ∃ oc, base.get? c = some oc ∧ oc.data = .cell (some (.ref lst))) (ru : RelV v u) (hns : h₁.Ns s.heap.objs.size fun y => ([("_law_at", u)] : List (Str × Value)).reverse.lookup y)
    (kp : ∀ b o, s.heap.get? b = some o → h₁.get? b = some o) : Inv (fetCx P w K mg base A outer s H q x f c' c) [] [some (.ref lst), some v] H { s with heap := h₁, toks := tk } := by
  obtain ⟨oc, hoc, hcd⟩ := hc
  obtain ⟨hoc1, hoc2⟩ := e0.bs _ _ hoc
  have noA : ∀ b : Addr, b ∉ (fetCx P w K mg base A outer s H q x f c' c).ex := fun b z => absurd (show b ∈ ([] : List Addr) from z) (by simp)
  have cells : ∀ {y c2}, ([(x, c)] : List (Str × Addr)).lookup y = some c2 → y = x ∧ c2 = c := fun {y c2} e => by
    have := PySem.mem_of_lookup e
    rw [List.mem_singleton] at this
    cases this
    exact ⟨rfl, rfl⟩
  have look : ([(x, c)] : List (Str × Addr)).lookup x = some c := by simp [List.lookup]
  refine ⟨⟨e0.mod, rfl, rfl, rfl, Nat.le_refl _, fun y z c2 e1 e2 => ?_, fun y hy => ?_, fun y c2 z _ => ?_, fun _ => hd, Around.frames_deeper e0.frames, .inr ⟨rfl, rfl⟩, fun b z => absurd z (noA b), e0.bs, e0.bsz, fun b _ _ => noA b,
      fun b z => absurd z (noA b), e0.funs, e0.frf⟩,
    rfl, e0.bare, Un.kept kp, ⟨_, hns, fun i y v' e1 e2 e3 => ?_⟩, fun y c2 e => ?_, e0.hok.fresh (Nat.le_refl _), fun y c2 e => ?_, fun p hp => absurd (show p ∈ ([] : List (Addr × Obj)) ++ [] from hp) (by simp), e0.hok.kept kp, rfl⟩
  · exact (cells e1).1.trans (cells e2).1.symm
  · have hy : (lamSc x).names.lookup y = some .cell ∨ (lamSc x).names.lookup y = some .free := hy
    have hm : ∃ k, (y, k) ∈ (lamSc x).names ∧ (k = .cell ∨ k = .free) := by
      rcases hy with hy | hy
      · exact ⟨_, PySem.mem_of_lookup hy, .inl rfl⟩
      · exact ⟨_, PySem.mem_of_lookup hy, .inr rfl⟩
    obtain ⟨k, hm, hk⟩ := hm
    rcases List.mem_cons.mp hm with z | z
    · cases z
      rcases hk with z | z <;> cases z
    · have := List.mem_singleton.mp z
      cases this
      exact ⟨c, look⟩
  · have z : false = true := z
    cases z
  · match i, e1, e2 with
    | 0, e1, e2 =>
      have e1 : x = y := Option.some.inj e1
      subst e1
      have e2 : V.ref lst = v' := Option.some.inj (Option.some.inj e2)
      subst e2
      exact ⟨.ref lst, rfl, .inr ⟨.inr (lam_free hx), c, look, oc, kp _ _ hoc1, hcd⟩⟩
    | 1, e1, e2 =>
      have e1 : ("_law_at" : Str) = y := Option.some.inj e1
      subst e1
      have e2 : v = v' := Option.some.inj (Option.some.inj e2)
      subst e2
      exact ⟨u, ru, .inl ⟨lam_loc x, by simp [List.lookup]⟩⟩
    | n + 2, e1, _ => exact nomatch (show (none : Option Str) = some y from e1)
  · obtain ⟨_, rfl⟩ := cells e
    exact ⟨_, oc, kp _ _ hoc1, hcd⟩
  · obtain ⟨_, rfl⟩ := cells e
    exact hoc2
theorem fetch_ok {P : Program} {w : World} {K : PySem.W.Frag} {mg : Str → Option Value} {base : Heap} {G0 : Hp} {rs : List Rc} {L : Nat} {q x : Str} {f c' c lst : Addr} {pm ctv : Value} {ap p1 p2 p3 : Pos} {vs : List V} (hx : (x == ("_law_at" : Str)) = false)
    (hxd : (x == ("__debug__" : Str)) = false) (hxc : (x == ("__classdict__" : Str)) = false)
    (hf : base.get? f = some (PySem.W.kla_obj "<lambda>" q (lamPs ap) (lamBd x p1 p2 p3) (lamSc x) [(x, c)] pm c' ctv)) (hc : ∃ oc, base.get? c = some oc ∧ oc.data = .cell (some (.ref lst))) (hco : G0 c' = some (LamX.CodeO c' q)) (hl : G0 lst = some (.lst vs))
    (hv : ∀ i r, Need rs L i → rs[i]? = some r → ∃ v, vs[i]? = some v ∧ RcV K G0 v r) : FetchAt P w K mg base f G0 rs L := by
  refine ⟨⟨_, _, _, _, hf⟩, fun A outer s H u i r Q hr e0 ru sG need hri hQ => ?_⟩
  obtain ⟨⟨oc, ws, t, hoc, hdc, hvc⟩, _, _⟩ := e0.hok c' _ (sG _ _ hco)
  refine PySem.W.kla_callFunE hr.depth (e0.bs _ _ hf).1 rfl rfl rfl rfl ⟨c', oc, ws, t, rfl, hoc, hdc, hvc⟩ ?_
  rw [show bindArgs (PySem.W.kla_fn "<lambda>" q (lamPs ap) (lamBd x p1 p2 p3) (lamSc x) [(x, c)] pm (.ref c') ctv) ⟨[u], []⟩ = pure [(("_law_at" : Str), u)] from rfl]
  have lim : s.heap.NoLimit := e0.mod.nolimit.keeps fun b o e => (e0.bs b o e).1
  have nocell : ∀ y ∈ (lamSc x).names, y.2 ≠ .cell := fun y hy => by
    rcases List.mem_cons.mp hy with z | z
    · rw [z]; exact fun z => nomatch z
    · rw [List.mem_singleton.mp z]; exact fun z => nomatch z
  refine wpAny_pure (wpAny_newFunctionEnv nocell (fun y hy => by rw [List.mem_singleton.mp hy]; exact lam_loc x) (fun h₁ hns hsb => ⟨lim.fresh _ hsb, ?_⟩) rfl)
  show codeAny _ _ (.expr (lamBd x p1 p2 p3) (lamEn q x s.heap.objs.size f c' c)) _ _
  have kp : ∀ b o, s.heap.get? b = some o → h₁.get? b = some o := fun b o e => hsb.extBut b o (Nat.ne_of_lt (Heap.lt_size e)) (Heap.get?_push_of_some _ e)
  have J := fet_inv (q := q) (f := f) (c' := c') (tk := s.toks + ([("_law_at", u)] : List (Str × Value)).length) hx e0 hr.hd hc ru hns kp
  obtain ⟨v, hvi, hV⟩ := hv i r need hri
  have B : PE (fetCx P w K mg base A outer s H q x f c' c) (lamBd x p1 p2 p3) (tOp (rIxL K) (tVar 0) (tVar 1)) :=
    pe_ix ix_list (pe_var (i := 0) rfl (.inr (.inr (lam_free hx))) hxd hxc) (pe_var (i := 1) rfl (.inl (lam_loc x)) (by decide) (by decide)) (fun _ _ => rfl)
  refine PySem.W.kla_codeExpr (wpAny_mono (B.run [] _ _ H Q J ?_) (fun v s' hq => ?_) fun e s' hq => hq)
  · refine r_op (r_var rfl (r_var rfl ?_))
    exact r_ixL (SqL.of (sG _ _ hl)) (at0 hvi) (hQ v hV)
  · obtain ⟨w', H', J', rv, q⟩ := hq
    exact ⟨w', H', J'.os, J'.bare, J'.base, J'.hok, rv, q⟩
/-! ### another base: the heap shows what it has shown, and two objects more -/
theorem re_base {X : Cx} {pins : List (Addr × Obj)} {σ : L2.St} {H : Hp} {s : Shared} {f c : Addr} {of oc : Obj} (I : Inv X pins σ H s) (hf : s.heap.get? f = some of) (hc : s.heap.get? c = some oc) (nf : H f = none) (nc : H c = none) (ff : f ∉ frs X.stack) (fc : c ∉ frs X.stack) :
    ∃ base', Env0 X.prog X.w X.K X.mg base' X.A X.stack s H ∧ base'.get? f = some of ∧ base'.get? c = some oc := by
  have e0 := I.env0
  let l := (List.range s.heap.objs.size).filter fun b => (X.base.get? b).isNone && (decide (b ≠ f) && decide (b ≠ c))
  have inl : ∀ b, b ∈ l ↔ b < s.heap.objs.size ∧ X.base.get? b = none ∧ b ≠ f ∧ b ≠ c := fun b => by
    rw [List.mem_filter, List.mem_range, Bool.and_eq_true, Bool.and_eq_true, decide_eq_true_iff, decide_eq_true_iff, Option.isNone_iff_eq_none]
  have get : ∀ b o, s.heap.get? b = some o → (X.base.get? b ≠ none ∨ b = f ∨ b = c) → (PySem.W.hideAll s.heap l).get? b = some o := fun b o e k => PySem.W.hideAll_get l e fun z => by
    obtain ⟨_, z1, z2, z3⟩ := (inl b).mp z
    rcases k with k | k | k
    · exact k z1
    · exact z2 k
    · exact z3 k
  have of_ : ∀ b o, (PySem.W.hideAll s.heap l).get? b = some o → s.heap.get? b = some o ∧ (X.base.get? b ≠ none ∨ b = f ∨ b = c) := fun b o e => by
    have e1 := PySem.W.of_hideAll l e
    refine ⟨e1, Classical.byContradiction fun z => ?_⟩
    have hb : b ∈ l := (inl b).mpr ⟨Heap.lt_size e1, Classical.byContradiction fun k => z (.inl k), fun k => z (.inr (.inl k)), fun k => z (.inr (.inr k))⟩
    rw [PySem.W.hideAll_none l hb] at e
    cases e
  have up : ∀ b o, X.base.get? b = some o → (PySem.W.hideAll s.heap l).get? b = some o := fun b o e => get b o (e0.bs b o e).1 (.inl (by rw [e]; exact fun z => nomatch z))
  have noF : ∀ b ∈ frs X.stack, (PySem.W.hideAll s.heap l).get? b = none := fun b hb => by
    cases e : (PySem.W.hideAll s.heap l).get? b with
    | none => rfl
    | some o =>
      obtain ⟨_, k | k | k⟩ := of_ b o e
      · exact absurd (e0.funs.mem hb).1 k
      · rw [k] at hb; exact absurd hb ff
      · rw [k] at hb; exact absurd hb fc
  have funs : ∀ (st : List Env), s.heap.FunFrames X.base st → (∀ b ∈ frs st, (PySem.W.hideAll s.heap l).get? b = none) → s.heap.FunFrames (PySem.W.hideAll s.heap l) st := by
    intro st
    induction st with
    | nil => exact fun _ _ => trivial
    | cons env r ih =>
      rintro ⟨hk, ⟨L, o, hL, hn, ho, hd⟩, hr⟩ hall
      have mem : L ∈ frs (env :: r) := by unfold frs; rw [List.filterMap_cons, hL]; exact List.mem_cons_self ..
      refine ⟨hk, ⟨L, o, hL, hall L mem, ho, hd⟩, ih hr fun b hb => hall b ?_⟩
      unfold frs at hb ⊢
      rw [List.filterMap_cons, hL]
      exact List.mem_cons_of_mem _ hb
  obtain ⟨mb, hmb, hbl⟩ := e0.mod.blt
  refine ⟨PySem.W.hideAll s.heap l, ⟨e0.frames, ⟨e0.mod.kin.keeps up, e0.mod.glob.keeps up, ⟨mb, hmb.keeps up, hbl⟩, e0.mod.nolimit.keeps up⟩, fun b o e => ?_, Nat.le_of_eq (PySem.W.hideAll_size _ _), funs _ e0.funs noF, e0.frf, e0.hok, e0.bare⟩, get f of hf (.inr (.inl rfl)), get c oc hc (.inr (.inr rfl))⟩
  obtain ⟨e1, k⟩ := of_ b o e
  refine ⟨e1, ?_⟩
  rcases k with k | k | k
  · cases e2 : X.base.get? b with
    | none => exact absurd e2 k
    | some o2 => exact (e0.bs b o2 e2).2
  · rw [k]; exact nf
  · rw [k]; exact nc
/-! ### dicts, one step at a time -/
section
variable {td ty tv : TE} {σ : L2.St} {H : Hp} {Q : VK} {D : Ends}
theorem r_dgetE (h : td σ H fun x H1 => ty σ H1 fun y H2 => ∃ a v, x = .ref a ∧ DGet H2 a y (some v) ∧ Q v H2) : tDGet td ty σ H Q := h
theorem r_dnotE (h : ty σ H fun y H1 => td σ H1 fun x H2 => ∃ a o, x = .ref a ∧ DGet H2 a y o ∧ Q (.bl (!o.isSome)) H2) : tDNotIn ty td σ H Q := h
theorem r_dputE (h : tv σ H fun v H1 => td σ H1 fun x H2 => ty σ H2 fun y H3 => ∃ a H4, x = .ref a ∧ DPut H3 a y v H4 ∧ D.nx σ H4) : sDPut td ty tv D σ H := h
theorem r_dnewE (h : ∀ p, H p = none → Q (.ref p) (upd H p (.dK []))) : tDNewK σ H Q := h
end
/-! ### the index: order -/
theorem ix_next : ∀ (rs : List Rc) (p s : Nat) (l : Jt) (o i : Nat) (x y : Ix), (ixGo p s l o rs)[i]? = some x → (ixGo p s l o rs)[i + 1]? = some y → x.rc < y.rc ∧ y.start = x.start + x.len ∧ y.left = x.right
  | [], _, _, _, _, _, _, _, h, _ => by simp [ixGo] at h
  | .st t :: rs, p, s, l, o, i, x, y, h1, h2 => ix_next rs (p + 1) s l p i x y h1 h2
  | .fr h ns t :: rs, p, s, l, o, 0, x, y, h1, h2 => by
    have e1 : _ = x := Option.some.inj h1
    subst e1
    have h2 : (ixGo (p + 1) (s + h.len) h.jt o rs)[0]? = some y := h2
    have g : ∀ (rs : List Rc) (p s : Nat) (l : Jt) (o : Nat) (y : Ix), (ixGo p s l o rs)[0]? = some y → p ≤ y.rc ∧ y.start = s ∧ y.left = l := by
      intro rs
      induction rs with
      | nil => intro p s l o y h; simp [ixGo] at h
      | cons r rs ih =>
        intro p s l o y h
        cases r with
        | st t => have := ih (p + 1) s l p y h; exact ⟨by omega, this.2⟩
        | fr h' ns' t' =>
          have e : _ = y := Option.some.inj h
          subst e
          exact ⟨Nat.le_refl _, rfl, rfl⟩
    have := g rs _ _ _ _ y h2
    exact ⟨by show p < y.rc; omega, this.2⟩
  | .fr h ns t :: rs, p, s, l, o, i + 1, x, y, h1, h2 => ix_next rs (p + 1) (s + h.len) h.jt o i x y h1 h2
theorem rc_lt {rs : List Rc} : ∀ {i j : Nat} {x y : Ix}, i < j → (ixs rs)[i]? = some x → (ixs rs)[j]? = some y → x.rc < y.rc := by
  intro i j
  induction j with
  | zero => intro x y h; exact absurd h (Nat.not_lt_zero _)
  | succ j ih =>
    intro x y h hx hy
    have hj : j < (ixs rs).length := by have := (List.getElem?_eq_some_iff.mp hy).1; omega
    have hz : (ixs rs)[j]? = some (ixs rs)[j] := List.getElem?_eq_getElem hj
    have hs := (ix_next rs 0 0 (0, 0) 0 j _ y hz hy).1
    by_cases e : i = j
    · subst e
      rw [hx] at hz
      rw [Option.some.inj hz]
      exact hs
    · exact Nat.lt_trans (ih (by omega) hx hz) hs
theorem rc_inj {rs : List Rc} {i j : Nat} {x y : Ix} (hx : (ixs rs)[i]? = some x) (hy : (ixs rs)[j]? = some y) (e : x.rc = y.rc) : i = j := by
  rcases Nat.lt_trichotomy i j with h | h | h
  · have := rc_lt h hx hy; omega
  · exact h
  · have := rc_lt h hy hx; omega
theorem rec_frame : ∀ (rs : List Rc) (p s : Nat) (l : Jt) (o m : Nat) (h : Hd) (ns : List Int) (t : Tbs), rs[m]? = some (.fr h ns t) → ∃ (f : Nat) (x : Ix), (ixGo p s l o rs)[f]? = some x ∧ x.rc = p + m
  | [], _, _, _, _, _, _, _, _, h => by simp at h
  | .st t' :: rs, p, s, l, o, 0, h, ns, t, e => nomatch (Option.some.inj e)
  | .st t' :: rs, p, s, l, o, m + 1, h, ns, t, e => by
    obtain ⟨f, x, a, b⟩ := rec_frame rs (p + 1) s l p m h ns t e
    exact ⟨f, x, a, by omega⟩
  | .fr h' ns' t' :: rs, p, s, l, o, 0, h, ns, t, e => ⟨0, _, rfl, rfl⟩
  | .fr h' ns' t' :: rs, p, s, l, o, m + 1, h, ns, t, e => by
    obtain ⟨f, x, a, b⟩ := rec_frame rs (p + 1) (s + h'.len) h'.jt o m h ns t e
    exact ⟨f + 1, x, a, by omega⟩
/-- the tables behind the records that have been read -/
def tbAt (rs : List Rc) (seq : List Nat) : Nat → Tbs
  | 0 => start0
  | j + 1 => match seq[j]? with
    | some m => (match rs[m]? with
      | some r => r.next
      | none => start0)
    | none => start0
theorem tbAt_s {rs : List Rc} {seq : List Nat} {j m : Nat} {r : Rc} (h : seq[j]? = some m) (hr : rs[m]? = some r) : tbAt rs seq (j + 1) = r.next := by
  simp only [tbAt, h, hr]
def seqOf (rs : List Rc) (L : Nat) : List Nat := recsOf (ixs rs) (readL (ixs rs) L)
/-! ### origins -/
theorem org_go : ∀ (rs : List Rc) (p s : Nat) (l : Jt) (o f : Nat) (x : Ix), (ixGo p s l o rs)[f]? = some x → o ≤ p → x.org ≤ x.rc ∧ p ≤ x.rc ∧ (x.org = o ∨ (p ≤ x.org ∧ ∃ t, rs[x.org - p]? = some (.st t)))
  | [], _, _, _, _, _, _, h, _ => by simp [ixGo] at h
  | .st t :: rs, p, s, l, o, f, x, h, le => by
    obtain ⟨a, b, c⟩ := org_go rs (p + 1) s l p f x h (by omega)
    refine ⟨a, by omega, .inr ?_⟩
    rcases c with c | ⟨c1, t', c2⟩
    · exact ⟨by omega, t, by rw [c, Nat.sub_self]; rfl⟩
    · refine ⟨by omega, t', ?_⟩
      rw [show x.org - p = (x.org - (p + 1)) + 1 by omega]
      exact c2
  | .fr h ns t :: rs, p, s, l, o, 0, x, e, le => by
    have e1 : _ = x := Option.some.inj e
    subst e1
    exact ⟨le, Nat.le_refl _, .inl rfl⟩
  | .fr h ns t :: rs, p, s, l, o, f + 1, x, e, le => by
    obtain ⟨a, b, c⟩ := org_go rs (p + 1) (s + h.len) h.jt o f x e (by omega)
    refine ⟨a, by omega, ?_⟩
    rcases c with c | ⟨c1, t', c2⟩
    · exact .inl c
    · refine .inr ⟨by omega, t', ?_⟩
      rw [show x.org - p = (x.org - (p + 1)) + 1 by omega]
      exact c2
theorem org_at {rs : List Rc} {f : Nat} {x : Ix} (h : (ixs rs)[f]? = some x) : x.org ≤ x.rc ∧ (x.org = 0 ∨ ∃ t, rs[x.org]? = some (.st t)) := by
  obtain ⟨a, b, c⟩ := org_go rs 0 0 (0, 0) 0 f x h (Nat.le_refl _)
  refine ⟨a, ?_⟩
  rcases c with c | ⟨_, t, c⟩
  · exact .inl c
  · exact .inr ⟨t, c⟩
/-- no state record between the origin and the frame's own record -/
theorem org_no : ∀ (rs : List Rc) (p s : Nat) (l : Jt) (o f : Nat) (x : Ix), (ixGo p s l o rs)[f]? = some x → o ≤ p → ∀ m, p ≤ m → x.org < m → m ≤ x.rc → ∀ t, rs[m - p]? ≠ some (.st t)
  | [], _, _, _, _, _, _, h, _, _, _, _, _, _, _ => by simp [ixGo] at h
  | .st t :: rs, p, s, l, o, f, x, h, le, m, h1, h2, h3, t', e => by
    have k := org_go rs (p + 1) s l p f x h (by omega)
    by_cases z : m = p
    · rcases k.2.2 with c | ⟨c, _⟩ <;> omega
    · refine org_no rs (p + 1) s l p f x h (by omega) m (by omega) h2 h3 t' ?_
      rw [show m - p = (m - (p + 1)) + 1 by omega] at e
      exact e
  | .fr h ns t :: rs, p, s, l, o, 0, x, e, le, m, h1, h2, h3, t', e' => by
    have e1 : _ = x := Option.some.inj e
    subst e1
    have z : m = p := Nat.le_antisymm h3 h1
    rw [z, Nat.sub_self] at e'
    exact nomatch (Option.some.inj e')
  | .fr h ns t :: rs, p, s, l, o, f + 1, x, e, le, m, h1, h2, h3, t', e' => by
    by_cases z : m = p
    · rw [z, Nat.sub_self] at e'
      exact nomatch (Option.some.inj e')
    · refine org_no rs (p + 1) (s + h.len) h.jt o f x e (by omega) m (by omega) h2 h3 t' ?_
      rw [show m - p = (m - (p + 1)) + 1 by omega] at e'
      exact e'
/-- a frame between another's origin and record has that origin -/
theorem org_same {rs : List Rc} {f g : Nat} {x y : Ix} (hx : (ixs rs)[f]? = some x) (hy : (ixs rs)[g]? = some y) (h1 : y.org ≤ x.rc) (h2 : x.rc ≤ y.rc) : x.org = y.org := by
  obtain ⟨a1, a2⟩ := org_at hx
  obtain ⟨b1, b2⟩ := org_at hy
  have nx : ∀ m, x.org < m → m ≤ x.rc → ∀ t, rs[m]? ≠ some (.st t) := fun m h3 h4 t => org_no rs 0 0 (0, 0) 0 f x hx (Nat.le_refl _) m (Nat.zero_le _) h3 h4 t
  have ny : ∀ m, y.org < m → m ≤ y.rc → ∀ t, rs[m]? ≠ some (.st t) := fun m h3 h4 t => org_no rs 0 0 (0, 0) 0 g y hy (Nat.le_refl _) m (Nat.zero_le _) h3 h4 t
  rcases Nat.lt_trichotomy x.org y.org with h | h | h
  · rcases b2 with z | ⟨t, z⟩
    · omega
    · exact absurd z (nx _ h h1 t)
  · exact h
  · rcases a2 with z | ⟨t, z⟩
    · omega
    · exact absurd z (ny _ h (by omega) t)
/-! ### the records that are asked for -/
theorem runFrom_ge (found : List Nat) (x : Ix) : x.org ≤ runFrom found x := by unfold runFrom; split <;> omega
theorem recs_mem {ix : List Ix} : ∀ (fs : List Nat), (∀ f ∈ fs, f < ix.length) → ∀ i, i ≤ fs.length → ∀ m ∈ recsOf ix (fs.take i), ∃ f x, f ∈ fs.take i ∧ ix[f]? = some x ∧ x.org ≤ m ∧ m ≤ x.rc := by
  intro fs hfs i
  induction i with
  | zero => intro _ m hm; rw [List.take_zero] at hm; exact nomatch (show m ∈ ([] : List Nat) from hm)
  | succ i ih =>
    intro hi m hm
    obtain ⟨f0, hf⟩ : ∃ f, fs[i]? = some f := ⟨_, List.getElem?_eq_getElem (show i < fs.length by omega)⟩
    obtain ⟨x0, hx⟩ : ∃ x, ix[f0]? = some x := ⟨_, List.getElem?_eq_getElem (hfs f0 (List.mem_of_getElem? hf))⟩
    rw [recs_snoc hf hx] at hm
    have sub : ∀ f, f ∈ fs.take i → f ∈ fs.take (i + 1) := fun f h => by rw [List.take_add_one]; exact List.mem_append_left _ h
    rcases List.mem_append.mp hm with z | z
    · obtain ⟨f, x, a, b⟩ := ih (by omega) m z
      exact ⟨f, x, sub f a, b⟩
    · obtain ⟨k, hk, rfl⟩ := List.mem_map.mp z
      rw [List.mem_range] at hk
      have := runFrom_ge (recsOf ix (fs.take i)) x0
      exact ⟨f0, x0, by rw [List.take_add_one, hf]; exact List.mem_append_right _ (List.mem_singleton.mpr rfl), hx, by omega, by omega⟩
theorem read_mem {ix : List Ix} {L f : Nat} : f ∈ readL ix L ↔ ∃ x, ix[f]? = some x ∧ x.gone L = false := by
  unfold readL
  rw [List.mem_filter, List.mem_range]
  constructor
  · rintro ⟨h, k⟩
    have e : ix[f]? = some ix[f] := List.getElem?_eq_getElem h
    rw [e] at k
    exact ⟨_, e, by simpa using k⟩
  · rintro ⟨x, h, k⟩
    exact ⟨(List.getElem?_eq_some_iff.mp h).1, by rw [h]; simp [k]⟩
theorem read_lt {ix : List Ix} {L : Nat} : ∀ f ∈ readL ix L, f < ix.length := fun f hf => by
  obtain ⟨x, h, _⟩ := read_mem.mp hf
  exact (List.getElem?_eq_some_iff.mp h).1
theorem read_sorted (ix : List Ix) (L : Nat) : (readL ix L).Pairwise (· < ·) := List.Pairwise.filter _ List.pairwise_lt_range
theorem read_le (ix : List Ix) (L : Nat) : (readL ix L).length ≤ ix.length := Nat.le_trans (List.length_filter_le _ _) (by rw [List.length_range]; exact Nat.le_refl _)
/-- a gone frame's record is not asked for; nor is the record of a frame that shares .. -/
theorem seq_not_gone {rs : List Rc} {L f : Nat} {x : Ix} (hx : (ixs rs)[f]? = some x) (h : x.rc ∈ seqOf rs L) : x.gone L = false := by
  unfold seqOf at h
  rw [← List.take_length (l := readL (ixs rs) L)] at h
  obtain ⟨g, y, hg, hy, h1, h2⟩ := recs_mem (readL (ixs rs) L) read_lt _ (Nat.le_refl _) _ h
  rw [List.take_length] at hg
  obtain ⟨y', hy', ng⟩ := read_mem.mp hg
  rw [hy] at hy'
  cases hy'
  have eo := org_same hx hy h1 h2
  unfold Ix.gone at ng ⊢
  have ng := of_decide_eq_false ng
  exact decide_eq_false (by omega)
theorem seq_has {rs : List Rc} {L f : Nat} {x : Ix} (hx : (ixs rs)[f]? = some x) (h : x.gone L = false) : x.rc ∈ seqOf rs L := by
  have key : ∀ i, i ≤ (readL (ixs rs) L).length → ∀ g ∈ (readL (ixs rs) L).take i, ∀ y, (ixs rs)[g]? = some y → y.rc ∈ recsOf (ixs rs) ((readL (ixs rs) L).take i) := by
    intro i
    induction i with
    | zero => intro _ g hg; rw [List.take_zero] at hg; exact nomatch hg
    | succ i ih =>
      intro hi g hg y hy
      obtain ⟨f0, hf⟩ : ∃ f, (readL (ixs rs) L)[i]? = some f := ⟨_, List.getElem?_eq_getElem (show i < (readL (ixs rs) L).length by omega)⟩
      obtain ⟨x0, hx⟩ : ∃ x, (ixs rs)[f0]? = some x := ⟨_, List.getElem?_eq_getElem (read_lt f0 (List.mem_of_getElem? hf))⟩
      rw [recs_snoc hf hx]
      rw [List.take_add_one, hf] at hg
      rcases List.mem_append.mp hg with z | z
      · exact List.mem_append_left _ (ih (by omega) g z y hy)
      · have eg : g = f0 := List.mem_singleton.mp z
        subst eg
        rw [hx] at hy
        have ey := Option.some.inj hy
        subst ey
        have le : runFrom (recsOf (ixs rs) ((readL (ixs rs) L).take i)) x0 ≤ x0.rc := by
          unfold runFrom
          split
          · rename_i hc
            obtain ⟨g', y', hg', hy', k1, k2⟩ := recs_mem (readL (ixs rs) L) read_lt i (by omega) _ (lastN_mem hc.1)
            obtain ⟨j, hj, ej⟩ := List.mem_take_iff_getElem.mp hg'
            have hlt : g' < g := by
              have e2 := (List.getElem?_eq_some_iff.mp hf).2
              rw [← ej, ← e2]
              exact List.pairwise_iff_getElem.mp (read_sorted (ixs rs) L) j i (by omega) (by omega) (by omega)
            have := rc_lt hlt hy' hx
            omega
          · exact (org_at hx).1
        refine List.mem_append_right _ (List.mem_map.mpr ⟨x0.rc - runFrom (recsOf (ixs rs) ((readL (ixs rs) L).take i)) x0, ?_, ?_⟩)
        · rw [List.mem_range]; omega
        · omega
  unfold seqOf
  have := key _ (Nat.le_refl _) f (by rw [List.take_length]; exact read_mem.mpr ⟨x, hx, h⟩) x hx
  rw [List.take_length] at this
  exact this
theorem rc_len {rs : List Rc} {f : Nat} {x : Ix} (hx : (ixs rs)[f]? = some x) : x.rc < rs.length := by
  obtain ⟨h, ns, t, a, _⟩ := frame_at hx
  exact (List.getElem?_eq_some_iff.mp a).1
theorem seq_lt {rs : List Rc} {L m : Nat} (h : m ∈ seqOf rs L) : m < rs.length := by
  unfold seqOf at h
  rw [← List.take_length (l := readL (ixs rs) L)] at h
  obtain ⟨g, y, hg, hy, h1, h2⟩ := recs_mem (readL (ixs rs) L) read_lt _ (Nat.le_refl _) _ h
  exact Nat.lt_of_le_of_lt h2 (rc_len hy)
/-- what stands ahead of a frame's record among the records that are asked for -/
theorem seq_prev {rs : List Rc} {L j m : Nat} (h : (seqOf rs L)[j]? = some m) (nst : ∀ t, rs[m]? ≠ some (.st t)) : (j = 0 ∧ m = 0) ∨ ∃ j' m', j = j' + 1 ∧ (seqOf rs L)[j']? = some m' ∧ m' + 1 = m := by
  have key : ∀ i, i ≤ (readL (ixs rs) L).length → ∀ j m, (recsOf (ixs rs) ((readL (ixs rs) L).take i))[j]? = some m → (∀ t, rs[m]? ≠ some (.st t)) →
      (j = 0 ∧ m = 0) ∨ ∃ j' m', j = j' + 1 ∧ (recsOf (ixs rs) ((readL (ixs rs) L).take i))[j']? = some m' ∧ m' + 1 = m := by
    intro i
    induction i with
    | zero => intro _ j m h; rw [List.take_zero] at h; exact nomatch (show ([] : List Nat)[j]? = some m from h)
    | succ i ih =>
      intro hi j m h nst
      obtain ⟨f0, hf⟩ : ∃ f, (readL (ixs rs) L)[i]? = some f := ⟨_, List.getElem?_eq_getElem (show i < (readL (ixs rs) L).length by omega)⟩
      obtain ⟨x0, hx⟩ : ∃ x, (ixs rs)[f0]? = some x := ⟨_, List.getElem?_eq_getElem (read_lt f0 (List.mem_of_getElem? hf))⟩
      rw [recs_snoc hf hx] at h ⊢
      clear hf
      generalize x0 = x at *
      have ih := ih (by omega)
      generalize recsOf (ixs rs) ((readL (ixs rs) L).take i) = found at *
      by_cases hj : j < found.length
      · rw [List.getElem?_append_left hj] at h
        rcases ih j m h nst with z | ⟨j', m', a, b, c⟩
        · exact .inl z
        · exact .inr ⟨j', m', a, by rw [List.getElem?_append_left (by omega)]; exact b, c⟩
      · rw [List.getElem?_append_right (by omega), List.getElem?_map] at h
        cases e : (List.range (x.rc + 1 - runFrom found x))[j - found.length]? with
        | none => rw [e] at h; exact nomatch h
        | some k =>
          rw [e] at h
          have em : k + runFrom found x = m := Option.some.inj h
          have ek := List.getElem?_range (n := x.rc + 1 - runFrom found x) (i := j - found.length) (by
            have := (List.getElem?_eq_some_iff.mp e).1
            rw [List.length_range] at this
            exact this)
          rw [e] at ek
          have ek : k = j - found.length := Option.some.inj ek
          have kl := (List.getElem?_eq_some_iff.mp e).1
          rw [List.length_range] at kl
          by_cases k0 : k = 0
          · by_cases hc : found ≠ [] ∧ x.org ≤ lastN found
            · have er : runFrom found x = lastN found + 1 := if_pos hc
              have fl : 0 < found.length := List.length_pos_iff.mpr hc.1
              refine .inr ⟨j - 1, lastN found, by omega, ?_, by omega⟩
              rw [List.getElem?_append_left (by omega), show j - 1 = found.length - 1 by omega, List.getElem?_eq_getElem (by omega)]
              unfold lastN
              rw [List.getD_eq_getElem?_getD, List.getElem?_eq_getElem (by omega)]
              rfl
            · have er : runFrom found x = x.org := if_neg hc
              obtain ⟨_, o⟩ := org_at hx
              rcases o with o | ⟨t, o⟩
              · have f0 : found = [] := Classical.byContradiction fun z => hc ⟨z, by omega⟩
                have fl : found.length = 0 := by rw [f0]; rfl
                exact .inl ⟨by omega, by omega⟩
              · exact absurd (by rw [← em, k0, Nat.zero_add, er]; exact o) (nst t)
          · refine .inr ⟨j - 1, m - 1, by omega, ?_, by omega⟩
            rw [List.getElem?_append_right (by omega), List.getElem?_map, List.getElem?_range (by omega)]
            show some (j - 1 - found.length + runFrom found x) = _
            congr 1
            omega
  have := key _ (Nat.le_refl _) j m
  rw [List.take_length] at this
  exact this h nst
theorem seq_tb {rs : List Rc} {L j m : Nat} {h : Hd} {ns : List Int} {t : Tbs} (g : Good start0 (0, 0) rs) (hs : (seqOf rs L)[j]? = some m) (hr : rs[m]? = some (.fr h ns t)) : tbAt rs (seqOf rs L) j = t := by
  obtain ⟨_, k⟩ := good_at rs s0 m _ g hr
  obtain ⟨e, _⟩ := k h ns t rfl
  rcases seq_prev hs (fun t' z => by rw [hr] at z; exact nomatch (Option.some.inj z)) with ⟨a, b⟩ | ⟨j', m', a, b, c⟩
  · subst a b
    rw [e]
    rfl
  · subst a
    obtain ⟨r', hm⟩ : ∃ r', rs[m']? = some r' := ⟨_, List.getElem?_eq_getElem (seq_lt (List.mem_of_getElem? b))⟩
    have ef := aft_snoc hm
    rw [c] at ef
    rw [e]
    show tbAt rs (seqOf rs L) (j' + 1) = (aft (rs.take m)).cur
    rw [ef]
    rw [tbAt_s b hm]
    cases r' <;> rfl
/-- the rows by their records, the first n of them -/
def RowsV (K : PySem.W.Frag) (G : Hp) (kvs : List (Key × V)) (ix : List Ix) (n : Nat) : Prop :=
  (∀ m : Nat, (∀ (f : Nat) (x : Ix), f < n → ix[f]? = some x → x.rc ≠ m) → valV kvs (Sum.inl (m : Int)) = none) ∧
  ∀ (f : Nat) (x : Ix), f < n → ix[f]? = some x → ∃ T v, valV kvs (Sum.inl (x.rc : Int)) = some (.ref T) ∧ G T = some (.tup [.int (f : Nat), v]) ∧ IxV K G v x
section
variable {K : PySem.W.Frag} {G G' : Hp} {kvs : List (Key × V)} {ix : List Ix} {n : Nat}
theorem RowsV.nil : RowsV K G [] ix 0 := ⟨fun _ _ => rfl, fun f x h => absurd h (Nat.not_lt_zero _)⟩
theorem RowsV.mono (h : RowsV K G kvs ix n) (e : Same G G') : RowsV K G' kvs ix n := ⟨h.1, fun f x h1 h2 => by
  obtain ⟨T, v, a, b, c⟩ := h.2 f x h1 h2
  exact ⟨T, v, a, e _ _ b, IxV.mono e c⟩⟩
theorem RowsV.put {x : Ix} {T : Addr} {v : V} (h : RowsV K G kvs ix n) (hx : ix[n]? = some x) (hd : ∀ j y, j < n → ix[j]? = some y → y.rc ≠ x.rc) (hT : G T = some (.tup [.int (n : Nat), v])) (hv : IxV K G v x) : RowsV K G (putK kvs (Sum.inl (x.rc : Int)) (.ref T)) ix (n + 1) := by
  refine ⟨fun m hm => ?_, fun f y hf hy => ?_⟩
  · rw [valV_put, if_neg ?_]
    · exact h.1 m fun f y hf hy => hm f y (by omega) hy
    · intro z
      have z := Sum.inl.inj z
      exact hm n x (by omega) hx (by omega)
  · by_cases e : f = n
    · subst e
      rw [hx] at hy
      have ey := Option.some.inj hy
      subst ey
      exact ⟨T, v, by rw [valV_put, if_pos rfl], hT, hv⟩
    · obtain ⟨T', v', a, b, c⟩ := h.2 f y (by omega) hy
      refine ⟨T', v', ?_, b, c⟩
      rw [valV_put, if_neg ?_]
      · exact a
      · intro z
        have z := Sum.inl.inj z
        exact hd f y (by omega) hy (by omega)
theorem put_len {k : Key} {v : V} (h : kvs.length ≤ n) : (putK kvs k v).length ≤ n + 1 := by
  unfold putK
  split
  · rw [List.length_map]; omega
  · rw [List.length_append]; exact Nat.succ_le_succ h
end
/-- the blocks of the frames whose records are among ms -/
def ValsV (K : PySem.W.Frag) (G : Hp) (kvs : List (Key × V)) (rs : List Rc) (ms : List Nat) : Prop := ∀ (f : Nat) (x : Ix) (b : List Int), (ixs rs)[f]? = some x → (blocksOf rs)[f]? = some b →
  (x.rc ∈ ms → ∃ u, valV kvs (Sum.inl (f : Int)) = some u ∧ Li G u b) ∧ (x.rc ∉ ms → valV kvs (Sum.inl (f : Int)) = none)
section
variable {K : PySem.W.Frag} {G G' : Hp} {kvs : List (Key × V)} {rs : List Rc} {ms : List Nat}
theorem ValsV.nil : ValsV K G [] rs [] := fun f x b _ _ => ⟨fun h => (nomatch h), fun _ => rfl⟩
theorem ValsV.mono (h : ValsV K G kvs rs ms) (e : Same G G') : ValsV K G' kvs rs ms := fun f x b h1 h2 => ⟨fun hm => by
  obtain ⟨u, a, c⟩ := (h f x b h1 h2).1 hm
  exact ⟨u, a, Li.mono e c⟩, (h f x b h1 h2).2⟩
/-- a state record more -/
theorem ValsV.skip {m : Nat} (h : ValsV K G kvs rs ms) (hm : ∀ (f : Nat) (x : Ix), (ixs rs)[f]? = some x → x.rc ≠ m) : ValsV K G kvs rs (ms ++ [m]) := fun f x b h1 h2 => by
  refine ⟨fun z => ?_, fun z => (h f x b h1 h2).2 fun k => z (List.mem_append_left _ k)⟩
  rcases List.mem_append.mp z with z | z
  · exact (h f x b h1 h2).1 z
  · exact absurd (List.mem_singleton.mp z) (hm f x h1)
theorem ValsV.put {m g : Nat} {y : Ix} {u : V} {c : List Int} (h : ValsV K G kvs rs ms) (hy : (ixs rs)[g]? = some y) (e : y.rc = m) (hc : (blocksOf rs)[g]? = some c) (hu : Li G u c) : ValsV K G (putK kvs (Sum.inl (g : Int)) u) rs (ms ++ [m]) := fun f x b h1 h2 => by
  by_cases ef : f = g
  · subst ef
    rw [hy] at h1
    have e1 := Option.some.inj h1
    subst e1
    rw [hc] at h2
    have e2 := Option.some.inj h2
    subst e2
    exact ⟨fun _ => ⟨u, by rw [valV_put, if_pos rfl], hu⟩, fun z => absurd (List.mem_append_right _ (List.mem_singleton.mpr e)) z⟩
  · have ne : ¬ ((Sum.inl (f : Int) : Key) = Sum.inl (g : Int)) := fun z => ef (by have := Sum.inl.inj z; omega)
    rw [valV_put, if_neg ne]
    refine ⟨fun z => ?_, fun z => (h f x b h1 h2).2 fun k => z (List.mem_append_left _ k)⟩
    rcases List.mem_append.mp z with z | z
    · exact (h f x b h1 h2).1 z
    · exact absurd (rc_inj h1 hy ((List.mem_singleton.mp z).trans e.symm)) ef
end
/-- records asked for are told once: no more than there are -/
theorem runFrom_gt (found : List Nat) (x : Ix) (h : ∀ m ∈ found, m ≤ lastN found) : ∀ m ∈ found, m < runFrom found x := fun m hm => by
  have hne : found ≠ [] := fun z => by rw [z] at hm; exact nomatch hm
  have := h m hm
  unfold runFrom
  split
  · omega
  · rename_i hc
    have : ¬ x.org ≤ lastN found := fun z => hc ⟨hne, z⟩
    omega
theorem run_len (x : Ix) (found : List Nat) (B : Nat) (hx : x.rc < B) (h : found.Pairwise (· < ·)) (hb : ∀ m ∈ found, m < B) :
    (found ++ (List.range (x.rc + 1 - runFrom found x)).map (· + runFrom found x)).Pairwise (· < ·) ∧ ∀ m ∈ found ++ (List.range (x.rc + 1 - runFrom found x)).map (· + runFrom found x), m < B := by
  have last : ∀ m ∈ found, m ≤ lastN found := fun m hm => by
    obtain ⟨i, hi, e⟩ := List.mem_iff_getElem.mp hm
    have hl : found.length - 1 < found.length := by omega
    have el : lastN found = found[found.length - 1] := by unfold lastN; rw [List.getD_eq_getElem?_getD, List.getElem?_eq_getElem hl]; rfl
    rw [el, ← e]
    by_cases z : i = found.length - 1
    · subst z; exact Nat.le_refl _
    · exact Nat.le_of_lt (List.pairwise_iff_getElem.mp h i (found.length - 1) hi hl (by omega))
  refine ⟨List.pairwise_append.mpr ⟨h, ?_, fun a ha b hb' => ?_⟩, fun m hm => ?_⟩
  · rw [List.pairwise_map]
    exact List.Pairwise.imp (fun z => by omega) List.pairwise_lt_range
  · obtain ⟨k, _, rfl⟩ := List.mem_map.mp hb'
    have := runFrom_gt found x last a ha
    omega
  · rcases List.mem_append.mp hm with z | z
    · exact hb m z
    · obtain ⟨k, hk, rfl⟩ := List.mem_map.mp z
      rw [List.mem_range] at hk
      omega
theorem sorted_len {l : List Nat} {B : Nat} (h : l.Pairwise (· < ·)) (hb : ∀ m ∈ l, m < B) : l.length ≤ B := by
  have g : ∀ i, (hi : i < l.length) → i ≤ l[i] := by
    intro i
    induction i with
    | zero => intro _; exact Nat.zero_le _
    | succ i ih =>
      intro hi
      have := ih (by omega)
      have := List.pairwise_iff_getElem.mp h i (i + 1) (by omega) hi (by omega)
      omega
  by_cases z : l.length = 0
  · omega
  · have := g (l.length - 1) (by omega)
    have := hb _ (List.getElem_mem (show l.length - 1 < l.length by omega))
    omega
theorem seq_len (rs : List Rc) (L : Nat) : (seqOf rs L).length ≤ rs.length := by
  have key : ∀ i, i ≤ (readL (ixs rs) L).length → (recsOf (ixs rs) ((readL (ixs rs) L).take i)).Pairwise (· < ·) ∧ ∀ m ∈ recsOf (ixs rs) ((readL (ixs rs) L).take i), m < rs.length := by
    intro i
    induction i with
    | zero => intro _; rw [List.take_zero]; exact ⟨List.Pairwise.nil, fun m h => nomatch (show m ∈ ([] : List Nat) from h)⟩
    | succ i ih =>
      intro hi
      obtain ⟨f0, hf⟩ : ∃ f, (readL (ixs rs) L)[i]? = some f := ⟨_, List.getElem?_eq_getElem (show i < (readL (ixs rs) L).length by omega)⟩
      obtain ⟨x0, hx⟩ : ∃ x, (ixs rs)[f0]? = some x := ⟨_, List.getElem?_eq_getElem (read_lt f0 (List.mem_of_getElem? hf))⟩
      rw [recs_snoc hf hx]
      obtain ⟨a, b⟩ := ih (by omega)
      exact run_len x0 _ _ (rc_len hx) a b
  have := key _ (Nat.le_refl _)
  rw [List.take_length] at this
  exact sorted_len this.1 this.2
/-! ### blocks of the same lengths -/
theorem placesGo_congr : ∀ (a b : List (List Int)) (js : List Jt) (p : Nat), a.map List.length = b.map List.length → placesGo p a js = placesGo p b js
  | [], [], _, _, _ => rfl
  | [], _ :: _, _, _, h => by simp at h
  | _ :: _, [], _, _, h => by simp at h
  | x :: a, y :: b, [], _, _ => rfl
  | x :: a, y :: b, j :: js, p, h => by
    rw [List.map_cons, List.map_cons] at h
    obtain ⟨h1, h2⟩ := List.cons.inj h
    rw [placesGo, placesGo, h1, placesGo_congr a b js _ h2]
theorem flat_congr {a b : List (List Int)} (h : a.map List.length = b.map List.length) : a.flatten.length = b.flatten.length := by rw [List.length_flatten, List.length_flatten, h]
theorem right_go : ∀ (rs : List Rc) (p s : Nat) (l : Jt) (o : Nat), (ixGo p s l o rs).map (·.right) = jointsOf rs
  | [], _, _, _, _ => rfl
  | .st t :: rs, p, s, l, o => right_go rs (p + 1) s l p
  | .fr h ns t :: rs, p, s, l, o => congrArg (h.jt :: ·) (right_go rs (p + 1) (s + h.len) h.jt o)
theorem right_joints (rs : List Rc) : (ixs rs).map (·.right) = jointsOf rs := right_go rs 0 0 (0, 0) 0
theorem block_len {rs : List Rc} (g : Good start0 (0, 0) rs) {f : Nat} {x : Ix} {b : List Int} (hx : (ixs rs)[f]? = some x) (hb : (blocksOf rs)[f]? = some b) : b.length = x.len ∧ 1 ≤ x.len ∧ x.len ≤ 64 := by
  obtain ⟨h, ns, t, a, _, c, _, e, _⟩ := frame_at hx
  rw [hb] at c
  have c := Option.some.inj c
  obtain ⟨ok, _⟩ := good_at rs s0 _ _ g a
  rw [c, blockOf_len ok, e]
  exact ⟨rfl, ok.1.1, ok.1.2.1⟩
theorem quiet_lens {rs : List Rc} (g : Good start0 (0, 0) rs) (L : Nat) : (quietGo L (ixs rs) (blocksOf rs)).map List.length = (blocksOf rs).map List.length := by
  have ln := (lens rs).1
  refine List.ext_getElem? fun f => ?_
  rw [List.getElem?_map, List.getElem?_map]
  by_cases hf : f < (ixs rs).length
  · have hx : (ixs rs)[f]? = some (ixs rs)[f] := List.getElem?_eq_getElem hf
    obtain ⟨b, hb⟩ : ∃ b, (blocksOf rs)[f]? = some b := ⟨_, List.getElem?_eq_getElem (by omega)⟩
    rw [quiet_at L _ _ f _ b hx hb, hb]
    have := (block_len g hx hb).1
    show some _ = some _
    split
    · rw [List.length_replicate, this]
    · rfl
  · rw [List.getElem?_eq_none (by rw [quiet_len L _ _ ln]; omega), List.getElem?_eq_none (by omega)]
theorem inV_nat (f : Nat) (l : List Nat) : inV (.int (f : Int)) ((cI l).map V.int) = decide (f ∈ l) := by
  unfold inV cI
  rw [Bool.eq_iff_iff, List.any_eq_true, decide_eq_true_iff]
  constructor
  · rintro ⟨y, hy, e⟩
    rw [List.map_map] at hy
    obtain ⟨n, hn, rfl⟩ := List.mem_map.mp hy
    have e : ((n : Int) == (f : Int)) = true := e
    have e : (n : Int) = (f : Int) := by simpa using e
    have : n = f := by omega
    rw [← this]; exact hn
  · intro h
    refine ⟨.int (f : Int), by rw [List.map_map]; exact List.mem_map.mpr ⟨f, h, rfl⟩, ?_⟩
    show ((f : Int) == (f : Int)) = true
    simp
theorem flat_ints (l : List Int) : (l.map V.int).all flatV = true := by
  rw [List.all_eq_true]
  intro x hx
  obtain ⟨n, _, rfl⟩ := List.mem_map.mp hx
  rfl
theorem r_inI {K : PySem.W.Frag} {H : Hp} {Q : VK} {p : Addr} {f : Nat} {l : List Nat} (s : SqL K H p ((cI l).map V.int)) (h : Q (.bl (!decide (f ∈ l))) H) : rIn K true (.int (f : Int)) (.ref p) H Q :=
  ⟨p, _, rfl, .inl s, rfl, flat_ints _, by rw [if_pos rfl, inV_nat]; exact h⟩
def readN (ix : List Ix) (L n : Nat) : List Nat := (List.range n).filter fun f => !goneAt ix L f
theorem readN_s (ix : List Ix) (L n : Nat) : readN ix L (n + 1) = readN ix L n ++ (if goneAt ix L n then [] else [n]) := by
  unfold readN
  rw [List.range_succ, List.filter_append]
  congr 1
  cases h : goneAt ix L n
  · rw [List.filter_cons_of_pos (by rw [h]; rfl)]; rfl
  · rw [List.filter_cons_of_neg (by rw [h]; exact Bool.false_ne_true)]; rfl
theorem readN_len (ix : List Ix) (L n : Nat) : (readN ix L n).length ≤ n := Nat.le_trans (List.length_filter_le _ _) (by rw [List.length_range]; exact Nat.le_refl _)
theorem read_eq (ix : List Ix) (L : Nat) : readL ix L = readN ix L ix.length := by
  unfold readL readN
  refine List.filter_congr fun f hf => ?_
  rw [List.mem_range] at hf
  unfold goneAt
  rw [List.getElem?_eq_getElem hf]
theorem unread_iff {ix : List Ix} {L f : Nat} (h : f < ix.length) : f ∈ unreadL ix L ↔ goneAt ix L f = true := by
  rw [unread_eq]
  unfold unreadN
  rw [List.mem_filter, List.mem_range]
  exact ⟨fun z => z.2, fun z => ⟨h, z⟩⟩
/-! ### heads -/
def HdsTo : Nat → List Hd → Nat → Prop
  | l, [], e => l = e
  | l, h :: r, e => hdOk h ∧ l + h.jt.1 ≤ h.len ∧ HdsTo h.jt.1 r e
theorem HdsTo.ok : ∀ {l : Nat} {hs : List Hd}, HdsTo l hs 0 → HeadsOk l hs
  | _, [], h => h
  | _, _ :: _, h => ⟨h.1, h.2.1, HdsTo.ok h.2.2⟩
theorem HdsTo.snoc : ∀ {l e : Nat} {hs : List Hd} {h : Hd}, HdsTo l hs e → hdOk h → e + h.jt.1 ≤ h.len → HdsTo l (hs ++ [h]) h.jt.1
  | l, e, [], h, a, b, c => ⟨b, by rw [show l = e from a]; exact c, rfl⟩
  | l, e, h0 :: hs, h, a, b, c => ⟨a.1, a.2.1, HdsTo.snoc a.2.2 b c⟩
theorem PoolAt.apart {H : Hp} {p a : Addr} (h : PoolAt H p) (n : H a = none) : p ≠ a := by
  obtain ⟨_, _, e, _⟩ := h
  exact ne_of_none e n
/-! ### a pool and some things that are written, watched -/
structure Wk (p : Addr) (G H : Hp) (ms : List (Addr × HO)) (G' H' : Hp) : Prop where
  gr : Grow [p] G H G' H'
  np : G' p = none
  po : PoolAt H' p
  at_ : ∀ q ∈ ms, H' q.1 = some q.2 ∧ G' q.1 = none ∧ H q.1 = none ∧ p ≠ q.1
  nd : (ms.map (·.1)).Nodup
section
variable {p a : Addr} {G H G' H' G2 H2 : Hp} {ms : List (Addr × HO)} {o : HO}
theorem Wk.start (gs : Same G H) (n : G p = none) (po : PoolAt H p) : Wk p G H [] G H := ⟨Grow.refl gs, n, po, fun _ z => (nomatch z), List.nodup_nil⟩
theorem Wk.take (w : Wk p G H ms G' H') (po : PoolAt (upd H' p o) p) : Wk p G H ms G' (upd H' p o) := ⟨w.gr.take w.np, w.np, po, fun q hq => by
  obtain ⟨a, b, c, d⟩ := w.at_ q hq
  exact ⟨by rw [upd_ne (Ne.symm d)]; exact a, b, c, d⟩, w.nd⟩
theorem Wk.new (w : Wk p G H ms G' H') (n : H' a = none) : Wk p G H ms (upd G' a o) (upd H' a o) := ⟨w.gr.new n, by rw [upd_ne (w.po.apart n)]; exact w.np, w.po.new n, fun q hq => by
  obtain ⟨x, b, c, d⟩ := w.at_ q hq
  exact ⟨same_new n _ _ x, kn x n b, c, d⟩, w.nd⟩
/-- a new thing that will be written -/
theorem Wk.made (w : Wk p G H ms G' H') (n : H' a = none) : Wk p G H ((a, o) :: ms) G' (upd H' a o) := by
  refine ⟨w.gr.mut (w.gr.no n) (w.gr.gh.free n), w.np, w.po.new n, fun q hq => ?_, ?_⟩
  · rcases List.mem_cons.mp hq with z | z
    · rw [z]; exact ⟨upd_same, w.gr.gh.free n, w.gr.no n, w.po.apart n⟩
    · obtain ⟨x, b, c, d⟩ := w.at_ q z
      exact ⟨same_new n _ _ x, b, c, d⟩
  · rw [List.map_cons, List.nodup_cons]
    refine ⟨fun z => ?_, w.nd⟩
    obtain ⟨q, hq, e⟩ := List.mem_map.mp z
    obtain ⟨x, _⟩ := w.at_ q hq
    rw [e, n] at x
    cases x
theorem Wk.call (w : Wk p G H ms G' H') (g : Grow [p] G' H' G2 H2) (po : PoolAt H2 p) : Wk p G H ms G2 H2 := by
  refine ⟨w.gr.trans g, g.nw p w.po.ne w.np, po, fun q hq => ?_, w.nd⟩
  obtain ⟨x, b, c, d⟩ := w.at_ q hq
  exact ⟨g.hh _ _ (fun z => d (List.mem_singleton.mp z).symm) x, g.nw _ (by rw [x]; exact fun z => nomatch z) b, c, d⟩
theorem Wk.call0 (w : Wk p G H ms G' H') (g : Grow [] G' H' G2 H2) : Wk p G H ms G2 H2 := w.call (g.mono fun b z => by cases z) (by
  obtain ⟨x, y, e, k⟩ := w.po
  exact ⟨x, y, g.hs _ _ e, k⟩)
theorem Wk.pure (w : Wk p G H ms G' H') (s : Same H' H2) : Wk p G H ms G' H2 := w.call0 (Grow.pure w.gr.gh s)
/-- the i-th thing is written -/
theorem Wk.set (w : Wk p G H ms G' H') (i : Nat) {u : HO} (h : ms[i]? = some (a, u)) : Wk p G H (ms.set i (a, o)) G' (upd H' a o) := by
  obtain ⟨x, b, c, d⟩ := w.at_ _ (List.mem_of_getElem? h)
  have hi := (List.getElem?_eq_some_iff.mp h).1
  have em : (ms.set i (a, o)).map (·.1) = ms.map (·.1) := by
    rw [List.map_set]
    refine List.ext_getElem? fun j => ?_
    by_cases e : i = j
    · subst e
      rw [List.getElem?_set_self (by rw [List.length_map]; exact hi), List.getElem?_map, h]
      rfl
    · rw [List.getElem?_set_ne e]
  refine ⟨w.gr.mut c b, w.np, w.po.upd d, fun q hq => ?_, by rw [em]; exact w.nd⟩
  obtain ⟨j, hj⟩ := List.mem_iff_getElem?.mp hq
  by_cases e : i = j
  · subst e
    rw [List.getElem?_set_self hi] at hj
    have e2 := Option.some.inj hj
    subst e2
    exact ⟨upd_same, b, c, d⟩
  · rw [List.getElem?_set_ne e] at hj
    obtain ⟨x2, b2, c2, d2⟩ := w.at_ q (List.mem_of_getElem? hj)
    have ne : q.1 ≠ a := fun z => e (by
      have h1 : (ms.map (·.1))[i]? = some a := by rw [List.getElem?_map, h]; rfl
      have h2 : (ms.map (·.1))[j]? = some a := by rw [List.getElem?_map, hj, ← z]; rfl
      obtain ⟨l1, e1⟩ := List.getElem?_eq_some_iff.mp h1
      obtain ⟨l2, e2⟩ := List.getElem?_eq_some_iff.mp h2
      exact (List.getElem_inj w.nd).mp (e1.trans e2.symm))
    exact ⟨by rw [upd_ne ne]; exact x2, b2, c2, d2⟩
theorem Wk.get (w : Wk p G H ms G' H') (i : Nat) {u : HO} (h : ms[i]? = some (a, u)) : H' a = some u := (w.at_ _ (List.mem_of_getElem? h)).1
/-- the last of them is frozen -/
theorem Wk.fz {u : HO} (w : Wk p G H ((a, u) :: ms) G' H') : Wk p G H ms (upd G' a u) H' := by
  obtain ⟨x, b, c, d⟩ := w.at_ _ (List.mem_cons_self ..)
  have nd := w.nd
  rw [List.map_cons, List.nodup_cons] at nd
  refine ⟨w.gr.freeze c b x, by rw [upd_ne d]; exact w.np, w.po, fun q hq => ?_, nd.2⟩
  obtain ⟨x2, b2, c2, d2⟩ := w.at_ q (List.mem_cons_of_mem _ hq)
  exact ⟨x2, by rw [upd_ne (fun z => nd.1 (List.mem_map.mpr ⟨q, hq, z⟩))]; exact b2, c2, d2⟩
theorem Wk.nG {u : HO} (w : Wk p G H ((a, u) :: ms) G' H') : G' a = none := (w.at_ _ (List.mem_cons_self ..)).2.1
end
theorem r_cE {i j : Int} {σ : L2.St} {H : Hp} {Q : VK} (e : i = j) (h : Q (.int j) H) : tC (.int i) σ H Q := by
  rw [e] at *
  exact h
/-! ### a stream under way -/
def GoodP : Tbs → Jt → List Rc → Prop
  | _, _, [] => True
  | _, left, .st t :: r => (Rc.st t).ok ∧ GoodP t left r
  | cur, left, .fr h ns t :: r => (Rc.fr h ns t).ok ∧ t = cur ∧ left.1 + h.jt.1 ≤ h.len ∧ GoodP (Rc.fr h ns t).next h.jt r
theorem goodP_end : ∀ (rs : List Rc) (s : Sx), GoodP s.cur s.left rs → (rs.foldl stepS s).left = (0, 0) → Good s.cur s.left rs
  | [], _, _, h => h
  | .st t :: rs, s, g, h => ⟨g.1, goodP_end rs (stepS s (.st t)) g.2 h⟩
  | .fr h' ns' t' :: rs, s, g, h => ⟨g.1, g.2.1, g.2.2.1, goodP_end rs (stepS s (.fr h' ns' t')) g.2.2.2 h⟩
theorem goodP_app : ∀ (rs : List Rc) (r : Rc) (s : Sx), GoodP s.cur s.left rs → GoodP (rs.foldl stepS s).cur (rs.foldl stepS s).left [r] → GoodP s.cur s.left (rs ++ [r])
  | [], _, _, _, h => h
  | .st t :: rs, r, s, g, h => ⟨g.1, goodP_app rs r (stepS s (.st t)) g.2 h⟩
  | .fr h' ns' t' :: rs, r, s, g, h => ⟨g.1, g.2.1, g.2.2.1, goodP_app rs r (stepS s (.fr h' ns' t')) g.2.2.2 h⟩
theorem aft_app (rs : List Rc) (r : Rc) : aft (rs ++ [r]) = stepS (aft rs) r := by unfold aft; rw [List.foldl_append]; rfl
theorem ixs_app (rs : List Rc) (r : Rc) : ixs (rs ++ [r]) = ixs rs ++ ixOf (aft rs) r := ixGo_app rs r s0
theorem numsOf_app : ∀ (rs : List Rc) (r : Rc), numsOf (rs ++ [r]) = numsOf rs ++ frOf r
  | [], .st _ => rfl
  | [], .fr _ _ _ => rfl
  | .st t :: rs, r => numsOf_app rs r
  | .fr h ns t :: rs, r => congrArg (ns :: ·) (numsOf_app rs r)
theorem aft_len (rs : List Rc) : (aft rs).pos = rs.length := by
  unfold aft
  rw [aft_pos]
  exact Nat.zero_add _
theorem next_ok {h : Hd} {ns : List Int} {t : Tbs} (ok : (Rc.fr h ns t).ok) : tbsOk (Rc.fr h ns t).next := written_ok ns (coarse h) t ok.2.2.1 ok.2.2.2
theorem All2.app {α : Type} {R : V → α → Prop} {vs : List V} {ds : List α} {v : V} {d : α} (h : All2 R vs ds) (k : R v d) : All2 R (vs ++ [v]) (ds ++ [d]) := h.snoc k
theorem start_ok : tbsOk start0 := ⟨⟨by decide, by decide, by decide⟩, ⟨by decide, by decide, by decide⟩⟩
/-- the stream under way, in the heap -/
structure StW (K : PySem.W.Frag) (p : Addr) (G H : Hp) (r w k : Addr) (vr vw vk : List V) (rs : List Rc) (G' H' : Hp) : Prop where
  wk : Wk p G H [(k, .lst vk), (w, .lst vw), (r, .lst vr)] G' H'
  aR : All2 (RcV K G') vr rs
  aW : All2 (IxV K G') vw (ixs rs)
  aK : All2 (Li G') vk (numsOf rs)
  gd : GoodP start0 (0, 0) rs
section
variable {K : PySem.W.Frag} {p r w k a : Addr} {G H G' H' G2 H2 : Hp} {vr vw vk : List V} {rs : List Rc} {o : HO}
theorem StW.take (s : StW K p G H r w k vr vw vk rs G' H') (po : PoolAt (upd H' p o) p) : StW K p G H r w k vr vw vk rs G' (upd H' p o) := ⟨s.wk.take po, s.aR, s.aW, s.aK, s.gd⟩
theorem StW.mono (s : StW K p G H r w k vr vw vk rs G' H') (e : Same G' G2) (wk : Wk p G H [(k, .lst vk), (w, .lst vw), (r, .lst vr)] G2 H2) : StW K p G H r w k vr vw vk rs G2 H2 :=
  ⟨wk, s.aR.imp fun v d z => RcV.mono e z, s.aW.imp fun v d z => IxV.mono e z, s.aK.imp fun v d z => Li.mono e z, s.gd⟩
theorem StW.new (s : StW K p G H r w k vr vw vk rs G' H') (n : H' a = none) : StW K p G H r w k vr vw vk rs (upd G' a o) (upd H' a o) := s.mono (same_new (s.wk.gr.gh.free n)) (s.wk.new n)
theorem StW.call (s : StW K p G H r w k vr vw vk rs G' H') (g : Grow [p] G' H' G2 H2) (po : PoolAt H2 p) : StW K p G H r w k vr vw vk rs G2 H2 := s.mono g.gg (s.wk.call g po)
theorem StW.call0 (s : StW K p G H r w k vr vw vk rs G' H') (g : Grow [] G' H' G2 H2) : StW K p G H r w k vr vw vk rs G2 H2 := s.mono g.gg (s.wk.call0 g)
/-- a state record more -/
theorem StW.st {t : Tbs} {v : V} (s : StW K p G H r w k vr vw vk rs G' H') (hv : RcV K G' v (.st t)) (ok : tbsOk t) : StW K p G H r w k (vr ++ [v]) vw vk (rs ++ [.st t]) G' (upd H' r (.lst (vr ++ [v]))) :=
  ⟨s.wk.set 2 rfl, s.aR.snoc hv, by rw [ixs_app]; show All2 _ _ (_ ++ []); rw [List.append_nil]; exact s.aW, by rw [numsOf_app]; show All2 _ _ (_ ++ []); rw [List.append_nil]; exact s.aK, goodP_app rs _ s0 s.gd ⟨ok, trivial⟩⟩
/-- a frame more: row, record, numbers -/
theorem StW.fr {h : Hd} {ns : List Int} {v u n : V} (s : StW K p G H r w k vr vw vk rs G' H') (hv : RcV K G' v (.fr h ns (aft rs).cur)) (hu : IxV K G' u ⟨rs.length, (aft rs).st, h.len, (aft rs).left, h.jt, h.lev, h.step, (aft rs).org⟩) (hn : Li G' n ns)
    (ok : (Rc.fr h ns (aft rs).cur).ok) (l : (aft rs).left.1 + h.jt.1 ≤ h.len) : StW K p G H r w k (vr ++ [v]) (vw ++ [u]) (vk ++ [n]) (rs ++ [.fr h ns (aft rs).cur]) G' (upd (upd (upd H' w (.lst (vw ++ [u]))) r (.lst (vr ++ [v]))) k (.lst (vk ++ [n]))) := by
  refine ⟨((s.wk.set 1 rfl).set 2 rfl).set 0 rfl, s.aR.snoc hv, ?_, ?_, goodP_app rs _ s0 s.gd ⟨ok, rfl, l, trivial⟩⟩
  · rw [ixs_app]
    refine s.aW.snoc (d := ⟨(aft rs).pos, (aft rs).st, h.len, (aft rs).left, h.jt, h.lev, h.step, (aft rs).org⟩) ?_
    rw [aft_len]
    exact hu
  · rw [numsOf_app]
    exact s.aK.snoc hn
end
theorem nums_len : ∀ (rs : List Rc), (numsOf rs).length = (ixs rs).length := by
  have g : ∀ (rs : List Rc) (p s : Nat) (l : Jt) (o : Nat), (numsOf rs).length = (ixGo p s l o rs).length := by
    intro rs
    induction rs with
    | nil => intros; rfl
    | cons r rs ih =>
      intro p s l o
      cases r with
      | st t => exact ih (p + 1) s l p
      | fr h ns t => exact congrArg (· + 1) (ih (p + 1) (s + h.len) h.jt o)
  exact fun rs => g rs 0 0 (0, 0) 0
/-! ### the other stream -/
theorem aftO_snoc {w : Nat} {rs : List Rc} {i : Nat} {r : Rc} (h : rs[i]? = some r) : aftO w (rs.take (i + 1)) = stepO w (aftO w (rs.take i)) r := by
  unfold aftO
  rw [List.take_add_one, h, List.foldl_append]
  rfl
theorem aftO_ix (w : Nat) : ∀ (rs : List Rc) (a : Nat) (b : Bool) (p s : Nat) (l : Jt) (o : Nat), (rs.foldl (stepO w) (a, b)).1 = a + (ixGo p s l o rs).length
  | [], _, _, _, _, _, _ => rfl
  | .st t :: rs, a, b, p, s, l, o => aftO_ix w rs a false (p + 1) s l p
  | .fr h ns t :: rs, a, b, p, s, l, o => by
    have := aftO_ix w rs (a + 1) (b || decide (a = w)) (p + 1) (s + h.len) h.jt o
    show (rs.foldl (stepO w) (a + 1, b || decide (a = w))).1 = a + ((ixGo (p + 1) (s + h.len) h.jt o rs).length + 1)
    rw [this]
    omega
theorem aftO_1 (w : Nat) (rs : List Rc) : (aftO w rs).1 = (ixs rs).length := by
  have := aftO_ix w rs 0 false 0 0 (0, 0) 0
  rw [Nat.zero_add] at this
  exact this
theorem nums_pre (rs : List Rc) (i : Nat) : ∃ more, numsOf rs = numsOf (rs.take i) ++ more := by
  have g : ∀ (b a : List Rc), ∃ more, numsOf (a ++ b) = numsOf a ++ more := by
    intro b
    induction b with
    | nil => intro a; exact ⟨[], by rw [List.append_nil, List.append_nil]⟩
    | cons r b ih =>
      intro a
      obtain ⟨more, h⟩ := ih (a ++ [r])
      exact ⟨frOf r ++ more, by rw [show a ++ r :: b = (a ++ [r]) ++ b by rw [List.append_assoc]; rfl, h, ← List.append_assoc, numsOf_app]⟩
  obtain ⟨more, h⟩ := g (rs.drop i) (rs.take i)
  rw [List.take_append_drop] at h
  exact ⟨more, h⟩
theorem at_fr {rs : List Rc} {i : Nat} {h : Hd} {ns : List Int} {t : Tbs} (e : rs[i]? = some (.fr h ns t)) : (ixs rs)[(ixs (rs.take i)).length]? = some ⟨(aft (rs.take i)).pos, (aft (rs.take i)).st, h.len, (aft (rs.take i)).left, h.jt, h.lev, h.step, (aft (rs.take i)).org⟩ ∧
    (numsOf rs)[(ixs (rs.take i)).length]? = some ns := by
  obtain ⟨m1, h1⟩ := ixs_pre rs (i + 1)
  obtain ⟨m2, h2⟩ := nums_pre rs (i + 1)
  refine ⟨?_, ?_⟩
  · rw [h1, ixs_snoc e, List.append_assoc, List.getElem?_append_right (Nat.le_refl _), Nat.sub_self]; rfl
  · have e2 : numsOf (rs.take (i + 1)) = numsOf (rs.take i) ++ [ns] := by rw [List.take_add_one, e]; exact numsOf_app _ _
    rw [h2, e2, List.append_assoc, ← nums_len, List.getElem?_append_right (Nat.le_refl _), Nat.sub_self]; rfl
theorem goodP_st {rs : List Rc} {t : Tbs} (g : GoodP start0 (0, 0) rs) (ok : tbsOk t) : GoodP start0 (0, 0) (rs ++ [.st t]) := goodP_app rs (.st t) s0 g ⟨ok, trivial⟩
theorem goodP_fr {rs : List Rc} {h : Hd} {ns : List Int} (g : GoodP start0 (0, 0) rs) (ok : (Rc.fr h ns (aft rs).cur).ok) (l : (aft rs).left.1 + h.jt.1 ≤ h.len) : GoodP start0 (0, 0) (rs ++ [.fr h ns (aft rs).cur]) := goodP_app rs _ s0 g ⟨ok, rfl, l, trivial⟩
/-! ### concealed(e1, lambda _law_at: x[_law_at], e3) -/
def tConc (K : PySem.W.Frag) (T : List (Addr × Str)) (q : Str) (j : Nat) (t1 t3 : TE) : TE := fun σ H Q => t1 σ H fun v1 H1 => LamX.Tabs T H1 ∧ ∀ (H2 : Hp) (c' : Addr), LamX.ExtN H1 H2 → LamX.Tabs T H2 → H2 c' = some (LamX.CodeO c' q) → t3 σ H2 fun v3 H3 =>
  ∃ (G0 : Hp) (rs : List Rc) (L : Nat) (lst : Addr) (vs : List V), σ[j]? = some (some (.ref lst)) ∧ G0 c' = some (LamX.CodeO c' q) ∧ G0 lst = some (.lst vs) ∧ (∀ i r, Need rs L i → rs[i]? = some r → ∃ v, vs[i]? = some v ∧ RcV K G0 v r) ∧
    ∀ fa, sp_concealed K fa G0 rs L [v1, .ref fa, v3] H3 Q E0
theorem pe_conc {X : Cx} {k j : Nat} {c P0 g : Addr} {fd : FuncData} {ps : List Str} {T : List (Addr × Str)} {x : Str} {e1 e3 : Expr} {t1 t3 : TE} {ap p1 p2 p3 p lpos pos : Pos}
    (TB : LamX.TabB X.base X.mg c P0) (hcode : X.env.code = .ref c) (hmT : (P0, X.env.qual ++ "<lambda>") ∈ T) (hu : ∀ p ∈ T, p.1 = P0 → p.2 = X.env.qual ++ "<lambda>") (hg : Gl X "concealed") (hm : X.mg "concealed" = some (.ref g)) (hk : PySem.W.keepIn X.K (.ref g) = true) (hb : Binds X.K fd ps [])
    (F : ∀ (base' : Heap) (fa : Addr) (G0 : Hp) (rs : List Rc) (L : Nat), FetchAt X.prog X.w X.K X.mg base' fa G0 rs L → FnOk X.prog X.w X.K X.mg base' CX0 k g fd ps (sp_concealed X.K fa G0 rs L)) (hr : Room k X.A) (hfn : X.fn x = true)
    (hN : X.N[j]? = some x) (hcell : X.env.scope.names.lookup x = some .cell) (hx : (x == ("_law_at" : Str)) = false) (hxd : (x == ("__debug__" : Str)) = false) (hxc : (x == ("__classdict__" : Str)) = false) (h1 : PE X e1 t1) (h3 : PE X e3 t3)
    (he : starEach [e1, .Lambda (lamPs ap) (lamBd x p1 p2 p3) (lamSc x) lpos, e3] X.env = (false, eval e1 X.env) :: starEach [.Lambda (lamPs ap) (lamBd x p1 p2 p3) (lamSc x) lpos, e3] X.env := by rfl)
    (he2 : backTo pos (starEach [.Lambda (lamPs ap) (lamBd x p1 p2 p3) (lamSc x) lpos, e3] X.env) = [(false, eval (.Lambda (lamPs ap) (lamBd x p1 p2 p3) (lamSc x) lpos) X.env), (false, eval e3 X.env)] := by rfl) :
    PE X (.Call (.Name "concealed" p) [e1, .Lambda (lamPs ap) (lamBd x p1 p2 p3) (lamSc x) lpos, e3] [] pos) (tConc X.K T (X.env.qual ++ "<lambda>") j t1 t3) := by
  refine ⟨fun pins s σ H Q I h => ?_⟩
  refine wpAny_Call_Name_kw (ld_glob I hg hm ?_ (by decide))
  refine PySem.W.callWith_K (h₀ := X.base) I.ok.mod.kin hk ?_ he (by rw [he2]; rfl)
  rw [he]
  show wpAny _ _ (spliced ((false, eval e1 X.env) :: backTo pos (starEach [.Lambda (lamPs ap) (lamBd x p1 p2 p3) (lamSc x) lpos, e3] X.env))) _ _ s
  rw [he2]
  refine Calls.spliced_cons (thn (h1.run pins s σ H _ I h) fun u1 s1 ⟨v1, H1, I1, r1, hT, h⟩ => ?_)
  have hcell' : X.env.kindOf x = some .cell := hcell
  have hfree : ∀ y ∈ (lamSc x).names, y.2 = .free → ∃ c, X.env.cells.lookup y.1 = some c := fun y hy e => by
    rcases List.mem_cons.mp hy with z | z
    · rw [z] at e; exact nomatch e
    · rw [List.mem_singleton.mp z]; exact I1.ok.has x (.inl hcell')
  refine Calls.spliced_cons (LamX.lam_make2 I1 TB hcode hmT hu hT rfl hfree fun f c' pm ctv H2 s2 I2 eN T2 hf hfn2 hfr hco => ?_)
  obtain ⟨c0, hc0⟩ := I1.ok.has x (.inl hcell')
  have ecl : cloFrom X.env.cells (lamSc x).names [] = [(x, c0)] := by
    show cloFrom X.env.cells [(("_law_at" : Str), NameKind.local), (x, .free)] [] = _
    simp [cloFrom, hc0]
  rw [ecl] at hf
  have nloc : f ≠ X.env.locals := fun z => by
    obtain ⟨m, ⟨o, es, ep, ho, hd, _⟩, _⟩ := I2.loc
    rw [z, ho] at hf
    have := congrArg Obj.data (Option.some.inj hf)
    rw [hd] at this
    exact nomatch this
  have outF : ∀ b, b ∈ X.fs → b ∈ frs X.stack := fun b hb => by
    rcases I2.ok.stk with z | ⟨z, _⟩
    · rw [z]; exact hb
    · rw [z]
      show b ∈ (X.env :: X.outer).filterMap (·.frame)
      rw [List.filterMap_cons]
      cases X.env.frame with
      | none => exact hb
      | some a => exact List.mem_cons_of_mem _ hb
  have I2' : Inv X (pins ++ [(f, PySem.W.kla_obj "<lambda>" (X.env.qual ++ "<lambda>") (lamPs ap) (lamBd x p1 p2 p3) (lamSc x) [(x, c0)] pm c' ctv)]) σ H2 s2 := I2.pins_of fun q hq => by
    rcases List.mem_append.mp hq with z | z
    · exact I2.pin q (List.mem_append_right _ z)
    · rw [List.mem_singleton.mp z]
      exact ⟨hf, hfn2, nloc, fun k => hfr (outF f k), fun v z => nomatch z⟩
  refine Calls.spliced_cons (thn (h3.run _ s2 σ H2 _ I2' (h H2 c' eN T2 hco)) fun u3 s3 ⟨v3, H3, I3, r3, h⟩ => ?_)
  obtain ⟨G0, rs, L, lst, vs, hσ, hG, hlst, hneed, hsp⟩ := h
  refine Calls.spliced_nil ⟨I3.kIn, ?_⟩
  have sp := hsp f
  obtain ⟨hf3, hfn3, _⟩ := I3.pin (f, _) (List.mem_append_right _ (List.mem_append_right _ (List.mem_singleton.mpr rfl)))
  obtain ⟨m, hns, hl⟩ := I3.loc
  obtain ⟨uc, ruc, hlook⟩ := hl j x (.ref lst) hN hσ (.inr (.inl hcell))
  have euc : uc = Value.ref lst := ruc
  obtain ⟨c1, hc1, oc, hoc, hod⟩ : ∃ c1, X.env.cells.lookup x = some c1 ∧ s3.heap.IsCell c1 (some uc) := by
    rcases hlook with ⟨z, _⟩ | ⟨_, z⟩
    · rw [hcell'] at z; exact nomatch z
    · exact z
  have e01 : c1 = c0 := by rw [hc0] at hc1; exact (Option.some.inj hc1).symm
  subst e01
  have nc : H3 c1 = none := I3.freeC x c1 hc0
  have fc : c1 ∉ frs X.stack := fun z => by
    have hz : c1 ∈ frs X.outer ∨ (X.env.frame = some X.env.locals ∧ c1 = X.env.locals) := by
      rcases I3.ok.stk with k | ⟨k, kf⟩
      · rw [k] at z; exact .inl z
      · rw [k] at z
        have z : c1 ∈ (X.env :: X.outer).filterMap (·.frame) := z
        rw [List.filterMap_cons, kf] at z
        rcases List.mem_cons.mp z with z | z
        · exact .inr ⟨kf, z⟩
        · exact .inl z
    rcases hz with z | ⟨_, z⟩
    · obtain ⟨_, o, ho, _⟩ := I3.ok.funs.mem z
      exact absurd (Heap.lt_size ho) (Nat.not_lt_of_le (I3.ok.cab x c1 hfn hc0))
    · obtain ⟨o, es, ep, ho, hd, _⟩ := hns
      rw [z, ho] at hoc
      have := Option.some.inj hoc
      rw [← this] at hod
      rw [hd] at hod
      exact nomatch hod
  obtain ⟨base', e0', bf, bc⟩ := re_base I3 hf3 hoc hfn3 nc hfr fc
  have FA : FetchAt X.prog X.w X.K X.mg base' f G0 rs L := fetch_ok hx hxd hxc bf ⟨oc, bc, by rw [hod, euc]⟩ hG hlst hneed
  have Fo := F base' f G0 rs L FA
  have rv : Vals [v1, .ref f, v3] [u1, .ref f, u3] := .cons r1 (.cons (show RelV (.ref f) (.ref f) from rfl) (.cons r3 .nil))
  have hl3 : ([u1, .ref f, u3] : List Value).length = ps.length := by
    have := Fo.len _ _ _ _ sp
    exact this
  have bt := hb s3 [u1, .ref f, u3] I3.kIn (by rw [List.append_nil]; exact hl3)
  rw [List.append_nil] at bt
  show wpAny _ _ (call (.ref g) [u1, .ref f, u3]) _ _ _
  refine wpAny_call (codeAny_mono (Fo.run X.A X.stack s3 H3 ⟨[u1, .ref f, u3], []⟩ [u1, .ref f, u3] [v1, .ref f, v3] Q E0 hr e0' bt rv sp) fun r s' hq => ?_)
  cases r with
  | error e => exact hq.elim
  | ok fl =>
    cases fl with
    | ret u =>
      obtain ⟨v, H', I', r, q⟩ := I3.after hq
      exact ⟨v, H', I'.unpinned, r, q⟩
    | next => exact False.elim hq
    | brk => exact False.elim hq
    | cont => exact False.elim hq
theorem r_concE {K : PySem.W.Frag} {T : List (Addr × Str)} {q : Str} {j : Nat} {t1 t3 : TE} {σ : L2.St} {H : Hp} {Q : VK} (h : t1 σ H fun v1 H1 => LamX.Tabs T H1 ∧ ∀ (H2 : Hp) (c' : Addr), LamX.ExtN H1 H2 → LamX.Tabs T H2 → H2 c' = some (LamX.CodeO c' q) → t3 σ H2 fun v3 H3 =>
  ∃ (G0 : Hp) (rs : List Rc) (L : Nat) (lst : Addr) (vs : List V), σ[j]? = some (some (.ref lst)) ∧ G0 c' = some (LamX.CodeO c' q) ∧ G0 lst = some (.lst vs) ∧ (∀ i r, Need rs L i → rs[i]? = some r → ∃ v, vs[i]? = some v ∧ RcV K G0 v r) ∧
    ∀ fa, sp_concealed K fa G0 rs L [v1, .ref fa, v3] H3 Q E0) : tConc K T q j t1 t3 σ H Q := h
/-! ### THE PLAIN LAW: order of the frames -/
theorem ix_order {rs : List Rc} : ∀ {i j : Nat} {x y : Ix}, i < j → (ixs rs)[i]? = some x → (ixs rs)[j]? = some y → x.start + x.len ≤ y.start := by
  intro i j
  induction j with
  | zero => intro x y h; exact absurd h (Nat.not_lt_zero _)
  | succ j ih =>
    intro x y h hx hy
    have hj : j < (ixs rs).length := by have := (List.getElem?_eq_some_iff.mp hy).1; omega
    have hz : (ixs rs)[j]? = some (ixs rs)[j] := List.getElem?_eq_getElem hj
    have hs := (ix_next rs 0 0 (0, 0) 0 j _ y hz hy).2.1
    by_cases e : i = j
    · subst e
      rw [hx] at hz
      have ez := Option.some.inj hz
      rw [← ez] at hs
      omega
    · have := ih (by omega) hx hz
      omega
theorem ix_in {rs : List Rc} (g : Good start0 (0, 0) rs) {f : Nat} {x : Ix} (hx : (ixs rs)[f]? = some x) : x.left.1 + x.right.1 ≤ x.len ∧ 1 ≤ x.len ∧ x.len ≤ 64 ∧ x.right.1 ≤ 8 ∧ x.left.1 ≤ 64 := by
  obtain ⟨h, ns, t, a, b, c, d, e1, e2, _⟩ := frame_at hx
  obtain ⟨ok, k⟩ := good_at rs s0 _ _ g a
  obtain ⟨_, l⟩ := k h ns t rfl
  have e3 : x = ⟨(aft (rs.take x.rc)).pos, (aft (rs.take x.rc)).st, h.len, (aft (rs.take x.rc)).left, h.jt, h.lev, h.step, (aft (rs.take x.rc)).org⟩ := by
    have := (at_fr a).1
    have p := aft_pos' (rs := rs) (i := x.rc) (Nat.le_of_lt (rc_len hx))
    have q := rc_inj hx this (by show x.rc = (aft (rs.take x.rc)).pos; exact p.symm)
    rw [← q, hx] at this
    exact Option.some.inj this
  have e4 : x.left = (aft (rs.take x.rc)).left := congrArg Ix.left e3
  have l : (aft (rs.take x.rc)).left.1 + h.jt.1 ≤ h.len := l
  have := ok.1.1
  have := ok.1.2.1
  have := ok.1.2.2.1.1
  rw [e4, e1, e2]
  omega
theorem ix_s1 {rs : List Rc} (g : Good start0 (0, 0) rs) {i j : Nat} {x y : Ix} (h : i < j) (hx : (ixs rs)[i]? = some x) (hy : (ixs rs)[j]? = some y) : x.start + x.len + x.right.1 + y.right.1 ≤ y.start + y.len := by
  have hy' := ix_in g hy
  by_cases e : j = i + 1
  · subst e
    obtain ⟨_, a, b⟩ := ix_next rs 0 0 (0, 0) 0 i x y hx hy
    rw [b] at hy'
    omega
  · obtain ⟨z, hz⟩ : ∃ z, (ixs rs)[i + 1]? = some z := ⟨_, List.getElem?_eq_getElem (by have := (List.getElem?_eq_some_iff.mp hy).1; omega)⟩
    obtain ⟨_, a, b⟩ := ix_next rs 0 0 (0, 0) 0 i x z hx hz
    have hz' := ix_in g hz
    rw [b] at hz'
    have := ix_order (by omega : i + 1 < j) hz hy
    omega
theorem ix_s2 {rs : List Rc} (g : Good start0 (0, 0) rs) {i j : Nat} {x y : Ix} (h : i < j) (hx : (ixs rs)[i]? = some x) (hy : (ixs rs)[j]? = some y) : x.start + x.left.1 + y.left.1 ≤ y.start := by
  have hx' := ix_in g hx
  by_cases e : j = i + 1
  · subst e
    obtain ⟨_, a, b⟩ := ix_next rs 0 0 (0, 0) 0 i x y hx hy
    rw [b]
    omega
  · obtain ⟨z, hz⟩ : ∃ z, (ixs rs)[j - 1]? = some z := ⟨_, List.getElem?_eq_getElem (by have := (List.getElem?_eq_some_iff.mp hy).1; omega)⟩
    obtain ⟨_, a, b⟩ := ix_next rs 0 0 (0, 0) 0 (j - 1) z y hz (by rw [show j - 1 + 1 = j by omega]; exact hy)
    have hz' := ix_in g hz
    have := ix_order (by omega : i < j - 1) hx hz
    rw [b]
    omega
theorem ix_start {rs : List Rc} (g : Good start0 (0, 0) rs) : ∀ {f : Nat} {x : Ix}, (ixs rs)[f]? = some x → x.start = ((blocksOf rs).take f).flatten.length := by
  intro f
  induction f with
  | zero =>
    intro x hx
    have g0 : ∀ (rs : List Rc) (p s : Nat) (l : Jt) (o : Nat) (y : Ix), (ixGo p s l o rs)[0]? = some y → y.start = s := by
      intro rs
      induction rs with
      | nil => intro p s l o y h; simp [ixGo] at h
      | cons r rs ih =>
        intro p s l o y h
        cases r with
        | st t => exact ih (p + 1) s l p y h
        | fr h' ns' t' =>
          have e : _ = y := Option.some.inj h
          subst e
          rfl
    rw [g0 rs 0 0 (0, 0) 0 x hx, List.take_zero]
    rfl
  | succ f ih =>
    intro x hx
    have hl := (List.getElem?_eq_some_iff.mp hx).1
    obtain ⟨z, hz⟩ : ∃ z, (ixs rs)[f]? = some z := ⟨_, List.getElem?_eq_getElem (by omega)⟩
    obtain ⟨b, hb⟩ : ∃ b, (blocksOf rs)[f]? = some b := ⟨_, List.getElem?_eq_getElem (by rw [← (lens rs).1]; omega)⟩
    rw [(ix_next rs 0 0 (0, 0) 0 f z x hz hx).2.1, ih hz, flat_snoc hb, List.length_append, (block_len g hz hb).1]
theorem ix_end {rs : List Rc} (g : Good start0 (0, 0) rs) {f : Nat} {x : Ix} (hx : (ixs rs)[f]? = some x) : x.start + x.len ≤ (blocksOf rs).flatten.length := by
  have hl := (List.getElem?_eq_some_iff.mp hx).1
  obtain ⟨b, hb⟩ : ∃ b, (blocksOf rs)[f]? = some b := ⟨_, List.getElem?_eq_getElem (by rw [← (lens rs).1]; omega)⟩
  have := flat_le (bls := blocksOf rs) (f + 1)
  rw [flat_snoc hb, List.length_append, (block_len g hx hb).1, ← ix_start g hx] at this
  exact this
/-! ### the stretches -/
/-- the numbers' places among the stretches -/
def InT (ps : List (Int × Int)) (p : Int) : Prop := ∃ ab ∈ ps, ab.1 ≤ p ∧ p < ab.2
theorem merge_ne (found : List (Int × Int)) (p : Int × Int) : mergeS found p ≠ [] := by
  rw [merge_eq]
  split
  · simp
  · split <;> simp
theorem merge_len (found : List (Int × Int)) (p : Int × Int) : (mergeS found p).length ≤ found.length + 1 := by
  rw [merge_eq]
  split
  · simp
  · split
    · rw [List.length_append, List.length_dropLast, List.length_singleton]; omega
    · rw [List.length_append, List.length_singleton]; exact Nat.le_refl _
theorem merge_all {C : Int → Prop} {D : Int → Prop} {found : List (Int × Int)} {p : Int × Int} (h : ∀ ab ∈ found, C ab.1 ∧ D ab.2) (hp : C p.1 ∧ D p.2) : ∀ ab ∈ mergeS found p, C ab.1 ∧ D ab.2 := by
  intro ab hab
  rw [merge_eq] at hab
  split at hab
  · rcases List.mem_append.mp hab with z | z
    · exact nomatch z
    · rw [List.mem_singleton.mp z]; exact hp
  · rename_i hne
    split at hab
    · rcases List.mem_append.mp hab with z | z
      · exact h ab (List.dropLast_subset _ z)
      · rw [List.mem_singleton.mp z]
        refine ⟨?_, hp.2⟩
        rw [List.getLastD_eq_getLast?, List.getLast?_eq_some_getLast hne]
        exact (h _ (List.getLast_mem hne)).1
    · rcases List.mem_append.mp hab with z | z
      · exact h ab z
      · rw [List.mem_singleton.mp z]; exact hp
theorem touch_fold (ix : List Ix) (L : Nat) : touchedL ix L = (unreadL ix L).foldl (stepT ix) [] := rfl
theorem touched_len (ix : List Ix) (L : Nat) : (touchedL ix L).length ≤ ix.length := by
  have g : ∀ (fs : List Nat) (found : List (Int × Int)), (fs.foldl (stepT ix) found).length ≤ found.length + fs.length := by
    intro fs
    induction fs with
    | nil => intro found; exact Nat.le_refl _
    | cons f fs ih =>
      intro found
      rw [List.foldl_cons, List.length_cons]
      have := ih (stepT ix found f)
      have h2 : (stepT ix found f).length ≤ found.length + 1 := by
        unfold stepT
        split
        · exact merge_len _ _
        · omega
      omega
  rw [touch_fold]
  have := g (unreadL ix L) []
  have h2 := unreadN_len ix L ix.length
  rw [← unread_eq] at h2
  rw [List.length_nil] at this
  omega
theorem touched_bd {rs : List Rc} {L : Nat} (g : Good start0 (0, 0) rs) (hl : rs.length ≤ 30) : ∀ ab ∈ touchedL (ixs rs) L, -100 ≤ ab.1 ∧ ab.1 ≤ 5000 ∧ -100 ≤ ab.2 ∧ ab.2 ≤ 5000 := by
  have key : ∀ (fs : List Nat) (found : List (Int × Int)), (∀ ab ∈ found, (-100 ≤ ab.1 ∧ ab.1 ≤ 5000) ∧ (-100 ≤ ab.2 ∧ ab.2 ≤ 5000)) → ∀ ab ∈ fs.foldl (stepT (ixs rs)) found, (-100 ≤ ab.1 ∧ ab.1 ≤ 5000) ∧ (-100 ≤ ab.2 ∧ ab.2 ≤ 5000) := by
    intro fs
    induction fs with
    | nil => intro found h; exact h
    | cons f fs ih =>
      intro found h
      rw [List.foldl_cons]
      refine ih _ ?_
      unfold stepT
      split
      · rename_i x hx
        have h1 := ix_in g hx
        have h2 := ix_end g hx
        have h3 := flat_64 rs _ _ g
        refine merge_all (C := fun z => -100 ≤ z ∧ z ≤ 5000) (D := fun z => -100 ≤ z ∧ z ≤ 5000) h ?_
        unfold stretchOf
        dsimp only
        omega
      · exact h
  intro ab hab
  have := key (unreadL (ixs rs) L) [] (fun ab z => nomatch z) ab hab
  exact ⟨this.1.1, this.1.2, this.2.1, this.2.2⟩
/-- a place that a gone frame's stretch holds -/
def Tch (ix : List Ix) (L : Nat) (q : Int) : Prop := ∃ (f : Nat) (x : Ix), ix[f]? = some x ∧ x.gone L = true ∧ (stretchOf x).1 ≤ q ∧ q < (stretchOf x).2
theorem unread_sorted (ix : List Ix) (L : Nat) : (unreadL ix L).Pairwise (· < ·) := by
  rw [unread_eq]
  exact List.Pairwise.filter _ List.pairwise_lt_range
theorem touched_cov {rs : List Rc} {L : Nat} (g : Good start0 (0, 0) rs) (q : Int) (h : Tch (ixs rs) L q) : InT (touchedL (ixs rs) L) q := by
  have key : ∀ i, i ≤ (unreadL (ixs rs) L).length →
      (∀ f ∈ (unreadL (ixs rs) L).take i, ∀ x, (ixs rs)[f]? = some x → (stretchOf x).1 ≤ q → q < (stretchOf x).2 → InT (((unreadL (ixs rs) L).take i).foldl (stepT (ixs rs)) []) q) ∧
      (∀ f x, (unreadL (ixs rs) L)[i - 1]? = some f → 0 < i → (ixs rs)[f]? = some x → (((unreadL (ixs rs) L).take i).foldl (stepT (ixs rs)) []) ≠ [] ∧ ((((unreadL (ixs rs) L).take i).foldl (stepT (ixs rs)) []).getLastD (0, 0)).2 = (stretchOf x).2 ∧ ((((unreadL (ixs rs) L).take i).foldl (stepT (ixs rs)) []).getLastD (0, 0)).1 ≤ (stretchOf x).1) ∧
      (i = 0 → (((unreadL (ixs rs) L).take i).foldl (stepT (ixs rs)) []) = []) := by
    intro i
    induction i with
    | zero => intro _; exact ⟨fun f hf => (by rw [List.take_zero] at hf; exact (nomatch hf)), fun f x _ h0 => absurd h0 (Nat.lt_irrefl _), fun _ => rfl⟩
    | succ i ih =>
      intro hi
      obtain ⟨ih1, ih2, ih3⟩ := ih (by omega)
      obtain ⟨f0, hf⟩ : ∃ f, (unreadL (ixs rs) L)[i]? = some f := ⟨_, List.getElem?_eq_getElem (show i < (unreadL (ixs rs) L).length by omega)⟩
      have fl : f0 < (ixs rs).length := by
        have := List.mem_of_getElem? hf
        unfold unreadL at this
        exact List.mem_range.mp (List.mem_filter.mp this).1
      obtain ⟨x0, hx⟩ : ∃ x, (ixs rs)[f0]? = some x := ⟨_, List.getElem?_eq_getElem fl⟩
      rw [touch_snoc hf hx]
      -- what stood last
      have prev : i ≠ 0 → ((((unreadL (ixs rs) L).take i).foldl (stepT (ixs rs)) []) ≠ [] ∧ ((((unreadL (ixs rs) L).take i).foldl (stepT (ixs rs)) []).getLastD (0, 0)).2 ≤ (stretchOf x0).2 ∧ ((((unreadL (ixs rs) L).take i).foldl (stepT (ixs rs)) []).getLastD (0, 0)).1 ≤ (stretchOf x0).1) := by
        intro h0
        obtain ⟨f1, hf1⟩ : ∃ f, (unreadL (ixs rs) L)[i - 1]? = some f := ⟨_, List.getElem?_eq_getElem (show i - 1 < (unreadL (ixs rs) L).length by omega)⟩
        have fl1 : f1 < (ixs rs).length := by
          have := List.mem_of_getElem? hf1
          unfold unreadL at this
          exact List.mem_range.mp (List.mem_filter.mp this).1
        obtain ⟨x1, hx1⟩ : ∃ x, (ixs rs)[f1]? = some x := ⟨_, List.getElem?_eq_getElem fl1⟩
        obtain ⟨a, b, c⟩ := ih2 f1 x1 hf1 (by omega) hx1
        have hlt : f1 < f0 := by
          have e1 := (List.getElem?_eq_some_iff.mp hf1)
          have e2 := (List.getElem?_eq_some_iff.mp hf)
          obtain ⟨l1, e1⟩ := e1
          obtain ⟨l2, e2⟩ := e2
          rw [← e1, ← e2]
          exact List.pairwise_iff_getElem.mp (unread_sorted (ixs rs) L) (i - 1) i l1 l2 (by omega)
        have s1 := ix_s1 g hlt hx1 hx
        have s2 := ix_s2 g hlt hx1 hx
        refine ⟨a, ?_, ?_⟩
        · rw [b]; unfold stretchOf; dsimp only; omega
        · refine Int.le_trans c ?_; unfold stretchOf; dsimp only; omega
      generalize (((unreadL (ixs rs) L).take i).foldl (stepT (ixs rs)) []) = found at *
      have last : (mergeS found (stretchOf x0)).getLastD (0, 0) = ((if found = [] then (stretchOf x0).1 else if (stretchOf x0).1 ≤ (found.getLastD (0, 0)).2 then (found.getLastD (0, 0)).1 else (stretchOf x0).1), (stretchOf x0).2) := by
        rw [merge_eq]
        by_cases h1 : found = []
        · rw [if_pos h1, if_pos h1]; rfl
        · rw [if_neg h1, if_neg h1]
          split <;> rw [List.getLastD_eq_getLast?, List.getLast?_append] <;> rfl
      refine ⟨fun f hfm x hxf k1 k2 => ?_, fun f x hf' _ hx' => ?_, fun z => absurd z (Nat.succ_ne_zero _)⟩
      · -- covered
        have old : InT found q → InT (mergeS found (stretchOf x0)) q := by
          rintro ⟨ab, hab, z1, z2⟩
          have fne : found ≠ [] := fun z => by rw [z] at hab; exact nomatch hab
          have i0 : i ≠ 0 := fun z => fne (ih3 z)
          obtain ⟨_, p2, p1⟩ := prev i0
          rw [merge_eq, if_neg fne]
          split
          · rw [← List.dropLast_concat_getLast fne] at hab
            rcases List.mem_append.mp hab with z | z
            · exact ⟨ab, List.mem_append_left _ z, z1, z2⟩
            · have el : found.getLastD (0, 0) = found.getLast fne := by rw [List.getLastD_eq_getLast?, List.getLast?_eq_some_getLast fne]; rfl
              rw [List.mem_singleton.mp z, ← el] at z1 z2
              exact ⟨_, List.mem_append_right _ (List.mem_singleton.mpr rfl), z1, by dsimp only; omega⟩
          · exact ⟨ab, List.mem_append_left _ hab, z1, z2⟩
        rw [List.take_add_one, hf] at hfm
        rcases List.mem_append.mp hfm with z | z
        · exact old (ih1 f z x hxf k1 k2)
        · have ef : f = f0 := List.mem_singleton.mp z
          subst ef
          rw [hx] at hxf
          have ex := Option.some.inj hxf
          subst ex
          have lastmem : (mergeS found (stretchOf x0)).getLastD (0, 0) ∈ mergeS found (stretchOf x0) := by
            rw [List.getLastD_eq_getLast?, List.getLast?_eq_some_getLast (merge_ne _ _)]
            exact List.getLast_mem _
          rw [last] at lastmem
          refine ⟨_, lastmem, ?_, k2⟩
          dsimp only
          split
          · exact k1
          · rename_i fne
            split
            · have i0 : i ≠ 0 := fun z => fne (ih3 z)
              have := (prev i0).2.2
              omega
            · exact k1
      · rw [Nat.add_sub_cancel, hf] at hf'
        have ef := Option.some.inj hf'
        subst ef
        rw [hx] at hx'
        have ex := Option.some.inj hx'
        subst ex
        refine ⟨merge_ne _ _, by rw [last], ?_⟩
        rw [last]
        dsimp only
        split
        · exact Int.le_refl _
        · rename_i fne
          split
          · have i0 : i ≠ 0 := fun z => fne (ih3 z)
            exact (prev i0).2.2
          · exact Int.le_refl _
  obtain ⟨f, x, hx, hg, h1, h2⟩ := h
  have hm : f ∈ unreadL (ixs rs) L := (unread_iff (List.getElem?_eq_some_iff.mp hx).1).mpr (by unfold goneAt; rw [hx]; exact hg)
  have := (key _ (Nat.le_refl _)).1 f (by rw [List.take_length]; exact hm) x hx h1 h2
  rw [List.take_length] at this
  exact this
/-! ### two sounds that agree outside -/
def Ag (T : Nat → Prop) (xs ys : List Int) : Prop := xs.length = ys.length ∧ ∀ q, ¬ T q → xs[q]? = ys[q]?
theorem getD_of {xs ys : List Int} {q : Nat} (h : xs[q]? = ys[q]?) : xs.getD q 0 = ys.getD q 0 := by rw [List.getD_eq_getElem?_getD, List.getD_eq_getElem?_getD, h]
theorem pairStep_ag {T : Nat → Prop} {sh l r : Nat} {xs ys : List Int} (h : Ag T xs ys) (c : T l ↔ T r) : Ag T (pairStep sh l r xs) (pairStep sh l r ys) := by
  refine ⟨by rw [pairStep_len, pairStep_len]; exact h.1, fun q hq => ?_⟩
  unfold pairStep
  rw [List.getElem?_set, List.getElem?_set, List.getElem?_set, List.getElem?_set, List.length_set, List.length_set, h.1]
  by_cases e1 : r = q
  · subst e1
    have hl : ¬ T l := fun z => hq (c.mp z)
    rw [if_pos rfl, if_pos rfl, getD_of (h.2 r hq), getD_of (h.2 l hl)]
  · rw [if_neg e1, if_neg e1]
    by_cases e2 : l = q
    · subst e2
      have hr : ¬ T r := fun z => hq (c.mpr z)
      rw [if_pos rfl, if_pos rfl, getD_of (h.2 l hq), getD_of (h.2 r hr)]
    · rw [if_neg e2, if_neg e2]
      exact h.2 q hq
theorem pairsGo_ag {T : Nat → Prop} {sh p : Nat} : ∀ (n : Nat) {xs ys : List Int}, Ag T xs ys → (∀ i, i < n → (T (p - 1 - i) ↔ T (p + i))) → Ag T (pairsGo sh p n xs) (pairsGo sh p n ys)
  | 0, _, _, h, _ => h
  | n + 1, xs, ys, h, c => pairStep_ag (pairsGo_ag n h fun i hi => c i (by omega)) (c n (by omega))
theorem chg_ag {T : Nat → Prop} : ∀ (ps : List (Nat × Jt)) {xs ys : List Int}, Ag T xs ys → (∀ p ∈ ps, ∀ i, i < p.2.1 → (T (p.1 - 1 - i) ↔ T (p.1 + i))) → Ag T (chg xs ps) (chg ys ps)
  | [], _, _, h, _ => h
  | (p, j) :: r, xs, ys, h, c => chg_ag r (pairsGo_ag j.1 h (c (p, j) (List.mem_cons_self ..))) fun q hq => c q (List.mem_cons_of_mem _ hq)
/-- where a joint stands -/
theorem place_at : ∀ (bls : List (List Int)) (js : List Jt) (a : Nat) (p : Nat × Jt), p ∈ placesGo a bls js → ∃ k b, bls[k]? = some b ∧ js[k]? = some p.2 ∧ p.1 = a + (bls.take (k + 1)).flatten.length ∧ p.2 ≠ (0, 0)
  | [], _, _, _, h => by simp [placesGo] at h
  | _ :: _, [], _, _, h => by simp [placesGo] at h
  | b :: bls, j :: js, a, p, h => by
    rw [placesGo] at h
    have rec_ : p ∈ placesGo (a + b.length) bls js → ∃ k b', (b :: bls)[k]? = some b' ∧ (j :: js)[k]? = some p.2 ∧ p.1 = a + ((b :: bls).take (k + 1)).flatten.length ∧ p.2 ≠ (0, 0) := fun z => by
      obtain ⟨k, b', h1, h2, h3, h4⟩ := place_at bls js (a + b.length) p z
      exact ⟨k + 1, b', h1, h2, by rw [h3, List.take_succ_cons, List.flatten_cons, List.length_append, Nat.add_assoc], h4⟩
    split at h
    · exact rec_ h
    · rename_i hj
      rcases List.mem_cons.mp h with z | z
      · subst z
        exact ⟨0, b, rfl, rfl, by rw [List.take_succ_cons, List.take_zero, List.flatten_cons, List.flatten_nil, List.append_nil], hj⟩
      · exact rec_ z
/-- T is closed under the pairs of a joint -/
theorem tch_closed {rs : List Rc} {L : Nat} (g : Good start0 (0, 0) rs) : ∀ p ∈ placesGo 0 (blocksOf rs) (jointsOf rs), ∀ i, i < p.2.1 → (Tch (ixs rs) L ((p.1 - 1 - i : Nat) : Int) ↔ Tch (ixs rs) L ((p.1 + i : Nat) : Int)) := by
  intro p hp i hi
  obtain ⟨n, hn⟩ := List.mem_iff_getElem?.mp hp
  obtain ⟨_, fp, _, _, _⟩ := Fits.at_ (fits_good g) hn
  obtain ⟨k, b, hb, hj, hpl, _⟩ := place_at _ _ _ _ hp
  rw [Nat.zero_add] at hpl
  have hk : k < (blocksOf rs).length := (List.getElem?_eq_some_iff.mp hb).1
  obtain ⟨ln1, ln2, ln3⟩ := lens rs
  obtain ⟨x, hx⟩ : ∃ x, (ixs rs)[k]? = some x := ⟨_, List.getElem?_eq_getElem (by omega)⟩
  have hr : x.right = p.2 := by
    obtain ⟨h, ns, t, _, _, _, d, _, e, _⟩ := frame_at hx
    rw [hj] at d
    rw [e, Option.some.inj d]
  have hP : p.1 = x.start + x.len := by
    rw [hpl, flat_snoc hb, List.length_append, ix_start g hx, (block_len g hx hb).1]
  have hk1 : k + 1 < (ixs rs).length := by
    refine Classical.byContradiction fun z => ?_
    have e : (blocksOf rs).take (k + 1) = blocksOf rs := List.take_of_length_le (by omega)
    rw [e] at hpl
    omega
  obtain ⟨y, hy⟩ : ∃ y, (ixs rs)[k + 1]? = some y := ⟨_, List.getElem?_eq_getElem hk1⟩
  obtain ⟨_, ys, yl⟩ := ix_next rs 0 0 (0, 0) 0 k x y hx hy
  have ix1 := ix_in g hx
  have ix2 := ix_in g hy
  rw [yl] at ix2
  rw [← hr] at hi
  have lt_of : ∀ (f : Nat) (z : Ix), (ixs rs)[f]? = some z → f < k → (stretchOf z).2 ≤ ((p.1 - x.right.1 : Nat) : Int) := fun f z hz h => by
    have := ix_s1 g h hz hx
    unfold stretchOf
    dsimp only
    omega
  have gt_of : ∀ (f : Nat) (z : Ix), (ixs rs)[f]? = some z → k + 1 < f → ((p.1 + x.right.1 : Nat) : Int) ≤ (stretchOf z).1 := fun f z hz h => by
    have := ix_s2 g h hy hz
    rw [yl] at this
    unfold stretchOf
    dsimp only
    omega
  have sx1 : (stretchOf x).1 = (x.start : Int) - x.left.1 := rfl
  have sx2 : (stretchOf x).2 = (x.start : Int) + x.len + x.right.1 := rfl
  have sy1 : (stretchOf y).1 = (y.start : Int) - x.right.1 := by show (y.start : Int) - y.left.1 = _; rw [yl]
  have sy2 : (stretchOf y).2 = (y.start : Int) + y.len + y.right.1 := rfl
  constructor
  · rintro ⟨f, z, hz, hg, h1, h2⟩
    rcases Nat.lt_trichotomy f k with h | h | h
    · have := lt_of f z hz h; omega
    · subst h
      rw [hx] at hz
      have ez := Option.some.inj hz
      subst ez
      exact ⟨f, x, hx, hg, by omega, by omega⟩
    · by_cases h' : f = k + 1
      · subst h'
        rw [hy] at hz
        have ez := Option.some.inj hz
        subst ez
        exact ⟨k + 1, y, hy, hg, by omega, by omega⟩
      · have := gt_of f z hz (by omega); omega
  · rintro ⟨f, z, hz, hg, h1, h2⟩
    rcases Nat.lt_trichotomy f k with h | h | h
    · have := lt_of f z hz h; omega
    · subst h
      rw [hx] at hz
      have ez := Option.some.inj hz
      subst ez
      exact ⟨f, x, hx, hg, by omega, by omega⟩
    · by_cases h' : f = k + 1
      · subst h'
        rw [hy] at hz
        have ez := Option.some.inj hz
        subst ez
        exact ⟨k + 1, y, hy, hg, by omega, by omega⟩
      · have := gt_of f z hz (by omega); omega
/-- flat lists of blocks that agree -/
theorem flat_at : ∀ (a b : List (List Int)) (q : Nat), a.map List.length = b.map List.length → (∀ (f : Nat) (x y : List Int), a[f]? = some x → b[f]? = some y → (a.take f).flatten.length ≤ q → q < (a.take f).flatten.length + x.length → x = y) → a.flatten[q]? = b.flatten[q]?
  | [], [], _, _, _ => rfl
  | [], _ :: _, _, h, _ => by simp at h
  | _ :: _, [], _, h, _ => by simp at h
  | x :: a, y :: b, q, h, k => by
    rw [List.map_cons, List.map_cons] at h
    obtain ⟨h1, h2⟩ := List.cons.inj h
    rw [List.flatten_cons, List.flatten_cons]
    by_cases hq : q < x.length
    · have := k 0 x y rfl rfl (Nat.zero_le _) (by rw [List.take_zero]; show q < 0 + x.length; omega)
      subst this
      rw [List.getElem?_append_left hq, List.getElem?_append_left hq]
    · rw [List.getElem?_append_right (by omega), List.getElem?_append_right (by omega), h1]
      refine flat_at a b (q - y.length) h2 fun f u v hu hv k1 k2 => ?_
      refine k (f + 1) u v hu hv ?_ ?_
      · rw [List.take_succ_cons, List.flatten_cons, List.length_append]; omega
      · rw [List.take_succ_cons, List.flatten_cons, List.length_append]; omega
theorem ag_blocks {rs : List Rc} {L : Nat} (g : Good start0 (0, 0) rs) {bls : List (List Int)} (hl : bls.map List.length = (blocksOf rs).map List.length) (h : ∀ (f : Nat) (x : Ix) (b c : List Int), (ixs rs)[f]? = some x → x.gone L = false → (blocksOf rs)[f]? = some b → bls[f]? = some c → c = b) :
    Ag (fun q => Tch (ixs rs) L (q : Int)) bls.flatten (blocksOf rs).flatten := by
  refine ⟨flat_congr hl, fun q hq => flat_at _ _ q hl fun f c b hc hb k1 k2 => ?_⟩
  have hf := (List.getElem?_eq_some_iff.mp hb).1
  obtain ⟨x, hx⟩ : ∃ x, (ixs rs)[f]? = some x := ⟨_, List.getElem?_eq_getElem (by rw [(lens rs).1]; exact hf)⟩
  cases hg : x.gone L with
  | false => exact h f x b c hx hg hb hc
  | true =>
    refine absurd ⟨f, x, hx, hg, ?_, ?_⟩ hq
    all_goals
      have e1 := ix_start g hx
      have e2 := (block_len g hx hb).1
      have e3 : c.length = b.length := by
        have := congrArg (fun l => l[f]?) hl
        rw [List.getElem?_map, List.getElem?_map, hc, hb] at this
        exact Option.some.inj this
      have e4 : (bls.take f).flatten.length = ((blocksOf rs).take f).flatten.length := by
        refine flat_congr ?_
        rw [List.map_take, List.map_take, hl]
      rw [e4, ← e1] at k1 k2
      unfold stretchOf
      dsimp only
      omega
theorem unf_ag {rs : List Rc} {L : Nat} (g : Good start0 (0, 0) rs) {bls : List (List Int)} (hl : bls.map List.length = (blocksOf rs).map List.length) (h : ∀ (f : Nat) (x : Ix) (b c : List Int), (ixs rs)[f]? = some x → x.gone L = false → (blocksOf rs)[f]? = some b → bls[f]? = some c → c = b) :
    Ag (fun q => Tch (ixs rs) L (q : Int)) (unfB bls (jointsOf rs)) (soundOf rs) := by
  unfold soundOf unfB
  rw [placesGo_congr _ _ _ _ hl]
  exact chg_ag _ (ag_blocks g hl h) (tch_closed g)
/-! ### the other stream's frames -/
def skel : Rc → Option Hd
  | .st _ => none
  | .fr h _ _ => some h
theorem ixGo_skel : ∀ (a b : List Rc) (p s : Nat) (l : Jt) (o : Nat), a.map skel = b.map skel → ixGo p s l o a = ixGo p s l o b ∧ jointsOf a = jointsOf b
  | [], [], _, _, _, _, _ => ⟨rfl, rfl⟩
  | [], _ :: _, _, _, _, _, h => by simp at h
  | _ :: _, [], _, _, _, _, h => by simp at h
  | .st _ :: a, .st _ :: b, p, s, l, o, h => ixGo_skel a b (p + 1) s l p (List.cons.inj h).2
  | .st _ :: _, .fr _ _ _ :: _, _, _, _, _, h => nomatch (List.cons.inj h).1
  | .fr _ _ _ :: _, .st _ :: _, _, _, _, _, h => nomatch (List.cons.inj h).1
  | .fr h1 _ _ :: a, .fr h2 _ _ :: b, p, s, l, o, h => by
    obtain ⟨e1, e2⟩ := List.cons.inj h
    have e1 : h1 = h2 := Option.some.inj e1
    subst e1
    obtain ⟨i1, i2⟩ := ixGo_skel a b (p + 1) (s + h1.len) h1.jt o e2
    exact ⟨congrArg (_ :: ·) i1, congrArg (_ :: ·) i2⟩
theorem oth_skel {w : Nat} {rs rs' : List Rc} (o : Oth w rs rs') : rs'.map skel = rs.map skel := by
  refine List.ext_getElem? fun i => ?_
  rw [List.getElem?_map, List.getElem?_map]
  by_cases hi : i < rs.length
  · obtain ⟨r, hr⟩ : ∃ r, rs[i]? = some r := ⟨_, List.getElem?_eq_getElem hi⟩
    obtain ⟨r', hr'⟩ : ∃ r, rs'[i]? = some r := ⟨_, List.getElem?_eq_getElem (by rw [o.1]; exact hi)⟩
    have := o.2 i r r' hr hr'
    rw [hr, hr']
    cases r with
    | st t => cases r' with
      | st t' => rfl
      | fr h ns t' => exact this.elim
    | fr h ns t => cases r' with
      | st t' => exact this.elim
      | fr h' ns' t' => show some (some h') = some (some h); rw [this.1]
  · rw [List.getElem?_eq_none (by rw [o.1]; omega), List.getElem?_eq_none (by omega)]
/-- the flag: the frame w stands ahead, no state record since -/
theorem opW {w : Nat} {rs : List Rc} : ∀ i, i ≤ rs.length → (aftO w (rs.take i)).2 = true → ∃ x, (ixs rs)[w]? = some x ∧ x.rc < i ∧ ∀ m, x.rc < m → m < i → ∀ t, rs[m]? ≠ some (.st t) := by
  intro i
  induction i with
  | zero => intro _ h; exact nomatch (show false = true from h)
  | succ i ih =>
    intro hi h
    obtain ⟨r, hr⟩ : ∃ r, rs[i]? = some r := ⟨_, List.getElem?_eq_getElem (by omega)⟩
    rw [aftO_snoc hr] at h
    cases r with
    | st t => exact nomatch (show false = true from h)
    | fr hd ns t =>
      have h : ((aftO w (rs.take i)).2 || decide ((aftO w (rs.take i)).1 = w)) = true := h
      rw [Bool.or_eq_true, decide_eq_true_iff] at h
      rcases h with h | h
      · obtain ⟨x, a, b, c⟩ := ih (by omega) h
        refine ⟨x, a, by omega, fun m h1 h2 t' => ?_⟩
        by_cases e : m = i
        · subst e; rw [hr]; exact fun z => nomatch (Option.some.inj z)
        · exact c m h1 (by omega) t'
      · have := (at_fr hr).1
        rw [← aftO_1 w, h] at this
        refine ⟨_, this, ?_, fun m h1 h2 => ?_⟩
        · show (aft (rs.take i)).pos < i + 1
          rw [aft_pos' (by omega)]
          omega
        · have h1 : (aft (rs.take i)).pos < m := h1
          rw [aft_pos' (by omega)] at h1
          omega
/-- frames that are not gone keep their numbers -/
theorem kept_fr {w : Nat} {rs : List Rc} {x y : Ix} {f : Nat} (hx : (ixs rs)[w]? = some x) (hy : (ixs rs)[f]? = some y) (ng : y.gone x.rc = false) : f ≠ w ∧ (aftO w (rs.take y.rc)).2 = false := by
  have ng := of_decide_eq_false ng
  refine ⟨fun z => ?_, ?_⟩
  · subst z
    rw [hx] at hy
    have e := Option.some.inj hy
    subst e
    exact ng ⟨(org_at hx).1, Nat.le_refl _⟩
  · cases e : (aftO w (rs.take y.rc)).2 with
    | false => rfl
    | true =>
      obtain ⟨x', a, b, c⟩ := opW y.rc (Nat.le_of_lt (rc_len hy)) e
      rw [hx] at a
      have ex := Option.some.inj a
      subst ex
      refine absurd ⟨?_, Nat.le_of_lt b⟩ ng
      refine Classical.byContradiction fun z => ?_
      obtain ⟨o1, o2⟩ := org_at hy
      rcases o2 with o2 | ⟨t, o2⟩
      · omega
      · have ne : y.org ≠ y.rc := fun k => by
          obtain ⟨h, ns, t', q, _⟩ := frame_at hy
          rw [k, q] at o2
          exact nomatch (Option.some.inj o2)
        exact c y.org (by omega) (by omega) t o2
theorem curEq {w : Nat} {rs rs' : List Rc} (g : Good start0 (0, 0) rs) (g' : Good start0 (0, 0) rs') (o : Oth w rs rs') : ∀ i, i ≤ rs.length → (aftO w (rs.take i)).2 = false → (aft (rs'.take i)).cur = (aft (rs.take i)).cur := by
  intro i
  induction i with
  | zero => intro _ _; rfl
  | succ i ih =>
    intro hi h
    obtain ⟨r, hr⟩ : ∃ r, rs[i]? = some r := ⟨_, List.getElem?_eq_getElem (by omega)⟩
    obtain ⟨r', hr'⟩ : ∃ r, rs'[i]? = some r := ⟨_, List.getElem?_eq_getElem (by rw [o.1]; omega)⟩
    have q := o.2 i r r' hr hr'
    rw [aftO_snoc hr] at h
    rw [aft_snoc hr, aft_snoc hr']
    cases r with
    | st t => cases r' with
      | st t' => exact q
      | fr h ns t' => exact q.elim
    | fr hd ns t => cases r' with
      | st t' => exact q.elim
      | fr h' ns' t' =>
        have h : ((aftO w (rs.take i)).2 || decide ((aftO w (rs.take i)).1 = w)) = false := h
        rw [Bool.or_eq_false_iff, decide_eq_false_iff_not] at h
        obtain ⟨q1, q2⟩ := q
        have q2 := q2 h.2 h.1
        have c := ih (by omega) h.1
        have t1 := ((good_at rs s0 i _ g hr).2 hd ns t rfl).1
        have t2 := ((good_at rs' s0 i _ g' hr').2 h' ns' t' rfl).1
        have t1 : t = (aft (rs.take i)).cur := t1
        have t2 : t' = (aft (rs'.take i)).cur := t2
        rw [c, ← t1] at t2
        show (Rc.fr h' ns' t').next = (Rc.fr hd ns t).next
        rw [q1, q2, t2]
theorem same_fr {w : Nat} {rs rs' : List Rc} {x y : Ix} {f : Nat} (g : Good start0 (0, 0) rs) (g' : Good start0 (0, 0) rs') (o : Oth w rs rs') (hx : (ixs rs)[w]? = some x) (hy : (ixs rs)[f]? = some y) (ng : y.gone x.rc = false) : rs'[y.rc]? = rs[y.rc]? := by
  obtain ⟨k1, k2⟩ := kept_fr hx hy ng
  obtain ⟨h, ns, t, hr, _⟩ := frame_at hy
  have hl := rc_len hy
  obtain ⟨r', hr'⟩ : ∃ r, rs'[y.rc]? = some r := ⟨_, List.getElem?_eq_getElem (by rw [o.1]; exact hl)⟩
  have q := o.2 _ _ _ hr hr'
  have c := curEq g g' o y.rc (Nat.le_of_lt hl) k2
  have idx : (aftO w (rs.take y.rc)).1 = f := by
    have := (at_fr hr).1
    rw [aftO_1]
    exact (rc_inj hy this (by show y.rc = (aft (rs.take y.rc)).pos; rw [aft_pos' (Nat.le_of_lt hl)])).symm
  rw [hr, hr']
  cases r' with
  | st t' => exact q.elim
  | fr h' ns' t' =>
    obtain ⟨q1, q2⟩ := q
    have q2 := q2 (by rw [idx]; exact k1) k2
    have t1 : t = (aft (rs.take y.rc)).cur := ((good_at rs s0 _ _ g hr).2 h ns t rfl).1
    have t2 : t' = (aft (rs'.take y.rc)).cur := ((good_at rs' s0 _ _ g' hr').2 h' ns' t' rfl).1
    rw [c, ← t1] at t2
    rw [q1, q2, t2]
theorem law_same {rs rs' : List Rc} {w : Nat} {x : Ix} (g : Good start0 (0, 0) rs) (g' : Good start0 (0, 0) rs') (o : Oth w rs rs') (hx : (ixs rs)[w]? = some x) :
    (soundOf rs').length = (soundOf rs).length ∧ (quiet rs x.rc).length = (soundOf rs).length ∧ (soundOf rs).length ≤ 64 * rs.length ∧
    (∀ p : Nat, ¬ InT (touchedL (ixs rs) x.rc) p → (soundOf rs')[p]? = (soundOf rs)[p]? ∧ (quiet rs x.rc)[p]? = (soundOf rs)[p]?) ∧ ∀ i, Need rs x.rc i → rs'[i]? = rs[i]? := by
  have sk := oth_skel o
  obtain ⟨e1, e2⟩ := ixGo_skel rs' rs 0 0 (0, 0) 0 sk
  have e1 : ixs rs' = ixs rs := e1
  have bl : (blocksOf rs').map List.length = (blocksOf rs).map List.length := by
    refine List.ext_getElem? fun f => ?_
    rw [List.getElem?_map, List.getElem?_map]
    obtain ⟨a1, _, _⟩ := lens rs
    obtain ⟨b1, _, _⟩ := lens rs'
    rw [e1] at b1
    by_cases hf : f < (ixs rs).length
    · obtain ⟨y, hy⟩ : ∃ y, (ixs rs)[f]? = some y := ⟨_, List.getElem?_eq_getElem hf⟩
      obtain ⟨b, hb⟩ : ∃ b, (blocksOf rs)[f]? = some b := ⟨_, List.getElem?_eq_getElem (by omega)⟩
      obtain ⟨c, hc⟩ : ∃ b, (blocksOf rs')[f]? = some b := ⟨_, List.getElem?_eq_getElem (by omega)⟩
      rw [hb, hc]
      show some _ = some _
      rw [(block_len g hy hb).1, (block_len g' (by rw [e1]; exact hy) hc).1]
    · rw [List.getElem?_eq_none (by omega), List.getElem?_eq_none (by omega)]
  have A := unf_ag (L := x.rc) g bl fun f y b c hy ng hb hc => by
    have q := same_fr g g' o hx hy ng
    obtain ⟨h, ns, t, k1, _, k3, _⟩ := frame_at hy
    obtain ⟨h', ns', t', m1, _, m3, _⟩ := frame_at (rs := rs') (by rw [e1]; exact hy)
    rw [q, k1] at m1
    have m1 := Option.some.inj m1
    cases m1
    rw [hb] at k3
    rw [hc] at m3
    rw [Option.some.inj k3, Option.some.inj m3]
  have B := unf_ag (L := x.rc) g (quiet_lens g x.rc) fun f y b c hy ng hb hc => by
    have := quiet_at x.rc _ _ f y b hy hb
    rw [hc, ng, if_neg Bool.false_ne_true] at this
    exact Option.some.inj this
  have eA : soundOf rs' = unfB (blocksOf rs') (jointsOf rs) := by unfold soundOf; rw [e2]
  have eB : quiet rs x.rc = unfB (quietGo x.rc (ixs rs) (blocksOf rs)) (jointsOf rs) := rfl
  rw [← eA] at A
  rw [← eB] at B
  refine ⟨A.1, B.1, ?_, fun p hp => ?_, fun i hi => ?_⟩
  · unfold soundOf unfB
    rw [chg_len]
    exact flat_64 rs _ _ g
  · have nt : ¬ Tch (ixs rs) x.rc (p : Int) := fun z => hp (touched_cov g _ z)
    exact ⟨A.2 p nt, B.2 p nt⟩
  · have hi : i ∈ seqOf rs x.rc := hi
    have il := seq_lt hi
    obtain ⟨r, hr⟩ : ∃ r, rs[i]? = some r := ⟨_, List.getElem?_eq_getElem il⟩
    cases r with
    | st t =>
      obtain ⟨r', hr'⟩ : ∃ r, rs'[i]? = some r := ⟨_, List.getElem?_eq_getElem (by rw [o.1]; exact il)⟩
      have q := o.2 _ _ _ hr hr'
      cases r' with
      | st t' => rw [hr, hr', show t' = t from q]
      | fr h ns t' => exact q.elim
    | fr h ns t =>
      obtain ⟨f, y, hy, ey⟩ := rec_frame rs 0 0 (0, 0) 0 i h ns t hr
      rw [Nat.zero_add] at ey
      have := same_fr g g' o hx hy (seq_not_gone hy (by rw [ey]; exact hi))
      rw [ey] at this
      exact this
/-! ### all but the tables of code objects stay -/
section
open LamX (ExtN Tabs TabS CodeO)
variable {K : PySem.W.Frag} {G G' H H' : Hp} {v : V}
theorem en_rd {a : Addr} {xs : List V} (e : ExtN G G') (h : Rd G a (.tup xs)) : Rd G' a (.tup xs) := by
  rcases h with z | ⟨o, z⟩
  · exact .inl (e _ _ z fun ps k => nomatch k)
  · exact .inr ⟨o, e _ _ z fun ps k => nomatch k⟩
theorem en_tup {a : Addr} {xs : List V} (e : ExtN G G') (h : SqT K G a xs) : SqT K G' a xs := by
  rcases h with z | z
  · exact .inl (en_rd e z)
  · exact .inr z
theorem en_sql {a : Addr} {xs : List V} (e : ExtN G G') (h : SqL K G a xs) : SqL K G' a xs := by
  rcases h with (z | ⟨o, z⟩) | z
  · exact .inl (.inl (e _ _ z fun ps k => nomatch k))
  · exact .inl (.inr ⟨o, e _ _ z fun ps k => nomatch k⟩)
  · exact .inr z
theorem en_jt {j : Jt} (e : ExtN G G') (h : JtV K G v j) : JtV K G' v j := by obtain ⟨a, q, r⟩ := h; exact ⟨a, q, en_tup e r⟩
theorem en_tbs {t : Tbs} (e : ExtN G G') (h : TbsV K G v t) : TbsV K G' v t := by
  obtain ⟨a, v1, v2, q, r, ⟨a1, q1, r1⟩, ⟨a2, q2, r2⟩⟩ := h
  exact ⟨a, v1, v2, q, en_tup e r, ⟨a1, q1, en_tup e r1⟩, ⟨a2, q2, en_tup e r2⟩⟩
theorem en_rc {r : Rc} (e : ExtN G G') (h : RcV K G v r) : RcV K G' v r := by
  cases r with
  | st t => obtain ⟨a, u, q, r, s⟩ := h; exact ⟨a, u, q, en_tup e r, en_tbs e s⟩
  | fr h' ns t => obtain ⟨a, u, q, r, s⟩ := h; exact ⟨a, u, q, en_tup e r, en_jt e s⟩
theorem en_ix {x : Ix} (e : ExtN G G') (h : IxV K G v x) : IxV K G' v x := by obtain ⟨a, u, w, q, r, s, t⟩ := h; exact ⟨a, u, w, q, en_tup e r, en_jt e s, en_jt e t⟩
theorem en_lst {a : Addr} {xs : List V} (e : ExtN G G') (h : G a = some (.lst xs)) : G' a = some (.lst xs) := e _ _ h fun ps k => nomatch k
theorem en_li {xs : List Int} (e : ExtN G G') (h : Li G v xs) : Li G' v xs := by obtain ⟨b, q, r⟩ := h; exact ⟨b, q, en_lst e r⟩
theorem en_ls {α : Type} {R R' : V → α → Prop} {ds : List α} (e : ExtN G G') (h : Ls G R v ds) (k : ∀ v d, R v d → R' v d) : Ls G' R' v ds := by obtain ⟨b, vs, q, r, s⟩ := h; exact ⟨b, vs, q, en_lst e r, s.imp k⟩
theorem en_same (e : Same G G') : ExtN G G' := ExtN.of e
/-- the frozen part without tables, with a code object -/
def cutG (G : Hp) (c : Addr) (q : Str) : Hp := fun b => if b = c then some (CodeO c q) else match G b with
  | some (.tbl _) => none
  | o => o
theorem cutG_c {c : Addr} {q : Str} : cutG G c q c = some (CodeO c q) := by unfold cutG; rw [if_pos rfl]
theorem cutG_same {c : Addr} {q : Str} (s : Same G H) (e : ExtN H H') (hc : H' c = some (CodeO c q)) : Same (cutG G c q) H' ∧ ExtN G (cutG G c q) := by
  refine ⟨fun b o h => ?_, fun b o h nt => ?_⟩
  · unfold cutG at h
    by_cases z : b = c
    · rw [if_pos z] at h
      rw [z, hc]
      exact h
    · rw [if_neg z] at h
      cases eb : G b with
      | none => rw [eb] at h; cases h
      | some u =>
        rw [eb] at h
        cases u with
        | tbl ps => cases h
        | _ => exact (Option.some.inj h) ▸ e b _ (s _ _ eb) fun ps k => nomatch k
  · unfold cutG
    by_cases z : b = c
    · subst z
      rw [if_pos rfl]
      have := e b o (s _ _ h) nt
      rw [hc] at this
      exact this
    · rw [if_neg z, h]
      cases o with
      | tbl ps => exact absurd rfl (nt ps)
      | _ => rfl
end
def lamQ : Str := (("law" : Str) ++ ".<locals>.") ++ "<lambda>"
/-! the steps that only law has -/
section
variable {K : PySem.W.Frag} {σ : L2.St} {H : Hp} {Q : VK} {t : TA}
theorem r_gUnl {n : Nat} {tg : TGs} {a : Addr} {xs : List V} {R : L2.St → Hp → Prop} (s : SqL K H a xs) (l : xs.length = n) (h : tg xs σ H R) : gUnl K n tg (.ref a) σ H R := ⟨a, xs, rfl, s, l, h⟩
theorem r_makeE {C : Addr} {sp : Sp} {dvs : List V} {E : XK} (h : t σ H fun vs H1 => ∀ x dx, H1 x = none → H1 dx = none → dx ≠ x → sp (.ref x :: (vs ++ dvs)) (upd (upd H1 dx (.own x)) x (.ins C dx [])) (fun v H2 => v = .non ∧ Q (.ref x) H2) E) : tMake C sp dvs E t σ H Q := h
end
/-- the dict of the places that are touched -/
def InsV (kvs : List (Key × V)) (ps : List (Int × Int)) (n : Nat) : Prop := kvs.length ≤ n ∧ ∀ p : Int, (valV kvs (Sum.inl p)).isSome = true ↔ InT ps p
theorem InsV.nil : InsV [] [] 0 := ⟨Nat.le_refl _, fun p => ⟨fun h => (nomatch h), fun ⟨_, h, _⟩ => (nomatch h)⟩⟩
theorem InsV.put {kvs : List (Key × V)} {ps : List (Int × Int)} {a b : Int} {n : Nat} {v : V} (h : InsV kvs (ps ++ [(a, b)]) n) : InsV (putK kvs (Sum.inl b) v) (ps ++ [(a, b + 1)]) (n + 1) ∨ b < a := by
  by_cases hb : b < a
  · exact .inr hb
  refine .inl ⟨put_len h.1, fun p => ?_⟩
  rw [valV_put]
  have sn : ∀ c : Int, InT (ps ++ [(a, c)]) p ↔ InT ps p ∨ (a ≤ p ∧ p < c) := fun c => by
    unfold InT
    constructor
    · rintro ⟨ab, h1, h2⟩
      rcases List.mem_append.mp h1 with z | z
      · exact .inl ⟨ab, z, h2⟩
      · rw [List.mem_singleton.mp z] at h2; exact .inr h2
    · rintro (⟨ab, h1, h2⟩ | h2)
      · exact ⟨ab, List.mem_append_left _ h1, h2⟩
      · exact ⟨(a, c), List.mem_append_right _ (List.mem_singleton.mpr rfl), h2⟩
  rw [sn]
  by_cases e : p = b
  · subst e
    rw [if_pos rfl]
    exact ⟨fun _ => .inr (by omega), fun _ => rfl⟩
  · rw [if_neg (fun z => e (Sum.inl.inj z)), h.2 p, sn]
    constructor
    · rintro (z | z)
      · exact .inl z
      · exact .inr (by omega)
    · rintro (z | z)
      · exact .inl z
      · exact .inr (by omega)
theorem InsV.open_ {kvs : List (Key × V)} {ps : List (Int × Int)} {n : Nat} (h : InsV kvs ps n) (a : Int) : InsV kvs (ps ++ [(a, a)]) n := by
  refine ⟨h.1, fun p => (h.2 p).trans ⟨fun ⟨ab, h1, h2⟩ => ⟨ab, List.mem_append_left _ h1, h2⟩, fun ⟨ab, h1, h2⟩ => ?_⟩⟩
  rcases List.mem_append.mp h1 with z | z
  · exact ⟨ab, z, h2⟩
  · rw [List.mem_singleton.mp z] at h2
    omega
theorem InsV.shut {kvs : List (Key × V)} {ps : List (Int × Int)} {n : Nat} {a b c : Int} (h : InsV kvs (ps ++ [(a, c)]) n) (e : (a ≤ b ∧ c = b) ∨ (b ≤ a ∧ c = a)) : InsV kvs (ps ++ [(a, b)]) n := by
  refine ⟨h.1, fun p => (h.2 p).trans ?_⟩
  unfold InT
  constructor
  · rintro ⟨ab, h1, h2⟩
    rcases List.mem_append.mp h1 with z | z
    · exact ⟨ab, List.mem_append_left _ z, h2⟩
    · rw [List.mem_singleton.mp z] at h2
      exact ⟨(a, b), List.mem_append_right _ (List.mem_singleton.mpr rfl), by dsimp only at h2 ⊢; omega⟩
  · rintro ⟨ab, h1, h2⟩
    rcases List.mem_append.mp h1 with z | z
    · exact ⟨ab, List.mem_append_left _ z, h2⟩
    · rw [List.mem_singleton.mp z] at h2
      exact ⟨(a, c), List.mem_append_right _ (List.mem_singleton.mpr rfl), by dsimp only at h2 ⊢; omega⟩
theorem r_lenSq {K : PySem.W.Frag} {H : Hp} {Q : VK} {a : Addr} {xs : List V} (h : SqL K H a xs) (k : Q (.int xs.length) H) : rLenV K [V.ref a] H Q := ⟨_, _, rfl, .inl ⟨xs, h, rfl⟩, k⟩
theorem r_mn2N {H : Hp} {Q : VK} (n m : Nat) (h : Q (.int ((min n m : Nat) : Int)) H) : rMn2 [.int (n : Int), .int (m : Int)] H Q := r_mn2 (int_eq (by split <;> omega) h)
theorem r_mx2N {H : Hp} {Q : VK} (n m : Nat) (h : Q (.int ((max n m : Nat) : Int)) H) : rMx2 [.int (n : Int), .int (m : Int)] H Q := r_mx2 (int_eq (by split <;> omega) h)
abbrev Ok_is_integer_folds (P : Program) (w : World) (base : Heap) {K : PySem.W.Frag} {mg : Str → Option Value} (T : Txt K mg) : Prop := FnOk P w K mg base CX0 1 (He.ga K "is_integer_folds") T.fd_is_integer_folds ["value"] (sp_is_integer_folds K)
abbrev Ok_is_shape (P : Program) (w : World) (base : Heap) {K : PySem.W.Frag} {mg : Str → Option Value} (T : Txt K mg) : Prop := FnOk P w K mg base CX0 2 (He.ga K "is_shape") T.fd_is_shape ["value"] (sp_is_shape K)
abbrev Ok_is_joint (P : Program) (w : World) (base : Heap) {K : PySem.W.Frag} {mg : Str → Option Value} (T : Txt K mg) : Prop := FnOk P w K mg base CX0 3 (He.ga K "is_joint") T.fd_is_joint ["value"] (sp_is_joint K)
abbrev Ok_unfold (P : Program) (w : World) (base : Heap) {K : PySem.W.Frag} {mg : Str → Option Value} (T : Txt K mg) : Prop := FnOk P w K mg base CX0 1 (He.ga K "unfold") T.fd_unfold ["shape", "a", "b"] (sp_unfold K)
abbrev Ok_require_values (P : Program) (w : World) (base : Heap) {K : PySem.W.Frag} {mg : Str → Option Value} (T : Txt K mg) : Prop := FnOk P w K mg base CX0 2 (He.ga K "require_values") T.fd_require_values ["values"] (sp_require_values K)
abbrev Ok_is_placed (P : Program) (w : World) (base : Heap) {K : PySem.W.Frag} {mg : Str → Option Value} (T : Txt K mg) : Prop := FnOk P w K mg base CX0 4 (He.ga K "is_placed") T.fd_is_placed ["value"] (sp_is_placed K)
abbrev Ok_require_joints (P : Program) (w : World) (base : Heap) {K : PySem.W.Frag} {mg : Str → Option Value} (T : Txt K mg) : Prop := FnOk P w K mg base CX0 5 (He.ga K "require_joints") T.fd_require_joints ["joints", "length"] (sp_require_joints K)
abbrev Ok_changed_pairs (P : Program) (w : World) (base : Heap) {K : PySem.W.Frag} {mg : Str → Option Value} (T : Txt K mg) : Prop := FnOk P w K mg base CX0 2 (He.ga K "changed_pairs") T.fd_changed_pairs ["values", "joints", "change"] (sp_changed_pairs K)
abbrev Ok_unfolded (P : Program) (w : World) (base : Heap) {K : PySem.W.Frag} {mg : Str → Option Value} (T : Txt K mg) : Prop := FnOk P w K mg base CX0 6 (He.ga K "unfolded") T.fd_unfolded ["values", "joints"] (sp_unfolded K)
abbrev Ok_require_between (P : Program) (w : World) (base : Heap) {K : PySem.W.Frag} {mg : Str → Option Value} (T : Txt K mg) : Prop := FnOk P w K mg base CX0 2 (He.ga K "require_between") T.fd_require_between ["value", "least", "most"] (sp_require_between K)
abbrev Ok_require_list (P : Program) (w : World) (base : Heap) {K : PySem.W.Frag} {mg : Str → Option Value} (T : Txt K mg) : Prop := FnOk P w K mg base CX0 2 (He.ga K "require_list") T.fd_require_list ["values"] (sp_require_list K)
abbrev Ok_sum_counts (P : Program) (w : World) (base : Heap) {K : PySem.W.Frag} {mg : Str → Option Value} (T : Txt K mg) : Prop := FnOk P w K mg base CX0 1 (He.ga K "sum_counts") T.fd_sum_counts ["length", "levels"] (sp_sum_counts K)
abbrev Ok_join_levels (P : Program) (w : World) (base : Heap) {K : PySem.W.Frag} {mg : Str → Option Value} (T : Txt K mg) : Prop := FnOk P w K mg base CX0 3 (He.ga K "join_levels") T.fd_join_levels ["numbers", "levels"] (sp_join_levels K)
abbrev Ok_coarse_count (P : Program) (w : World) (base : Heap) {K : PySem.W.Frag} {mg : Str → Option Value} (T : Txt K mg) : Prop := FnOk P w K mg base CX0 3 (He.ga K "coarse_count") T.fd_coarse_count ["length", "levels"] (sp_coarse_count K)
abbrev Ok_is_table (P : Program) (w : World) (base : Heap) {K : PySem.W.Frag} {mg : Str → Option Value} (T : Txt K mg) : Prop := FnOk P w K mg base CX0 2 (He.ga K "is_table") T.fd_is_table ["value"] (sp_is_table K)
abbrev Ok_is_tables (P : Program) (w : World) (base : Heap) {K : PySem.W.Frag} {mg : Str → Option Value} (T : Txt K mg) : Prop := FnOk P w K mg base CX0 3 (He.ga K "is_tables") T.fd_is_tables ["value"] (sp_is_tables K)
abbrev Ok_parameter (P : Program) (w : World) (base : Heap) {K : PySem.W.Frag} {mg : Str → Option Value} (T : Txt K mg) : Prop := FnOk P w K mg base CX0 3 (He.ga K "parameter") T.fd_parameter ["table"] (sp_parameter K)
abbrev Ok_table_behind (P : Program) (w : World) (base : Heap) {K : PySem.W.Frag} {mg : Str → Option Value} (T : Txt K mg) : Prop := FnOk P w K mg base CX0 1 (He.ga K "table_behind") T.fd_table_behind ["table", "u"] (sp_table_behind K)
abbrev Ok_code_number (P : Program) (w : World) (base : Heap) {K : PySem.W.Frag} {mg : Str → Option Value} (T : Txt K mg) : Prop := FnOk P w K mg base CX0 1 (He.ga K "code_number") T.fd_code_number ["number"] (sp_code_number K)
abbrev Ok_number_of (P : Program) (w : World) (base : Heap) {K : PySem.W.Frag} {mg : Str → Option Value} (T : Txt K mg) : Prop := FnOk P w K mg base CX0 1 (He.ga K "number_of") T.fd_number_of ["u"] (sp_number_of K)
abbrev Ok_ones_at (P : Program) (w : World) (base : Heap) {K : PySem.W.Frag} {mg : Str → Option Value} (T : Txt K mg) : Prop := FnOk P w K mg base CX0 1 (He.ga K "ones_at") T.fd_ones_at ["bits", "at", "most"] (sp_ones_at K)
abbrev Ok_read_code (P : Program) (w : World) (base : Heap) {K : PySem.W.Frag} {mg : Str → Option Value} (T : Txt K mg) : Prop := FnOk P w K mg base CX0 2 (He.ga K "read_code") T.fd_read_code ["bits", "at", "k"] (sp_read_code K)
abbrev Ok_require_numbers (P : Program) (w : World) (base : Heap) {K : PySem.W.Frag} {mg : Str → Option Value} (T : Txt K mg) : Prop := FnOk P w K mg base CX0 2 (He.ga K "require_numbers") T.fd_require_numbers ["numbers"] (sp_require_numbers K)
abbrev Ok_require_coarse (P : Program) (w : World) (base : Heap) {K : PySem.W.Frag} {mg : Str → Option Value} (T : Txt K mg) : Prop := FnOk P w K mg base CX0 2 (He.ga K "require_coarse") T.fd_require_coarse ["coarse", "length"] (sp_require_coarse K)
abbrev Ok_read_numbers (P : Program) (w : World) (base : Heap) {K : PySem.W.Frag} {mg : Str → Option Value} (T : Txt K mg) : Prop := FnOk P w K mg base CX0 4 (He.ga K "read_numbers") T.fd_read_numbers ["bits", "length", "coarse", "tables"] (sp_read_numbers K)
abbrev Ok_mark_of (P : Program) (w : World) (base : Heap) {K : PySem.W.Frag} {mg : Str → Option Value} (T : Txt K mg) : Prop := FnOk P w K mg base CX0 3 (He.ga K "mark_of") T.fd_mark_of ["numbers"] (sp_mark_of K)
abbrev Ok_is_integer_streams (P : Program) (w : World) (base : Heap) {K : PySem.W.Frag} {mg : Str → Option Value} (T : Txt K mg) : Prop := FnOk P w K mg base CX0 1 (He.ga K "is_integer_streams") T.fd_is_integer_streams ["value"] (sp_is_integer_streams K)
abbrev Ok_is_between (P : Program) (w : World) (base : Heap) {K : PySem.W.Frag} {mg : Str → Option Value} (T : Txt K mg) : Prop := FnOk P w K mg base CX0 2 (He.ga K "is_between") T.fd_is_between ["value", "least", "most"] (sp_is_between K)
abbrev Ok_is_row (P : Program) (w : World) (base : Heap) {K : PySem.W.Frag} {mg : Str → Option Value} (T : Txt K mg) : Prop := FnOk P w K mg base CX0 1 (He.ga K "is_row") T.fd_is_row ["value"] (sp_is_row K)
abbrev Ok_is_frame (P : Program) (w : World) (base : Heap) {K : PySem.W.Frag} {mg : Str → Option Value} (T : Txt K mg) : Prop := FnOk P w K mg base CX0 4 (He.ga K "is_frame") T.fd_is_frame ["value"] (sp_is_frame K)
abbrev Ok_is_record (P : Program) (w : World) (base : Heap) {K : PySem.W.Frag} {mg : Str → Option Value} (T : Txt K mg) : Prop := FnOk P w K mg base CX0 5 (He.ga K "is_record") T.fd_is_record ["value"] (sp_is_record K)
abbrev Ok_frame_numbers (P : Program) (w : World) (base : Heap) {K : PySem.W.Frag} {mg : Str → Option Value} (T : Txt K mg) : Prop := FnOk P w K mg base CX0 5 (He.ga K "frame_numbers") T.fd_frame_numbers ["record", "tables"] (sp_frame_numbers K)
abbrev Ok_block_values (P : Program) (w : World) (base : Heap) {K : PySem.W.Frag} {mg : Str → Option Value} (T : Txt K mg) : Prop := FnOk P w K mg base CX0 4 (He.ga K "block_values") T.fd_block_values ["record", "numbers"] (sp_block_values K)
abbrev Ok_unfold_blocks (P : Program) (w : World) (base : Heap) {K : PySem.W.Frag} {mg : Str → Option Value} (T : Txt K mg) : Prop := FnOk P w K mg base CX0 7 (He.ga K "unfold_blocks") T.fd_unfold_blocks ["blocks", "joints"] (sp_unfold_blocks K)
abbrev Ok_Stream_init (P : Program) (w : World) (base : Heap) {K : PySem.W.Frag} {mg : Str → Option Value} (T : Txt K mg) : Prop := FnOk P w K mg base CX0 8 (He.ma K (He.ga K "Stream") "__init__") T.fd_Stream_init ["self", "records"] (sp_Stream_init K)
abbrev Ok_Stream_load (P : Program) (w : World) (base : Heap) {K : PySem.W.Frag} {mg : Str → Option Value} (T : Txt K mg) : Prop := FnOk P w K mg base CX0 6 (He.ma K (He.ga K "Stream") "load") T.fd_Stream_load ["self"] (sp_Stream_load K)
abbrev Ok_Stream_records (P : Program) (w : World) (base : Heap) {K : PySem.W.Frag} {mg : Str → Option Value} (T : Txt K mg) : Prop := FnOk P w K mg base CX0 1 (propG K) T.fd_Stream_records ["self"] (sp_Stream_records K)
abbrev Ok_Stream_sound (P : Program) (w : World) (base : Heap) {K : PySem.W.Frag} {mg : Str → Option Value} (T : Txt K mg) : Prop := FnOk P w K mg base CX0 1 (He.ma K (He.ga K "Stream") "sound") T.fd_Stream_sound ["self"] (sp_Stream_sound K)
abbrev Ok_Stream_require_frame (P : Program) (w : World) (base : Heap) {K : PySem.W.Frag} {mg : Str → Option Value} (T : Txt K mg) : Prop := FnOk P w K mg base CX0 3 (He.ma K (He.ga K "Stream") "require_frame") T.fd_Stream_require_frame ["self", "frame"] (sp_Stream_require_frame K)
abbrev Ok_Stream_block (P : Program) (w : World) (base : Heap) {K : PySem.W.Frag} {mg : Str → Option Value} (T : Txt K mg) : Prop := FnOk P w K mg base CX0 4 (He.ma K (He.ga K "Stream") "block") T.fd_Stream_block ["self", "frame"] (sp_Stream_block K)
abbrev Ok_index_of (P : Program) (w : World) (base : Heap) {K : PySem.W.Frag} {mg : Str → Option Value} (T : Txt K mg) : Prop := FnOk P w K mg base CX0 5 (He.ga K "index_of") T.fd_index_of ["stream"] (sp_index_of K)
abbrev Ok_records_of (P : Program) (w : World) (base : Heap) {K : PySem.W.Frag} {mg : Str → Option Value} (T : Txt K mg) : Prop := FnOk P w K mg base CX0 1 (He.ga K "records_of") T.fd_records_of ["index", "frames"] (sp_records_of K)
abbrev Ok_read_frame (P : Program) (w : World) (base : Heap) {K : PySem.W.Frag} {mg : Str → Option Value} (T : Txt K mg) : Prop := FnOk P w K mg base CX0 6 (He.ga K "read_frame") T.fd_read_frame ["row", "record", "tables"] (sp_read_frame K)
abbrev Ok_is_state (P : Program) (w : World) (base : Heap) {K : PySem.W.Frag} {mg : Str → Option Value} (T : Txt K mg) : Prop := FnOk P w K mg base CX0 6 (He.ga K "is_state") T.fd_is_state ["record"] (sp_is_state K)
abbrev Ok_fetched_values (P : Program) (w : World) (base : Heap) {K : PySem.W.Frag} {mg : Str → Option Value} (T : Txt K mg) (fa : Addr) (G0 : Hp) (rs : List Rc) (L : Nat) : Prop := FnOk P w K mg base CX0 7 (He.ga K "fetched_values") T.fd_fetched_values ["index", "fetch", "frames"] (sp_fetched_values K fa G0 rs L)
abbrev Ok_require_lost (P : Program) (w : World) (base : Heap) {K : PySem.W.Frag} {mg : Str → Option Value} (T : Txt K mg) : Prop := FnOk P w K mg base CX0 2 (He.ga K "require_lost") T.fd_require_lost ["lost"] (sp_require_lost K)
abbrev Ok_unread_frames (P : Program) (w : World) (base : Heap) {K : PySem.W.Frag} {mg : Str → Option Value} (T : Txt K mg) : Prop := FnOk P w K mg base CX0 3 (He.ga K "unread_frames") T.fd_unread_frames ["index", "lost"] (sp_unread_frames K)
abbrev Ok_touched (P : Program) (w : World) (base : Heap) {K : PySem.W.Frag} {mg : Str → Option Value} (T : Txt K mg) : Prop := FnOk P w K mg base CX0 4 (He.ga K "touched") T.fd_touched ["index", "lost"] (sp_touched K)
abbrev Ok_with_silence (P : Program) (w : World) (base : Heap) {K : PySem.W.Frag} {mg : Str → Option Value} (T : Txt K mg) : Prop := FnOk P w K mg base CX0 8 (He.ga K "with_silence") T.fd_with_silence ["index", "values"] (sp_with_silence K)
abbrev Ok_concealed (P : Program) (w : World) (base : Heap) {K : PySem.W.Frag} {mg : Str → Option Value} (T : Txt K mg) (fa : Addr) (G0 : Hp) (rs : List Rc) (L : Nat) : Prop := FnOk P w K mg base CX0 9 (He.ga K "concealed") T.fd_concealed ["index", "fetch", "lost"] (sp_concealed K fa G0 rs L)
abbrev Ok_law_pool (P : Program) (w : World) (base : Heap) {K : PySem.W.Frag} {mg : Str → Option Value} (T : Txt K mg) : Prop := FnOk P w K mg base CX0 1 (He.ga K "_law_pool") T.fd_law_pool ["_law_script", "_law_k"] (sp_law_pool K)
abbrev Ok_law_take (P : Program) (w : World) (base : Heap) {K : PySem.W.Frag} {mg : Str → Option Value} (T : Txt K mg) : Prop := FnOk P w K mg base CX0 1 (He.ga K "_law_take") T.fd_law_take ["_law_pool_here", "_law_many"] (sp_law_take K)
abbrev Ok_law_binary (P : Program) (w : World) (base : Heap) {K : PySem.W.Frag} {mg : Str → Option Value} (T : Txt K mg) : Prop := FnOk P w K mg base CX0 1 (He.ga K "_law_binary") T.fd_law_binary ["_law_u_here"] (sp_law_binary K)
abbrev Ok_law_parameter (P : Program) (w : World) (base : Heap) {K : PySem.W.Frag} {mg : Str → Option Value} (T : Txt K mg) : Prop := FnOk P w K mg base CX0 1 (He.ga K "_law_parameter") T.fd_law_parameter ["_law_row"] (sp_law_parameter K)
abbrev Ok_law_code (P : Program) (w : World) (base : Heap) {K : PySem.W.Frag} {mg : Str → Option Value} (T : Txt K mg) : Prop := FnOk P w K mg base CX0 2 (He.ga K "_law_code") T.fd_law_code ["_law_u_here", "_law_k"] (sp_law_code K)
abbrev Ok_law_behind (P : Program) (w : World) (base : Heap) {K : PySem.W.Frag} {mg : Str → Option Value} (T : Txt K mg) : Prop := FnOk P w K mg base CX0 1 (He.ga K "_law_behind") T.fd_law_behind ["_law_row", "_law_u_here"] (sp_law_behind K)
abbrev Ok_law_u (P : Program) (w : World) (base : Heap) {K : PySem.W.Frag} {mg : Str → Option Value} (T : Txt K mg) : Prop := FnOk P w K mg base CX0 1 (He.ga K "_law_u") T.fd_law_u ["_law_number"] (sp_law_u K)
abbrev Ok_law_written (P : Program) (w : World) (base : Heap) {K : PySem.W.Frag} {mg : Str → Option Value} (T : Txt K mg) : Prop := FnOk P w K mg base CX0 3 (He.ga K "_law_written") T.fd_law_written ["_law_some_here", "_law_first", "_law_start"] (sp_law_written K)
abbrev Ok_law_mark (P : Program) (w : World) (base : Heap) {K : PySem.W.Frag} {mg : Str → Option Value} (T : Txt K mg) : Prop := FnOk P w K mg base CX0 2 (He.ga K "_law_mark") T.fd_law_mark ["_law_some_here"] (sp_law_mark K)
abbrev Ok_law_counts (P : Program) (w : World) (base : Heap) {K : PySem.W.Frag} {mg : Str → Option Value} (T : Txt K mg) : Prop := FnOk P w K mg base CX0 1 (He.ga K "_law_counts") T.fd_law_counts ["_law_size", "_law_many"] (sp_law_counts K)
abbrev Ok_law_heads (P : Program) (w : World) (base : Heap) {K : PySem.W.Frag} {mg : Str → Option Value} (T : Txt K mg) : Prop := FnOk P w K mg base CX0 2 (He.ga K "_law_heads") T.fd_law_heads ["_law_pool_here", "_law_many"] (sp_law_heads K)
abbrev Ok_law_some (P : Program) (w : World) (base : Heap) {K : PySem.W.Frag} {mg : Str → Option Value} (T : Txt K mg) : Prop := FnOk P w K mg base CX0 2 (He.ga K "_law_some") T.fd_law_some ["_law_pool_here", "_law_size"] (sp_law_some K)
abbrev Ok_law_frame (P : Program) (w : World) (base : Heap) {K : PySem.W.Frag} {mg : Str → Option Value} (T : Txt K mg) : Prop := FnOk P w K mg base CX0 4 (He.ga K "_law_frame") T.fd_law_frame ["_law_head", "_law_some_here", "_law_start"] (sp_law_frame K)
abbrev Ok_law_tables (P : Program) (w : World) (base : Heap) {K : PySem.W.Frag} {mg : Str → Option Value} (T : Txt K mg) : Prop := FnOk P w K mg base CX0 2 (He.ga K "_law_tables") T.fd_law_tables ["_law_pool_here"] (sp_law_tables K)
abbrev Ok_law_stream (P : Program) (w : World) (base : Heap) {K : PySem.W.Frag} {mg : Str → Option Value} (T : Txt K mg) : Prop := FnOk P w K mg base CX0 5 (He.ga K "_law_stream") T.fd_law_stream ["_law_pool_here", "_law_many"] (sp_law_stream K)
abbrev Ok_law_other (P : Program) (w : World) (base : Heap) {K : PySem.W.Frag} {mg : Str → Option Value} (T : Txt K mg) : Prop := FnOk P w K mg base CX0 5 (He.ga K "_law_other") T.fd_law_other ["_law_pool_here", "_law_records", "_law_rows", "_law_kept", "_law_which", "_law_all_behind"] (sp_law_other K)
local macro_rules | `(tactic| walk_at "go1") => `(tactic| first
  | with_reducible refine r_seq ?_ | with_reducible refine r_next ?_ | with_reducible refine r_asg ?_ | with_reducible refine r_ret ?_ | with_reducible refine r_drop ?_ | with_reducible refine r_par ?_ | with_reducible refine r_par3 ?_
  | with_reducible refine r_two ?_ | with_reducible refine r_three ?_ | with_reducible refine r_name ?_ | ((with_reducible refine' r_var ?e ?_); (case e => rfl)) | with_reducible refine r_c ?_ | with_reducible refine r_op ?_ | with_reducible refine r_un ?_
  | with_reducible refine r_U ?_ | with_reducible refine r_I0 ?_ | with_reducible refine r_eqI ?_ | with_reducible refine r_neI ?_ | with_reducible refine r_bl ?_ | with_reducible refine r_blv ?_ | with_reducible refine r_test ?_ | with_reducible refine r_B ?_
  | with_reducible refine r_and ?_ | with_reducible refine r_or ?_ | with_reducible refine r_not ?_ | with_reducible refine r_andV ?_ | with_reducible refine r_orV ?_ | with_reducible refine r_notV ?_ | with_reducible refine r_ifE ?_ | with_reducible refine r_ifS ?_
  | ((with_reducible refine' r_aug ?e ?_); (case e => rfl)) | with_reducible refine r_chain ?_ | with_reducible refine r_nilA ?_ | with_reducible refine r_consA ?_ | with_reducible refine r_call ?_ | with_reducible refine r_cb ?_ | with_reducible refine r_bm ?_
  | with_reducible refine r_slE ?_ | with_reducible refine r_noPart ?_ | with_reducible refine r_part ?_ | with_reducible refine r_int ?_ | with_reducible refine r_gCons ?_ | with_reducible refine r_gNil ?_ | with_reducible refine r_gSub ?_ | with_reducible refine r_for ?_ | with_reducible refine r_lcE ?_ | with_reducible refine r_dcE ?_ | with_reducible refine r_tYes ?_ | with_reducible refine r_iList ?_ | with_reducible refine r_iStr ?_ | with_reducible refine r_iR1 ?_ | with_reducible refine r_iR2 ?_ | with_reducible refine r_iR3 ?_ | with_reducible refine r_iEnum ?_ | with_reducible refine r_iZip ?_ | with_reducible refine r_tup ?_ | with_reducible refine r_lst ?_
  | with_reducible refine r_T ?_ | with_reducible refine r_F ?_ | with_reducible refine r_NT ?_ | with_reducible refine r_NF ?_
  | ((with_reducible refine' r_yes ?hc ?_); (case hc => first | omega | exact rfl)) | ((with_reducible refine' r_no ?hc ?_); (case hc => omega)) | ((with_reducible refine' r_yesN ?hc ?_); (case hc => first | omega | exact rfl)) | ((with_reducible refine' r_noN ?hc ?_); (case hc => omega)))
local macro_rules | `(tactic| walk_at "go") => `(tactic| repeat (walk_at "go1"))
local macro_rules | `(tactic| walk_at "run1") => `(tactic| first
  | walk_at "go1" | ((with_reducible refine' r_I ?hc ?_); (case hc => first | exact ⟨by decide, by decide⟩ | exact .inr (by decide) | exact .inr ⟨by decide, by decide⟩ | exact .inl (by decide) | exact (show (0 : Int) < _ by decide)))
  | with_reducible refine r_m1 ?_ | with_reducible refine r_fldE ?_ | with_reducible refine r_sFldE ?_ | with_reducible refine r_methE ?_ | with_reducible refine r_makeE ?_ | with_reducible refine r_concE ?_ | with_reducible refine r_dgetE ?_ | with_reducible refine r_dnotE ?_ | with_reducible refine r_dputE ?_ | with_reducible refine r_dnewE ?_ | with_reducible refine r_bm0 ?_ | with_reducible refine r_propE ?_ | with_reducible refine r_int1I ?_ | with_reducible refine r_int1B ?_)
local macro_rules | `(tactic| walk_at "run") => `(tactic| repeat (walk_at "run1"))
theorem ok_is_integer_folds {P : Program} {w : World} {base : Heap} {K : PySem.W.Frag} {mg : Str → Option Value} (T : Txt K mg)  : Ok_is_integer_folds P w base T := by
  refine T.F_is_integer_folds.ok sc_is_integer_folds (fun vs H Q E h => ?_) (fun cdv A outer s H vs Q E hr h => ?_)
  · obtain ⟨i, rfl, _⟩ := h
    rfl
  · obtain ⟨i, rfl, q⟩ := h
    refine ⟨_, (pss_one (ps_ret (pe_and (pe_callB call_isi (by rfl) T.n_isinstance (by decide +kernel) (pa_cons (pv 0) (pa_cons (pe_bltn (v := .ty "int") (by rfl) T.n_int (by decide +kernel) rfl) pa_nil))) (pe_one (pe_not (pe_callB call_isi (by rfl) T.n_isinstance (by decide +kernel) (pa_cons (pv 0) (pa_cons (pe_bltn (v := .ty "bool") (by rfl) T.n_bool (by decide +kernel) rfl) pa_nil)))))))), ?_⟩
    try dsimp only [cxOf, Cx.nox, Cx.wish, Cx.blk]
    walk_at "go"
    refine r_isi (.base (.int i)) kit_int_int ?_
    walk_at "go"
    refine r_isi (.base (.int i)) kit_int_bool ?_
    walk_at "go"
    exact q
theorem ok_is_shape {P : Program} {w : World} {base : Heap} {K : PySem.W.Frag} {mg : Str → Option Value} (T : Txt K mg) (ok_is_integer_folds : Ok_is_integer_folds P w base T) : Ok_is_shape P w base T := by
  refine T.F_is_shape.ok sc_is_shape (fun vs H Q E h => ?_) (fun cdv A outer s H vs Q E hr h => ?_)
  · obtain ⟨i, rfl, _⟩ := h
    rfl
  · obtain ⟨i, rfl, hi, q⟩ := h
    refine ⟨_, (pss_one (ps_ret (pe_and (pe_call ok_is_integer_folds (hr.mono (by decide)) (by rfl) T.g_is_integer_folds T.F_is_integer_folds.kp (b_is_integer_folds T) .nil pass0 (pa_cons (pv 0) pa_nil)) (pe_one (pe_chain op_le op_lt pe_int (pv 0) (pe_callB call_lenN (by rfl) T.n_len (by decide +kernel) (pa_cons (pe_glob (v := .ref (He.ga K "SHAPES")) (by rfl) T.g_SHAPES rfl) pa_nil))))))), ?_⟩
    try dsimp only [cxOf, Cx.nox, Cx.wish, Cx.blk]
    walk_at "go"
    refine ⟨i, rfl, ?_⟩
    walk_at "go"
    refine r_lenT (T.t_SHAPES H) ?_
    walk_at "go"
    exact bl_eq (decide_eq_true (by show (i : Int) < 4; omega)) q
theorem ok_is_joint {P : Program} {w : World} {base : Heap} {K : PySem.W.Frag} {mg : Str → Option Value} (T : Txt K mg) (ok_is_integer_folds : Ok_is_integer_folds P w base T) (ok_is_shape : Ok_is_shape P w base T) : Ok_is_joint P w base T := by
  refine T.F_is_joint.ok sc_is_joint (fun vs H Q E h => ?_) (fun cdv A outer s H vs Q E hr h => ?_)
  · obtain ⟨v, j, rfl, _⟩ := h
    rfl
  · obtain ⟨v, j, rfl, ⟨a, rfl, hS⟩, ⟨h1, h2, h3⟩, q⟩ := h
    refine ⟨_, (pss_cons (ps_if (PW.pt (pw_or (pt_not (pt_val (pe_callB call_isi (by rfl) T.n_isinstance (by decide +kernel) (pa_cons (pv 0) (pa_cons (pe_bltn (v := .ty "tuple") (by rfl) T.n_tuple (by decide +kernel) rfl) pa_nil))))) (pw_or1 (pt_cmpR op_ne (pe_callB call_lenN (by rfl) T.n_len (by decide +kernel) (pa_cons (pv 0) pa_nil)) pe_int (nomark _))))) (pss_one (ps_ret pe_bl)) pss_nil)
        (pss_cons (ps_asg (pv 0) (pg_tup rfl (pgs_cons (pg_name (i := 1) sc_is_joint.nd rfl (Or.inl rfl)) (pgs_cons (pg_name (i := 2) sc_is_joint.nd rfl (Or.inl rfl)) pgs_nil))))
        (pss_cons (ps_if (PW.pt (pw_or (pt_not (pt_val (pe_call ok_is_integer_folds (hr.mono (by decide)) (by rfl) T.g_is_integer_folds T.F_is_integer_folds.kp (b_is_integer_folds T) .nil pass0 (pa_cons (pv 1) pa_nil)))) (pw_or1 (pt_not (pt_val (pe_call ok_is_shape (hr.mono (by decide)) (by rfl) T.g_is_shape T.F_is_shape.kp (b_is_shape T) .nil pass0 (pa_cons (pv 2) pa_nil))))))) (pss_one (ps_ret pe_bl)) pss_nil)
        (pss_one (ps_ret (pe_and (pe_chain op_le op_le pe_int (pv 1) (pe_gi T.i_MAX_WIDTH (by rfl))) (pe_one (pe_or (pe_cmpR op_gt (pv 1) pe_int (nomark _)) (pe_one (pe_cmpR op_eq (pv 2) pe_int (nomark _))))))))))), ?_⟩
    try dsimp only [cxOf, Cx.nox, Cx.wish, Cx.blk]
    walk_at "go"
    refine r_isi (ty_tup hS) kit_tuple_tuple ?_
    walk_at "go"
    refine r_lenT hS ?_
    walk_at "go"
    refine r_gTup hS rfl ?_
    walk_at "go"
    refine ⟨_, rfl, ?_⟩
    walk_at "go"
    refine ⟨j.2, rfl, h2, ?_⟩
    walk_at "go"
    refine r_dec (fun hw => ?_) (fun hw => ?_)
    · exact q
    · walk_at "go"
      exact bl_eq (decide_eq_true (by have := h3 (by omega); omega)) q
theorem ok_unfold {P : Program} {w : World} {base : Heap} {K : PySem.W.Frag} {mg : Str → Option Value} (T : Txt K mg)  : Ok_unfold P w base T := by
  refine T.F_unfold.ok sc_unfold (fun vs H Q E h => ?_) (fun cdv A outer s H vs Q E hr h => ?_)
  · obtain ⟨G, sh, a, b, rfl, _⟩ := h
    rfl
  · obtain ⟨G, sh, a, b, rfl, gs, hsh, q⟩ := h
    refine ⟨_, (pss_cons (ps_asg (pe_ix ix_tup (pe_glob (v := .ref (He.ga K "SHAPES")) (by rfl) T.g_SHAPES rfl) (pv 0) (fun _ _ => rfl)) (pg_tup rfl (pgs_cons (pg_name (i := 3) sc_unfold.nd rfl (Or.inl rfl)) (pgs_cons (pg_name (i := 4) sc_unfold.nd rfl (Or.inl rfl)) pgs_nil))))
        (pss_cons (ps_aug (i := 1) sc_unfold.nd rfl (Or.inl rfl) (pe_op op_fdiv (pe_op op_add (pe_op op_mul (pv 3) (pv 2)) pe_int) pe_int) iop_sub)
        (pss_cons (ps_aug (i := 2) sc_unfold.nd rfl (Or.inl rfl) (pe_op op_fdiv (pe_op op_add (pe_op op_mul (pv 4) (pv 1)) pe_int) pe_int) iop_sub)
        (pss_cons (ps_aug (i := 1) sc_unfold.nd rfl (Or.inl rfl) (pe_op op_fdiv (pe_op op_add (pe_op op_mul (pv 3) (pv 2)) pe_int) pe_int) iop_sub)
        (pss_one (ps_ret (pe_tup (pa_cons (pv 1) (pa_cons (pv 2) pa_nil))))))))), ?_⟩
    try dsimp only [cxOf, Cx.nox, Cx.wish, Cx.blk]
    obtain ⟨sa, e1, e2⟩ := shapes_at T hsh H
    walk_at "go"
    refine r_ixT (T.t_SHAPES H) (at0 e1) ?_
    refine r_gTup e2 rfl ?_
    walk_at "go"
    refine r_I (shp_c sh b) ?_
    walk_at "go"
    refine r_I ⟨by decide, by decide⟩ ?_
    walk_at "go"
    refine r_I (shp_d sh _) ?_
    walk_at "go"
    refine r_I ⟨by decide, by decide⟩ ?_
    walk_at "go"
    refine r_I (shp_c sh _) ?_
    walk_at "go"
    refine r_I ⟨by decide, by decide⟩ ?_
    walk_at "go"
    refine ⟨szr rfl, fun p np => ?_⟩
    walk_at "go"
    exact q _ _ _ (Grow.alloc gs np) ⟨p, rfl, SqT.of upd_same⟩
theorem ok_require_values {P : Program} {w : World} {base : Heap} {K : PySem.W.Frag} {mg : Str → Option Value} (T : Txt K mg) (ok_is_integer_folds : Ok_is_integer_folds P w base T) : Ok_require_values P w base T := by
  refine T.F_require_values.ok sc_require_values (fun vs H Q E h => ?_) (fun cdv A outer s H vs Q E hr h => ?_)
  · obtain ⟨v, xs, rfl, _⟩ := h
    rfl
  · obtain ⟨v, xs, rfl, ⟨a, rfl, hL⟩, q⟩ := h
    refine ⟨_, (pss_cons (ps_if (pt_not (pt_val (pe_callB call_isiT (by rfl) T.n_isinstance (by decide +kernel) (pa_cons (pv 0) (pa_cons (pe_tup (pa_cons (pe_bltn (v := .ty "list") (by rfl) T.n_list (by decide +kernel) rfl) (pa_cons (pe_bltn (v := .ty "tuple") (by rfl) T.n_tuple (by decide +kernel) rfl) pa_nil))) pa_nil))))) (pss_one ps_never) pss_nil)
        (pss_one (ps_for PassesOwn.never rfl (pi_enum (by rfl) T.n_enumerate (pa_cons (pv 0) pa_nil)) (pg_tup rfl (pgs_cons (pg_name (i := 1) sc_require_values.nd rfl (Or.inl rfl)) (pgs_cons (pg_name (i := 2) sc_require_values.nd rfl (Or.inl rfl)) pgs_nil))) (pss_one (ps_if (pt_not (pt_val (pe_call ok_is_integer_folds (hr.mono (by decide)) (by rfl) T.g_is_integer_folds T.F_is_integer_folds.kp (b_is_integer_folds T) .nil pass0 (pa_cons (pv 2) pa_nil)))) (pss_one ps_never) pss_nil))))), ?_⟩
    try dsimp only [cxOf, Cx.nox, Cx.wish, Cx.blk]
    walk_at "go"
    refine ⟨szr rfl, fun p np => ?_⟩
    walk_at "go"
    refine r_isiT upd_same (ty_lst (same_new np _ _ hL)) (.inl rfl) ?_
    walk_at "go"
    refine r_kE (SqL.of (same_new np _ _ hL)) ?_
    refine for_enum (K := K) (a := a) (xs := xs.map V.int) (fun i σ H2 => Same H H2 ∧ ∃ x y, σ = [some (.ref a), x, y]) ⟨same_new np, _, _, rfl⟩ (fun i σ H2 _ ⟨s2, _⟩ => SqL.of (s2 _ _ hL)) ?_ ?_
    · rintro i y t σ H2 hi nt ⟨s2, x1, y1, rfl⟩
      obtain ⟨n, hn, rfl⟩ := map_get hi
      refine r_gTup (SqT.of upd_same) rfl ?_
      walk_at "go"
      refine ⟨n, rfl, ?_⟩
      walk_at "go"
      exact ⟨s2.trans (same_new nt), _, _, rfl⟩
    · rintro σ H2 ⟨s2, x1, y1, rfl⟩
      exact q H2 s2
theorem ok_is_placed {P : Program} {w : World} {base : Heap} {K : PySem.W.Frag} {mg : Str → Option Value} (T : Txt K mg) (ok_is_integer_folds : Ok_is_integer_folds P w base T) (ok_is_joint : Ok_is_joint P w base T) : Ok_is_placed P w base T := by
  refine T.F_is_placed.ok sc_is_placed (fun vs H Q E h => ?_) (fun cdv A outer s H vs Q E hr h => ?_)
  · obtain ⟨v, p, rfl, _⟩ := h
    rfl
  · obtain ⟨v, p, rfl, ⟨a, u, rfl, hS, hJ⟩, hj, q⟩ := h
    refine ⟨_, (pss_one (ps_ret (pe_and (pe_callB call_isi (by rfl) T.n_isinstance (by decide +kernel) (pa_cons (pv 0) (pa_cons (pe_bltn (v := .ty "tuple") (by rfl) T.n_tuple (by decide +kernel) rfl) pa_nil))) (pe_and (pe_cmpR op_eq (pe_callB call_lenN (by rfl) T.n_len (by decide +kernel) (pa_cons (pv 0) pa_nil)) pe_int (nomark _)) (pe_and (pe_call ok_is_integer_folds (hr.mono (by decide)) (by rfl) T.g_is_integer_folds T.F_is_integer_folds.kp (b_is_integer_folds T) .nil pass0 (pa_cons (pe_ix ix_tup (pv 0) pe_int (fun _ _ => rfl)) pa_nil)) (pe_one (pe_call ok_is_joint (hr.mono (by decide)) (by rfl) T.g_is_joint T.F_is_joint.kp (b_is_joint T) .nil pass0 (pa_cons (pe_ix ix_tup (pv 0) pe_int (fun _ _ => rfl)) pa_nil)))))))), ?_⟩
    try dsimp only [cxOf, Cx.nox, Cx.wish, Cx.blk]
    walk_at "go"
    refine r_isi (ty_tup hS) kit_tuple_tuple ?_
    walk_at "go"
    refine r_lenT hS ?_
    walk_at "go"
    refine r_ixT hS (at0 (n := 0) rfl) ?_
    walk_at "go"
    refine ⟨_, rfl, ?_⟩
    walk_at "go"
    refine r_ixT hS (at0 (n := 1) rfl) ?_
    walk_at "go"
    exact ⟨u, p.2, rfl, hJ, hj, q⟩
theorem ok_require_joints {P : Program} {w : World} {base : Heap} {K : PySem.W.Frag} {mg : Str → Option Value} (T : Txt K mg) (ok_is_placed : Ok_is_placed P w base T) : Ok_require_joints P w base T := by
  refine T.F_require_joints.ok sc_require_joints (fun vs H Q E h => ?_) (fun cdv A outer s H vs Q E hr h => ?_)
  · obtain ⟨v, n, ps, rfl, _⟩ := h
    rfl
  · obtain ⟨v, n, ps, rfl, ⟨a, vs, rfl, hL, hA⟩, hf, q⟩ := h
    refine ⟨_, (pss_cons (ps_if (pt_not (pt_val (pe_callB call_isiT (by rfl) T.n_isinstance (by decide +kernel) (pa_cons (pv 0) (pa_cons (pe_tup (pa_cons (pe_bltn (v := .ty "list") (by rfl) T.n_list (by decide +kernel) rfl) (pa_cons (pe_bltn (v := .ty "tuple") (by rfl) T.n_tuple (by decide +kernel) rfl) pa_nil))) pa_nil))))) (pss_one ps_never) pss_nil)
        (pss_cons (ps_asg (pe_tup (pa_cons pe_int (pa_cons pe_int pa_nil))) (pg_tup rfl (pgs_cons (pg_name (i := 2) sc_require_joints.nd rfl (Or.inl rfl)) (pgs_cons (pg_name (i := 3) sc_require_joints.nd rfl (Or.inl rfl)) pgs_nil))))
        (pss_one (ps_for PassesOwn.never rfl (pi_enum (by rfl) T.n_enumerate (pa_cons (pv 0) pa_nil)) (pg_tup rfl (pgs_cons (pg_name (i := 4) sc_require_joints.nd rfl (Or.inl rfl)) (pgs_cons (pg_name (i := 5) sc_require_joints.nd rfl (Or.inl rfl)) pgs_nil))) (pss_cons (ps_if (pt_not (pt_val (pe_call ok_is_placed (hr.mono (by decide)) (by rfl) T.g_is_placed T.F_is_placed.kp (b_is_placed T) .nil pass0 (pa_cons (pv 5) pa_nil)))) (pss_one ps_never) pss_nil)
        (pss_cons (ps_asg (pv 5) (pg_tup rfl (pgs_cons (pg_name (i := 6) sc_require_joints.nd rfl (Or.inl rfl)) (pgs_cons (pg_tup rfl (pgs_cons (pg_name (i := 7) sc_require_joints.nd rfl (Or.inl rfl)) (pgs_cons (pg_name (i := 8) sc_require_joints.nd rfl (Or.inl rfl)) pgs_nil))) pgs_nil))))
        (pss_cons (ps_if (PW.pt (pw_or (pt_not (pt_chain op_lt op_lt (pv 2) (pv 6) (pv 1))) (pw_or (pt_cmpR op_lt (pe_op op_sub (pv 6) (pv 2)) (pe_op op_add (pv 3) (pv 7)) (nomark _)) (pw_or1 (pt_cmpR op_lt (pe_op op_sub (pv 1) (pv 6)) (pv 7) (nomark _)))))) (pss_one ps_never) pss_nil)
        (pss_one (ps_par (i := 2) (j := 3) (by rfl) sc_require_joints.nd rfl rfl (by decide) rfl rfl (pa_cons (pv 6) (pa_cons (pv 7) pa_nil)) (by rfl)))))))))), ?_⟩
    try dsimp only [cxOf, Cx.nox, Cx.wish, Cx.blk]
    walk_at "go"
    refine ⟨szr rfl, fun p np => ?_⟩
    walk_at "go"
    refine r_isiT upd_same (ty_lst (same_new np _ _ hL)) (.inl rfl) ?_
    walk_at "go"
    refine ⟨szr rfl, fun p2 np2 => ?_⟩
    walk_at "go"
    refine r_gTup (SqT.of upd_same) rfl ?_
    walk_at "go"
    refine r_kE (SqL.of ((same_new np).trans (same_new np2) _ _ hL)) ?_
    refine for_enum (K := K) (a := a) (xs := vs) (fun i σ H3 => Same H H3 ∧ ∃ (l b : Nat) (x4 x5 x6 x7 x8 : Option V), σ = [some (.ref a), some (.int n), some (.int l), some (.int b), x4, x5, x6, x7, x8] ∧
      prevOf 0 0 ps i = (l, b)) ⟨(same_new np).trans (same_new np2), 0, 0, _, _, _, _, _, rfl, rfl⟩ (fun i σ H3 _ ⟨s3, _⟩ => SqL.of (s3 _ _ hL)) ?_ ?_
    · rintro i y t σ H3 hi nt ⟨s3, l, b, x4, x5, x6, x7, x8, rfl, hlb⟩
      obtain ⟨pl, hpl, hv⟩ := hA.get hi
      obtain ⟨k1, k2, k3, k4, k5⟩ := Fits.at_ hf hpl
      rw [hlb] at k1 k3
      have s4 := s3.trans (same_new (o := .tup [.int (i : Nat), y]) nt)
      have hv4 := PlV.mono s4 hv
      obtain ⟨ya, yu, rfl, yS, yJ⟩ := id hv4
      refine r_gTup (SqT.of upd_same) rfl ?_
      walk_at "go"
      refine ⟨_, pl, rfl, hv4, k5, ?_⟩
      walk_at "go"
      refine r_gTup yS rfl ?_
      walk_at "go"
      obtain ⟨ja, rfl, jS⟩ := yJ
      refine r_gTup jS rfl ?_
      walk_at "go"
      refine ⟨s4, pl.1, pl.2.1, _, _, _, _, _, rfl, ?_⟩
      show ((ps.getD i (0, 0, 0)).1, (ps.getD i (0, 0, 0)).2.1) = (pl.1, pl.2.1)
      rw [List.getD_eq_getElem?_getD, hpl]
      rfl
    · rintro σ H3 ⟨s3, _⟩
      exact q H3 s3
theorem ok_changed_pairs {P : Program} {w : World} {base : Heap} {K : PySem.W.Frag} {mg : Str → Option Value} (T : Txt K mg) (ok_unfold : Ok_unfold P w base T) : Ok_changed_pairs P w base T := by
  refine T.F_changed_pairs.ok sc_changed_pairs (fun vs H Q E h => ?_) (fun cdv A outer s H vs Q E hr h => ?_)
  · obtain ⟨G, v1, v2, xs, ps, rfl, _⟩ := h
    rfl
  · obtain ⟨G, v1, v2, xs, ps, rfl, gs, ⟨a1, rfl, L1⟩, h2, hf, q⟩ := h
    refine ⟨_, (pss_cons (ps_set (i := 3) sc_changed_pairs.nd rfl (Or.inl rfl) (pe_callTy call_listN (by rfl) T.n_list (by decide +kernel) (pa_cons (pv 0) pa_nil)))
        (pss_cons (ps_for PassesOwn.never rfl (pi_list (pv 1)) (pg_tup rfl (pgs_cons (pg_name (i := 4) sc_changed_pairs.nd rfl (Or.inl rfl)) (pgs_cons (pg_tup rfl (pgs_cons (pg_name (i := 5) sc_changed_pairs.nd rfl (Or.inl rfl)) (pgs_cons (pg_name (i := 6) sc_changed_pairs.nd rfl (Or.inl rfl)) pgs_nil))) pgs_nil))) (pss_one (ps_for PassesOwn.never rfl (pi_range1 (by rfl) T.n_range (pa_cons (pv 5) pa_nil)) (pg_name (i := 7) sc_changed_pairs.nd rfl (Or.inl rfl)) (pss_cons (ps_par (i := 8) (j := 9) (by rfl) sc_changed_pairs.nd rfl rfl (by decide) rfl rfl (pa_cons (pe_op op_sub (pe_op op_sub (pv 4) pe_int) (pv 7)) (pa_cons (pe_op op_add (pv 4) (pv 7)) pa_nil)) (by rfl))
        (pss_one (ps_asg (pe_callL (i := 2) (f := He.ga K "unfold") ok_unfold (hr.mono (by decide)) rfl (Or.inl rfl) T.F_unfold.kp (b_unfold T) .nil pass0 (pa_cons (pv 6) (pa_cons (pe_ix ix_list (pv 3) (pv 8) (fun _ _ => rfl)) (pa_cons (pe_ix ix_list (pv 3) (pv 9) (fun _ _ => rfl)) pa_nil)))) (pg_tup rfl (pgs_cons (pg_sub (pv 3) (pv 8) set_list) (pgs_cons (pg_sub (pv 3) (pv 9) set_list) pgs_nil)))))))))
        (pss_one (ps_ret (pv 3))))), ?_⟩
    try dsimp only [cxOf, Cx.nox, Cx.wish, Cx.blk]
    walk_at "go"
    refine r_listL (SqL.of (gs _ _ L1)) fun p np => ?_
    have nG : G p = none := gs.free np
    obtain ⟨a2, vs, rfl, L2, hA⟩ := id h2
    walk_at "go"
    refine r_kL (SqL.of (same_new np _ _ (gs _ _ L2))) ?_
    refine for_list (K := K) (a := a2) (xs := vs) (fun i σ H1 => ∃ (G1 : Hp) (x4 x5 x6 x7 x8 x9 : Option V), σ = [some (.ref a1), some (.ref a2), some (.ref (He.ga K "unfold")), some (.ref p), x4, x5, x6, x7, x8, x9] ∧
      Grow [] G H G1 H1 ∧ G1 p = none ∧ H1 p = some (.lst ((chg xs (ps.take i)).map V.int))) ⟨G, none, none, none, none, none, none, rfl, (Grow.refl gs).mut np nG, nG, upd_same⟩ (fun i σ H1 _ ⟨G1, _, _, _, _, _, _, _, gr, _, _⟩ => SqL.of (gr.hs _ _ (gs _ _ L2))) ?_ ?_
    · rintro i y σ H1 hi ⟨G1, x4, x5, x6, x7, x8, x9, rfl, gr, g1, hp⟩
      obtain ⟨⟨pl, ⟨wd, sh⟩⟩, hpl, hv⟩ := hA.get hi
      obtain ⟨k1, k2, k3, k4, k5, k6, k7⟩ := Fits.at_ hf hpl
      obtain ⟨ya, yu, rfl, yS, ya2, rfl, yJ⟩ := PlV.mono (gs.trans gr.hs) hv
      rw [chg_snoc hpl]
      have cl := chg_len (ps.take i) xs
      generalize chg xs (ps.take i) = cur at hp cl ⊢
      refine r_gTup yS rfl ?_
      walk_at "go"
      refine r_gTup yJ rfl ?_
      walk_at "go"
      dsimp only at k1 k2 k3 k4 k5 k6 k7
      refine r_kR1 (n := wd) (by omega) ?_
      refine for_range (lo := 0) (n := wd) (fun m σ H2 => ∃ (G2 : Hp) (x7 x8 x9 : Option V), σ = [some (.ref a1), some (.ref a2), some (.ref (He.ga K "unfold")), some (.ref p), some (.int pl), some (.int wd), some (.int sh), x7, x8, x9] ∧
        Grow [] G H G2 H2 ∧ G2 p = none ∧ H2 p = some (.lst ((pairsGo sh pl m cur).map V.int))) ⟨G1, _, _, _, rfl, gr, g1, hp⟩ ?_ ?_
      · rintro m σ H2 hm ⟨G2, x7, x8, x9, rfl, gr2, g2, hp2⟩
        have ml := pairsGo_len sh pl m cur
        walk_at "go"
        rw [show (pl : Int) - 1 - (0 + (m : Int)) = ((pl - 1 - m : Nat) : Int) by omega, show (pl : Int) + (0 + (m : Int)) = ((pl + m : Nat) : Int) by omega]
        rw [pairsGo]
        unfold pairStep
        generalize pairsGo sh pl m cur = ys at hp2 ml ⊢
        refine r_callL rfl ?_
        walk_at "go"
        refine r_ixL (SqL.of hp2) (at0 (getD_map (i := pl - 1 - m) (by omega))) ?_
        walk_at "go"
        refine r_ixL (SqL.of hp2) (at0 (getD_map (i := pl + m) (by omega))) ?_
        walk_at "go"
        refine ⟨G2, sh, _, _, rfl, gr2.gh, k6, fun G3 H3 v gr3 pr => ?_⟩
        obtain ⟨va, rfl, vS⟩ := pr
        have hp3 := gr3.hs _ _ hp2
        have g3 := gr3.nw p (by rw [hp2]; exact fun z => nomatch z) g2
        have gr4 := gr2.trans gr3
        have vS := sm_tup gr3.gh vS
        refine r_gTup vS rfl ?_
        walk_at "go"
        refine r_setL hp3 (ixn (by rw [List.length_map]; omega)) ?_
        walk_at "go"
        refine r_setL upd_same (ixn (by rw [List.length_set, List.length_map]; omega)) ?_
        walk_at "go"
        refine ⟨G3, _, _, _, rfl, (gr4.mut np g3).mut np g3, g3, ?_⟩
        rw [upd_same, List.map_set, List.map_set]
      · rintro σ H2 ⟨G2, x7, x8, x9, rfl, gr2, g2, hp2⟩
        exact ⟨G2, _, _, _, _, _, _, rfl, gr2, g2, hp2⟩
    · rintro σ H1 ⟨G1, x4, x5, x6, x7, x8, x9, rfl, gr, g1, hp⟩
      rw [hA.len, List.take_length] at hp
      walk_at "go"
      exact q _ _ _ (gr.freeze np g1 hp) ⟨p, rfl, upd_same⟩
theorem ok_unfolded {P : Program} {w : World} {base : Heap} {K : PySem.W.Frag} {mg : Str → Option Value} (T : Txt K mg) (ok_require_values : Ok_require_values P w base T) (ok_require_joints : Ok_require_joints P w base T) (ok_changed_pairs : Ok_changed_pairs P w base T) : Ok_unfolded P w base T := by
  refine T.F_unfolded.ok sc_unfolded (fun vs H Q E h => ?_) (fun cdv A outer s H vs Q E hr h => ?_)
  · obtain ⟨G, v1, v2, xs, ps, rfl, _⟩ := h
    rfl
  · obtain ⟨G, v1, v2, xs, ps, rfl, gs, h1, h2, hf, q⟩ := h
    refine ⟨_, (pss_cons (ps_expr (pe_call ok_require_values (hr.mono (by decide)) (by rfl) T.g_require_values T.F_require_values.kp (b_require_values T) .nil pass0 (pa_cons (pv 0) pa_nil)))
        (pss_cons (ps_expr (pe_call ok_require_joints (hr.mono (by decide)) (by rfl) T.g_require_joints T.F_require_joints.kp (b_require_joints T) .nil pass0 (pa_cons (pv 1) (pa_cons (pe_callB call_lenN (by rfl) T.n_len (by decide +kernel) (pa_cons (pv 0) pa_nil)) pa_nil))))
        (pss_one (ps_ret (pe_call ok_changed_pairs (hr.mono (by decide)) (by rfl) T.g_changed_pairs T.F_changed_pairs.kp (b_changed_pairs T) .nil pass0 (pa_cons (pv 0) (pa_cons (pv 1) (pa_cons (pe_glob (v := .ref (He.ga K "unfold")) (by rfl) T.g_unfold rfl) pa_nil)))))))), ?_⟩
    try dsimp only [cxOf, Cx.nox, Cx.wish, Cx.blk]
    walk_at "go"
    refine ⟨v1, xs, rfl, Li.mono gs h1, fun H1 s1 => ?_⟩
    walk_at "go"
    obtain ⟨a, rfl, hL⟩ := id h1
    refine r_lenL (SqL.of (s1 _ _ (gs _ _ hL))) ?_
    walk_at "go"
    rw [List.length_map]
    refine ⟨v2, xs.length, ps, rfl, LsP.mono (gs.trans s1) h2, hf, fun H2 s2 => ?_⟩
    walk_at "go"
    refine ⟨G, .ref a, v2, xs, ps, rfl, (gs.trans s1).trans s2, h1, h2, hf, fun G' H' v gr p => ?_⟩
    exact q G' H' v ((Grow.pure gs (s1.trans s2)).trans gr) p
theorem ok_require_between {P : Program} {w : World} {base : Heap} {K : PySem.W.Frag} {mg : Str → Option Value} (T : Txt K mg) (ok_is_integer_folds : Ok_is_integer_folds P w base T) : Ok_require_between P w base T := by
  refine T.F_require_between.ok sc_require_between (fun vs H Q E h => ?_) (fun cdv A outer s H vs Q E hr h => ?_)
  · obtain ⟨v, lo, hi, rfl, _⟩ := h
    rfl
  · obtain ⟨v, lo, hi, rfl, h1, h2, q⟩ := h
    refine ⟨_, (pss_one (ps_if (PW.pt (pw_or (pt_not (pt_val (pe_call ok_is_integer_folds (hr.mono (by decide)) (by rfl) T.g_is_integer_folds T.F_is_integer_folds.kp (b_is_integer_folds T) .nil pass0 (pa_cons (pv 0) pa_nil)))) (pw_or1 (pt_not (pt_chain op_le op_le (pv 1) (pv 0) (pv 2)))))) (pss_one ps_never) pss_nil)), ?_⟩
    try dsimp only [cxOf, Cx.nox, Cx.wish, Cx.blk]
    walk_at "go"
    refine ⟨_, rfl, ?_⟩
    walk_at "go"
    exact q
theorem ok_require_list {P : Program} {w : World} {base : Heap} {K : PySem.W.Frag} {mg : Str → Option Value} (T : Txt K mg) (ok_is_integer_folds : Ok_is_integer_folds P w base T) : Ok_require_list P w base T := by
  refine T.F_require_list.ok sc_require_list (fun vs H Q E h => ?_) (fun cdv A outer s H vs Q E hr h => ?_)
  · obtain ⟨v, xs, rfl, _⟩ := h
    rfl
  · obtain ⟨v, xs, rfl, ⟨a, rfl, hL⟩, h1, h2, q⟩ := h
    refine ⟨_, (pss_cons (ps_if (PW.pt (pw_or (pt_not (pt_val (pe_callB call_isi (by rfl) T.n_isinstance (by decide +kernel) (pa_cons (pv 0) (pa_cons (pe_bltn (v := .ty "list") (by rfl) T.n_list (by decide +kernel) rfl) pa_nil))))) (pw_or1 (pt_not (pt_chain op_le op_le pe_int (pe_callB call_lenN (by rfl) T.n_len (by decide +kernel) (pa_cons (pv 0) pa_nil)) (pe_gi T.i_MOST_VALUES (by rfl))))))) (pss_one ps_never) pss_nil)
        (pss_one (ps_for PassesOwn.never rfl (pi_enum (by rfl) T.n_enumerate (pa_cons (pv 0) pa_nil)) (pg_tup rfl (pgs_cons (pg_name (i := 1) sc_require_list.nd rfl (Or.inl rfl)) (pgs_cons (pg_name (i := 2) sc_require_list.nd rfl (Or.inl rfl)) pgs_nil))) (pss_one (ps_if (pt_not (pt_val (pe_call ok_is_integer_folds (hr.mono (by decide)) (by rfl) T.g_is_integer_folds T.F_is_integer_folds.kp (b_is_integer_folds T) .nil pass0 (pa_cons (pv 2) pa_nil)))) (pss_one ps_never) pss_nil))))), ?_⟩
    try dsimp only [cxOf, Cx.nox, Cx.wish, Cx.blk]
    walk_at "go"
    refine r_isi (ty_lst hL) kit_list_list ?_
    walk_at "go"
    refine r_lenL (SqL.of hL) ?_
    rw [List.length_map]
    walk_at "go"
    refine r_kE (SqL.of hL) ?_
    refine for_enum (K := K) (a := a) (xs := xs.map V.int) (fun i σ H2 => Same H H2 ∧ ∃ x y, σ = [some (.ref a), x, y]) ⟨Same.refl _, _, _, rfl⟩ (fun i σ H2 _ ⟨s2, _⟩ => SqL.of (s2 _ _ hL)) ?_ ?_
    · rintro i y t σ H2 hi nt ⟨s2, x1, y1, rfl⟩
      obtain ⟨n, hn, rfl⟩ := map_get hi
      refine r_gTup (SqT.of upd_same) rfl ?_
      walk_at "go"
      refine ⟨n, rfl, ?_⟩
      walk_at "go"
      exact ⟨s2.trans (same_new nt), _, _, rfl⟩
    · rintro σ H2 ⟨s2, x1, y1, rfl⟩
      exact q H2 s2
theorem ok_sum_counts {P : Program} {w : World} {base : Heap} {K : PySem.W.Frag} {mg : Str → Option Value} (T : Txt K mg)  : Ok_sum_counts P w base T := by
  refine T.F_sum_counts.ok sc_sum_counts (fun vs H Q E h => ?_) (fun cdv A outer s H vs Q E hr h => ?_)
  · obtain ⟨G, n, lev, rfl, _⟩ := h
    rfl
  · obtain ⟨G, n, lev, rfl, gs, hl, q⟩ := h
    refine ⟨_, (pss_cons (ps_set (i := 2) sc_sum_counts.nd rfl (Or.inl rfl) (pe_lst (pa_cons (pv 0) pa_nil)))
        (pss_cons (ps_for PassesOwn.never rfl (pi_range1 (by rfl) T.n_range (pa_cons (pv 1) pa_nil)) (pg_name (i := 3) sc_sum_counts.nd rfl (Or.inl rfl)) (pss_one (ps_expr (pe_bm PySem.F.plainAttrs_list PySem.F.slot_list_append PySem.F.type_list_append mt_append (pv 2) (pa_cons (pe_op op_fdiv (pe_op op_add (pe_ix ix_list (pv 2) (pe_un un_neg pe_int) (fun _ _ => rfl)) pe_int) pe_int) pa_nil)))))
        (pss_one (ps_ret (pv 2))))), ?_⟩
    try dsimp only [cxOf, Cx.nox, Cx.wish, Cx.blk]
    walk_at "go"
    refine ⟨szr rfl, fun p np => ?_⟩
    walk_at "go"
    have nG : G p = none := gs.free np
    refine r_kR1 (by omega) ?_
    refine for_range (lo := 0) (n := lev) (fun i σ H1 => ∃ x, σ = [some (.int n), some (.int lev), some (.ref p), x] ∧ Grow [] G H G H1 ∧ H1 p = some (.lst ((cI ((List.range (i + 1)).map (hv n))).map V.int)))
      ⟨none, rfl, (Grow.refl gs).mut np nG, upd_same⟩ ?_ ?_
    · rintro i σ H1 hi ⟨x, rfl, gr, hp⟩
      walk_at "go"
      refine r_tyL (SqL.of hp) ?_
      walk_at "go"
      refine r_ixL (SqL.of hp) (atm1 (cnt_last n i)) ?_
      walk_at "go"
      refine r_I ⟨by decide, by decide⟩ ?_
      walk_at "go"
      refine r_app hp (szl (by rw [List.length_map, cI_len, List.length_map, List.length_range]; omega)) ?_
      walk_at "go"
      refine ⟨_, rfl, gr.mut np nG, ?_⟩
      rw [upd_same, show (cI ((List.range (i + 1)).map (hv n))).map V.int ++ [V.int (((hv n i : Int) + 1) / 2)] = (cI ((List.range (i + 1)).map (hv n)) ++ [((hv n i : Int) + 1) / 2]).map V.int by rw [List.map_append]; rfl, cnt_step n lev i]
    · rintro σ H1 ⟨x, rfl, gr, hp⟩
      walk_at "go"
      exact q _ _ _ (gr.freeze np nG hp) ⟨p, rfl, upd_same⟩
theorem ok_join_levels {P : Program} {w : World} {base : Heap} {K : PySem.W.Frag} {mg : Str → Option Value} (T : Txt K mg) (ok_require_list : Ok_require_list P w base T) (ok_require_between : Ok_require_between P w base T) (ok_sum_counts : Ok_sum_counts P w base T) : Ok_join_levels P w base T := by
  refine T.F_join_levels.ok sc_join_levels (fun vs H Q E h => ?_) (fun cdv A outer s H vs Q E hr h => ?_)
  · obtain ⟨G, v, xs, lev, rfl, _⟩ := h
    rfl
  · obtain ⟨G, v, xs, lev, rfl, gs, h1, n1, n2, hl, q⟩ := h
    obtain ⟨a1, rfl, L1⟩ := id h1
    refine ⟨_, (pss_cons (ps_expr (pe_call ok_require_list (hr.mono (by decide)) (by rfl) T.g_require_list T.F_require_list.kp (b_require_list T) .nil pass0 (pa_cons (pv 0) pa_nil)))
        (pss_cons (ps_expr (pe_call ok_require_between (hr.mono (by decide)) (by rfl) T.g_require_between T.F_require_between.kp (b_require_between T) .nil pass0 (pa_cons (pv 1) (pa_cons pe_int (pa_cons (pe_gi T.i_MOST_LEVELS (by rfl)) pa_nil)))))
        (pss_cons (ps_set (i := 2) sc_join_levels.nd rfl (Or.inl rfl) (pe_call ok_sum_counts (hr.mono (by decide)) (by rfl) T.g_sum_counts T.F_sum_counts.kp (b_sum_counts T) .nil pass0 (pa_cons (pe_callB call_lenN (by rfl) T.n_len (by decide +kernel) (pa_cons (pv 0) pa_nil)) (pa_cons (pv 1) pa_nil))))
        (pss_cons (ps_set (i := 3) sc_join_levels.nd rfl (Or.inl rfl) (pe_slice sl_list (pv 0) po_none (po_some (pe_ix ix_list (pv 2) (pe_un un_neg pe_int) (fun _ _ => rfl)))))
        (pss_cons (ps_for PassesOwn.never rfl (pi_range3 (by rfl) T.n_range (pa_cons (pe_op op_sub (pv 1) pe_int) (pa_cons (pe_un un_neg pe_int) (pa_cons (pe_un un_neg pe_int) pa_nil)))) (pg_name (i := 4) sc_join_levels.nd rfl (Or.inl rfl)) (pss_cons (ps_set (i := 5) sc_join_levels.nd rfl (Or.inl rfl) (pe_slice sl_list (pv 0) (po_some (pe_ix ix_list (pv 2) (pe_op op_add (pv 4) pe_int) (fun _ _ => rfl))) (po_some (pe_ix ix_list (pv 2) (pv 4) (fun _ _ => rfl)))))
        (pss_cons (ps_set (i := 6) sc_join_levels.nd rfl (Or.inl rfl) (pe_lst pa_nil))
        (pss_cons (ps_for PassesOwn.never rfl (pi_zip (by rfl) T.n_zip (pa_cons (pv 3) (pa_cons (pv 5) pa_nil))) (pg_tup rfl (pgs_cons (pg_name (i := 7) sc_join_levels.nd rfl (Or.inl rfl)) (pgs_cons (pg_name (i := 8) sc_join_levels.nd rfl (Or.inl rfl)) pgs_nil))) (pss_cons (ps_set (i := 9) sc_join_levels.nd rfl (Or.inl rfl) (pe_op op_add (pv 7) (pe_op op_fdiv (pe_op op_add (pv 8) pe_int) pe_int)))
        (pss_one (ps_expr (pe_bm PySem.F.plainAttrs_list PySem.F.slot_list_extend PySem.F.type_list_extend mt_extend (pv 6) (pa_cons (pe_lst (pa_cons (pv 9) (pa_cons (pe_op op_sub (pv 9) (pv 8)) pa_nil))) pa_nil))))))
        (pss_cons (ps_expr (pe_bm PySem.F.plainAttrs_list PySem.F.slot_list_extend PySem.F.type_list_extend mt_extend (pv 6) (pa_cons (pe_slice sl_list (pv 3) (po_some (pe_callB call_lenN (by rfl) T.n_len (by decide +kernel) (pa_cons (pv 5) pa_nil))) po_none) pa_nil)))
        (pss_one (ps_set (i := 3) sc_join_levels.nd rfl (Or.inl rfl) (pv 6))))))))
        (pss_one (ps_ret (pv 3)))))))), ?_⟩
    try dsimp only [cxOf, Cx.nox, Cx.wish, Cx.blk]
    walk_at "go"
    refine ⟨.ref a1, xs, rfl, Li.mono gs h1, n1, n2, fun H1 s1 => ?_⟩
    walk_at "go"
    refine ⟨_, _, _, rfl, by omega, by omega, ?_⟩
    walk_at "go"
    have gs1 := gs.trans s1
    refine r_lenL (SqL.of (gs1 _ _ L1)) ?_
    walk_at "go"
    rw [List.length_map]
    refine ⟨G, xs.length, lev, rfl, gs1, hl, fun G2 H2 vc gr2 pc => ?_⟩
    obtain ⟨ca, rfl, Lc⟩ := pc
    walk_at "go"
    have c2 := gr2.gh _ _ Lc
    refine r_ixL (SqL.of c2) (atm1 (by rw [cnt_len, Nat.add_sub_cancel]; exact cnt_at (Nat.le_refl _))) ?_
    walk_at "go"
    have L12 := gr2.gh _ _ (gr2.gg _ _ L1)
    refine r_slL0 (SqL.of L12) fun p np => ?_
    rw [← List.map_take]
    walk_at "go"
    have gr3 := ((Grow.pure gs s1).trans gr2).trans (Grow.alloc gr2.gh np (o := .lst ((xs.take (hv xs.length lev)).map V.int)))
    have gr3' := Grow.alloc (M := []) gr2.gh np (o := .lst ((xs.take (hv xs.length lev)).map V.int))
    refine r_kR3 (n := lev) (by have := RgC.neg (i := (lev : Int) - 1) (j := -1) (by omega) (by omega) (by decide) (by decide); rw [show (((lev : Int) - 1) - (-1)).toNat = lev by omega] at this; exact this) ?_
    refine for_rangeC (lo := (lev : Int) - 1) (c := -1) (n := lev) (fun i σ H3 => ∃ (G3 : Hp) (sa : Addr) (x4 x5 x6 x7 x8 x9 : Option V), σ = [some (.ref a1), some (.int lev), some (.ref ca), some (.ref sa), x4, x5, x6, x7, x8, x9] ∧
      Grow [] G H G3 H3 ∧ G3 a1 = some (.lst (xs.map V.int)) ∧ G3 ca = some (.lst ((cI (countsL xs.length lev)).map V.int)) ∧ G3 sa = some (.lst ((joinGo xs lev i).map V.int)))
      ⟨_, p, none, none, none, none, none, none, rfl, gr3, gr3'.gg _ _ (gr2.gg _ _ L1), gr3'.gg _ _ Lc, upd_same⟩ ?_ ?_
    · rintro i σ H3 hi ⟨G3, sa, x4, x5, x6, x7, x8, x9, rfl, gr, e1, e2, e3⟩
      have sl := joinGo_len xs lev i (by omega)
      have h64 := hv_le xs.length (lev - i)
      have h64' := hv_le xs.length (lev - 1 - i)
      walk_at "go"
      rw [show (lev : Int) - 1 + (i : Int) * (-1) + 1 = ((lev - i : Nat) : Int) by omega, show (lev : Int) - 1 + (i : Int) * (-1) = ((lev - 1 - i : Nat) : Int) by omega]
      refine r_ixL (SqL.of (gr.gh _ _ e2)) (at0 (cnt_at (by omega))) ?_
      walk_at "go"
      refine r_ixL (SqL.of (gr.gh _ _ e2)) (at0 (cnt_at (by omega))) ?_
      walk_at "go"
      refine r_slLn (SqL.of (gr.gh _ _ e1)) fun da nd => ?_
      rw [← List.map_take, ← List.map_drop, joinGo]
      generalize hdf : (xs.take (hv xs.length (lev - 1 - i))).drop (hv xs.length (lev - i)) = df at *
      have dfl : df.length ≤ 64 := by rw [← hdf, List.length_drop, List.length_take]; omega
      generalize joinGo xs lev i = sm at *
      have gA := Grow.alloc (M := []) gr.gh nd (o := .lst (df.map V.int))
      walk_at "go"
      refine ⟨szr rfl, fun va nv => ?_⟩
      walk_at "go"
      have gB := gr.trans gA
      have f3 := gA.gg _ _ e3
      have fd : (upd G3 da (.lst (df.map V.int))) da = some (.lst (df.map V.int)) := upd_same
      have f1 := gA.gg _ _ e1
      have f2 := gA.gg _ _ e2
      have nG := gB.gh.free nv
      generalize upd G3 da (.lst (df.map V.int)) = G4 at *
      generalize upd H3 da (.lst (df.map V.int)) = H4 at *
      have gC := gB.trans ((Grow.refl (M := []) gB.gh).mut nv nG (o := .lst []))
      refine r_kZ (SqL.of (gC.gh _ _ f3)) (SqL.of (gC.gh _ _ fd)) ?_
      refine for_zip (K := K) (n := min sm.length df.length) (by rw [List.length_map, List.length_map]) (fun m σ H5 => ∃ (G5 : Hp) (x7 x8 x9 : Option V), σ = [some (.ref a1), some (.int lev), some (.ref ca), some (.ref sa), some (.int (lev - 1 - i : Nat)), some (.ref da), some (.ref va), x7, x8, x9] ∧
        Grow [] G4 H4 G5 H5 ∧ G5 va = none ∧ H5 va = some (.lst ((joinPairs (sm.take m) (df.take m)).map V.int))) ⟨G4, _, _, _, rfl, (Grow.refl (M := []) gB.gh).mut nv nG, nG, by rw [upd_same]; rfl⟩
        (fun m σ H5 _ ⟨G5, _, _, _, _, g5, _, _⟩ => ⟨SqL.of (g5.gh _ _ (g5.gg _ _ f3)), SqL.of (g5.gh _ _ (g5.gg _ _ fd))⟩) ?_ ?_
      · rintro m x y t σ H5 hx hy nt ⟨G5, x7, x8, x9, rfl, g5, n5, hva⟩
        obtain ⟨s, hs, rfl⟩ := map_get hx
        obtain ⟨d, hd, rfl⟩ := map_get hy
        refine r_gTup (SqT.of upd_same) rfl ?_
        walk_at "run"
        have jl := joinPairs_len (sm.take m) (df.take m)
        rw [joinPairs_snoc hs hd]
        have g6 := g5.trans (Grow.alloc (M := []) g5.gh nt (o := .tup [.int s, .int d]))
        have hva6 := same_new nt (o := .tup [.int s, .int d]) _ _ hva
        refine r_tyL (SqL.of hva6) ?_
        walk_at "run"
        refine ⟨szr rfl, fun la na => ?_⟩
        walk_at "go"
        have g7 := g6.trans (Grow.alloc (M := []) g6.gh na (o := .lst [.int (s + (d + 1) / 2), .int (s + (d + 1) / 2 - d)]))
        refine r_ext (zs := [.int (s + (d + 1) / 2), .int (s + (d + 1) / 2 - d)]) (same_new na _ _ hva6) upd_same (sz (by rw [List.length_map, jl, List.length_take, List.length_take]; show _ + 2 ≤ 1000000; omega)) ?_
        walk_at "go"
        have nG7 := kn (u := .lst [.int (s + (d + 1) / 2), .int (s + (d + 1) / 2 - d)]) hva6 na (kn (u := .tup [.int s, .int d]) hva nt n5)
        refine ⟨_, _, _, _, rfl, g7.mut nv nG7, nG7, ?_⟩
        rw [upd_same, List.map_append]
        rfl
      · rintro σ H5 ⟨G5, x7, x8, x9, rfl, g5, n5, hva⟩
        rw [joinPairs_all] at hva
        have jl := joinPairs_len sm df
        walk_at "go"
        refine r_tyL (SqL.of hva) ?_
        walk_at "go"
        refine r_lenL (SqL.of (g5.gh _ _ (g5.gg _ _ fd))) ?_
        walk_at "go"
        rw [List.length_map]
        refine r_slLe (SqL.of (g5.gh _ _ (g5.gg _ _ f3))) fun ea ne => ?_
        rw [← List.map_drop]
        walk_at "go"
        have hvb := same_new ne (o := .lst ((sm.drop df.length).map V.int)) _ _ hva
        have g6 := g5.trans (Grow.alloc (M := []) g5.gh ne (o := .lst ((sm.drop df.length).map V.int)))
        have n6 := kn (u := .lst ((sm.drop df.length).map V.int)) hva ne n5
        refine r_ext (zs := (sm.drop df.length).map V.int) hvb upd_same (sz (by rw [List.length_map, List.length_map, List.length_drop]; omega)) ?_
        walk_at "go"
        have g7 := (gB.trans (g6.mut nv n6 (o := .lst ((joinPairs sm df).map V.int ++ (sm.drop df.length).map V.int)))).freeze (gB.no nv) n6 upd_same
        refine ⟨_, va, _, _, _, _, _, _, rfl, g7, ?_, ?_, ?_⟩
        · exact (same_new n6) _ _ (g6.gg _ _ f1)
        · exact (same_new n6) _ _ (g6.gg _ _ f2)
        · rw [upd_same, ← List.map_append]
          rfl
    · rintro σ H3 ⟨G3, sa, x4, x5, x6, x7, x8, x9, rfl, gr, e1, e2, e3⟩
      walk_at "go"
      rw [show joinGo xs lev lev = joinL xs lev from rfl] at e3
      exact q _ _ _ gr ⟨sa, rfl, e3⟩
theorem ok_coarse_count {P : Program} {w : World} {base : Heap} {K : PySem.W.Frag} {mg : Str → Option Value} (T : Txt K mg) (ok_require_between : Ok_require_between P w base T) (ok_sum_counts : Ok_sum_counts P w base T) : Ok_coarse_count P w base T := by
  refine T.F_coarse_count.ok sc_coarse_count (fun vs H Q E h => ?_) (fun cdv A outer s H vs Q E hr h => ?_)
  · obtain ⟨n, lev, rfl, _⟩ := h
    rfl
  · obtain ⟨n, lev, rfl, h1, h2, h3, q⟩ := h
    refine ⟨_, (pss_cons (ps_expr (pe_call ok_require_between (hr.mono (by decide)) (by rfl) T.g_require_between T.F_require_between.kp (b_require_between T) .nil pass0 (pa_cons (pv 0) (pa_cons pe_int (pa_cons (pe_gi T.i_MOST_VALUES (by rfl)) pa_nil)))))
        (pss_cons (ps_expr (pe_call ok_require_between (hr.mono (by decide)) (by rfl) T.g_require_between T.F_require_between.kp (b_require_between T) .nil pass0 (pa_cons (pv 1) (pa_cons pe_int (pa_cons (pe_gi T.i_MOST_LEVELS (by rfl)) pa_nil)))))
        (pss_one (ps_ret (pe_ix ix_list (pe_call ok_sum_counts (hr.mono (by decide)) (by rfl) T.g_sum_counts T.F_sum_counts.kp (b_sum_counts T) .nil pass0 (pa_cons (pv 0) (pa_cons (pv 1) pa_nil))) (pe_un un_neg pe_int) (fun _ _ => rfl)))))), ?_⟩
    try dsimp only [cxOf, Cx.nox, Cx.wish, Cx.blk]
    walk_at "go"
    refine ⟨n, 1, 64, rfl, by omega, by omega, ?_⟩
    walk_at "go"
    refine ⟨lev, 0, 5, rfl, by omega, by omega, ?_⟩
    walk_at "go"
    refine ⟨H, n, lev, rfl, Same.refl _, h3, fun G' H' v gr p => ?_⟩
    obtain ⟨b, rfl, hb⟩ := p
    walk_at "go"
    refine r_ixL (SqL.of (gr.gh _ _ hb)) (atm1 (cnt_last n lev)) ?_
    walk_at "go"
    exact q H' gr.hs
theorem ok_is_table {P : Program} {w : World} {base : Heap} {K : PySem.W.Frag} {mg : Str → Option Value} (T : Txt K mg) (ok_is_integer_folds : Ok_is_integer_folds P w base T) : Ok_is_table P w base T := by
  refine T.F_is_table.ok sc_is_table (fun vs H Q E h => ?_) (fun cdv A outer s H vs Q E hr h => ?_)
  · obtain ⟨v, t, rfl, _⟩ := h
    rfl
  · obtain ⟨v, t, rfl, ⟨a, rfl, hS⟩, ⟨h1, h2, h3⟩, q⟩ := h
    refine ⟨_, (pss_cons (ps_if (PW.pt (pw_or (pt_not (pt_val (pe_callB call_isi (by rfl) T.n_isinstance (by decide +kernel) (pa_cons (pv 0) (pa_cons (pe_bltn (v := .ty "tuple") (by rfl) T.n_tuple (by decide +kernel) rfl) pa_nil))))) (pw_or1 (pt_cmpR op_ne (pe_callB call_lenN (by rfl) T.n_len (by decide +kernel) (pa_cons (pv 0) pa_nil)) pe_int (nomark _))))) (pss_one (ps_ret pe_bl)) pss_nil)
        (pss_cons (ps_asg (pv 0) (pg_tup rfl (pgs_cons (pg_name (i := 1) sc_is_table.nd rfl (Or.inl rfl)) (pgs_cons (pg_name (i := 2) sc_is_table.nd rfl (Or.inl rfl)) pgs_nil))))
        (pss_one (ps_ret (pe_and (pe_call ok_is_integer_folds (hr.mono (by decide)) (by rfl) T.g_is_integer_folds T.F_is_integer_folds.kp (b_is_integer_folds T) .nil pass0 (pa_cons (pv 1) pa_nil)) (pe_and (pe_call ok_is_integer_folds (hr.mono (by decide)) (by rfl) T.g_is_integer_folds T.F_is_integer_folds.kp (b_is_integer_folds T) .nil pass0 (pa_cons (pv 2) pa_nil)) (pe_and (pe_cmpR op_ge (pv 1) pe_int (nomark _)) (pe_one (pe_chain op_le op_lt pe_int (pv 2) (pe_gi T.i_FULL (by rfl))))))))))), ?_⟩
    try dsimp only [cxOf, Cx.nox, Cx.wish, Cx.blk]
    walk_at "go"
    refine r_isi (ty_tup hS) kit_tuple_tuple ?_
    walk_at "go"
    refine r_lenT hS ?_
    walk_at "go"
    refine r_gTup hS rfl ?_
    walk_at "go"
    refine ⟨_, rfl, ?_⟩
    walk_at "go"
    refine ⟨_, rfl, ?_⟩
    walk_at "go"
    exact bl_eq (decide_eq_true (by omega)) q
theorem ok_is_tables {P : Program} {w : World} {base : Heap} {K : PySem.W.Frag} {mg : Str → Option Value} (T : Txt K mg) (ok_is_table : Ok_is_table P w base T) : Ok_is_tables P w base T := by
  refine T.F_is_tables.ok sc_is_tables (fun vs H Q E h => ?_) (fun cdv A outer s H vs Q E hr h => ?_)
  · obtain ⟨v, t, rfl, _⟩ := h
    rfl
  · obtain ⟨v, t, rfl, ⟨a, v1, v2, rfl, hS, hv1, hv2⟩, ⟨h1, h2⟩, q⟩ := h
    refine ⟨_, (pss_one (ps_ret (pe_and (pe_callB call_isi (by rfl) T.n_isinstance (by decide +kernel) (pa_cons (pv 0) (pa_cons (pe_bltn (v := .ty "tuple") (by rfl) T.n_tuple (by decide +kernel) rfl) pa_nil))) (pe_and (pe_cmpR op_eq (pe_callB call_lenN (by rfl) T.n_len (by decide +kernel) (pa_cons (pv 0) pa_nil)) pe_int (nomark _)) (pe_and (pe_call ok_is_table (hr.mono (by decide)) (by rfl) T.g_is_table T.F_is_table.kp (b_is_table T) .nil pass0 (pa_cons (pe_ix ix_tup (pv 0) pe_int (fun _ _ => rfl)) pa_nil)) (pe_one (pe_call ok_is_table (hr.mono (by decide)) (by rfl) T.g_is_table T.F_is_table.kp (b_is_table T) .nil pass0 (pa_cons (pe_ix ix_tup (pv 0) pe_int (fun _ _ => rfl)) pa_nil)))))))), ?_⟩
    try dsimp only [cxOf, Cx.nox, Cx.wish, Cx.blk]
    walk_at "go"
    refine r_isi (ty_tup hS) kit_tuple_tuple ?_
    walk_at "go"
    refine r_lenT hS ?_
    walk_at "go"
    refine r_ixT hS (at0 (n := 0) rfl) ?_
    walk_at "go"
    refine ⟨_, _, rfl, hv1, h1, ?_⟩
    walk_at "go"
    refine r_ixT hS (at0 (n := 1) rfl) ?_
    walk_at "go"
    exact ⟨_, _, rfl, hv2, h2, q⟩
theorem ok_parameter {P : Program} {w : World} {base : Heap} {K : PySem.W.Frag} {mg : Str → Option Value} (T : Txt K mg) (ok_is_table : Ok_is_table P w base T) : Ok_parameter P w base T := by
  refine T.F_parameter.ok sc_parameter (fun vs H Q E h => ?_) (fun cdv A outer s H vs Q E hr h => ?_)
  · obtain ⟨v, t, rfl, _⟩ := h
    rfl
  · obtain ⟨v, t, rfl, hv, ht, q⟩ := h
    refine ⟨_, (pss_cons (ps_if (pt_not (pt_val (pe_call ok_is_table (hr.mono (by decide)) (by rfl) T.g_is_table T.F_is_table.kp (b_is_table T) .nil pass0 (pa_cons (pv 0) pa_nil)))) (pss_one ps_never) pss_nil)
        (pss_cons (ps_asg (pv 0) (pg_tup rfl (pgs_cons (pg_name (i := 1) sc_parameter.nd rfl (Or.inl rfl)) (pgs_cons (pg_name (i := 2) sc_parameter.nd rfl (Or.inl rfl)) pgs_nil))))
        (pss_cons (ps_set (i := 3) sc_parameter.nd rfl (Or.inl rfl) pe_int)
        (pss_cons (ps_while PassesOwn.never (pt_cmpR op_lt (pv 2) (pv 1) (nomark _)) (pss_cons (ps_aug (i := 2) sc_parameter.nd rfl (Or.inl rfl) pe_int iop_mul)
        (pss_one (ps_aug (i := 3) sc_parameter.nd rfl (Or.inl rfl) pe_int iop_add))))
        (pss_one (ps_ret (pv 3))))))), ?_⟩
    try dsimp only [cxOf, Cx.nox, Cx.wish, Cx.blk]
    walk_at "go"
    refine ⟨_, _, rfl, hv, ht, ?_⟩
    walk_at "go"
    obtain ⟨a, rfl, hS⟩ := hv
    refine r_gTup hS rfl ?_
    walk_at "go"
    refine ⟨fun m σ H1 => H1 = H ∧ ∃ pr k : Nat, σ = [some (.ref a), some (.int t.1), some (.int pr), some (.int k)] ∧ par t = k + parGo m t.1 pr ∧ t.1 ≤ pr * 2 ^ m, ⟨17, rfl, t.2, 0, rfl, (Nat.zero_add _).symm, par_start ht⟩, ?_⟩
    rintro m σ H1 ⟨rfl, pr, k, rfl, e1, e2⟩
    walk_at "go"
    refine r_dec (fun hlt => ?_) (fun hlt => ?_)
    · obtain ⟨m', rfl⟩ : ∃ m', m = m' + 1 := par_more (by omega) e2
      refine ⟨fun σ' H' => H' = H1 ∧ ∃ pr k : Nat, σ' = [some (.ref a), some (.int t.1), some (.int pr), some (.int k)] ∧ par t = k + parGo m' t.1 pr ∧ t.1 ≤ pr * 2 ^ m', fun σ' H' z => ⟨m', Nat.lt_succ_self _, z⟩, ?_⟩
      walk_at "go"
      refine r_I (.inr (by decide)) ?_
      walk_at "go"
      exact ⟨rfl, 2 * pr, k + 1, by rw [show ((2 * pr : Nat) : Int) = (pr : Int) * 2 by omega]; rfl, par_step (by omega) e1, par_twice e2⟩
    · walk_at "go"
      exact int_eq (by rw [par_end (by omega)] at e1; omega) q
theorem ok_table_behind {P : Program} {w : World} {base : Heap} {K : PySem.W.Frag} {mg : Str → Option Value} (T : Txt K mg)  : Ok_table_behind P w base T := by
  refine T.F_table_behind.ok sc_table_behind (fun vs H Q E h => ?_) (fun cdv A outer s H vs Q E hr h => ?_)
  · obtain ⟨G, v, t, u, rfl, _⟩ := h
    rfl
  · obtain ⟨G, v, t, u, rfl, gs, hv, q⟩ := h
    refine ⟨_, (pss_cons (ps_par (i := 2) (j := 3) (by rfl) sc_table_behind.nd rfl rfl (by decide) rfl rfl (pa_cons (pe_op op_add (pe_ix ix_tup (pv 0) pe_int (fun _ _ => rfl)) (pv 1)) (pa_cons (pe_op op_add (pe_ix ix_tup (pv 0) pe_int (fun _ _ => rfl)) pe_int) pa_nil)) (by rfl))
        (pss_one (ps_ret (pe_ifExp (pt_cmpR op_eq (pv 3) (pe_gi T.i_FULL (by rfl)) (nomark _)) (pe_tup (pa_cons (pe_op op_fdiv (pv 2) pe_int) (pa_cons (pe_op op_fdiv (pe_gi T.i_FULL (by rfl)) pe_int) pa_nil))) (pe_tup (pa_cons (pv 2) (pa_cons (pv 3) pa_nil))))))), ?_⟩
    try dsimp only [cxOf, Cx.nox, Cx.wish, Cx.blk]
    walk_at "go"
    obtain ⟨a, rfl, hS⟩ := TbV.mono gs hv
    refine r_ixT hS (at0 (n := 0) rfl) ?_
    walk_at "go"
    refine r_ixT hS (at0 (n := 1) rfl) ?_
    walk_at "go"
    refine r_dec (fun he => ?_) (fun he => ?_)
    · walk_at "go"
      refine r_I ⟨by decide, by decide⟩ ?_
      walk_at "go"
      refine r_I ⟨by decide, by decide⟩ ?_
      walk_at "go"
      refine ⟨szr rfl, fun p np => ?_⟩
      refine q _ _ _ (Grow.alloc gs np) ⟨p, rfl, ?_⟩
      rw [show behind t u = ((t.1 + u) / 2, 8) from if_pos (by omega), show (((t.1 + u) / 2 : Nat) : Int) = ((t.1 : Int) + u) / 2 by omega]
      exact SqT.of upd_same
    · walk_at "go"
      refine ⟨szr rfl, fun p np => ?_⟩
      refine q _ _ _ (Grow.alloc gs np) ⟨p, rfl, ?_⟩
      rw [show behind t u = (t.1 + u, t.2 + 1) from if_neg (by omega)]
      exact SqT.of upd_same
theorem ok_code_number {P : Program} {w : World} {base : Heap} {K : PySem.W.Frag} {mg : Str → Option Value} (T : Txt K mg)  : Ok_code_number P w base T := by
  refine T.F_code_number.ok sc_code_number (fun vs H Q E h => ?_) (fun cdv A outer s H vs Q E hr h => ?_)
  · obtain ⟨n, rfl, _⟩ := h
    rfl
  · obtain ⟨n, rfl, q⟩ := h
    refine ⟨_, (pss_one (ps_ret (pe_ifExp (pt_cmpR op_ge (pv 0) pe_int (nomark _)) (pe_op op_mul pe_int (pv 0)) (pe_op op_sub (pe_op op_mul (pe_un un_neg pe_int) (pv 0)) pe_int)))), ?_⟩
    try dsimp only [cxOf, Cx.nox, Cx.wish, Cx.blk]
    walk_at "go"
    refine r_dec (fun he => ?_) (fun he => ?_)
    · walk_at "go"
      refine r_I (.inl (by decide)) ?_
      exact int_eq (by rw [codeN, if_pos he]; omega) q
    · walk_at "go"
      refine r_I (.inl (by decide)) ?_
      walk_at "go"
      exact int_eq (by rw [codeN, if_neg he]; omega) q
theorem ok_number_of {P : Program} {w : World} {base : Heap} {K : PySem.W.Frag} {mg : Str → Option Value} (T : Txt K mg)  : Ok_number_of P w base T := by
  refine T.F_number_of.ok sc_number_of (fun vs H Q E h => ?_) (fun cdv A outer s H vs Q E hr h => ?_)
  · obtain ⟨u, rfl, _⟩ := h
    rfl
  · obtain ⟨u, rfl, q⟩ := h
    refine ⟨_, (pss_one (ps_ret (pe_ifExp (pt_cmpR op_eq (pe_op op_and (pv 0) pe_int) pe_int (nomark _)) (pe_op op_fdiv (pv 0) pe_int) (pe_un un_neg (pe_op op_fdiv (pe_op op_add (pv 0) pe_int) pe_int))))), ?_⟩
    try dsimp only [cxOf, Cx.nox, Cx.wish, Cx.blk]
    walk_at "go"
    rw [bitAnd_m1]
    refine r_dec (fun he => ?_) (fun he => ?_)
    · walk_at "go"
      refine r_I ⟨by decide, by decide⟩ ?_
      exact int_eq (by rw [numN, if_pos (by omega)]) q
    · walk_at "go"
      refine r_I ⟨by decide, by decide⟩ ?_
      walk_at "go"
      exact int_eq (by rw [numN, if_neg (by omega)]) q
theorem ok_ones_at {P : Program} {w : World} {base : Heap} {K : PySem.W.Frag} {mg : Str → Option Value} (T : Txt K mg)  : Ok_ones_at P w base T := by
  refine T.F_ones_at.ok sc_ones_at (fun vs H Q E h => ?_) (fun cdv A outer s H vs Q E hr h => ?_)
  · obtain ⟨l, at_, m, rfl, _⟩ := h
    rfl
  · obtain ⟨l, a, m, rfl, hl, q⟩ := h
    refine ⟨_, (pss_cons (ps_set (i := 3) sc_ones_at.nd rfl (Or.inl rfl) pe_int)
        (pss_cons (ps_while PassesOwn.never (PW.pt (pw_and (pt_cmpR op_lt (pv 3) (pv 2) (nomark _)) (pw_and1 (pt_cmpR op_eq (pe_slice sl_str (pv 0) (po_some (pe_op op_add (pv 1) (pv 3))) (po_some (pe_op op_add (pe_op op_add (pv 1) (pv 3)) pe_int))) pe_str (nomark _))))) (pss_one (ps_aug (i := 3) sc_ones_at.nd rfl (Or.inl rfl) pe_int iop_add)))
        (pss_one (ps_ret (pv 3))))), ?_⟩
    try dsimp only [cxOf, Cx.nox, Cx.wish, Cx.blk]
    walk_at "go"
    refine ⟨fun z σ H1 => H1 = H ∧ ∃ c : Nat, z + c = m ∧ σ = [some (.str (tx l)), some (.int a), some (.int m), some (.int c)] ∧ onesB (l.drop a) = c + onesB (l.drop (a + c)), ⟨m, rfl, 0, rfl, rfl, (Nat.zero_add _).symm⟩, ?_⟩
    rintro z σ H1 ⟨rfl, c, hz, rfl, e⟩
    walk_at "go"
    refine r_dec (fun hlt => ?_) (fun hlt => ?_)
    · walk_at "go"
      rw [tx_1]
      refine r_slTx (i := a + c) (j := a + c + 1) (by omega) (by omega) (by omega) ?_
      walk_at "go"
      refine r_eqTx ?_
      rw [show a + c + 1 - (a + c) = 1 by omega]
      walk_at "go"
      cases hd : l.drop (a + c) with
      | nil =>
        rw [hd] at e
        refine r_no (by simp) ?_
        walk_at "go"
        refine int_eq ?_ q
        rw [e]
        show (c : Int) = ((min m (c + 0) : Nat) : Int)
        omega
      | cons b r =>
        rw [hd] at e
        have hr : l.drop (a + (c + 1)) = r := by
          rw [← Nat.add_assoc, ← List.drop_drop, hd]; rfl
        cases b with
        | true =>
          refine r_yes rfl ?_
          refine ⟨fun σ' H' => H' = H1 ∧ ∃ c' : Nat, c' = c + 1 ∧ σ' = [some (.str (tx l)), some (.int a), some (.int m), some (.int c')] ∧ onesB (l.drop a) = c' + onesB (l.drop (a + c')), fun σ' H' ⟨z1, c', z2, z3, z4⟩ => ⟨z - 1, by omega, z1, c', by omega, z3, z4⟩, ?_⟩
          walk_at "go"
          refine ⟨rfl, c + 1, rfl, rfl, ?_⟩
          rw [hr, e]
          show c + (onesB r + 1) = _
          omega
        | false =>
          refine r_no (fun z => nomatch (List.cons.inj z).1) ?_
          walk_at "go"
          refine int_eq ?_ q
          rw [e]
          show (c : Int) = ((min m (c + 0) : Nat) : Int)
          omega
    · walk_at "go"
      refine int_eq ?_ q
      rw [e]
      omega
theorem ok_read_code {P : Program} {w : World} {base : Heap} {K : PySem.W.Frag} {mg : Str → Option Value} (T : Txt K mg) (ok_ones_at : Ok_ones_at P w base T) : Ok_read_code P w base T := by
  refine T.F_read_code.ok sc_read_code (fun vs H Q E h => ?_) (fun cdv A outer s H vs Q E hr h => ?_)
  · obtain ⟨G, l, rest, a, u, k, rfl, _⟩ := h
    rfl
  · obtain ⟨G, l, rest, a, u, k, rfl, gs, hl, hd, hk, hu, q⟩ := h
    have cl := code_len hu hk
    have dl : l.length - a = (code u k).length + rest.length := by rw [← List.length_drop, hd, List.length_append]
    have dl2 : (code u k).length ≥ 1 := by
      by_cases hq : u / 2 ^ k < 20
      · rw [code_lo hq, List.length_append, List.length_cons]; omega
      · rw [code_hi hq, List.length_append, List.length_cons]; omega
    refine ⟨_, (pss_cons (ps_set (i := 3) sc_read_code.nd rfl (Or.inl rfl) (pe_call ok_ones_at (hr.mono (by decide)) (by rfl) T.g_ones_at T.F_ones_at.kp (b_ones_at T) .nil pass0 (pa_cons (pv 0) (pa_cons (pv 1) (pa_cons (pe_gi T.i_MOST_ONES (by rfl)) pa_nil)))))
        (pss_cons (ps_aug (i := 1) sc_read_code.nd rfl (Or.inl rfl) (pv 3) iop_add)
        (pss_cons (ps_if (pt_cmpR op_lt (pv 3) (pe_gi T.i_MOST_ONES (by rfl)) (nomark _)) (pss_cons (ps_set (i := 4) sc_read_code.nd rfl (Or.inl rfl) (pe_op op_add (pe_op op_add (pv 1) pe_int) (pv 2)))
        (pss_one (ps_ret (pe_ifExp (pt_cmpR op_le (pv 4) (pe_callB call_lenN (by rfl) T.n_len (by decide +kernel) (pa_cons (pv 0) pa_nil)) (nomark _)) (pe_tup (pa_cons (pe_op op_add (pe_callTy call_int_bin (by rfl) T.n_int (by decide +kernel) (pa_cons (pe_slice sl_str (pv 0) (po_some (pv 1)) (po_some (pv 4))) (pa_cons pe_int pa_nil))) (pe_op op_shl (pv 3) (pv 2))) (pa_cons (pv 4) pa_nil))) pe_non)))) pss_nil)
        (pss_cons (ps_set (i := 5) sc_read_code.nd rfl (Or.inl rfl) (pe_call ok_ones_at (hr.mono (by decide)) (by rfl) T.g_ones_at T.F_ones_at.kp (b_ones_at T) .nil pass0 (pa_cons (pv 0) (pa_cons (pv 1) (pa_cons (pe_callB call_lenN (by rfl) T.n_len (by decide +kernel) (pa_cons (pv 0) pa_nil)) pa_nil)))))
        (pss_cons (ps_set (i := 6) sc_read_code.nd rfl (Or.inl rfl) (pe_op op_add (pe_op op_add (pv 1) (pv 5)) pe_int))
        (pss_cons (ps_set (i := 4) sc_read_code.nd rfl (Or.inl rfl) (pe_op op_add (pe_op op_add (pv 6) (pv 5)) pe_int))
        (pss_cons (ps_if (PW.pt (pw_or (pt_cmpR op_gt (pv 4) (pe_callB call_lenN (by rfl) T.n_len (by decide +kernel) (pa_cons (pv 0) pa_nil)) (nomark _)) (pw_or1 (pt_cmpR op_ne (pe_ix ix_str (pv 0) (pv 6) (fun _ _ => rfl)) pe_str (nomark _))))) (pss_one (ps_ret pe_non)) pss_nil)
        (pss_cons (ps_set (i := 7) sc_read_code.nd rfl (Or.inl rfl) (pe_callTy call_int_bin (by rfl) T.n_int (by decide +kernel) (pa_cons (pe_slice sl_str (pv 0) (po_some (pv 6)) (po_some (pv 4))) (pa_cons pe_int pa_nil))))
        (pss_one (ps_ret (pe_ifExp (pt_cmpR op_ge (pe_op op_shr (pv 7) (pv 2)) (pe_gi T.i_MOST_ONES (by rfl)) (nomark _)) (pe_tup (pa_cons (pv 7) (pa_cons (pv 4) pa_nil))) pe_non))))))))))), ?_⟩
    try dsimp only [cxOf, Cx.nox, Cx.wish, Cx.blk]
    walk_at "go"
    refine ⟨l, a, 20, rfl, hl, ?_⟩
    rw [hd]
    have nn : (0 : Int) ≤ ((u / 2 ^ k : Nat) : Int) := Int.natCast_nonneg _
    by_cases hq : u / 2 ^ k < 20
    · rw [code_lo hq, List.length_append, List.length_replicate, List.length_cons, lowB_len] at dl
      rw [code_lo hq, List.append_assoc, List.cons_append, onesB_rep, Nat.min_eq_right (by omega)]
      walk_at "run"
      refine r_lenTx (by omega) ?_
      walk_at "run"
      refine r_slTx (i := a + u / 2 ^ k) (j := a + u / 2 ^ k + 1 + k) (by omega) (by omega) (by omega) ?_
      walk_at "run"
      have ed : (l.drop (a + u / 2 ^ k)).take (a + u / 2 ^ k + 1 + k - (a + u / 2 ^ k)) = false :: lowB u k := by
        rw [← List.drop_drop, hd, code_lo hq, List.append_assoc, List.drop_left' (List.length_replicate ..), show a + u / 2 ^ k + 1 + k - (a + u / 2 ^ k) = (false :: lowB u k).length by rw [List.length_cons, lowB_len]; omega]
        exact List.take_left' rfl
      rw [ed]
      refine r_int2 (by simp) (by rw [List.length_cons, lowB_len]; omega) ?_
      walk_at "run"
      refine r_I ⟨by omega, by omega, by omega⟩ ?_
      walk_at "run"
      refine ⟨szr rfl, fun p np => ?_⟩
      refine q _ _ _ (Grow.alloc gs np) ⟨p, rfl, ?_⟩
      have ev : valB (false :: lowB u k) = u % 2 ^ k := by rw [← lowB_val u k]; rfl
      have em : u % 2 ^ k + u / 2 ^ k * 2 ^ k = u := by rw [Nat.mul_comm]; exact Nat.mod_add_div u (2 ^ k)
      have e1 : (valB (false :: lowB u k) : Int) + ((u / 2 ^ k : Nat) : Int) * 2 ^ ((k : Nat) : Int).toNat = (u : Int) := by
        rw [ev, Int.toNat_natCast]
        have := congrArg (fun z : Nat => (z : Int)) em
        simpa using this
      have e2 : (a : Int) + ((u / 2 ^ k : Nat) : Int) + 1 + (k : Int) = ((a + (code u k).length : Nat) : Int) := by
        rw [code_lo hq, List.length_append, List.length_replicate, List.length_cons, lowB_len]; omega
      rw [← e2]
      have := SqT.of (K := K) (upd_same (H := G) (a := p) (o := .tup [.int u, .int ((a : Int) + ((u / 2 ^ k : Nat) : Int) + 1 + (k : Int))]))
      rw [← e1] at this ⊢
      exact this
    · have hq20 : ¬ u / 2 ^ k < 20 := hq
      have hu20 : 20 ≤ u := Nat.le_trans (by omega) (Nat.div_le_self u (2 ^ k))
      have b17 := bin_17 (show u ≤ 100000 by omega)
      obtain ⟨br, hbr⟩ := bin_head u (by omega)
      have b1 : 1 ≤ (bin u).length := by rw [hbr]; simp
      have bv := valB_bin u
      generalize hb : bin u = b at *
      rw [code_hi hq, hb, List.length_append, List.length_replicate, List.length_cons] at dl
      rw [code_hi hq, hb, List.append_assoc, List.cons_append, onesB_rep, Nat.min_eq_left (by omega)]
      walk_at "run"
      refine r_lenTx (by omega) ?_
      walk_at "run"
      have hd' : l.drop (a + 20) = List.replicate (b.length - 1) true ++ false :: (b ++ rest) := by
        rw [← List.drop_drop, hd, code_hi hq, hb, show 19 + b.length = 20 + (b.length - 1) by omega, List.replicate_append_replicate.symm, List.append_assoc, List.append_assoc, List.drop_left' (by rfl)]
        rfl
      refine ⟨l, a + 20, l.length, rfl, hl, ?_⟩
      rw [hd', onesB_rep, Nat.min_eq_right (by omega)]
      walk_at "run"
      refine r_lenTx (by omega) ?_
      walk_at "run"
      have hd2 : l.drop (a + 20 + b.length) = b ++ rest := by
        rw [← List.drop_drop, hd', show b.length = (b.length - 1) + 1 by omega, ← List.drop_drop, Nat.add_sub_cancel, List.drop_left' (List.length_replicate ..)]
        rfl
      have h1 : l[a + 20 + b.length]? = some true := by
        have := congrArg (fun z => z[0]?) hd2
        rw [List.getElem?_drop] at this
        rw [Nat.add_zero] at this
        rw [this, hbr]
        rfl
      rw [tx_1, show (a : Int) + ((20 : Nat) : Int) + ((b.length - 1 : Nat) : Int) + 1 = ((a + 20 + b.length : Nat) : Int) by omega]
      refine r_ixTx (by omega) h1 ?_
      walk_at "run"
      refine r_neTx ?_
      walk_at "run"
      refine r_slTx (i := a + 20 + b.length) (j := a + 20 + b.length + b.length) (by omega) (by omega) (by omega) ?_
      walk_at "run"
      rw [hd2, Nat.add_sub_cancel_left, List.take_left' rfl]
      refine r_int2 (by rw [hbr]; simp) (by omega) ?_
      rw [bv]
      walk_at "run"
      refine r_I (by omega) ?_
      rw [Int.toNat_natCast, show ((u : Int) / 2 ^ k) = ((u / 2 ^ k : Nat) : Int) by simp]
      walk_at "run"
      refine ⟨szr rfl, fun p np => ?_⟩
      refine q _ _ _ (Grow.alloc gs np) ⟨p, rfl, ?_⟩
      rw [code_hi hq, hb, List.length_append, List.length_replicate, List.length_cons]
      rw [show ((a + (19 + b.length + (b.length + 1)) : Nat) : Int) = ((a + 20 + b.length : Nat) : Int) + ((b.length - 1 : Nat) : Int) + 1 by omega]
      exact SqT.of upd_same
theorem ok_require_numbers {P : Program} {w : World} {base : Heap} {K : PySem.W.Frag} {mg : Str → Option Value} (T : Txt K mg) (ok_is_integer_folds : Ok_is_integer_folds P w base T) : Ok_require_numbers P w base T := by
  refine T.F_require_numbers.ok sc_require_numbers (fun vs H Q E h => ?_) (fun cdv A outer s H vs Q E hr h => ?_)
  · obtain ⟨v, xs, rfl, _⟩ := h
    rfl
  · obtain ⟨v, xs, rfl, ⟨a, rfl, hL⟩, h2, q⟩ := h
    refine ⟨_, (pss_cons (ps_if (PW.pt (pw_or (pt_not (pt_val (pe_callB call_isi (by rfl) T.n_isinstance (by decide +kernel) (pa_cons (pv 0) (pa_cons (pe_bltn (v := .ty "list") (by rfl) T.n_list (by decide +kernel) rfl) pa_nil))))) (pw_or1 (pt_cmpR op_gt (pe_callB call_lenN (by rfl) T.n_len (by decide +kernel) (pa_cons (pv 0) pa_nil)) (pe_gi T.i_MOST_NUMBERS (by rfl)) (nomark _))))) (pss_one ps_never) pss_nil)
        (pss_one (ps_for PassesOwn.never rfl (pi_enum (by rfl) T.n_enumerate (pa_cons (pv 0) pa_nil)) (pg_tup rfl (pgs_cons (pg_name (i := 1) sc_require_numbers.nd rfl (Or.inl rfl)) (pgs_cons (pg_name (i := 2) sc_require_numbers.nd rfl (Or.inl rfl)) pgs_nil))) (pss_one (ps_if (pt_not (pt_val (pe_call ok_is_integer_folds (hr.mono (by decide)) (by rfl) T.g_is_integer_folds T.F_is_integer_folds.kp (b_is_integer_folds T) .nil pass0 (pa_cons (pv 2) pa_nil)))) (pss_one ps_never) pss_nil))))), ?_⟩
    try dsimp only [cxOf, Cx.nox, Cx.wish, Cx.blk]
    walk_at "go"
    refine r_isi (ty_lst hL) kit_list_list ?_
    walk_at "go"
    refine r_lenL (SqL.of hL) ?_
    rw [List.length_map]
    walk_at "go"
    refine r_kE (SqL.of hL) ?_
    refine for_enum (K := K) (a := a) (xs := xs.map V.int) (fun i σ H2 => Same H H2 ∧ ∃ x y, σ = [some (.ref a), x, y]) ⟨Same.refl _, _, _, rfl⟩ (fun i σ H2 _ ⟨s2, _⟩ => SqL.of (s2 _ _ hL)) ?_ ?_
    · rintro i y t σ H2 hi nt ⟨s2, x1, y1, rfl⟩
      obtain ⟨n, hn, rfl⟩ := map_get hi
      refine r_gTup (SqT.of upd_same) rfl ?_
      walk_at "go"
      refine ⟨n, rfl, ?_⟩
      walk_at "go"
      exact ⟨s2.trans (same_new nt), _, _, rfl⟩
    · rintro σ H2 ⟨s2, x1, y1, rfl⟩
      exact q H2 s2
theorem ok_require_coarse {P : Program} {w : World} {base : Heap} {K : PySem.W.Frag} {mg : Str → Option Value} (T : Txt K mg) (ok_is_integer_folds : Ok_is_integer_folds P w base T) : Ok_require_coarse P w base T := by
  refine T.F_require_coarse.ok sc_require_coarse (fun vs H Q E h => ?_) (fun cdv A outer s H vs Q E hr h => ?_)
  · obtain ⟨c, n, rfl, _⟩ := h
    rfl
  · obtain ⟨c, n, rfl, h1, q⟩ := h
    refine ⟨_, (pss_one (ps_if (PW.pt (pw_or (pt_not (pt_val (pe_call ok_is_integer_folds (hr.mono (by decide)) (by rfl) T.g_is_integer_folds T.F_is_integer_folds.kp (b_is_integer_folds T) .nil pass0 (pa_cons (pv 0) pa_nil)))) (pw_or1 (pt_not (pt_chain op_le op_le pe_int (pv 0) (pv 1)))))) (pss_one ps_never) pss_nil)), ?_⟩
    try dsimp only [cxOf, Cx.nox, Cx.wish, Cx.blk]
    walk_at "go"
    refine ⟨_, rfl, ?_⟩
    walk_at "go"
    exact q
theorem ok_read_numbers {P : Program} {w : World} {base : Heap} {K : PySem.W.Frag} {mg : Str → Option Value} (T : Txt K mg) (ok_require_coarse : Ok_require_coarse P w base T) (ok_is_tables : Ok_is_tables P w base T) (ok_read_code : Ok_read_code P w base T) (ok_table_behind : Ok_table_behind P w base T) (ok_is_integer_folds : Ok_is_integer_folds P w base T) (ok_parameter : Ok_parameter P w base T) (ok_number_of : Ok_number_of P w base T) : Ok_read_numbers P w base T := by
  refine T.F_read_numbers.ok sc_read_numbers (fun vs H Q E h => ?_) (fun cdv A outer s H vs Q E hr h => ?_)
  · obtain ⟨G, ns, c, t, tv, rfl, _⟩ := h
    rfl
  · obtain ⟨G, ns, c, t, tv, rfl, gs, n64, hcn, nok, tok, hT, q⟩ := h
    have wl := written_len ns c t nok tok
    refine ⟨_, (pss_cons (ps_if (PW.pt (pw_or (pt_not (pt_val (pe_call ok_is_integer_folds (hr.mono (by decide)) (by rfl) T.g_is_integer_folds T.F_is_integer_folds.kp (b_is_integer_folds T) .nil pass0 (pa_cons (pv 1) pa_nil)))) (pw_or1 (pt_not (pt_chain op_le op_le pe_int (pv 1) (pe_gi T.i_MOST_NUMBERS (by rfl))))))) (pss_one ps_never) pss_nil)
        (pss_cons (ps_expr (pe_call ok_require_coarse (hr.mono (by decide)) (by rfl) T.g_require_coarse T.F_require_coarse.kp (b_require_coarse T) .nil pass0 (pa_cons (pv 2) (pa_cons (pv 1) pa_nil))))
        (pss_cons (ps_if (pt_not (pt_val (pe_call ok_is_tables (hr.mono (by decide)) (by rfl) T.g_is_tables T.F_is_tables.kp (b_is_tables T) .nil pass0 (pa_cons (pv 3) pa_nil)))) (pss_one ps_never) pss_nil)
        (pss_cons (ps_if (PW.pt (pw_or (pt_not (pt_val (pe_callB call_isi (by rfl) T.n_isinstance (by decide +kernel) (pa_cons (pv 0) (pa_cons (pe_bltn (v := .ty "str") (by rfl) T.n_str (by decide +kernel) rfl) pa_nil))))) (pw_or1 (pt_not (pt_val (pe_callB (cr_all rfl) (by rfl) T.n_all (by decide +kernel) (pa_cons (pe_lc (own := [("sign", 11)]) (by rfl) sc_read_numbers.nd (pi_str (pv 0)) (blkOk_by (own := [("sign", 11)]) (N := ["bits", "length", "coarse", "tables", "current", "numbers", "at", "index", "which", "found", "u", "sign"]) (sc := defScope s_read_numbers) (by decide +kernel)) (fun _ _ _ _ _ => (pg_name (i := 11) sc_read_numbers.nd rfl (by first | exact Or.inl rfl | exact Or.inr rfl))) (fun _ _ _ _ _ => pts_nil) (fun _ _ _ _ _ => (pe_cmpR op_inSg (pv 11) pe_str rfl))) pa_nil))))))) (pss_one (ps_ret pe_non)) pss_nil)
        (pss_cons (ps_par3 (i := 4) (j := 5) (l := 6) (by rfl) sc_read_numbers.nd rfl rfl rfl (by decide) (by decide) (by decide) rfl rfl rfl (pa_cons (pe_callTy call_listN (by rfl) T.n_list (by decide +kernel) (pa_cons (pv 3) pa_nil)) (pa_cons (pe_lst pa_nil) (pa_cons pe_int pa_nil))) (by rfl))
        (pss_cons (ps_for PassesOwn.never rfl (pi_range1 (by rfl) T.n_range (pa_cons (pv 1) pa_nil)) (pg_name (i := 7) sc_read_numbers.nd rfl (Or.inl rfl)) (pss_cons (ps_set (i := 8) sc_read_numbers.nd rfl (Or.inl rfl) (pe_ifExp (pt_cmpR op_lt (pv 7) (pv 2) (nomark _)) pe_int pe_int))
        (pss_cons (ps_set (i := 9) sc_read_numbers.nd rfl (Or.inl rfl) (pe_call ok_read_code (hr.mono (by decide)) (by rfl) T.g_read_code T.F_read_code.kp (b_read_code T) .nil pass0 (pa_cons (pv 0) (pa_cons (pv 6) (pa_cons (pe_call ok_parameter (hr.mono (by decide)) (by rfl) T.g_parameter T.F_parameter.kp (b_parameter T) .nil pass0 (pa_cons (pe_ix ix_list (pv 4) (pv 8) (fun _ _ => rfl)) pa_nil)) pa_nil)))))
        (pss_cons (ps_if (pt_cmpR op_isNo (pv 9) pe_non (nomark _)) (pss_one (ps_ret pe_non)) pss_nil)
        (pss_cons (ps_asg (pv 9) (pg_tup rfl (pgs_cons (pg_name (i := 10) sc_read_numbers.nd rfl (Or.inl rfl)) (pgs_cons (pg_name (i := 6) sc_read_numbers.nd rfl (Or.inl rfl)) pgs_nil))))
        (pss_cons (ps_expr (pe_bm PySem.F.plainAttrs_list PySem.F.slot_list_append PySem.F.type_list_append mt_append (pv 5) (pa_cons (pe_call ok_number_of (hr.mono (by decide)) (by rfl) T.g_number_of T.F_number_of.kp (b_number_of T) .nil pass0 (pa_cons (pv 10) pa_nil)) pa_nil)))
        (pss_one (ps_asg (pe_call ok_table_behind (hr.mono (by decide)) (by rfl) T.g_table_behind T.F_table_behind.kp (b_table_behind T) .nil pass0 (pa_cons (pe_ix ix_list (pv 4) (pv 8) (fun _ _ => rfl)) (pa_cons (pv 10) pa_nil))) (pg_sub (pv 4) (pv 8) set_list)))))))))
        (pss_one (ps_ret (pe_ifExp (pt_cmpR op_eq (pv 6) (pe_callB call_lenN (by rfl) T.n_len (by decide +kernel) (pa_cons (pv 0) pa_nil)) (nomark _)) (pe_tup (pa_cons (pv 5) (pa_cons (pe_callTy call_tupleN (by rfl) T.n_tuple (by decide +kernel) (pa_cons (pv 4) pa_nil)) pa_nil))) pe_non))))))))), ?_⟩
    try dsimp only [cxOf, Cx.nox, Cx.wish, Cx.blk]
    walk_at "run"
    refine ⟨_, rfl, ?_⟩
    walk_at "run"
    refine ⟨c, ns.length, rfl, hcn, ?_⟩
    walk_at "run"
    refine ⟨tv, t, rfl, TbsV.mono gs hT, tok, ?_⟩
    walk_at "run"
    refine r_isi (.base (.str _)) kit_str_str ?_
    walk_at "run"
    refine r_kS ?_
    intro Z nz
    refine lc_str (fun i H2 => Same H H2 ∧ H2 Z = some (.lst ((List.replicate i true).map V.bl))) ⟨same_new nz, upd_same⟩ ?_ ?_
    · rintro i cc H2 hcc ⟨s2, hz⟩
      obtain ⟨b, rfl⟩ := tx_sgn hcc
      walk_at "run"
      refine ⟨rfl, ?_⟩
      walk_at "run"
      rw [tx_01]
      refine r_inSg ?_
      have il : i < (tx (written ns c t).1).cps.size := (Array.getElem?_eq_some_iff.mp hcc).1
      have il2 : (tx (written ns c t).1).cps.size = (written ns c t).1.length := tx_len _
      refine ⟨_, hz, szl (by rw [List.length_map, List.length_replicate]; omega), fun b o e => ?_, ?_⟩
      · rw [upd_ne (ne_of_none e nz)]; exact s2 b o e
      · rw [upd_same, List.replicate_succ', List.map_append]; rfl
    rintro H2 ⟨s2, hz⟩
    walk_at "run"
    refine ⟨Z, _, rfl, SqL.of hz, ?_⟩
    rw [show (List.replicate (tx (written ns c t).1).cps.size true).all id = true by rw [List.all_eq_true]; intro x hx; rw [List.eq_of_mem_replicate hx]; rfl]
    walk_at "run"
    obtain ⟨a2, v1, v2, rfl, S2, T1, T2⟩ := hT
    refine r_listT (sm_tup (gs.trans s2) S2) fun cu nc => ?_
    walk_at "run"
    refine ⟨szr rfl, fun p np => ?_⟩
    walk_at "run"
    have nGc : G cu = none := (gs.trans s2).free nc
    have nGp : G p = none := (gs.trans (s2.trans (same_new nc))).free np
    have npc : p ≠ cu := fun z => by rw [z, upd_same] at np; cases np
    have ncH : H cu = none := s2.free nc
    have npH : H p = none := (s2.trans (same_new nc)).free np
    refine r_kR1 (n := ns.length) (by omega) ?_
    refine for_range (lo := 0) (n := ns.length) (fun i σ H1 => ∃ (G1 : Hp) (vs : List V) (x7 x8 x9 x10 : Option V), σ = [some (.str (tx (written ns c t).1)), some (.int ns.length), some (.int c), some (.ref a2), some (.ref cu), some (.ref p), some (.int (written (ns.take i) c t).1.length), x7, x8, x9, x10, none] ∧
      Grow [] G H G1 H1 ∧ G1 p = none ∧ G1 cu = none ∧ H1 cu = some (.lst vs) ∧ CurV K G1 vs (written (ns.take i) c t).2 ∧ H1 p = some (.lst ((ns.take i).map V.int)))
      ⟨G, [v1, v2], none, none, none, none, rfl, (((Grow.pure gs s2)).mut ncH nGc).mut npH nGp, nGp, nGc, by rw [upd_ne (Ne.symm npc)]; exact upd_same, ⟨v1, v2, rfl, T1, T2⟩, upd_same⟩ ?_ ?_
    · rintro i σ H1 hi ⟨G1, vs, x7, x8, x9, x10, rfl, gr, g1, g2, hcv, cv, hp⟩
      obtain ⟨n, hn⟩ : ∃ n, ns[i]? = some n := ⟨_, List.getElem?_eq_getElem hi⟩
      obtain ⟨rest, hrest⟩ := written_pre hn c t
      have u60 := nok.at_ hn
      have cur_ok := written_ok (ns.take i) c t (nok.take i) tok
      rw [written_snoc hn]
      generalize hw : written (ns.take i) c t = wr at *
      walk_at "run"

      have ew : decide ((c : Int) ≤ 0 + (i : Int)) = decide (c ≤ i) := decide_eq_decide.mpr ⟨fun z => by omega, fun z => by omega⟩
      refine r_sel (w := decide (c ≤ i)) ew.symm ?_
      clear ew
      generalize decide (c ≤ i) = w at *
      walk_at "run"
      obtain ⟨sv, hsv, TS⟩ := cv.sel w
      refine r_ixL (SqL.of hcv) hsv ?_
      walk_at "run"
      refine ⟨sv, _, rfl, TbV.mono gr.gh TS, selT_ok cur_ok, ?_⟩
      walk_at "run"
      have hdr : (written ns c t).1.drop wr.1.length = code (codeN n) (par (selT w wr.2)) ++ rest := by rw [hrest, List.drop_left' rfl]
      refine ⟨G1, _, rest, _, codeN n, _, rfl, gr.gh, by omega, hdr, par_16 (selT_ok cur_ok), u60, fun G3 H3 v3 gr3 pv => ?_⟩
      obtain ⟨va, rfl, vS⟩ := pv
      have hc3 := gr3.hs _ _ hcv
      have hp3 := gr3.hs _ _ hp
      have cv3 := cv.mono gr3.gg
      have nc3 := gr3.nw cu (by rw [hcv]; exact fun z => nomatch z) g2
      have np3 := gr3.nw p (by rw [hp]; exact fun z => nomatch z) g1
      have gr4 := gr.trans gr3
      have TS3 := TbV.mono gr3.gg TS
      walk_at "run"
      refine r_isNoR ?_
      walk_at "run"
      refine r_gTup (sm_tup gr4.gh vS) rfl ?_
      walk_at "run"
      refine r_tyL (SqL.of hp3) ?_
      walk_at "run"
      refine ⟨codeN n, rfl, ?_⟩
      rw [numN_codeN]
      walk_at "run"
      refine r_app hp3 (szl (by rw [List.length_map, List.length_take]; omega)) ?_
      walk_at "run"
      have hc4 : upd H3 p (.lst ((ns.take i).map V.int ++ [.int n])) cu = some (.lst vs) := by rw [upd_ne (Ne.symm npc)]; exact hc3
      have gr5 := gr4.mut npH np3 (o := .lst ((ns.take i).map V.int ++ [.int n]))
      refine r_ixL (SqL.of hc4) hsv ?_
      walk_at "run"
      refine ⟨_, sv, _, codeN n, rfl, gr5.gh, TS3, fun G5 H5 v5 gr6 pv5 => ?_⟩
      walk_at "run"
      obtain ⟨ei, cv5⟩ := (cv3.mono gr6.gg).set w pv5
      refine r_setL (gr6.hs _ _ hc4) ei ?_
      walk_at "run"
      have nc5 := gr6.nw cu (by rw [hc4]; exact fun z => nomatch z) nc3
      have np5 := gr6.nw p (by rw [upd_same]; exact fun z => nomatch z) np3
      refine ⟨G5, _, some (.int (0 + (i : Int))), some (.int (if w then 1 else 0)), some (.ref va), some (.int (codeN n)), ?_, (gr5.trans gr6).mut ncH nc5, np5, nc5, upd_same, cv5, ?_⟩
      · rw [show ((wr.1 ++ code (codeN n) (par (selT w wr.2))).length : Int) = ((wr.1.length + (code (codeN n) (par (selT w wr.2))).length : Nat) : Int) by rw [List.length_append]]
        rfl
      · rw [upd_ne npc, gr6.hs _ _ upd_same, List.take_add_one, hn, List.map_append]
        rfl
    · rintro σ H1 ⟨G1, vs, x7, x8, x9, x10, rfl, gr, g1, g2, hcv, cv, hp⟩
      rw [List.take_length] at cv hp
      walk_at "run"
      rw [List.take_length]
      refine r_lenTx (by omega) ?_
      walk_at "run"
      refine r_tupL (SqL.of hcv) fun ua nu => ?_
      obtain ⟨w1, w2, rfl, W1, W2⟩ := cv
      walk_at "run"
      refine ⟨szr rfl, fun ra nr => ?_⟩
      have gr1 := gr.freeze npH g1 hp
      have nu1 : (upd G1 p (.lst (ns.map V.int))) ua = none := gr1.gh.free nu
      have gr2 := gr1.new nu (o := .tup [w1, w2])
      have gr3 := gr2.new nr (o := .tup [.ref p, .ref ua])
      have s0 := same_new g1 (o := .lst (ns.map V.int))
      have sA := same_new nu1 (o := .tup [w1, w2])
      have sB := same_new (gr2.gh.free nr) (o := .tup [.ref p, .ref ua])
      refine q _ _ _ gr3 ⟨ra, p, .ref ua, rfl, SqT.of upd_same, sB _ _ (sA _ _ upd_same), ua, w1, w2, rfl, sm_tup sB (SqT.of upd_same), TbV.mono ((s0.trans sA).trans sB) W1, TbV.mono ((s0.trans sA).trans sB) W2⟩
theorem ok_mark_of {P : Program} {w : World} {base : Heap} {K : PySem.W.Frag} {mg : Str → Option Value} (T : Txt K mg) (ok_require_numbers : Ok_require_numbers P w base T) (ok_code_number : Ok_code_number P w base T) : Ok_mark_of P w base T := by
  refine T.F_mark_of.ok sc_mark_of (fun vs H Q E h => ?_) (fun cdv A outer s H vs Q E hr h => ?_)
  · obtain ⟨v, ns, rfl, _⟩ := h
    rfl
  · obtain ⟨v, ns, rfl, ⟨a, rfl, hL⟩, hn, q⟩ := h
    refine ⟨_, (pss_cons (ps_expr (pe_call ok_require_numbers (hr.mono (by decide)) (by rfl) T.g_require_numbers T.F_require_numbers.kp (b_require_numbers T) .nil pass0 (pa_cons (pv 0) pa_nil)))
        (pss_cons (ps_set (i := 1) sc_mark_of.nd rfl (Or.inl rfl) pe_int)
        (pss_cons (ps_for PassesOwn.never rfl (pi_list (pv 0)) (pg_name (i := 2) sc_mark_of.nd rfl (Or.inl rfl)) (pss_one (ps_set (i := 1) sc_mark_of.nd rfl (Or.inl rfl) (pe_op op_mod (pe_op op_add (pe_op op_mul (pv 1) (pe_gi T.i_MARK_FACTOR (by rfl))) (pe_call ok_code_number (hr.mono (by decide)) (by rfl) T.g_code_number T.F_code_number.kp (b_code_number T) .nil pass0 (pa_cons (pv 2) pa_nil))) (pe_gi T.i_MARK_PRIME (by rfl))))))
        (pss_one (ps_ret (pv 1)))))), ?_⟩
    try dsimp only [cxOf, Cx.nox, Cx.wish, Cx.blk]
    walk_at "go"
    refine ⟨_, ns, rfl, ⟨a, rfl, hL⟩, hn, fun H1 s1 => ?_⟩
    walk_at "go"
    refine r_kL (SqL.of (s1 _ _ hL)) ?_
    refine for_list (K := K) (a := a) (xs := ns.map V.int) (fun i σ H2 => H2 = H1 ∧ ∃ x, σ = [some (.ref a), some (.int (markN (ns.take i))), x]) ⟨rfl, _, rfl⟩ (fun i σ H2 _ ⟨e, _⟩ => by rw [e]; exact SqL.of (s1 _ _ hL)) ?_ ?_
    · rintro i y σ H2 hi ⟨rfl, x, rfl⟩
      obtain ⟨n, hn, rfl⟩ := map_get hi
      walk_at "go"
      refine r_I (.inr (by decide)) ?_
      walk_at "go"
      refine ⟨n, rfl, ?_⟩
      walk_at "go"
      refine r_I (by decide) ?_
      walk_at "go"
      refine ⟨rfl, some (.int n), ?_⟩
      rw [mark_snoc hn, show (((markN (ns.take i) * 31 + codeN n) % 9973 : Nat) : Int) = ((markN (ns.take i) : Int) * 31 + codeN n) % 9973 by omega]
      rfl
    · rintro σ H2 ⟨rfl, x, rfl⟩
      walk_at "go"
      rw [List.length_map, List.take_length]
      exact q _ s1
theorem ok_is_integer_streams {P : Program} {w : World} {base : Heap} {K : PySem.W.Frag} {mg : Str → Option Value} (T : Txt K mg)  : Ok_is_integer_streams P w base T := by
  refine T.F_is_integer_streams.ok sc_is_integer_streams (fun vs H Q E h => ?_) (fun cdv A outer s H vs Q E hr h => ?_)
  · obtain ⟨i, rfl, _⟩ := h
    rfl
  · obtain ⟨i, rfl, q⟩ := h
    refine ⟨_, (pss_one (ps_ret (pe_and (pe_callB call_isi (by rfl) T.n_isinstance (by decide +kernel) (pa_cons (pv 0) (pa_cons (pe_bltn (v := .ty "int") (by rfl) T.n_int (by decide +kernel) rfl) pa_nil))) (pe_one (pe_not (pe_callB call_isi (by rfl) T.n_isinstance (by decide +kernel) (pa_cons (pv 0) (pa_cons (pe_bltn (v := .ty "bool") (by rfl) T.n_bool (by decide +kernel) rfl) pa_nil)))))))), ?_⟩
    try dsimp only [cxOf, Cx.nox, Cx.wish, Cx.blk]
    walk_at "go"
    refine r_isi (.base (.int i)) kit_int_int ?_
    walk_at "go"
    refine r_isi (.base (.int i)) kit_int_bool ?_
    walk_at "go"
    exact q
theorem ok_is_between {P : Program} {w : World} {base : Heap} {K : PySem.W.Frag} {mg : Str → Option Value} (T : Txt K mg) (ok_is_integer_streams : Ok_is_integer_streams P w base T) : Ok_is_between P w base T := by
  refine T.F_is_between.ok sc_is_between (fun vs H Q E h => ?_) (fun cdv A outer s H vs Q E hr h => ?_)
  · obtain ⟨v, lo, hi, rfl, _⟩ := h
    rfl
  · obtain ⟨v, lo, hi, rfl, h1, h2, q⟩ := h
    refine ⟨_, (pss_one (ps_ret (pe_and (pe_call ok_is_integer_streams (hr.mono (by decide)) (by rfl) T.g_is_integer_streams T.F_is_integer_streams.kp (b_is_integer_streams T) .nil pass0 (pa_cons (pv 0) pa_nil)) (pe_one (pe_chain op_le op_le (pv 1) (pv 0) (pv 2)))))), ?_⟩
    try dsimp only [cxOf, Cx.nox, Cx.wish, Cx.blk]
    walk_at "go"
    refine ⟨_, rfl, ?_⟩
    walk_at "go"
    exact bl_eq (decide_eq_true h2) q
theorem ok_is_row {P : Program} {w : World} {base : Heap} {K : PySem.W.Frag} {mg : Str → Option Value} (T : Txt K mg)  : Ok_is_row P w base T := by
  refine T.F_is_row.ok sc_is_row (fun vs H Q E h => ?_) (fun cdv A outer s H vs Q E hr h => ?_)
  · obtain ⟨a, xs, rfl, _⟩ := h
    rfl
  · obtain ⟨a, xs, rfl, hL, q⟩ := h
    refine ⟨_, (pss_one (ps_ret (pe_callB call_isiT (by rfl) T.n_isinstance (by decide +kernel) (pa_cons (pv 0) (pa_cons (pe_tup (pa_cons (pe_bltn (v := .ty "list") (by rfl) T.n_list (by decide +kernel) rfl) (pa_cons (pe_bltn (v := .ty "tuple") (by rfl) T.n_tuple (by decide +kernel) rfl) pa_nil))) pa_nil))))), ?_⟩
    try dsimp only [cxOf, Cx.nox, Cx.wish, Cx.blk]
    walk_at "go"
    refine ⟨szr rfl, fun p np => ?_⟩
    walk_at "go"
    exact r_isiT upd_same (ty_lst (same_new np _ _ hL)) (.inl rfl) (q _ (same_new np))
theorem ok_is_frame {P : Program} {w : World} {base : Heap} {K : PySem.W.Frag} {mg : Str → Option Value} (T : Txt K mg) (ok_is_between : Ok_is_between P w base T) (ok_is_joint : Ok_is_joint P w base T) : Ok_is_frame P w base T := by
  refine T.F_is_frame.ok sc_is_frame (fun vs H Q E h => ?_) (fun cdv A outer s H vs Q E hr h => ?_)
  · obtain ⟨v, hd, ns, t, rfl, _⟩ := h
    rfl
  · obtain ⟨v, hd, ns, t, rfl, ⟨a, u, rfl, hS, hJ⟩, ⟨⟨o1, o2, o3, o4, o5, o6⟩, nl, nok, tok⟩, q⟩ := h
    have wl := written_len ns (coarse hd) t nok tok
    have ml := mark_lt ns
    refine ⟨_, (pss_cons (ps_if (PW.pt (pw_or (pt_cmpR op_ne (pe_callB call_lenN (by rfl) T.n_len (by decide +kernel) (pa_cons (pv 0) pa_nil)) pe_int (nomark _)) (pw_or (pt_not (pt_val (pe_call ok_is_between (hr.mono (by decide)) (by rfl) T.g_is_between T.F_is_between.kp (b_is_between T) .nil pass0 (pa_cons (pe_ix ix_tup (pv 0) pe_int (fun _ _ => rfl)) (pa_cons pe_int (pa_cons (pe_gi T.i_MAX_LENGTH (by rfl)) pa_nil)))))) (pw_or1 (pt_not (pt_val (pe_call ok_is_joint (hr.mono (by decide)) (by rfl) T.g_is_joint T.F_is_joint.kp (b_is_joint T) .nil pass0 (pa_cons (pe_ix ix_tup (pv 0) pe_int (fun _ _ => rfl)) pa_nil)))))))) (pss_one (ps_ret pe_bl)) pss_nil)
        (pss_cons (ps_if (PW.pt (pw_or (pt_not (pt_val (pe_call ok_is_between (hr.mono (by decide)) (by rfl) T.g_is_between T.F_is_between.kp (b_is_between T) .nil pass0 (pa_cons (pe_ix ix_tup (pv 0) pe_int (fun _ _ => rfl)) (pa_cons pe_int (pa_cons (pe_gi T.i_MAX_LEVELS (by rfl)) pa_nil)))))) (pw_or1 (pt_not (pt_val (pe_call ok_is_between (hr.mono (by decide)) (by rfl) T.g_is_between T.F_is_between.kp (b_is_between T) .nil pass0 (pa_cons (pe_ix ix_tup (pv 0) pe_int (fun _ _ => rfl)) (pa_cons pe_int (pa_cons (pe_gi T.i_MAX_STEP (by rfl)) pa_nil))))))))) (pss_one (ps_ret pe_bl)) pss_nil)
        (pss_cons (ps_if (PW.pt (pw_or (pt_not (pt_val (pe_call ok_is_between (hr.mono (by decide)) (by rfl) T.g_is_between T.F_is_between.kp (b_is_between T) .nil pass0 (pa_cons (pe_ix ix_tup (pv 0) pe_int (fun _ _ => rfl)) (pa_cons pe_int (pa_cons (pe_gi T.i_MAX_MARK (by rfl)) pa_nil)))))) (pw_or1 (pt_not (pt_val (pe_callB call_isi (by rfl) T.n_isinstance (by decide +kernel) (pa_cons (pe_ix ix_tup (pv 0) pe_int (fun _ _ => rfl)) (pa_cons (pe_bltn (v := .ty "str") (by rfl) T.n_str (by decide +kernel) rfl) pa_nil)))))))) (pss_one (ps_ret pe_bl)) pss_nil)
        (pss_one (ps_ret (pe_callB (cr_all rfl) (by rfl) T.n_all (by decide +kernel) (pa_cons (pe_lc (own := [("sign", 1)]) (by rfl) sc_is_frame.nd (pi_str (pe_ix ix_tup (pv 0) pe_int (fun _ _ => rfl))) (blkOk_by (own := [("sign", 1)]) (N := ["value", "sign"]) (sc := defScope s_is_frame) (by decide +kernel)) (fun _ _ _ _ _ => (pg_name (i := 1) sc_is_frame.nd rfl (by first | exact Or.inl rfl | exact Or.inr rfl))) (fun _ _ _ _ _ => pts_nil) (fun _ _ _ _ _ => (pe_cmpR op_inSg (pv 1) pe_str rfl))) pa_nil))))))), ?_⟩
    try dsimp only [cxOf, Cx.nox, Cx.wish, Cx.blk]
    walk_at "run"
    refine r_lenT hS ?_
    walk_at "run"
    refine r_ixT hS (at0 (n := 1) rfl) ?_
    walk_at "run"
    refine ⟨_, _, _, rfl, by omega, by omega, ?_⟩
    walk_at "run"
    refine r_ixT hS (at0 (n := 2) rfl) ?_
    walk_at "run"
    refine ⟨u, hd.jt, rfl, hJ, o3, ?_⟩
    walk_at "run"
    refine r_ixT hS (at0 (n := 3) rfl) ?_
    walk_at "run"
    refine ⟨_, _, _, rfl, by omega, by omega, ?_⟩
    walk_at "run"
    refine r_ixT hS (at0 (n := 4) rfl) ?_
    walk_at "run"
    refine ⟨_, _, _, rfl, by omega, by omega, ?_⟩
    walk_at "run"
    refine r_ixT hS (at0 (n := 5) rfl) ?_
    walk_at "run"
    refine ⟨_, _, _, rfl, by omega, by omega, ?_⟩
    walk_at "run"
    refine r_ixT hS (at0 (n := 6) rfl) ?_
    walk_at "run"
    refine r_isi (.base (.str _)) kit_str_str ?_
    walk_at "run"
    refine r_ixT hS (at0 (n := 6) rfl) ?_
    walk_at "run"
    refine r_kS ?_
    intro Z nz
    refine lc_str (fun i H2 => Same H H2 ∧ H2 Z = some (.lst ((List.replicate i true).map V.bl))) ⟨same_new nz, upd_same⟩ ?_ ?_
    · rintro i cc H2 hcc ⟨s2, hz⟩
      obtain ⟨b, rfl⟩ := tx_sgn hcc
      walk_at "run"
      refine ⟨rfl, ?_⟩
      walk_at "run"
      rw [tx_01]
      refine r_inSg ?_
      have il : i < (tx (written ns (coarse hd) t).1).cps.size := (Array.getElem?_eq_some_iff.mp hcc).1
      have il2 : (tx (written ns (coarse hd) t).1).cps.size = (written ns (coarse hd) t).1.length := tx_len _
      refine ⟨_, hz, szl (by rw [List.length_map, List.length_replicate]; omega), fun b o e => ?_, ?_⟩
      · rw [upd_ne (ne_of_none e nz)]; exact s2 b o e
      · rw [upd_same, List.replicate_succ', List.map_append]; rfl
    rintro H2 ⟨s2, hz⟩
    walk_at "run"
    refine ⟨Z, _, rfl, SqL.of hz, ?_⟩
    rw [show (List.replicate (tx (written ns (coarse hd) t).1).cps.size true).all id = true by rw [List.all_eq_true]; intro x hx; rw [List.eq_of_mem_replicate hx]; rfl]
    exact q _ s2
theorem ok_is_record {P : Program} {w : World} {base : Heap} {K : PySem.W.Frag} {mg : Str → Option Value} (T : Txt K mg) (ok_is_frame : Ok_is_frame P w base T) (ok_is_tables : Ok_is_tables P w base T) : Ok_is_record P w base T := by
  refine T.F_is_record.ok sc_is_record (fun vs H Q E h => ?_) (fun cdv A outer s H vs Q E hr h => ?_)
  · obtain ⟨v, r, rfl, _⟩ := h
    rfl
  · obtain ⟨v, r, rfl, hR, ok, q⟩ := h
    refine ⟨_, (pss_cons (ps_if (PW.pt (pw_or (pt_not (pt_val (pe_callB call_isi (by rfl) T.n_isinstance (by decide +kernel) (pa_cons (pv 0) (pa_cons (pe_bltn (v := .ty "tuple") (by rfl) T.n_tuple (by decide +kernel) rfl) pa_nil))))) (pw_or (pt_cmpR (op_eqD hr.units) (pv 0) (pe_tup pa_nil) (nomark _)) (pw_or1 (pt_not (pt_val (pe_callB call_isi (by rfl) T.n_isinstance (by decide +kernel) (pa_cons (pe_ix ix_tup (pv 0) pe_int (fun _ _ => rfl)) (pa_cons (pe_bltn (v := .ty "str") (by rfl) T.n_str (by decide +kernel) rfl) pa_nil))))))))) (pss_one (ps_ret pe_bl)) pss_nil)
        (pss_cons (ps_if (pt_cmpR op_eq (pe_ix ix_tup (pv 0) pe_int (fun _ _ => rfl)) pe_str (nomark _)) (pss_one (ps_ret (pe_and (pe_cmpR op_eq (pe_callB call_lenN (by rfl) T.n_len (by decide +kernel) (pa_cons (pv 0) pa_nil)) pe_int (nomark _)) (pe_one (pe_call ok_is_tables (hr.mono (by decide)) (by rfl) T.g_is_tables T.F_is_tables.kp (b_is_tables T) .nil pass0 (pa_cons (pe_ix ix_tup (pv 0) pe_int (fun _ _ => rfl)) pa_nil)))))) pss_nil)
        (pss_one (ps_ret (pe_and (pe_cmpR op_eq (pe_ix ix_tup (pv 0) pe_int (fun _ _ => rfl)) pe_str (nomark _)) (pe_one (pe_call ok_is_frame (hr.mono (by decide)) (by rfl) T.g_is_frame T.F_is_frame.kp (b_is_frame T) .nil pass0 (pa_cons (pv 0) pa_nil)))))))), ?_⟩
    try dsimp only [cxOf, Cx.nox, Cx.wish, Cx.blk]
    walk_at "run"
    have hR1 := hR
    cases r with
    | st t =>
      obtain ⟨a, u, rfl, hS, hT⟩ := hR1
      refine r_isi (ty_tup hS) kit_tuple_tuple ?_
      walk_at "run"
      refine ⟨szr rfl, fun p np => ?_⟩
      have s1 := same_new np (o := .tup [])
      refine r_eqRecNil (RcV.mono s1 hR) upd_same ?_
      have hS := sm_tup s1 hS
      walk_at "run"
      refine r_ixT hS (at0 (n := 0) rfl) ?_
      walk_at "run"
      refine r_isi (.base (.str _)) kit_str_str ?_
      walk_at "run"
      refine r_ixT hS (at0 (n := 0) rfl) ?_
      walk_at "run"
      refine r_eqS ?_
      walk_at "run"
      refine r_lenT hS ?_
      walk_at "run"
      refine r_ixT hS (at0 (n := 1) rfl) ?_
      walk_at "run"
      exact ⟨u, t, rfl, TbsV.mono s1 hT, ok, q _ s1⟩
    | fr hd ns t =>
      obtain ⟨a, u, rfl, hS, hJ⟩ := hR1
      refine r_isi (ty_tup hS) kit_tuple_tuple ?_
      walk_at "run"
      refine ⟨szr rfl, fun p np => ?_⟩
      have s1 := same_new np (o := .tup [])
      refine r_eqRecNil (RcV.mono s1 hR) upd_same ?_
      have hS := sm_tup s1 hS
      walk_at "run"
      refine r_ixT hS (at0 (n := 0) rfl) ?_
      walk_at "run"
      refine r_isi (.base (.str _)) kit_str_str ?_
      walk_at "run"
      refine r_ixT hS (at0 (n := 0) rfl) ?_
      walk_at "run"
      refine r_eqS ?_
      walk_at "run"
      refine r_no (by decide +kernel) ?_
      walk_at "run"
      refine r_ixT hS (at0 (n := 0) rfl) ?_
      walk_at "run"
      refine r_eqS ?_
      walk_at "run"
      exact ⟨_, hd, ns, t, rfl, RcV.mono s1 hR, ok, fun H2 s2 => q _ (s1.trans s2)⟩
theorem ok_frame_numbers {P : Program} {w : World} {base : Heap} {K : PySem.W.Frag} {mg : Str → Option Value} (T : Txt K mg) (ok_read_numbers : Ok_read_numbers P w base T) (ok_coarse_count : Ok_coarse_count P w base T) (ok_mark_of : Ok_mark_of P w base T) : Ok_frame_numbers P w base T := by
  refine T.F_frame_numbers.ok sc_frame_numbers (fun vs H Q E h => ?_) (fun cdv A outer s H vs Q E hr h => ?_)
  · obtain ⟨G, v, tv, hd, ns, t, rfl, _⟩ := h
    rfl
  · obtain ⟨G, v, tv, hd, ns, t, rfl, gs, hR, ⟨⟨o1, o2, o3, o4, o5, o6⟩, nl, nok, tok⟩, hT, q⟩ := h
    obtain ⟨a, u, rfl, hS, hJ⟩ := RcV.mono gs hR
    refine ⟨_, (pss_cons (ps_par (i := 2) (j := 3) (by rfl) sc_frame_numbers.nd rfl rfl (by decide) rfl rfl (pa_cons (pe_ix ix_tup (pv 0) pe_int (fun _ _ => rfl)) (pa_cons (pe_ix ix_tup (pv 0) pe_int (fun _ _ => rfl)) pa_nil)) (by rfl))
        (pss_cons (ps_set (i := 4) sc_frame_numbers.nd rfl (Or.inl rfl) (pe_call ok_read_numbers (hr.mono (by decide)) (by rfl) T.g_read_numbers T.F_read_numbers.kp (b_read_numbers T) .nil pass0 (pa_cons (pe_ix ix_tup (pv 0) pe_int (fun _ _ => rfl)) (pa_cons (pv 2) (pa_cons (pe_call ok_coarse_count (hr.mono (by decide)) (by rfl) T.g_coarse_count T.F_coarse_count.kp (b_coarse_count T) .nil pass0 (pa_cons (pv 2) (pa_cons (pv 3) pa_nil))) (pa_cons (pv 1) pa_nil))))))
        (pss_cons (ps_if (PW.pt (pw_or (pt_cmpR op_isNo (pv 4) pe_non (nomark _)) (pw_or1 (pt_cmpR op_ne (pe_call ok_mark_of (hr.mono (by decide)) (by rfl) T.g_mark_of T.F_mark_of.kp (b_mark_of T) .nil pass0 (pa_cons (pe_ix ix_tup (pv 4) pe_int (fun _ _ => rfl)) pa_nil)) (pe_ix ix_tup (pv 0) pe_int (fun _ _ => rfl)) (nomark _))))) (pss_one (ps_ret pe_non)) pss_nil)
        (pss_one (ps_ret (pv 4)))))), ?_⟩
    try dsimp only [cxOf, Cx.nox, Cx.wish, Cx.blk]
    walk_at "run"
    refine r_ixT hS (at0 (n := 1) rfl) ?_
    walk_at "run"
    refine r_ixT hS (at0 (n := 3) rfl) ?_
    walk_at "run"
    refine r_ixT hS (at0 (n := 6) rfl) ?_
    walk_at "run"
    refine ⟨hd.len, hd.lev, rfl, o1, o2, o4, fun H1 s1 => ?_⟩
    walk_at "run"
    refine ⟨G, ns, hv hd.len hd.lev, t, tv, by rw [nl]; rfl, gs.trans s1, by omega, by rw [nl]; exact hv_le _ _, nok, tok, hT, fun G2 H2 v2 gr2 pv => ?_⟩
    obtain ⟨ra, b, uu, rfl, rS, rb, rT⟩ := pv
    have rS2 := sm_tup gr2.gh rS
    walk_at "run"
    refine r_isNoR ?_
    walk_at "run"
    refine r_ixT rS2 (at0 (n := 0) rfl) ?_
    walk_at "run"
    refine ⟨_, ns, rfl, ⟨b, rfl, gr2.gh _ _ rb⟩, by omega, fun H3 s3 => ?_⟩
    walk_at "run"
    have s13 := (s1.trans gr2.hs).trans s3
    refine r_ixT (sm_tup s13 hS) (at0 (n := 5) rfl) ?_
    walk_at "run"
    exact q _ _ _ (((Grow.pure gs s1).trans gr2).trans (Grow.pure gr2.gh s3)) ⟨ra, b, uu, rfl, rS, rb, rT⟩
theorem ok_block_values {P : Program} {w : World} {base : Heap} {K : PySem.W.Frag} {mg : Str → Option Value} (T : Txt K mg) (ok_join_levels : Ok_join_levels P w base T) : Ok_block_values P w base T := by
  refine T.F_block_values.ok sc_block_values (fun vs H Q E h => ?_) (fun cdv A outer s H vs Q E hr h => ?_)
  · obtain ⟨G, v, nv, hd, ns, t, rfl, _⟩ := h
    rfl
  · obtain ⟨G, v, nv, hd, ns, t, rfl, gs, hR, ⟨⟨o1, o2, o3, o4, o5, o6⟩, nl, nok, tok⟩, hN, q⟩ := h
    obtain ⟨a, u, rfl, hS, hJ⟩ := RcV.mono gs hR
    obtain ⟨b, rfl, hb⟩ := hN
    refine ⟨_, (pss_one (ps_ret (pe_call ok_join_levels (hr.mono (by decide)) (by rfl) T.g_join_levels T.F_join_levels.kp (b_join_levels T) .nil pass0 (pa_cons (pe_lc (own := [("number", 2)]) (by rfl) sc_block_values.nd (pi_list (pv 1)) (blkOk_by (own := [("number", 2)]) (N := ["record", "numbers", "number"]) (sc := defScope s_block_values) (by decide +kernel)) (fun _ _ _ _ _ => (pg_name (i := 2) sc_block_values.nd rfl (by first | exact Or.inl rfl | exact Or.inr rfl))) (fun _ _ _ _ _ => pts_nil) (fun _ _ _ _ _ => (pe_op op_mul (pv 2) (pe_ix (show IxR _ (rIxT K) from ix_tup) (pv 0) pe_int (fun _ _ => rfl))))) (pa_cons (pe_ix ix_tup (pv 0) pe_int (fun _ _ => rfl)) pa_nil))))), ?_⟩
    try dsimp only [cxOf, Cx.nox, Cx.wish, Cx.blk]
    walk_at "run"
    refine r_kL (SqL.of (gs _ _ hb)) ?_
    intro Z nz
    have nG := gs.free nz
    refine lc_list (K := K) (a := b) (xs := ns.map V.int) (fun i H2 => Grow [] G H G H2 ∧ H2 Z = some (.lst (((ns.take i).map fun n => n * (hd.step : Int)).map V.int))) ⟨(Grow.refl gs).mut nz nG, upd_same⟩ (fun i H2 _ ⟨gr, _⟩ => SqL.of (gr.gh _ _ hb)) ?_ ?_
    · rintro i y H2 hi ⟨gr, hz⟩
      obtain ⟨n, hn, rfl⟩ := map_get hi
      have il := (List.getElem?_eq_some_iff.mp hn).1
      walk_at "run"
      refine ⟨rfl, ?_⟩
      walk_at "run"
      refine r_ixT (sm_tup gr.hs hS) (at0 (n := 4) rfl) ?_
      walk_at "run"
      have p64 : (2 : Int) ^ 64 = 18446744073709551616 := by decide
      refine r_I (.inr (by omega)) ?_
      refine ⟨_, hz, szl (by rw [List.length_map, List.length_map, List.length_take]; omega), gr.mut nz nG, ?_⟩
      rw [upd_same, List.take_add_one, hn, List.map_append, List.map_append]
      rfl
    · rintro H2 ⟨gr, hz⟩
      rw [List.length_map, List.take_length] at hz
      walk_at "run"
      refine r_ixT (sm_tup gr.hs hS) (at0 (n := 3) rfl) ?_
      walk_at "run"
      have g2 := gr.freeze nz nG hz
      refine ⟨_, .ref Z, _, hd.lev, rfl, g2.gh, ⟨Z, rfl, upd_same⟩, by rw [List.length_map]; omega, by rw [List.length_map]; omega, o4, fun G3 H3 v3 gr3 pv => ?_⟩
      exact q _ _ _ (g2.trans gr3) pv
theorem ok_unfold_blocks {P : Program} {w : World} {base : Heap} {K : PySem.W.Frag} {mg : Str → Option Value} (T : Txt K mg) (ok_unfolded : Ok_unfolded P w base T) : Ok_unfold_blocks P w base T := by
  refine T.F_unfold_blocks.ok sc_unfold_blocks (fun vs H Q E h => ?_) (fun cdv A outer s H vs Q E hr h => ?_)
  · obtain ⟨G, bv, jv, bls, js, rfl, _⟩ := h
    rfl
  · obtain ⟨G, bv, jv, bls, js, rfl, gs, ⟨ba, bvs, rfl, hB, aB⟩, ⟨ja, jvs, rfl, hJ, aJ⟩, len, l1000, lfl, hf, q⟩ := h
    refine ⟨_, (pss_cons (ps_set (i := 2) sc_unfold_blocks.nd rfl (Or.inl rfl) (pe_lst pa_nil))
        (pss_cons (ps_set (i := 3) sc_unfold_blocks.nd rfl (Or.inl rfl) (pe_lst pa_nil))
        (pss_cons (ps_for PassesOwn.never rfl (pi_zip (by rfl) T.n_zip (pa_cons (pv 0) (pa_cons (pv 1) pa_nil))) (pg_tup rfl (pgs_cons (pg_name (i := 4) sc_unfold_blocks.nd rfl (Or.inl rfl)) (pgs_cons (pg_name (i := 5) sc_unfold_blocks.nd rfl (Or.inl rfl)) pgs_nil))) (pss_cons (ps_expr (pe_bm PySem.F.plainAttrs_list PySem.F.slot_list_extend PySem.F.type_list_extend mt_extend (pv 2) (pa_cons (pv 4) pa_nil)))
        (pss_one (ps_if (pt_cmpR (op_neD hr.units) (pv 5) (pe_glob (v := .ref (He.ga K "HARD")) (by rfl) T.g_HARD rfl) (nomark _)) (pss_one (ps_expr (pe_bm PySem.F.plainAttrs_list PySem.F.slot_list_append PySem.F.type_list_append mt_append (pv 3) (pa_cons (pe_tup (pa_cons (pe_callB call_lenN (by rfl) T.n_len (by decide +kernel) (pa_cons (pv 2) pa_nil)) (pa_cons (pv 5) pa_nil))) pa_nil)))) pss_nil))))
        (pss_one (ps_ret (pe_call ok_unfolded (hr.mono (by decide)) (by rfl) T.g_unfolded T.F_unfolded.kp (b_unfolded T) .nil pass0 (pa_cons (pv 2) (pa_cons (pv 3) pa_nil)))))))), ?_⟩
    try dsimp only [cxOf, Cx.nox, Cx.wish, Cx.blk]
    walk_at "run"
    refine ⟨szr rfl, fun p np => ?_⟩
    walk_at "run"
    refine ⟨szr rfl, fun p2 np2 => ?_⟩
    walk_at "run"
    have s2 := (same_new (o := .lst []) np).trans (same_new (o := .lst []) np2)
    have n12 : p2 ≠ p := fun z => by rw [z, upd_same] at np2; cases np2
    have np2H : H p2 = none := by rw [upd_ne n12] at np2; exact np2
    have nG : G p = none := gs.free np
    have nG2 : G p2 = none := gs.free np2H
    have mn : min bvs.length jvs.length = bls.length := by rw [aB.len, aJ.len]; omega
    refine r_kZ (SqL.of (s2 _ _ (gs _ _ hB))) (SqL.of (s2 _ _ (gs _ _ hJ))) ?_
    refine for_zip (K := K) (n := bls.length) mn.symm (fun i σ H1 => ∃ (G1 : Hp) (vs : List V) (x4 x5 : Option V), σ = [some (.ref ba), some (.ref ja), some (.ref p), some (.ref p2), x4, x5] ∧
      Grow [] G H G1 H1 ∧ G1 p = none ∧ G1 p2 = none ∧ H1 p = some (.lst (((bls.take i).flatten).map V.int)) ∧ H1 p2 = some (.lst vs) ∧ All2 (PlV K G1) vs (placesGo 0 (bls.take i) (js.take i)) ∧ vs.length ≤ i)
      ⟨G, [], none, none, rfl, ((Grow.refl gs).mut np nG).mut np2H nG2, nG, nG2, by rw [upd_ne (Ne.symm n12)]; exact upd_same, upd_same, by rw [List.take_zero, List.take_zero]; exact All2.nil, Nat.le_refl _⟩
      (fun i σ H1 _ ⟨G1, _, _, _, _, gr, _⟩ => ⟨SqL.of (gr.hs _ _ (gs _ _ hB)), SqL.of (gr.hs _ _ (gs _ _ hJ))⟩) ?_ ?_
    · rintro i x y t σ H1 hx hy nt ⟨G1, vs, x4, x5, rfl, gr, g1, g2, hp, hp2, aP, vl⟩
      obtain ⟨b, hb, bb, rfl, Lb⟩ := aB.get hx
      obtain ⟨j, hj, jV⟩ := aJ.get hy
      have il := (List.getElem?_eq_some_iff.mp hb).1
      rw [placesGo_snoc bls js 0 i b j hb hj, flat_snoc hb]
      have fl := flat_le (bls := bls) (i + 1)
      rw [flat_snoc hb, List.length_append] at fl
      have gr1 := gr.new nt (o := .tup [.ref bb, y])
      have hp1 := same_new nt (o := .tup [.ref bb, y]) _ _ hp
      have hp21 := same_new nt (o := .tup [.ref bb, y]) _ _ hp2
      have k1 := kn (u := .tup [.ref bb, y]) hp nt g1
      have k2 := kn (u := .tup [.ref bb, y]) hp2 nt g2
      have sG := same_new (o := .tup [.ref bb, y]) (gr.gh.free nt)
      refine r_gTup (SqT.of upd_same) rfl ?_
      walk_at "run"
      refine r_tyL (SqL.of hp1) ?_
      walk_at "run"
      refine r_ext hp1 (gr1.gh _ _ (gr1.gg _ _ Lb)) (sz (by rw [List.length_map, List.length_map]; omega)) ?_
      walk_at "run"
      have gr2 := gr1.mut np k1 (o := .lst (((bls.take i).flatten).map V.int ++ b.map V.int))
      refine r_neP (JtV.mono (gr1.gg.trans gr2.gh) jV) ⟨_, rfl, T.t_HARD _⟩ (j := (0, 0)) ?_
      have hp22 : upd (upd H1 t (.tup [.ref bb, y])) p (.lst (((bls.take i).flatten).map V.int ++ b.map V.int)) p2 = some (.lst vs) := by rw [upd_ne n12]; exact hp21
      walk_at "run"
      refine r_decN (fun hne => ?_) (fun he => ?_)
      · walk_at "run"
        refine r_tyL (SqL.of hp22) ?_
        walk_at "run"
        refine r_lenL (SqL.of upd_same) ?_
        walk_at "run"
        refine ⟨szr rfl, fun ta na => ?_⟩
        walk_at "run"
        have gr3 := gr2.new na (o := .tup [.int ((((bls.take i).flatten).map V.int ++ b.map V.int).length : Nat), y])
        have k12 : (upd (upd G1 t (.tup [.ref bb, y])) ta (.tup [.int ((((bls.take i).flatten).map V.int ++ b.map V.int).length : Nat), y])) p = none := kn upd_same na k1
        have k22 := kn (u := .tup [.int ((((bls.take i).flatten).map V.int ++ b.map V.int).length : Nat), y]) hp22 na k2
        have sG3 := same_new (o := .tup [.int ((((bls.take i).flatten).map V.int ++ b.map V.int).length : Nat), y]) (gr2.gh.free na)
        refine r_app (same_new na _ _ hp22) (szl (by omega)) ?_
        walk_at "run"
        refine ⟨_, _, _, _, rfl, gr3.mut np2H k22, k12, k22, ?_, upd_same, ?_, by rw [List.length_append]; exact Nat.succ_le_succ vl⟩
        · rw [upd_ne (Ne.symm n12), same_new na _ _ upd_same, List.map_append]
        · rw [if_neg hne]
          refine (aP.imp fun v d z => PlV.mono (sG.trans sG3) z).snoc ⟨ta, y, rfl, ?_, JtV.mono (gr1.gg.trans sG3) jV⟩
          rw [Nat.zero_add, show ((bls.take i).flatten ++ b).length = (((bls.take i).flatten).map V.int ++ b.map V.int).length by rw [List.length_append, List.length_append, List.length_map, List.length_map]]
          exact SqT.of upd_same
      · walk_at "run"
        refine ⟨_, _, _, _, rfl, gr2, k1, k2, ?_, hp22, ?_, by omega⟩
        · rw [upd_same, List.map_append]
        · rw [if_pos he, List.append_nil]
          exact aP.imp fun v d z => PlV.mono sG z
    · rintro σ H1 ⟨G1, vs, x4, x5, rfl, gr, g1, g2, hp, hp2, aP, vl⟩
      rw [List.take_length] at hp
      rw [List.take_length, len, List.take_length] at aP
      walk_at "run"
      have grA := gr.freeze np g1 hp
      have g2A : (upd G1 p (.lst (bls.flatten.map V.int))) p2 = none := by rw [upd_ne n12]; exact g2
      have grB := grA.freeze np2H g2A hp2
      have sA := same_new (o := .lst (bls.flatten.map V.int)) g1
      have sB := same_new (o := .lst vs) g2A
      refine ⟨_, .ref p, .ref p2, bls.flatten, placesGo 0 bls js, rfl, grB.gh, ⟨p, rfl, sB _ _ upd_same⟩, ⟨p2, vs, rfl, upd_same, aP.imp fun v d z => PlV.mono (sA.trans sB) z⟩, hf, fun G3 H3 v3 gr3 pv => ?_⟩
      exact q _ _ _ (grB.trans gr3) pv
theorem ok_Stream_load {P : Program} {w : World} {base : Heap} {K : PySem.W.Frag} {mg : Str → Option Value} (T : Txt K mg) (ok_frame_numbers : Ok_frame_numbers P w base T) : Ok_Stream_load P w base T := by
  refine T.F_Stream_load.ok sc_Stream_load (fun vs H Q E h => ?_) (fun cdv A outer s H vs Q E hr h => ?_)
  · obtain ⟨G, x, dx, r, w, e, rs, rfl, _⟩ := h
    rfl
  · obtain ⟨G, x, dx, r, w, e, rs, rfl, gs, hx, hw, he, nw, ne, hwe, ⟨ra, rvs, e0, hr1, aR⟩, good, l100, q⟩ := h
    obtain rfl : r = ra := V.ref.inj e0
    have xw : x ≠ w := fun z => by rw [z, hw] at hx; cases hx
    have xe : x ≠ e := fun z => by rw [z, he] at hx; cases hx
    have xM : x ∉ [w, e] := by simp [xw, xe]
    refine ⟨_, (pss_cons (ps_set (i := 1) sc_Stream_load.nd rfl (Or.inl rfl) (pe_glob (v := .ref (He.ga K "START")) (by rfl) T.g_START rfl))
        (pss_cons (ps_set (i := 2) sc_Stream_load.nd rfl (Or.inl rfl) pe_int)
        (pss_cons (ps_set (i := 3) sc_Stream_load.nd rfl (Or.inl rfl) (pe_glob (v := .ref (He.ga K "HARD")) (by rfl) T.g_HARD rfl))
        (pss_cons (ps_for PassesOwn.never rfl (pi_enum (by rfl) T.n_enumerate (pa_cons (pe_fld (pv 0) rfl) pa_nil)) (pg_tup rfl (pgs_cons (pg_name (i := 4) sc_Stream_load.nd rfl (Or.inl rfl)) (pgs_cons (pg_name (i := 5) sc_Stream_load.nd rfl (Or.inl rfl)) pgs_nil))) (pss_cons (ps_if (pt_cmpR op_eq (pe_ix ix_tup (pv 5) pe_int (fun _ _ => rfl)) pe_str (nomark _)) (pss_cons (ps_set (i := 1) sc_Stream_load.nd rfl (Or.inl rfl) (pe_ix ix_tup (pv 5) pe_int (fun _ _ => rfl)))
        (pss_one ps_continue)) pss_nil)
        (pss_cons (ps_set (i := 6) sc_Stream_load.nd rfl (Or.inl rfl) (pe_call ok_frame_numbers (hr.mono (by decide)) (by rfl) T.g_frame_numbers T.F_frame_numbers.kp (b_frame_numbers T) .nil pass0 (pa_cons (pv 5) (pa_cons (pv 1) pa_nil))))
        (pss_cons (ps_if (PW.pt (pw_or (pt_cmpR op_gt (pe_op op_add (pe_ix ix_tup (pv 3) pe_int (fun _ _ => rfl)) (pe_ix ix_tup (pe_ix ix_tup (pv 5) pe_int (fun _ _ => rfl)) pe_int (fun _ _ => rfl))) (pe_ix ix_tup (pv 5) pe_int (fun _ _ => rfl)) (nomark _)) (pw_or1 (pt_cmpR op_isNo (pv 6) pe_non (nomark _))))) (pss_one ps_never) pss_nil)
        (pss_cons (ps_expr (pe_bm PySem.F.plainAttrs_list PySem.F.slot_list_append PySem.F.type_list_append mt_append (pe_fld (pv 0) rfl) (pa_cons (pe_tup (pa_cons (pv 4) (pa_cons (pv 2) (pa_cons (pe_ix ix_tup (pv 5) pe_int (fun _ _ => rfl)) (pa_cons (pv 3) (pa_cons (pe_ix ix_tup (pv 5) pe_int (fun _ _ => rfl)) pa_nil)))))) pa_nil)))
        (pss_cons (ps_expr (pe_bm PySem.F.plainAttrs_list PySem.F.slot_list_append PySem.F.type_list_append mt_append (pe_fld (pv 0) rfl) (pa_cons (pe_tup (pa_cons (pe_ix ix_tup (pv 6) pe_int (fun _ _ => rfl)) (pa_cons (pv 1) (pa_cons (pe_ix ix_tup (pv 6) pe_int (fun _ _ => rfl)) pa_nil)))) pa_nil)))
        (pss_cons (ps_set (i := 1) sc_Stream_load.nd rfl (Or.inl rfl) (pe_ix ix_tup (pv 6) pe_int (fun _ _ => rfl)))
        (pss_cons (ps_set (i := 3) sc_Stream_load.nd rfl (Or.inl rfl) (pe_ix ix_tup (pv 5) pe_int (fun _ _ => rfl)))
        (pss_one (ps_aug (i := 2) sc_Stream_load.nd rfl (Or.inl rfl) (pe_ix ix_tup (pv 5) pe_int (fun _ _ => rfl)) iop_add))))))))))
        (pss_one (ps_if (pt_cmpR (op_neD hr.units) (pv 3) (pe_glob (v := .ref (He.ga K "HARD")) (by rfl) T.g_HARD rfl) (nomark _)) (pss_one ps_never) pss_nil)))))), ?_⟩
    try dsimp only [cxOf, Cx.nox, Cx.wish, Cx.blk]
    walk_at "run"
    refine r_fldR hx T.cls T.a_own_records rfl ?_
    walk_at "run"
    refine r_kE (SqL.of (gs _ _ hr1)) ?_
    refine for_enum (K := K) (a := r) (xs := rvs) (fun i σ H1 => ∃ (G1 : Hp) (tv lv : V) (vw ve : List V) (x4 x5 x6 : Option V), σ = [some (.ref x), some tv, some (.int (aft (rs.take i)).st), some lv, x4, x5, x6] ∧
      Grow [w, e] G H G1 H1 ∧ G1 w = none ∧ G1 e = none ∧ TbsV K G1 tv (aft (rs.take i)).cur ∧ JtV K G1 lv (aft (rs.take i)).left ∧ H1 w = some (.lst vw) ∧ All2 (RwV K G1) vw (ixs (rs.take i)) ∧ H1 e = some (.lst ve) ∧ All2 (ReV K G1) ve (frsOf (rs.take i)))
      ⟨G, _, _, [], [], none, none, none, rfl, Grow.refl gs, nw, ne, ⟨_, _, _, rfl, T.t_START _, ⟨_, rfl, T.t_START0 _⟩, ⟨_, rfl, T.t_START1 _⟩⟩, ⟨_, rfl, T.t_HARD _⟩, hw, All2.nil, he, All2.nil⟩
      (fun i σ H1 _ ⟨G1, _, _, _, _, _, _, _, _, gr, _⟩ => SqL.of (gr.gh _ _ (gr.gg _ _ hr1))) ?_ ?_
    · rintro i y t σ H1 hi nt ⟨G1, tv, lv, vw, ve, x4, x5, x6, rfl, gr, g1, g2, hT, hJ, hw1, aW, he1, aE⟩
      obtain ⟨rc, hrc, hRV⟩ := aR.get hi
      have il := (List.getElem?_eq_some_iff.mp hrc).1
      obtain ⟨rok, rfr⟩ := good_at rs s0 i rc good hrc
      rw [aft_snoc hrc, ixs_snoc hrc, frs_snoc hrc]
      have ap := aft_pos' (rs := rs) (i := i) (by omega)
      have il1 := ixs_le rs i
      have il2 := frs_le rs i
      have wl1 := aW.len
      have wl2 := aE.len
      rw [show List.foldl stepS s0 (rs.take i) = aft (rs.take i) from rfl] at rfr
      generalize aft (rs.take i) = sx at *
      have gr1 := gr.new nt (o := .tup [.int (i : Nat), y])
      have sG := same_new (o := .tup [.int (i : Nat), y]) (gr.gh.free nt)
      have hw11 := same_new nt (o := .tup [.int (i : Nat), y]) _ _ hw1
      have he11 := same_new nt (o := .tup [.int (i : Nat), y]) _ _ he1
      have k1 := kn (u := .tup [.int (i : Nat), y]) hw1 nt g1
      have k2 := kn (u := .tup [.int (i : Nat), y]) he1 nt g2
      have hT := TbsV.mono sG hT
      have hJ := JtV.mono sG hJ
      have aW := aW.imp fun v d z => RwV.mono sG z
      have aE := aE.imp fun v d z => ReV.mono sG z
      refine r_gTup (SqT.of upd_same) rfl ?_
      generalize upd G1 t (.tup [.int (i : Nat), y]) = G2 at *
      generalize upd H1 t (.tup [.int (i : Nat), y]) = H2 at *
      have hRV2 := RcV.mono gr1.gg hRV
      walk_at "run"
      cases rc with
      | st t =>
        obtain ⟨a, u, rfl, hS, hT'⟩ := hRV2
        have hS2 := sm_tup gr1.gh hS
        refine r_ixT hS2 (at0 (n := 0) rfl) ?_
        walk_at "run"
        refine r_eqS ?_
        walk_at "run"
        refine r_ixT hS2 (at0 (n := 1) rfl) ?_
        walk_at "run"
        refine ⟨G2, u, lv, vw, ve, _, _, _, rfl, gr1, k1, k2, hT', hJ, hw11, ?_, he11, ?_⟩
        · rw [show ixOf sx (.st t) = [] from rfl, List.append_nil]; exact aW
        · rw [show frOf (.st t) = [] from rfl, List.append_nil]; exact aE
      | fr hd ns t =>
        obtain ⟨tcur, lok⟩ := rfr hd ns t rfl
        rw [← tcur] at hT
        have hRV3 := hRV2
        obtain ⟨a, u, rfl, hS, hJ'⟩ := hRV2
        have hS2 := sm_tup gr1.gh hS
        refine r_ixT hS2 (at0 (n := 0) rfl) ?_
        walk_at "run"
        refine r_eqS ?_
        walk_at "run"
        refine r_no (by decide +kernel) ?_
        walk_at "run"
        refine ⟨G2, .ref a, tv, hd, ns, t, rfl, gr1.gh, hRV3, rok, hT, fun G3 H3 v3 gr3 pv => ?_⟩
        walk_at "run"
        have gr4 := gr1.trans (gr3.mono (fun b z => by cases z))
        have hS3 := sm_tup (gr3.gg.trans gr3.gh) hS
        obtain ⟨la, rfl, lS⟩ := id hJ
        obtain ⟨ja, rfl, jS⟩ := id hJ'
        have s3 := gr3.gg.trans gr3.gh
        refine r_ixT (sm_tup s3 lS) (at0 (n := 0) rfl) ?_
        walk_at "run"
        refine r_ixT hS3 (at0 (n := 2) rfl) ?_
        walk_at "run"
        refine r_ixT (sm_tup s3 jS) (at0 (n := 0) rfl) ?_
        walk_at "run"
        refine r_ixT hS3 (at0 (n := 1) rfl) ?_
        walk_at "run"
        obtain ⟨fa, fb, fu, rfl, fS, fL, fT⟩ := pv
        refine r_isNoR ?_
        walk_at "run"
        have hx3 := gr4.hh x _ xM hx
        have hw3 := gr3.hs _ _ hw11
        have he3 := gr3.hs _ _ he11
        have w3 := gr3.nw w (by rw [hw11]; exact fun z => nomatch z) k1
        have e3 := gr3.nw e (by rw [he11]; exact fun z => nomatch z) k2
        refine r_fldR hx3 T.cls T.a_rows rfl ?_
        refine r_tyL (SqL.of hw3) ?_
        walk_at "run"
        refine r_ixT hS3 (at0 (n := 1) rfl) ?_
        walk_at "run"
        refine r_ixT hS3 (at0 (n := 2) rfl) ?_
        walk_at "run"
        refine ⟨szr rfl, fun ta na => ?_⟩
        walk_at "run"
        have mw : w ∈ [w, e] := by simp
        have me : e ∈ [w, e] := by simp
        have gr5 := gr4.new na (o := .tup [.int (i : Nat), .int sx.st, .int hd.len, .ref la, .ref ja])
        have hw5 := same_new na (o := .tup [.int (i : Nat), .int sx.st, .int hd.len, .ref la, .ref ja]) _ _ hw3
        have he5 := same_new na (o := .tup [.int (i : Nat), .int sx.st, .int hd.len, .ref la, .ref ja]) _ _ he3
        have w5 := kn (u := .tup [.int (i : Nat), .int sx.st, .int hd.len, .ref la, .ref ja]) hw3 na w3
        have e5 := kn (u := .tup [.int (i : Nat), .int sx.st, .int hd.len, .ref la, .ref ja]) he3 na e3
        have sG5 := same_new (o := .tup [.int (i : Nat), .int sx.st, .int hd.len, .ref la, .ref ja]) (gr4.gh.free na)
        have new5 : upd G3 ta (.tup [.int (i : Nat), .int sx.st, .int hd.len, .ref la, .ref ja]) ta = some (.tup [.int (i : Nat), .int sx.st, .int hd.len, .ref la, .ref ja]) := upd_same
        generalize upd G3 ta (.tup [.int (i : Nat), .int sx.st, .int hd.len, .ref la, .ref ja]) = G5 at *
        generalize upd H3 ta (.tup [.int (i : Nat), .int sx.st, .int hd.len, .ref la, .ref ja]) = H5 at *
        refine r_app hw5 (szl (by omega)) ?_
        walk_at "run"
        have gr6 := gr5.mutM mw w5 (o := .lst (vw ++ [.ref ta]))
        have hw6 : upd H5 w (.lst (vw ++ [.ref ta])) w = some (.lst (vw ++ [.ref ta])) := upd_same
        have he6 : upd H5 w (.lst (vw ++ [.ref ta])) e = some (.lst ve) := by rw [upd_ne (Ne.symm hwe)]; exact he5
        generalize upd H5 w (.lst (vw ++ [.ref ta])) = H6 at *
        have hx6 := gr6.hh x _ xM hx
        refine r_fldR hx6 T.cls T.a_read rfl ?_
        refine r_tyL (SqL.of he6) ?_
        walk_at "run"
        have fS6 := sm_tup (sG5.trans gr6.gh) fS
        refine r_ixT fS6 (at0 (n := 0) rfl) ?_
        walk_at "run"
        refine r_ixT fS6 (at0 (n := 1) rfl) ?_
        walk_at "run"
        refine ⟨szr rfl, fun tb nb => ?_⟩
        walk_at "run"
        have gr7 := gr6.new nb (o := .tup [.ref fb, tv, fu])
        have hw7 := same_new nb (o := .tup [.ref fb, tv, fu]) _ _ hw6
        have he7 := same_new nb (o := .tup [.ref fb, tv, fu]) _ _ he6
        have w7 := kn (u := .tup [.ref fb, tv, fu]) hw6 nb w5
        have e7 := kn (u := .tup [.ref fb, tv, fu]) he6 nb e5
        have sG7 := same_new (o := .tup [.ref fb, tv, fu]) (gr6.gh.free nb)
        have new7 : upd G5 tb (.tup [.ref fb, tv, fu]) tb = some (.tup [.ref fb, tv, fu]) := upd_same
        generalize upd G5 tb (.tup [.ref fb, tv, fu]) = G7 at *
        generalize upd H6 tb (.tup [.ref fb, tv, fu]) = H7 at *
        refine r_app he7 (szl (by omega)) ?_
        walk_at "run"
        have gr8 := gr7.mutM me e7 (o := .lst (ve ++ [.ref tb]))
        have hw8 : upd H7 e (.lst (ve ++ [.ref tb])) w = some (.lst (vw ++ [.ref ta])) := by rw [upd_ne hwe]; exact hw7
        have he8 : upd H7 e (.lst (ve ++ [.ref tb])) e = some (.lst (ve ++ [.ref tb])) := upd_same
        generalize upd H7 e (.lst (ve ++ [.ref tb])) = H8 at *
        have sA := (gr3.gg.trans sG5).trans sG7
        refine r_ixT (sm_tup ((sG5.trans sG7).trans gr8.gh) fS) (at0 (n := 1) rfl) ?_
        walk_at "run"
        have hS8 := sm_tup (sA.trans gr8.gh) hS
        refine r_ixT hS8 (at0 (n := 2) rfl) ?_
        walk_at "run"
        refine r_ixT hS8 (at0 (n := 1) rfl) ?_
        walk_at "run"
        have sB := sG5.trans sG7
        refine ⟨G7, fu, .ref ja, vw ++ [.ref ta], ve ++ [.ref tb], some (.int (i : Nat)), some (.ref a), some (.ref fa), ?_, gr8, w7, e7, TbsV.mono sB fT, JtV.mono sA hJ', hw8, ?_, he8, ?_⟩
        · rw [show ((stepS sx (.fr hd ns t)).st : Int) = (sx.st : Int) + (hd.len : Int) from Int.natCast_add _ _]
          rfl
        · refine (aW.imp fun v d z => RwV.mono sA z).snoc ⟨ta, .ref la, .ref ja, rfl, ?_, JtV.mono sA hJ, JtV.mono sA hJ'⟩
          rw [ap]
          exact SqT.of (sG7 _ _ new5)
        · exact (aE.imp fun v d z => ReV.mono sA z).snoc ⟨tb, fb, tv, fu, rfl, SqT.of new7, sB _ _ fL⟩
    · rintro σ H1 ⟨G1, tv, lv, vw, ve, x4, x5, x6, rfl, gr, g1, g2, hT, hJ, hw1, aW, he1, aE⟩
      rw [aR.len, List.take_length] at hJ aW aE
      walk_at "run"
      have ge := good_end rs s0 good
      rw [show rs.foldl stepS s0 = aft rs from rfl] at ge
      refine r_neP (JtV.mono gr.gh hJ) ⟨_, rfl, T.t_HARD _⟩ (j := (0, 0)) ?_
      rw [ge]
      walk_at "run"
      exact q G1 H1 vw ve gr hw1 aW he1 aE
theorem ok_Stream_init {P : Program} {w : World} {base : Heap} {K : PySem.W.Frag} {mg : Str → Option Value} (T : Txt K mg) (ok_Stream_load : Ok_Stream_load P w base T) (ok_unfold_blocks : Ok_unfold_blocks P w base T) (ok_is_row : Ok_is_row P w base T) (ok_block_values : Ok_block_values P w base T) (ok_is_record : Ok_is_record P w base T) : Ok_Stream_init P w base T := by
  refine T.F_Stream_init.ok sc_Stream_init (fun vs H Q E h => ?_) (fun cdv A outer s H vs Q E hr h => ?_)
  · obtain ⟨G, H0, x, dx, v, rs, rfl, _⟩ := h
    rfl
  · obtain ⟨G, H0, x, dx, v, rs, rfl, eH, nx, ndx, ne, gs0, ⟨ra, rvs, rfl, hr1, aR⟩, good, l100, q⟩ := h
    have nxG := gs0.free nx
    have ndG := gs0.free ndx
    have gr0 : Grow [] G H0 G H := by rw [eH]; exact ((Grow.refl gs0).mut ndx ndG).mut nx nxG
    have hx : H x = some (.ins (clsS K) dx []) := by rw [eH]; exact upd_same
    have gs : Same G H := gr0.gh
    clear eH
    refine ⟨_, (pss_cons (ps_if (pt_not (pt_val (pe_call ok_is_row (hr.mono (by decide)) (by rfl) T.g_is_row T.F_is_row.kp (b_is_row T) .nil pass0 (pa_cons (pv 1) pa_nil)))) (pss_one ps_never) pss_nil)
        (pss_cons (ps_for PassesOwn.never rfl (pi_enum (by rfl) T.n_enumerate (pa_cons (pv 1) pa_nil)) (pg_tup rfl (pgs_cons (pg_name (i := 2) sc_Stream_init.nd rfl (Or.inl rfl)) (pgs_cons (pg_name (i := 3) sc_Stream_init.nd rfl (Or.inl rfl)) pgs_nil))) (pss_one (ps_if (pt_not (pt_val (pe_call ok_is_record (hr.mono (by decide)) (by rfl) T.g_is_record T.F_is_record.kp (b_is_record T) .nil pass0 (pa_cons (pv 3) pa_nil)))) (pss_one ps_never) pss_nil)))
        (pss_cons (ps_fld (pv 0) (pe_callTy call_listN (by rfl) T.n_list (by decide +kernel) (pa_cons (pv 1) pa_nil)) rfl)
        (pss_cons (ps_fld (pv 0) (pe_lst pa_nil) rfl)
        (pss_cons (ps_fld (pv 0) (pe_lst pa_nil) rfl)
        (pss_cons (ps_expr (pe_meth0 (pv 0) T.cls T.m_load ok_Stream_load (hr.mono (by decide)) (b_Stream_load T) .nil pass0))
        (pss_cons (ps_setLc (i := 4) (own := [("row", 5), ("read", 6)]) (by rfl) sc_Stream_init.nd rfl rfl (sw_true rfl rfl rfl (by decide +kernel)) (pi_zip (by rfl) T.n_zip (pa_cons (pe_fld (pv 0) rfl) (pa_cons (pe_fld (pv 0) rfl) pa_nil))) (blkOk_by (own := [("row", 5), ("read", 6)]) (N := ["self", "records", "index", "record", "blocks", "row", "read"]) (sc := defScope s_Stream_init) (by decide +kernel)) (fun _ _ _ _ _ => (show PG _ _ (gTup K 2 _) from pg_tup rfl (pgs_cons (pg_name (i := 5) sc_Stream_init.nd rfl (by first | exact Or.inl rfl | exact Or.inr rfl)) (pgs_cons (pg_name (i := 6) sc_Stream_init.nd rfl (by first | exact Or.inl rfl | exact Or.inr rfl)) pgs_nil)))) (fun _ _ _ _ _ => pts_nil) (fun _ _ _ _ _ => (pe_call ok_block_values (hr.mono (by decide)) (by rfl) T.g_block_values T.F_block_values.kp (b_block_values T) .nil pass0 (pa_cons (pe_ix (show IxR _ (rIxL K) from ix_list) (show PE _ _ (tFld K _ _) from pe_fld (pv 0) rfl) (pe_ix (show IxR _ (rIxT K) from ix_tup) (pv 5) pe_int (fun _ _ => rfl)) (fun _ _ => rfl)) (pa_cons (pe_ix (show IxR _ (rIxT K) from ix_tup) (pv 6) pe_int (fun _ _ => rfl)) pa_nil)))))
        (pss_cons (ps_fld (pv 0) (pv 4) rfl)
        (pss_one (ps_fld (pv 0) (pe_call ok_unfold_blocks (hr.mono (by decide)) (by rfl) T.g_unfold_blocks T.F_unfold_blocks.kp (b_unfold_blocks T) .nil pass0 (pa_cons (pv 4) (pa_cons (pe_lc (own := [("row", 5)]) (by rfl) sc_Stream_init.nd (pi_list (pe_fld (pv 0) rfl)) (blkOk_by (own := [("row", 5)]) (N := ["self", "records", "index", "record", "blocks", "row", "read"]) (sc := defScope s_Stream_init) (by decide +kernel)) (fun _ _ _ _ _ => (pg_name (i := 5) sc_Stream_init.nd rfl (by first | exact Or.inl rfl | exact Or.inr rfl))) (fun _ _ _ _ _ => pts_nil) (fun _ _ _ _ _ => (pe_ix (show IxR _ (rIxT K) from ix_tup) (pv 5) pe_int (fun _ _ => rfl)))) pa_nil))) rfl)))))))))), ?_⟩
    try dsimp only [cxOf, Cx.nox, Cx.wish, Cx.blk]
    walk_at "run"
    refine ⟨ra, rvs, rfl, gs _ _ hr1, fun H1 s1 => ?_⟩
    walk_at "run"
    refine r_kE (SqL.of (s1 _ _ (gs _ _ hr1))) ?_
    have gr1 := gr0.trans (Grow.pure gs s1)
    have hx1 := s1 _ _ hx
    clear gr0 hx
    refine for_enum (K := K) (a := ra) (xs := rvs) (fun i σ H2 => ∃ (x2 x3 : Option V), σ = [some (.ref x), some (.ref ra), x2, x3, none, none, none] ∧ Grow [] G H0 G H2 ∧ H2 x = some (.ins (clsS K) dx []))
      ⟨none, none, rfl, gr1, hx1⟩ (fun i σ H2 _ ⟨_, _, _, gr, _⟩ => SqL.of (gr.gh _ _ hr1)) ?_ ?_
    · rintro i y t σ H2 hi nt ⟨x2, x3, rfl, gr, hx2⟩
      obtain ⟨rc, hrc, hRV⟩ := aR.get hi
      obtain ⟨rok, _⟩ := good_at rs s0 i rc good hrc
      have s2 := same_new nt (o := .tup [.int (i : Nat), y])
      refine r_gTup (SqT.of upd_same) rfl ?_
      walk_at "run"
      refine ⟨y, rc, rfl, RcV.mono (gr.gh.trans s2) hRV, rok, fun H3 s3 => ?_⟩
      walk_at "run"
      exact ⟨_, _, rfl, gr.trans (Grow.pure gr.gh (s2.trans s3)), (s2.trans s3) _ _ hx2⟩
    rintro σ H2 ⟨x2, x3, rfl, gr, hx2⟩
    walk_at "run"
    refine r_listL (SqL.of (gr.gh _ _ hr1)) fun r nr => ?_
    walk_at "run"
    have gr3 := gr.new nr (o := .lst rvs)
    refine r_sFldR (same_new nr _ _ hx2) T.cls T.a_own_records (of_decide_eq_true rfl) ?_
    rw [pf1]
    have hr3 : upd G r (.lst rvs) r = some (.lst rvs) := upd_same
    have xr : x ≠ r := ne_of_none hx2 nr
    have nxG3 : upd G r (.lst rvs) x = none := by rw [upd_ne xr]; exact nxG
    have aR3 := aR.imp fun v d z => RcV.mono (same_new (o := .lst rvs) (gr.gh.free nr)) z
    have gr4 := gr3.mut nx nxG3 (o := .ins (clsS K) dx [("own_records", .ref r)])
    have hx4 : upd (upd H2 r (.lst rvs)) x (.ins (clsS K) dx [("own_records", .ref r)]) x = some (.ins (clsS K) dx [("own_records", .ref r)]) := upd_same
    generalize upd (upd H2 r (.lst rvs)) x (.ins (clsS K) dx [("own_records", .ref r)]) = H4 at *
    generalize upd G r (.lst rvs) = G4 at *
    clear gr3
    walk_at "run"
    refine ⟨szr rfl, fun w nw => ?_⟩
    walk_at "run"
    have nwG := gr4.gh.free nw
    have xw : x ≠ w := ne_of_none hx4 nw
    refine r_sFldR (same_new nw _ _ hx4) T.cls T.a_rows (of_decide_eq_true rfl) ?_
    rw [pf2]
    have gr5 := (gr4.mut (gr4.no nw) nwG (o := .lst [])).mut nx nxG3 (o := .ins (clsS K) dx [("own_records", .ref r), ("rows", .ref w)])
    have hx5 : upd (upd H4 w (.lst [])) x (.ins (clsS K) dx [("own_records", .ref r), ("rows", .ref w)]) x = some (.ins (clsS K) dx [("own_records", .ref r), ("rows", .ref w)]) := upd_same
    have hw5 : upd (upd H4 w (.lst [])) x (.ins (clsS K) dx [("own_records", .ref r), ("rows", .ref w)]) w = some (.lst []) := by rw [upd_ne (Ne.symm xw)]; exact upd_same
    have nwH := gr4.no nw
    generalize upd (upd H4 w (.lst [])) x (.ins (clsS K) dx [("own_records", .ref r), ("rows", .ref w)]) = H5 at *
    walk_at "run"
    refine ⟨szr rfl, fun e nE => ?_⟩
    walk_at "run"
    have neG := gr5.gh.free nE
    have xe : x ≠ e := ne_of_none hx5 nE
    have we : w ≠ e := ne_of_none hw5 nE
    refine r_sFldR (same_new nE _ _ hx5) T.cls T.a_read (of_decide_eq_true rfl) ?_
    rw [pf3]
    have neH := gr5.no nE
    have gr6 := (gr5.mut neH neG (o := .lst [])).mut nx nxG3 (o := .ins (clsS K) dx [("own_records", .ref r), ("rows", .ref w), ("read", .ref e)])
    have hx6 : upd (upd H5 e (.lst [])) x (.ins (clsS K) dx [("own_records", .ref r), ("rows", .ref w), ("read", .ref e)]) x = some (.ins (clsS K) dx [("own_records", .ref r), ("rows", .ref w), ("read", .ref e)]) := upd_same
    have hw6 : upd (upd H5 e (.lst [])) x (.ins (clsS K) dx [("own_records", .ref r), ("rows", .ref w), ("read", .ref e)]) w = some (.lst []) := by rw [upd_ne (Ne.symm xw), upd_ne we]; exact hw5
    have he6 : upd (upd H5 e (.lst [])) x (.ins (clsS K) dx [("own_records", .ref r), ("rows", .ref w), ("read", .ref e)]) e = some (.lst []) := by rw [upd_ne (Ne.symm xe)]; exact upd_same
    generalize upd (upd H5 e (.lst [])) x (.ins (clsS K) dx [("own_records", .ref r), ("rows", .ref w), ("read", .ref e)]) = H6 at *
    walk_at "run"
    refine r_methR hx6 rfl ?_
    walk_at "run"
    refine ⟨G4, x, dx, r, w, e, rs, rfl, gr6.gh, hx6, hw6, he6, nwG, neG, we, ⟨r, rvs, rfl, hr3, aR3⟩, good, l100, fun G7 H7 vw ve gr7 hw7 aW he7 aE => ?_⟩
    walk_at "run"
    have hx7 := gr7.hh x _ (by simp [xw, xe]) hx6
    have nxG7 := gr7.nw x (by rw [hx6]; exact fun z => nomatch z) nxG3
    have hr7 := gr7.gg _ _ hr3
    have gr8 : Grow [w, e] G H0 G7 H7 := (gr6.mono (fun b z => by cases z)).trans gr7
    have gr9 : Grow [] G H0 G7 H7 := gr8.strip fun b z => by
      rcases List.mem_cons.mp z with z | z
      · exact .inr (by rw [z]; exact nwH)
      · exact .inr (by rw [List.mem_singleton.mp z]; exact neH)
    have nw7 := gr7.nw w (by rw [hw6]; exact fun z => nomatch z) nwG
    have ne7 := gr7.nw e (by rw [he6]; exact fun z => nomatch z) neG
    have gr10 := gr9.freeze nwH nw7 hw7
    have ne10 : upd G7 w (.lst vw) e = none := by rw [upd_ne (Ne.symm we)]; exact ne7
    have gr11 := gr10.freeze neH ne10 he7
    have sW := same_new (o := .lst vw) nw7
    have sE := same_new (o := .lst ve) ne10
    have hw11 := sE w (.lst vw) upd_same
    have he11 : upd (upd G7 w (.lst vw)) e (.lst ve) e = some (.lst ve) := upd_same
    have hr11 := (sW.trans sE) _ _ hr7
    have nx11 : upd (upd G7 w (.lst vw)) e (.lst ve) x = none := by rw [upd_ne xe, upd_ne xw]; exact nxG7
    have aW := aW.imp fun v d z => RwV.mono (sW.trans sE) z
    have aE : All2 (ReV K (upd (upd G7 w (.lst vw)) e (.lst ve))) ve (frsOf rs) := aE.imp fun v d z => ReV.mono (sW.trans sE) z
    have aR11 := aR3.imp fun v d z => RcV.mono (gr7.gg.trans (sW.trans sE)) z
    generalize upd (upd G7 w (.lst vw)) e (.lst ve) = GA at *
    clear gr10 gr9 gr8 gr7
    refine r_fldR hx7 T.cls T.a_rows rfl ?_
    walk_at "run"
    refine r_fldR hx7 T.cls T.a_read rfl ?_
    walk_at "run"
    refine r_kZ (SqL.of (gr11.gh _ _ hw11)) (SqL.of (gr11.gh _ _ he11)) ?_
    intro Z nz
    obtain ⟨ln1, ln2, ln3⟩ := lens rs
    have ln4 := blocks_le rs
    have nzG := gr11.gh.free nz
    have xz : x ≠ Z := ne_of_none hx7 nz
    have nzH := gr11.no nz
    have mn : (blocksOf rs).length = min vw.length ve.length := by rw [aW.len, aE.len]; omega
    refine lc_zip (K := K) mn (fun i H8 => ∃ (G8 : Hp) (vs : List V), Grow [] GA H7 G8 H8 ∧ G8 Z = none ∧ H8 Z = some (.lst vs) ∧ All2 (Li G8) vs ((blocksOf rs).take i)) ⟨GA, [], (Grow.refl gr11.gh).mut nz nzG, nzG, upd_same, by rw [List.take_zero]; exact All2.nil⟩
      (fun i H8 _ ⟨G8, vs, g8, _⟩ => ⟨SqL.of (g8.gh _ _ (g8.gg _ _ hw11)), SqL.of (g8.gh _ _ (g8.gg _ _ he11))⟩) ?_ ?_
    · rintro i y1 y2 t H8 h1 h2 nt ⟨G8, vs, g8, n8, hz8, aZ⟩
      obtain ⟨xi, hxi, ya, yu, yw, rfl, yS, yJ1, yJ2⟩ := aW.get h1
      obtain ⟨ns, hns, za, zb, zu, zw, rfl, zS, zL⟩ := aE.get h2
      obtain ⟨hd, ns', t', k1, k2, k3, k4, k5⟩ := frame_at hxi
      have : ns' = ns := by rw [k2] at hns; exact Option.some.inj hns
      subst this
      obtain ⟨rok, _⟩ := good_at rs s0 _ _ good k1
      obtain ⟨rv, hrv, rV⟩ := aR11.at_ _ _ k1
      have g9 := g8.new nt (o := .tup [.ref ya, .ref za])
      have k8 := kn (u := .tup [.ref ya, .ref za]) hz8 nt n8
      have hz9 := same_new nt (o := .tup [.ref ya, .ref za]) _ _ hz8
      have sG8 := same_new (o := .tup [.ref ya, .ref za]) (g8.gh.free nt)
      refine r_gTup (SqT.of upd_same) rfl ?_
      walk_at "run"
      refine ⟨rfl, ?_⟩
      walk_at "run"
      refine r_fldR (g9.hs _ _ hx7) T.cls T.a_own_records rfl ?_
      walk_at "run"
      refine r_ixT (sm_tup (g9.gg.trans g9.gh) yS) (at0 (n := 0) rfl) ?_
      refine r_ixL (SqL.of (g9.gh _ _ (g9.gg _ _ hr11))) (at0 hrv) ?_
      walk_at "run"
      refine r_ixT (sm_tup (g9.gg.trans g9.gh) zS) (at0 (n := 0) rfl) ?_
      walk_at "run"
      refine ⟨_, rv, .ref zb, hd, ns', t', rfl, g9.gh, RcV.mono g9.gg rV, rok, ⟨zb, rfl, g9.gg _ _ zL⟩, fun GB HB vB grB pB => ?_⟩
      have hzB := grB.hs _ _ hz9
      have il := (List.getElem?_eq_some_iff.mp k3).1
      have nB := grB.nw Z (by rw [hz9]; exact fun z => nomatch z) k8
      refine ⟨vs, hzB, szl (by rw [aZ.len, List.length_take]; omega), GB, vs ++ [vB], (g9.trans grB).mut nz nB, nB, upd_same, ?_⟩
      rw [List.take_add_one, k3]
      exact (aZ.imp fun v d z => Li.mono (sG8.trans grB.gg) z).snoc pB
    rintro H8 ⟨G8, vs, g8, n8, hz8, aZ⟩
    rw [List.take_length] at aZ
    walk_at "run"
    have hx8 := g8.hs _ _ hx7
    have grC := (gr11.trans g8).freeze nzH n8 hz8
    have sZ := same_new (o := .lst vs) n8
    have hZC : upd G8 Z (.lst vs) Z = some (.lst vs) := upd_same
    have aZ := aZ.imp fun v d z => Li.mono sZ z
    have s8 := g8.gg.trans sZ
    have nxC : upd G8 Z (.lst vs) x = none := by rw [upd_ne xz]; exact g8.nw x (by rw [hx7]; exact fun z => nomatch z) nx11
    have hwC := s8 _ _ hw11
    have hrC := s8 _ _ hr11
    have aWC := aW.imp fun v d z => RwV.mono s8 z
    have aRC := aR11.imp fun v d z => RcV.mono s8 z
    generalize upd G8 Z (.lst vs) = GC at *
    refine r_sFldR hx8 T.cls T.a_blocks (of_decide_eq_true rfl) ?_
    rw [pf4]
    have grD := grC.mut nx nxC (o := .ins (clsS K) dx [("own_records", .ref r), ("rows", .ref w), ("read", .ref e), ("blocks", .ref Z)])
    have hxD : upd H8 x (.ins (clsS K) dx [("own_records", .ref r), ("rows", .ref w), ("read", .ref e), ("blocks", .ref Z)]) x = some (.ins (clsS K) dx [("own_records", .ref r), ("rows", .ref w), ("read", .ref e), ("blocks", .ref Z)]) := upd_same
    generalize upd H8 x (.ins (clsS K) dx [("own_records", .ref r), ("rows", .ref w), ("read", .ref e), ("blocks", .ref Z)]) = HD at *
    walk_at "run"
    refine r_fldR hxD T.cls T.a_rows rfl ?_
    refine r_kL (SqL.of (grD.gh _ _ hwC)) ?_
    intro Y ny
    have nyG := grD.gh.free ny
    have xy : x ≠ Y := ne_of_none hxD ny
    refine lc_list (K := K) (a := w) (xs := vw) (fun i H9 => ∃ (vs : List V), Grow [] GC HD GC H9 ∧ H9 Y = some (.lst vs) ∧ All2 (JtV K GC) vs ((jointsOf rs).take i)) ⟨[], (Grow.refl grD.gh).mut ny nyG, upd_same, by rw [List.take_zero]; exact All2.nil⟩
      (fun i H9 _ ⟨vs, g9, _⟩ => SqL.of (g9.gh _ _ hwC)) ?_ ?_
    · rintro i y H9 hi ⟨vs, g9, hy9, aY⟩
      obtain ⟨xi, hxi, ya, yu, yw, rfl, yS, yJ1, yJ2⟩ := aWC.get hi
      obtain ⟨hd, ns', t', k1, k2, k3, k4, k5, k6, k7⟩ := frame_at hxi
      have il := (List.getElem?_eq_some_iff.mp k4).1
      walk_at "run"
      refine ⟨rfl, ?_⟩
      walk_at "run"
      refine r_ixT (sm_tup g9.gh yS) (at0 (n := 4) rfl) ?_
      refine ⟨vs, hy9, szl (by rw [aY.len, List.length_take]; omega), _, g9.mut ny nyG, upd_same, ?_⟩
      rw [List.take_add_one, k4]
      rw [k6] at yJ2
      exact aY.snoc yJ2
    rintro H9 ⟨vj, g9, hy9, aY⟩
    rw [aWC.len, ln1, ← ln3, List.take_length] at aY
    walk_at "run"
    have grE := (grD.trans g9).freeze (grD.no ny) nyG hy9
    have sY := same_new (o := .lst vj) nyG
    refine ⟨_, .ref Z, .ref Y, blocksOf rs, jointsOf rs, rfl, grE.gh, ⟨Z, _, rfl, sY _ _ hZC, aZ.imp fun v d z => Li.mono sY z⟩, ⟨Y, vj, rfl, upd_same, aY.imp fun v d z => JtV.mono sY z⟩, ln3.symm, by omega, by have := flat_64 rs _ _ good; omega, fits_good good, fun GF HF vF grF pF => ?_⟩
    walk_at "run"
    obtain ⟨fa, rfl, hfa⟩ := pF
    have hxF := grF.hs _ _ (g9.hs _ _ hxD)
    refine r_sFldR hxF T.cls T.a_own_sound (of_decide_eq_true rfl) ?_
    rw [pf5]
    walk_at "run"
    have nxF : GF x = none := grF.nw x (by rw [g9.hs _ _ hxD]; exact fun z => nomatch z) (by rw [upd_ne xy]; exact nxC)
    have grG := ((grE.trans grF).mut nx nxF (o := .ins (clsS K) dx [("own_records", .ref r), ("rows", .ref w), ("read", .ref e), ("blocks", .ref Z), ("own_sound", .ref fa)])).freeze nx nxF upd_same
    have sX := same_new (o := .ins (clsS K) dx [("own_records", .ref r), ("rows", .ref w), ("read", .ref e), ("blocks", .ref Z), ("own_sound", .ref fa)]) nxF
    have sAll := (sY.trans grF.gg).trans sX
    refine q _ _ grG ⟨x, dx, r, w, e, Z, fa, rfl, upd_same, ⟨r, rvs, rfl, sAll _ _ hrC, aRC.imp fun v d z => RcV.mono sAll z⟩, ⟨w, vw, rfl, sAll _ _ hwC, aWC.imp fun v d z => RwV.mono sAll z⟩, sX _ _ hfa⟩
theorem ok_Stream_records {P : Program} {w : World} {base : Heap} {K : PySem.W.Frag} {mg : Str → Option Value} (T : Txt K mg)  : Ok_Stream_records P w base T := by
  refine T.F_Stream_records.ok sc_Stream_records (fun vs H Q E h => ?_) (fun cdv A outer s H vs Q E hr h => ?_)
  · obtain ⟨a, dx, fs, r, xs, rfl, _⟩ := h
    rfl
  · obtain ⟨a, dx, fs, r, xs, rfl, hx, lk, hr1, q⟩ := h
    refine ⟨_, (pss_one (ps_ret (pe_callTy call_listN (by rfl) T.n_list (by decide +kernel) (pa_cons (pe_fld (pv 0) rfl) pa_nil)))), ?_⟩
    try dsimp only [cxOf, Cx.nox, Cx.wish, Cx.blk]
    walk_at "run"
    refine r_fldR hx T.cls T.a_own_records lk ?_
    exact r_listL (SqL.of hr1) q
theorem ok_Stream_sound {P : Program} {w : World} {base : Heap} {K : PySem.W.Frag} {mg : Str → Option Value} (T : Txt K mg)  : Ok_Stream_sound P w base T := by
  refine T.F_Stream_sound.ok sc_Stream_sound (fun vs H Q E h => ?_) (fun cdv A outer s H vs Q E hr h => ?_)
  · obtain ⟨a, dx, fs, r, xs, rfl, _⟩ := h
    rfl
  · obtain ⟨a, dx, fs, r, xs, rfl, hx, lk, hr1, q⟩ := h
    refine ⟨_, (pss_one (ps_ret (pe_callTy call_listN (by rfl) T.n_list (by decide +kernel) (pa_cons (pe_fld (pv 0) rfl) pa_nil)))), ?_⟩
    try dsimp only [cxOf, Cx.nox, Cx.wish, Cx.blk]
    walk_at "run"
    refine r_fldR hx T.cls T.a_own_sound lk ?_
    exact r_listL (SqL.of hr1) q
theorem ok_Stream_require_frame {P : Program} {w : World} {base : Heap} {K : PySem.W.Frag} {mg : Str → Option Value} (T : Txt K mg) (ok_is_between : Ok_is_between P w base T) : Ok_Stream_require_frame P w base T := by
  refine T.F_Stream_require_frame.ok sc_Stream_require_frame (fun vs H Q E h => ?_) (fun cdv A outer s H vs Q E hr h => ?_)
  · obtain ⟨a, dx, fs, r, xs, i, rfl, _⟩ := h
    rfl
  · obtain ⟨a, dx, fs, r, xs, i, rfl, hx, lk, hr1, hi, q⟩ := h
    refine ⟨_, (pss_one (ps_if (pt_not (pt_val (pe_call ok_is_between (hr.mono (by decide)) (by rfl) T.g_is_between T.F_is_between.kp (b_is_between T) .nil pass0 (pa_cons (pv 1) (pa_cons pe_int (pa_cons (pe_op op_sub (pe_callB call_lenN (by rfl) T.n_len (by decide +kernel) (pa_cons (pe_fld (pv 0) rfl) pa_nil)) pe_int) pa_nil)))))) (pss_one ps_never) pss_nil)), ?_⟩
    try dsimp only [cxOf, Cx.nox, Cx.wish, Cx.blk]
    walk_at "run"
    refine r_fldR hx T.cls T.a_rows lk ?_
    walk_at "run"
    refine r_lenL (SqL.of hr1) ?_
    walk_at "run"
    refine ⟨_, _, _, rfl, by omega, by omega, ?_⟩
    walk_at "run"
    exact q
theorem ok_Stream_block {P : Program} {w : World} {base : Heap} {K : PySem.W.Frag} {mg : Str → Option Value} (T : Txt K mg) (ok_Stream_require_frame : Ok_Stream_require_frame P w base T) : Ok_Stream_block P w base T := by
  refine T.F_Stream_block.ok sc_Stream_block (fun vs H Q E h => ?_) (fun cdv A outer s H vs Q E hr h => ?_)
  · obtain ⟨a, dx, fs, r, xs, i, u, rfl, _⟩ := h
    rfl
  · obtain ⟨a, dx, fs, r, xs, i, u, rfl, hx, lk, lm, hr1, hu, q⟩ := h
    have hi := (List.getElem?_eq_some_iff.mp hu).1
    refine ⟨_, (pss_cons (ps_expr (pe_meth (pv 0) T.cls T.m_require_frame ok_Stream_require_frame (hr.mono (by decide)) (b_Stream_require_frame T) .nil pass0 (pa_cons (pv 1) pa_nil)))
        (pss_one (ps_ret (pe_ix ix_list (pe_fld (pv 0) rfl) (pv 1) (fun _ _ => rfl))))), ?_⟩
    try dsimp only [cxOf, Cx.nox, Cx.wish, Cx.blk]
    walk_at "run"
    refine r_methR hx lm ?_
    walk_at "run"
    refine ⟨a, dx, fs, r, xs, i, rfl, hx, lk, hr1, hi, ?_⟩
    walk_at "run"
    refine r_fldR hx T.cls T.a_rows lk ?_
    walk_at "run"
    exact r_ixL (SqL.of hr1) (at0 hu) q
theorem ok_index_of {P : Program} {w : World} {base : Heap} {K : PySem.W.Frag} {mg : Str → Option Value} (T : Txt K mg) (ok_Stream_block : Ok_Stream_block P w base T) (ok_Stream_records : Ok_Stream_records P w base T) : Ok_index_of P w base T := by
  refine T.F_index_of.ok sc_index_of (fun vs H Q E h => ?_) (fun cdv A outer s H vs Q E hr h => ?_)
  · obtain ⟨G, v, rs, rfl, _⟩ := h
    rfl
  · obtain ⟨G, v, rs, rfl, gs, ⟨x, dx, r, w, e, b, s, rfl, hx, ⟨ra, rvs, e0, hr1, aR⟩, ⟨wa, wvs, e1, hw1, aW⟩, hs1⟩, good, l100, q⟩ := h
    obtain rfl : r = ra := V.ref.inj e0
    obtain rfl : w = wa := V.ref.inj e1
    refine ⟨_, (pss_cons (ps_set (i := 1) sc_index_of.nd rfl (Or.inl rfl) (pe_lst pa_nil))
        (pss_cons (ps_set (i := 2) sc_index_of.nd rfl (Or.inl rfl) pe_int)
        (pss_cons (ps_for PassesOwn.never rfl (pi_enum (by rfl) T.n_enumerate (pa_cons (pe_prop (pv 0) T.cls T.prp ok_Stream_records (hr.mono (by decide)) (b_Stream_records T) .nil pass0 rfl) pa_nil)) (pg_tup rfl (pgs_cons (pg_name (i := 3) sc_index_of.nd rfl (Or.inl rfl)) (pgs_cons (pg_name (i := 4) sc_index_of.nd rfl (Or.inl rfl)) pgs_nil))) (pss_one (ps_if (pt_cmpR op_eq (pe_ix ix_tup (pv 4) pe_int (fun _ _ => rfl)) pe_str (nomark _)) (pss_one (ps_set (i := 2) sc_index_of.nd rfl (Or.inl rfl) (pv 3))) (pss_cons (ps_asg (pe_meth (pv 0) T.cls T.m_block ok_Stream_block (hr.mono (by decide)) (b_Stream_block T) .nil pass0 (pa_cons (pe_callB call_lenN (by rfl) T.n_len (by decide +kernel) (pa_cons (pv 1) pa_nil)) pa_nil)) (pg_tup rfl (pgs_cons (pg_name (i := 5) sc_index_of.nd rfl (Or.inl rfl)) (pgs_cons (pg_name (i := 6) sc_index_of.nd rfl (Or.inl rfl)) (pgs_cons (pg_name (i := 7) sc_index_of.nd rfl (Or.inl rfl)) (pgs_cons (pg_name (i := 8) sc_index_of.nd rfl (Or.inl rfl)) (pgs_cons (pg_name (i := 9) sc_index_of.nd rfl (Or.inl rfl)) pgs_nil)))))))
        (pss_one (ps_expr (pe_bm PySem.F.plainAttrs_list PySem.F.slot_list_append PySem.F.type_list_append mt_append (pv 1) (pa_cons (pe_tup (pa_cons (pv 5) (pa_cons (pv 6) (pa_cons (pv 7) (pa_cons (pv 8) (pa_cons (pv 9) (pa_cons (pe_ix ix_tup (pv 4) pe_int (fun _ _ => rfl)) (pa_cons (pe_ix ix_tup (pv 4) pe_int (fun _ _ => rfl)) (pa_cons (pv 2) pa_nil))))))))) pa_nil))))))))
        (pss_one (ps_ret (pv 1)))))), ?_⟩
    try dsimp only [cxOf, Cx.nox, Cx.wish, Cx.blk]
    walk_at "run"
    refine ⟨szr rfl, fun p np => ?_⟩
    walk_at "run"
    have nG := gs.free np
    have s1 := same_new np (o := .lst [])
    refine ⟨x, _, _, rfl, s1 _ _ (gs _ _ hx), x, _, _, r, rvs, rfl, s1 _ _ (gs _ _ hx), rfl, s1 _ _ (gs _ _ hr1), fun p2 np2 => ?_⟩
    have np2H : H p2 = none := s1.free np2
    have n12 : p ≠ p2 := fun z => by rw [← z, upd_same] at np2; cases np2
    have s2 := s1.trans (same_new np2 (o := .lst rvs))
    walk_at "run"
    refine r_kE (SqL.of upd_same) ?_
    refine for_enum (K := K) (a := p2) (xs := rvs) (fun i σ H1 => ∃ (G1 : Hp) (vs : List V) (x3 x4 x5 x6 x7 x8 x9 : Option V), σ = [some (.ref x), some (.ref p), some (.int (aft (rs.take i)).org), x3, x4, x5, x6, x7, x8, x9] ∧
      Grow [] G H G1 H1 ∧ G1 p = none ∧ H1 p = some (.lst vs) ∧ All2 (IxV K G1) vs (ixs (rs.take i)) ∧ G1 p2 = some (.lst rvs))
      ⟨upd G p2 (.lst rvs), [], none, none, none, none, none, none, none, rfl, ((Grow.refl gs).mut np nG).new np2, by rw [upd_ne n12]; exact nG, same_new np2 _ _ upd_same, All2.nil, upd_same⟩
      (fun i σ H1 _ ⟨G1, _, _, _, _, _, _, _, _, _, gr, _, _, _, z⟩ => SqL.of (gr.gh _ _ z)) ?_ ?_
    · rintro i y t σ H1 hi nt ⟨G1, vs, x3, x4, x5, x6, x7, x8, x9, rfl, gr, g1, hp, aX, hp2⟩
      obtain ⟨rc, hrc, hRV⟩ := aR.get hi
      have il := (List.getElem?_eq_some_iff.mp hrc).1
      have ap := aft_pos' (rs := rs) (i := i) (by omega)
      have il1 := ixs_le rs i
      have wl1 := aX.len
      have isn := ixs_snoc hrc
      rw [aft_snoc hrc, isn]
      have ixat : ∀ h ns t', rc = .fr h ns t' → (ixs rs)[(ixs (rs.take i)).length]? = some ⟨(aft (rs.take i)).pos, (aft (rs.take i)).st, h.len, (aft (rs.take i)).left, h.jt, h.lev, h.step, (aft (rs.take i)).org⟩ := fun h ns t' z => by
        have : ∃ more, ixs rs = ixs (rs.take (i + 1)) ++ more := ixs_pre rs (i + 1)
        obtain ⟨more, hm⟩ := this
        rw [hm, isn, z, List.append_assoc, List.getElem?_append_right (Nat.le_refl _), Nat.sub_self]
        rfl
      generalize aft (rs.take i) = sx at *
      have gr1 := gr.new nt (o := .tup [.int (i : Nat), y])
      have sG := same_new (o := .tup [.int (i : Nat), y]) (gr.gh.free nt)
      have hp1 := same_new nt (o := .tup [.int (i : Nat), y]) _ _ hp
      have k1 := kn (u := .tup [.int (i : Nat), y]) hp nt g1
      have aX := aX.imp fun v d z => IxV.mono sG z
      refine r_gTup (SqT.of upd_same) rfl ?_
      have hp2 := sG _ _ hp2
      generalize upd G1 t (.tup [.int (i : Nat), y]) = G2 at *
      generalize upd H1 t (.tup [.int (i : Nat), y]) = H2 at *
      have hRV2 := RcV.mono gr1.gg hRV
      walk_at "run"
      cases rc with
      | st t =>
        obtain ⟨a, u, rfl, hS, hT'⟩ := hRV2
        have hS2 := sm_tup gr1.gh hS
        refine r_ixT hS2 (at0 (n := 0) rfl) ?_
        walk_at "run"
        refine r_eqS ?_
        walk_at "run"
        refine ⟨G2, vs, some (.int (i : Nat)), some (.ref a), x5, x6, x7, x8, x9, ?_, gr1, k1, hp1, ?_, hp2⟩
        · rw [show (stepS sx (.st t)).org = sx.pos from rfl, ap]; rfl
        · rw [show ixOf sx (.st t) = [] from rfl, List.append_nil]; exact aX
      | fr hd ns t =>
        have hxat := ixat hd ns t rfl
        obtain ⟨a, u, rfl, hS, hJ'⟩ := hRV2
        have hS2 := sm_tup gr1.gh hS
        refine r_ixT hS2 (at0 (n := 0) rfl) ?_
        walk_at "run"
        refine r_eqS ?_
        walk_at "run"
        refine r_no (by decide +kernel) ?_
        walk_at "run"
        have s3 := gs.trans gr1.hs
        refine r_methR (s3 _ _ hx) rfl ?_
        walk_at "run"
        refine r_lenL (SqL.of hp1) ?_
        walk_at "run"
        rw [wl1]
        obtain ⟨rv, hrv, rwa, ru, rw', rfl, rS, rJ1, rJ2⟩ := aW.at_ _ _ hxat
        refine ⟨x, _, _, w, wvs, _, .ref rwa, rfl, s3 _ _ hx, rfl, rfl, s3 _ _ hw1, hrv, ?_⟩
        refine r_gTup (sm_tup s3 rS) rfl ?_
        walk_at "run"
        refine r_tyL (SqL.of hp1) ?_
        walk_at "run"
        refine r_ixT hS2 (at0 (n := 3) rfl) ?_
        walk_at "run"
        refine r_ixT hS2 (at0 (n := 4) rfl) ?_
        walk_at "run"
        refine ⟨szr rfl, fun ta na => ?_⟩
        walk_at "run"
        have s4 := gr1.gg.trans (same_new (o := .tup [.int sx.pos, .int sx.st, .int hd.len, ru, rw', .int hd.lev, .int hd.step, .int sx.org]) (gr1.gh.free na))
        have sG5 := same_new (o := .tup [.int sx.pos, .int sx.st, .int hd.len, ru, rw', .int hd.lev, .int hd.step, .int sx.org]) (gr1.gh.free na)
        have gr2 := gr1.new na (o := .tup [.int sx.pos, .int sx.st, .int hd.len, ru, rw', .int hd.lev, .int hd.step, .int sx.org])
        have k2 := kn (u := .tup [.int sx.pos, .int sx.st, .int hd.len, ru, rw', .int hd.lev, .int hd.step, .int sx.org]) hp1 na k1
        refine r_app (same_new na _ _ hp1) (szl (by omega)) ?_
        walk_at "run"
        refine ⟨_, _, _, _, _, _, _, _, _, rfl, gr2.mut np k2, k2, upd_same, ?_, sG5 _ _ hp2⟩
        exact (aX.imp fun v d z => IxV.mono sG5 z).snoc ⟨ta, ru, rw', rfl, SqT.of upd_same, JtV.mono s4 rJ1, JtV.mono s4 rJ2⟩
    · rintro σ H1 ⟨G1, vs, x3, x4, x5, x6, x7, x8, x9, rfl, gr, g1, hp, aX, hp2⟩
      rw [aR.len, List.take_length] at aX
      walk_at "run"
      exact q _ _ _ (gr.freeze np g1 hp) ⟨p, vs, rfl, upd_same, aX.imp fun v d z => IxV.mono (same_new g1) z⟩
theorem ok_records_of {P : Program} {w : World} {base : Heap} {K : PySem.W.Frag} {mg : Str → Option Value} (T : Txt K mg)  : Ok_records_of P w base T := by
  refine T.F_records_of.ok sc_records_of (fun vs H Q E h => ?_) (fun cdv A outer s H vs Q E hr h => ?_)
  · obtain ⟨G, v, fv, ix, fs, rfl, _⟩ := h
    rfl
  · obtain ⟨G, v, fv, ix, fs, rfl, gs, ⟨xa, xvs, rfl, hX, aX⟩, ⟨fa, rfl, hF⟩, hfs, f100, x100, q⟩ := h
    refine ⟨_, (pss_cons (ps_set (i := 2) sc_records_of.nd rfl (Or.inl rfl) (pe_lst pa_nil))
        (pss_cons (ps_for PassesOwn.never rfl (pi_list (pv 1)) (pg_name (i := 3) sc_records_of.nd rfl (Or.inl rfl)) (pss_cons (ps_set (i := 4) sc_records_of.nd rfl (Or.inl rfl) (pe_ix ix_tup (pe_ix ix_list (pv 0) (pv 3) (fun _ _ => rfl)) pe_int (fun _ _ => rfl)))
        (pss_cons (ps_if (PW.pt (pw_and (pt_cmpR (op_neD hr.units) (pv 2) (pe_lst pa_nil) (nomark _)) (pw_and1 (pt_cmpR op_ge (pe_ix ix_list (pv 2) (pe_un un_neg pe_int) (fun _ _ => rfl)) (pv 4) (nomark _))))) (pss_one (ps_set (i := 4) sc_records_of.nd rfl (Or.inl rfl) (pe_op op_add (pe_ix ix_list (pv 2) (pe_un un_neg pe_int) (fun _ _ => rfl)) pe_int))) pss_nil)
        (pss_one (ps_expr (pe_bm PySem.F.plainAttrs_list PySem.F.slot_list_extend PySem.F.type_list_extend mt_extend (pv 2) (pa_cons (pe_listRg rfl (by rfl) T.n_list (prg_2 (by rfl) T.n_range (pv 4) (pe_op op_add (pe_ix ix_tup (pe_ix ix_list (pv 0) (pv 3) (fun _ _ => rfl)) pe_int (fun _ _ => rfl)) pe_int))) pa_nil)))))))
        (pss_one (ps_ret (pv 2))))), ?_⟩
    try dsimp only [cxOf, Cx.nox, Cx.wish, Cx.blk]
    walk_at "run"
    refine ⟨szr rfl, fun p np => ?_⟩
    walk_at "run"
    have nG := gs.free np
    have s1 := same_new np (o := .lst [])
    refine r_kL (SqL.of (s1 _ _ (gs _ _ hF))) ?_
    refine for_list (K := K) (a := fa) (xs := (cI fs).map V.int) (fun i σ H1 => ∃ (G1 : Hp) (x3 x4 : Option V), σ = [some (.ref xa), some (.ref fa), some (.ref p), x3, x4] ∧
      Grow [] G H G1 H1 ∧ G1 p = none ∧ H1 p = some (.lst ((cI (recsOf ix (fs.take i))).map V.int)) ∧ (recsOf ix (fs.take i)).length ≤ 101 * i ∧ ∀ m ∈ recsOf ix (fs.take i), m ≤ 100)
      ⟨G, none, none, rfl, (Grow.refl gs).mut np nG, nG, upd_same, Nat.zero_le _, fun m z => by cases z⟩
      (fun i σ H1 _ ⟨G1, _, _, _, gr, _⟩ => SqL.of (gr.gh _ _ (gr.gg _ _ hF))) ?_ ?_
    · rintro i y σ H1 hi ⟨G1, x3, x4, rfl, gr, g1, hp, l1, m1⟩
      obtain ⟨z, hz, rfl⟩ := map_get hi
      obtain ⟨f, hf, rfl⟩ := cI_get hz
      have il := (List.getElem?_eq_some_iff.mp hf).1
      have fl := hfs f (List.mem_of_getElem? hf)
      have hxf : ix[f]? = some ix[f] := List.getElem?_eq_getElem fl
      obtain ⟨xv, hxv, ra, ru, rw', rfl, rS, _, _⟩ := aX.at_ _ _ hxf
      have rx := x100 _ (List.mem_of_getElem? hxf)
      rw [recs_snoc hf hxf]
      generalize ix[f] = x at *
      generalize recsOf ix (fs.take i) = found at *
      walk_at "run"
      have s2 := gr.gg.trans gr.gh
      refine r_ixL (SqL.of (s2 _ _ hX)) (at0 hxv) ?_
      walk_at "run"
      refine r_ixT (sm_tup s2 rS) (at0 (n := 7) rfl) ?_
      walk_at "run"
      refine ⟨szr rfl, fun p3 np3 => ?_⟩
      have s3 := same_new np3 (o := .lst [])
      have hp3 := s3 _ _ hp
      have gr3 := gr.trans (Grow.pure gr.gh s3)
      refine r_neLi (xs := cI found) (ys := []) ⟨p, rfl, hp3⟩ ⟨p3, rfl, upd_same⟩ ?_
      have tail : ∀ (H4 : Hp) (a : Nat), H4 = upd H1 p3 (.lst []) → a = runFrom found x → a ≤ 101 → ∀ (Q2 : VK), (∀ (G5 : Hp) (H5 : Hp), Grow [] G H G5 H5 → G5 p = none → H5 p = some (.lst ((cI (found ++ (List.range (x.rc + 1 - runFrom found x)).map (· + runFrom found x))).map V.int)) → Q2 .non H5) → ∀ (q : Addr), H4 q = none →
          rExtend (.ref p) [.ref q] (upd H4 q (.lst ((cR a (x.rc + 1)).map V.int))) Q2 := by
        intro H4 a e4 ea ha Q2 hQ qa nq
        subst e4
        have hp4 := same_new nq (o := .lst ((cR a (x.rc + 1)).map V.int)) _ _ hp3
        have gr4 := gr3.new nq (o := .lst ((cR a (x.rc + 1)).map V.int))
        have k4 := kn (u := .lst ((cR a (x.rc + 1)).map V.int)) hp3 nq g1
        refine r_ext hp4 upd_same (sz ?_) ?_
        · rw [List.length_map, cI_len, List.length_map]
          unfold cR
          rw [List.length_map, List.length_map, List.length_range]
          omega
        · refine hQ _ _ (gr4.mut np k4) k4 ?_
          rw [upd_same, cI_app, List.map_append, ← ea]
          rfl
      walk_at "run"
      have fin : ∀ (H5 G5 : Hp) (x4' : Option V), Grow [] G H G5 H5 → G5 p = none → H5 p = some (.lst ((cI (found ++ (List.range (x.rc + 1 - runFrom found x)).map (· + runFrom found x))).map V.int)) →
          ∃ (G1 : Hp) (x3 x4 : Option V), [some (V.ref xa), some (V.ref fa), some (V.ref p), some (V.int (f : Int)), x4'] = [some (V.ref xa), some (V.ref fa), some (V.ref p), x3, x4] ∧ Grow [] G H G1 H5 ∧ G1 p = none ∧
            H5 p = some (.lst ((cI (found ++ (List.range (x.rc + 1 - runFrom found x)).map (· + runFrom found x))).map V.int)) ∧ (found ++ (List.range (x.rc + 1 - runFrom found x)).map (· + runFrom found x)).length ≤ 101 * (i + 1) ∧ ∀ m ∈ found ++ (List.range (x.rc + 1 - runFrom found x)).map (· + runFrom found x), m ≤ 100 := by
        intro H5 G5 x4' a b c
        refine ⟨G5, _, _, rfl, a, b, c, ?_, ?_⟩
        · rw [List.length_append, List.length_map, List.length_range]; omega
        · intro m hm
          rcases List.mem_append.mp hm with z | z
          · exact m1 m z
          · obtain ⟨k, hk, rfl⟩ := List.mem_map.mp z
            rw [List.mem_range] at hk
            omega
      refine r_decN (fun hne => ?_) (fun he => ?_)
      · have hne' : found ≠ [] := fun z => hne (cI_nil.mpr z)
        have lm := m1 _ (lastN_mem hne')
        walk_at "run"
        refine r_ixL (SqL.of hp3) (atm1 (lastN_at hne')) ?_
        walk_at "run"
        refine r_dec (fun h1 => ?_) (fun h1 => ?_)
        · have er : lastN found + 1 = runFrom found x := by unfold runFrom; rw [if_pos ⟨hne', by omega⟩]
          walk_at "run"
          refine r_ixL (SqL.of hp3) (atm1 (lastN_at hne')) ?_
          walk_at "run"
          refine r_tyL (SqL.of hp3) ?_
          refine r_rg2 ?_
          walk_at "run"
          refine r_ixL (SqL.of ((s2.trans s3) _ _ hX)) (at0 hxv) ?_
          walk_at "run"
          refine r_ixT (sm_tup (s2.trans s3) rS) (at0 (n := 0) rfl) ?_
          walk_at "run"
          refine r_rg2I ?_
          rw [show (lastN found : Int) + 1 = ((lastN found + 1 : Nat) : Int) from rfl, show (x.rc : Int) + 1 = ((x.rc + 1 : Nat) : Int) from rfl]
          refine r_rgN (by omega) (by omega) fun qa nq => ?_
          walk_at "run"
          refine tail _ _ rfl er (by omega) _ (fun G5 H5 a b c => ?_) qa nq
          walk_at "run"
          exact fin _ _ _ a b c
        · have er : x.org = runFrom found x := by unfold runFrom; rw [if_neg (fun z => h1 (by omega))]
          walk_at "run"
          refine r_tyL (SqL.of hp3) ?_
          refine r_rg2 ?_
          walk_at "run"
          refine r_ixL (SqL.of ((s2.trans s3) _ _ hX)) (at0 hxv) ?_
          walk_at "run"
          refine r_ixT (sm_tup (s2.trans s3) rS) (at0 (n := 0) rfl) ?_
          walk_at "run"
          refine r_rg2I ?_
          rw [show (x.rc : Int) + 1 = ((x.rc + 1 : Nat) : Int) from rfl]
          refine r_rgN (by omega) (by omega) fun qa nq => ?_
          walk_at "run"
          refine tail _ _ rfl er (by omega) _ (fun G5 H5 a b c => ?_) qa nq
          walk_at "run"
          exact fin _ _ _ a b c
      · have he' : found = [] := cI_nil.mp he
        have er : x.org = runFrom found x := by unfold runFrom; rw [if_neg (fun z => z.1 he')]
        walk_at "run"
        refine r_tyL (SqL.of hp3) ?_
        refine r_rg2 ?_
        walk_at "run"
        refine r_ixL (SqL.of ((s2.trans s3) _ _ hX)) (at0 hxv) ?_
        walk_at "run"
        refine r_ixT (sm_tup (s2.trans s3) rS) (at0 (n := 0) rfl) ?_
        walk_at "run"
        refine r_rg2I ?_
        rw [show (x.rc : Int) + 1 = ((x.rc + 1 : Nat) : Int) from rfl]
        refine r_rgN (by omega) (by omega) fun qa nq => ?_
        walk_at "run"
        refine tail _ _ rfl er (by omega) _ (fun G5 H5 a b c => ?_) qa nq
        walk_at "run"
        exact fin _ _ _ a b c
    · rintro σ H1 ⟨G1, x3, x4, rfl, gr, g1, hp, l1, m1⟩
      rw [List.length_map, cI_len, List.take_length] at hp
      walk_at "run"
      exact q _ _ _ (gr.freeze np g1 hp) ⟨p, rfl, upd_same⟩
theorem ok_read_frame {P : Program} {w : World} {base : Heap} {K : PySem.W.Frag} {mg : Str → Option Value} (T : Txt K mg) (ok_frame_numbers : Ok_frame_numbers P w base T) (ok_is_record : Ok_is_record P w base T) : Ok_read_frame P w base T := by
  refine T.F_read_frame.ok sc_read_frame (fun vs H Q E h => ?_) (fun cdv A outer s H vs Q E hr h => ?_)
  · obtain ⟨G, rv, v, tv, x, hd, ns, t, rfl, _⟩ := h
    rfl
  · obtain ⟨G, rv, v, tv, x, hd, ns, t, rfl, gs, hX, hR, ok, e1, e2, e3, e4, hT, q⟩ := h
    refine ⟨_, (pss_cons (ps_if (PW.pt (pw_or (pt_not (pt_val (pe_call ok_is_record (hr.mono (by decide)) (by rfl) T.g_is_record T.F_is_record.kp (b_is_record T) .nil pass0 (pa_cons (pv 1) pa_nil)))) (pw_or1 (pt_cmpR op_ne (pe_ix ix_tup (pv 1) pe_int (fun _ _ => rfl)) pe_str (nomark _))))) (pss_one (ps_ret pe_non)) pss_nil)
        (pss_cons (ps_if (pt_cmpR (op_neD hr.units) (pe_slice sl_tup (pv 1) (po_some pe_int) (po_some pe_int)) (pe_tup (pa_cons (pe_ix ix_tup (pv 0) pe_int (fun _ _ => rfl)) (pa_cons (pe_ix ix_tup (pv 0) pe_int (fun _ _ => rfl)) (pa_cons (pe_ix ix_tup (pv 0) pe_int (fun _ _ => rfl)) (pa_cons (pe_ix ix_tup (pv 0) pe_int (fun _ _ => rfl)) pa_nil))))) (nomark _)) (pss_one (ps_ret pe_non)) pss_nil)
        (pss_one (ps_ret (pe_call ok_frame_numbers (hr.mono (by decide)) (by rfl) T.g_frame_numbers T.F_frame_numbers.kp (b_frame_numbers T) .nil pass0 (pa_cons (pv 1) (pa_cons (pv 2) pa_nil))))))), ?_⟩
    try dsimp only [cxOf, Cx.nox, Cx.wish, Cx.blk]
    walk_at "run"
    refine ⟨v, _, rfl, RcV.mono gs hR, ok, fun H1 s1 => ?_⟩
    obtain ⟨a, u, rfl, hS, hJ⟩ := RcV.mono (gs.trans s1) hR
    walk_at "run"
    refine r_ixT hS (at0 (n := 0) rfl) ?_
    walk_at "run"
    refine r_neS ?_
    walk_at "run"
    obtain ⟨xa, xu, xw, rfl, xS, xJ1, xJ2⟩ := IxV.mono (gs.trans s1) hX
    refine ⟨a, _, rfl, hS, by show ¬ (1 = 0 ∧ 5 = 7); decide, fun p np => ?_⟩
    have ec : cutV [.str "frame", .int hd.len, u, .int hd.lev, .int hd.step, .int (markN ns), .str (tx (written ns (coarse hd) t).1)] (some 1) (some 5) = [.int hd.len, u, .int hd.lev, .int hd.step] := rfl
    rw [ec]
    have sp := same_new np (o := .tup [.int hd.len, u, .int hd.lev, .int hd.step])
    have xS := sm_tup sp xS
    walk_at "run"
    refine r_ixT xS (at0 (n := 2) rfl) ?_
    walk_at "run"
    refine r_ixT xS (at0 (n := 4) rfl) ?_
    walk_at "run"
    refine r_ixT xS (at0 (n := 5) rfl) ?_
    walk_at "run"
    refine r_ixT xS (at0 (n := 6) rfl) ?_
    walk_at "run"
    refine ⟨szr rfl, fun p2 np2 => ?_⟩
    have sp2 := same_new np2 (o := .tup [.int x.len, xw, .int x.lev, .int x.step])
    rw [e1, e3, e4] at sp2 ⊢
    rw [e2] at xJ2
    refine r_neSame (.tup (SqT.of (sp2 _ _ upd_same)) (.cons (.int _) (.cons (dp_pair (JtV.mono (sp.trans sp2) hJ)) (.cons (.int _) (.cons (.int _) .nil))))) (.tup (SqT.of upd_same) (.cons (.int _) (.cons (dp_pair (JtV.mono (sp.trans sp2) xJ2)) (.cons (.int _) (.cons (.int _) .nil))))) rfl (by simp [PyData.eqv, PyData.eqvAll]) ?_
    walk_at "run"
    have s13 := (s1.trans sp).trans sp2
    refine ⟨G, .ref a, tv, hd, ns, t, rfl, gs.trans s13, hR, ok, hT, fun G2 H2 v2 gr2 pv => ?_⟩
    exact q _ _ _ ((Grow.pure gs s13).trans gr2) pv
theorem ok_is_state {P : Program} {w : World} {base : Heap} {K : PySem.W.Frag} {mg : Str → Option Value} (T : Txt K mg) (ok_is_record : Ok_is_record P w base T) : Ok_is_state P w base T := by
  refine T.F_is_state.ok sc_is_state (fun vs H Q E h => ?_) (fun cdv A outer s H vs Q E hr h => ?_)
  · obtain ⟨v, t, rfl, _⟩ := h
    rfl
  · obtain ⟨v, t, rfl, hR, ok, q⟩ := h
    refine ⟨_, (pss_one (ps_ret (pe_and (pe_call ok_is_record (hr.mono (by decide)) (by rfl) T.g_is_record T.F_is_record.kp (b_is_record T) .nil pass0 (pa_cons (pv 0) pa_nil)) (pe_one (pe_cmpR op_eq (pe_ix ix_tup (pv 0) pe_int (fun _ _ => rfl)) pe_str (nomark _)))))), ?_⟩
    try dsimp only [cxOf, Cx.nox, Cx.wish, Cx.blk]
    walk_at "run"
    refine ⟨v, .st t, rfl, hR, ok, fun H1 s1 => ?_⟩
    obtain ⟨a, u, rfl, hS, hT⟩ := hR
    walk_at "run"
    refine r_ixT (sm_tup s1 hS) (at0 (n := 0) rfl) ?_
    walk_at "run"
    exact r_eqS (q _ s1)
theorem ok_fetched_values {P : Program} {w : World} {base : Heap} {K : PySem.W.Frag} {mg : Str → Option Value} (T : Txt K mg) (fa : Addr) (G0 : Hp) (rs : List Rc) (L : Nat) (hF : FetchAt P w K mg base fa G0 rs L) (ok_records_of : Ok_records_of P w base T) (ok_read_frame : Ok_read_frame P w base T) (ok_block_values : Ok_block_values P w base T) (ok_is_state : Ok_is_state P w base T) : Ok_fetched_values P w base T fa G0 rs L := by
  refine T.F_fetched_values.ok sc_fetched_values (fun vs H Q E h => ?_) (fun cdv A outer s H vs Q E hr h => ?_)
  · obtain ⟨G, v, fv, rfl, _⟩ := h
    rfl
  · obtain ⟨G, v, fv, rfl, sG0, gs, hX, hFr, good, l100, q⟩ := h
    obtain ⟨xa, xvs, rfl, hXa, aX⟩ := id hX
    obtain ⟨fa', rfl, hFa⟩ := id hFr
    obtain ⟨ln1, ln2, ln3⟩ := lens rs
    have ln4 := blocks_le rs
    refine ⟨_, (pss_cons (ps_setDc (i := 3) (own := [("frame", 8), ("row", 9)]) (by rfl) sc_fetched_values.nd rfl rfl (sw_trueD rfl rfl rfl (by decide +kernel)) (pi_enum (by rfl) T.n_enumerate (pa_cons (pv 0) pa_nil)) (blkOk_by (own := [("frame", 8), ("row", 9)]) (N := ["index", "fetch", "frames", "rows", "values", "tables", "at", "record", "frame", "row", "found"]) (sc := defScope s_fetched_values) (by decide +kernel)) (fun _ _ _ _ _ => (show PG _ _ (gTup K 2 _) from pg_tup rfl (pgs_cons (pg_name (i := 8) sc_fetched_values.nd rfl (by first | exact Or.inl rfl | exact Or.inr rfl)) (pgs_cons (pg_name (i := 9) sc_fetched_values.nd rfl (by first | exact Or.inl rfl | exact Or.inr rfl)) pgs_nil)))) (fun _ _ _ _ _ => pts_nil) (fun _ _ _ _ _ => (pe_ix (show IxR _ (rIxT K) from ix_tup) (pv 9) pe_int (fun _ _ => rfl))) (fun _ _ _ _ _ => (pe_tup (pa_cons (pv 8) (pa_cons (pv 9) pa_nil)))))
        (pss_cons (ps_par (i := 4) (j := 5) (by rfl) sc_fetched_values.nd rfl rfl (by decide) rfl rfl (pa_cons pe_dnewK (pa_cons (pe_glob (v := .ref (He.ga K "START")) (by rfl) T.g_START rfl) pa_nil)) (by rfl))
        (pss_cons (ps_for PassesOwn.never rfl (pi_list (pe_call ok_records_of (hr.mono (by decide)) (by rfl) T.g_records_of T.F_records_of.kp (b_records_of T) .nil pass0 (pa_cons (pv 0) (pa_cons (pv 2) pa_nil)))) (pg_name (i := 6) sc_fetched_values.nd rfl (Or.inl rfl)) (pss_cons (ps_set (i := 7) sc_fetched_values.nd rfl (Or.inl rfl) (pe_callF (i := 1) hF (hr.mono (by decide)) rfl (Or.inl rfl) (pa_cons (pv 6) pa_nil)))
        (pss_cons (ps_if (pt_cmp (pc_dnotin (hu_of hr) (pv 6) (pv 3))) (pss_cons (ps_if (pt_not (pt_val (pe_call ok_is_state (hr.mono (by decide)) (by rfl) T.g_is_state T.F_is_state.kp (b_is_state T) .nil pass0 (pa_cons (pv 7) pa_nil)))) (pss_one ps_never) pss_nil)
        (pss_cons (ps_set (i := 5) sc_fetched_values.nd rfl (Or.inl rfl) (pe_ix ix_tup (pv 7) pe_int (fun _ _ => rfl)))
        (pss_one ps_continue))) pss_nil)
        (pss_cons (ps_asg (pe_dget (hu_of hr) (pv 3) (pv 6) (fun _ _ => rfl)) (pg_tup rfl (pgs_cons (pg_name (i := 8) sc_fetched_values.nd rfl (Or.inl rfl)) (pgs_cons (pg_name (i := 9) sc_fetched_values.nd rfl (Or.inl rfl)) pgs_nil))))
        (pss_cons (ps_set (i := 10) sc_fetched_values.nd rfl (Or.inl rfl) (pe_call ok_read_frame (hr.mono (by decide)) (by rfl) T.g_read_frame T.F_read_frame.kp (b_read_frame T) .nil pass0 (pa_cons (pv 9) (pa_cons (pv 7) (pa_cons (pv 5) pa_nil)))))
        (pss_cons (ps_if (pt_cmpR op_isNo (pv 10) pe_non (nomark _)) (pss_one ps_never) pss_nil)
        (pss_cons (ps_dput (hu_of hr) (pv 4) (pv 8) (pe_call ok_block_values (hr.mono (by decide)) (by rfl) T.g_block_values T.F_block_values.kp (b_block_values T) .nil pass0 (pa_cons (pv 7) (pa_cons (pe_ix ix_tup (pv 10) pe_int (fun _ _ => rfl)) pa_nil))) rfl)
        (pss_one (ps_set (i := 5) sc_fetched_values.nd rfl (Or.inl rfl) (pe_ix ix_tup (pv 10) pe_int (fun _ _ => rfl)))))))))))
        (pss_one (ps_ret (pv 4)))))), ?_⟩
    try dsimp only [cxOf, Cx.nox, Cx.wish, Cx.blk]
    walk_at "run"
    refine r_kE (SqL.of (gs _ _ hXa)) ?_
    intro D nD
    have nDG := gs.free nD
    refine dc_enum (K := K) (a := xa) (xs := xvs) (fun i H1 => ∃ (G1 : Hp) (kvs : List (Key × V)), Grow [] G H G1 H1 ∧ G1 D = none ∧ H1 D = some (.dK kvs) ∧ kvs.length ≤ i ∧ RowsV K G1 kvs (ixs rs) i)
      ⟨G, [], (Grow.refl gs).mut nD nDG, nDG, upd_same, Nat.le_refl _, RowsV.nil⟩ (fun i H1 _ ⟨G1, kvs, gr, _⟩ => SqL.of (gr.gh _ _ (gr.gg _ _ hXa))) ?_ ?_
    · rintro i y t H1 hi nt ⟨G1, kvs, gr, g1, hd, kl, rV⟩
      obtain ⟨x, hx, ra, ru, rw', rfl, rS, rJ1, rJ2⟩ := aX.get hi
      have il := (List.getElem?_eq_some_iff.mp hx).1
      have gr1 := gr.new nt (o := .tup [.int (i : Nat), .ref ra])
      have sG := same_new (o := .tup [.int (i : Nat), .ref ra]) (gr.gh.free nt)
      have hd1 := same_new nt (o := .tup [.int (i : Nat), .ref ra]) _ _ hd
      have k1 := kn (u := .tup [.int (i : Nat), .ref ra]) hd nt g1
      refine r_gTup (SqT.of upd_same) rfl ?_
      have rV := rV.mono sG
      generalize upd G1 t (.tup [.int (i : Nat), .ref ra]) = G2 at *
      generalize upd H1 t (.tup [.int (i : Nat), .ref ra]) = H2 at *
      walk_at "run"
      refine ⟨rfl, ?_⟩
      walk_at "run"
      have s2 := gr1.gg.trans gr1.gh
      refine r_ixT (sm_tup s2 rS) (at0 (n := 0) rfl) ?_
      walk_at "run"
      refine ⟨szr rfl, fun ta na => ?_⟩
      have gr2 := gr1.new na (o := .tup [.int (i : Nat), .ref ra])
      have sG2 := same_new (o := .tup [.int (i : Nat), .ref ra]) (gr1.gh.free na)
      have hd2 := same_new na (o := .tup [.int (i : Nat), .ref ra]) _ _ hd1
      have k2 := kn (u := .tup [.int (i : Nat), .ref ra]) hd1 na k1
      refine ⟨kvs, Sum.inl (x.rc : Int), rfl, hd2, szl (by omega), _, _, gr2.mut nD k2, k2, upd_same, put_len kl, (rV.mono sG2).put hx (fun j y' hj hy' => by have := rc_lt hj hy' hx; omega) upd_same ⟨ra, ru, rw', rfl, ?_, ?_, ?_⟩⟩
      · exact sm_tup (gr1.gg.trans sG2) rS
      · exact JtV.mono (gr1.gg.trans sG2) rJ1
      · exact JtV.mono (gr1.gg.trans sG2) rJ2
    rintro H1 ⟨G1, kvs, gr, g1, hd, kl, rV⟩
    rw [aX.len] at rV
    walk_at "run"
    intro wv nw
    have gr1 := gr.freeze nD g1 hd
    have hdG : upd G1 D (.dK kvs) D = some (.dK kvs) := upd_same
    have sD := same_new (o := .dK kvs) g1
    have rV := rV.mono sD
    have sA0 := gr.gg.trans sD
    have hXa2 := sA0 _ _ hXa
    have hFa2 := sA0 _ _ hFa
    have aX := aX.imp fun v d z => IxV.mono sA0 z
    generalize upd G1 D (.dK kvs) = G2 at *
    have nwG := gr1.gh.free nw
    have nwH := gr1.no nw
    walk_at "run"
    have gr2 := gr1.mut nwH nwG (o := .dK [])
    refine ⟨G2, .ref xa, .ref fa', ixs rs, readL (ixs rs) L, rfl, gr2.gh, ⟨xa, xvs, rfl, hXa2, aX⟩, ⟨fa', rfl, hFa2⟩, read_lt, Nat.le_trans (read_le _ _) (by omega), fun x hx => ?_, fun G3 H3 v3 gr3 p3 => ?_⟩
    · obtain ⟨i, hi, e⟩ := List.mem_iff_getElem.mp hx
      have hx' : (ixs rs)[i]? = some x := by rw [List.getElem?_eq_getElem hi, e]
      have := rc_len hx'
      have := (org_at hx').1
      omega
    obtain ⟨sa, rfl, hS⟩ := p3
    have hw3 := gr3.hs _ _ (upd_same (H := H1) (a := wv) (o := .dK []))
    have nw3 := gr3.nw wv (by rw [upd_same]; exact fun z => nomatch z) nwG
    walk_at "run"
    refine r_kL (SqL.of (gr3.gh _ _ hS)) ?_
    have s23 := gr3.gg
    refine for_list (K := K) (a := sa) (xs := (cI (recsOf (ixs rs) (readL (ixs rs) L))).map V.int) (fun j σ H4 => ∃ (G4 : Hp) (tv : V) (wk : List (Key × V)) (x6 x7 x8 x9 x10 : Option V), σ = [some (.ref xa), some (.ref fa), some (.ref fa'), some (.ref D), some (.ref wv), some tv, x6, x7, x8, x9, x10] ∧
      Grow [] G H G4 H4 ∧ Same G3 G4 ∧ G4 wv = none ∧ H4 wv = some (.dK wk) ∧ wk.length ≤ j ∧ TbsV K G4 tv (tbAt rs (seqOf rs L) j) ∧ ValsV K G4 wk rs ((seqOf rs L).take j))
      ⟨G3, _, [], none, none, none, none, none, rfl, gr2.trans gr3, Same.refl _, nw3, hw3, Nat.le_refl _, ⟨_, _, _, rfl, T.t_START _, ⟨_, rfl, T.t_START0 _⟩, ⟨_, rfl, T.t_START1 _⟩⟩, ValsV.nil⟩
      (fun j σ H4 _ ⟨G4, _, _, _, _, _, _, _, _, g4, s34, _⟩ => SqL.of (g4.gh _ _ (s34 _ _ hS))) ?_ ?_
    · rintro j y σ H4 hj ⟨G4, tv, wk, x6, x7, x8, x9, x10, rfl, gr4, s34, nw4, hw4, wl4, hT, hV⟩
      obtain ⟨z, hz, rfl⟩ := map_get hj
      obtain ⟨m, hm, rfl⟩ := cI_get hz
      have hm : (seqOf rs L)[j]? = some m := hm
      have mm := List.mem_of_getElem? hm
      have mlt := seq_lt mm
      obtain ⟨r, hr⟩ : ∃ r, rs[m]? = some r := ⟨_, List.getElem?_eq_getElem mlt⟩
      obtain ⟨rok, _⟩ := good_at rs s0 m r good hr
      have sl : j < 10200 := by
        have := (List.getElem?_eq_some_iff.mp hm).1
        have := seq_len rs L
        omega
      have sA : Same G2 G4 := gr3.gg.trans s34
      have sGG : Same G G2 := sA0
      have s0H : Same G0 H4 := (sG0.trans (sGG.trans sA)).trans gr4.gh
      rw [List.take_add_one, hm, tbAt_s hm hr]
      walk_at "run"
      refine r_callL rfl ?_
      walk_at "run"
      refine ⟨m, r, rfl, s0H, mm, hr, fun rv hRV0 => ?_⟩
      have hRV := RcV.mono (sG0.trans (sGG.trans sA)) hRV0
      have hdH := gr4.gh _ _ (sA _ _ hdG)
      walk_at "run"
      refine ⟨D, valV kvs (Sum.inl (m : Int)), rfl, DGet.k (k := Sum.inl (m : Int)) hdH, ?_⟩
      cases r with
      | st t =>
        have hno : ∀ (f : Nat) (x : Ix), (ixs rs)[f]? = some x → x.rc ≠ m := fun f x hx e => by
          obtain ⟨h', ns', t', k, _⟩ := frame_at hx
          rw [e, hr] at k
          exact nomatch (Option.some.inj k)
        rw [rV.1 m (fun f x _ hx => hno f x hx), show (!(none : Option V).isSome) = true from rfl]
        walk_at "run"
        refine ⟨rv, t, rfl, RcV.mono gr4.gh hRV, rok, fun H5 s5 => ?_⟩
        walk_at "run"
        obtain ⟨ra, ru, rfl, rS, rT⟩ := hRV
        refine r_ixT (sm_tup (gr4.gh.trans s5) rS) (at0 (n := 1) rfl) ?_
        walk_at "run"
        exact ⟨G4, ru, wk, _, _, _, _, _, rfl, gr4.trans (Grow.pure gr4.gh s5), s34, nw4, s5 _ _ hw4, by omega, rT, hV.skip hno⟩
      | fr h ns t =>
        obtain ⟨f, x, hx, ex⟩ := rec_frame rs 0 0 (0, 0) 0 m h ns t hr
        rw [Nat.zero_add] at ex
        have fl := (List.getElem?_eq_some_iff.mp hx).1
        obtain ⟨Tt, tvv, hval, hTt, hIx⟩ := rV.2 f x fl hx
        rw [ex] at hval
        have etb := seq_tb good hm hr
        rw [etb] at hT
        obtain ⟨h', ns', t', k1, k2, k3, k4, k5, k6, k7, k8⟩ := frame_at hx
        rw [ex, hr] at k1
        have k1 := Option.some.inj k1
        cases k1
        rw [hval, show (!(some (V.ref Tt)).isSome) = false from rfl]
        walk_at "run"
        refine ⟨D, .ref Tt, rfl, by rw [← hval]; exact DGet.k (k := Sum.inl (m : Int)) hdH, ?_⟩
        refine r_gTup (SqT.of (gr4.gh _ _ (sA _ _ hTt))) rfl ?_
        walk_at "run"
        refine ⟨G4, tvv, rv, tv, x, h, ns, t, rfl, gr4.gh, IxV.mono sA hIx, hRV, rok, k5, k6, k7, k8, hT, fun G5 H5 v5 gr5 p5 => ?_⟩
        obtain ⟨fa5, fb5, fu5, rfl, fS5, fL5, fT5⟩ := p5
        walk_at "run"
        refine r_isNoR ?_
        walk_at "run"
        refine r_ixT (sm_tup gr5.gh fS5) (at0 (n := 0) rfl) ?_
        walk_at "run"
        refine ⟨G5, rv, .ref fb5, h, ns, t, rfl, gr5.gh, RcV.mono gr5.gg hRV, rok, ⟨fb5, rfl, fL5⟩, fun G6 H6 v6 gr6 p6 => ?_⟩
        have gr56 := gr5.trans gr6
        have hw6 := gr56.hs _ _ hw4
        have nw6 := gr56.nw wv (by rw [hw4]; exact fun z => nomatch z) nw4
        walk_at "run"
        refine ⟨wv, _, rfl, DPut.k (k := Sum.inl (f : Int)) hw6 (szl (by omega)), ?_⟩
        walk_at "run"
        have gr7 := (gr4.trans gr56).mut nwH nw6 (o := .dK (putK wk (Sum.inl (f : Int)) v6))
        refine r_ixT (sm_tup (gr6.gg.trans gr7.gh) fS5) (at0 (n := 1) rfl) ?_
        walk_at "run"
        exact ⟨G6, fu5, _, _, _, _, _, _, rfl, gr7, s34.trans gr56.gg, nw6, upd_same, put_len wl4, TbsV.mono gr6.gg fT5, (hV.mono gr56.gg).put hx ex k3 p6⟩
    · rintro σ H4 ⟨G4, tv, wk, x6, x7, x8, x9, x10, rfl, gr4, s34, nw4, hw4, wl4, hT, hV⟩
      rw [List.length_map, cI_len, show (recsOf (ixs rs) (readL (ixs rs) L)).length = (seqOf rs L).length from rfl, List.take_length] at hV
      walk_at "run"
      have gr5 := gr4.freeze nwH nw4 hw4
      refine q _ _ _ gr5 ⟨wv, wk, rfl, upd_same, fun f x b hx hb => ?_⟩
      obtain ⟨h1, h2⟩ := (hV.mono (same_new (o := .dK wk) nw4)) f x b hx hb
      cases hg : x.gone L with
      | true =>
        rw [if_pos rfl]
        exact h2 fun z => by have := seq_not_gone hx z; rw [hg] at this; exact nomatch this
      | false =>
        rw [if_neg Bool.false_ne_true]
        exact h1 (seq_has hx hg)
theorem ok_require_lost {P : Program} {w : World} {base : Heap} {K : PySem.W.Frag} {mg : Str → Option Value} (T : Txt K mg) (ok_is_row : Ok_is_row P w base T) (ok_is_integer_streams : Ok_is_integer_streams P w base T) : Ok_require_lost P w base T := by
  refine T.F_require_lost.ok sc_require_lost (fun vs H Q E h => ?_) (fun cdv A outer s H vs Q E hr h => ?_)
  · obtain ⟨v, ns, rfl, _⟩ := h
    rfl
  · obtain ⟨v, ns, rfl, ⟨a, rfl, hL⟩, q⟩ := h
    refine ⟨_, (pss_cons (ps_if (pt_not (pt_val (pe_call ok_is_row (hr.mono (by decide)) (by rfl) T.g_is_row T.F_is_row.kp (b_is_row T) .nil pass0 (pa_cons (pv 0) pa_nil)))) (pss_one ps_never) pss_nil)
        (pss_one (ps_for PassesOwn.never rfl (pi_list (pv 0)) (pg_name (i := 1) sc_require_lost.nd rfl (Or.inl rfl)) (pss_one (ps_if (PW.pt (pw_or (pt_not (pt_val (pe_call ok_is_integer_streams (hr.mono (by decide)) (by rfl) T.g_is_integer_streams T.F_is_integer_streams.kp (b_is_integer_streams T) .nil pass0 (pa_cons (pv 1) pa_nil)))) (pw_or1 (pt_cmpR op_lt (pv 1) pe_int (nomark _))))) (pss_one ps_never) pss_nil))))), ?_⟩
    try dsimp only [cxOf, Cx.nox, Cx.wish, Cx.blk]
    walk_at "run"
    refine ⟨a, _, rfl, hL, fun H1 s1 => ?_⟩
    walk_at "run"
    refine r_kL (SqL.of (s1 _ _ hL)) ?_
    refine for_list (K := K) (a := a) (xs := (cI ns).map V.int) (fun i σ H2 => H2 = H1 ∧ ∃ x, σ = [some (.ref a), x]) ⟨rfl, none, rfl⟩ (fun i σ H2 _ ⟨e, _⟩ => by rw [e]; exact SqL.of (s1 _ _ hL)) ?_ ?_
    · rintro i y σ H2 hi ⟨rfl, x, rfl⟩
      obtain ⟨z, hz, rfl⟩ := map_get hi
      obtain ⟨n, hn, rfl⟩ := cI_get hz
      walk_at "run"
      refine ⟨n, rfl, ?_⟩
      walk_at "run"
      exact ⟨rfl, _, rfl⟩
    · rintro σ H2 ⟨rfl, x, rfl⟩
      exact q _ s1
theorem ok_unread_frames {P : Program} {w : World} {base : Heap} {K : PySem.W.Frag} {mg : Str → Option Value} (T : Txt K mg) (ok_require_lost : Ok_require_lost P w base T) : Ok_unread_frames P w base T := by
  refine T.F_unread_frames.ok sc_unread_frames (fun vs H Q E h => ?_) (fun cdv A outer s H vs Q E hr h => ?_)
  · obtain ⟨G, v, lv, ix, L, rfl, _⟩ := h
    rfl
  · obtain ⟨G, v, lv, ix, L, rfl, gs, ⟨xa, xvs, rfl, hX, aX⟩, ⟨la, rfl, hL⟩, x100, q⟩ := h
    refine ⟨_, (pss_cons (ps_expr (pe_call ok_require_lost (hr.mono (by decide)) (by rfl) T.g_require_lost T.F_require_lost.kp (b_require_lost T) .nil pass0 (pa_cons (pv 1) pa_nil)))
        (pss_cons (ps_set (i := 2) sc_unread_frames.nd rfl (Or.inl rfl) (pe_lst pa_nil))
        (pss_cons (ps_for PassesOwn.never rfl (pi_enum (by rfl) T.n_enumerate (pa_cons (pv 0) pa_nil)) (pg_tup rfl (pgs_cons (pg_name (i := 3) sc_unread_frames.nd rfl (Or.inl rfl)) (pgs_cons (pg_name (i := 4) sc_unread_frames.nd rfl (Or.inr rfl)) pgs_nil))) (pss_one (ps_if (pt_val (pe_callB (cr_any rfl) (by rfl) T.n_any (by decide +kernel) (pa_cons (pe_lc (own := [("at", 5)]) (by rfl) sc_unread_frames.nd (pi_list (pv 1)) (blkOk_by (own := [("at", 5)]) (N := ["index", "lost", "found", "frame", "row", "at"]) (sc := defScope s_unread_frames) (by decide +kernel)) (fun _ _ _ _ _ => (pg_name (i := 5) sc_unread_frames.nd rfl (by first | exact Or.inl rfl | exact Or.inr rfl))) (fun _ _ _ _ _ => pts_nil) (fun _ _ _ _ _ => (pe_chain op_le op_le (pe_ix (show IxR _ (rIxT K) from ix_tup) (pv 4) pe_int (fun _ _ => rfl)) (pv 5) (pe_ix (show IxR _ (rIxT K) from ix_tup) (pv 4) pe_int (fun _ _ => rfl))))) pa_nil))) (pss_one (ps_expr (pe_bm PySem.F.plainAttrs_list PySem.F.slot_list_append PySem.F.type_list_append mt_append (pv 2) (pa_cons (pv 3) pa_nil)))) pss_nil)))
        (pss_one (ps_ret (pv 2)))))), ?_⟩
    try dsimp only [cxOf, Cx.nox, Cx.wish, Cx.blk]
    walk_at "run"
    refine ⟨_, [L], rfl, ⟨la, rfl, gs _ _ hL⟩, fun H1 s1 => ?_⟩
    walk_at "run"
    refine ⟨szr rfl, fun p np => ?_⟩
    walk_at "run"
    have gs1 := gs.trans s1
    have nG := gs1.free np
    have npH : H p = none := s1.free np
    refine r_kE (SqL.of (same_new np _ _ (gs1 _ _ hX))) ?_
    refine for_enum (K := K) (a := xa) (xs := xvs) (fun i σ H2 => ∃ (x3 x4 : Option V), σ = [some (.ref xa), some (.ref la), some (.ref p), x3, x4, none] ∧ Grow [] G H G H2 ∧ H2 p = some (.lst ((cI (unreadN ix L i)).map V.int)))
      ⟨none, none, rfl, (Grow.pure gs s1).mut npH nG, upd_same⟩ (fun i σ H2 _ ⟨_, _, _, gr, _⟩ => SqL.of (gr.gh _ _ hX)) ?_ ?_
    · rintro i y t σ H2 hi nt ⟨x3, x4, rfl, gr, hp⟩
      obtain ⟨x, hx, ra, ru, rw', rfl, rS, _, _⟩ := aX.get hi
      have il := (List.getElem?_eq_some_iff.mp hx).1
      have ul := unreadN_len ix L i
      rw [unreadN_s, show goneAt ix L i = x.gone L by unfold goneAt; rw [hx]]
      have s2 := same_new nt (o := .tup [.int (i : Nat), .ref ra])
      have gr2 := gr.trans (Grow.pure gr.gh s2)
      have hp2 := s2 _ _ hp
      refine r_gTup (SqT.of upd_same) rfl ?_
      walk_at "run"
      refine r_kL (SqL.of (gr2.gh _ _ hL)) ?_
      intro Z nz
      have nzG := gr2.gh.free nz
      have nzH := gr2.no nz
      refine lc_list (K := K) (a := la) (xs := (cI [L]).map V.int) (fun j H3 => Grow [] G H G H3 ∧ H3 p = some (.lst ((cI (unreadN ix L i)).map V.int)) ∧ H3 Z = some (.lst ((([x.gone L]).take j).map V.bl))) ?_ ?_ ?_ ?_
      · exact ⟨gr2.mut nzH nzG, by rw [upd_ne (ne_of_none hp2 nz)]; exact hp2, upd_same⟩
      · exact fun i H3 _ ⟨g3, _⟩ => SqL.of (g3.gh _ _ hL)
      · rintro j y H3 hj ⟨g3, hp3, hz3⟩
        obtain ⟨z, hz, rfl⟩ := map_get hj
        obtain ⟨n, hn, rfl⟩ := cI_get hz
        have j0 : j = 0 := by have := (List.getElem?_eq_some_iff.mp hn).1; rw [List.length_singleton] at this; omega
        subst j0
        have eL : L = n := Option.some.inj hn
        subst eL
        walk_at "run"
        refine ⟨rfl, ?_⟩
        walk_at "run"
        have rS3 := sm_tup (gs.trans g3.hs) rS
        refine r_ixT rS3 (at0 (n := 7) rfl) ?_
        walk_at "run"
        have fin : ∀ b : Bool, b = x.gone L → ∃ acc, H3 Z = some (.lst acc) ∧ acc.length < sizeLine ∧ Grow [] G H G (upd H3 Z (.lst (acc ++ [V.bl b]))) ∧ upd H3 Z (.lst (acc ++ [V.bl b])) p = some (.lst ((cI (unreadN ix L i)).map V.int)) ∧ upd H3 Z (.lst (acc ++ [V.bl b])) Z = some (.lst ((([x.gone L]).take 1).map V.bl)) := by
          intro b eb
          subst eb
          refine ⟨_, hz3, szl (Nat.zero_le _), g3.mut nzH nzG, ?_, upd_same⟩
          rw [upd_ne (ne_of_none hp2 nz)]
          exact hp3
        refine r_dec (fun h1 => ?_) (fun h1 => ?_)
        · walk_at "run"
          refine r_ixT rS3 (at0 (n := 0) rfl) ?_
          walk_at "run"
          exact fin _ (by unfold Ix.gone; rw [decide_eq_decide]; omega)
        · walk_at "run"
          exact fin _ (by unfold Ix.gone; exact (decide_eq_false fun z => h1 (by omega)).symm)
      · rintro H3 ⟨g3, hp3, hz3⟩
        walk_at "run"
        refine ⟨Z, _, rfl, SqL.of hz3, ?_⟩
        walk_at "run"
        rw [show (([x.gone L]).take ((cI [L]).map V.int).length).any id = x.gone L by show (x.gone L || false) = _; rw [Bool.or_false]]
        cases hg : x.gone L with
        | true =>
          walk_at "run"
          refine r_tyL (SqL.of hp3) ?_
          walk_at "run"
          refine r_app hp3 (szl (by rw [List.length_map, cI_len]; omega)) ?_
          walk_at "run"
          refine ⟨_, _, rfl, g3.mut npH nG, ?_⟩
          rw [upd_same, if_pos rfl, cI_app, List.map_append]
          rfl
        | false =>
          walk_at "run"
          refine ⟨_, _, rfl, g3, ?_⟩
          rw [hp3, if_neg Bool.false_ne_true, List.append_nil]
    · rintro σ H2 ⟨x3, x4, rfl, gr, hp⟩
      rw [aX.len] at hp
      walk_at "run"
      exact q _ _ _ (gr.freeze npH nG hp) ⟨p, rfl, upd_same⟩
theorem ok_touched {P : Program} {w : World} {base : Heap} {K : PySem.W.Frag} {mg : Str → Option Value} (T : Txt K mg) (ok_unread_frames : Ok_unread_frames P w base T) : Ok_touched P w base T := by
  refine T.F_touched.ok sc_touched (fun vs H Q E h => ?_) (fun cdv A outer s H vs Q E hr h => ?_)
  · obtain ⟨G, v, lv, ix, L, rfl, _⟩ := h
    rfl
  · obtain ⟨G, v, lv, ix, L, rfl, gs, hX0, hL, x100, q⟩ := h
    obtain ⟨xa, xvs, rfl, hX, aX⟩ := id hX0
    refine ⟨_, (pss_cons (ps_set (i := 2) sc_touched.nd rfl (Or.inl rfl) (pe_lst pa_nil))
        (pss_cons (ps_for PassesOwn.never rfl (pi_list (pe_call ok_unread_frames (hr.mono (by decide)) (by rfl) T.g_unread_frames T.F_unread_frames.kp (b_unread_frames T) .nil pass0 (pa_cons (pv 0) (pa_cons (pv 1) pa_nil)))) (pg_name (i := 3) sc_touched.nd rfl (Or.inl rfl)) (pss_cons (ps_asg (pe_ix ix_list (pv 0) (pv 3) (fun _ _ => rfl)) (pg_star (i := 5) rfl (pgs_cons (pg_name (i := 4) sc_touched.nd rfl (Or.inl rfl)) (pgs_cons (pg_name (i := 5) sc_touched.nd rfl (Or.inl rfl)) (pgs_cons (pg_name (i := 6) sc_touched.nd rfl (Or.inl rfl)) (pgs_cons (pg_name (i := 7) sc_touched.nd rfl (Or.inl rfl)) (pgs_cons (pg_name (i := 8) sc_touched.nd rfl (Or.inl rfl)) (pgs_starred (pg_name (i := 9) sc_touched.nd rfl (Or.inl rfl)) pgs_nil))))))))
        (pss_cons (ps_par (i := 10) (j := 11) (by rfl) sc_touched.nd rfl rfl (by decide) rfl rfl (pa_cons (pe_op op_sub (pv 5) (pe_ix ix_tup (pv 7) pe_int (fun _ _ => rfl))) (pa_cons (pe_op op_add (pe_op op_add (pv 5) (pv 6)) (pe_ix ix_tup (pv 8) pe_int (fun _ _ => rfl))) pa_nil)) (by rfl))
        (pss_cons (ps_if (PW.pt (pw_and (pt_cmpR (op_neD hr.units) (pv 2) (pe_lst pa_nil) (nomark _)) (pw_and1 (pt_cmpR op_le (pv 10) (pe_ix ix_tup (pe_ix ix_list (pv 2) (pe_un un_neg pe_int) (fun _ _ => rfl)) pe_int (fun _ _ => rfl)) (nomark _))))) (pss_one (ps_set (i := 10) sc_touched.nd rfl (Or.inl rfl) (pe_ix ix_tup (pe_bm0 PySem.F.plainAttrs_list PySem.F.slot_list_pop PySem.F.type_list_pop mt_pop (pv 2)) pe_int (fun _ _ => rfl)))) pss_nil)
        (pss_one (ps_expr (pe_bm PySem.F.plainAttrs_list PySem.F.slot_list_append PySem.F.type_list_append mt_append (pv 2) (pa_cons (pe_tup (pa_cons (pv 10) (pa_cons (pv 11) pa_nil))) pa_nil))))))))
        (pss_one (ps_ret (pv 2))))), ?_⟩
    try dsimp only [cxOf, Cx.nox, Cx.wish, Cx.blk]
    walk_at "run"
    refine ⟨szr rfl, fun p np => ?_⟩
    walk_at "run"
    have nG := gs.free np
    have gr0 := (Grow.refl (M := []) gs).mut np nG (o := .lst [])
    refine ⟨G, .ref xa, lv, ix, L, rfl, gr0.gh, hX0, hL, x100, fun G1 H1 v1 gr1 p1 => ?_⟩
    obtain ⟨ua, rfl, hU⟩ := p1
    have gr2 := gr0.trans gr1
    have hp1 := gr1.hs _ _ upd_same
    have np1 := gr1.nw p (by rw [upd_same]; exact fun z => nomatch z) nG
    walk_at "run"
    refine r_kL (SqL.of (gr1.gh _ _ hU)) ?_
    refine for_list (K := K) (a := ua) (xs := (cI (unreadL ix L)).map V.int) (fun i σ H2 => ∃ (G2 : Hp) (vs : List V) (x3 x4 x5 x6 x7 x8 x9 x10 x11 : Option V), σ = [some (.ref xa), some lv, some (.ref p), x3, x4, x5, x6, x7, x8, x9, x10, x11] ∧
      Grow [] G H G2 H2 ∧ G2 p = none ∧ H2 p = some (.lst vs) ∧ All2 (fun v p => Pr K G2 v p.1 p.2) vs (((unreadL ix L).take i).foldl (stepT ix) []) ∧ vs.length ≤ i ∧ G2 ua = some (.lst ((cI (unreadL ix L)).map V.int)))
      ⟨G1, [], none, none, none, none, none, none, none, none, none, rfl, gr2, np1, hp1, All2.nil, Nat.le_refl _, hU⟩
      (fun i σ H2 _ ⟨G2, _, _, _, _, _, _, _, _, _, _, _, gr, _, _, _, _, z⟩ => SqL.of (gr.gh _ _ z)) ?_ ?_
    · rintro i y σ H2 hi ⟨G2, vs, x3, x4, x5, x6, x7, x8, x9, x10, x11, rfl, gr, g2, hp, aP, vl, hu⟩
      obtain ⟨z, hz, rfl⟩ := map_get hi
      obtain ⟨f, hf, rfl⟩ := cI_get hz
      have il := (List.getElem?_eq_some_iff.mp hf).1
      have i100 : i < 100 := by
        have := unreadN_len ix L ix.length
        rw [← unread_eq] at this
        omega
      have fl : f < ix.length := by
        have := List.mem_of_getElem? hf
        unfold unreadL at this
        exact List.mem_range.mp (List.mem_filter.mp this).1
      have hxf : ix[f]? = some ix[f] := List.getElem?_eq_getElem fl
      obtain ⟨xv, hxv, ra, ru, rw', rfl, rS, rJ1, rJ2⟩ := aX.at_ _ _ hxf
      rw [touch_snoc hf hxf]
      generalize ix[f] = x at *
      generalize ((unreadL ix L).take i).foldl (stepT ix) [] = found at *
      have s2 := gr.gg.trans gr.gh
      walk_at "run"
      refine r_ixL (SqL.of (s2 _ _ hX)) (at0 hxv) ?_
      refine ⟨ra, _, rfl, sm_tup s2 rS, show 5 ≤ 8 by decide, show 8 ≤ 1000 by decide, fun da nd => ?_⟩
      have s3 := same_new nd (o := .lst [.int x.lev, .int x.step, .int x.org])
      have gr3 := gr.trans (Grow.pure gr.gh s3)
      have hp3 := s3 _ _ hp
      walk_at "run"
      have e1 : [V.int x.rc, V.int x.start, V.int x.len, ru, rw', V.int x.lev, V.int x.step, V.int x.org].take 5 ++ [V.ref da] = [V.int x.rc, V.int x.start, V.int x.len, ru, rw', V.ref da] := rfl
      have e2 : [V.int x.rc, V.int x.start, V.int x.len, ru, rw', V.int x.lev, V.int x.step, V.int x.org].drop 5 = [.int x.lev, .int x.step, .int x.org] := rfl
      rw [e1, e2]
      walk_at "run"
      obtain ⟨lja, rfl, ljS⟩ := rJ1
      obtain ⟨rja, rfl, rjS⟩ := rJ2
      refine r_ixT (sm_tup (s2.trans s3) ljS) (at0 (n := 0) rfl) ?_
      walk_at "run"
      refine r_ixT (sm_tup (s2.trans s3) rjS) (at0 (n := 0) rfl) ?_
      walk_at "run"
      refine ⟨szr rfl, fun na nn => ?_⟩
      have s4 := same_new nn (o := .lst [])
      have gr4 := gr3.trans (Grow.pure gr3.gh s4)
      have hp4 := s4 _ _ hp3
      have aP4 := aP.imp fun v d z => Pr.mono gr4.gh z
      refine r_neLs ⟨p, rfl, hp4⟩ (aP.imp fun v d z => Pr.mono gr4.gh z) upd_same ?_
      have lv' := aP.len
      have fin : ∀ (G5 H5 : Hp) (vs5 : List V) (a : Int) (x10' : Option V), Grow [] G H G5 H5 → Same G2 G5 → G5 p = none → H5 p = some (.lst vs5) → vs5.length ≤ i → All2 (fun v p => Pr K G2 v p.1 p.2) vs5 (if found = [] then [] else if (stretchOf x).1 ≤ (found.getLastD (0, 0)).2 then found.dropLast else found) →
          a = (if found = [] then (stretchOf x).1 else if (stretchOf x).1 ≤ (found.getLastD (0, 0)).2 then (found.getLastD (0, 0)).1 else (stretchOf x).1) → ∀ ta : Addr, H5 ta = none →
          ∃ (G2 : Hp) (vs : List V) (x3 x4 x5 x6 x7 x8 x9 x10 x11 : Option V), [some (V.ref xa), some lv, some (V.ref p), some (V.int f), some (V.int x.rc), some (V.int x.start), some (V.int x.len), some (V.ref lja), some (V.ref rja), some (V.ref da), some (V.int a), some (V.int (stretchOf x).2)] = [some (.ref xa), some lv, some (.ref p), x3, x4, x5, x6, x7, x8, x9, x10, x11] ∧
            Grow [] G H G2 (upd (upd H5 ta (.tup [.int a, .int (stretchOf x).2])) p (.lst (vs5 ++ [.ref ta]))) ∧ G2 p = none ∧ (upd (upd H5 ta (.tup [.int a, .int (stretchOf x).2])) p (.lst (vs5 ++ [.ref ta]))) p = some (.lst vs) ∧ All2 (fun v p => Pr K G2 v p.1 p.2) vs (mergeS found (stretchOf x)) ∧ vs.length ≤ i + 1 ∧ G2 ua = some (.lst ((cI (unreadL ix L)).map V.int)) := by
        intro G5 H5 vs5 a x10' g5 sg n5 h5 l5 a5 ea ta na
        have g6 := g5.new na (o := .tup [.int a, .int (stretchOf x).2])
        have n6 := kn (u := .tup [.int a, .int (stretchOf x).2]) h5 na n5
        have sT := same_new (o := .tup [.int a, .int (stretchOf x).2]) (g5.gh.free na)
        refine ⟨_, vs5 ++ [.ref ta], _, _, _, _, _, _, _, _, _, rfl, g6.mut np n6, n6, upd_same, ?_, by rw [List.length_append]; exact Nat.succ_le_succ l5, sT _ _ (sg _ _ hu)⟩
        have := (a5.imp fun v d z => Pr.mono (sg.trans sT) z).snoc (d := (a, (stretchOf x).2)) ⟨ta, rfl, SqT.of (K := K) (upd_same (H := G5) (a := ta) (o := .tup [.int a, .int (stretchOf x).2]))⟩
        rw [merge_eq]
        by_cases e0 : found = []
        · rw [if_pos e0] at this ea
          rw [if_pos e0, ← ea]
          exact this
        · rw [if_neg e0] at this ea
          rw [if_neg e0]
          by_cases e3 : (stretchOf x).1 ≤ (found.getLastD (0, 0)).2
          · rw [if_pos e3] at this ea
            rw [if_pos e3, ← ea]
            exact this
          · rw [if_neg e3] at this ea
            rw [if_neg e3, ← ea]
            exact this
      walk_at "run"
      refine r_decN (fun hne => ?_) (fun he => ?_)
      · have hl : 0 < vs.length := by rw [lv']; exact List.length_pos_iff.mpr hne
        obtain ⟨q1, hq1, qa, rfl', qS2⟩ := aP.get (i := vs.length - 1) (List.getElem?_eq_getElem (by omega))
        have qS := sm_tup gr4.gh qS2
        have hvq : vs[vs.length - 1]? = some (.ref qa) := by rw [List.getElem?_eq_getElem (by omega), rfl']
        have eq1 : q1 = found.getLastD (0, 0) := by
          rw [lv', ← List.getLast?_eq_getElem?] at hq1
          rw [List.getLastD_eq_getLast?, hq1]
          rfl
        walk_at "run"
        refine r_ixL (SqL.of hp4) (atm1 hvq) ?_
        walk_at "run"
        refine r_ixT qS (at0 (n := 1) rfl) ?_
        walk_at "run"
        refine r_dec (fun h1 => ?_) (fun h1 => ?_)
        · walk_at "run"
          refine r_tyL (SqL.of hp4) ?_
          walk_at "run"
          refine ⟨p, vs, _, rfl, rfl, hp4, hvq, ?_⟩
          have gr5 := gr4.mut np g2 (o := .lst vs.dropLast)
          walk_at "run"
          refine r_ixT (sm_tup gr5.gh qS2) (at0 (n := 0) rfl) ?_
          walk_at "run"
          have h5 : upd (upd (upd H2 da (.lst [.int x.lev, .int x.step, .int x.org])) na (.lst [])) p (.lst vs.dropLast) p = some (.lst vs.dropLast) := upd_same
          refine r_tyL (SqL.of h5) ?_
          walk_at "run"
          refine ⟨szr rfl, fun ta na => ?_⟩
          walk_at "run"
          refine r_app (same_new na _ _ h5) (szl (by rw [List.length_dropLast]; omega)) ?_
          walk_at "run"
          rw [eq1] at h1
          have h1' : (stretchOf x).1 ≤ (found.getLastD (0, 0)).2 := h1
          exact fin _ _ vs.dropLast _ none gr5 (Same.refl _) g2 h5 (by rw [List.length_dropLast]; omega) (by rw [if_neg hne, if_pos h1']; exact all2_dropLast aP) (by rw [if_neg hne, if_pos h1', ← eq1]) ta na
        · walk_at "run"
          refine r_tyL (SqL.of hp4) ?_
          walk_at "run"
          refine ⟨szr rfl, fun ta na => ?_⟩
          walk_at "run"
          refine r_app (same_new na _ _ hp4) (szl (by omega)) ?_
          walk_at "run"
          exact fin _ _ vs _ none gr4 (Same.refl _) g2 hp4 vl (by rw [if_neg hne, if_neg (by rw [← eq1]; exact h1)]; exact aP) (by rw [if_neg hne, if_neg (by rw [← eq1]; exact h1)]; rfl) ta na
      · walk_at "run"
        have vs0 : vs = [] := List.eq_nil_of_length_eq_zero (by rw [lv', he]; rfl)
        subst vs0
        refine r_tyL (SqL.of hp4) ?_
        walk_at "run"
        refine ⟨szr rfl, fun ta na => ?_⟩
        walk_at "run"
        refine r_app (same_new na _ _ hp4) (szl (Nat.zero_le _)) ?_
        walk_at "run"
        exact fin _ _ [] _ none gr4 (Same.refl _) g2 hp4 (Nat.zero_le _) (by rw [if_pos he]; exact All2.nil) (by rw [if_pos he]; rfl) ta na
    · rintro σ H2 ⟨G2, vs, x3, x4, x5, x6, x7, x8, x9, x10, x11, rfl, gr, g2, hp, aP, vl, hu⟩
      rw [List.length_map, cI_len, List.take_length] at aP
      walk_at "run"
      exact q _ _ _ (gr.freeze np g2 hp) ⟨p, vs, rfl, upd_same, aP.imp fun v d z => Pr.mono (same_new g2) z⟩
theorem ok_with_silence {P : Program} {w : World} {base : Heap} {K : PySem.W.Frag} {mg : Str → Option Value} (T : Txt K mg) (ok_unfold_blocks : Ok_unfold_blocks P w base T) : Ok_with_silence P w base T := by
  refine T.F_with_silence.ok sc_with_silence (fun vs H Q E h => ?_) (fun cdv A outer s H vs Q E hr h => ?_)
  · obtain ⟨G, v, d, kvs, ix, bls, L, rfl, _⟩ := h
    rfl
  · obtain ⟨G, v, d, kvs, ix, bls, L, rfl, gs, ⟨xa, xvs, rfl, hX, aX⟩, hd, len, l100, hvals, lfl, hf, q⟩ := h
    refine ⟨_, (pss_cons (ps_setLc (i := 2) (own := [("frame", 3), ("row", 4)]) (by rfl) sc_with_silence.nd rfl rfl (sw_true rfl rfl rfl (by decide +kernel)) (pi_enum (by rfl) T.n_enumerate (pa_cons (pv 0) pa_nil)) (blkOk_by (own := [("frame", 3), ("row", 4)]) (N := ["index", "values", "blocks", "frame", "row"]) (sc := defScope s_with_silence) (by decide +kernel)) (fun _ _ _ _ _ => (show PG _ _ (gTup K 2 _) from pg_tup rfl (pgs_cons (pg_name (i := 3) sc_with_silence.nd rfl (by first | exact Or.inl rfl | exact Or.inr rfl)) (pgs_cons (pg_name (i := 4) sc_with_silence.nd rfl (by first | exact Or.inl rfl | exact Or.inr rfl)) pgs_nil)))) (fun _ _ _ _ _ => pts_nil) (fun _ _ _ _ _ => (pe_dget2 (hu_of hr) (pv 1) (pv 3) (pe_op op_rep (pe_lst (pa_cons pe_int pa_nil)) (pe_ix (show IxR _ (rIxT K) from ix_tup) (pv 4) pe_int (fun _ _ => rfl))) ⟨rfl, rfl, rfl, rfl⟩)))
        (pss_one (ps_ret (pe_call ok_unfold_blocks (hr.mono (by decide)) (by rfl) T.g_unfold_blocks T.F_unfold_blocks.kp (b_unfold_blocks T) .nil pass0 (pa_cons (pv 2) (pa_cons (pe_lc (own := [("row", 4)]) (by rfl) sc_with_silence.nd (pi_list (pv 0)) (blkOk_by (own := [("row", 4)]) (N := ["index", "values", "blocks", "frame", "row"]) (sc := defScope s_with_silence) (by decide +kernel)) (fun _ _ _ _ _ => (pg_name (i := 4) sc_with_silence.nd rfl (by first | exact Or.inl rfl | exact Or.inr rfl))) (fun _ _ _ _ _ => pts_nil) (fun _ _ _ _ _ => (pe_ix (show IxR _ (rIxT K) from ix_tup) (pv 4) pe_int (fun _ _ => rfl)))) pa_nil)))))), ?_⟩
    try dsimp only [cxOf, Cx.nox, Cx.wish, Cx.blk]
    walk_at "run"
    refine r_kE (SqL.of (gs _ _ hX)) ?_
    intro Z nz
    have nG := gs.free nz
    refine lc_enum (K := K) (a := xa) (xs := xvs) (fun i H1 => ∃ (G1 : Hp) (vs : List V), Grow [] G H G1 H1 ∧ G1 Z = none ∧ H1 Z = some (.lst vs) ∧ All2 (Li G1) vs ((quietGo L ix bls).take i))
      ⟨G, [], (Grow.refl gs).mut nz nG, nG, upd_same, by rw [List.take_zero]; exact All2.nil⟩ (fun i H1 _ ⟨G1, vs, gr, _⟩ => SqL.of (gr.gh _ _ (gr.gg _ _ hX))) ?_ ?_
    · rintro i y t H1 hi nt ⟨G1, vs, gr, g1, hz, aZ⟩
      obtain ⟨x, hx, ra, ru, rw', rfl, rS, _, _⟩ := aX.get hi
      have il := (List.getElem?_eq_some_iff.mp hx).1
      obtain ⟨b, hb⟩ : ∃ b, bls[i]? = some b := ⟨_, List.getElem?_eq_getElem (by omega)⟩
      obtain ⟨x64, hv⟩ := hvals i x b hx hb
      have hq := quiet_at L ix bls i x b hx hb
      have gr1 := gr.new nt (o := .tup [.int (i : Nat), .ref ra])
      have sG := same_new (o := .tup [.int (i : Nat), .ref ra]) (gr.gh.free nt)
      have hz1 := same_new nt (o := .tup [.int (i : Nat), .ref ra]) _ _ hz
      have k1 := kn (u := .tup [.int (i : Nat), .ref ra]) hz nt g1
      refine r_gTup (SqT.of upd_same) rfl ?_
      generalize upd G1 t (.tup [.int (i : Nat), .ref ra]) = G2 at *
      generalize upd H1 t (.tup [.int (i : Nat), .ref ra]) = H2 at *
      walk_at "run"
      refine ⟨rfl, ?_⟩
      walk_at "run"
      refine r_dget2 ?_
      walk_at "run"
      have s2 := gr1.gg.trans gr1.gh
      refine ⟨d, rfl, .inl ⟨kvs, .inl (s2 _ _ hd)⟩, ?_⟩
      walk_at "run"
      refine ⟨szr rfl, fun za zn => ?_⟩
      walk_at "run"
      have s3 := same_new zn (o := .lst [.int 0])
      refine r_ixT (sm_tup (s2.trans s3) rS) (at0 (n := 2) rfl) ?_
      refine r_repL upd_same (by omega) fun zb zbn => ?_
      have gr2 := (gr1.new zn (o := .lst [.int 0])).new zbn (o := .lst ((List.replicate x.len (0 : Int)).map V.int))
      have hz3 := same_new zbn (o := .lst ((List.replicate x.len (0 : Int)).map V.int)) _ _ (s3 _ _ hz1)
      have k3 := kn (u := .lst ((List.replicate x.len (0 : Int)).map V.int)) (s3 _ _ hz1) zbn (kn (u := .lst [.int 0]) hz1 zn k1)
      have sH := s3.trans (same_new zbn (o := .lst ((List.replicate x.len (0 : Int)).map V.int)))
      have sG3 := same_new (o := .lst [.int 0]) (gr1.gh.free zn)
      have sG4 := same_new (o := .lst ((List.replicate x.len (0 : Int)).map V.int)) ((gr1.new zn (o := .lst [.int 0])).gh.free zbn)
      refine ⟨valV kvs (Sum.inl (i : Int)), DGet.k (k := Sum.inl (i : Int)) ((s2.trans sH) _ _ hd), ?_⟩
      refine ⟨vs, hz3, szl (by rw [aZ.len, List.length_take]; omega), _, _, gr2.mut nz k3, k3, upd_same, ?_⟩
      rw [List.take_add_one, hq]
      refine (aZ.imp fun v d z => Li.mono ((sG.trans sG3).trans sG4) z).snoc ?_
      cases hg : x.gone L with
      | true =>
        rw [hg, if_pos rfl] at hv
        rw [hv, if_pos rfl]
        exact ⟨zb, rfl, upd_same⟩
      | false =>
        rw [hg, if_neg Bool.false_ne_true] at hv
        obtain ⟨u, hu, uL⟩ := hv
        rw [hu, if_neg Bool.false_ne_true]
        exact Li.mono (gr1.gg.trans (sG3.trans sG4)) uL
    rintro H1 ⟨G1, vs, gr, g1, hz, aZ⟩
    have ql := quiet_len L ix bls len
    rw [aX.len, ← ql, List.take_length] at aZ
    walk_at "run"
    have grA := gr.freeze nz g1 hz
    have sZ := same_new (o := .lst vs) g1
    have hZ : upd G1 Z (.lst vs) Z = some (.lst vs) := upd_same
    have hXA := sZ _ _ (gr.gg _ _ hX)
    have aXA := aX.imp fun v d z => IxV.mono (gr.gg.trans sZ) z
    have aZ := aZ.imp fun v d z => Li.mono sZ z
    generalize upd G1 Z (.lst vs) = GA at *
    refine r_kL (SqL.of (grA.gh _ _ hXA)) ?_
    intro Y ny
    have nyG := grA.gh.free ny
    refine lc_list (K := K) (a := xa) (xs := xvs) (fun i H9 => ∃ (vs : List V), Grow [] GA H1 GA H9 ∧ H9 Y = some (.lst vs) ∧ All2 (JtV K GA) vs ((ix.map (·.right)).take i)) ⟨[], (Grow.refl grA.gh).mut ny nyG, upd_same, by rw [List.take_zero]; exact All2.nil⟩
      (fun i H9 _ ⟨vs, g9, _⟩ => SqL.of (g9.gh _ _ hXA)) ?_ ?_
    · rintro i y H9 hi ⟨vs, g9, hy9, aY⟩
      obtain ⟨xi, hxi, ya, yu, yw, rfl, yS, yJ1, yJ2⟩ := aXA.get hi
      have il := (List.getElem?_eq_some_iff.mp hxi).1
      walk_at "run"
      refine ⟨rfl, ?_⟩
      walk_at "run"
      refine r_ixT (sm_tup g9.gh yS) (at0 (n := 4) rfl) ?_
      refine ⟨vs, hy9, szl (by rw [aY.len, List.length_take, List.length_map]; omega), _, g9.mut ny nyG, upd_same, ?_⟩
      rw [List.take_add_one, List.getElem?_map, hxi]
      exact aY.snoc yJ2
    rintro H9 ⟨vj, g9, hy9, aY⟩
    rw [aX.len, show ix.length = (ix.map (·.right)).length from (List.length_map _).symm, List.take_length] at aY
    walk_at "run"
    have grE := (grA.trans g9).freeze (grA.no ny) nyG hy9
    have sY := same_new (o := .lst vj) nyG
    refine ⟨_, .ref Z, .ref Y, quietGo L ix bls, ix.map (·.right), rfl, grE.gh, ⟨Z, _, rfl, sY _ _ hZ, aZ.imp fun v d z => Li.mono sY z⟩, ⟨Y, vj, rfl, upd_same, aY.imp fun v d z => JtV.mono sY z⟩, by rw [ql, List.length_map], by omega, lfl, hf, fun GF HF vF grF pF => ?_⟩
    exact q _ _ _ (grE.trans grF) pF
theorem ok_concealed {P : Program} {w : World} {base : Heap} {K : PySem.W.Frag} {mg : Str → Option Value} (T : Txt K mg) (fa : Addr) (G0 : Hp) (rs : List Rc) (L : Nat) (ok_fetched_values : Ok_fetched_values P w base T fa G0 rs L) (ok_unread_frames : Ok_unread_frames P w base T) (ok_with_silence : Ok_with_silence P w base T) : Ok_concealed P w base T fa G0 rs L := by
  refine T.F_concealed.ok sc_concealed (fun vs H Q E h => ?_) (fun cdv A outer s H vs Q E hr h => ?_)
  · obtain ⟨G, v, lv, rfl, _⟩ := h
    rfl
  · obtain ⟨G, v, lv, rfl, sG0, gs, hX, hL, good, l100, q⟩ := h
    obtain ⟨xa, xvs, rfl, hXa, aX⟩ := id hX
    obtain ⟨ln1, ln2, ln3⟩ := lens rs
    have ln4 := blocks_le rs
    refine ⟨_, (pss_cons (ps_set (i := 3) sc_concealed.nd rfl (Or.inr rfl) (pe_call ok_unread_frames (hr.mono (by decide)) (by rfl) T.g_unread_frames T.F_unread_frames.kp (b_unread_frames T) .nil pass0 (pa_cons (pv 0) (pa_cons (pv 2) pa_nil))))
        (pss_cons (ps_setLc (i := 4) (own := [("frame", 5)]) (by rfl) sc_concealed.nd rfl rfl (sw_true rfl rfl rfl (by decide +kernel)) (pi_range1 (by rfl) T.n_range (pa_cons (pe_callB call_lenN (by rfl) T.n_len (by decide +kernel) (pa_cons (pv 0) pa_nil)) pa_nil)) (blkOk_by (own := [("frame", 5)]) (N := ["index", "fetch", "lost", "unread", "frames", "frame"]) (sc := defScope s_concealed) (by decide +kernel)) (fun _ _ _ _ _ => (pg_name (i := 5) sc_concealed.nd rfl (by first | exact Or.inl rfl | exact Or.inr rfl))) (fun _ _ _ _ _ => (pts_one (pt_cmpR (show OpR _ (compareOp .NotIn) (rIn K true) from op_notIn_seq) (pv 5) (pv 3) (by rfl)))) (fun _ _ _ _ _ => (pv 5)))
        (pss_one (ps_ret (pe_call ok_with_silence (hr.mono (by decide)) (by rfl) T.g_with_silence T.F_with_silence.kp (b_with_silence T) .nil pass0 (pa_cons (pv 0) (pa_cons (pe_call ok_fetched_values (hr.mono (by decide)) (by rfl) T.g_fetched_values T.F_fetched_values.kp (b_fetched_values T) .nil pass0 (pa_cons (pv 0) (pa_cons (pv 1) (pa_cons (pv 4) pa_nil)))) pa_nil))))))), ?_⟩
    try dsimp only [cxOf, Cx.nox, Cx.wish, Cx.blk]
    walk_at "run"
    refine ⟨G, .ref xa, lv, ixs rs, L, rfl, gs, hX, hL, by omega, fun G1 H1 v1 gr1 p1 => ?_⟩
    obtain ⟨ua, rfl, hU⟩ := p1
    walk_at "run"
    refine r_lenL (SqL.of (gr1.gh _ _ (gr1.gg _ _ hXa))) ?_
    walk_at "run"
    refine r_kR1 (n := xvs.length) (by rw [aX.len]; omega) ?_
    intro Z nz
    have nzG := gr1.gh.free nz
    have nzH := gr1.no nz
    refine lc_range (lo := 0) (n := xvs.length) (fun i H2 => Grow [] G H G1 H2 ∧ H2 Z = some (.lst ((cI (readN (ixs rs) L i)).map V.int))) ⟨gr1.mut nzH nzG, upd_same⟩ ?_ ?_
    · rintro i H2 hi ⟨g2, hz⟩
      rw [aX.len] at hi
      have rl := readN_len (ixs rs) L i
      walk_at "run"
      refine ⟨rfl, ?_⟩
      walk_at "run"
      rw [show (0 : Int) + ((i : Nat) : Int) = (i : Int) from Int.zero_add _]
      refine r_inI (SqL.of (g2.gh _ _ hU)) ?_
      rw [show decide (i ∈ unreadL (ixs rs) L) = goneAt (ixs rs) L i by rw [Bool.eq_iff_iff, decide_eq_true_iff]; exact unread_iff hi, readN_s]
      cases goneAt (ixs rs) L i with
      | true =>
        walk_at "run"
        refine ⟨g2, ?_⟩
        rw [hz, if_pos rfl, List.append_nil]
      | false =>
        walk_at "run"
        refine ⟨_, hz, szl (by rw [List.length_map, cI_len]; omega), g2.mut nzH nzG, ?_⟩
        rw [upd_same, if_neg Bool.false_ne_true, cI_app, List.map_append]
        rfl
    rintro H2 ⟨g2, hz⟩
    rw [aX.len, ← read_eq] at hz
    walk_at "run"
    have g3 := g2.freeze nzH nzG hz
    have sZ := same_new (o := .lst ((cI (readL (ixs rs) L)).map V.int)) nzG
    have sA := gr1.gg.trans sZ
    refine ⟨_, .ref xa, .ref Z, rfl, sG0.trans sA, g3.gh, ⟨xa, xvs, rfl, sA _ _ hXa, aX.imp fun v d z => IxV.mono sA z⟩, ⟨Z, rfl, upd_same⟩, good, l100, fun G4 H4 v4 gr4 p4 => ?_⟩
    obtain ⟨d, kvs, rfl, hd, hD⟩ := p4
    walk_at "run"
    have sB := sA.trans gr4.gg
    have ql := quiet_lens good L
    have rj := right_joints rs
    refine ⟨G4, .ref xa, d, kvs, ixs rs, blocksOf rs, L, rfl, gr4.gh, ⟨xa, xvs, rfl, sB _ _ hXa, aX.imp fun v d z => IxV.mono sB z⟩, hd, ln1, by omega, fun f x b hx hb => ⟨(block_len good hx hb).2.2, hD f x b hx hb⟩, ?_, ?_, fun G5 H5 v5 gr5 p5 => ?_⟩
    · rw [flat_congr ql]
      have := flat_64 rs _ _ good
      omega
    · rw [rj, flat_congr ql, placesGo_congr _ _ _ _ ql]
      exact fits_good good
    · rw [rj] at p5
      exact q _ _ _ ((g3.trans gr4).trans gr5) p5
theorem ok_law_pool {P : Program} {w : World} {base : Heap} {K : PySem.W.Frag} {mg : Str → Option Value} (T : Txt K mg)  : Ok_law_pool P w base T := by
  refine T.F_law_pool.ok sc_law_pool (fun vs H Q E h => ?_) (fun cdv A outer s H vs Q E hr h => ?_)
  · obtain ⟨a, ns, k, rfl, _⟩ := h
    rfl
  · obtain ⟨a, ns, k, rfl, hS, hk, q⟩ := h
    refine ⟨_, (pss_cons (ps_set (i := 2) sc_law_pool.nd rfl (Or.inl rfl) pe_int)
        (pss_cons (ps_if (pt_cmpR op_lt (pv 1) (pe_callB call_lenN (by rfl) T.n_len (by decide +kernel) (pa_cons (pv 0) pa_nil)) (nomark _)) (pss_one (ps_set (i := 2) sc_law_pool.nd rfl (Or.inl rfl) (pe_callTy call_int1N (by rfl) T.n_int (by decide +kernel) (pa_cons (pe_ix ix_list (pv 0) (pv 1) (fun _ _ => rfl)) pa_nil)))) pss_nil)
        (pss_cons (ps_set (i := 3) sc_law_pool.nd rfl (Or.inl rfl) (pe_callB call_absN (by rfl) T.n_abs (by decide +kernel) (pa_cons (pv 2) pa_nil)))
        (pss_cons (ps_set (i := 4) sc_law_pool.nd rfl (Or.inl rfl) (pe_op op_add (pe_op op_add (pe_op op_mod (pe_callTy call_int1N (by rfl) T.n_int (by decide +kernel) (pa_cons (pv 2) pa_nil)) pe_int) (pe_op op_mul pe_int (pv 1))) pe_int))
        (pss_one (ps_ret (pe_lst (pa_cons (pe_op op_mul (pv 3) (pe_callTy call_int1N (by rfl) T.n_int (by decide +kernel) (pa_cons (pe_cmpR op_ge (pv 3) (pe_op op_pow pe_int pe_int) (nomark _)) pa_nil))) (pa_cons (pe_op op_mod (pe_callTy call_int1N (by rfl) T.n_int (by decide +kernel) (pa_cons (pe_op op_add (pe_op op_mul (pe_op op_mul (pv 4) (pv 4)) (pv 4)) (pe_op op_mul pe_int (pv 1))) pa_nil)) pe_int) pa_nil))))))))), ?_⟩
    try dsimp only [cxOf, Cx.nox, Cx.wish, Cx.blk]
    have fin : ∀ (c : Int) (x2 x3 x4 : Option V), x2 = some (.int c) → tSeq (tAsg (tCB rAbs (tCons (tVar 2) tNil)) (gName 3)) (tSeq (tAsg (tOp (rI0 fun i j => .int (i + j)) (tOp (rI0 fun i j => .int (i + j)) (tOp (rI (fun _ j => 0 < j) fun i j => .int (i % j)) (tCB rInt1 (tCons (tVar 2) tNil)) (tC (.int 2147483629))) (tOp (rI CMul fun i j => .int (i * j)) (tC (.int 48271)) (tVar 1))) (tC (.int 11))) (gName 4))
        (tRet (tLst (tCons (tOp (rI CMul fun i j => .int (i * j)) (tVar 3) (tCB rInt1 (tCons (tOp (rI0 fun i j => .bl (decide (j ≤ i))) (tVar 3) (tOp (rI CPow fun i j => .int (i ^ j.toNat)) (tC (.int 10)) (tC (.int 18)))) tNil)))
          (tCons (tOp (rI (fun _ j => 0 < j) fun i j => .int (i % j)) (tCB rInt1 (tCons (tOp (rI0 fun i j => .int (i + j)) (tOp (rI CMul fun i j => .int (i * j)) (tOp (rI CMul fun i j => .int (i * j)) (tVar 4) (tVar 4)) (tVar 4)) (tOp (rI CMul fun i j => .int (i * j)) (tC (.int 39373)) (tVar 1))) tNil)) (tC (.int 2147483647))) tNil)))))
        { nx := fun _ H' => Q .non H', rt := Q } [some (.ref a), some (.int k), x2, x3, x4] H := by
      rintro c x2 x3 x4 rfl
      walk_at "go"
      refine r_absI ?_
      walk_at "go"
      refine r_int1I ?_
      walk_at "go"
      refine r_I (by decide) ?_
      walk_at "go"
      refine r_I (.inl (by decide)) ?_
      walk_at "go"
      refine r_I ⟨by decide, by decide, by decide⟩ ?_
      walk_at "go"
      refine r_int1B ?_
      have hg : 0 ≤ (if c < 0 then -c else c) := by split <;> omega
      have hm1 := Int.emod_nonneg c (show (2147483629 : Int) ≠ 0 by decide)
      have hm2 := Int.emod_lt_of_pos c (show (0 : Int) < 2147483629 by decide)
      generalize (if c < 0 then -c else c) = gr at hg ⊢
      generalize hsd : c % 2147483629 + 48271 * (k : Int) + 11 = sd
      have b1 : 0 ≤ sd := by omega
      have b2 : sd ≤ 3000000000 := by omega
      have p64 : (2 : Int) ^ 64 = 18446744073709551616 := by decide
      refine r_I (.inr ?_) ?_
      · split <;> decide
      walk_at "go"
      refine r_I (.inl (by omega)) ?_
      walk_at "go"
      refine r_I (.inr (by omega)) ?_
      walk_at "go"
      refine r_I (.inl (by decide)) ?_
      walk_at "go"
      refine r_int1I ?_
      walk_at "go"
      refine r_I (by decide) ?_
      walk_at "go"
      refine ⟨szr rfl, fun p np => ?_⟩
      refine q p _ np ⟨_, _, upd_same, ?_, Int.emod_nonneg _ (by decide), Int.emod_lt_of_pos _ (by decide)⟩
      refine Int.mul_nonneg hg ?_
      split <;> decide
    walk_at "go"
    refine r_lenL hS ?_
    rw [List.length_map]
    walk_at "go"
    refine r_dec (fun hlt => ?_) (fun hlt => ?_)
    · have hk2 : k < ns.length := by omega
      walk_at "go"
      refine r_ixL hS (at0 (get_map (List.getElem?_eq_getElem hk2))) ?_
      walk_at "go1"
      refine r_int1I ?_
      exact fin ns[k] _ _ _ rfl
    · exact fin 0 _ _ _ rfl
theorem ok_law_take {P : Program} {w : World} {base : Heap} {K : PySem.W.Frag} {mg : Str → Option Value} (T : Txt K mg)  : Ok_law_take P w base T := by
  refine T.F_law_take.ok sc_law_take (fun vs H Q E h => ?_) (fun cdv A outer s H vs Q E hr h => ?_)
  · obtain ⟨p, m, rfl, _⟩ := h
    rfl
  · obtain ⟨p, m, rfl, ⟨a, b, hp, ha, hb, hb2⟩, hm, hm2, q⟩ := h
    refine ⟨_, (pss_cons (ps_if (pt_cmpR op_gt (pe_ix ix_list (pv 0) pe_int (fun _ _ => rfl)) pe_int (nomark _)) (pss_cons (ps_set (i := 2) sc_law_take.nd rfl (Or.inl rfl) (pe_op op_mod (pe_callTy call_int1N (by rfl) T.n_int (by decide +kernel) (pa_cons (pe_ix ix_list (pv 0) pe_int (fun _ _ => rfl)) pa_nil)) (pv 1)))
        (pss_cons (ps_asg (pe_op op_fdiv (pe_callTy call_int1N (by rfl) T.n_int (by decide +kernel) (pa_cons (pe_ix ix_list (pv 0) pe_int (fun _ _ => rfl)) pa_nil)) (pv 1)) (pg_sub (pv 0) pe_int set_list))
        (pss_one (ps_ret (pv 2))))) pss_nil)
        (pss_cons (ps_asg (pe_op op_mod (pe_callTy call_int1N (by rfl) T.n_int (by decide +kernel) (pa_cons (pe_op op_add (pe_op op_mul (pe_ix ix_list (pv 0) pe_int (fun _ _ => rfl)) pe_int) pe_int) pa_nil)) pe_int) (pg_sub (pv 0) pe_int set_list))
        (pss_one (ps_ret (pe_op op_mod (pe_op op_fdiv (pe_op op_mod (pe_callTy call_int1N (by rfl) T.n_int (by decide +kernel) (pa_cons (pe_op op_mul (pe_ix ix_list (pv 0) pe_int (fun _ _ => rfl)) (pe_ix ix_list (pv 0) pe_int (fun _ _ => rfl))) pa_nil)) pe_int) pe_int) (pv 1)))))), ?_⟩
    try dsimp only [cxOf, Cx.nox, Cx.wish, Cx.blk]
    walk_at "go"
    refine r_ixL (SqL.of hp) (at0 (n := 0) rfl) ?_
    walk_at "go"
    refine r_dec (fun h0 => ?_) (fun h0 => ?_)
    · walk_at "go"
      refine r_ixL (SqL.of hp) (at0 (n := 0) rfl) ?_
      walk_at "go"
      refine r_int1I ?_
      walk_at "go"
      refine r_I (show (0 : Int) < m by omega) ?_
      walk_at "go"
      refine r_ixL (SqL.of hp) (at0 (n := 0) rfl) ?_
      walk_at "go"
      refine r_int1I ?_
      walk_at "go"
      refine r_I ⟨by omega, by omega⟩ ?_
      walk_at "go"
      refine r_setL (j := 0) hp rfl ?_
      walk_at "go"
      have h1 := Int.emod_nonneg a (show (m : Int) ≠ 0 by omega)
      have h2 := Int.emod_lt_of_pos a (show (0 : Int) < m by omega)
      exact int_eq (Int.toNat_of_nonneg h1).symm (q _ _ (by omega) ⟨a / m, b, upd_same, Int.ediv_nonneg ha (by omega), hb, hb2⟩)
    · walk_at "go"
      refine r_ixL (SqL.of hp) (at0 (n := 1) rfl) ?_
      walk_at "go"
      refine r_I (.inr (by decide)) ?_
      walk_at "go"
      refine r_int1I ?_
      walk_at "go"
      refine r_I (by decide) ?_
      walk_at "go"
      refine r_setL (j := 1) hp rfl ?_
      walk_at "go"
      generalize hc : (b * 48271 + 11) % 2147483647 = c
      have c1 : 0 ≤ c := by omega
      have c2 : c < 2147483647 := by omega
      have hp2 : upd H p (.lst [.int a, .int c]) p = some (.lst [.int a, .int c]) := upd_same
      have p64 : (2 : Int) ^ 64 = 18446744073709551616 := by decide
      refine r_ixL (xs := [.int a, .int c]) (SqL.of hp2) (at0 (n := 1) rfl) ?_
      walk_at "go"
      refine r_ixL (xs := [.int a, .int c]) (SqL.of hp2) (at0 (n := 1) rfl) ?_
      walk_at "go"
      refine r_I (.inl (by omega)) ?_
      walk_at "go"
      refine r_int1I ?_
      walk_at "go"
      refine r_I (by decide) ?_
      walk_at "go"
      refine r_I ⟨by decide, by decide⟩ ?_
      walk_at "go"
      refine r_I (show (0 : Int) < m by omega) ?_
      have h1 := Int.emod_nonneg (c * c % 2147483629 / 64) (show (m : Int) ≠ 0 by omega)
      have h2 := Int.emod_lt_of_pos (c * c % 2147483629 / 64) (show (0 : Int) < m by omega)
      exact int_eq (Int.toNat_of_nonneg h1).symm (q _ _ (by omega) ⟨a, c, upd_same, ha, c1, c2⟩)
theorem ok_law_binary {P : Program} {w : World} {base : Heap} {K : PySem.W.Frag} {mg : Str → Option Value} (T : Txt K mg)  : Ok_law_binary P w base T := by
  refine T.F_law_binary.ok sc_law_binary (fun vs H Q E h => ?_) (fun cdv A outer s H vs Q E hr h => ?_)
  · obtain ⟨u, rfl, _⟩ := h
    rfl
  · obtain ⟨u, rfl, hu, q⟩ := h
    refine ⟨_, (pss_cons (ps_set (i := 1) sc_law_binary.nd rfl (Or.inl rfl) pe_str)
        (pss_cons (ps_while PassesOwn.never (pt_cmpR op_gt (pv 0) pe_int (nomark _)) (pss_cons (ps_set (i := 1) sc_law_binary.nd rfl (Or.inl rfl) (pe_op op_catS (pe_ix ix_str pe_str (pe_op op_mod (pe_callTy call_int1N (by rfl) T.n_int (by decide +kernel) (pa_cons (pv 0) pa_nil)) pe_int) (fun _ _ => rfl)) (pv 1)))
        (pss_one (ps_set (i := 0) sc_law_binary.nd rfl (Or.inl rfl) (pe_op op_fdiv (pv 0) pe_int)))))
        (pss_one (ps_ret (pv 1))))), ?_⟩
    try dsimp only [cxOf, Cx.nox, Cx.wish, Cx.blk]
    walk_at "go"
    rw [tx_nil]
    refine ⟨fun m σ H1 => H1 = H ∧ ∃ (x : Nat) (l : List Bool), m = x ∧ σ = [some (.int x), some (.str (tx l))] ∧ bin u = bin x ++ l, ⟨u, rfl, u, [], rfl, rfl, (List.append_nil _).symm⟩, ?_⟩
    rintro m σ H1 ⟨rfl, x, l, rfl, rfl, e⟩
    walk_at "go"
    refine r_dec (fun hlt => ?_) (fun hlt => ?_)
    · refine ⟨fun σ' H' => H' = H1 ∧ ∃ (x' : Nat) (l' : List Bool), x' < m ∧ σ' = [some (.int x'), some (.str (tx l'))] ∧ bin u = bin x' ++ l', fun σ' H' ⟨z1, x', l', z2, z3, z4⟩ => ⟨x', z2, z1, x', l', rfl, z3, z4⟩, ?_⟩
      walk_at "go"
      refine r_int1I ?_
      walk_at "go"
      refine r_I (by decide) ?_
      rw [tx_01, show (m : Int) % 2 = ((m % 2 : Nat) : Int) by omega]
      have hb : [false, true][m % 2]? = some (decide (m % 2 = 1)) := by
        rcases (show m % 2 = 0 ∨ m % 2 = 1 by omega) with z | z <;> rw [z] <;> rfl
      refine r_ixTx (by decide) hb ?_
      walk_at "go"
      have b17 := bin_17 hu
      rw [e, List.length_append] at b17
      refine r_catTx (by rw [List.length_singleton]; omega) ?_
      walk_at "go"
      refine r_I ⟨by decide, by decide⟩ ?_
      walk_at "go"
      exact ⟨rfl, m / 2, _, by omega, rfl, by rw [e, bin_s (by omega : m ≠ 0), List.append_assoc]⟩
    · walk_at "go"
      have z : m = 0 := by omega
      subst z
      rw [bin_0, List.nil_append] at e
      rw [e] at q
      exact q
theorem ok_law_parameter {P : Program} {w : World} {base : Heap} {K : PySem.W.Frag} {mg : Str → Option Value} (T : Txt K mg)  : Ok_law_parameter P w base T := by
  refine T.F_law_parameter.ok sc_law_parameter (fun vs H Q E h => ?_) (fun cdv A outer s H vs Q E hr h => ?_)
  · obtain ⟨v, t, rfl, _⟩ := h
    rfl
  · obtain ⟨v, t, rfl, ⟨a, rfl, hS⟩, ht, q⟩ := h
    refine ⟨_, (pss_cons (ps_par (i := 1) (j := 2) (by rfl) sc_law_parameter.nd rfl rfl (by decide) rfl rfl (pa_cons pe_int (pa_cons (pe_ix ix_tup (pv 0) pe_int (fun _ _ => rfl)) pa_nil)) (by rfl))
        (pss_cons (ps_while PassesOwn.never (pt_cmpR op_lt (pv 2) (pe_ix ix_tup (pv 0) pe_int (fun _ _ => rfl)) (nomark _)) (pss_cons (ps_set (i := 2) sc_law_parameter.nd rfl (Or.inl rfl) (pe_op op_mul (pv 2) pe_int))
        (pss_one (ps_set (i := 1) sc_law_parameter.nd rfl (Or.inl rfl) (pe_op op_add (pv 1) pe_int)))))
        (pss_one (ps_ret (pv 1))))), ?_⟩
    try dsimp only [cxOf, Cx.nox, Cx.wish, Cx.blk]
    walk_at "go"
    refine r_ixT hS (at0 (n := 1) rfl) ?_
    walk_at "go"
    refine ⟨fun m σ H1 => H1 = H ∧ ∃ pr k : Nat, σ = [some (.ref a), some (.int k), some (.int pr)] ∧ par t = k + parGo m t.1 pr ∧ t.1 ≤ pr * 2 ^ m, ⟨17, rfl, t.2, 0, rfl, (Nat.zero_add _).symm, par_start ht⟩, ?_⟩
    rintro m σ H1 ⟨rfl, pr, k, rfl, e1, e2⟩
    walk_at "go"
    refine r_ixT hS (at0 (n := 0) rfl) ?_
    walk_at "go"
    refine r_dec (fun hlt => ?_) (fun hlt => ?_)
    · obtain ⟨m', rfl⟩ : ∃ m', m = m' + 1 := par_more (by omega) e2
      refine ⟨fun σ' H' => H' = H1 ∧ ∃ pr k : Nat, σ' = [some (.ref a), some (.int k), some (.int pr)] ∧ par t = k + parGo m' t.1 pr ∧ t.1 ≤ pr * 2 ^ m', fun σ' H' z => ⟨m', Nat.lt_succ_self _, z⟩, ?_⟩
      walk_at "go"
      refine r_I (.inr (by decide)) ?_
      walk_at "go"
      exact ⟨rfl, 2 * pr, k + 1, by rw [show ((2 * pr : Nat) : Int) = (pr : Int) * 2 by omega]; rfl, par_step (by omega) e1, par_twice e2⟩
    · walk_at "go"
      exact int_eq (by rw [par_end (by omega)] at e1; omega) q
theorem ok_law_code {P : Program} {w : World} {base : Heap} {K : PySem.W.Frag} {mg : Str → Option Value} (T : Txt K mg) (ok_law_binary : Ok_law_binary P w base T) : Ok_law_code P w base T := by
  refine T.F_law_code.ok sc_law_code (fun vs H Q E h => ?_) (fun cdv A outer s H vs Q E hr h => ?_)
  · obtain ⟨u, k, rfl, _⟩ := h
    rfl
  · obtain ⟨u, k, rfl, hu, hk, q⟩ := h
    refine ⟨_, (pss_cons (ps_par (i := 2) (j := 3) (by rfl) sc_law_code.nd rfl rfl (by decide) rfl rfl (pa_cons (pv 0) (pa_cons (pe_call ok_law_binary (hr.mono (by decide)) (by rfl) T.g_law_binary T.F_law_binary.kp (b_law_binary T) .nil pass0 (pa_cons (pv 0) pa_nil)) pa_nil)) (by rfl))
        (pss_cons (ps_for PassesOwn.never rfl (pi_range1 (by rfl) T.n_range (pa_cons (pv 1) pa_nil)) (pg_name (i := 4) sc_law_code.nd rfl (Or.inl rfl)) (pss_one (ps_set (i := 2) sc_law_code.nd rfl (Or.inl rfl) (pe_op op_fdiv (pv 2) pe_int))))
        (pss_cons (ps_if (pt_cmpR op_lt (pv 2) pe_int (nomark _)) (pss_cons (ps_set (i := 5) sc_law_code.nd rfl (Or.inl rfl) (pe_op op_catS (pe_op op_rep_str pe_str (pv 1)) (pv 3)))
        (pss_one (ps_ret (pe_op op_catS (pe_op op_catS (pe_op op_rep_str pe_str (pv 2)) pe_str) (pe_slice sl_str (pv 5) (po_some (pe_op op_sub (pe_callB call_lenN (by rfl) T.n_len (by decide +kernel) (pa_cons (pv 5) pa_nil)) (pv 1))) po_none))))) pss_nil)
        (pss_one (ps_ret (pe_op op_catS (pe_op op_catS (pe_op op_rep_str pe_str (pe_op op_add pe_int (pe_callB call_lenN (by rfl) T.n_len (by decide +kernel) (pa_cons (pv 3) pa_nil)))) pe_str) (pv 3))))))), ?_⟩
    try dsimp only [cxOf, Cx.nox, Cx.wish, Cx.blk]
    walk_at "go"
    refine ⟨u, rfl, by omega, ?_⟩
    walk_at "go"
    refine r_kR1 (by omega) ?_
    refine for_range (lo := 0) (n := k) (fun i σ H1 => H1 = H ∧ ∃ x, σ = [some (.int u), some (.int k), some (.int (u / 2 ^ i : Nat)), some (.str (tx (bin u))), x, none]) ⟨rfl, none, by rw [Nat.pow_zero, Nat.div_one]; rfl⟩ ?_ ?_
    · rintro i σ H1 hi ⟨rfl, x, rfl⟩
      walk_at "go"
      refine r_I ⟨by decide, by decide⟩ ?_
      walk_at "go"
      refine ⟨rfl, some (.int (0 + (i : Int))), ?_⟩
      rw [show ((u / 2 ^ i : Nat) : Int) / 2 = ((u / 2 ^ (i + 1) : Nat) : Int) by rw [Nat.pow_succ, ← Nat.div_div_eq_div_mul]; omega]
      rfl
    · rintro σ H1 ⟨rfl, x, rfl⟩
      have b17 := bin_17 (show u ≤ 100000 by omega)
      walk_at "go"
      refine r_dec (fun hlt => ?_) (fun hlt => ?_)
      · have hlt' : u / 2 ^ k < 20 := by omega
        walk_at "go"
        rw [tx_0, tx_1]
        refine r_rep (by omega) ?_
        walk_at "go"
        refine r_catTx (by rw [List.length_replicate]; omega) ?_
        walk_at "go"
        refine r_rep (by omega) ?_
        walk_at "go"
        refine r_catTx (by rw [List.length_replicate, List.length_singleton]; omega) ?_
        have pl := padded_len u k
        walk_at "go"
        refine r_lenTx (l := padded u k) (by omega) ?_
        walk_at "go"
        refine r_slS (by rw [tx_len, List.length_append, List.length_replicate]; exact sz (by omega)) ?_
        rw [show ((padded u k).length : Int) - (k : Int) = (((padded u k).length - k : Nat) : Int) by omega]
        show rCatS _ (.str (cutS (tx (padded u k)) _ _)) _ _
        rw [tx_cutE (by omega)]
        have ll := lowB_len u k
        unfold lowB at ll
        refine r_catTx (by rw [List.length_append, List.length_replicate, List.length_singleton]; omega) ?_
        rw [code_lo hlt'] at q
        refine str_eq (congrArg tx ?_) q
        rw [List.append_assoc]
        rfl
      · have hlt' : ¬ u / 2 ^ k < 20 := by omega
        walk_at "go"
        rw [tx_0, tx_1]
        refine r_lenTx (by omega) ?_
        walk_at "go"
        rw [show (19 : Int) + ((bin u).length : Int) = ((19 + (bin u).length : Nat) : Int) by omega]
        refine r_rep (by omega) ?_
        walk_at "go"
        refine r_catTx (by rw [List.length_replicate, List.length_singleton]; omega) ?_
        walk_at "go"
        refine r_catTx (by rw [List.length_append, List.length_replicate, List.length_singleton]; omega) ?_
        rw [code_hi hlt'] at q
        refine str_eq (congrArg tx ?_) q
        rw [List.append_assoc]
        rfl
theorem ok_law_behind {P : Program} {w : World} {base : Heap} {K : PySem.W.Frag} {mg : Str → Option Value} (T : Txt K mg)  : Ok_law_behind P w base T := by
  refine T.F_law_behind.ok sc_law_behind (fun vs H Q E h => ?_) (fun cdv A outer s H vs Q E hr h => ?_)
  · obtain ⟨G, v, t, u, rfl, _⟩ := h
    rfl
  · obtain ⟨G, v, t, u, rfl, gs, hv, q⟩ := h
    refine ⟨_, (pss_cons (ps_par (i := 2) (j := 3) (by rfl) sc_law_behind.nd rfl rfl (by decide) rfl rfl (pa_cons (pe_op op_add (pe_ix ix_tup (pv 0) pe_int (fun _ _ => rfl)) (pv 1)) (pa_cons (pe_op op_add (pe_ix ix_tup (pv 0) pe_int (fun _ _ => rfl)) pe_int) pa_nil)) (by rfl))
        (pss_one (ps_ret (pe_ifExp (pt_cmpR op_eq (pv 3) pe_int (nomark _)) (pe_tup (pa_cons (pe_op op_fdiv (pv 2) pe_int) (pa_cons pe_int pa_nil))) (pe_tup (pa_cons (pv 2) (pa_cons (pv 3) pa_nil))))))), ?_⟩
    try dsimp only [cxOf, Cx.nox, Cx.wish, Cx.blk]
    walk_at "go"
    obtain ⟨a, rfl, hS⟩ := TbV.mono gs hv
    refine r_ixT hS (at0 (n := 0) rfl) ?_
    walk_at "go"
    refine r_ixT hS (at0 (n := 1) rfl) ?_
    walk_at "go"
    refine r_dec (fun he => ?_) (fun he => ?_)
    · walk_at "go"
      refine r_I ⟨by decide, by decide⟩ ?_
      walk_at "go"
      refine ⟨szr rfl, fun p np => ?_⟩
      refine q _ _ _ (Grow.alloc gs np) ⟨p, rfl, ?_⟩
      rw [show behind t u = ((t.1 + u) / 2, 8) from if_pos (by omega), show (((t.1 + u) / 2 : Nat) : Int) = ((t.1 : Int) + u) / 2 by omega]
      exact SqT.of upd_same
    · walk_at "go"
      refine ⟨szr rfl, fun p np => ?_⟩
      refine q _ _ _ (Grow.alloc gs np) ⟨p, rfl, ?_⟩
      rw [show behind t u = (t.1 + u, t.2 + 1) from if_neg (by omega)]
      exact SqT.of upd_same
theorem ok_law_u {P : Program} {w : World} {base : Heap} {K : PySem.W.Frag} {mg : Str → Option Value} (T : Txt K mg)  : Ok_law_u P w base T := by
  refine T.F_law_u.ok sc_law_u (fun vs H Q E h => ?_) (fun cdv A outer s H vs Q E hr h => ?_)
  · obtain ⟨n, rfl, _⟩ := h
    rfl
  · obtain ⟨n, rfl, q⟩ := h
    refine ⟨_, (pss_one (ps_ret (pe_ifExp (pt_cmpR op_ge (pv 0) pe_int (nomark _)) (pe_op op_mul pe_int (pv 0)) (pe_op op_sub (pe_op op_mul (pe_un un_neg pe_int) (pv 0)) pe_int)))), ?_⟩
    try dsimp only [cxOf, Cx.nox, Cx.wish, Cx.blk]
    walk_at "go"
    refine r_dec (fun he => ?_) (fun he => ?_)
    · walk_at "go"
      refine r_I (.inl (by decide)) ?_
      exact int_eq (by rw [codeN, if_pos he]; omega) q
    · walk_at "go"
      refine r_I (.inl (by decide)) ?_
      walk_at "go"
      exact int_eq (by rw [codeN, if_neg he]; omega) q
theorem ok_law_written {P : Program} {w : World} {base : Heap} {K : PySem.W.Frag} {mg : Str → Option Value} (T : Txt K mg) (ok_law_behind : Ok_law_behind P w base T) (ok_law_code : Ok_law_code P w base T) (ok_law_u : Ok_law_u P w base T) (ok_law_parameter : Ok_law_parameter P w base T) : Ok_law_written P w base T := by
  refine T.F_law_written.ok sc_law_written (fun vs H Q E h => ?_) (fun cdv A outer s H vs Q E hr h => ?_)
  · obtain ⟨G, v, ns, c, tv, t, rfl, _⟩ := h
    rfl
  · obtain ⟨G, v, ns, c, tv, t, rfl, gs, ⟨a1, rfl, L1⟩, n64, nok, tok, hT, q⟩ := h
    refine ⟨_, (pss_cons (ps_par (i := 3) (j := 4) (by rfl) sc_law_written.nd rfl rfl (by decide) rfl rfl (pa_cons (pe_lst pa_nil) (pa_cons (pe_callTy call_listN (by rfl) T.n_list (by decide +kernel) (pa_cons (pv 2) pa_nil)) pa_nil)) (by rfl))
        (pss_cons (ps_for PassesOwn.never rfl (pi_enum (by rfl) T.n_enumerate (pa_cons (pv 0) pa_nil)) (pg_tup rfl (pgs_cons (pg_name (i := 5) sc_law_written.nd rfl (Or.inl rfl)) (pgs_cons (pg_name (i := 6) sc_law_written.nd rfl (Or.inl rfl)) pgs_nil))) (pss_cons (ps_set (i := 7) sc_law_written.nd rfl (Or.inl rfl) (pe_callTy call_int1N (by rfl) T.n_int (by decide +kernel) (pa_cons (pe_cmpR op_ge (pv 5) (pv 1) (nomark _)) pa_nil)))
        (pss_cons (ps_expr (pe_bm PySem.F.plainAttrs_list PySem.F.slot_list_append PySem.F.type_list_append mt_append (pv 3) (pa_cons (pe_call ok_law_code (hr.mono (by decide)) (by rfl) T.g_law_code T.F_law_code.kp (b_law_code T) .nil pass0 (pa_cons (pe_call ok_law_u (hr.mono (by decide)) (by rfl) T.g_law_u T.F_law_u.kp (b_law_u T) .nil pass0 (pa_cons (pv 6) pa_nil)) (pa_cons (pe_call ok_law_parameter (hr.mono (by decide)) (by rfl) T.g_law_parameter T.F_law_parameter.kp (b_law_parameter T) .nil pass0 (pa_cons (pe_ix ix_list (pv 4) (pv 7) (fun _ _ => rfl)) pa_nil)) pa_nil))) pa_nil)))
        (pss_one (ps_asg (pe_call ok_law_behind (hr.mono (by decide)) (by rfl) T.g_law_behind T.F_law_behind.kp (b_law_behind T) .nil pass0 (pa_cons (pe_ix ix_list (pv 4) (pv 7) (fun _ _ => rfl)) (pa_cons (pe_call ok_law_u (hr.mono (by decide)) (by rfl) T.g_law_u T.F_law_u.kp (b_law_u T) .nil pass0 (pa_cons (pv 6) pa_nil)) pa_nil))) (pg_sub (pv 4) (pv 7) set_list))))))
        (pss_one (ps_ret (pe_tup (pa_cons (pe_joinN pe_str (pv 3)) (pa_cons (pe_callTy call_tupleN (by rfl) T.n_tuple (by decide +kernel) (pa_cons (pv 4) pa_nil)) pa_nil))))))), ?_⟩
    try dsimp only [cxOf, Cx.nox, Cx.wish, Cx.blk]
    walk_at "run"
    refine ⟨szr rfl, fun p np => ?_⟩
    walk_at "run"
    obtain ⟨a2, v1, v2, rfl, S2, T1, T2⟩ := hT
    refine r_listT (sm_tup (gs.trans (same_new np)) S2) fun cu nc => ?_
    walk_at "run"
    have nG : G p = none := gs.free np
    have nGc : G cu = none := (gs.trans (same_new np)).free nc
    have ncp : cu ≠ p := fun z => by rw [z, upd_same] at nc; cases nc
    have ncH : H cu = none := by rw [upd_ne ncp] at nc; exact nc
    have s2 := (same_new (o := .lst []) np).trans (same_new (o := .lst [v1, v2]) nc)
    refine r_kE (SqL.of (s2 _ _ (gs _ _ L1))) ?_
    refine for_enum (K := K) (a := a1) (xs := ns.map V.int) (fun i σ H1 => ∃ (G1 : Hp) (vs : List V) (cs : List (List Bool)) (x5 x6 x7 : Option V), σ = [some (.ref a1), some (.int c), some (.ref a2), some (.ref p), some (.ref cu), x5, x6, x7] ∧
      Grow [] G H G1 H1 ∧ G1 p = none ∧ G1 cu = none ∧ H1 cu = some (.lst vs) ∧ CurV K G1 vs (written (ns.take i) c t).2 ∧ H1 p = some (.lst (cs.map fun l => .str (tx l))) ∧ cs.flatten = (written (ns.take i) c t).1 ∧ cs.length = i)
      ⟨G, [v1, v2], [], none, none, none, rfl, ((Grow.refl gs).mut np nG).mut ncH nGc, nG, nGc, upd_same, ⟨v1, v2, rfl, T1, T2⟩, by rw [upd_ne (Ne.symm ncp)]; exact upd_same, rfl, rfl⟩
      (fun i σ H1 _ ⟨G1, vs, cs, _, _, _, _, gr, _⟩ => SqL.of (gr.hs _ _ (gs _ _ L1))) ?_ ?_
    · rintro i y ta σ H1 hi nt ⟨G1, vs, cs, x5, x6, x7, rfl, gr, g1, g2, hc, cv, hp, fl, ll⟩
      obtain ⟨n, hn, rfl⟩ := map_get hi
      have il := (List.getElem?_eq_some_iff.mp hn).1
      have u60 := nok.at_ hn
      have cur_ok := written_ok (ns.take i) c t (nok.take i) tok
      rw [written_snoc hn]
      generalize hw : written (ns.take i) c t = wr at *
      refine r_gTup (SqT.of upd_same) rfl ?_
      walk_at "run"
      have ew : decide ((i : Int) ≥ (c : Int)) = decide (c ≤ i) := decide_eq_decide.mpr ⟨fun z => by omega, fun z => by omega⟩
      rw [ew]
      generalize decide (c ≤ i) = w at *
      have gr1 := gr.new nt (o := .tup [.int (i : Nat), .int n])
      have cv1 := cv.mono (same_new (o := .tup [.int (i : Nat), .int n]) (gr.gh.free nt))
      have hc1 := same_new nt (o := .tup [.int (i : Nat), .int n]) _ _ hc
      have hp1 := same_new nt (o := .tup [.int (i : Nat), .int n]) _ _ hp
      have k1 := kn (u := .tup [.int (i : Nat), .int n]) hp nt g1
      have k2 := kn (u := .tup [.int (i : Nat), .int n]) hc nt g2
      obtain ⟨sv, hsv, TS⟩ := cv1.sel w
      refine r_tyL (SqL.of hp1) ?_
      walk_at "run"
      refine ⟨n, rfl, ?_⟩
      walk_at "run"
      refine r_ixL (SqL.of hc1) hsv ?_
      walk_at "run"
      refine ⟨sv, _, rfl, TbV.mono gr1.gh TS, selT_ok cur_ok, ?_⟩
      walk_at "run"
      refine ⟨codeN n, _, rfl, u60, par_16 (selT_ok cur_ok), ?_⟩
      walk_at "run"
      refine r_app hp1 (szl (by rw [List.length_map]; omega)) ?_
      walk_at "run"
      have hc2 : upd (upd H1 ta (.tup [.int (i : Nat), .int n])) p (.lst ((cs.map fun l => V.str (tx l)) ++ [.str (tx (code (codeN n) (par (selT w wr.2))))])) cu = some (.lst vs) := by rw [upd_ne ncp]; exact hc1
      have gr2 := gr1.mut np k1 (o := .lst ((cs.map fun l => V.str (tx l)) ++ [.str (tx (code (codeN n) (par (selT w wr.2))))]))
      refine r_ixL (SqL.of hc2) hsv ?_
      walk_at "run"
      refine ⟨n, rfl, ?_⟩
      walk_at "run"
      refine ⟨_, sv, _, codeN n, rfl, gr2.gh, TS, fun G3 H3 v3 gr3 pv => ?_⟩
      walk_at "run"
      obtain ⟨ei, cv3⟩ := (cv1.mono gr3.gg).set w pv
      refine r_setL (gr3.hs _ _ hc2) ei ?_
      have nc3 := gr3.nw cu (by rw [hc2]; exact fun z => nomatch z) k2
      have np3 := gr3.nw p (by rw [upd_same]; exact fun z => nomatch z) k1
      walk_at "run"
      refine ⟨G3, _, cs ++ [code (codeN n) (par (selT w wr.2))], _, _, _, rfl, (gr2.trans gr3).mut ncH nc3, np3, nc3, upd_same, cv3, ?_, ?_, ?_⟩
      · rw [upd_ne (Ne.symm ncp), gr3.hs _ _ upd_same, List.map_append]
        rfl
      · rw [List.flatten_append, fl, List.flatten_cons, List.flatten_nil, List.append_nil]
      · rw [List.length_append, ll]
        rfl
    · rintro σ H1 ⟨G1, vs, cs, x5, x6, x7, rfl, gr, g1, g2, hc, cv, hp, fl, ll⟩
      rw [List.length_map] at ll
      rw [List.length_map, List.take_length] at cv fl
      walk_at "run"
      rw [tx_nil]
      refine ⟨⟨_, rfl⟩, ?_⟩
      walk_at "run"
      have wl := written_len ns c t nok tok
      refine ⟨_, p, cs.map tx, rfl, rfl, .inl (SqL.of (by rw [hp, List.map_map]; rfl)), ?_, ?_⟩
      · have e : ((cs.map tx).map (·.length)).sum = cs.flatten.length := by
          rw [List.map_map, List.length_flatten]
          congr 1
          exact List.map_congr_left fun l _ => tx_len l
        rw [e, fl, tx_len]
        show _ + _ * 0 ≤ _
        omega
      rw [join_tx, fl]
      walk_at "run"
      refine r_tupL (SqL.of hc) fun ua nu => ?_
      obtain ⟨w1, w2, rfl, W1, W2⟩ := cv
      walk_at "run"
      refine ⟨szr rfl, fun ra nr => ?_⟩
      have gr2 := (gr.new nu (o := .tup [w1, w2]))
      have gr3 := gr2.new nr (o := .tup [.str (tx (written ns c t).1), .ref ua])
      have sA := same_new (gr.gh.free nu) (o := .tup [w1, w2])
      have sB := same_new (gr2.gh.free nr) (o := .tup [.str (tx (written ns c t).1), .ref ua])
      refine q _ _ _ gr3 ⟨ra, .ref ua, rfl, SqT.of upd_same, ua, w1, w2, rfl, sm_tup sB (SqT.of upd_same), TbV.mono (sA.trans sB) W1, TbV.mono (sA.trans sB) W2⟩
theorem ok_law_mark {P : Program} {w : World} {base : Heap} {K : PySem.W.Frag} {mg : Str → Option Value} (T : Txt K mg) (ok_law_u : Ok_law_u P w base T) : Ok_law_mark P w base T := by
  refine T.F_law_mark.ok sc_law_mark (fun vs H Q E h => ?_) (fun cdv A outer s H vs Q E hr h => ?_)
  · obtain ⟨v, ns, rfl, _⟩ := h
    rfl
  · obtain ⟨v, ns, rfl, ⟨a, rfl, hL⟩, q⟩ := h
    refine ⟨_, (pss_cons (ps_set (i := 1) sc_law_mark.nd rfl (Or.inl rfl) pe_int)
        (pss_cons (ps_for PassesOwn.never rfl (pi_list (pv 0)) (pg_name (i := 2) sc_law_mark.nd rfl (Or.inl rfl)) (pss_one (ps_set (i := 1) sc_law_mark.nd rfl (Or.inl rfl) (pe_op op_mod (pe_callTy call_int1N (by rfl) T.n_int (by decide +kernel) (pa_cons (pe_op op_add (pe_op op_mul (pv 1) pe_int) (pe_call ok_law_u (hr.mono (by decide)) (by rfl) T.g_law_u T.F_law_u.kp (b_law_u T) .nil pass0 (pa_cons (pv 2) pa_nil))) pa_nil)) pe_int))))
        (pss_one (ps_ret (pv 1))))), ?_⟩
    try dsimp only [cxOf, Cx.nox, Cx.wish, Cx.blk]
    walk_at "go"
    refine r_kL (SqL.of hL) ?_
    refine for_list (K := K) (a := a) (xs := ns.map V.int) (fun i σ H2 => H2 = H ∧ ∃ x, σ = [some (.ref a), some (.int (markN (ns.take i))), x]) ⟨rfl, _, rfl⟩ (fun i σ H2 _ ⟨e, _⟩ => by rw [e]; exact SqL.of hL) ?_ ?_
    · rintro i y σ H2 hi ⟨rfl, x, rfl⟩
      obtain ⟨n, hn, rfl⟩ := map_get hi
      walk_at "go"
      refine r_I (.inr (by decide)) ?_
      walk_at "go"
      refine ⟨n, rfl, ?_⟩
      walk_at "go"
      refine r_int1I ?_
      walk_at "go"
      refine r_I (by decide) ?_
      walk_at "go"
      refine ⟨rfl, some (.int n), ?_⟩
      rw [mark_snoc hn, show (((markN (ns.take i) * 31 + codeN n) % 9973 : Nat) : Int) = ((markN (ns.take i) : Int) * 31 + codeN n) % 9973 by omega]
      rfl
    · rintro σ H2 ⟨rfl, x, rfl⟩
      walk_at "go"
      rw [List.length_map, List.take_length]
      exact q
theorem ok_law_counts {P : Program} {w : World} {base : Heap} {K : PySem.W.Frag} {mg : Str → Option Value} (T : Txt K mg)  : Ok_law_counts P w base T := by
  refine T.F_law_counts.ok sc_law_counts (fun vs H Q E h => ?_) (fun cdv A outer s H vs Q E hr h => ?_)
  · obtain ⟨G, n, lev, rfl, _⟩ := h
    rfl
  · obtain ⟨G, n, lev, rfl, gs, hl, q⟩ := h
    refine ⟨_, (pss_cons (ps_set (i := 2) sc_law_counts.nd rfl (Or.inl rfl) (pe_lst (pa_cons (pv 0) pa_nil)))
        (pss_cons (ps_for PassesOwn.never rfl (pi_range1 (by rfl) T.n_range (pa_cons (pv 1) pa_nil)) (pg_name (i := 3) sc_law_counts.nd rfl (Or.inl rfl)) (pss_one (ps_expr (pe_bm PySem.F.plainAttrs_list PySem.F.slot_list_append PySem.F.type_list_append mt_append (pv 2) (pa_cons (pe_op op_fdiv (pe_op op_add (pe_ix ix_list (pv 2) (pe_un un_neg pe_int) (fun _ _ => rfl)) pe_int) pe_int) pa_nil)))))
        (pss_one (ps_ret (pv 2))))), ?_⟩
    try dsimp only [cxOf, Cx.nox, Cx.wish, Cx.blk]
    walk_at "go"
    refine ⟨szr rfl, fun p np => ?_⟩
    walk_at "go"
    have nG : G p = none := gs.free np
    refine r_kR1 (by omega) ?_
    refine for_range (lo := 0) (n := lev) (fun i σ H1 => ∃ x, σ = [some (.int n), some (.int lev), some (.ref p), x] ∧ Grow [] G H G H1 ∧ H1 p = some (.lst ((cI ((List.range (i + 1)).map (hv n))).map V.int)))
      ⟨none, rfl, (Grow.refl gs).mut np nG, upd_same⟩ ?_ ?_
    · rintro i σ H1 hi ⟨x, rfl, gr, hp⟩
      walk_at "go"
      refine r_tyL (SqL.of hp) ?_
      walk_at "go"
      refine r_ixL (SqL.of hp) (atm1 (cnt_last n i)) ?_
      walk_at "go"
      refine r_I ⟨by decide, by decide⟩ ?_
      walk_at "go"
      refine r_app hp (szl (by rw [List.length_map, cI_len, List.length_map, List.length_range]; omega)) ?_
      walk_at "go"
      refine ⟨_, rfl, gr.mut np nG, ?_⟩
      rw [upd_same, show (cI ((List.range (i + 1)).map (hv n))).map V.int ++ [V.int (((hv n i : Int) + 1) / 2)] = (cI ((List.range (i + 1)).map (hv n)) ++ [((hv n i : Int) + 1) / 2]).map V.int by rw [List.map_append]; rfl, cnt_step n lev i]
    · rintro σ H1 ⟨x, rfl, gr, hp⟩
      walk_at "go"
      exact q _ _ _ (gr.freeze np nG hp) ⟨p, rfl, upd_same⟩
theorem ok_law_heads {P : Program} {w : World} {base : Heap} {K : PySem.W.Frag} {mg : Str → Option Value} (T : Txt K mg) (ok_law_take : Ok_law_take P w base T) : Ok_law_heads P w base T := by
  refine T.F_law_heads.ok sc_law_heads (fun vs H Q E h => ?_) (fun cdv A outer s H vs Q E hr h => ?_)
  · obtain ⟨G, p, m, rfl, _⟩ := h
    rfl
  · obtain ⟨G, p, m, rfl, gs, nG, po, m1, m9, q⟩ := h
    refine ⟨_, (pss_cons (ps_setLc (i := 2) (own := [("_law_turn", 11)]) (by rfl) sc_law_heads.nd rfl rfl (sw_true rfl rfl rfl (by decide +kernel)) (pi_range1 (by rfl) T.n_range (pa_cons (pv 1) pa_nil)) (blkOk_by (own := [("_law_turn", 11)]) (N := ["_law_pool_here", "_law_many", "_law_sizes", "_law_long", "_law_found", "_law_left", "_law_at", "_law_size", "_law_most", "_law_width", "_law_joint", "_law_turn"]) (sc := defScope s_law_heads) (by decide +kernel)) (fun _ _ _ _ _ => (pg_name (i := 11) sc_law_heads.nd rfl (by first | exact Or.inl rfl | exact Or.inr rfl))) (fun _ _ _ _ _ => pts_nil) (fun _ _ _ _ _ => (pe_ix (show IxR _ (rIxL K) from ix_list) (pe_lst (pa_cons pe_int (pa_cons pe_int (pa_cons pe_int (pa_cons (pe_op op_add pe_int (pe_call ok_law_take (hr.mono (by decide)) (by rfl) T.g_law_take T.F_law_take.kp (b_law_take T) .nil pass0 (pa_cons (pv 0) (pa_cons pe_int pa_nil)))) (pa_cons pe_int pa_nil)))))) (pe_call ok_law_take (hr.mono (by decide)) (by rfl) T.g_law_take T.F_law_take.kp (b_law_take T) .nil pass0 (pa_cons (pv 0) (pa_cons pe_int pa_nil))) (fun _ _ => rfl))))
        (pss_cons (ps_set (i := 3) sc_law_heads.nd rfl (Or.inl rfl) (pe_call ok_law_take (hr.mono (by decide)) (by rfl) T.g_law_take T.F_law_take.kp (b_law_take T) .nil pass0 (pa_cons (pv 0) (pa_cons (pe_op op_add (pe_op op_mul pe_int (pv 1)) pe_int) pa_nil))))
        (pss_cons (ps_if (pt_cmpR op_lt (pv 3) (pv 1) (nomark _)) (pss_one (ps_asg (pe_op op_add pe_int (pe_call ok_law_take (hr.mono (by decide)) (by rfl) T.g_law_take T.F_law_take.kp (b_law_take T) .nil pass0 (pa_cons (pv 0) (pa_cons pe_int pa_nil)))) (pg_sub (pv 2) (pv 3) set_list))) pss_nil)
        (pss_cons (ps_par (i := 4) (j := 5) (by rfl) sc_law_heads.nd rfl rfl (by decide) rfl rfl (pa_cons (pe_lst pa_nil) (pa_cons pe_int pa_nil)) (by rfl))
        (pss_cons (ps_for PassesOwn.never rfl (pi_enum (by rfl) T.n_enumerate (pa_cons (pv 2) pa_nil)) (pg_tup rfl (pgs_cons (pg_name (i := 6) sc_law_heads.nd rfl (Or.inl rfl)) (pgs_cons (pg_name (i := 7) sc_law_heads.nd rfl (Or.inl rfl)) pgs_nil))) (pss_cons (ps_set (i := 8) sc_law_heads.nd rfl (Or.inl rfl) (pe_ifExp (pt_cmpR op_lt (pe_op op_add (pv 6) pe_int) (pv 1) (nomark _)) (pe_callB (call_min3N rfl) (by rfl) T.n_min (by decide +kernel) (pa_cons pe_int (pa_cons (pe_op op_sub (pv 7) (pv 5)) (pa_cons (pe_ix ix_list (pv 2) (pe_op op_add (pv 6) pe_int) (fun _ _ => rfl)) pa_nil)))) pe_int))
        (pss_cons (ps_set (i := 9) sc_law_heads.nd rfl (Or.inl rfl) (pe_ix ix_list (pe_lst (pa_cons pe_int (pa_cons (pe_call ok_law_take (hr.mono (by decide)) (by rfl) T.g_law_take T.F_law_take.kp (b_law_take T) .nil pass0 (pa_cons (pv 0) (pa_cons (pe_op op_add (pv 8) pe_int) pa_nil))) (pa_cons (pv 8) pa_nil)))) (pe_call ok_law_take (hr.mono (by decide)) (by rfl) T.g_law_take T.F_law_take.kp (b_law_take T) .nil pass0 (pa_cons (pv 0) (pa_cons pe_int pa_nil))) (fun _ _ => rfl)))
        (pss_cons (ps_set (i := 10) sc_law_heads.nd rfl (Or.inl rfl) (pe_tup (pa_cons (pv 9) (pa_cons (pe_op op_mul (pe_call ok_law_take (hr.mono (by decide)) (by rfl) T.g_law_take T.F_law_take.kp (b_law_take T) .nil pass0 (pa_cons (pv 0) (pa_cons pe_int pa_nil))) (pe_callTy call_int1N (by rfl) T.n_int (by decide +kernel) (pa_cons (pe_cmpR op_gt (pv 9) pe_int (nomark _)) pa_nil))) pa_nil))))
        (pss_cons (ps_expr (pe_bm PySem.F.plainAttrs_list PySem.F.slot_list_append PySem.F.type_list_append mt_append (pv 4) (pa_cons (pe_tup (pa_cons (pv 7) (pa_cons (pv 10) (pa_cons (pe_call ok_law_take (hr.mono (by decide)) (by rfl) T.g_law_take T.F_law_take.kp (b_law_take T) .nil pass0 (pa_cons (pv 0) (pa_cons pe_int pa_nil))) (pa_cons (pe_ix ix_list (pe_lst (pa_cons pe_int (pa_cons (pe_op op_add pe_int (pe_call ok_law_take (hr.mono (by decide)) (by rfl) T.g_law_take T.F_law_take.kp (b_law_take T) .nil pass0 (pa_cons (pv 0) (pa_cons pe_int pa_nil)))) pa_nil))) (pe_call ok_law_take (hr.mono (by decide)) (by rfl) T.g_law_take T.F_law_take.kp (b_law_take T) .nil pass0 (pa_cons (pv 0) (pa_cons pe_int pa_nil))) (fun _ _ => rfl)) pa_nil))))) pa_nil)))
        (pss_one (ps_set (i := 5) sc_law_heads.nd rfl (Or.inl rfl) (pv 9))))))))
        (pss_one (ps_ret (pv 4)))))))), ?_⟩
    try dsimp only [cxOf, Cx.nox, Cx.wish, Cx.blk]
    walk_at "run"
    refine r_kR1 (by omega) ?_
    intro Z nz
    have nzG := gs.free nz
    have pz : p ≠ Z := fun z => po.ne (by rw [z]; exact nz)
    refine lc_range (lo := 0) (n := m) (fun i H2 => ∃ zs : List Nat, zs.length = i ∧ (∀ z ∈ zs, 1 ≤ z ∧ z ≤ 64) ∧ Grow [p] G H G H2 ∧ PoolAt H2 p ∧ H2 Z = some (.lst ((cI zs).map V.int))) ⟨[], rfl, fun _ z => (nomatch z), (Grow.refl gs).mut nz nzG, po.new nz, upd_same⟩ ?_ ?_
    · rintro i H2 hi ⟨zs, ln, zok, g2, po2, hz⟩
      walk_at "run"
      refine ⟨rfl, ?_⟩
      walk_at "run"
      refine ⟨p, 16, rfl, po2, by decide, by decide, fun r1 o1 h1 po3 => ?_⟩
      walk_at "run"
      refine ⟨szr rfl, fun a na => ?_⟩
      have pa := po3.apart na
      have za : Z ≠ a := by
        intro z
        have : upd H2 p o1 Z = some (.lst ((cI zs).map V.int)) := by rw [upd_ne (Ne.symm pz)]; exact hz
        rw [z, na] at this
        exact nomatch this
      walk_at "run"
      refine ⟨p, 5, rfl, po3.new na, by decide, by decide, fun r2 o2 h2 po4 => ?_⟩
      obtain ⟨v, hv, v1, v2⟩ : ∃ v : Nat, atI [V.int 1, .int 2, .int 3, .int (1 + r1), .int 8] (r2 : Int) = some (.int v) ∧ 1 ≤ v ∧ v ≤ 64 := by
        match r2, h2 with
        | 0, _ => exact ⟨1, rfl, by decide, by decide⟩
        | 1, _ => exact ⟨2, rfl, by decide, by decide⟩
        | 2, _ => exact ⟨3, rfl, by decide, by decide⟩
        | 3, _ => exact ⟨1 + r1, rfl, by omega, by omega⟩
        | 4, _ => exact ⟨8, rfl, by decide, by decide⟩
      refine r_ixL (SqL.of (by rw [upd_ne (Ne.symm pa)]; exact upd_same)) hv ?_
      have gA1 := g2.take nG (o := o1)
      have gA := (gA1.mut (gA1.no na) (gA1.gh.free na) (o := .lst [.int 1, .int 2, .int 3, .int (1 + r1), .int 8])).take nG (o := o2)
      refine ⟨_, by rw [upd_ne (Ne.symm pz), upd_ne za, upd_ne (Ne.symm pz)]; exact hz, szl (by rw [List.length_map, cI_len]; omega), zs ++ [v], by rw [List.length_append, ln]; rfl, fun x hx => ?_, gA.mut nz nzG, po4.upd pz, ?_⟩
      · rcases List.mem_append.mp hx with z | z
        · exact zok x z
        · rw [List.mem_singleton.mp z]; exact ⟨v1, v2⟩
      · rw [upd_same, cI_app, List.map_append]; rfl
    rintro H2 ⟨zs, ln, zok, g2, po2, hz⟩
    walk_at "run"
    refine ⟨p, 4 * m + 4, rfl, po2, by omega, by omega, fun lg o1 h1 po3 => ?_⟩
    have g3 := g2.take nG (o := o1)
    have hz3 : upd H2 p o1 Z = some (.lst ((cI zs).map V.int)) := by rw [upd_ne (Ne.symm pz)]; exact hz
    generalize upd H2 p o1 = H3 at *
    walk_at "run"
    refine r_dec (fun h0 => ?brA) (fun h0 => ?brB)
    case' brA =>
      walk_at "run"
      refine ⟨p, 32, rfl, po3, by decide, by decide, fun r2 o2 h2 po4 => ?_⟩
      have g4 := g3.take nG (o := o2)
      have hz4 : upd H3 p o2 Z = some (.lst ((cI zs).map V.int)) := by rw [upd_ne (Ne.symm pz)]; exact hz3
      generalize upd H3 p o2 = H4 at *
      walk_at "run"
      refine r_setL hz4 (ixn (by rw [List.length_map, cI_len]; omega)) ?_
      have hz5 : upd H4 Z (.lst (((cI zs).map V.int).set lg (.int (33 + (r2 : Int))))) Z = some (.lst ((cI (zs.set lg (33 + r2))).map V.int)) := by
        rw [upd_same]
        unfold cI
        rw [List.map_set, List.map_set]
        rfl
      have ln5 : (zs.set lg (33 + r2)).length = m := by rw [List.length_set, ln]
      have zok5 : ∀ z ∈ zs.set lg (33 + r2), 1 ≤ z ∧ z ≤ 64 := fun z hz => by
        rcases List.mem_or_eq_of_mem_set hz with k | k
        · exact zok z k
        · omega
      have g5 := g4.mut nz nzG (o := .lst (((cI zs).map V.int).set lg (.int (33 + (r2 : Int)))))
      have po5 := po4.upd (o := .lst (((cI zs).map V.int).set lg (.int (33 + (r2 : Int))))) pz
      generalize upd H4 Z (.lst (((cI zs).map V.int).set lg (.int (33 + (r2 : Int))))) = H5 at *
      generalize zs.set lg (33 + r2) = ws at *
    case' brB =>
      have hz5 := hz3
      have ln5 := ln
      have zok5 := zok
      have g5 := g3
      have po5 := po3
      generalize H3 = H5 at *
      generalize zs = ws at *
    all_goals
      walk_at "run"
      refine ⟨szr rfl, fun f nf => ?_⟩
      have pf' := po5.apart nf
      have zf : Z ≠ f := ne_of_none hz5 nf
      have nfG := g5.gh.free nf
      have nfH := g5.no nf
      walk_at "run"
      refine r_kE (SqL.of (same_new nf _ _ hz5)) ?_
      refine for_enum (K := K) (a := Z) (xs := (cI ws).map V.int) (fun i σ H6 => ∃ (G6 : Hp) (hs : List Hd) (vs : List V) (lf : Nat) (x6 x7 x8 x9 x10 : Option V), σ = [some (.ref p), some (.int m), some (.ref Z), some (.int lg), some (.ref f), some (.int lf), x6, x7, x8, x9, x10, none] ∧
        Grow [p] G H G6 H6 ∧ G6 p = none ∧ G6 f = none ∧ G6 Z = none ∧ PoolAt H6 p ∧ H6 Z = some (.lst ((cI ws).map V.int)) ∧ H6 f = some (.lst vs) ∧ All2 (HdV K G6) vs hs ∧ hs.length = i ∧ HdsTo 0 hs lf ∧ (i < m → lf ≤ ws.getD i 0) ∧ (i = m → lf = 0))
        ⟨G, [], [], 0, none, none, none, none, none, rfl, g5.mut nfH nfG, nG, nfG, nzG, po5.new nf, same_new nf _ _ hz5, upd_same, All2.nil, rfl, rfl, fun _ => Nat.zero_le _, fun _ => rfl⟩
        (fun i σ H6 _ ⟨G6, hs, vs, lf, _, _, _, _, _, _, g, _, _, _, _, hz, _⟩ => SqL.of hz) ?_ ?_
      · rintro i y t σ H6 hi nt ⟨G6, hs, vs, lf, x6, x7, x8, x9, x10, rfl, g6, n1, n2, n3, po6, hz6, hf6, aH, lh, ht, hlt, _⟩
        obtain ⟨z, hz', rfl⟩ := map_get hi
        obtain ⟨sz', hsz, rfl⟩ := cI_get hz'
        have il := (List.getElem?_eq_some_iff.mp hsz).1
        have hlf : lf ≤ sz' := by
          have := hlt (by omega)
          rw [List.getD_eq_getElem?_getD, hsz] at this
          exact this
        obtain ⟨sz1, sz2⟩ := zok5 sz' (List.mem_of_getElem? hsz)
        have g7 := g6.new nt (o := .tup [.int (i : Nat), .int sz'])
        have sG := same_new (o := .tup [.int (i : Nat), .int sz']) (g6.gh.free nt)
        have po7 := po6.new nt (o := .tup [.int (i : Nat), .int sz'])
        have hz7 := same_new nt (o := .tup [.int (i : Nat), .int sz']) _ _ hz6
        have hf7 := same_new nt (o := .tup [.int (i : Nat), .int sz']) _ _ hf6
        have n17 : (upd G6 t (.tup [.int (i : Nat), .int sz'])) p = none := by rw [upd_ne (po6.apart nt)]; exact n1
        have n27 := kn (u := .tup [.int (i : Nat), .int sz']) hf6 nt n2
        have n37 := kn (u := .tup [.int (i : Nat), .int sz']) hz6 nt n3
        refine r_gTup (SqT.of upd_same) rfl ?_
        have aH := aH.imp fun v d z => HdV.mono sG z
        generalize upd G6 t (.tup [.int (i : Nat), .int sz']) = G7 at *
        generalize upd H6 t (.tup [.int (i : Nat), .int sz']) = H7 at *
        walk_at "run"
        have wk : Wk p G H [(f, .lst vs), (Z, .lst ((cI ws).map V.int))] G7 H7 := by
          refine ⟨g7, n17, po7, fun q hq => ?_, by simp [Ne.symm zf]⟩
          rcases List.mem_cons.mp hq with z | z
          · rw [z]; exact ⟨hf7, n27, nfH, pf'⟩
          · rw [List.mem_singleton.mp z]; exact ⟨hz7, n37, nz, pz⟩
        clear g7 n17 po7 n27 n37
        refine r_dec (fun hm => ?_) (fun hm => ?_)
        walk_at "run"
        have hm' : i + 1 < m := by omega
        have hws : ((cI ws).map V.int)[i + 1]? = some (.int (ws.getD (i + 1) 0 : Nat)) := by
          unfold cI
          rw [List.getElem?_map, List.getElem?_map, List.getD_eq_getElem?_getD, List.getElem?_eq_getElem (by omega)]
          rfl
        rw [show (i : Int) + 1 = ((i + 1 : Nat) : Int) from rfl]
        refine r_ixL (SqL.of hz7) (at0 hws) ?_
        walk_at "run"
        refine r_mn3 ?_
        obtain ⟨mt, k1, k2, k3, k4, hmt⟩ : ∃ mt : Nat, mt ≤ 8 ∧ mt + lf ≤ sz' ∧ (i + 1 < m → mt ≤ ws.getD (i + 1) 0) ∧ (i + 1 = m → mt = 0) ∧ min 8 (min ((sz' : Int) - lf) (ws.getD (i + 1) 0 : Nat)) = (mt : Int) :=
          ⟨min 8 (min (sz' - lf) (ws.getD (i + 1) 0)), by omega, by omega, fun _ => by omega, fun _ => by omega, by omega⟩
        rw [hmt]
        rotate_left
        obtain ⟨mt, k1, k2, k3, k4, hmt⟩ : ∃ mt : Nat, mt ≤ 8 ∧ mt + lf ≤ sz' ∧ (i + 1 < m → mt ≤ ws.getD (i + 1) 0) ∧ (i + 1 = m → mt = 0) ∧ (0 : Int) = (mt : Int) :=
          ⟨0, by omega, by omega, fun _ => by omega, fun _ => rfl, rfl⟩
        refine r_cE hmt ?_
        all_goals
          clear hmt
          walk_at "run"
          refine ⟨p, mt + 1, rfl, wk.po, by omega, by omega, fun r1 o1 h1 po8 => ?_⟩
          have wk := wk.take po8
          generalize upd H7 p o1 = H8 at *
          walk_at "run"
          refine ⟨szr rfl, fun la na => ?_⟩
          have wk0 := wk
          have wk := wk.new na (o := .lst [.int 0, .int r1, .int mt])
          have hla : upd H8 la (.lst [.int 0, .int r1, .int mt]) la = some (.lst [.int 0, .int r1, .int mt]) := upd_same
          have sA := same_new (o := .lst [.int 0, .int r1, .int mt]) (wk0.gr.gh.free na)
          have hlG : upd G7 la (.lst [.int 0, .int r1, .int mt]) la = some (.lst [.int 0, .int r1, .int mt]) := upd_same
          generalize upd H8 la (.lst [.int 0, .int r1, .int mt]) = H9 at *
          generalize upd G7 la (.lst [.int 0, .int r1, .int mt]) = G9 at *
          walk_at "run"
          refine ⟨p, 3, rfl, wk.po, by decide, by decide, fun r2 o2 h2 po9 => ?_⟩
          have wk := wk.take po9
          generalize upd H9 p o2 = H10 at *
          obtain ⟨wd, hwd, wdl⟩ : ∃ wd : Nat, atI [V.int 0, .int r1, .int mt] (r2 : Int) = some (.int wd) ∧ wd ≤ mt := by
            match r2, h2 with
            | 0, _ => exact ⟨0, rfl, Nat.zero_le _⟩
            | 1, _ => exact ⟨r1, rfl, by omega⟩
            | 2, _ => exact ⟨mt, rfl, Nat.le_refl _⟩
          refine r_ixL (SqL.of (wk.gr.gh _ _ hlG)) hwd ?_
          walk_at "run"
          refine ⟨p, 4, rfl, wk.po, by decide, by decide, fun r3 o3 h3 po10 => ?_⟩
          have wk := wk.take po10
          generalize upd H10 p o3 = H11 at *
          walk_at "run"
          have p64 : (2 : Int) ^ 64 = 18446744073709551616 := by decide
          refine r_I (.inl (by omega)) ?_
          obtain ⟨jt, j1, j2, j3, j4⟩ : ∃ jt : Nat, (r3 : Int) * (if decide ((wd : Int) > 0) then 1 else 0) = (jt : Int) ∧ jt < 4 ∧ (wd = 0 → jt = 0) ∧ True := by
            by_cases hw : wd = 0
            · exact ⟨0, by rw [hw]; simp, by decide, fun _ => rfl, trivial⟩
            · refine ⟨r3, ?_, h3, fun h => absurd h hw, trivial⟩
              rw [show decide ((wd : Int) > 0) = true from decide_eq_true (by omega), if_pos rfl, Int.mul_one]
          rw [j1]
          walk_at "run"
          refine ⟨szr rfl, fun ja nj => ?_⟩
          have wk1 := wk
          have wk := wk.new nj (o := .tup [.int wd, .int jt])
          have sB := same_new (o := .tup [.int wd, .int jt]) (wk1.gr.gh.free nj)
          have hjG : upd G9 ja (.tup [.int wd, .int jt]) ja = some (.tup [.int wd, .int jt]) := upd_same
          generalize upd H11 ja (.tup [.int wd, .int jt]) = H12 at *
          generalize upd G9 ja (.tup [.int wd, .int jt]) = G12 at *
          walk_at "run"
          refine r_tyL (SqL.of (wk.get 0 rfl)) ?_
          walk_at "run"
          refine ⟨p, 6, rfl, wk.po, by decide, by decide, fun r4 o4 h4 po12 => ?_⟩
          have wk := wk.take po12
          generalize upd H12 p o4 = H13 at *
          walk_at "run"
          refine ⟨p, 64, rfl, wk.po, by decide, by decide, fun r5 o5 h5 po13 => ?_⟩
          have wk := wk.take po13
          generalize upd H13 p o5 = H14 at *
          walk_at "run"
          refine ⟨szr rfl, fun lb nb => ?_⟩
          have wk2 := wk
          have wk := wk.new nb (o := .lst [.int 1, .int (1 + r5)])
          have sC := same_new (o := .lst [.int 1, .int (1 + r5)]) (wk2.gr.gh.free nb)
          have hbG : upd G12 lb (.lst [.int 1, .int (1 + r5)]) lb = some (.lst [.int 1, .int (1 + r5)]) := upd_same
          generalize upd H14 lb (.lst [.int 1, .int (1 + r5)]) = H15 at *
          generalize upd G12 lb (.lst [.int 1, .int (1 + r5)]) = G15 at *
          walk_at "run"
          refine ⟨p, 2, rfl, wk.po, by decide, by decide, fun r6 o6 h6 po15 => ?_⟩
          have wk := wk.take po15
          generalize upd H15 p o6 = H16 at *
          obtain ⟨sp', hsp, sp1, sp2⟩ : ∃ sp' : Nat, atI [V.int 1, .int (1 + r5)] (r6 : Int) = some (.int sp') ∧ 1 ≤ sp' ∧ sp' ≤ 64 := by
            match r6, h6 with
            | 0, _ => exact ⟨1, rfl, by decide, by decide⟩
            | 1, _ => exact ⟨1 + r5, rfl, by omega, by omega⟩
          refine r_ixL (SqL.of (wk.gr.gh _ _ hbG)) hsp ?_
          walk_at "run"
          refine ⟨szr rfl, fun tc nc => ?_⟩
          have wk3 := wk
          have wk := wk.new nc (o := .tup [.int sz', .ref ja, .int r4, .int sp'])
          have sD := same_new (o := .tup [.int sz', .ref ja, .int r4, .int sp']) (wk3.gr.gh.free nc)
          have htG : upd G15 tc (.tup [.int sz', .ref ja, .int r4, .int sp']) tc = some (.tup [.int sz', .ref ja, .int r4, .int sp']) := upd_same
          generalize upd H16 tc (.tup [.int sz', .ref ja, .int r4, .int sp']) = H17 at *
          generalize upd G15 tc (.tup [.int sz', .ref ja, .int r4, .int sp']) = G17 at *
          walk_at "run"
          refine r_app (wk.get 0 rfl) (szl (by rw [aH.len]; omega)) ?_
          have wk := wk.set 0 rfl (o := .lst (vs ++ [.ref tc]))
          have sAll := ((sA.trans sB).trans sC).trans sD
          have hdn : hdOk ⟨sz', (wd, jt), r4, sp'⟩ := ⟨sz1, sz2, ⟨by show wd ≤ 8; omega, j2, j3⟩, by show r4 ≤ 5; omega, sp1, sp2⟩
          walk_at "run"
          refine ⟨G17, hs ++ [⟨sz', (wd, jt), r4, sp'⟩], vs ++ [.ref tc], wd, _, _, _, _, _, rfl, wk.gr, wk.np, (wk.at_ (f, _) (List.mem_cons_self ..)).2.1, (wk.at_ (Z, _) (List.mem_cons_of_mem _ (List.mem_cons_self ..))).2.1, wk.po, wk.get 1 rfl, wk.get 0 rfl, ?_, by rw [List.length_append, lh]; rfl, ht.snoc hdn (by show lf + wd ≤ sz'; omega), fun h => ?_, fun h => ?_⟩
          · exact (aH.imp fun v d z => HdV.mono sAll z).snoc ⟨tc, .ref ja, rfl, SqT.of htG, ja, rfl, SqT.of ((sC.trans sD) _ _ hjG)⟩
          · have := k3 h; omega
          · have := k4 h; omega
      · rintro σ H6 ⟨G6, hs, vs, lf, x6, x7, x8, x9, x10, rfl, g6, n1, n2, n3, po6, hz6, hf6, aH, lh, ht, _, hend⟩
        rw [List.length_map, cI_len, ln5] at lh hend
        have lf0 := hend rfl
        subst lf0
        walk_at "run"
        exact q _ _ _ (g6.freeze nfH n2 hf6) ⟨po6, hs, lh, ht.ok, f, vs, rfl, upd_same, aH.imp fun v d z => HdV.mono (same_new n2) z⟩
theorem ok_law_some {P : Program} {w : World} {base : Heap} {K : PySem.W.Frag} {mg : Str → Option Value} (T : Txt K mg) (ok_law_take : Ok_law_take P w base T) : Ok_law_some P w base T := by
  refine T.F_law_some.ok sc_law_some (fun vs H Q E h => ?_) (fun cdv A outer s H vs Q E hr h => ?_)
  · obtain ⟨G, p, n, rfl, _⟩ := h
    rfl
  · obtain ⟨G, p, n, rfl, gs, nG, po, n64, q⟩ := h
    refine ⟨_, (pss_cons (ps_set (i := 2) sc_law_some.nd rfl (Or.inr rfl) (pe_ix ix_list (pe_lst (pa_cons pe_int (pa_cons pe_int (pa_cons pe_int pa_nil)))) (pe_call ok_law_take (hr.mono (by decide)) (by rfl) T.g_law_take T.F_law_take.kp (b_law_take T) .nil pass0 (pa_cons (pv 0) (pa_cons pe_int pa_nil))) (fun _ _ => rfl)))
        (pss_one (ps_ret (pe_lc (own := [("_law_at", 3)]) (by rfl) sc_law_some.nd (pi_range1 (by rfl) T.n_range (pa_cons (pv 1) pa_nil)) (blkOk_by (own := [("_law_at", 3)]) (N := ["_law_pool_here", "_law_size", "_law_top", "_law_at"]) (sc := defScope s_law_some) (by decide +kernel)) (fun _ _ _ _ _ => (pg_name (i := 3) sc_law_some.nd rfl (by first | exact Or.inl rfl | exact Or.inr rfl))) (fun _ _ _ _ _ => pts_nil) (fun _ _ _ _ _ => (pe_op op_sub (pe_call ok_law_take (hr.mono (by decide)) (by rfl) T.g_law_take T.F_law_take.kp (b_law_take T) .nil pass0 (pa_cons (pv 0) (pa_cons (pe_op op_add (pe_op op_mul pe_int (pv 2)) pe_int) pa_nil))) (pv 2))))))), ?_⟩
    try dsimp only [cxOf, Cx.nox, Cx.wish, Cx.blk]
    walk_at "run"
    refine ⟨szr rfl, fun a na => ?_⟩
    have pa : p ≠ a := fun z => po.ne (by rw [z]; exact na)
    walk_at "run"
    refine ⟨p, 3, rfl, po.new na, by decide, by decide, fun r o hr1 po1 => ?_⟩
    obtain ⟨top, ht, htl⟩ : ∃ top : Nat, atI [V.int 2, .int 30, .int 30000] (r : Int) = some (.int top) ∧ top ≤ 30000 := by
      match r, hr1 with
      | 0, _ => exact ⟨2, rfl, by decide⟩
      | 1, _ => exact ⟨30, rfl, by decide⟩
      | 2, _ => exact ⟨30000, rfl, by decide⟩
    refine r_ixL (xs := [V.int 2, .int 30, .int 30000]) (SqL.of (by rw [upd_ne (Ne.symm pa)]; exact upd_same)) ht ?_
    have gr1 : Grow [p] G H G (upd (upd H a (.lst [.int 2, .int 30, .int 30000])) p o) := ((Grow.refl gs).mut na (gs.free na)).take nG
    generalize upd (upd H a (.lst [.int 2, .int 30, .int 30000])) p o = H1 at *
    walk_at "run"
    refine r_kR1 (by omega) ?_
    intro Z nz
    have nzG := gr1.gh.free nz
    have nzH := gr1.no nz
    have pz : p ≠ Z := fun z => po1.ne (by rw [z]; exact nz)
    refine lc_range (lo := 0) (n := n) (fun i H2 => ∃ ns : List Int, ns.length = i ∧ numsOk ns ∧ Grow [p] G H G H2 ∧ PoolAt H2 p ∧ H2 Z = some (.lst (ns.map V.int))) ⟨[], rfl, fun _ z => (nomatch z), gr1.mut nzH nzG, po1.new nz, upd_same⟩ ?_ ?_
    · rintro i H2 hi ⟨ns, ln, nok, g2, po2, hz⟩
      walk_at "run"
      refine ⟨rfl, ?_⟩
      walk_at "run"
      refine ⟨p, 2 * top + 1, rfl, po2, by omega, by omega, fun r2 o2 hr2 po3 => ?_⟩
      walk_at "run"
      refine ⟨_, by rw [upd_ne (Ne.symm pz)]; exact hz, szl (by rw [List.length_map]; omega), ns ++ [(r2 : Int) - top], by rw [List.length_append, ln]; rfl, fun x hx => ?_, (g2.take nG).mut nzH nzG, po3.upd pz, ?_⟩
      · rcases List.mem_append.mp hx with z | z
        · exact nok x z
        · rw [List.mem_singleton.mp z]; omega
      · rw [upd_same, List.map_append]; rfl
    rintro H2 ⟨ns, ln, nok, g2, po2, hz⟩
    exact q _ _ _ (g2.freeze nzH nzG hz) ⟨po2, ns, ln, nok, Z, rfl, upd_same⟩
theorem ok_law_frame {P : Program} {w : World} {base : Heap} {K : PySem.W.Frag} {mg : Str → Option Value} (T : Txt K mg) (ok_law_written : Ok_law_written P w base T) (ok_law_counts : Ok_law_counts P w base T) (ok_law_mark : Ok_law_mark P w base T) : Ok_law_frame P w base T := by
  refine T.F_law_frame.ok sc_law_frame (fun vs H Q E h => ?_) (fun cdv A outer s H vs Q E hr h => ?_)
  · obtain ⟨G, hv', nv, tv, hd, ns, t, rfl, _⟩ := h
    rfl
  · obtain ⟨G, hv', nv, tv, hd, ns, t, rfl, gs, hH, hN, hT, ⟨⟨o1, o2, o3, o4, o5, o6⟩, nl, nok, tok⟩, q⟩ := h
    obtain ⟨a, u, rfl, hS', hJG⟩ := hH
    have hS := sm_tup gs hS'
    refine ⟨_, (pss_cons (ps_set (i := 3) sc_law_frame.nd rfl (Or.inl rfl) (pe_ix ix_list (pe_call ok_law_counts (hr.mono (by decide)) (by rfl) T.g_law_counts T.F_law_counts.kp (b_law_counts T) .nil pass0 (pa_cons (pe_ix ix_tup (pv 0) pe_int (fun _ _ => rfl)) (pa_cons (pe_ix ix_tup (pv 0) pe_int (fun _ _ => rfl)) pa_nil))) (pe_un un_neg pe_int) (fun _ _ => rfl)))
        (pss_cons (ps_asg (pe_call ok_law_written (hr.mono (by decide)) (by rfl) T.g_law_written T.F_law_written.kp (b_law_written T) .nil pass0 (pa_cons (pv 1) (pa_cons (pv 3) (pa_cons (pv 2) pa_nil)))) (pg_tup rfl (pgs_cons (pg_name (i := 4) sc_law_frame.nd rfl (Or.inl rfl)) (pgs_cons (pg_name (i := 5) sc_law_frame.nd rfl (Or.inl rfl)) pgs_nil))))
        (pss_one (ps_ret (pe_tup (pa_cons (pe_tup (pa_cons pe_str (pa_cons (pe_ix ix_tup (pv 0) pe_int (fun _ _ => rfl)) (pa_cons (pe_ix ix_tup (pv 0) pe_int (fun _ _ => rfl)) (pa_cons (pe_ix ix_tup (pv 0) pe_int (fun _ _ => rfl)) (pa_cons (pe_ix ix_tup (pv 0) pe_int (fun _ _ => rfl)) (pa_cons (pe_call ok_law_mark (hr.mono (by decide)) (by rfl) T.g_law_mark T.F_law_mark.kp (b_law_mark T) .nil pass0 (pa_cons (pv 1) pa_nil)) (pa_cons (pv 4) pa_nil)))))))) (pa_cons (pv 5) pa_nil))))))), ?_⟩
    try dsimp only [cxOf, Cx.nox, Cx.wish, Cx.blk]
    walk_at "run"
    refine r_ixT hS (at0 (n := 0) rfl) ?_
    walk_at "run"
    refine r_ixT hS (at0 (n := 2) rfl) ?_
    walk_at "run"
    refine ⟨G, hd.len, hd.lev, rfl, gs, o4, fun G1 H1 v1 gr1 p1 => ?_⟩
    obtain ⟨ca, rfl, hC⟩ := p1
    walk_at "run"
    refine r_ixL (SqL.of (gr1.gh _ _ hC)) (atm1 (by rw [cnt_len, Nat.add_sub_cancel]; exact cnt_at (Nat.le_refl _))) ?_
    walk_at "run"
    refine ⟨G1, nv, ns, hv hd.len hd.lev, tv, t, rfl, gr1.gh, Li.mono gr1.gg hN, by omega, nok, tok, TbsV.mono gr1.gg hT, fun G2 H2 v2 gr2 p2 => ?_⟩
    obtain ⟨wa, wu, rfl, wS, wT⟩ := p2
    walk_at "run"
    refine r_gTup (sm_tup gr2.gh wS) rfl ?_
    walk_at "run"
    have gr3 := gr1.trans gr2
    have hS2 := sm_tup gr3.hs hS
    refine r_ixT hS2 (at0 (n := 0) rfl) ?_
    walk_at "run"
    refine r_ixT hS2 (at0 (n := 1) rfl) ?_
    walk_at "run"
    refine r_ixT hS2 (at0 (n := 2) rfl) ?_
    walk_at "run"
    refine r_ixT hS2 (at0 (n := 3) rfl) ?_
    walk_at "run"
    refine ⟨nv, ns, rfl, Li.mono (gr3.gg.trans gr3.gh) hN, ?_⟩
    walk_at "run"
    refine ⟨szr rfl, fun ta na => ?_⟩
    walk_at "run"
    refine ⟨szr rfl, fun tb nb => ?_⟩
    have gr4 := gr3.new na (o := .tup [.str "frame", .int hd.len, u, .int hd.lev, .int hd.step, .int (markN ns), .str (tx (written ns (hv hd.len hd.lev) t).1)])
    have sA := same_new (gr3.gh.free na) (o := .tup [.str "frame", .int hd.len, u, .int hd.lev, .int hd.step, .int (markN ns), .str (tx (written ns (hv hd.len hd.lev) t).1)])
    have gr5 := gr4.new nb (o := .tup [.ref ta, wu])
    have sB := same_new (gr4.gh.free nb) (o := .tup [.ref ta, wu])
    refine q _ _ _ gr5 ⟨tb, .ref ta, wu, rfl, SqT.of upd_same, ⟨ta, u, rfl, sm_tup sB (SqT.of upd_same), JtV.mono ((gr3.gg.trans sA).trans sB) hJG⟩, TbsV.mono (sA.trans sB) wT⟩
theorem ok_law_tables {P : Program} {w : World} {base : Heap} {K : PySem.W.Frag} {mg : Str → Option Value} (T : Txt K mg) (ok_law_take : Ok_law_take P w base T) : Ok_law_tables P w base T := by
  refine T.F_law_tables.ok sc_law_tables (fun vs H Q E h => ?_) (fun cdv A outer s H vs Q E hr h => ?_)
  · obtain ⟨G, p, rfl, _⟩ := h
    rfl
  · obtain ⟨G, p, rfl, gs, nG, po, q⟩ := h
    refine ⟨_, (pss_cons (ps_set (i := 1) sc_law_tables.nd rfl (Or.inl rfl) (pe_tup (pa_cons (pe_call ok_law_take (hr.mono (by decide)) (by rfl) T.g_law_take T.F_law_take.kp (b_law_take T) .nil pass0 (pa_cons (pv 0) (pa_cons pe_int pa_nil))) (pa_cons (pe_op op_add pe_int (pe_call ok_law_take (hr.mono (by decide)) (by rfl) T.g_law_take T.F_law_take.kp (b_law_take T) .nil pass0 (pa_cons (pv 0) (pa_cons pe_int pa_nil)))) pa_nil))))
        (pss_one (ps_ret (pe_tup (pa_cons (pv 1) (pa_cons (pe_tup (pa_cons (pe_call ok_law_take (hr.mono (by decide)) (by rfl) T.g_law_take T.F_law_take.kp (b_law_take T) .nil pass0 (pa_cons (pv 0) (pa_cons pe_int pa_nil))) (pa_cons (pe_op op_add pe_int (pe_call ok_law_take (hr.mono (by decide)) (by rfl) T.g_law_take T.F_law_take.kp (b_law_take T) .nil pass0 (pa_cons (pv 0) (pa_cons pe_int pa_nil)))) pa_nil))) pa_nil)))))), ?_⟩
    try dsimp only [cxOf, Cx.nox, Cx.wish, Cx.blk]
    walk_at "go"
    refine ⟨p, 90, rfl, po, by decide, by decide, fun r1 o1 h1 po1 => ?_⟩
    walk_at "go"
    refine ⟨p, 15, rfl, po1, by decide, by decide, fun r2 o2 h2 po2 => ?_⟩
    walk_at "go"
    refine ⟨szr rfl, fun a na => ?_⟩
    have g1 := (((Grow.refl (M := [p]) gs).take nG (o := o1)).take nG (o := o2)).new na (o := .tup [.int r1, .int (1 + r2)])
    walk_at "go"
    refine ⟨p, 9, rfl, po2.new na, by decide, by decide, fun r3 o3 h3 po3 => ?_⟩
    walk_at "go"
    refine ⟨p, 15, rfl, po3, by decide, by decide, fun r4 o4 h4 po4 => ?_⟩
    walk_at "go"
    refine ⟨szr rfl, fun b nb => ?_⟩
    have g2 := ((g1.take (po.nG g1 nG) (o := o3)).take (po.nG g1 nG) (o := o4)).new nb (o := .tup [.int r3, .int (1 + r4)])
    walk_at "go"
    refine ⟨szr rfl, fun c nc => ?_⟩
    have g3 := g2.new nc (o := .tup [.ref a, .ref b])
    refine q _ _ _ g3 ⟨(po4.new nb).new nc, ((r1, 1 + r2), (r3, 1 + r4)), ⟨⟨by show 1 ≤ 1 + r2; omega, by show 1 + r2 ≤ 15; omega, by show r1 ≤ 60001 * (1 + r2); omega⟩, ⟨by show 1 ≤ 1 + r4; omega, by show 1 + r4 ≤ 15; omega, by show r3 ≤ 60001 * (1 + r4); omega⟩⟩, ?_⟩
    have e1 : (upd G a (.tup [.int r1, .int (1 + r2)])) a = some (.tup [.int r1, .int (1 + r2)]) := upd_same
    have s2 := (Grow.alloc (M := []) ((g1.take (po.nG g1 nG) (o := o3)).take (po.nG g1 nG) (o := o4)).gh nb (o := .tup [.int r3, .int (1 + r4)])).gg
    have s3 := (Grow.alloc (M := []) g2.gh nc (o := .tup [.ref a, .ref b])).gg
    exact ⟨c, .ref a, .ref b, rfl, SqT.of upd_same, ⟨a, rfl, SqT.of (s3 _ _ (s2 _ _ e1))⟩, ⟨b, rfl, SqT.of (s3 _ _ upd_same)⟩⟩
theorem ok_law_stream {P : Program} {w : World} {base : Heap} {K : PySem.W.Frag} {mg : Str → Option Value} (T : Txt K mg) (ok_law_heads : Ok_law_heads P w base T) (ok_law_some : Ok_law_some P w base T) (ok_law_frame : Ok_law_frame P w base T) (ok_law_take : Ok_law_take P w base T) (ok_law_tables : Ok_law_tables P w base T) : Ok_law_stream P w base T := by
  refine T.F_law_stream.ok sc_law_stream (fun vs H Q E h => ?_) (fun cdv A outer s H vs Q E hr h => ?_)
  · obtain ⟨G, p, m, rfl, _⟩ := h
    rfl
  · obtain ⟨G, p, m, rfl, gs, nG, po, m1, m9, q⟩ := h
    have wk0 := Wk.start gs nG po
    refine ⟨_, (pss_cons (ps_asg (pe_tup (pa_cons (pe_lst pa_nil) (pa_cons (pe_lst pa_nil) (pa_cons (pe_lst pa_nil) (pa_cons (pe_tup (pa_cons (pe_tup (pa_cons pe_int (pa_cons pe_int pa_nil))) (pa_cons (pe_tup (pa_cons pe_int (pa_cons pe_int pa_nil))) pa_nil))) pa_nil))))) (pg_tup rfl (pgs_cons (pg_name (i := 2) sc_law_stream.nd rfl (Or.inl rfl)) (pgs_cons (pg_name (i := 3) sc_law_stream.nd rfl (Or.inl rfl)) (pgs_cons (pg_name (i := 4) sc_law_stream.nd rfl (Or.inl rfl)) (pgs_cons (pg_name (i := 5) sc_law_stream.nd rfl (Or.inl rfl)) pgs_nil))))))
        (pss_cons (ps_asg (pe_tup (pa_cons pe_int (pa_cons pe_int (pa_cons (pe_tup (pa_cons pe_int (pa_cons pe_int pa_nil))) pa_nil)))) (pg_tup rfl (pgs_cons (pg_name (i := 6) sc_law_stream.nd rfl (Or.inl rfl)) (pgs_cons (pg_name (i := 7) sc_law_stream.nd rfl (Or.inl rfl)) (pgs_cons (pg_name (i := 8) sc_law_stream.nd rfl (Or.inl rfl)) pgs_nil)))))
        (pss_cons (ps_for PassesOwn.never rfl (pi_list (pe_call ok_law_heads (hr.mono (by decide)) (by rfl) T.g_law_heads T.F_law_heads.kp (b_law_heads T) .nil pass0 (pa_cons (pv 0) (pa_cons (pv 1) pa_nil)))) (pg_name (i := 9) sc_law_stream.nd rfl (Or.inl rfl)) (pss_cons (ps_if (pt_cmpR op_eq (pe_call ok_law_take (hr.mono (by decide)) (by rfl) T.g_law_take T.F_law_take.kp (b_law_take T) .nil pass0 (pa_cons (pv 0) (pa_cons pe_int pa_nil))) pe_int (nomark _)) (pss_cons (ps_if (pt_cmpR op_eq (pe_call ok_law_take (hr.mono (by decide)) (by rfl) T.g_law_take T.F_law_take.kp (b_law_take T) .nil pass0 (pa_cons (pv 0) (pa_cons pe_int pa_nil))) pe_int (nomark _)) (pss_one (ps_expr (pe_bm PySem.F.plainAttrs_list PySem.F.slot_list_append PySem.F.type_list_append mt_append (pv 2) (pa_cons (pe_tup (pa_cons pe_str (pa_cons (pe_call ok_law_tables (hr.mono (by decide)) (by rfl) T.g_law_tables T.F_law_tables.kp (b_law_tables T) .nil pass0 (pa_cons (pv 0) pa_nil)) pa_nil))) pa_nil)))) pss_nil)
        (pss_cons (ps_set (i := 5) sc_law_stream.nd rfl (Or.inl rfl) (pe_ix ix_list (pe_lst (pa_cons (pv 5) (pa_cons (pe_tup (pa_cons (pe_tup (pa_cons pe_int (pa_cons pe_int pa_nil))) (pa_cons (pe_tup (pa_cons pe_int (pa_cons pe_int pa_nil))) pa_nil))) (pa_cons (pe_call ok_law_tables (hr.mono (by decide)) (by rfl) T.g_law_tables T.F_law_tables.kp (b_law_tables T) .nil pass0 (pa_cons (pv 0) pa_nil)) pa_nil)))) (pe_call ok_law_take (hr.mono (by decide)) (by rfl) T.g_law_take T.F_law_take.kp (b_law_take T) .nil pass0 (pa_cons (pv 0) (pa_cons pe_int pa_nil))) (fun _ _ => rfl)))
        (pss_cons (ps_set (i := 6) sc_law_stream.nd rfl (Or.inl rfl) (pe_callB call_lenN (by rfl) T.n_len (by decide +kernel) (pa_cons (pv 2) pa_nil)))
        (pss_one (ps_expr (pe_bm PySem.F.plainAttrs_list PySem.F.slot_list_append PySem.F.type_list_append mt_append (pv 2) (pa_cons (pe_tup (pa_cons pe_str (pa_cons (pv 5) pa_nil))) pa_nil))))))) pss_nil)
        (pss_cons (ps_set (i := 10) sc_law_stream.nd rfl (Or.inl rfl) (pe_call ok_law_some (hr.mono (by decide)) (by rfl) T.g_law_some T.F_law_some.kp (b_law_some T) .nil pass0 (pa_cons (pv 0) (pa_cons (pe_ix ix_tup (pv 9) pe_int (fun _ _ => rfl)) pa_nil))))
        (pss_cons (ps_asg (pe_call ok_law_frame (hr.mono (by decide)) (by rfl) T.g_law_frame T.F_law_frame.kp (b_law_frame T) .nil pass0 (pa_cons (pv 9) (pa_cons (pv 10) (pa_cons (pv 5) pa_nil)))) (pg_tup rfl (pgs_cons (pg_name (i := 11) sc_law_stream.nd rfl (Or.inl rfl)) (pgs_cons (pg_name (i := 5) sc_law_stream.nd rfl (Or.inl rfl)) pgs_nil))))
        (pss_cons (ps_expr (pe_bm PySem.F.plainAttrs_list PySem.F.slot_list_append PySem.F.type_list_append mt_append (pv 3) (pa_cons (pe_tup (pa_cons (pe_callB call_lenN (by rfl) T.n_len (by decide +kernel) (pa_cons (pv 2) pa_nil)) (pa_cons (pv 7) (pa_cons (pe_ix ix_tup (pv 9) pe_int (fun _ _ => rfl)) (pa_cons (pv 8) (pa_cons (pe_ix ix_tup (pv 9) pe_int (fun _ _ => rfl)) (pa_cons (pe_ix ix_tup (pv 9) pe_int (fun _ _ => rfl)) (pa_cons (pe_ix ix_tup (pv 9) pe_int (fun _ _ => rfl)) (pa_cons (pv 6) pa_nil))))))))) pa_nil)))
        (pss_cons (ps_expr (pe_bm PySem.F.plainAttrs_list PySem.F.slot_list_append PySem.F.type_list_append mt_append (pv 2) (pa_cons (pv 11) pa_nil)))
        (pss_cons (ps_expr (pe_bm PySem.F.plainAttrs_list PySem.F.slot_list_append PySem.F.type_list_append mt_append (pv 4) (pa_cons (pv 10) pa_nil)))
        (pss_one (ps_par (i := 7) (j := 8) (by rfl) sc_law_stream.nd rfl rfl (by decide) rfl rfl (pa_cons (pe_op op_add (pv 7) (pe_ix ix_tup (pv 9) pe_int (fun _ _ => rfl))) (pa_cons (pe_ix ix_tup (pv 9) pe_int (fun _ _ => rfl)) pa_nil)) (by rfl))))))))))
        (pss_cons (ps_if (pt_cmpR op_eq (pe_call ok_law_take (hr.mono (by decide)) (by rfl) T.g_law_take T.F_law_take.kp (b_law_take T) .nil pass0 (pa_cons (pv 0) (pa_cons pe_int pa_nil))) pe_int (nomark _)) (pss_one (ps_expr (pe_bm PySem.F.plainAttrs_list PySem.F.slot_list_append PySem.F.type_list_append mt_append (pv 2) (pa_cons (pe_tup (pa_cons pe_str (pa_cons (pv 5) pa_nil))) pa_nil)))) pss_nil)
        (pss_one (ps_ret (pe_lst (pa_cons (pv 2) (pa_cons (pv 3) (pa_cons (pv 4) pa_nil)))))))))), ?_⟩
    try dsimp only [cxOf, Cx.nox, Cx.wish, Cx.blk]
    walk_at "run"
    refine ⟨szr rfl, fun r nr => ?_⟩
    have wk1 := wk0.made nr (o := .lst [])
    walk_at "run"
    refine ⟨szr rfl, fun w nw => ?_⟩
    have wk2 := wk1.made nw (o := .lst [])
    walk_at "run"
    refine ⟨szr rfl, fun k nk => ?_⟩
    have wk3 := wk2.made nk (o := .lst [])
    walk_at "run"
    refine ⟨szr rfl, fun t1 n1 => ?_⟩
    have wk4 := wk3.new n1 (o := .tup [.int 2, .int 1])
    have s1 := same_new (o := .tup [.int 2, .int 1]) (wk3.gr.gh.free n1)
    walk_at "run"
    refine ⟨szr rfl, fun t2 n2 => ?_⟩
    have wk5 := wk4.new n2 (o := .tup [.int 2, .int 1])
    have s2 := same_new (o := .tup [.int 2, .int 1]) (wk4.gr.gh.free n2)
    walk_at "run"
    refine ⟨szr rfl, fun t3 n3 => ?_⟩
    have wk6 := wk5.new n3 (o := .tup [.ref t1, .ref t2])
    have s3 := same_new (o := .tup [.ref t1, .ref t2]) (wk5.gr.gh.free n3)
    have hT : TbsV K (upd (upd (upd G t1 (.tup [.int 2, .int 1])) t2 (.tup [.int 2, .int 1])) t3 (.tup [.ref t1, .ref t2])) (.ref t3) start0 :=
      ⟨t3, .ref t1, .ref t2, rfl, SqT.of upd_same, ⟨t1, rfl, SqT.of ((s2.trans s3) _ _ upd_same)⟩, ⟨t2, rfl, SqT.of (s3 _ _ upd_same)⟩⟩
    walk_at "run"
    refine ⟨szr rfl, fun t4 n4 => ?_⟩
    have wk7 := wk6.pure (same_new n4 (o := .tup [.ref r, .ref w, .ref k, .ref t3]))
    refine r_gTup (SqT.of upd_same) rfl ?_
    generalize upd (upd (upd (upd (upd (upd (upd H r (.lst [])) w (.lst [])) k (.lst [])) t1 (.tup [.int 2, .int 1])) t2 (.tup [.int 2, .int 1])) t3 (.tup [.ref t1, .ref t2])) t4 (.tup [.ref r, .ref w, .ref k, .ref t3]) = H7 at *
    generalize upd (upd (upd G t1 (.tup [.int 2, .int 1])) t2 (.tup [.int 2, .int 1])) t3 (.tup [.ref t1, .ref t2]) = G7 at *
    clear wk0 wk1 wk2 wk3 wk4 wk5 wk6
    walk_at "run"
    refine ⟨szr rfl, fun t5 n5 => ?_⟩
    have wk8 := wk7.new n5 (o := .tup [.int 0, .int 0])
    have s5 := same_new (o := .tup [.int 0, .int 0]) (wk7.gr.gh.free n5)
    have hJ : JtV K (upd G7 t5 (.tup [.int 0, .int 0])) (.ref t5) (0, 0) := ⟨t5, rfl, SqT.of upd_same⟩
    walk_at "run"
    refine ⟨szr rfl, fun t6 n6 => ?_⟩
    have wk9 := wk8.pure (same_new n6 (o := .tup [.int 0, .int 0, .ref t5]))
    refine r_gTup (SqT.of upd_same) rfl ?_
    have hT := TbsV.mono s5 hT
    generalize upd (upd H7 t5 (.tup [.int 0, .int 0])) t6 (.tup [.int 0, .int 0, .ref t5]) = H9 at *
    generalize upd G7 t5 (.tup [.int 0, .int 0]) = G9 at *
    clear wk7 wk8
    walk_at "run"
    refine ⟨G9, p, m, rfl, wk9.gr.gh, wk9.np, wk9.po, m1, m9, fun G10 H10 v10 gr10 p10 => ?_⟩
    obtain ⟨po10, hs, hl, hok, ha, hvs, rfl, hH, aH⟩ := p10
    have st0 : StW K p G H r w k [] [] [] [] G10 H10 := ⟨wk9.call gr10 po10, All2.nil, All2.nil, All2.nil, trivial⟩
    have hT := TbsV.mono gr10.gg hT
    have hJ := JtV.mono gr10.gg hJ
    walk_at "run"
    refine r_kL (SqL.of (gr10.gh _ _ hH)) ?_
    refine for_list (K := K) (a := ha) (xs := hvs) (fun i σ H1 => ∃ (G1 : Hp) (rs : List Rc) (vr vw vk : List V) (tv lv : V) (x9 x10 x11 : Option V), σ = [some (.ref p), some (.int m), some (.ref r), some (.ref w), some (.ref k), some tv, some (.int (aft rs).org), some (.int (aft rs).st), some lv, x9, x10, x11] ∧
      StW K p G H r w k vr vw vk rs G1 H1 ∧ Same G10 G1 ∧ TbsV K G1 tv (aft rs).cur ∧ tbsOk (aft rs).cur ∧ JtV K G1 lv (aft rs).left ∧ jtOk (aft rs).left ∧ (ixs rs).length = i ∧ rs.length ≤ 3 * i ∧ HeadsOk (aft rs).left.1 (hs.drop i))
      ⟨G10, [], [], [], [], _, _, none, none, none, rfl, st0, Same.refl _, hT, start_ok, hJ, ⟨by decide, by decide, fun _ => rfl⟩, rfl, Nat.le_refl _, hok⟩
      (fun i σ H1 _ ⟨G1, rs, vr, vw, vk, _, _, _, _, _, _, st, s10, _⟩ => SqL.of (st.wk.gr.gh _ _ (s10 _ _ hH))) ?_ ?_
    · rintro i y σ H1 hi ⟨G1, rs, vr, vw, vk, tv, lv, x9, x10, x11, rfl, st, s10, hT, tok, hJ, jok, il, rl, hk⟩
      obtain ⟨hd, hhd, hHd⟩ := aH.get hi
      have hi9 := (List.getElem?_eq_some_iff.mp hhd).1
      have hHd := HdV.mono s10 hHd
      walk_at "run"
      refine ⟨p, 3, rfl, st.wk.po, by decide, by decide, fun r1 o1 h1 po1 => ?_⟩
      have st := st.take po1
      generalize upd H1 p o1 = H2 at *
      walk_at "run"
      have sc : Same G1 G1 := Same.refl _
      obtain ⟨lf, hlf⟩ : ∃ lf, lf = (aft rs).left := ⟨_, rfl⟩
      obtain ⟨sv, hsv⟩ : ∃ sv, sv = (aft rs).st := ⟨_, rfl⟩
      obtain ⟨og, hog⟩ : ∃ og, og = (aft rs).org := ⟨_, rfl⟩
      obtain ⟨cu, hcu⟩ : ∃ cu, cu = (aft rs).cur := ⟨_, rfl⟩
      rw [← hlf] at hJ jok hk
      rw [← hcu] at hT tok
      rw [← hog, ← hsv]
      have rl1 : rs.length ≤ 3 * i := rl
      have edrop : hs.drop i = hd :: hs.drop (i + 1) := by
        rw [List.drop_eq_getElem_cons hi9]
        congr 1
        exact (List.getElem?_eq_some_iff.mp hhd).2
      rw [edrop] at hk
      obtain ⟨hdok, hll, hk2⟩ := hk
      refine r_dec (fun h0 => ?brA) (fun h0 => ?brB)
      case' brA =>
        walk_at "run"
        refine ⟨p, 4, rfl, st.wk.po, by decide, by decide, fun r2 o2 h2 po2 => ?_⟩
        have st := st.take po2
        generalize upd H2 p o2 = H3 at *
        walk_at "run"
        have gc := st.wk.gr.gh
        generalize hGc : G1 = Gc at st sc
        have sc : Same G1 Gc := by rw [hGc]; exact Same.refl _
        clear hGc gc
        have rl2 : rs.length ≤ 3 * i + 1 := by omega
        refine r_dec (fun h3 => ?_) (fun h3 => ?_)
        walk_at "run"
        refine r_tyL (SqL.of (st.wk.get 2 rfl)) ?_
        walk_at "run"
        refine ⟨Gc, p, rfl, st.wk.gr.gh, st.wk.np, st.wk.po, fun G4 H4 v4 gr4 p4 => ?_⟩
        obtain ⟨po4, t4, tok4, hT4⟩ := p4
        have st := st.call gr4 po4
        have sc := sc.trans gr4.gg
        clear gr4
        walk_at "run"
        refine ⟨szr rfl, fun ta na => ?_⟩
        walk_at "run"
        have st3 := st.new na (o := .tup [.str "state", v4])
        have sA := same_new (o := .tup [.str "state", v4]) (st.wk.gr.gh.free na)
        have hv : RcV K (upd G4 ta (.tup [.str "state", v4])) (.ref ta) (.st t4) := ⟨ta, v4, rfl, SqT.of upd_same, TbsV.mono sA hT4⟩
        have ll := st.aR.len
        have st4 := st3.st hv tok4
        refine r_app (st3.wk.get 2 rfl) (szl (by omega)) ?_
        have sc := sc.trans sA
        clear st st3 hv sA na ll
        have hlf : lf = (aft (rs ++ [.st t4])).left := by rw [aft_app]; exact hlf
        have hsv : sv = (aft (rs ++ [.st t4])).st := by rw [aft_app]; exact hsv
        have il : (ixs (rs ++ [.st t4])).length = i := by rw [ixs_app]; show (_ ++ []).length = _; rw [List.append_nil]; exact il
        have rl2 : (rs ++ [Rc.st t4]).length ≤ 3 * i + 1 := by rw [List.length_append, List.length_singleton]; omega
        have st := st4
        clear st4
        generalize upd (upd H4 ta (.tup [.str "state", v4])) r (.lst (vr ++ [.ref ta])) = Hc at *
        generalize upd G4 ta (.tup [.str "state", v4]) = Gc at *
        generalize rs ++ [Rc.st t4] = rs at *
        generalize vr ++ [V.ref ta] = vr at *
        rotate_left
        generalize H3 = Hc at *
        all_goals
          walk_at "run"
          refine ⟨szr rfl, fun t1 n1 => ?_⟩
          have st1 := st.new n1 (o := .tup [.int 2, .int 1])
          have s1 := same_new (o := .tup [.int 2, .int 1]) (st.wk.gr.gh.free n1)
          walk_at "run"
          refine ⟨szr rfl, fun t2 n2 => ?_⟩
          have st2 := st1.new n2 (o := .tup [.int 2, .int 1])
          have s2 := same_new (o := .tup [.int 2, .int 1]) (st1.wk.gr.gh.free n2)
          walk_at "run"
          refine ⟨szr rfl, fun t3 n3 => ?_⟩
          have st3 := st2.new n3 (o := .tup [.ref t1, .ref t2])
          have s3 := same_new (o := .tup [.ref t1, .ref t2]) (st2.wk.gr.gh.free n3)
          walk_at "run"
          have hT0 : TbsV K (upd (upd (upd Gc t1 (.tup [.int 2, .int 1])) t2 (.tup [.int 2, .int 1])) t3 (.tup [.ref t1, .ref t2])) (.ref t3) start0 :=
            ⟨t3, .ref t1, .ref t2, rfl, SqT.of upd_same, ⟨t1, rfl, SqT.of ((s2.trans s3) _ _ upd_same)⟩, ⟨t2, rfl, SqT.of (s3 _ _ upd_same)⟩⟩
          have sc := ((sc.trans s1).trans s2).trans s3
          generalize upd (upd (upd Gc t1 (.tup [.int 2, .int 1])) t2 (.tup [.int 2, .int 1])) t3 (.tup [.ref t1, .ref t2]) = G5 at *
          generalize upd (upd (upd Hc t1 (.tup [.int 2, .int 1])) t2 (.tup [.int 2, .int 1])) t3 (.tup [.ref t1, .ref t2]) = H5 at *
          clear st st1 st2 s1 s2 s3
          refine ⟨G5, p, rfl, st3.wk.gr.gh, st3.wk.np, st3.wk.po, fun G6 H6 v6 gr6 p6 => ?_⟩
          obtain ⟨po6, t6, tok6, hT6⟩ := p6
          have st := st3.call gr6 po6
          have sc := sc.trans gr6.gg
          have hT0 := TbsV.mono gr6.gg hT0
          clear gr6 st3
          walk_at "run"
          refine ⟨szr rfl, fun la nl => ?_⟩
          have st1 := st.new nl (o := .lst [tv, .ref t3, v6])
          have s1 := same_new (o := .lst [tv, .ref t3, v6]) (st.wk.gr.gh.free nl)
          have hla : upd G6 la (.lst [tv, .ref t3, v6]) la = some (.lst [tv, .ref t3, v6]) := upd_same
          have sc := sc.trans s1
          have hT0 := TbsV.mono s1 hT0
          have hT6 := TbsV.mono s1 hT6
          generalize upd G6 la (.lst [tv, .ref t3, v6]) = G7 at *
          generalize upd H6 la (.lst [tv, .ref t3, v6]) = H7 at *
          clear st s1
          walk_at "run"
          refine ⟨p, 3, rfl, st1.wk.po, by decide, by decide, fun r8 o8 h8 po8 => ?_⟩
          have st := st1.take po8
          clear st1
          generalize upd H7 p o8 = H8 at *
          obtain ⟨cv, cu', hcv, hTc, tokc⟩ : ∃ (cv : V) (cu' : Tbs), atI [tv, .ref t3, v6] (r8 : Int) = some cv ∧ TbsV K G7 cv cu' ∧ tbsOk cu' := by
            match r8, h8 with
            | 0, _ => exact ⟨tv, cu, rfl, TbsV.mono sc hT, tok⟩
            | 1, _ => exact ⟨.ref t3, start0, rfl, hT0, start_ok⟩
            | 2, _ => exact ⟨v6, t6, rfl, hT6, tok6⟩
          refine r_ixL (SqL.of (st.wk.gr.gh _ _ hla)) hcv ?_
          walk_at "run"
          refine r_lenL (SqL.of (st.wk.get 2 rfl)) ?_
          walk_at "run"
          refine r_tyL (SqL.of (st.wk.get 2 rfl)) ?_
          walk_at "run"
          refine ⟨szr rfl, fun tb nb => ?_⟩
          walk_at "run"
          have st3 := st.new nb (o := .tup [.str "state", cv])
          have sA := same_new (o := .tup [.str "state", cv]) (st.wk.gr.gh.free nb)
          have hv : RcV K (upd G7 tb (.tup [.str "state", cv])) (.ref tb) (.st cu') := ⟨tb, cv, rfl, SqT.of upd_same, TbsV.mono sA hTc⟩
          have ll := st.aR.len
          have st4 := st3.st hv tokc
          refine r_app (st3.wk.get 2 rfl) (szl (by omega)) ?_
          have sc := sc.trans sA
          have hTc := TbsV.mono sA hTc
          have hog : vr.length = (aft (rs ++ [.st cu'])).org := by rw [aft_app, ll]; exact (aft_len rs).symm
          have hlf : lf = (aft (rs ++ [.st cu'])).left := by rw [aft_app]; exact hlf
          have hsv : sv = (aft (rs ++ [.st cu'])).st := by rw [aft_app]; exact hsv
          have hcu : cu' = (aft (rs ++ [.st cu'])).cur := by rw [aft_app]; rfl
          have il : (ixs (rs ++ [.st cu'])).length = i := by rw [ixs_app]; show (_ ++ []).length = _; rw [List.append_nil]; exact il
          have rl3 : (rs ++ [Rc.st cu']).length ≤ 3 * i + 2 := by rw [List.length_append, List.length_singleton]; omega
          have st := st4
          clear st3 st4 hv sA nb hla
          generalize upd (upd H8 tb (.tup [.str "state", cv])) r (.lst (vr ++ [.ref tb])) = Hd' at *
          generalize upd G7 tb (.tup [.str "state", cv]) = Gd at *
          have hT := hTc
          have tok := tokc
          generalize rs ++ [Rc.st cu'] = rs at *
          generalize vr.length = og at *
          generalize vr ++ [V.ref tb] = vr at *
          generalize cv = tv at *
          generalize cu' = cu at *
      case' brB =>
        have rl3 : rs.length ≤ 3 * i + 2 := by omega
        generalize hGc : G1 = Gd at st hT
        have sc : Same G1 Gd := by rw [hGc]; exact Same.refl _
        clear hGc
        generalize H2 = Hd' at *
      all_goals
        have hHd := HdV.mono sc hHd
        have hJ := JtV.mono sc hJ
        obtain ⟨hda, hju, rfl, hdS, hdJ⟩ := hHd
        walk_at "run"
        refine r_ixT (sm_tup st.wk.gr.gh hdS) (at0 (n := 0) rfl) ?_
        walk_at "run"
        refine ⟨Gd, p, hd.len, rfl, st.wk.gr.gh, st.wk.np, st.wk.po, hdok.2.1, fun G1' H1' v1 gr1 p1 => ?_⟩
        obtain ⟨po1', ns, nl, nok, hN⟩ := p1
        have st := st.call gr1 po1'
        have fok : (Rc.fr hd ns cu).ok := ⟨hdok, nl, nok, tok⟩
        walk_at "run"
        refine ⟨G1', .ref hda, v1, tv, hd, ns, cu, rfl, st.wk.gr.gh, ⟨hda, hju, rfl, sm_tup gr1.gg hdS, JtV.mono gr1.gg hdJ⟩, hN, TbsV.mono gr1.gg hT, fok, fun G2' H2' v2 gr2 p2 => ?_⟩
        obtain ⟨fa, rv, tu, rfl, fS, hR, hTn⟩ := p2
        have st := st.call0 gr2
        have hN := Li.mono gr2.gg hN
        have sc2 := gr1.gg.trans gr2.gg
        have sc := sc.trans sc2
        have hdS := sm_tup sc2 hdS
        have hdJ := JtV.mono sc2 hdJ
        have hJ := JtV.mono sc2 hJ
        clear gr1 gr2 sc2 hT
        walk_at "run"
        refine r_gTup (sm_tup st.wk.gr.gh fS) rfl ?_
        walk_at "run"
        refine r_tyL (SqL.of (st.wk.get 1 rfl)) ?_
        walk_at "run"
        refine r_lenL (SqL.of (st.wk.get 2 rfl)) ?_
        walk_at "run"
        refine r_ixT (sm_tup st.wk.gr.gh hdS) (at0 (n := 0) rfl) ?_
        walk_at "run"
        refine r_ixT (sm_tup st.wk.gr.gh hdS) (at0 (n := 1) rfl) ?_
        walk_at "run"
        refine r_ixT (sm_tup st.wk.gr.gh hdS) (at0 (n := 2) rfl) ?_
        walk_at "run"
        refine r_ixT (sm_tup st.wk.gr.gh hdS) (at0 (n := 3) rfl) ?_
        walk_at "run"
        have ll := st.aR.len
        have lw := st.aW.len
        have lk := st.aK.len
        have nsl := nums_len rs
        rw [ll]
        refine ⟨szr rfl, fun ta na => ?_⟩
        walk_at "run"
        have st2 := st.new na (o := .tup [.int rs.length, .int sv, .int hd.len, lv, hju, .int hd.lev, .int hd.step, .int og])
        have sA := same_new (o := .tup [.int rs.length, .int sv, .int hd.len, lv, hju, .int hd.lev, .int hd.step, .int og]) (st.wk.gr.gh.free na)
        have htG : upd G2' ta (.tup [.int rs.length, .int sv, .int hd.len, lv, hju, .int hd.lev, .int hd.step, .int og]) ta = some (.tup [.int rs.length, .int sv, .int hd.len, lv, hju, .int hd.lev, .int hd.step, .int og]) := upd_same
        have hR := RcV.mono sA hR
        have hN := Li.mono sA hN
        have hdS := sm_tup sA hdS
        have hdJ := JtV.mono sA hdJ
        have hJ := JtV.mono sA hJ
        have hTn := TbsV.mono sA hTn
        have sc := sc.trans sA
        generalize upd G2' ta (.tup [.int rs.length, .int sv, .int hd.len, lv, hju, .int hd.lev, .int hd.step, .int og]) = Ge at *
        generalize upd H2' ta (.tup [.int rs.length, .int sv, .int hd.len, lv, hju, .int hd.lev, .int hd.step, .int og]) = He' at *
        have hu : IxV K Ge (.ref ta) ⟨rs.length, (aft rs).st, hd.len, (aft rs).left, hd.jt, hd.lev, hd.step, (aft rs).org⟩ := by
          rw [← hlf, ← hsv, ← hog]
          exact ⟨ta, lv, hju, rfl, SqT.of htG, hJ, hdJ⟩
        rw [hcu] at hR fok hTn
        have st3 := st2.fr hR hu hN fok (by rw [← hlf]; exact hll)
        refine r_app (st2.wk.get 1 rfl) (szl (by omega)) ?_
        walk_at "run"
        refine r_tyL (SqL.of ((st2.wk.set 1 rfl).get 2 rfl)) ?_
        walk_at "run"
        refine r_app ((st2.wk.set 1 rfl).get 2 rfl) (szl (by omega)) ?_
        walk_at "run"
        refine r_tyL (SqL.of (((st2.wk.set 1 rfl).set 2 rfl).get 0 rfl)) ?_
        walk_at "run"
        refine r_app (((st2.wk.set 1 rfl).set 2 rfl).get 0 rfl) (szl (by omega)) ?_
        walk_at "run"
        have hdS' := sm_tup st3.wk.gr.gh hdS
        refine r_ixT hdS' (at0 (n := 0) rfl) ?_
        walk_at "run"
        refine r_ixT hdS' (at0 (n := 1) rfl) ?_
        walk_at "run"
        have e1 : (aft (rs ++ [.fr hd ns (aft rs).cur])).st = sv + hd.len := by rw [aft_app, hsv]; rfl
        have e2 : (aft (rs ++ [.fr hd ns (aft rs).cur])).org = og := by rw [aft_app, hog]; rfl
        have e3 : (aft (rs ++ [.fr hd ns (aft rs).cur])).left = hd.jt := by rw [aft_app]; rfl
        have e4 : (aft (rs ++ [.fr hd ns (aft rs).cur])).cur = (Rc.fr hd ns (aft rs).cur).next := by rw [aft_app]; rfl
        refine ⟨Ge, rs ++ [.fr hd ns (aft rs).cur], _, _, _, tu, hju, some (.ref hda), some v1, some rv, ?_, st3, s10.trans sc, ?_, ?_, ?_, ?_, ?_, ?_, ?_⟩
        · rw [e1, e2]; rfl
        · rw [e4]; exact hTn
        · rw [e4]; exact next_ok fok
        · rw [e3]; exact hdJ
        · rw [e3]; exact hdok.2.2.1
        · rw [ixs_app, List.length_append, il]; rfl
        · rw [List.length_append, List.length_singleton]; omega
        · rw [e3]; exact hk2
    · rintro σ H1 ⟨G1, rs, vr, vw, vk, tv, lv, x9, x10, x11, rfl, st, s10, hT, tok, hJ, jok, il, rl, hk⟩
      rw [aH.len, hl] at il rl
      rw [aH.len, List.drop_length] at hk
      have lf : (aft rs).left = (0, 0) := by
        have h1 : (aft rs).left.1 = 0 := hk
        have h2 := jok.2.2 h1
        exact Prod.ext h1 h2
      walk_at "run"
      refine ⟨p, 6, rfl, st.wk.po, by decide, by decide, fun r1 o1 h1 po1 => ?_⟩
      have st := st.take po1
      generalize upd H1 p o1 = H2 at *
      have fin : ∀ (G3 H3 : Hp) (rs3 : List Rc) (vr3 vw3 vk3 : List V), StW K p G H r w k vr3 vw3 vk3 rs3 G3 H3 → (aft rs3).left = (0, 0) → (ixs rs3).length = m → rs3.length ≤ 30 → ∀ a, H3 a = none → Q (.ref a) (upd H3 a (.lst [.ref r, .ref w, .ref k])) := by
        intro G3 H3 rs3 vr3 vw3 vk3 st3 e1 e2 e3 a na
        have g := goodP_end rs3 s0 st3.gd e1
        have w1 := st3.wk.fz
        have w2 := w1.fz
        have w3 := w2.fz
        have w4 := w3.new na (o := .lst [.ref r, .ref w, .ref k])
        have sa := same_new (o := .lst vk3) st3.wk.nG
        have sb := same_new (o := .lst vw3) w1.nG
        have sc := same_new (o := .lst vr3) w2.nG
        have sd := same_new (o := .lst [.ref r, .ref w, .ref k]) (w3.gr.gh.free na)
        have sall := ((sa.trans sb).trans sc).trans sd
        refine q _ _ _ w4.gr ⟨w4.po, rs3, g, e3, e2, a, r, w, k, rfl, upd_same, ⟨r, vr3, rfl, sd _ _ upd_same, st3.aR.imp fun v d z => RcV.mono sall z⟩, ⟨w, vw3, rfl, (sc.trans sd) _ _ upd_same, st3.aW.imp fun v d z => IxV.mono sall z⟩, ⟨k, vk3, rfl, ((sb.trans sc).trans sd) _ _ upd_same, st3.aK.imp fun v d z => Li.mono sall z⟩⟩
      walk_at "run"
      refine r_dec (fun h0 => ?_) (fun h0 => ?_)
      · walk_at "run"
        refine r_tyL (SqL.of (st.wk.get 2 rfl)) ?_
        walk_at "run"
        refine ⟨szr rfl, fun ta na => ?_⟩
        walk_at "run"
        have st3 := st.new na (o := .tup [.str "state", tv])
        have sA := same_new (o := .tup [.str "state", tv]) (st.wk.gr.gh.free na)
        have hv : RcV K (upd G1 ta (.tup [.str "state", tv])) (.ref ta) (.st (aft rs).cur) := ⟨ta, tv, rfl, SqT.of upd_same, TbsV.mono sA hT⟩
        have st4 := st3.st hv tok
        have ll := st.aR.len
        refine r_app (st3.wk.get 2 rfl) (szl (by omega)) ?_
        walk_at "run"
        refine ⟨szr rfl, fun a na2 => ?_⟩
        walk_at "run"
        exact fin _ _ _ _ _ _ st4 (by rw [aft_app]; exact lf) (by rw [ixs_app]; show (_ ++ []).length = _; rw [List.append_nil]; exact il) (by rw [List.length_append, List.length_singleton]; omega) a na2
      · walk_at "run"
        refine ⟨szr rfl, fun a na2 => ?_⟩
        walk_at "run"
        exact fin _ _ _ _ _ _ st lf il (by omega) a na2
theorem ok_law_other {P : Program} {w : World} {base : Heap} {K : PySem.W.Frag} {mg : Str → Option Value} (T : Txt K mg) (ok_law_frame : Ok_law_frame P w base T) (ok_law_some : Ok_law_some P w base T) : Ok_law_other P w base T := by
  refine T.F_law_other.ok sc_law_other (fun vs H Q E h => ?_) (fun cdv A outer s H vs Q E hr h => ?_)
  · obtain ⟨G, p, rv, xv, kv, rs, wh, rfl, _⟩ := h
    rfl
  · obtain ⟨G, p, rv, xv, kv, rs, wh, rfl, gs, nG, po, good, l30, ⟨ra, rvs, rfl, hRa, aR⟩, ⟨xa, xvs, rfl, hXa, aX⟩, ⟨ka, kvs, rfl, hKa, aK⟩, q⟩ := h
    have wk0 := Wk.start gs nG po
    refine ⟨_, (pss_cons (ps_asg (pe_tup (pa_cons (pe_lst pa_nil) (pa_cons (pe_lst pa_nil) (pa_cons (pe_tup (pa_cons (pe_tup (pa_cons pe_int (pa_cons pe_int pa_nil))) (pa_cons (pe_tup (pa_cons pe_int (pa_cons pe_int pa_nil))) pa_nil))) (pa_cons pe_int (pa_cons pe_bl pa_nil)))))) (pg_tup rfl (pgs_cons (pg_name (i := 6) sc_law_other.nd rfl (Or.inl rfl)) (pgs_cons (pg_name (i := 7) sc_law_other.nd rfl (Or.inl rfl)) (pgs_cons (pg_name (i := 8) sc_law_other.nd rfl (Or.inl rfl)) (pgs_cons (pg_name (i := 9) sc_law_other.nd rfl (Or.inl rfl)) (pgs_cons (pg_name (i := 10) sc_law_other.nd rfl (Or.inl rfl)) pgs_nil)))))))
        (pss_cons (ps_for PassesOwn.never rfl (pi_list (pv 1)) (pg_name (i := 11) sc_law_other.nd rfl (Or.inl rfl)) (pss_one (ps_if (pt_cmpR op_eq (pe_ix ix_tup (pv 11) pe_int (fun _ _ => rfl)) pe_str (nomark _)) (pss_cons (ps_par (i := 8) (j := 10) (by rfl) sc_law_other.nd rfl rfl (by decide) rfl rfl (pa_cons (pe_ix ix_tup (pv 11) pe_int (fun _ _ => rfl)) (pa_cons pe_bl pa_nil)) (by rfl))
        (pss_one (ps_expr (pe_bm PySem.F.plainAttrs_list PySem.F.slot_list_append PySem.F.type_list_append mt_append (pv 6) (pa_cons (pv 11) pa_nil))))) (pss_cons (ps_par (i := 12) (j := 13) (by rfl) sc_law_other.nd rfl rfl (by decide) rfl rfl (pa_cons (pe_ix ix_list (pv 2) (pv 9) (fun _ _ => rfl)) (pa_cons (pe_ix ix_list (pv 3) (pv 9) (fun _ _ => rfl)) pa_nil)) (by rfl))
        (pss_cons (ps_if (PW.pt (pw_or (pt_cmpR op_eq (pv 9) (pv 4) (nomark _)) (pw_or1 (PW.pt (pw_and (pt_val (pv 10)) (pw_and1 (pt_val (pv 5)))))))) (pss_one (ps_par (i := 13) (j := 10) (by rfl) sc_law_other.nd rfl rfl (by decide) rfl rfl (pa_cons (pe_call ok_law_some (hr.mono (by decide)) (by rfl) T.g_law_some T.F_law_some.kp (b_law_some T) .nil pass0 (pa_cons (pv 0) (pa_cons (pe_ix ix_tup (pv 12) pe_int (fun _ _ => rfl)) pa_nil))) (pa_cons pe_bl pa_nil)) (by rfl))) pss_nil)
        (pss_cons (ps_asg (pe_call ok_law_frame (hr.mono (by decide)) (by rfl) T.g_law_frame T.F_law_frame.kp (b_law_frame T) .nil pass0 (pa_cons (pe_tup (pa_cons (pe_ix ix_tup (pv 12) pe_int (fun _ _ => rfl)) (pa_cons (pe_ix ix_tup (pv 12) pe_int (fun _ _ => rfl)) (pa_cons (pe_ix ix_tup (pv 12) pe_int (fun _ _ => rfl)) (pa_cons (pe_ix ix_tup (pv 12) pe_int (fun _ _ => rfl)) pa_nil))))) (pa_cons (pv 13) (pa_cons (pv 8) pa_nil)))) (pg_tup rfl (pgs_cons (pg_name (i := 14) sc_law_other.nd rfl (Or.inl rfl)) (pgs_cons (pg_name (i := 8) sc_law_other.nd rfl (Or.inl rfl)) pgs_nil))))
        (pss_cons (ps_expr (pe_bm PySem.F.plainAttrs_list PySem.F.slot_list_append PySem.F.type_list_append mt_append (pv 6) (pa_cons (pv 14) pa_nil)))
        (pss_cons (ps_expr (pe_bm PySem.F.plainAttrs_list PySem.F.slot_list_append PySem.F.type_list_append mt_append (pv 7) (pa_cons (pv 13) pa_nil)))
        (pss_one (ps_set (i := 9) sc_law_other.nd rfl (Or.inl rfl) (pe_op op_add (pv 9) pe_int)))))))))))
        (pss_one (ps_ret (pe_lst (pa_cons (pv 6) (pa_cons (pv 7) pa_nil))))))), ?_⟩
    try dsimp only [cxOf, Cx.nox, Cx.wish, Cx.blk]
    walk_at "run"
    refine ⟨szr rfl, fun r nr => ?_⟩
    have wk1 := wk0.made nr (o := .lst [])
    walk_at "run"
    refine ⟨szr rfl, fun k nk => ?_⟩
    have wk3 := wk1.made nk (o := .lst [])
    walk_at "run"
    refine ⟨szr rfl, fun t1 n1 => ?_⟩
    have wk4 := wk3.new n1 (o := .tup [.int 2, .int 1])
    have s1 := same_new (o := .tup [.int 2, .int 1]) (wk3.gr.gh.free n1)
    walk_at "run"
    refine ⟨szr rfl, fun t2 n2 => ?_⟩
    have wk5 := wk4.new n2 (o := .tup [.int 2, .int 1])
    have s2 := same_new (o := .tup [.int 2, .int 1]) (wk4.gr.gh.free n2)
    walk_at "run"
    refine ⟨szr rfl, fun t3 n3 => ?_⟩
    have wk6 := wk5.new n3 (o := .tup [.ref t1, .ref t2])
    have s3 := same_new (o := .tup [.ref t1, .ref t2]) (wk5.gr.gh.free n3)
    have hT : TbsV K (upd (upd (upd G t1 (.tup [.int 2, .int 1])) t2 (.tup [.int 2, .int 1])) t3 (.tup [.ref t1, .ref t2])) (.ref t3) start0 :=
      ⟨t3, .ref t1, .ref t2, rfl, SqT.of upd_same, ⟨t1, rfl, SqT.of ((s2.trans s3) _ _ upd_same)⟩, ⟨t2, rfl, SqT.of (s3 _ _ upd_same)⟩⟩
    walk_at "run"
    refine ⟨szr rfl, fun t4 n4 => ?_⟩
    have wk7 := wk6.pure (same_new n4 (o := .tup [.ref r, .ref k, .ref t3, .int 0, .bl false]))
    refine r_gTup (SqT.of upd_same) rfl ?_
    have sg := (s1.trans s2).trans s3
    generalize upd (upd (upd (upd (upd (upd H r (.lst [])) k (.lst [])) t1 (.tup [.int 2, .int 1])) t2 (.tup [.int 2, .int 1])) t3 (.tup [.ref t1, .ref t2])) t4 (.tup [.ref r, .ref k, .ref t3, .int 0, .bl false]) = H7 at *
    generalize upd (upd (upd G t1 (.tup [.int 2, .int 1])) t2 (.tup [.int 2, .int 1])) t3 (.tup [.ref t1, .ref t2]) = G7 at *
    clear wk0 wk1 wk3 wk4 wk5 wk6 s1 s2 s3
    walk_at "run"
    refine r_kL (SqL.of (wk7.gr.gh _ _ (sg _ _ hRa))) ?_
    refine for_list (K := K) (a := ra) (xs := rvs) (fun i σ H1 => ∃ (G1 : Hp) (rs' : List Rc) (vr vk : List V) (tv : V) (x11 x12 x13 x14 : Option V), σ = [some (.ref p), some (.ref ra), some (.ref xa), some (.ref ka), some (.int wh), some (.bl true), some (.ref r), some (.ref k), some tv, some (.int (aftO wh (rs.take i)).1), some (.bl (aftO wh (rs.take i)).2), x11, x12, x13, x14] ∧
      Wk p G H [(k, .lst vk), (r, .lst vr)] G1 H1 ∧ Same G G1 ∧ All2 (RcV K G1) vr rs' ∧ vk.length ≤ i ∧ TbsV K G1 tv (aft rs').cur ∧ tbsOk (aft rs').cur ∧ GoodP start0 (0, 0) rs' ∧ (aft rs').left = (aft (rs.take i)).left ∧ rs'.length = i ∧
      ∀ (j : Nat) (r r' : Rc), rs[j]? = some r → rs'[j]? = some r' → OthR wh (aftO wh (rs.take j)) r r')
      ⟨G7, [], [], [], _, none, none, none, none, rfl, wk7, sg, All2.nil, Nat.le_refl _, hT, start_ok, trivial, rfl, rfl, fun j r r' _ h => by simp at h⟩
      (fun i σ H1 _ ⟨G1, rs', vr, vk, _, _, _, _, _, _, wk, s, _⟩ => SqL.of (wk.gr.gh _ _ (s _ _ hRa))) ?_ ?_
    · rintro i y σ H1 hi ⟨G1, rs', vr, vk, tv, x11, x12, x13, x14, rfl, wk, sc, aR', vkl, hT, tok, gd, lfe, rl', oth⟩
      obtain ⟨rc, hrc, hRV⟩ := aR.get hi
      have il := (List.getElem?_eq_some_iff.mp hrc).1
      have hRV := RcV.mono sc hRV
      obtain ⟨rok, rfr⟩ := good_at rs s0 i rc good hrc
      have ll := aR'.len
      have a1 := aftO_1 wh (rs.take i)
      rw [aftO_snoc hrc, aft_snoc hrc]
      have atfr : ∀ h ns t, rc = .fr h ns t → _ := fun h ns t e => at_fr (rs := rs) (i := i) (h := h) (ns := ns) (t := t) (by rw [← e]; exact hrc)
      rw [← a1] at atfr
      obtain ⟨⟨at', op⟩, hO⟩ : ∃ o, o = aftO wh (rs.take i) := ⟨_, rfl⟩
      have oth2 : ∀ r', OthR wh (at', op) rc r' → ∀ (j : Nat) (r r1 : Rc), rs[j]? = some r → (rs' ++ [r'])[j]? = some r1 → OthR wh (aftO wh (rs.take j)) r r1 := fun r' ho j r r1 h1 h2 => by
        by_cases hj : j < rs'.length
        · rw [List.getElem?_append_left hj] at h2
          exact oth j r r1 h1 h2
        · have hl := (List.getElem?_eq_some_iff.mp h2).1
          rw [List.length_append, List.length_singleton] at hl
          have ej : j = i := by omega
          subst ej
          rw [hrc] at h1
          have e1 := Option.some.inj h1
          rw [List.getElem?_append_right (by omega), show j - rs'.length = 0 by omega] at h2
          have e2 : r' = r1 := Option.some.inj h2
          rw [← e1, ← e2, ← hO]
          exact ho
      have eo1 : (aftO wh (rs.take i)).1 = at' := by rw [← hO]
      have eo2 : (aftO wh (rs.take i)).2 = op := by rw [← hO]
      rw [eo1] at atfr ⊢
      rw [eo2, ← hO]
      walk_at "run"
      cases rc with
      | st t =>
        have hR0 := hRV
        obtain ⟨a, u, rfl, hS, hT'⟩ := hRV
        refine r_ixT (sm_tup wk.gr.gh hS) (at0 (n := 0) rfl) ?_
        walk_at "run"
        refine r_eqS ?_
        walk_at "run"
        refine r_ixT (sm_tup wk.gr.gh hS) (at0 (n := 1) rfl) ?_
        walk_at "run"
        refine r_tyL (SqL.of (wk.get 1 rfl)) ?_
        walk_at "run"
        refine r_app (wk.get 1 rfl) (szl (by omega)) ?_
        walk_at "run"
        refine ⟨G1, rs' ++ [.st t], _, _, u, some (.ref a), _, _, _, rfl, wk.set 1 rfl, sc, aR'.snoc hR0, by omega, ?_, ?_, goodP_st gd rok, ?_, by rw [List.length_append, rl']; rfl, oth2 (.st t) rfl⟩
        · rw [aft_app]; exact hT'
        · rw [aft_app]; exact rok
        · rw [aft_app]; exact lfe
      | fr h ns t =>
        obtain ⟨hix, hns⟩ := atfr h ns t rfl
        obtain ⟨_, lok⟩ := rfr h ns t rfl
        obtain ⟨⟨o1, o2, o3, o4, o5, o6⟩, nl, nok, _⟩ := id rok
        obtain ⟨a, u, rfl, hS, hJ⟩ := hRV
        obtain ⟨rwv, hrwv, ya, yu, yw, rfl, yS, yJ1, yJ2⟩ := aX.at_ _ _ hix
        obtain ⟨kvv, hkvv, kb, rfl, kL⟩ := aK.at_ _ _ hns
        refine r_ixT (sm_tup wk.gr.gh hS) (at0 (n := 0) rfl) ?_
        walk_at "run"
        refine r_eqS ?_
        walk_at "run"
        refine r_no (by decide +kernel) ?_
        walk_at "run"
        refine r_ixL (SqL.of (wk.gr.gh _ _ (sc _ _ hXa))) (at0 hrwv) ?_
        walk_at "run"
        refine r_ixL (SqL.of (wk.gr.gh _ _ (sc _ _ hKa))) (at0 hkvv) ?_
        walk_at "run"
        have yS := sm_tup sc yS
        have kL := sc _ _ kL
        have hJ0 : JtV K G1 yw h.jt := JtV.mono sc yJ2
        clear hJ hS hRV hrwv hkvv yJ1 yJ2
        have scc : Same G1 G1 := Same.refl _
        by_cases h1 : at' = wh
        · walk_at "run"
          refine r_ixT (sm_tup wk.gr.gh yS) (at0 (n := 2) rfl) ?_
          walk_at "run"
          refine ⟨G1, p, h.len, rfl, wk.gr.gh, wk.np, wk.po, o2, fun G2 H2 v2 gr2 p2 => ?_⟩
          obtain ⟨po2, ns2, nl2, nok2, hN⟩ := p2
          have wk := wk.call gr2 po2
          have hop : true = (op || decide (at' = wh)) := by rw [h1, decide_eq_true rfl, Bool.or_true]
          have hoth : at' ≠ wh → op = false → ns2 = ns := fun z => absurd h1 z
          have sc := sc.trans gr2.gg
          have aR' := aR'.imp fun v d z => RcV.mono gr2.gg z
          have hT := TbsV.mono gr2.gg hT
          have yS := sm_tup gr2.gg yS
          have hJ0 := JtV.mono gr2.gg hJ0
          clear gr2 scc
          walk_at "run"
          refine r_ixT (sm_tup wk.gr.gh yS) (at0 (n := 2) rfl) ?_
          walk_at "run"
          refine r_ixT (sm_tup wk.gr.gh yS) (at0 (n := 4) rfl) ?_
          walk_at "run"
          refine r_ixT (sm_tup wk.gr.gh yS) (at0 (n := 5) rfl) ?_
          walk_at "run"
          refine r_ixT (sm_tup wk.gr.gh yS) (at0 (n := 6) rfl) ?_
          walk_at "run"
          refine ⟨szr rfl, fun ta na => ?_⟩
          walk_at "run"
          have wk3 := wk.new na (o := .tup [.int h.len, yw, .int h.lev, .int h.step])
          have sA := same_new (o := .tup [.int h.len, yw, .int h.lev, .int h.step]) (wk.gr.gh.free na)
          have hH : HdV K (upd G2 ta (.tup [.int h.len, yw, .int h.lev, .int h.step])) (.ref ta) h := ⟨ta, yw, rfl, SqT.of upd_same, JtV.mono sA hJ0⟩
          have fok : (Rc.fr h ns2 (aft rs').cur).ok := ⟨⟨o1, o2, o3, o4, o5, o6⟩, nl2, nok2, tok⟩
          refine ⟨_, .ref ta, v2, tv, h, ns2, (aft rs').cur, rfl, wk3.gr.gh, hH, Li.mono sA hN, TbsV.mono sA hT, fok, fun G4 H4 v4 gr4 p4 => ?_⟩
          obtain ⟨fa, mv, tu, rfl, fS, hR, hTn⟩ := p4
          have wk4 := wk3.call0 gr4
          have sB := sA.trans gr4.gg
          walk_at "run"
          refine r_gTup (sm_tup wk4.gr.gh fS) rfl ?_
          walk_at "run"
          refine r_tyL (SqL.of (wk4.get 1 rfl)) ?_
          walk_at "run"
          refine r_app (wk4.get 1 rfl) (szl (by omega)) ?_
          walk_at "run"
          refine r_tyL (SqL.of ((wk4.set 1 rfl).get 0 rfl)) ?_
          walk_at "run"
          refine r_app ((wk4.set 1 rfl).get 0 rfl) (szl (by omega)) ?_
          walk_at "run"
          have e4 : (aft (rs' ++ [.fr h ns2 (aft rs').cur])).cur = (Rc.fr h ns2 (aft rs').cur).next := by rw [aft_app]; rfl
          refine ⟨G4, rs' ++ [.fr h ns2 (aft rs').cur], _, _, tu, some (.ref a), some (.ref ya), some v2, some mv, ?_, (wk4.set 1 rfl).set 0 rfl, sc.trans sB, (aR'.imp fun v d z => RcV.mono sB z).snoc hR, by rw [List.length_append]; exact Nat.succ_le_succ vkl, ?_, ?_, goodP_fr gd fok ?_, ?_, by rw [List.length_append, rl']; rfl, oth2 (.fr h ns2 (aft rs').cur) ⟨rfl, hoth⟩⟩
          · rw [show (stepO wh (at', op) (.fr h ns t)).2 = true from hop.symm]
            rfl
          · rw [e4]; exact hTn
          · rw [e4]; exact next_ok fok
          · rw [lfe]
            exact lok
          · rw [aft_app]; rfl
        · cases op with
          | true =>
            walk_at "run"
            refine r_ixT (sm_tup wk.gr.gh yS) (at0 (n := 2) rfl) ?_
            walk_at "run"
            refine ⟨G1, p, h.len, rfl, wk.gr.gh, wk.np, wk.po, o2, fun G2 H2 v2 gr2 p2 => ?_⟩
            obtain ⟨po2, ns2, nl2, nok2, hN⟩ := p2
            have wk := wk.call gr2 po2
            have hop : true = (true || decide (at' = wh)) := rfl
            have hoth : at' ≠ wh → true = false → ns2 = ns := fun _ z => nomatch z
            have sc := sc.trans gr2.gg
            have aR' := aR'.imp fun v d z => RcV.mono gr2.gg z
            have hT := TbsV.mono gr2.gg hT
            have yS := sm_tup gr2.gg yS
            have hJ0 := JtV.mono gr2.gg hJ0
            clear gr2 scc
            walk_at "run"
            refine r_ixT (sm_tup wk.gr.gh yS) (at0 (n := 2) rfl) ?_
            walk_at "run"
            refine r_ixT (sm_tup wk.gr.gh yS) (at0 (n := 4) rfl) ?_
            walk_at "run"
            refine r_ixT (sm_tup wk.gr.gh yS) (at0 (n := 5) rfl) ?_
            walk_at "run"
            refine r_ixT (sm_tup wk.gr.gh yS) (at0 (n := 6) rfl) ?_
            walk_at "run"
            refine ⟨szr rfl, fun ta na => ?_⟩
            walk_at "run"
            have wk3 := wk.new na (o := .tup [.int h.len, yw, .int h.lev, .int h.step])
            have sA := same_new (o := .tup [.int h.len, yw, .int h.lev, .int h.step]) (wk.gr.gh.free na)
            have hH : HdV K (upd G2 ta (.tup [.int h.len, yw, .int h.lev, .int h.step])) (.ref ta) h := ⟨ta, yw, rfl, SqT.of upd_same, JtV.mono sA hJ0⟩
            have fok : (Rc.fr h ns2 (aft rs').cur).ok := ⟨⟨o1, o2, o3, o4, o5, o6⟩, nl2, nok2, tok⟩
            refine ⟨_, .ref ta, v2, tv, h, ns2, (aft rs').cur, rfl, wk3.gr.gh, hH, Li.mono sA hN, TbsV.mono sA hT, fok, fun G4 H4 v4 gr4 p4 => ?_⟩
            obtain ⟨fa, mv, tu, rfl, fS, hR, hTn⟩ := p4
            have wk4 := wk3.call0 gr4
            have sB := sA.trans gr4.gg
            walk_at "run"
            refine r_gTup (sm_tup wk4.gr.gh fS) rfl ?_
            walk_at "run"
            refine r_tyL (SqL.of (wk4.get 1 rfl)) ?_
            walk_at "run"
            refine r_app (wk4.get 1 rfl) (szl (by omega)) ?_
            walk_at "run"
            refine r_tyL (SqL.of ((wk4.set 1 rfl).get 0 rfl)) ?_
            walk_at "run"
            refine r_app ((wk4.set 1 rfl).get 0 rfl) (szl (by omega)) ?_
            walk_at "run"
            have e4 : (aft (rs' ++ [.fr h ns2 (aft rs').cur])).cur = (Rc.fr h ns2 (aft rs').cur).next := by rw [aft_app]; rfl
            refine ⟨G4, rs' ++ [.fr h ns2 (aft rs').cur], _, _, tu, some (.ref a), some (.ref ya), some v2, some mv, ?_, (wk4.set 1 rfl).set 0 rfl, sc.trans sB, (aR'.imp fun v d z => RcV.mono sB z).snoc hR, by rw [List.length_append]; exact Nat.succ_le_succ vkl, ?_, ?_, goodP_fr gd fok ?_, ?_, by rw [List.length_append, rl']; rfl, oth2 (.fr h ns2 (aft rs').cur) ⟨rfl, hoth⟩⟩
            · rw [show (stepO wh (at', true) (.fr h ns t)).2 = true from hop.symm]
              rfl
            · rw [e4]; exact hTn
            · rw [e4]; exact next_ok fok
            · rw [lfe]
              exact lok
            · rw [aft_app]; rfl
          | false =>
            have hop : false = (false || decide (at' = wh)) := by rw [decide_eq_false h1]; rfl
            have hoth : at' ≠ wh → false = false → ns = ns := fun _ _ => rfl
            have hN : Li G1 (.ref kb) ns := ⟨kb, rfl, kL⟩
            have nl2 := nl
            have nok2 := nok
            clear scc
            generalize V.ref kb = v2 at *
            obtain ⟨ns2, hns2⟩ : ∃ z, z = ns := ⟨ns, rfl⟩
            rw [← hns2] at hN nl2 nok2
            have hoth : at' ≠ wh → false = false → ns2 = ns := fun _ _ => hns2
            generalize G1 = G2 at *
            generalize H1 = H2 at *
            walk_at "run"
            refine r_ixT (sm_tup wk.gr.gh yS) (at0 (n := 2) rfl) ?_
            walk_at "run"
            refine r_ixT (sm_tup wk.gr.gh yS) (at0 (n := 4) rfl) ?_
            walk_at "run"
            refine r_ixT (sm_tup wk.gr.gh yS) (at0 (n := 5) rfl) ?_
            walk_at "run"
            refine r_ixT (sm_tup wk.gr.gh yS) (at0 (n := 6) rfl) ?_
            walk_at "run"
            refine ⟨szr rfl, fun ta na => ?_⟩
            walk_at "run"
            have wk3 := wk.new na (o := .tup [.int h.len, yw, .int h.lev, .int h.step])
            have sA := same_new (o := .tup [.int h.len, yw, .int h.lev, .int h.step]) (wk.gr.gh.free na)
            have hH : HdV K (upd G2 ta (.tup [.int h.len, yw, .int h.lev, .int h.step])) (.ref ta) h := ⟨ta, yw, rfl, SqT.of upd_same, JtV.mono sA hJ0⟩
            have fok : (Rc.fr h ns2 (aft rs').cur).ok := ⟨⟨o1, o2, o3, o4, o5, o6⟩, nl2, nok2, tok⟩
            refine ⟨_, .ref ta, v2, tv, h, ns2, (aft rs').cur, rfl, wk3.gr.gh, hH, Li.mono sA hN, TbsV.mono sA hT, fok, fun G4 H4 v4 gr4 p4 => ?_⟩
            obtain ⟨fa, mv, tu, rfl, fS, hR, hTn⟩ := p4
            have wk4 := wk3.call0 gr4
            have sB := sA.trans gr4.gg
            walk_at "run"
            refine r_gTup (sm_tup wk4.gr.gh fS) rfl ?_
            walk_at "run"
            refine r_tyL (SqL.of (wk4.get 1 rfl)) ?_
            walk_at "run"
            refine r_app (wk4.get 1 rfl) (szl (by omega)) ?_
            walk_at "run"
            refine r_tyL (SqL.of ((wk4.set 1 rfl).get 0 rfl)) ?_
            walk_at "run"
            refine r_app ((wk4.set 1 rfl).get 0 rfl) (szl (by omega)) ?_
            walk_at "run"
            have e4 : (aft (rs' ++ [.fr h ns2 (aft rs').cur])).cur = (Rc.fr h ns2 (aft rs').cur).next := by rw [aft_app]; rfl
            refine ⟨G4, rs' ++ [.fr h ns2 (aft rs').cur], _, _, tu, some (.ref a), some (.ref ya), some v2, some mv, ?_, (wk4.set 1 rfl).set 0 rfl, sc.trans sB, (aR'.imp fun v d z => RcV.mono sB z).snoc hR, by rw [List.length_append]; exact Nat.succ_le_succ vkl, ?_, ?_, goodP_fr gd fok ?_, ?_, by rw [List.length_append, rl']; rfl, oth2 (.fr h ns2 (aft rs').cur) ⟨rfl, hoth⟩⟩
            · rw [show (stepO wh (at', false) (.fr h ns t)).2 = false from hop.symm]
              rfl
            · rw [e4]; exact hTn
            · rw [e4]; exact next_ok fok
            · rw [lfe]
              exact lok
            · rw [aft_app]; rfl
    · rintro σ H1 ⟨G1, rs', vr, vk, tv, x11, x12, x13, x14, rfl, wk, sc, aR', vkl, hT, tok, gd, lfe, rl', oth⟩
      rw [aR.len] at rl'
      rw [aR.len, List.take_length] at lfe
      walk_at "run"
      refine ⟨szr rfl, fun a na => ?_⟩
      have w1 := wk.fz
      have w2 := w1.fz
      have w3 := w2.new na (o := .lst [.ref r, .ref k])
      have sa := same_new (o := .lst vk) wk.nG
      have sb := same_new (o := .lst vr) w1.nG
      have sd := same_new (o := .lst [.ref r, .ref k]) (w2.gr.gh.free na)
      have ge := good_end rs s0 good
      have g := goodP_end rs' s0 gd (by rw [show rs'.foldl stepS s0 = aft rs' from rfl, lfe]; exact ge)
      exact q _ _ _ w3.gr ⟨w3.po, rs', g, ⟨rl', oth⟩, a, r, k, rfl, upd_same, ⟨r, vr, rfl, sd _ _ upd_same, aR'.imp fun v d z => RcV.mono ((sa.trans sb).trans sd) z⟩⟩
theorem ok_law {P : Program} {w : World} {base : Heap} {K : PySem.W.Frag} {mg : Str → Option Value} (T : Txt K mg) (c0 P0 : Addr) (TB : LamX.TabB base mg c0 P0) (hc0 : T.fd_law.code = .ref c0) (ok_law_pool : Ok_law_pool P w base T) (ok_law_stream : Ok_law_stream P w base T) (ok_law_take : Ok_law_take P w base T) (ok_law_other : Ok_law_other P w base T) (ok_Stream_init : Ok_Stream_init P w base T) (ok_index_of : Ok_index_of P w base T) (ok_touched : Ok_touched P w base T) (ok_Stream_sound : Ok_Stream_sound P w base T)
    (ok_concealed : ∀ {base' : Heap} (fa : Addr) (G0 : Hp) (rs : List Rc) (L : Nat), FetchAt P w K mg base' fa G0 rs L → Ok_concealed P w base' T fa G0 rs L) :
    FnOk P w K mg base CX0 10 (He.ga K "law") T.fd_law ["_law_script"] (sp_law K P0) := by
  obtain ⟨oc, od, kV, doc, pm, an, cdv, ct, osl, efd, lk, hcd⟩ := T.F_law.ex
  rw [efd] at hc0 lk ⊢
  have hcode0 : cdv = .ref c0 := hc0
  subst hcode0
  refine fn_of lk hcd sc_law (fun vs H Q E h => ?_) (fun A outer s H vs Q E hr h => ?_)
  · obtain ⟨a, ns, rfl, _⟩ := h
    rfl
  obtain ⟨a, ns, rfl, hS, n63, hP0, q⟩ := h
  have hcode : (envOfC "law" (defScope s_law) s.heap.objs.size (He.ga K "law") (.ref c0)).code = .ref c0 := rfl
  have hmT : (P0, lamQ) ∈ [(P0, lamQ)] := List.mem_singleton.mpr rfl
  have hu : ∀ p ∈ [(P0, lamQ)], p.1 = P0 → p.2 = lamQ := fun p hp _ => by rw [List.mem_singleton.mp hp]
  have tb0 : LamX.Tabs [(P0, lamQ)] H := fun p hp => by rw [List.mem_singleton.mp hp]; exact LamX.TabS.nil hP0
  suffices hh : ∃ t, PSs (cxOf CX0 P w K mg base ["_law_script", "_law_k", "_law_pool_here", "_law_records", "_law_rows", "_law_kept", "_law_which", "_law_others", "_law_one", "_law_two", "_law_index", "_law_lost", "_law_parts", "_law_inside", "_law_first", "_law_last", "_law_place", "_law_whole", "_law_other_here", "_law_silent"] "law" (defScope s_law) (He.ga K "law") (.ref c0) A outer s H E).nox (defBody s_law) t ∧ t { nx := fun _ H' => Q .non H', rt := Q } (L2.start ["_law_script", "_law_k", "_law_pool_here", "_law_records", "_law_rows", "_law_kept", "_law_which", "_law_others", "_law_one", "_law_two", "_law_index", "_law_lost", "_law_parts", "_law_inside", "_law_first", "_law_last", "_law_place", "_law_whole", "_law_other_here", "_law_silent"] [.ref a]) H by
    obtain ⟨t, h1, h2⟩ := hh
    exact ⟨t, h1.nox, h2⟩
  refine ⟨_, (pss_cons (ps_for PassesOwn.never rfl (pi_range1 (by rfl) T.n_range (pa_cons (pe_callB (call_max2N rfl) (by rfl) T.n_max (by decide +kernel) (pa_cons pe_int (pa_cons (pe_callB (call_min2N rfl) (by rfl) T.n_min (by decide +kernel) (pa_cons (pe_callB call_lenN (by rfl) T.n_len (by decide +kernel) (pa_cons (pv 0) pa_nil)) (pa_cons pe_int pa_nil))) pa_nil))) pa_nil)) (pg_name (i := 1) sc_law.nd rfl (Or.inl rfl)) (pss_cons (ps_set (i := 2) sc_law.nd rfl (Or.inl rfl) (pe_call ok_law_pool (hr.mono (by decide)) (by rfl) T.g_law_pool T.F_law_pool.kp (b_law_pool T) .nil pass0 (pa_cons (pv 0) (pa_cons (pv 1) pa_nil))))
      (pss_cons (ps_asg (pe_call ok_law_stream (hr.mono (by decide)) (by rfl) T.g_law_stream T.F_law_stream.kp (b_law_stream T) .nil pass0 (pa_cons (pv 2) (pa_cons (pe_op op_add pe_int (pe_call ok_law_take (hr.mono (by decide)) (by rfl) T.g_law_take T.F_law_take.kp (b_law_take T) .nil pass0 (pa_cons (pv 2) (pa_cons pe_int pa_nil)))) pa_nil))) (pg_unl rfl (pgs_cons (pg_name (i := 3) sc_law.nd rfl (Or.inr rfl)) (pgs_cons (pg_name (i := 4) sc_law.nd rfl (Or.inl rfl)) (pgs_cons (pg_name (i := 5) sc_law.nd rfl (Or.inl rfl)) pgs_nil)))))
      (pss_cons (ps_set (i := 6) sc_law.nd rfl (Or.inl rfl) (pe_call ok_law_take (hr.mono (by decide)) (by rfl) T.g_law_take T.F_law_take.kp (b_law_take T) .nil pass0 (pa_cons (pv 2) (pa_cons (pe_callB call_lenN (by rfl) T.n_len (by decide +kernel) (pa_cons (pv 4) pa_nil)) pa_nil))))
      (pss_cons (ps_set (i := 7) sc_law.nd rfl (Or.inr rfl) (pe_ix ix_list (pe_call ok_law_other (hr.mono (by decide)) (by rfl) T.g_law_other T.F_law_other.kp (b_law_other T) .nil pass0 (pa_cons (pv 2) (pa_cons (pv 3) (pa_cons (pv 4) (pa_cons (pv 5) (pa_cons (pv 6) (pa_cons pe_bl pa_nil))))))) pe_int (fun _ _ => rfl)))
      (pss_cons (ps_par (i := 8) (j := 9) (by rfl) sc_law.nd rfl rfl (by decide) rfl rfl (pa_cons (pe_make T.mkS ok_Stream_init (hr.mono (by decide)) (by rfl) T.g_Stream (b_Stream_init T) .nil pass0 (pa_cons (pv 3) pa_nil)) (pa_cons (pe_make T.mkS ok_Stream_init (hr.mono (by decide)) (by rfl) T.g_Stream (b_Stream_init T) .nil pass0 (pa_cons (pv 7) pa_nil)) pa_nil)) (by rfl))
      (pss_cons (ps_par (i := 10) (j := 11) (by rfl) sc_law.nd rfl rfl (by decide) rfl rfl (pa_cons (pe_call ok_index_of (hr.mono (by decide)) (by rfl) T.g_index_of T.F_index_of.kp (b_index_of T) .nil pass0 (pa_cons (pv 8) pa_nil)) (pa_cons (pe_lst (pa_cons (pe_ix ix_tup (pe_ix ix_list (pv 4) (pv 6) (fun _ _ => rfl)) pe_int (fun _ _ => rfl)) pa_nil)) pa_nil)) (by rfl))
      (pss_cons (ps_par (i := 12) (j := 13) (by rfl) sc_law.nd rfl rfl (by decide) rfl rfl (pa_cons (pe_call ok_touched (hr.mono (by decide)) (by rfl) T.g_touched T.F_touched.kp (b_touched T) .nil pass0 (pa_cons (pv 10) (pa_cons (pv 11) pa_nil))) (pa_cons pe_dnewK pa_nil)) (by rfl))
      (pss_cons (ps_for PassesOwn.never rfl (pi_list (pv 12)) (pg_tup rfl (pgs_cons (pg_name (i := 14) sc_law.nd rfl (Or.inl rfl)) (pgs_cons (pg_name (i := 15) sc_law.nd rfl (Or.inl rfl)) pgs_nil))) (pss_one (ps_for PassesOwn.never rfl (pi_range2 (by rfl) T.n_range (pa_cons (pv 14) (pa_cons (pv 15) pa_nil))) (pg_name (i := 16) sc_law.nd rfl (Or.inl rfl)) (pss_one (ps_dput (hu_of hr) (pv 13) (pv 16) pe_bl rfl)))))
      (pss_cons (ps_par3 (i := 17) (j := 18) (l := 19) (by rfl) sc_law.nd rfl rfl rfl (by decide) (by decide) (by decide) rfl rfl rfl (pa_cons (pe_meth0 (pv 8) T.cls T.m_sound ok_Stream_sound (hr.mono (by decide)) (b_Stream_sound T) .nil pass0) (pa_cons (pe_meth0 (pv 9) T.cls T.m_sound ok_Stream_sound (hr.mono (by decide)) (b_Stream_sound T) .nil pass0) (pa_cons (pe_conc (j := 7) TB hcode hmT hu (by rfl) T.g_concealed T.F_concealed.kp (b_concealed T) (fun base' fa G0 rs L hF => ok_concealed fa G0 rs L hF) (hr.mono (by decide)) rfl rfl rfl (by decide) (by decide) (by decide) (pv 10) (pv 11)) pa_nil))) (by rfl))
      (pss_cons (ps_if (PW.pt (pw_or (pt_cmpR op_ne (pe_callB call_lenN (by rfl) T.n_len (by decide +kernel) (pa_cons (pv 18) pa_nil)) (pe_callB call_lenN (by rfl) T.n_len (by decide +kernel) (pa_cons (pv 17) pa_nil)) (nomark _)) (pw_or1 (pt_cmpR op_ne (pe_callB call_lenN (by rfl) T.n_len (by decide +kernel) (pa_cons (pv 19) pa_nil)) (pe_callB call_lenN (by rfl) T.n_len (by decide +kernel) (pa_cons (pv 17) pa_nil)) (nomark _))))) (pss_one (ps_ret pe_bl)) pss_nil)
      (pss_cons (ps_for PassesOwn.never rfl (pi_range1 (by rfl) T.n_range (pa_cons (pe_callB call_lenN (by rfl) T.n_len (by decide +kernel) (pa_cons (pv 17) pa_nil)) pa_nil)) (pg_name (i := 16) sc_law.nd rfl (Or.inl rfl)) (pss_one (ps_if (pt_cmp (pc_dnotin (hu_of hr) (pv 16) (pv 13))) (pss_one (ps_if (PW.pt (pw_or (pt_cmpR op_ne (pe_ix ix_list (pv 17) (pv 16) (fun _ _ => rfl)) (pe_ix ix_list (pv 18) (pv 16) (fun _ _ => rfl)) (nomark _)) (pw_or1 (pt_cmpR op_ne (pe_ix ix_list (pv 19) (pv 16) (fun _ _ => rfl)) (pe_ix ix_list (pv 17) (pv 16) (fun _ _ => rfl)) (nomark _))))) (pss_one (ps_ret pe_bl)) pss_nil)) pss_nil)))
      (pss_one (ps_if (pt_cmpR (op_neD hr.units) (pe_conc (j := 3) TB hcode hmT hu (by rfl) T.g_concealed T.F_concealed.kp (b_concealed T) (fun base' fa G0 rs L hF => ok_concealed fa G0 rs L hF) (hr.mono (by decide)) rfl rfl rfl (by decide) (by decide) (by decide) (pv 10) (pv 11)) (pv 19) (nomark _)) (pss_one (ps_ret pe_bl)) pss_nil))))))))))))))
      (pss_one (ps_ret pe_bl))), ?_⟩
  try dsimp only [cxOf, Cx.nox, Cx.wish, Cx.blk]
  walk_at "run"
  refine r_lenSq hS ?_
  rw [List.length_map]
  walk_at "run"
  refine r_mn2N ns.length 6 ?_
  walk_at "run"
  refine r_mx2N 1 (min ns.length 6) ?_
  walk_at "run"
  refine r_kR1 (by omega) ?_
  refine for_range (lo := 0) (n := max 1 (min ns.length 6)) (fun i σ H1 => ∃ (x1 x2 x3 x4 x5 x6 x7 x8 x9 x10 x11 x12 x13 x14 x15 x16 x17 x18 x19 : Option V), σ = [some (.ref a), x1, x2, x3, x4, x5, x6, x7, x8, x9, x10, x11, x12, x13, x14, x15, x16, x17, x18, x19] ∧ SqL K H1 a (ns.map V.int) ∧ LamX.Tabs [(P0, lamQ)] H1)
    ⟨_, _, _, _, _, _, _, _, _, _, _, _, _, _, _, _, _, _, _, rfl, hS, tb0⟩ ?_ ?_
  · rintro i σ H1 hi ⟨x1, x2, x3, x4, x5, x6, x7, x8, x9, x10, x11, x12, x13, x14, x15, x16, x17, x18, x19, rfl, hS1, tb1⟩
    clear hS tb0
    rw [Int.zero_add]
    walk_at "run"
    refine ⟨a, ns, i, rfl, hS1, by omega, fun p o np po => ?_⟩
    have wk := (Wk.start (same_new np (o := o)) np po)
    generalize upd H1 p o = H2 at *
    walk_at "run"
    refine ⟨p, 9, rfl, wk.po, by decide, by decide, fun r1 o1 h1 po1 => ?_⟩
    have wk := wk.take po1
    generalize upd H2 p o1 = H3 at *
    walk_at "run"
    refine ⟨H1, p, 1 + r1, rfl, wk.gr.gh, wk.np, wk.po, by omega, by omega, fun G4 H4 v4 gr4 p4 => ?_⟩
    obtain ⟨po4, rs, good, l30, ixl, sa, ra, wa, ka, rfl, hsa, hR, hX, hK⟩ := p4
    have wk := wk.call gr4 po4
    have s14 := gr4.gg
    clear gr4
    walk_at "run"
    refine r_gUnl (SqL.of (wk.gr.gh _ _ hsa)) rfl ?_
    walk_at "run"
    obtain ⟨wa', wvs, ewa, hwa, aX⟩ := id hX
    obtain rfl : wa = wa' := V.ref.inj ewa
    refine r_lenL (SqL.of (wk.gr.gh _ _ hwa)) ?_
    rw [aX.len]
    walk_at "run"
    refine ⟨p, (ixs rs).length, rfl, wk.po, by omega, by omega, fun wh o5 hwh po5 => ?_⟩
    have wk := wk.take po5
    generalize upd H4 p o5 = H5 at *
    walk_at "run"
    refine ⟨G4, p, .ref ra, .ref wa, .ref ka, rs, wh, rfl, wk.gr.gh, wk.np, wk.po, good, l30, hR, hX, hK, fun G6 H6 v6 gr6 p6 => ?_⟩
    obtain ⟨po6, rs', good', oth, oa, r3, k3, rfl, hoa, hR3⟩ := p6
    have wk := wk.call gr6 po6
    have s16 := s14.trans gr6.gg
    have hR := LsR.mono gr6.gg hR
    have hX := LsX.mono gr6.gg hX
    have hwa := gr6.gg _ _ hwa
    have aX := aX.imp fun v d z => IxV.mono gr6.gg z
    clear gr6 hK hsa
    walk_at "run"
    refine r_ixL (SqL.of (wk.gr.gh _ _ hoa)) (at0 (n := 0) rfl) ?_
    walk_at "run"
    have l30' : rs'.length ≤ 30 := by rw [oth.1]; exact l30
    have g6 := wk.gr.gh
    clear wk
    intro x1 dx1 nx1 ndx1 ne1
    refine ⟨G6, H6, x1, dx1, .ref ra, rs, rfl, rfl, nx1, ndx1, ne1, g6, hR, good, by omega, fun G7 H7 gr7 st1 => ⟨rfl, ?_⟩⟩
    have hR := LsR.mono gr7.gg hR
    have hX := LsX.mono gr7.gg hX
    have hwa := gr7.gg _ _ hwa
    have aX := aX.imp fun v d z => IxV.mono gr7.gg z
    have hR3 := LsR.mono gr7.gg hR3
    have s17 := s16.trans gr7.gg
    walk_at "run"
    intro x2 dx2 nx2 ndx2 ne2
    refine ⟨G7, H7, x2, dx2, .ref r3, rs', rfl, rfl, nx2, ndx2, ne2, gr7.gh, hR3, good', by omega, fun G8 H8 gr8 st2 => ⟨rfl, ?_⟩⟩
    have hR := LsR.mono gr8.gg hR
    have hX := LsX.mono gr8.gg hX
    have hwa := gr8.gg _ _ hwa
    have aX := aX.imp fun v d z => IxV.mono gr8.gg z
    have hR3 := LsR.mono gr8.gg hR3
    have st1 := StV.mono gr8.gg st1
    have s18 := s17.trans gr8.gg
    have g8 := gr8.gh
    clear gr7 gr8 hX
    walk_at "run"
    refine ⟨G8, .ref x1, rs, rfl, g8, st1, good, by omega, fun G9 H9 v9 gr9 hX => ?_⟩
    have hR := LsR.mono gr9.gg hR
    have hwa := gr9.gg _ _ hwa
    have aX := aX.imp fun v d z => IxV.mono gr9.gg z
    have hR3 := LsR.mono gr9.gg hR3
    have st1 := StV.mono gr9.gg st1
    have st2 := StV.mono gr9.gg st2
    have s19 := s18.trans gr9.gg
    have g9 := gr9.gh
    clear gr9
    walk_at "run"
    obtain ⟨x, hx⟩ : ∃ x, (ixs rs)[wh]? = some x := ⟨_, List.getElem?_eq_getElem hwh⟩
    obtain ⟨rwv, hrwv, ya, yu, yw, rfl, yS, yJ1, yJ2⟩ := aX.at_ _ _ hx
    refine r_ixL (SqL.of (g9 _ _ hwa)) (at0 hrwv) ?_
    walk_at "run"
    refine r_ixT (sm_tup g9 yS) (at0 (n := 0) rfl) ?_
    walk_at "run"
    refine ⟨szr rfl, fun la nl => ?_⟩
    have gr10 := (Grow.refl (M := []) g9).new nl (o := .lst [.int x.rc])
    have sL := same_new (o := .lst [.int x.rc]) (g9.free nl)
    have hL : Li (upd G9 la (.lst [.int x.rc])) (.ref la) (cI [x.rc]) := ⟨la, rfl, upd_same⟩
    have hR := LsR.mono sL hR
    have hR3 := LsR.mono sL hR3
    have hX := LsX.mono sL hX
    have st1 := StV.mono sL st1
    have st2 := StV.mono sL st2
    have s110 := s19.trans sL
    have g10 := gr10.gh
    generalize upd G9 la (.lst [.int x.rc]) = G10 at *
    generalize upd H9 la (.lst [.int x.rc]) = H10 at *
    clear gr10 sL nl g9 hwa aX yS yJ1 yJ2 hrwv
    walk_at "run"
    have ixl2 : (ixs rs).length ≤ 30 := by have := ixs_le rs rs.length; rw [List.take_length] at this; omega
    refine ⟨G10, v9, .ref la, ixs rs, x.rc, rfl, g10, hX, hL, by omega, fun G11 H11 v11 gr11 p11 => ?_⟩
    obtain ⟨ta, tvs, rfl, hta, aT⟩ := p11
    have hR := LsR.mono gr11.gg hR
    have hR3 := LsR.mono gr11.gg hR3
    have hX := LsX.mono gr11.gg hX
    have hL := Li.mono gr11.gg hL
    have st1 := StV.mono gr11.gg st1
    have st2 := StV.mono gr11.gg st2
    have s111 := s110.trans gr11.gg
    have g11 := gr11.gh
    clear gr11
    walk_at "run"
    intro D nD
    have nDG := g11.free nD
    have tbd := touched_bd (L := x.rc) good l30
    have tln := touched_len (ixs rs) x.rc
    walk_at "run"
    refine r_kL (SqL.of (same_new nD _ _ (g11 _ _ hta))) ?_
    refine for_list (K := K) (a := ta) (xs := tvs) (fun j σ H12 => ∃ (kvs : List (Key × V)) (x14 x15 x16 : Option V), σ = [some (.ref a), some (.int i), some (.ref p), some (.ref ra), some (.ref wa), some (.ref ka), some (.int wh), some (.ref r3), some (.ref x1), some (.ref x2), some v9, some (.ref la), some (.ref ta), some (.ref D), x14, x15, x16, x17, x18, x19] ∧
      Grow [] G11 H11 G11 H12 ∧ H12 D = some (.dK kvs) ∧ InsV kvs ((touchedL (ixs rs) x.rc).take j) (6000 * j))
      ⟨[], x14, x15, x16, rfl, (Grow.refl g11).mut nD nDG, upd_same, InsV.nil⟩ (fun j σ H12 _ ⟨_, _, _, _, _, g, _⟩ => SqL.of (g.gh _ _ hta)) ?_ ?_
    · rintro j y σ H12 hj ⟨kvs, x14, x15, x16, rfl, g12, hD, hI⟩
      obtain ⟨ab, hab, ya, rfl, yS⟩ := aT.get hj
      obtain ⟨b1, b2, b3, b4⟩ := tbd ab (List.mem_of_getElem? hab)
      have jl := (List.getElem?_eq_some_iff.mp hab).1
      refine r_gTup (sm_tup g12.gh yS) rfl ?_
      walk_at "run"
      refine r_kR2 (by omega) (by omega) (by omega) (by omega) ?_
      refine for_range (lo := ab.1) (n := (ab.2 - ab.1).toNat) (fun n σ H13 => ∃ (kvs : List (Key × V)) (x16 : Option V), σ = [some (.ref a), some (.int i), some (.ref p), some (.ref ra), some (.ref wa), some (.ref ka), some (.int wh), some (.ref r3), some (.ref x1), some (.ref x2), some v9, some (.ref la), some (.ref ta), some (.ref D), some (.int ab.1), some (.int ab.2), x16, x17, x18, x19] ∧
        Grow [] G11 H11 G11 H13 ∧ H13 D = some (.dK kvs) ∧ InsV kvs ((touchedL (ixs rs) x.rc).take j ++ [(ab.1, ab.1 + n)]) (6000 * j + n))
        ⟨kvs, x16, rfl, g12, hD, by rw [show ab.1 + ((0 : Nat) : Int) = ab.1 from Int.add_zero _]; exact hI.open_ ab.1⟩ ?_ ?_
      · rintro n σ H13 hn ⟨kvs, x16, rfl, g13, hD, hI⟩
        walk_at "run"
        refine ⟨D, _, rfl, DPut.k (k := Sum.inl (ab.1 + (n : Int))) hD (szl (by have := hI.1; omega)), ?_⟩
        refine ⟨_, _, rfl, g13.mut nD nDG, upd_same, ?_⟩
        rcases hI.put (v := .bl true) with z | z
        · rw [show ab.1 + ((n + 1 : Nat) : Int) = ab.1 + (n : Int) + 1 by omega]
          exact z
        · omega
      · rintro σ H13 ⟨kvs, x16, rfl, g13, hD, hI⟩
        refine ⟨kvs, _, _, _, rfl, g13, hD, ?_⟩
        rw [List.take_add_one, hab]
        have h2 := hI.shut (b := ab.2) (by omega)
        exact ⟨by have := h2.1; omega, h2.2⟩
    rintro σ H12 ⟨kvs, x14, x15, x16, rfl, g12, hD, hI⟩
    rw [aT.len, List.take_length] at hI
    walk_at "run"
    have gF := g12.freeze nD nDG hD
    have sD := same_new (o := .dK kvs) nDG
    have hDG : upd G11 D (.dK kvs) D = some (.dK kvs) := upd_same
    have hR := LsR.mono sD hR
    have hR3 := LsR.mono sD hR3
    have hX := LsX.mono sD hX
    have hL := Li.mono sD hL
    have st1 := StV.mono sD st1
    have st2 := StV.mono sD st2
    have s112 := s111.trans sD
    have g12' := gF.gh
    generalize upd G11 D (.dK kvs) = G12 at *
    clear gF sD g12 hta aT hD nDG nD
    obtain ⟨y1, dy1, rr1, ww1, ee1, bb1, ss1, ey1, hins1, _, _, hs1⟩ := st1
    obtain rfl : x1 = y1 := V.ref.inj ey1
    obtain ⟨y2, dy2, rr2, ww2, ee2, bb2, ss2, ey2, hins2, _, _, hs2⟩ := st2
    obtain rfl : x2 = y2 := V.ref.inj ey2
    obtain ⟨lsm1, lsm2, lsm3, lsm4, lsm5⟩ := law_same good good' oth hx
    refine r_methR (g12' _ _ hins1) rfl ?_
    walk_at "run"
    refine ⟨x1, _, _, ss1, _, rfl, g12' _ _ hins1, rfl, g12' _ _ hs1, fun wl nwl => ?_⟩
    have gA := (Grow.refl (M := []) g12').new nwl (o := .lst ((soundOf rs).map V.int))
    have sA := same_new (o := .lst ((soundOf rs).map V.int)) (g12'.free nwl)
    have gA' := gA.gh
    have hwl : upd G12 wl (.lst ((soundOf rs).map V.int)) wl = some (.lst ((soundOf rs).map V.int)) := upd_same
    walk_at "run"
    refine r_methR (gA' _ _ (sA _ _ hins2)) rfl ?_
    walk_at "run"
    refine ⟨x2, _, _, ss2, _, rfl, gA' _ _ (sA _ _ hins2), rfl, gA' _ _ (sA _ _ hs2), fun ol nol => ?_⟩
    have gB := (Grow.refl (M := []) gA').new nol (o := .lst ((soundOf rs').map V.int))
    have sB := same_new (o := .lst ((soundOf rs').map V.int)) (gA'.free nol)
    have hol : upd (upd G12 wl (.lst ((soundOf rs).map V.int))) ol (.lst ((soundOf rs').map V.int)) ol = some (.lst ((soundOf rs').map V.int)) := upd_same
    have hwl := sB _ _ hwl
    have sAB := sA.trans sB
    have hR := LsR.mono sAB hR
    have hR3 := LsR.mono sAB hR3
    have hX := LsX.mono sAB hX
    have hL := Li.mono sAB hL
    have hDG := sAB _ _ hDG
    have s113 := s112.trans sAB
    have g13 := gB.gh
    generalize upd (upd G12 wl (.lst ((soundOf rs).map V.int))) ol (.lst ((soundOf rs').map V.int)) = G13 at *
    generalize upd (upd H12 wl (.lst ((soundOf rs).map V.int))) ol (.lst ((soundOf rs').map V.int)) = H13 at *
    clear gA sA gA' gB sB sAB g12' hins1 hins2 hs1 hs2 nwl nol
    have tb13 := (tb1.ext s113).ext g13
    walk_at "run"
    refine ⟨tb13, fun H14 c1 eN tb14 hc1 => ?_⟩
    obtain ⟨sC, eC⟩ := cutG_same (q := lamQ) g13 eN hc1
    obtain ⟨r3', vs3, er3, hr3, aR3⟩ := id hR3
    obtain rfl : r3 = r3' := V.ref.inj er3
    walk_at "run"
    refine ⟨cutG G13 c1 lamQ, rs, x.rc, r3, vs3, rfl, cutG_c, en_lst eC hr3, fun i r hn hri => ?_, fun fa => ⟨cutG G13 c1 lamQ, v9, .ref la, rfl, Same.refl _, sC, en_ls eC hX fun _ _ z => en_ix eC z, en_li eC hL, good, by omega, fun G15 H15 v15 gr15 p15 => ?_⟩⟩
    · have e1 := (lsm5 i hn).trans hri
      obtain ⟨v, hv, hV⟩ := aR3.at_ i r e1
      exact ⟨v, hv, en_rc eC hV⟩
    have eE : LamX.ExtN G13 G15 := eC.trans (LamX.ExtN.of gr15.gg)
    have hwl := en_lst eE hwl
    have hol := en_lst eE hol
    have hDG := eE _ _ hDG fun ps z => nomatch z
    have hX := en_ls eE hX fun _ _ z => en_ix eE z
    have hL := en_li eE hL
    have hR := en_ls eE hR fun _ _ z => en_rc eE z
    have tb15 := tb14.ext gr15.hs
    have sql15 : SqL K H15 a (ns.map V.int) := en_sql (((en_same (s113.trans g13)).trans eN).trans (LamX.ExtN.of gr15.hs)) hS1
    have g15 := gr15.gh
    obtain ⟨sl, rfl, hsl⟩ := p15
    clear gr15 eE eC sC hr3 aR3 hR3 tb13 tb14 eN g13 s113 s112 s111 s110 s19 s18 s17 s16 s14
    walk_at "run"
    refine r_lenL (SqL.of (g15 _ _ hol)) ?_
    walk_at "run"
    refine r_lenL (SqL.of (g15 _ _ hwl)) ?_
    rw [List.length_map, List.length_map, lsm1]
    walk_at "run"
    refine r_lenL (SqL.of (g15 _ _ hsl)) ?_
    walk_at "run"
    refine r_lenL (SqL.of (g15 _ _ hwl)) ?_
    rw [List.length_map, List.length_map, lsm2]
    walk_at "run"
    refine r_lenL (SqL.of (g15 _ _ hwl)) ?_
    rw [List.length_map]
    walk_at "run"
    refine r_kR1 (by omega) ?_
    refine for_range (lo := 0) (n := (soundOf rs).length) (fun j σ H16 => H16 = H15 ∧ ∃ (x16 : Option V), σ = [some (.ref a), some (.int i), some (.ref p), some (.ref ra), some (.ref wa), some (.ref ka), some (.int wh), some (.ref r3), some (.ref x1), some (.ref x2), some v9, some (.ref la), some (.ref ta), some (.ref D), x14, x15, x16, some (.ref wl), some (.ref ol), some (.ref sl)]) ⟨rfl, x16, rfl⟩ ?_ ?_
    · rintro j σ H16 hj ⟨rfl, x16, rfl⟩
      rw [Int.zero_add]
      walk_at "run"
      refine ⟨D, _, rfl, DGet.k (k := Sum.inl (j : Int)) (g15 _ _ hDG), ?_⟩
      have hin := hI.2 (j : Int)
      cases hs : valV kvs (Sum.inl (j : Int)) with
      | some u =>
        rw [show (!(some u : Option V).isSome) = false from rfl]
        walk_at "run"
        exact ⟨rfl, _, rfl⟩
      | none =>
        rw [hs] at hin
        have nin : ¬ InT (touchedL (ixs rs) x.rc) (j : Int) := fun z => by have := hin.mpr z; exact nomatch this
        obtain ⟨eq1, eq2⟩ := lsm4 j nin
        obtain ⟨z, hz⟩ : ∃ z, (soundOf rs)[j]? = some z := ⟨_, List.getElem?_eq_getElem hj⟩
        rw [hz] at eq1 eq2
        rw [show (!(none : Option V).isSome) = true from rfl]
        walk_at "run"
        refine r_ixL (SqL.of (g15 _ _ hwl)) (at0 (get_map hz)) ?_
        walk_at "run"
        refine r_ixL (SqL.of (g15 _ _ hol)) (at0 (get_map eq1)) ?_
        walk_at "run"
        refine r_ixL (SqL.of (g15 _ _ hsl)) (at0 (get_map eq2)) ?_
        walk_at "run"
        refine r_ixL (SqL.of (g15 _ _ hwl)) (at0 (get_map hz)) ?_
        walk_at "run"
        exact ⟨rfl, _, rfl⟩
    rintro σ H16 ⟨rfl, x16, rfl⟩
    walk_at "run"
    refine ⟨tb15, fun H17 c2 eN tb17 hc2 => ?_⟩
    obtain ⟨sC, eC⟩ := cutG_same (q := lamQ) g15 eN hc2
    obtain ⟨ra', vsr, era, hra, aR⟩ := id hR
    obtain rfl : ra = ra' := V.ref.inj era
    walk_at "run"
    refine ⟨cutG G15 c2 lamQ, rs, x.rc, ra, vsr, rfl, cutG_c, en_lst eC hra, fun i r hn hri => ?_, fun fa => ⟨cutG G15 c2 lamQ, v9, .ref la, rfl, Same.refl _, sC, en_ls eC hX fun _ _ z => en_ix eC z, en_li eC hL, good, by omega, fun G18 H18 v18 gr18 p18 => ?_⟩⟩
    · obtain ⟨v, hv, hV⟩ := aR.at_ i r hri
      exact ⟨v, hv, en_rc eC hV⟩
    have eE : LamX.ExtN G15 H18 := (eC.trans (LamX.ExtN.of gr18.gg)).trans (LamX.ExtN.of gr18.gh)
    walk_at "run"
    refine r_neLi (Li.mono gr18.gh p18) ⟨sl, rfl, en_lst eE hsl⟩ ?_
    walk_at "run"
    exact ⟨_, _, _, _, _, _, _, _, _, _, _, _, _, _, _, _, _, _, _, rfl, en_sql (eN.trans (LamX.ExtN.of gr18.hs)) sql15, tb17.ext gr18.hs⟩
  · rintro σ H1 ⟨x1, x2, x3, x4, x5, x6, x7, x8, x9, x10, x11, x12, x13, x14, x15, x16, x17, x18, x19, rfl, hS1, tb1⟩
    walk_at "run"
    exact q H1
theorem all_ok {P : Program} {w : World} {base : Heap} {K : PySem.W.Frag} {mg : Str → Option Value} (T : Txt K mg) (c0 P0 : Addr) (TB : LamX.TabB base mg c0 P0) (hc0 : T.fd_law.code = .ref c0) :
    FnOk P w K mg base CX0 10 (He.ga K "law") T.fd_law ["_law_script"] (sp_law K P0) := by
  have k_is_integer_folds : ∀ base : Heap, Ok_is_integer_folds P w base T := fun base => ok_is_integer_folds T 
  have k_is_shape : ∀ base : Heap, Ok_is_shape P w base T := fun base => ok_is_shape T (k_is_integer_folds base)
  have k_is_joint : ∀ base : Heap, Ok_is_joint P w base T := fun base => ok_is_joint T (k_is_integer_folds base) (k_is_shape base)
  have k_unfold : ∀ base : Heap, Ok_unfold P w base T := fun base => ok_unfold T 
  have k_require_values : ∀ base : Heap, Ok_require_values P w base T := fun base => ok_require_values T (k_is_integer_folds base)
  have k_is_placed : ∀ base : Heap, Ok_is_placed P w base T := fun base => ok_is_placed T (k_is_integer_folds base) (k_is_joint base)
  have k_require_joints : ∀ base : Heap, Ok_require_joints P w base T := fun base => ok_require_joints T (k_is_placed base)
  have k_changed_pairs : ∀ base : Heap, Ok_changed_pairs P w base T := fun base => ok_changed_pairs T (k_unfold base)
  have k_unfolded : ∀ base : Heap, Ok_unfolded P w base T := fun base => ok_unfolded T (k_require_values base) (k_require_joints base) (k_changed_pairs base)
  have k_require_between : ∀ base : Heap, Ok_require_between P w base T := fun base => ok_require_between T (k_is_integer_folds base)
  have k_require_list : ∀ base : Heap, Ok_require_list P w base T := fun base => ok_require_list T (k_is_integer_folds base)
  have k_sum_counts : ∀ base : Heap, Ok_sum_counts P w base T := fun base => ok_sum_counts T 
  have k_join_levels : ∀ base : Heap, Ok_join_levels P w base T := fun base => ok_join_levels T (k_require_list base) (k_require_between base) (k_sum_counts base)
  have k_coarse_count : ∀ base : Heap, Ok_coarse_count P w base T := fun base => ok_coarse_count T (k_require_between base) (k_sum_counts base)
  have k_is_table : ∀ base : Heap, Ok_is_table P w base T := fun base => ok_is_table T (k_is_integer_folds base)
  have k_is_tables : ∀ base : Heap, Ok_is_tables P w base T := fun base => ok_is_tables T (k_is_table base)
  have k_parameter : ∀ base : Heap, Ok_parameter P w base T := fun base => ok_parameter T (k_is_table base)
  have k_table_behind : ∀ base : Heap, Ok_table_behind P w base T := fun base => ok_table_behind T 
  have k_code_number : ∀ base : Heap, Ok_code_number P w base T := fun base => ok_code_number T 
  have k_number_of : ∀ base : Heap, Ok_number_of P w base T := fun base => ok_number_of T 
  have k_ones_at : ∀ base : Heap, Ok_ones_at P w base T := fun base => ok_ones_at T 
  have k_read_code : ∀ base : Heap, Ok_read_code P w base T := fun base => ok_read_code T (k_ones_at base)
  have k_require_numbers : ∀ base : Heap, Ok_require_numbers P w base T := fun base => ok_require_numbers T (k_is_integer_folds base)
  have k_require_coarse : ∀ base : Heap, Ok_require_coarse P w base T := fun base => ok_require_coarse T (k_is_integer_folds base)
  have k_read_numbers : ∀ base : Heap, Ok_read_numbers P w base T := fun base => ok_read_numbers T (k_require_coarse base) (k_is_tables base) (k_read_code base) (k_table_behind base) (k_is_integer_folds base) (k_parameter base) (k_number_of base)
  have k_mark_of : ∀ base : Heap, Ok_mark_of P w base T := fun base => ok_mark_of T (k_require_numbers base) (k_code_number base)
  have k_is_integer_streams : ∀ base : Heap, Ok_is_integer_streams P w base T := fun base => ok_is_integer_streams T 
  have k_is_between : ∀ base : Heap, Ok_is_between P w base T := fun base => ok_is_between T (k_is_integer_streams base)
  have k_is_row : ∀ base : Heap, Ok_is_row P w base T := fun base => ok_is_row T 
  have k_is_frame : ∀ base : Heap, Ok_is_frame P w base T := fun base => ok_is_frame T (k_is_between base) (k_is_joint base)
  have k_is_record : ∀ base : Heap, Ok_is_record P w base T := fun base => ok_is_record T (k_is_frame base) (k_is_tables base)
  have k_frame_numbers : ∀ base : Heap, Ok_frame_numbers P w base T := fun base => ok_frame_numbers T (k_read_numbers base) (k_coarse_count base) (k_mark_of base)
  have k_block_values : ∀ base : Heap, Ok_block_values P w base T := fun base => ok_block_values T (k_join_levels base)
  have k_unfold_blocks : ∀ base : Heap, Ok_unfold_blocks P w base T := fun base => ok_unfold_blocks T (k_unfolded base)
  have k_Stream_load : ∀ base : Heap, Ok_Stream_load P w base T := fun base => ok_Stream_load T (k_frame_numbers base)
  have k_Stream_init : ∀ base : Heap, Ok_Stream_init P w base T := fun base => ok_Stream_init T (k_Stream_load base) (k_unfold_blocks base) (k_is_row base) (k_block_values base) (k_is_record base)
  have k_Stream_records : ∀ base : Heap, Ok_Stream_records P w base T := fun base => ok_Stream_records T 
  have k_Stream_sound : ∀ base : Heap, Ok_Stream_sound P w base T := fun base => ok_Stream_sound T 
  have k_Stream_require_frame : ∀ base : Heap, Ok_Stream_require_frame P w base T := fun base => ok_Stream_require_frame T (k_is_between base)
  have k_Stream_block : ∀ base : Heap, Ok_Stream_block P w base T := fun base => ok_Stream_block T (k_Stream_require_frame base)
  have k_index_of : ∀ base : Heap, Ok_index_of P w base T := fun base => ok_index_of T (k_Stream_block base) (k_Stream_records base)
  have k_records_of : ∀ base : Heap, Ok_records_of P w base T := fun base => ok_records_of T 
  have k_read_frame : ∀ base : Heap, Ok_read_frame P w base T := fun base => ok_read_frame T (k_frame_numbers base) (k_is_record base)
  have k_is_state : ∀ base : Heap, Ok_is_state P w base T := fun base => ok_is_state T (k_is_record base)
  have k_require_lost : ∀ base : Heap, Ok_require_lost P w base T := fun base => ok_require_lost T (k_is_row base) (k_is_integer_streams base)
  have k_unread_frames : ∀ base : Heap, Ok_unread_frames P w base T := fun base => ok_unread_frames T (k_require_lost base)
  have k_touched : ∀ base : Heap, Ok_touched P w base T := fun base => ok_touched T (k_unread_frames base)
  have k_with_silence : ∀ base : Heap, Ok_with_silence P w base T := fun base => ok_with_silence T (k_unfold_blocks base)
  have k_law_pool : ∀ base : Heap, Ok_law_pool P w base T := fun base => ok_law_pool T 
  have k_law_take : ∀ base : Heap, Ok_law_take P w base T := fun base => ok_law_take T 
  have k_law_binary : ∀ base : Heap, Ok_law_binary P w base T := fun base => ok_law_binary T 
  have k_law_parameter : ∀ base : Heap, Ok_law_parameter P w base T := fun base => ok_law_parameter T 
  have k_law_code : ∀ base : Heap, Ok_law_code P w base T := fun base => ok_law_code T (k_law_binary base)
  have k_law_behind : ∀ base : Heap, Ok_law_behind P w base T := fun base => ok_law_behind T 
  have k_law_u : ∀ base : Heap, Ok_law_u P w base T := fun base => ok_law_u T 
  have k_law_written : ∀ base : Heap, Ok_law_written P w base T := fun base => ok_law_written T (k_law_behind base) (k_law_code base) (k_law_u base) (k_law_parameter base)
  have k_law_mark : ∀ base : Heap, Ok_law_mark P w base T := fun base => ok_law_mark T (k_law_u base)
  have k_law_counts : ∀ base : Heap, Ok_law_counts P w base T := fun base => ok_law_counts T 
  have k_law_heads : ∀ base : Heap, Ok_law_heads P w base T := fun base => ok_law_heads T (k_law_take base)
  have k_law_some : ∀ base : Heap, Ok_law_some P w base T := fun base => ok_law_some T (k_law_take base)
  have k_law_frame : ∀ base : Heap, Ok_law_frame P w base T := fun base => ok_law_frame T (k_law_written base) (k_law_counts base) (k_law_mark base)
  have k_law_tables : ∀ base : Heap, Ok_law_tables P w base T := fun base => ok_law_tables T (k_law_take base)
  have k_law_stream : ∀ base : Heap, Ok_law_stream P w base T := fun base => ok_law_stream T (k_law_heads base) (k_law_some base) (k_law_frame base) (k_law_take base) (k_law_tables base)
  have k_law_other : ∀ base : Heap, Ok_law_other P w base T := fun base => ok_law_other T (k_law_frame base) (k_law_some base)
  have k_concealed : ∀ {base' : Heap} (fa : Addr) (G0 : Hp) (rs : List Rc) (L : Nat), FetchAt P w K mg base' fa G0 rs L → Ok_concealed P w base' T fa G0 rs L := fun {base'} fa G0 rs L hF =>
    ok_concealed T fa G0 rs L (ok_fetched_values T fa G0 rs L hF (k_records_of base') (k_read_frame base') (k_block_values base') (k_is_state base')) (k_unread_frames base') (k_with_silence base')
  exact ok_law T c0 P0 TB hc0 (k_law_pool base) (k_law_stream base) (k_law_take base) (k_law_other base) (k_Stream_init base) (k_index_of base) (k_touched base) (k_Stream_sound base) k_concealed
def d_is_integer_folds : He.DefD := ⟨("is_integer_folds", none), "is_integer", "is_integer", defArgs s_is_integer_folds, defBody s_is_integer_folds, defScope s_is_integer_folds, [], []⟩
def d_is_shape : He.DefD := ⟨("is_shape", none), "is_shape", "is_shape", defArgs s_is_shape, defBody s_is_shape, defScope s_is_shape, [], []⟩
def d_is_joint : He.DefD := ⟨("is_joint", none), "is_joint", "is_joint", defArgs s_is_joint, defBody s_is_joint, defScope s_is_joint, [], []⟩
def d_unfold : He.DefD := ⟨("unfold", none), "unfold", "unfold", defArgs s_unfold, defBody s_unfold, defScope s_unfold, [], []⟩
def d_require_values : He.DefD := ⟨("require_values", none), "require_values", "require_values", defArgs s_require_values, defBody s_require_values, defScope s_require_values, [], []⟩
def d_is_placed : He.DefD := ⟨("is_placed", none), "is_placed", "is_placed", defArgs s_is_placed, defBody s_is_placed, defScope s_is_placed, [], []⟩
def d_require_joints : He.DefD := ⟨("require_joints", none), "require_joints", "require_joints", defArgs s_require_joints, defBody s_require_joints, defScope s_require_joints, [], []⟩
def d_changed_pairs : He.DefD := ⟨("changed_pairs", none), "changed_pairs", "changed_pairs", defArgs s_changed_pairs, defBody s_changed_pairs, defScope s_changed_pairs, [], []⟩
def d_unfolded : He.DefD := ⟨("unfolded", none), "unfolded", "unfolded", defArgs s_unfolded, defBody s_unfolded, defScope s_unfolded, [], []⟩
def d_require_between : He.DefD := ⟨("require_between", none), "require_between", "require_between", defArgs s_require_between, defBody s_require_between, defScope s_require_between, [], []⟩
def d_require_list : He.DefD := ⟨("require_list", none), "require_list", "require_list", defArgs s_require_list, defBody s_require_list, defScope s_require_list, [], []⟩
def d_sum_counts : He.DefD := ⟨("sum_counts", none), "sum_counts", "sum_counts", defArgs s_sum_counts, defBody s_sum_counts, defScope s_sum_counts, [], []⟩
def d_join_levels : He.DefD := ⟨("join_levels", none), "join_levels", "join_levels", defArgs s_join_levels, defBody s_join_levels, defScope s_join_levels, [], []⟩
def d_coarse_count : He.DefD := ⟨("coarse_count", none), "coarse_count", "coarse_count", defArgs s_coarse_count, defBody s_coarse_count, defScope s_coarse_count, [], []⟩
def d_is_table : He.DefD := ⟨("is_table", none), "is_table", "is_table", defArgs s_is_table, defBody s_is_table, defScope s_is_table, [], []⟩
def d_is_tables : He.DefD := ⟨("is_tables", none), "is_tables", "is_tables", defArgs s_is_tables, defBody s_is_tables, defScope s_is_tables, [], []⟩
def d_parameter : He.DefD := ⟨("parameter", none), "parameter", "parameter", defArgs s_parameter, defBody s_parameter, defScope s_parameter, [], []⟩
def d_table_behind : He.DefD := ⟨("table_behind", none), "table_behind", "table_behind", defArgs s_table_behind, defBody s_table_behind, defScope s_table_behind, [], []⟩
def d_code_number : He.DefD := ⟨("code_number", none), "code_number", "code_number", defArgs s_code_number, defBody s_code_number, defScope s_code_number, [], []⟩
def d_number_of : He.DefD := ⟨("number_of", none), "number_of", "number_of", defArgs s_number_of, defBody s_number_of, defScope s_number_of, [], []⟩
def d_ones_at : He.DefD := ⟨("ones_at", none), "ones_at", "ones_at", defArgs s_ones_at, defBody s_ones_at, defScope s_ones_at, [], []⟩
def d_read_code : He.DefD := ⟨("read_code", none), "read_code", "read_code", defArgs s_read_code, defBody s_read_code, defScope s_read_code, [], []⟩
def d_require_numbers : He.DefD := ⟨("require_numbers", none), "require_numbers", "require_numbers", defArgs s_require_numbers, defBody s_require_numbers, defScope s_require_numbers, [], []⟩
def d_require_coarse : He.DefD := ⟨("require_coarse", none), "require_coarse", "require_coarse", defArgs s_require_coarse, defBody s_require_coarse, defScope s_require_coarse, [], []⟩
def d_read_numbers : He.DefD := ⟨("read_numbers", none), "read_numbers", "read_numbers", defArgs s_read_numbers, defBody s_read_numbers, defScope s_read_numbers, [], []⟩
def d_mark_of : He.DefD := ⟨("mark_of", none), "mark_of", "mark_of", defArgs s_mark_of, defBody s_mark_of, defScope s_mark_of, [], []⟩
def d_is_integer_streams : He.DefD := ⟨("is_integer_streams", none), "is_integer", "is_integer", defArgs s_is_integer_streams, defBody s_is_integer_streams, defScope s_is_integer_streams, [], []⟩
def d_is_between : He.DefD := ⟨("is_between", none), "is_between", "is_between", defArgs s_is_between, defBody s_is_between, defScope s_is_between, [], []⟩
def d_is_row : He.DefD := ⟨("is_row", none), "is_row", "is_row", defArgs s_is_row, defBody s_is_row, defScope s_is_row, [], []⟩
def d_is_frame : He.DefD := ⟨("is_frame", none), "is_frame", "is_frame", defArgs s_is_frame, defBody s_is_frame, defScope s_is_frame, [], []⟩
def d_is_record : He.DefD := ⟨("is_record", none), "is_record", "is_record", defArgs s_is_record, defBody s_is_record, defScope s_is_record, [], []⟩
def d_frame_numbers : He.DefD := ⟨("frame_numbers", none), "frame_numbers", "frame_numbers", defArgs s_frame_numbers, defBody s_frame_numbers, defScope s_frame_numbers, [], []⟩
def d_block_values : He.DefD := ⟨("block_values", none), "block_values", "block_values", defArgs s_block_values, defBody s_block_values, defScope s_block_values, [], []⟩
def d_unfold_blocks : He.DefD := ⟨("unfold_blocks", none), "unfold_blocks", "unfold_blocks", defArgs s_unfold_blocks, defBody s_unfold_blocks, defScope s_unfold_blocks, [], []⟩
def d_Stream_init : He.DefD := ⟨("Stream", some "__init__"), "__init__", "Stream.__init__", defArgs s_Stream_init, defBody s_Stream_init, defScope s_Stream_init, [], []⟩
def d_Stream_load : He.DefD := ⟨("Stream", some "load"), "load", "Stream.load", defArgs s_Stream_load, defBody s_Stream_load, defScope s_Stream_load, [], []⟩
def d_Stream_sound : He.DefD := ⟨("Stream", some "sound"), "sound", "Stream.sound", defArgs s_Stream_sound, defBody s_Stream_sound, defScope s_Stream_sound, [], []⟩
def d_Stream_require_frame : He.DefD := ⟨("Stream", some "require_frame"), "require_frame", "Stream.require_frame", defArgs s_Stream_require_frame, defBody s_Stream_require_frame, defScope s_Stream_require_frame, [], []⟩
def d_Stream_block : He.DefD := ⟨("Stream", some "block"), "block", "Stream.block", defArgs s_Stream_block, defBody s_Stream_block, defScope s_Stream_block, [], []⟩
def d_index_of : He.DefD := ⟨("index_of", none), "index_of", "index_of", defArgs s_index_of, defBody s_index_of, defScope s_index_of, [], []⟩
def d_records_of : He.DefD := ⟨("records_of", none), "records_of", "records_of", defArgs s_records_of, defBody s_records_of, defScope s_records_of, [], []⟩
def d_read_frame : He.DefD := ⟨("read_frame", none), "read_frame", "read_frame", defArgs s_read_frame, defBody s_read_frame, defScope s_read_frame, [], []⟩
def d_is_state : He.DefD := ⟨("is_state", none), "is_state", "is_state", defArgs s_is_state, defBody s_is_state, defScope s_is_state, [], []⟩
def d_fetched_values : He.DefD := ⟨("fetched_values", none), "fetched_values", "fetched_values", defArgs s_fetched_values, defBody s_fetched_values, defScope s_fetched_values, [], []⟩
def d_require_lost : He.DefD := ⟨("require_lost", none), "require_lost", "require_lost", defArgs s_require_lost, defBody s_require_lost, defScope s_require_lost, [], []⟩
def d_unread_frames : He.DefD := ⟨("unread_frames", none), "unread_frames", "unread_frames", defArgs s_unread_frames, defBody s_unread_frames, defScope s_unread_frames, [], []⟩
def d_touched : He.DefD := ⟨("touched", none), "touched", "touched", defArgs s_touched, defBody s_touched, defScope s_touched, [], []⟩
def d_with_silence : He.DefD := ⟨("with_silence", none), "with_silence", "with_silence", defArgs s_with_silence, defBody s_with_silence, defScope s_with_silence, [], []⟩
def d_concealed : He.DefD := ⟨("concealed", none), "concealed", "concealed", defArgs s_concealed, defBody s_concealed, defScope s_concealed, [], []⟩
def d_law_pool : He.DefD := ⟨("_law_pool", none), "_law_pool", "_law_pool", defArgs s_law_pool, defBody s_law_pool, defScope s_law_pool, [], []⟩
def d_law_take : He.DefD := ⟨("_law_take", none), "_law_take", "_law_take", defArgs s_law_take, defBody s_law_take, defScope s_law_take, [], []⟩
def d_law_binary : He.DefD := ⟨("_law_binary", none), "_law_binary", "_law_binary", defArgs s_law_binary, defBody s_law_binary, defScope s_law_binary, [], []⟩
def d_law_parameter : He.DefD := ⟨("_law_parameter", none), "_law_parameter", "_law_parameter", defArgs s_law_parameter, defBody s_law_parameter, defScope s_law_parameter, [], []⟩
def d_law_code : He.DefD := ⟨("_law_code", none), "_law_code", "_law_code", defArgs s_law_code, defBody s_law_code, defScope s_law_code, [], []⟩
def d_law_behind : He.DefD := ⟨("_law_behind", none), "_law_behind", "_law_behind", defArgs s_law_behind, defBody s_law_behind, defScope s_law_behind, [], []⟩
def d_law_u : He.DefD := ⟨("_law_u", none), "_law_u", "_law_u", defArgs s_law_u, defBody s_law_u, defScope s_law_u, [], []⟩
def d_law_written : He.DefD := ⟨("_law_written", none), "_law_written", "_law_written", defArgs s_law_written, defBody s_law_written, defScope s_law_written, [], []⟩
def d_law_mark : He.DefD := ⟨("_law_mark", none), "_law_mark", "_law_mark", defArgs s_law_mark, defBody s_law_mark, defScope s_law_mark, [], []⟩
def d_law_counts : He.DefD := ⟨("_law_counts", none), "_law_counts", "_law_counts", defArgs s_law_counts, defBody s_law_counts, defScope s_law_counts, [], []⟩
def d_law_heads : He.DefD := ⟨("_law_heads", none), "_law_heads", "_law_heads", defArgs s_law_heads, defBody s_law_heads, defScope s_law_heads, [], []⟩
def d_law_some : He.DefD := ⟨("_law_some", none), "_law_some", "_law_some", defArgs s_law_some, defBody s_law_some, defScope s_law_some, [], []⟩
def d_law_frame : He.DefD := ⟨("_law_frame", none), "_law_frame", "_law_frame", defArgs s_law_frame, defBody s_law_frame, defScope s_law_frame, [], []⟩
def d_law_tables : He.DefD := ⟨("_law_tables", none), "_law_tables", "_law_tables", defArgs s_law_tables, defBody s_law_tables, defScope s_law_tables, [], []⟩
def d_law_stream : He.DefD := ⟨("_law_stream", none), "_law_stream", "_law_stream", defArgs s_law_stream, defBody s_law_stream, defScope s_law_stream, [], []⟩
def d_law_other : He.DefD := ⟨("_law_other", none), "_law_other", "_law_other", defArgs s_law_other, defBody s_law_other, defScope s_law_other, [], []⟩
def d_law : He.DefD := ⟨("law", none), "law", "law", defArgs s_law, defBody s_law, defScope s_law, [], []⟩
def fnL : List He.DefD := [d_is_integer_folds, d_is_shape, d_is_joint, d_unfold, d_require_values, d_is_placed, d_require_joints, d_changed_pairs, d_unfolded, d_require_between, d_require_list, d_sum_counts, d_join_levels, d_coarse_count, d_is_table, d_is_tables, d_parameter, d_table_behind, d_code_number, d_number_of, d_ones_at, d_read_code, d_require_numbers, d_require_coarse, d_read_numbers, d_mark_of, d_is_integer_streams, d_is_between, d_is_row, d_is_frame, d_is_record, d_frame_numbers, d_block_values, d_unfold_blocks, d_Stream_init, d_Stream_load, d_Stream_sound, d_Stream_require_frame, d_Stream_block, d_index_of, d_records_of, d_read_frame, d_is_state, d_fetched_values, d_require_lost, d_unread_frames, d_touched, d_with_silence, d_concealed, d_law_pool, d_law_take, d_law_binary, d_law_parameter, d_law_code, d_law_behind, d_law_u, d_law_written, d_law_mark, d_law_counts, d_law_heads, d_law_some, d_law_frame, d_law_tables, d_law_stream, d_law_other, d_law]
def faL : List He.Fa := [.glo "is_integer_folds", .glo "is_shape", .glo "is_joint", .glo "unfold", .glo "require_values", .glo "is_placed", .glo "require_joints", .glo "changed_pairs", .glo "unfolded", .glo "require_between", .glo "require_list", .glo "sum_counts", .glo "join_levels", .glo "coarse_count", .glo "is_table", .glo "is_tables", .glo "parameter", .glo "table_behind", .glo "code_number", .glo "number_of", .glo "ones_at", .glo "read_code", .glo "require_numbers", .glo "require_coarse", .glo "read_numbers", .glo "mark_of", .glo "is_integer_streams", .glo "is_between", .glo "is_row", .glo "is_frame", .glo "is_record", .glo "frame_numbers", .glo "block_values", .glo "unfold_blocks", .glo "index_of", .glo "records_of", .glo "read_frame", .glo "is_state", .glo "fetched_values", .glo "require_lost", .glo "unread_frames", .glo "touched", .glo "with_silence", .glo "concealed", .glo "_law_pool", .glo "_law_take", .glo "_law_binary", .glo "_law_parameter", .glo "_law_code", .glo "_law_behind", .glo "_law_u", .glo "_law_written", .glo "_law_mark", .glo "_law_counts", .glo "_law_heads", .glo "_law_some", .glo "_law_frame", .glo "_law_tables", .glo "_law_stream", .glo "_law_other", .glo "law", .glo "Stream", .glo "SHAPES", .glo "START", .glo "HARD", .free "len", .free "isinstance", .free "int", .free "bool", .free "list", .free "tuple", .free "str", .free "range", .free "enumerate", .free "zip", .free "all", .free "any", .free "min", .free "max", .free "abs", .int "MAX_WIDTH" 8, .int "MOST_LEVELS" 5, .int "MOST_VALUES" 64, .int "FULL" 16, .int "MOST_ONES" 20, .int "MOST_NUMBERS" 64, .int "MARK_FACTOR" 31, .int "MARK_PRIME" 9973, .int "MAX_LENGTH" 64, .int "MAX_LEVELS" 5, .int "MAX_STEP" 64, .int "MAX_MARK" 9972, .cls "Stream", .mkr "Stream", .noat "Stream" "own_records", .noat "Stream" "rows", .noat "Stream" "read", .noat "Stream" "blocks", .noat "Stream" "own_sound", .meth "Stream" "load", .meth "Stream" "block", .meth "Stream" "require_frame", .meth "Stream" "sound"]
abbrev R : PySem.W.OpenRow := PySem.W.OpenLaw.row PySem.Challenge.rw_framejoins_k40_whole_outside_of_the_touc
def names1 : List Str := ["_wall", "JoinError", "InvalidNumber", "InvalidSound", "InvalidTables", "InvalidPlan", "InvalidStream", "InvalidPlace", "MAX_WIDTH", "SHAPES", "is_integer", "is_integer_folds", "is_shape", "is_joint", "unfold", "require_values", "is_placed", "require_joints", "changed_pairs", "unfolded", "MOST_LEVELS", "MOST_VALUES", "require_between", "require_list", "sum_counts", "join_levels", "coarse_count"]
def names2 : List Str := ["START", "FULL", "MOST_ONES", "MOST_NUMBERS", "MARK_FACTOR", "MARK_PRIME", "is_table", "is_tables", "parameter", "table_behind", "code_number", "number_of", "ones_at", "read_code", "require_numbers", "require_coarse", "read_numbers", "mark_of", "MAX_LENGTH", "MAX_LEVELS", "MAX_STEP", "MAX_MARK", "HARD", "is_integer_streams", "is_between", "is_row", "is_frame", "is_record", "frame_numbers", "block_values", "unfold_blocks"]
def names3 : List Str := ["Stream", "index_of", "records_of", "read_frame", "is_state", "fetched_values", "require_lost", "unread_frames", "touched", "with_silence", "concealed", "_law_pool", "_law_take", "_law_same", "_law_binary", "_law_parameter", "_law_code", "_law_behind", "_law_u", "_law_written", "_law_mark", "_law_counts", "_law_values", "_law_unfolded", "_law_sound", "_law_heads", "_law_some", "_law_frame", "_law_tables", "_law_stream", "_law_blocks", "_law_other"]
def names : List Str := names1 ++ names2 ++ names3
def tupA (K : PySem.W.Frag) (a : Addr) (vs : List V) : Bool := match K.lookup a with
  | some ⟨.type c, _, .seq its _, _⟩ => decide (c = "tuple") && (decide (its.size ≤ sizeLine) && He.relAll vs its.toList)
  | _ => false
def prB (K : PySem.W.Frag) (a : Addr) (i j : Int) : Bool := tupA K a [.int i, .int j]
def propB (K : PySem.W.Frag) : Bool := He.eqO (PySem.W.findIn K (.ref (He.ga K "Stream")) "records") (some (some (.ref (propP K)))) && (He.eqO (PySem.W.specialIn K (.ref (propP K)) "__get__") (some (some (.builtin "property.__get__"))) &&
  (decide (PySem.W.takesIn K (.ref (propP K)) = some true) && (match PySem.W.recIn K (propP K) "property" with
    | some (.ref f :: _) => decide (f = propG K)
    | _ => false)))
def exA (K : PySem.W.Frag) : Bool := prB K (He.ga K "HARD") 0 0 && (tupA K (He.ga K "START") [.ref (itA K (He.ga K "START") 0), .ref (itA K (He.ga K "START") 1)] && (prB K (itA K (He.ga K "START") 0) 2 1 && (prB K (itA K (He.ga K "START") 1) 2 1 &&
  (tupA K (He.ga K "SHAPES") [.ref (itA K (He.ga K "SHAPES") 0), .ref (itA K (He.ga K "SHAPES") 1), .ref (itA K (He.ga K "SHAPES") 2), .ref (itA K (He.ga K "SHAPES") 3)] &&
  (prB K (itA K (He.ga K "SHAPES") 0) (-1) 2 && (prB K (itA K (He.ga K "SHAPES") 1) (-2) 3 && (prB K (itA K (He.ga K "SHAPES") 2) 1 (-2) && (prB K (itA K (He.ga K "SHAPES") 3) 2 (-3) && propB K))))))))
def dRec : He5.DefA := ⟨propG, "records", "Stream.records", defArgs s_Stream_records, defBody s_Stream_records, defScope s_Stream_records, [], []⟩
def exB (K : PySem.W.Frag) : Bool := exA K && dRec.ok K
/-! ### the part of the heap that is looked at -/
section
open He
def coF (g : Addr → Option Obj) (a : Addr) : List Addr := match g a with
  | some ⟨_, _, .func fd, _⟩ => a :: refV fd.code
  | some ⟨_, _, .seq its _, _⟩ => a :: its.toList.flatMap refV
  | _ => [a]
def prF (g : Addr → Option Obj) (a : Addr) : List Addr := match g a with
  | some ⟨_, _, .func fd, _⟩ => a :: refV fd.code
  | some ⟨_, _, .fields vs, _⟩ => a :: vs.toList.flatMap fun v => (refV v).flatMap (coF g)
  | _ => []
def clF (g : Addr → Option Obj) (C : Addr) : List Addr := match g C with
  | some ⟨_, _, .cls cd, _⟩ => C :: cd.ns :: (match g cd.ns with
    | some ⟨_, _, .dict es _, _⟩ => es.toList.flatMap fun e => (refV e.val).flatMap (prF g)
    | _ => [])
  | _ => []
def gloF (g : Addr → Option Obj) : List Addr := match g mainGlobals with
  | some ⟨_, _, .dict es _, _⟩ => es.toList.flatMap fun e => (refV e.val).flatMap (coF g)
  | _ => []
def asF (g : Addr → Option Obj) : List Addr := mainGlobals :: (clF g (ga (frG g [mainGlobals]) "Stream") ++ gloF g)
def obsF (g : Addr → Option Obj) : AlX := (obsT faL fnL [] (frT g (asF g)), exB (frT g (asF g)) && tabsB g [("law", none)] (frT g (asF g)))
theorem saysF_of {w : World} {h : Heap} (e : obsF h.get? = valX fnL [] w) : SaysX faL fnL [] [("law", none)] exB w h (frT h.get? (asF h.get?)) := by
  have e1 : obsT faL fnL [] (frT h.get? (asF h.get?)) = valT fnL [] w := congrArg (fun z : AlX => z.1) e
  have e2 : (exB (frT h.get? (asF h.get?)) && tabsB h.get? [("law", none)] (frT h.get? (asF h.get?))) = true := congrArg (fun z : AlX => z.2) e
  obtain ⟨h1, h2⟩ := Bool.and_eq_true_iff.mp e2
  have key : ∀ p ∈ [(("law" : Str), (none : Option Str))], PySem.W.codeHdIn (frT h.get? (asF h.get?)) (cT (frT h.get? (asF h.get?)) p).1 (cT (frT h.get? (asF h.get?)) p).2 = true ∧ ∃ o, h.get? (cT (frT h.get? (asF h.get?)) p).2 = some o ∧ emptyTab o = true := fun p hp => by
    obtain ⟨h3, h4⟩ := Bool.and_eq_true_iff.mp (List.all_eq_true.mp h2 p hp)
    refine ⟨h3, ?_⟩
    cases q : h.get? (cT (frT h.get? (asF h.get?)) p).2 with
    | none =>
      rw [q] at h4
      exact nomatch h4
    | some o =>
      rw [q] at h4
      exact ⟨o, rfl, h4⟩
  refine ⟨e1, h1, fun p hp => (key p hp).1, fun p hp => ?_, fun p hp => ?_⟩
  · obtain ⟨_, o, q, z⟩ := key p hp
    exact frT_none q z
  · obtain ⟨_, o, q, z⟩ := key p hp
    rw [q, emptyTab_eq z]
def hkF : PySem.W.Hook where
  α := AlX × He5.FnW
  obs := fun s => (obsF s.heap.get?, He5.fnA (frT s.heap.get? (asF s.heap.get?)) (propG (frT s.heap.get? (asF s.heap.get?))))
  val := fun w => (valX fnL [] w, dRec.val)
  says := fun w h => ∃ K : PySem.W.Frag, K.In h ∧ SaysX faL fnL [] [("law", none)] exB w h K ∧ He5.fnA K (dRec.at_ K) = dRec.val
  of := fun _ _ e => ⟨_, frT_in, saysF_of (congrArg (fun z : AlX × He5.FnW => z.1) e), congrArg (fun z : AlX × He5.FnW => z.2) e⟩
  keeps := fun _ _ _ ⟨K, hK, c, d⟩ k => ⟨K, PySem.W.Frag.In.keeps hK k, ⟨c.t, c.more, c.hd, c.out, fun p hp => k _ _ (c.empty p hp)⟩, d⟩
def obFF (s : PySem.W.SharedT) : AlX × He5.FnW := (obsF (HandSHeadRun.getT s), He5.fnA (frT (HandSHeadRun.getT s) (asF (HandSHeadRun.getT s))) (propG (frT (HandSHeadRun.getT s) (asF (HandSHeadRun.getT s)))))
theorem obFF_eq (s : PySem.W.SharedT) : obFF s = hkF.obs s.abs := by
  have e : HandSHeadRun.getT s = s.abs.heap.get? := funext (HandSHeadRun.getT_eq s)
  unfold obFF
  rw [e]
  rfl
theorem run (w : World) : HandSHeadRun.RunEq R (PySem.W.view R.prog [99]) hkF obFF 6000 names w := by
  intro os
  kernel_rfl
end
/-! ### what the Bools say -/
theorem tupA_ok {K : PySem.W.Frag} {a : Addr} {vs : List V} (h : tupA K a vs = true) (H : Hp) : SqT K H a vs := by
  unfold tupA at h
  cases q : K.lookup a with
  | none => rw [q] at h; exact nomatch h
  | some o =>
    obtain ⟨oc, od, dt, osl⟩ := o
    rw [q] at h
    cases oc with
    | type c =>
      cases dt with
      | seq its n =>
        obtain ⟨h1, h2⟩ := Bool.and_eq_true_iff.mp (show (decide (c = "tuple") && (decide (its.size ≤ sizeLine) && He.relAll vs its.toList)) = true from h)
        obtain ⟨h3, h4⟩ := Bool.and_eq_true_iff.mp h2
        exact .inr ⟨_, its, n, q, congrArg Value.type (of_decide_eq_true h1), rfl, of_decide_eq_true h3, He.relAll_ok h4⟩
      | _ => exact nomatch h
    | _ => cases dt <;> exact nomatch h
structure ExF (K : PySem.W.Frag) : Prop where
  t_HARD : ∀ H, SqT K H (He.ga K "HARD") [.int 0, .int 0]
  t_START : ∀ H, SqT K H (He.ga K "START") [.ref (itA K (He.ga K "START") 0), .ref (itA K (He.ga K "START") 1)]
  t_START0 : ∀ H, SqT K H (itA K (He.ga K "START") 0) [.int 2, .int 1]
  t_START1 : ∀ H, SqT K H (itA K (He.ga K "START") 1) [.int 2, .int 1]
  t_SHAPES : ∀ H, SqT K H (He.ga K "SHAPES") [.ref (itA K (He.ga K "SHAPES") 0), .ref (itA K (He.ga K "SHAPES") 1), .ref (itA K (He.ga K "SHAPES") 2), .ref (itA K (He.ga K "SHAPES") 3)]
  t_SHAPES0 : ∀ H, SqT K H (itA K (He.ga K "SHAPES") 0) [.int (-1), .int 2]
  t_SHAPES1 : ∀ H, SqT K H (itA K (He.ga K "SHAPES") 1) [.int (-2), .int 3]
  t_SHAPES2 : ∀ H, SqT K H (itA K (He.ga K "SHAPES") 2) [.int 1, .int (-2)]
  t_SHAPES3 : ∀ H, SqT K H (itA K (He.ga K "SHAPES") 3) [.int 2, .int (-3)]
  prp : PropOf K (He.ga K "Stream") "records" (propP K) (propG K)
theorem exF_of {K : PySem.W.Frag} (h : exA K = true) : ExF K := by
  obtain ⟨h1, h⟩ := Bool.and_eq_true_iff.mp h
  obtain ⟨h2, h⟩ := Bool.and_eq_true_iff.mp h
  obtain ⟨h3, h⟩ := Bool.and_eq_true_iff.mp h
  obtain ⟨h4, h⟩ := Bool.and_eq_true_iff.mp h
  obtain ⟨h5, h⟩ := Bool.and_eq_true_iff.mp h
  obtain ⟨h6, h⟩ := Bool.and_eq_true_iff.mp h
  obtain ⟨h7, h⟩ := Bool.and_eq_true_iff.mp h
  obtain ⟨h8, h⟩ := Bool.and_eq_true_iff.mp h
  obtain ⟨h9, h⟩ := Bool.and_eq_true_iff.mp h
  obtain ⟨p1, h⟩ := Bool.and_eq_true_iff.mp h
  obtain ⟨p2, h⟩ := Bool.and_eq_true_iff.mp h
  obtain ⟨p3, p4⟩ := Bool.and_eq_true_iff.mp h
  refine ⟨tupA_ok h1, tupA_ok h2, tupA_ok h3, tupA_ok h4, tupA_ok h5, tupA_ok h6, tupA_ok h7, tupA_ok h8, tupA_ok h9, He.eqO_ok p1, He.eqO_ok p2, of_decide_eq_true p3, ?_⟩
  cases q : PySem.W.recIn K (propP K) "property" with
  | none => rw [q] at p4; exact nomatch p4
  | some l =>
    rw [q] at p4
    cases l with
    | nil => exact nomatch p4
    | cons u r =>
      cases u with
      | ref f => exact ⟨r, by rw [of_decide_eq_true p4]⟩
      | _ => exact nomatch p4
noncomputable def txt {w : World} {K : PySem.W.Frag} {h : Heap} {mg : Str → Option Value} (X : K.In h) (G : h.Ns mainGlobals mg) (c : He.SaysX faL fnL [] [("law", none)] exB w h K) (e : ExF K) (er : He5.fnA K (dRec.at_ K) = dRec.val) (ec : dRec.ok K = true) : Txt K mg where
  cls := He.cls_ok (c.t.d.fact 92 (f := .cls "Stream") rfl)
  g_Stream := He.glo_ok X G (c.t.d.fact 61 (f := .glo "Stream") rfl)
  mkS := He.mkr_ok (c.t.d.fact 93 (f := .mkr "Stream") rfl)
  a_own_records := He.noat_ok (c.t.d.fact 94 (f := .noat "Stream" "own_records") rfl)
  a_rows := He.noat_ok (c.t.d.fact 95 (f := .noat "Stream" "rows") rfl)
  a_read := He.noat_ok (c.t.d.fact 96 (f := .noat "Stream" "read") rfl)
  a_blocks := He.noat_ok (c.t.d.fact 97 (f := .noat "Stream" "blocks") rfl)
  a_own_sound := He.noat_ok (c.t.d.fact 98 (f := .noat "Stream" "own_sound") rfl)
  m_load := He.meth_ok (c.t.d.fact 99 (f := .meth "Stream" "load") rfl)
  m_block := He.meth_ok (c.t.d.fact 100 (f := .meth "Stream" "block") rfl)
  m_require_frame := He.meth_ok (c.t.d.fact 101 (f := .meth "Stream" "require_frame") rfl)
  m_sound := He.meth_ok (c.t.d.fact 102 (f := .meth "Stream" "sound") rfl)
  prp := e.prp
  g_SHAPES := He.glo_ok X G (c.t.d.fact 62 (f := .glo "SHAPES") rfl)
  g_START := He.glo_ok X G (c.t.d.fact 63 (f := .glo "START") rfl)
  g_HARD := He.glo_ok X G (c.t.d.fact 64 (f := .glo "HARD") rfl)
  t_HARD := e.t_HARD
  t_START := e.t_START
  t_START0 := e.t_START0
  t_START1 := e.t_START1
  t_SHAPES := e.t_SHAPES
  t_SHAPES0 := e.t_SHAPES0
  t_SHAPES1 := e.t_SHAPES1
  t_SHAPES2 := e.t_SHAPES2
  t_SHAPES3 := e.t_SHAPES3
  n_len := He.free_ok X G (c.t.d.fact 65 (f := .free "len") rfl)
  n_isinstance := He.free_ok X G (c.t.d.fact 66 (f := .free "isinstance") rfl)
  n_int := He.free_ok X G (c.t.d.fact 67 (f := .free "int") rfl)
  n_bool := He.free_ok X G (c.t.d.fact 68 (f := .free "bool") rfl)
  n_list := He.free_ok X G (c.t.d.fact 69 (f := .free "list") rfl)
  n_tuple := He.free_ok X G (c.t.d.fact 70 (f := .free "tuple") rfl)
  n_str := He.free_ok X G (c.t.d.fact 71 (f := .free "str") rfl)
  n_range := He.free_ok X G (c.t.d.fact 72 (f := .free "range") rfl)
  n_enumerate := He.free_ok X G (c.t.d.fact 73 (f := .free "enumerate") rfl)
  n_zip := He.free_ok X G (c.t.d.fact 74 (f := .free "zip") rfl)
  n_all := He.free_ok X G (c.t.d.fact 75 (f := .free "all") rfl)
  n_any := He.free_ok X G (c.t.d.fact 76 (f := .free "any") rfl)
  n_min := He.free_ok X G (c.t.d.fact 77 (f := .free "min") rfl)
  n_max := He.free_ok X G (c.t.d.fact 78 (f := .free "max") rfl)
  n_abs := He.free_ok X G (c.t.d.fact 79 (f := .free "abs") rfl)
  i_MAX_WIDTH := He.int_ok X G (c.t.d.fact 80 (f := .int "MAX_WIDTH" 8) rfl)
  i_MOST_LEVELS := He.int_ok X G (c.t.d.fact 81 (f := .int "MOST_LEVELS" 5) rfl)
  i_MOST_VALUES := He.int_ok X G (c.t.d.fact 82 (f := .int "MOST_VALUES" 64) rfl)
  i_FULL := He.int_ok X G (c.t.d.fact 83 (f := .int "FULL" 16) rfl)
  i_MOST_ONES := He.int_ok X G (c.t.d.fact 84 (f := .int "MOST_ONES" 20) rfl)
  i_MOST_NUMBERS := He.int_ok X G (c.t.d.fact 85 (f := .int "MOST_NUMBERS" 64) rfl)
  i_MARK_FACTOR := He.int_ok X G (c.t.d.fact 86 (f := .int "MARK_FACTOR" 31) rfl)
  i_MARK_PRIME := He.int_ok X G (c.t.d.fact 87 (f := .int "MARK_PRIME" 9973) rfl)
  i_MAX_LENGTH := He.int_ok X G (c.t.d.fact 88 (f := .int "MAX_LENGTH" 64) rfl)
  i_MAX_LEVELS := He.int_ok X G (c.t.d.fact 89 (f := .int "MAX_LEVELS" 5) rfl)
  i_MAX_STEP := He.int_ok X G (c.t.d.fact 90 (f := .int "MAX_STEP" 64) rfl)
  i_MAX_MARK := He.int_ok X G (c.t.d.fact 91 (f := .int "MAX_MARK" 9972) rfl)
  g_is_integer_folds := He.glo_ok X G (c.t.d.fact 0 (f := .glo "is_integer_folds") rfl)
  fd_is_integer_folds := (c.t.d.def_ 0 (d := d_is_integer_folds) rfl).choose
  F_is_integer_folds := He5.fun_of (c.t.d.def_ 0 (d := d_is_integer_folds) rfl).choose_spec
  g_is_shape := He.glo_ok X G (c.t.d.fact 1 (f := .glo "is_shape") rfl)
  fd_is_shape := (c.t.d.def_ 1 (d := d_is_shape) rfl).choose
  F_is_shape := He5.fun_of (c.t.d.def_ 1 (d := d_is_shape) rfl).choose_spec
  g_is_joint := He.glo_ok X G (c.t.d.fact 2 (f := .glo "is_joint") rfl)
  fd_is_joint := (c.t.d.def_ 2 (d := d_is_joint) rfl).choose
  F_is_joint := He5.fun_of (c.t.d.def_ 2 (d := d_is_joint) rfl).choose_spec
  g_unfold := He.glo_ok X G (c.t.d.fact 3 (f := .glo "unfold") rfl)
  fd_unfold := (c.t.d.def_ 3 (d := d_unfold) rfl).choose
  F_unfold := He5.fun_of (c.t.d.def_ 3 (d := d_unfold) rfl).choose_spec
  g_require_values := He.glo_ok X G (c.t.d.fact 4 (f := .glo "require_values") rfl)
  fd_require_values := (c.t.d.def_ 4 (d := d_require_values) rfl).choose
  F_require_values := He5.fun_of (c.t.d.def_ 4 (d := d_require_values) rfl).choose_spec
  g_is_placed := He.glo_ok X G (c.t.d.fact 5 (f := .glo "is_placed") rfl)
  fd_is_placed := (c.t.d.def_ 5 (d := d_is_placed) rfl).choose
  F_is_placed := He5.fun_of (c.t.d.def_ 5 (d := d_is_placed) rfl).choose_spec
  g_require_joints := He.glo_ok X G (c.t.d.fact 6 (f := .glo "require_joints") rfl)
  fd_require_joints := (c.t.d.def_ 6 (d := d_require_joints) rfl).choose
  F_require_joints := He5.fun_of (c.t.d.def_ 6 (d := d_require_joints) rfl).choose_spec
  g_changed_pairs := He.glo_ok X G (c.t.d.fact 7 (f := .glo "changed_pairs") rfl)
  fd_changed_pairs := (c.t.d.def_ 7 (d := d_changed_pairs) rfl).choose
  F_changed_pairs := He5.fun_of (c.t.d.def_ 7 (d := d_changed_pairs) rfl).choose_spec
  g_unfolded := He.glo_ok X G (c.t.d.fact 8 (f := .glo "unfolded") rfl)
  fd_unfolded := (c.t.d.def_ 8 (d := d_unfolded) rfl).choose
  F_unfolded := He5.fun_of (c.t.d.def_ 8 (d := d_unfolded) rfl).choose_spec
  g_require_between := He.glo_ok X G (c.t.d.fact 9 (f := .glo "require_between") rfl)
  fd_require_between := (c.t.d.def_ 9 (d := d_require_between) rfl).choose
  F_require_between := He5.fun_of (c.t.d.def_ 9 (d := d_require_between) rfl).choose_spec
  g_require_list := He.glo_ok X G (c.t.d.fact 10 (f := .glo "require_list") rfl)
  fd_require_list := (c.t.d.def_ 10 (d := d_require_list) rfl).choose
  F_require_list := He5.fun_of (c.t.d.def_ 10 (d := d_require_list) rfl).choose_spec
  g_sum_counts := He.glo_ok X G (c.t.d.fact 11 (f := .glo "sum_counts") rfl)
  fd_sum_counts := (c.t.d.def_ 11 (d := d_sum_counts) rfl).choose
  F_sum_counts := He5.fun_of (c.t.d.def_ 11 (d := d_sum_counts) rfl).choose_spec
  g_join_levels := He.glo_ok X G (c.t.d.fact 12 (f := .glo "join_levels") rfl)
  fd_join_levels := (c.t.d.def_ 12 (d := d_join_levels) rfl).choose
  F_join_levels := He5.fun_of (c.t.d.def_ 12 (d := d_join_levels) rfl).choose_spec
  g_coarse_count := He.glo_ok X G (c.t.d.fact 13 (f := .glo "coarse_count") rfl)
  fd_coarse_count := (c.t.d.def_ 13 (d := d_coarse_count) rfl).choose
  F_coarse_count := He5.fun_of (c.t.d.def_ 13 (d := d_coarse_count) rfl).choose_spec
  g_is_table := He.glo_ok X G (c.t.d.fact 14 (f := .glo "is_table") rfl)
  fd_is_table := (c.t.d.def_ 14 (d := d_is_table) rfl).choose
  F_is_table := He5.fun_of (c.t.d.def_ 14 (d := d_is_table) rfl).choose_spec
  g_is_tables := He.glo_ok X G (c.t.d.fact 15 (f := .glo "is_tables") rfl)
  fd_is_tables := (c.t.d.def_ 15 (d := d_is_tables) rfl).choose
  F_is_tables := He5.fun_of (c.t.d.def_ 15 (d := d_is_tables) rfl).choose_spec
  g_parameter := He.glo_ok X G (c.t.d.fact 16 (f := .glo "parameter") rfl)
  fd_parameter := (c.t.d.def_ 16 (d := d_parameter) rfl).choose
  F_parameter := He5.fun_of (c.t.d.def_ 16 (d := d_parameter) rfl).choose_spec
  g_table_behind := He.glo_ok X G (c.t.d.fact 17 (f := .glo "table_behind") rfl)
  fd_table_behind := (c.t.d.def_ 17 (d := d_table_behind) rfl).choose
  F_table_behind := He5.fun_of (c.t.d.def_ 17 (d := d_table_behind) rfl).choose_spec
  g_code_number := He.glo_ok X G (c.t.d.fact 18 (f := .glo "code_number") rfl)
  fd_code_number := (c.t.d.def_ 18 (d := d_code_number) rfl).choose
  F_code_number := He5.fun_of (c.t.d.def_ 18 (d := d_code_number) rfl).choose_spec
  g_number_of := He.glo_ok X G (c.t.d.fact 19 (f := .glo "number_of") rfl)
  fd_number_of := (c.t.d.def_ 19 (d := d_number_of) rfl).choose
  F_number_of := He5.fun_of (c.t.d.def_ 19 (d := d_number_of) rfl).choose_spec
  g_ones_at := He.glo_ok X G (c.t.d.fact 20 (f := .glo "ones_at") rfl)
  fd_ones_at := (c.t.d.def_ 20 (d := d_ones_at) rfl).choose
  F_ones_at := He5.fun_of (c.t.d.def_ 20 (d := d_ones_at) rfl).choose_spec
  g_read_code := He.glo_ok X G (c.t.d.fact 21 (f := .glo "read_code") rfl)
  fd_read_code := (c.t.d.def_ 21 (d := d_read_code) rfl).choose
  F_read_code := He5.fun_of (c.t.d.def_ 21 (d := d_read_code) rfl).choose_spec
  g_require_numbers := He.glo_ok X G (c.t.d.fact 22 (f := .glo "require_numbers") rfl)
  fd_require_numbers := (c.t.d.def_ 22 (d := d_require_numbers) rfl).choose
  F_require_numbers := He5.fun_of (c.t.d.def_ 22 (d := d_require_numbers) rfl).choose_spec
  g_require_coarse := He.glo_ok X G (c.t.d.fact 23 (f := .glo "require_coarse") rfl)
  fd_require_coarse := (c.t.d.def_ 23 (d := d_require_coarse) rfl).choose
  F_require_coarse := He5.fun_of (c.t.d.def_ 23 (d := d_require_coarse) rfl).choose_spec
  g_read_numbers := He.glo_ok X G (c.t.d.fact 24 (f := .glo "read_numbers") rfl)
  fd_read_numbers := (c.t.d.def_ 24 (d := d_read_numbers) rfl).choose
  F_read_numbers := He5.fun_of (c.t.d.def_ 24 (d := d_read_numbers) rfl).choose_spec
  g_mark_of := He.glo_ok X G (c.t.d.fact 25 (f := .glo "mark_of") rfl)
  fd_mark_of := (c.t.d.def_ 25 (d := d_mark_of) rfl).choose
  F_mark_of := He5.fun_of (c.t.d.def_ 25 (d := d_mark_of) rfl).choose_spec
  g_is_integer_streams := He.glo_ok X G (c.t.d.fact 26 (f := .glo "is_integer_streams") rfl)
  fd_is_integer_streams := (c.t.d.def_ 26 (d := d_is_integer_streams) rfl).choose
  F_is_integer_streams := He5.fun_of (c.t.d.def_ 26 (d := d_is_integer_streams) rfl).choose_spec
  g_is_between := He.glo_ok X G (c.t.d.fact 27 (f := .glo "is_between") rfl)
  fd_is_between := (c.t.d.def_ 27 (d := d_is_between) rfl).choose
  F_is_between := He5.fun_of (c.t.d.def_ 27 (d := d_is_between) rfl).choose_spec
  g_is_row := He.glo_ok X G (c.t.d.fact 28 (f := .glo "is_row") rfl)
  fd_is_row := (c.t.d.def_ 28 (d := d_is_row) rfl).choose
  F_is_row := He5.fun_of (c.t.d.def_ 28 (d := d_is_row) rfl).choose_spec
  g_is_frame := He.glo_ok X G (c.t.d.fact 29 (f := .glo "is_frame") rfl)
  fd_is_frame := (c.t.d.def_ 29 (d := d_is_frame) rfl).choose
  F_is_frame := He5.fun_of (c.t.d.def_ 29 (d := d_is_frame) rfl).choose_spec
  g_is_record := He.glo_ok X G (c.t.d.fact 30 (f := .glo "is_record") rfl)
  fd_is_record := (c.t.d.def_ 30 (d := d_is_record) rfl).choose
  F_is_record := He5.fun_of (c.t.d.def_ 30 (d := d_is_record) rfl).choose_spec
  g_frame_numbers := He.glo_ok X G (c.t.d.fact 31 (f := .glo "frame_numbers") rfl)
  fd_frame_numbers := (c.t.d.def_ 31 (d := d_frame_numbers) rfl).choose
  F_frame_numbers := He5.fun_of (c.t.d.def_ 31 (d := d_frame_numbers) rfl).choose_spec
  g_block_values := He.glo_ok X G (c.t.d.fact 32 (f := .glo "block_values") rfl)
  fd_block_values := (c.t.d.def_ 32 (d := d_block_values) rfl).choose
  F_block_values := He5.fun_of (c.t.d.def_ 32 (d := d_block_values) rfl).choose_spec
  g_unfold_blocks := He.glo_ok X G (c.t.d.fact 33 (f := .glo "unfold_blocks") rfl)
  fd_unfold_blocks := (c.t.d.def_ 33 (d := d_unfold_blocks) rfl).choose
  F_unfold_blocks := He5.fun_of (c.t.d.def_ 33 (d := d_unfold_blocks) rfl).choose_spec
  fd_Stream_init := (c.t.d.def_ 34 (d := d_Stream_init) rfl).choose
  F_Stream_init := He5.fun_of (c.t.d.def_ 34 (d := d_Stream_init) rfl).choose_spec
  fd_Stream_load := (c.t.d.def_ 35 (d := d_Stream_load) rfl).choose
  F_Stream_load := He5.fun_of (c.t.d.def_ 35 (d := d_Stream_load) rfl).choose_spec
  fd_Stream_records := (He5.DefA.funD er ec).choose
  F_Stream_records := He5.fun_of (He5.DefA.funD er ec).choose_spec
  fd_Stream_sound := (c.t.d.def_ 36 (d := d_Stream_sound) rfl).choose
  F_Stream_sound := He5.fun_of (c.t.d.def_ 36 (d := d_Stream_sound) rfl).choose_spec
  fd_Stream_require_frame := (c.t.d.def_ 37 (d := d_Stream_require_frame) rfl).choose
  F_Stream_require_frame := He5.fun_of (c.t.d.def_ 37 (d := d_Stream_require_frame) rfl).choose_spec
  fd_Stream_block := (c.t.d.def_ 38 (d := d_Stream_block) rfl).choose
  F_Stream_block := He5.fun_of (c.t.d.def_ 38 (d := d_Stream_block) rfl).choose_spec
  g_index_of := He.glo_ok X G (c.t.d.fact 34 (f := .glo "index_of") rfl)
  fd_index_of := (c.t.d.def_ 39 (d := d_index_of) rfl).choose
  F_index_of := He5.fun_of (c.t.d.def_ 39 (d := d_index_of) rfl).choose_spec
  g_records_of := He.glo_ok X G (c.t.d.fact 35 (f := .glo "records_of") rfl)
  fd_records_of := (c.t.d.def_ 40 (d := d_records_of) rfl).choose
  F_records_of := He5.fun_of (c.t.d.def_ 40 (d := d_records_of) rfl).choose_spec
  g_read_frame := He.glo_ok X G (c.t.d.fact 36 (f := .glo "read_frame") rfl)
  fd_read_frame := (c.t.d.def_ 41 (d := d_read_frame) rfl).choose
  F_read_frame := He5.fun_of (c.t.d.def_ 41 (d := d_read_frame) rfl).choose_spec
  g_is_state := He.glo_ok X G (c.t.d.fact 37 (f := .glo "is_state") rfl)
  fd_is_state := (c.t.d.def_ 42 (d := d_is_state) rfl).choose
  F_is_state := He5.fun_of (c.t.d.def_ 42 (d := d_is_state) rfl).choose_spec
  g_fetched_values := He.glo_ok X G (c.t.d.fact 38 (f := .glo "fetched_values") rfl)
  fd_fetched_values := (c.t.d.def_ 43 (d := d_fetched_values) rfl).choose
  F_fetched_values := He5.fun_of (c.t.d.def_ 43 (d := d_fetched_values) rfl).choose_spec
  g_require_lost := He.glo_ok X G (c.t.d.fact 39 (f := .glo "require_lost") rfl)
  fd_require_lost := (c.t.d.def_ 44 (d := d_require_lost) rfl).choose
  F_require_lost := He5.fun_of (c.t.d.def_ 44 (d := d_require_lost) rfl).choose_spec
  g_unread_frames := He.glo_ok X G (c.t.d.fact 40 (f := .glo "unread_frames") rfl)
  fd_unread_frames := (c.t.d.def_ 45 (d := d_unread_frames) rfl).choose
  F_unread_frames := He5.fun_of (c.t.d.def_ 45 (d := d_unread_frames) rfl).choose_spec
  g_touched := He.glo_ok X G (c.t.d.fact 41 (f := .glo "touched") rfl)
  fd_touched := (c.t.d.def_ 46 (d := d_touched) rfl).choose
  F_touched := He5.fun_of (c.t.d.def_ 46 (d := d_touched) rfl).choose_spec
  g_with_silence := He.glo_ok X G (c.t.d.fact 42 (f := .glo "with_silence") rfl)
  fd_with_silence := (c.t.d.def_ 47 (d := d_with_silence) rfl).choose
  F_with_silence := He5.fun_of (c.t.d.def_ 47 (d := d_with_silence) rfl).choose_spec
  g_concealed := He.glo_ok X G (c.t.d.fact 43 (f := .glo "concealed") rfl)
  fd_concealed := (c.t.d.def_ 48 (d := d_concealed) rfl).choose
  F_concealed := He5.fun_of (c.t.d.def_ 48 (d := d_concealed) rfl).choose_spec
  g_law_pool := He.glo_ok X G (c.t.d.fact 44 (f := .glo "_law_pool") rfl)
  fd_law_pool := (c.t.d.def_ 49 (d := d_law_pool) rfl).choose
  F_law_pool := He5.fun_of (c.t.d.def_ 49 (d := d_law_pool) rfl).choose_spec
  g_law_take := He.glo_ok X G (c.t.d.fact 45 (f := .glo "_law_take") rfl)
  fd_law_take := (c.t.d.def_ 50 (d := d_law_take) rfl).choose
  F_law_take := He5.fun_of (c.t.d.def_ 50 (d := d_law_take) rfl).choose_spec
  g_law_binary := He.glo_ok X G (c.t.d.fact 46 (f := .glo "_law_binary") rfl)
  fd_law_binary := (c.t.d.def_ 51 (d := d_law_binary) rfl).choose
  F_law_binary := He5.fun_of (c.t.d.def_ 51 (d := d_law_binary) rfl).choose_spec
  g_law_parameter := He.glo_ok X G (c.t.d.fact 47 (f := .glo "_law_parameter") rfl)
  fd_law_parameter := (c.t.d.def_ 52 (d := d_law_parameter) rfl).choose
  F_law_parameter := He5.fun_of (c.t.d.def_ 52 (d := d_law_parameter) rfl).choose_spec
  g_law_code := He.glo_ok X G (c.t.d.fact 48 (f := .glo "_law_code") rfl)
  fd_law_code := (c.t.d.def_ 53 (d := d_law_code) rfl).choose
  F_law_code := He5.fun_of (c.t.d.def_ 53 (d := d_law_code) rfl).choose_spec
  g_law_behind := He.glo_ok X G (c.t.d.fact 49 (f := .glo "_law_behind") rfl)
  fd_law_behind := (c.t.d.def_ 54 (d := d_law_behind) rfl).choose
  F_law_behind := He5.fun_of (c.t.d.def_ 54 (d := d_law_behind) rfl).choose_spec
  g_law_u := He.glo_ok X G (c.t.d.fact 50 (f := .glo "_law_u") rfl)
  fd_law_u := (c.t.d.def_ 55 (d := d_law_u) rfl).choose
  F_law_u := He5.fun_of (c.t.d.def_ 55 (d := d_law_u) rfl).choose_spec
  g_law_written := He.glo_ok X G (c.t.d.fact 51 (f := .glo "_law_written") rfl)
  fd_law_written := (c.t.d.def_ 56 (d := d_law_written) rfl).choose
  F_law_written := He5.fun_of (c.t.d.def_ 56 (d := d_law_written) rfl).choose_spec
  g_law_mark := He.glo_ok X G (c.t.d.fact 52 (f := .glo "_law_mark") rfl)
  fd_law_mark := (c.t.d.def_ 57 (d := d_law_mark) rfl).choose
  F_law_mark := He5.fun_of (c.t.d.def_ 57 (d := d_law_mark) rfl).choose_spec
  g_law_counts := He.glo_ok X G (c.t.d.fact 53 (f := .glo "_law_counts") rfl)
  fd_law_counts := (c.t.d.def_ 58 (d := d_law_counts) rfl).choose
  F_law_counts := He5.fun_of (c.t.d.def_ 58 (d := d_law_counts) rfl).choose_spec
  g_law_heads := He.glo_ok X G (c.t.d.fact 54 (f := .glo "_law_heads") rfl)
  fd_law_heads := (c.t.d.def_ 59 (d := d_law_heads) rfl).choose
  F_law_heads := He5.fun_of (c.t.d.def_ 59 (d := d_law_heads) rfl).choose_spec
  g_law_some := He.glo_ok X G (c.t.d.fact 55 (f := .glo "_law_some") rfl)
  fd_law_some := (c.t.d.def_ 60 (d := d_law_some) rfl).choose
  F_law_some := He5.fun_of (c.t.d.def_ 60 (d := d_law_some) rfl).choose_spec
  g_law_frame := He.glo_ok X G (c.t.d.fact 56 (f := .glo "_law_frame") rfl)
  fd_law_frame := (c.t.d.def_ 61 (d := d_law_frame) rfl).choose
  F_law_frame := He5.fun_of (c.t.d.def_ 61 (d := d_law_frame) rfl).choose_spec
  g_law_tables := He.glo_ok X G (c.t.d.fact 57 (f := .glo "_law_tables") rfl)
  fd_law_tables := (c.t.d.def_ 62 (d := d_law_tables) rfl).choose
  F_law_tables := He5.fun_of (c.t.d.def_ 62 (d := d_law_tables) rfl).choose_spec
  g_law_stream := He.glo_ok X G (c.t.d.fact 58 (f := .glo "_law_stream") rfl)
  fd_law_stream := (c.t.d.def_ 63 (d := d_law_stream) rfl).choose
  F_law_stream := He5.fun_of (c.t.d.def_ 63 (d := d_law_stream) rfl).choose_spec
  g_law_other := He.glo_ok X G (c.t.d.fact 59 (f := .glo "_law_other") rfl)
  fd_law_other := (c.t.d.def_ 64 (d := d_law_other) rfl).choose
  F_law_other := He5.fun_of (c.t.d.def_ 64 (d := d_law_other) rfl).choose_spec
  g_law := He.glo_ok X G (c.t.d.fact 60 (f := .glo "law") rfl)
  fd_law := (c.t.d.def_ 65 (d := d_law) rfl).choose
  F_law := He5.fun_of (c.t.d.def_ 65 (d := d_law) rfl).choose_spec
theorem law_at {w : World} {K : PySem.W.Frag} {h : Heap} {mg : Str → Option Value} {fa : Addr} (X : K.In h) (G : h.Ns mainGlobals mg) (hfa : mg ("law" : Str) = some (.ref fa)) (c : He.SaysX faL fnL [] [("law", none)] exB w h K) (er : He5.fnA K (dRec.at_ K) = dRec.val) :
    LamX.LawAtS PySem.Challenge.rw_framejoins_k40_whole_outside_of_the_touc w K CX0 10 63 "_law_script" mg fa h := by
  obtain ⟨m1, m2⟩ := Bool.and_eq_true_iff.mp (show (exA K && dRec.ok K) = true from c.more)
  have T := txt X G c (exF_of m1) er m2
  have e := hfa.symm.trans T.g_law
  have ea : fa = He.ga K "law" := by injection Option.some.inj e
  subst ea
  obtain ⟨oc, od, kV, doc, pm, an, cdv, ct, osl, efd, lk, hcd⟩ := T.F_law.ex
  obtain ⟨c0, ec0⟩ := He.codeIn_ref hcd
  have hc0 : T.fd_law.code = .ref c0 := by rw [efd]; exact ec0
  have ecT : (He.cT K ("law", none)).1 = c0 := He.codeOf_eq (p := ("law", none)) lk hc0
  have b := b_law T
  refine ⟨T.fd_law, [He.cT K ("law", none)], sp_law K (He.cT K ("law", none)).2, fun p hp => ?_, fun p hp => ?_, fun p hp => ?_, fun s u => ?_, fun H a ns hl _ hH hS => ⟨a, ns, rfl, hS, hl, hH _ (List.mem_singleton.mpr rfl), fun _ => rfl⟩, fun base Xb Gb hTB => ?_⟩
  · rw [List.mem_singleton.mp hp]; exact c.empty _ (List.mem_singleton.mpr rfl)
  · rw [List.mem_singleton.mp hp]; exact c.out _ (List.mem_singleton.mpr rfl)
  · rw [List.mem_singleton.mp hp]; exact PySem.W.codeHd_of_K X (c.hd _ (List.mem_singleton.mpr rfl))
  · rw [efd]; exact .of_eq rfl
  · have TB := hTB _ (List.mem_singleton.mpr rfl)
    exact all_ok T _ _ TB (by rw [ecT]; exact hc0)
end FJ
open PySem PySem.W PySem.Calls PyProof.Rows
theorem PySem.Challenge.cw_framejoins_k40_whole_outside_of_the_touc_holds : PySem.Challenge.rw_framejoins_k40_whole_outside_of_the_touc.Holds := by
  w_on; o_law
  refine HandSHeadRun.head_any (r := OpenLaw.row PySem.Challenge.rw_framejoins_k40_whole_outside_of_the_touc) (q := view (OpenLaw.row PySem.Challenge.rw_framejoins_k40_whole_outside_of_the_touc).prog [99]) (H := FJ.hkF) (ob := FJ.obFF) (M := 6000) (loose := FJ.names) (d := HandSHeadRun.topDef (OpenLaw.row PySem.Challenge.rw_framejoins_k40_whole_outside_of_the_touc).prog 99) (kwd := []) FJ.obFF_eq
    (by kernel_rfl) (fun s => by kernel_rfl) FJ.run (by kernel_rfl) (by kernel_rfl) (by kernel_rfl) (by rfl) (by first | assumption | decide +kernel) (by decide +kernel) ⟨rfl, rfl, rfl, rfl, rfl, by decide +kernel⟩ ?hw ?hc
  case hw => w_witness2
  case hc =>
    refine LamX.walk_ofTsE (l := PySem.Challenge.rw_framejoins_k40_whole_outside_of_the_touc) (n := 63) (k := 10) (x := "_law_script") (CX := fun _ => L2.CX0) rfl (by decide) (by kernel_rfl) ⟨rfl, by decide, by decide⟩ ?F (fun _ _ _ _ _ z => z)
    intro w mg fa h Y G hmg0
    obtain ⟨K, KX, c, er⟩ := Y
    have hmg : mg ("law" : PySem.Str) = some (.ref fa) := by
      have e : (HandSHeadRun.topDef (OpenLaw.row PySem.Challenge.rw_framejoins_k40_whole_outside_of_the_touc).prog 99).name = ("law" : PySem.Str) := by kernel_rfl
      rw [← e]
      exact hmg0
    exact ⟨K, KX, FJ.law_at KX G hmg c er⟩
